import PyProof.Rows.All
import Wide.All
import OpenK.AllK
import Wide.FinOn
import HandS.ForMost
import HandS.Deep
import KE.KDictKeyed
import HandS.TupMul
import HandS.Exc
import HandS.CallSlots
import HandS.TupAny
import HandS.Conv
import HandS.IsInst
import HandS.RaiseMore
import HandS.Style
import HandS.Rev
import HandS.Small
import HandS.WordsDict
import HandS.More
import KE.SortData
import KE.GoesMore
import KE.GoesEnum
import HandS.WordsExc
import HandS.Iter
import HandS.Walk
import HandS.Zip
import HandS.Ends
import PySem.Challenge.RW_markkeepers_k17_whole_classes_of_states
set_option Elab.async false
set_option linter.all false
set_option maxRecDepth 100000
/-! V0: values as trees (D), how the abstract heap bears them (Rep), frames. -/
namespace Vs
open PySem PySem.Spec L2
open PyProof.Rows hiding St

/-- what is fixed through a law: the written part, the classes by name -/
structure Ga where
  K : PySem.W.Frag
  cl : Str → Option Addr
  w : World

/-! ### dicts whose keys are tuples -/
mutual
/-- data as a key -/
def nkD : PyData → Option NestedKey
  | .none => some .none
  | .bool b => some (.num (if b = true then 1 else 0))
  | .int i => some (.num i)
  | .str x => some (.text x)
  | .tuple l => match nkDs l with
    | some ks => some (.tup ks)
    | none => none
  | _ => none
def nkDs : List PyData → Option (List NestedKey)
  | [] => some []
  | d :: l => match nkD d, nkDs l with
    | some k, some ks => some (k :: ks)
    | _, _ => none
end
/-- a tuple as a key -/
def tkey (d : PyData) : Option NestedKey := match d with
  | .tuple _ => match nkD d with
    | some k => if k.depth ≤ 8 then some k else none
    | none => none
  | _ => none
abbrev KAV := List (NestedKey × Addr × V)
def RelX (p : NestedKey × Addr × V) (q : NestedKey × Addr × Value) : Prop := p.1 = q.1 ∧ p.2.1 = q.2.1 ∧ RelV p.2.2 q.2.2
def dtP (w : World) (a : Addr) (kvs : KAV) (h : Heap) : Prop := kvs.length ≤ sizeLine ∧ (a == sysModules) = false ∧ ∃ xs : List (NestedKey × Addr × Value), Paired RelX kvs xs ∧
  ∃ o es ep, h.get? a = some o ∧ o.ExactDict ∧ o.data = .dict es ep ∧ es.toList = xs.map (fun x => (⟨x.1.hash w, .ref x.2.1, x.2.2⟩ : DictEntry)) ∧ (xs.map (·.1)).Nodup
def dtO (w : World) (a : Addr) (kvs : KAV) : HO := .ext (dtP w a kvs)

/-- a list that nobody may write -/
def SqF (K : PySem.W.Frag) (H : Hp) (a : Addr) (xs : List V) : Prop :=
  (∃ o, H a = some (.frz o (.lst xs))) ∨ SqL K (fun _ => none) a xs
theorem SqF.seq {K : PySem.W.Frag} {H : Hp} {a : Addr} {xs : List V} (h : SqF K H a xs) : SqL K H a xs := by
  rcases h with ⟨o, h⟩ | h
  · exact .inl (.inr ⟨o, h⟩)
  · rcases h with (h | ⟨_, h⟩) | h
    · cases h
    · cases h
    · exact .inr h

mutual
/-- shared data: nothing of it is ever written -/
inductive DpF (K : PySem.W.Frag) (H : Hp) : V → PyData → Prop
  | non : DpF K H .non .none
  | bl (b : Bool) : DpF K H (.bl b) (.bool b)
  | int (i : Int) : DpF K H (.int i) (.int i)
  | str (x : Str) : DpF K H (.str x) (.str x)
  | lst {a : Addr} {xs : List V} {ds : List PyData} : SqF K H a xs → DpFs K H xs ds → DpF K H (.ref a) (.list ds)
  | tup {a : Addr} {xs : List V} {ds : List PyData} : SqT K H a xs → DpFs K H xs ds → DpF K H (.ref a) (.tuple ds)
inductive DpFs (K : PySem.W.Frag) (H : Hp) : List V → List PyData → Prop
  | nil : DpFs K H [] []
  | cons {v : V} {vs : List V} {d : PyData} {ds : List PyData} : DpF K H v d → DpFs K H vs ds → DpFs K H (v :: vs) (d :: ds)
end

/-- a value: shared data, or a tree whose nodes may be written by who holds it -/
inductive D where
  | sh (d : PyData)
  | tp (ds : List D)
  | ls (ds : List D)
  | dk (ks : List Key) (ds : List D)
  | dd (ks : List PyData) (ds : List D)
  | ob (c : Str) (ns : List Str) (ds : List D)
  | fn (c : Str)

mutual
inductive Rep (G : Ga) (H : Hp) : V → D → List Addr → Prop
  | sh {v : V} {d : PyData} : DpF G.K H v d → Rep G H v (.sh d) []
  | tp {a : Addr} {xs : List V} {ds : List D} {O : List Addr} : SqT G.K H a xs → Reps G H xs ds O → Rep G H (.ref a) (.tp ds) O
  | ls {a : Addr} {xs : List V} {ds : List D} {O : List Addr} : H a = some (.lst xs) → Reps G H xs ds O → Rep G H (.ref a) (.ls ds) (a :: O)
  | dk {a : Addr} {kvs : List (Key × V)} {ds : List D} {O : List Addr} : H a = some (.dK kvs) → Reps G H (kvs.map (·.2)) ds O → Rep G H (.ref a) (.dk (kvs.map (·.1)) ds) (a :: O)
  | dd {a : Addr} {kvs : KAV} {ks : List PyData} {ds : List D} {O : List Addr} : H a = some (dtO G.w a kvs) → DpFs G.K H (kvs.map fun x => .ref x.2.1) ks → ks.map tkey = kvs.map (fun x => some x.1) → Reps G H (kvs.map (·.2.2)) ds O → Rep G H (.ref a) (.dd ks ds) (a :: O)
  | ob {a C dx : Addr} {c : Str} {fs : List (Str × V)} {ds : List D} {O : List Addr} : H a = some (.ins C dx fs) → G.cl c = some C → Reps G H (fs.map (·.2)) ds O → Rep G H (.ref a) (.ob c (fs.map (·.1)) ds) (a :: O)
  | fn {c : Str} {C : Addr} : G.cl c = some C → Rep G H (.ref C) (.fn c) []
inductive Reps (G : Ga) (H : Hp) : List V → List D → List Addr → Prop
  | nil : Reps G H [] [] []
  | cons {v : V} {vs : List V} {d : D} {ds : List D} {O O' : List Addr} : Rep G H v d O → Reps G H vs ds O' → Reps G H (v :: vs) (d :: ds) (O ++ O')
end

/-! ### frames -/
def MutA (H : Hp) (S : List Addr) : Prop := ∀ a ∈ S, Mut (H a)
/-- what stands outside S stays -/
def Frm (S : List Addr) (H H' : Hp) : Prop := ∀ a o, H a = some o → a ∉ S → H' a = some o
/-- S' comes from S, or is new -/
def Sub (S S' : List Addr) (H : Hp) : Prop := ∀ a ∈ S', a ∈ S ∨ H a = none
structure Go (S : List Addr) (H : Hp) (S' : List Addr) (H' : Hp) : Prop where
  frm : Frm S H H'
  sub : Sub S S' H
theorem Go.refl {S : List Addr} {H : Hp} : Go S H S H := ⟨fun _ _ h _ => h, fun _ h => .inl h⟩
theorem Go.trans {S S1 S2 : List Addr} {H H1 H2 : Hp} (a : Go S H S1 H1) (b : Go S1 H1 S2 H2) : Go S H S2 H2 where
  frm := fun x o h n => by
    refine b.frm x o (a.frm x o h n) fun q => ?_
    rcases a.sub x q with q | q
    · exact n q
    · rw [h] at q; cases q
  sub := fun x h => by
    rcases b.sub x h with q | q
    · exact a.sub x q
    · cases e : H x with
      | none => exact .inr rfl
      | some o =>
        refine .inl (Classical.byContradiction fun n => ?_)
        rw [a.frm x o e n] at q; cases q
/-- less is held behind -/
theorem Go.less {S S1 S2 : List Addr} {H H1 : Hp} (a : Go S H S1 H1) (h : ∀ x ∈ S2, x ∈ S1) : Go S H S2 H1 := ⟨a.frm, fun x q => a.sub x (h x q)⟩
/-- more might have been written ahead -/
theorem Go.more {S T S1 : List Addr} {H H1 : Hp} (a : Go S H S1 H1) (h : ∀ x ∈ S, x ∈ T) : Go T H S1 H1 :=
  ⟨fun x o e n => a.frm x o e fun q => n (h x q), fun x q => (a.sub x q).imp (h x) id⟩
/-- what is held besides is carried over -/
theorem Go.keep {S S1 T : List Addr} {H H1 : Hp} (a : Go S H S1 H1) (hT : ∀ x ∈ T, x ∉ S ∧ ∃ o, H x = some o) : ∀ x ∈ T, x ∉ S1 := fun x h q => by
  obtain ⟨n, o, e⟩ := hT x h
  rcases a.sub x q with z | z
  · exact n z
  · rw [e] at z; cases z
/-- a new object -/
theorem Go.new {S : List Addr} {H : Hp} {a : Addr} {o : HO} (h : H a = none) : Go S H (a :: S) (upd H a o) where
  frm := fun b u e _ => by rw [upd_ne (ne_of_none e h)]; exact e
  sub := fun b q => by
    rcases List.mem_cons.mp q with rfl | q
    · exact .inr h
    · exact .inl q
/-- a held object is written -/
theorem Go.put {S : List Addr} {H : Hp} {a : Addr} {o : HO} (h : a ∈ S) : Go S H S (upd H a o) where
  frm := fun b u e n => by rw [upd_ne (fun q : b = a => n (by rw [q]; exact h))]; exact e
  sub := fun b q => .inl q

section
variable {G : Ga} {H H' : Hp} {S : List Addr}
theorem SqT.fr {a : Addr} {xs : List V} (h : SqT G.K H a xs) (f : Frm S H H') (m : MutA H S) : SqT G.K H' a xs := by
  rcases h with (h | ⟨o, h⟩) | h
  · exact .inl (.inl (f _ _ h fun q => by have z := m _ q; rw [h] at z; exact z))
  · exact .inl (.inr ⟨o, f _ _ h fun q => by have z := m _ q; rw [h] at z; exact z⟩)
  · exact .inr h
theorem SqF.fr {a : Addr} {xs : List V} (h : SqF G.K H a xs) (f : Frm S H H') (m : MutA H S) : SqF G.K H' a xs := by
  rcases h with ⟨o, h⟩ | h
  · exact .inl ⟨o, f _ _ h fun q => by have z := m _ q; rw [h] at z; exact z⟩
  · exact .inr h
mutual
theorem DpF.fr : ∀ {v : V} {d : PyData}, DpF G.K H v d → Frm S H H' → MutA H S → DpF G.K H' v d
  | _, _, .non, _, _ => .non
  | _, _, .bl b, _, _ => .bl b
  | _, _, .int i, _, _ => .int i
  | _, _, .str x, _, _ => .str x
  | _, _, .lst h hs, f, m => .lst (SqF.fr h f m) (DpFs.fr hs f m)
  | _, _, .tup h hs, f, m => .tup (SqT.fr h f m) (DpFs.fr hs f m)
theorem DpFs.fr : ∀ {vs : List V} {ds : List PyData}, DpFs G.K H vs ds → Frm S H H' → MutA H S → DpFs G.K H' vs ds
  | _, _, .nil, _, _ => .nil
  | _, _, .cons h hs, f, m => .cons (DpF.fr h f m) (DpFs.fr hs f m)
end
mutual
theorem Rep.fr : ∀ {v : V} {d : D} {O : List Addr}, Rep G H v d O → Frm S H H' → MutA H S → (∀ a ∈ O, a ∉ S) → Rep G H' v d O
  | _, _, _, .sh h, f, m, _ => .sh (DpF.fr h f m)
  | _, _, _, .tp h hs, f, m, n => .tp (SqT.fr h f m) (Reps.fr hs f m n)
  | _, _, _, .ls h hs, f, m, n => .ls (f _ _ h (n _ List.mem_cons_self)) (Reps.fr hs f m fun a q => n a (List.mem_cons_of_mem _ q))
  | _, _, _, .dk h hs, f, m, n => .dk (f _ _ h (n _ List.mem_cons_self)) (Reps.fr hs f m fun a q => n a (List.mem_cons_of_mem _ q))
  | _, _, _, .dd h hk e hs, f, m, n => .dd (f _ _ h (n _ List.mem_cons_self)) (DpFs.fr hk f m) e (Reps.fr hs f m fun a q => n a (List.mem_cons_of_mem _ q))
  | _, _, _, .ob h c hs, f, m, n => .ob (f _ _ h (n _ List.mem_cons_self)) c (Reps.fr hs f m fun a q => n a (List.mem_cons_of_mem _ q))
  | _, _, _, .fn c, _, _, _ => .fn c
theorem Reps.fr : ∀ {vs : List V} {ds : List D} {O : List Addr}, Reps G H vs ds O → Frm S H H' → MutA H S → (∀ a ∈ O, a ∉ S) → Reps G H' vs ds O
  | _, _, _, .nil, _, _, _ => .nil
  | _, _, _, .cons h hs, f, m, n => .cons (Rep.fr h f m fun a q => n a (List.mem_append_left _ q)) (Reps.fr hs f m fun a q => n a (List.mem_append_right _ q))
end
mutual
theorem Rep.mut : ∀ {v : V} {d : D} {O : List Addr}, Rep G H v d O → MutA H O
  | _, _, _, .sh h => fun _ q => nomatch q
  | _, _, _, .tp h hs => Reps.mut hs
  | _, _, _, .ls h hs => fun a q => by
    rcases List.mem_cons.mp q with rfl | q
    · rw [h]; trivial
    · exact Reps.mut hs a q
  | _, _, _, .dk h hs => fun a q => by
    rcases List.mem_cons.mp q with rfl | q
    · rw [h]; trivial
    · exact Reps.mut hs a q
  | _, _, _, .dd h _ _ hs => fun a q => by
    rcases List.mem_cons.mp q with rfl | q
    · rw [h]; trivial
    · exact Reps.mut hs a q
  | _, _, _, .ob h _ hs => fun a q => by
    rcases List.mem_cons.mp q with rfl | q
    · rw [h]; trivial
    · exact Reps.mut hs a q
  | _, _, _, .fn _ => fun _ q => nomatch q
theorem Reps.mut : ∀ {vs : List V} {ds : List D} {O : List Addr}, Reps G H vs ds O → MutA H O
  | _, _, _, .nil => fun _ q => nomatch q
  | _, _, _, .cons h hs => fun a q => by
    rcases List.mem_append.mp q with q | q
    · exact Rep.mut h a q
    · exact Reps.mut hs a q
end
theorem MutA.some {S : List Addr} (m : MutA H S) : ∀ a ∈ S, ∃ o, H a = some o := fun a q => by
  have z := m a q
  cases e : H a with
  | none => rw [e] at z; exact z.elim
  | some o => exact ⟨o, rfl⟩
theorem MutA.app {S T : List Addr} (m : MutA H S) (n : MutA H T) : MutA H (S ++ T) := fun a q => (List.mem_append.mp q).elim (m a) (n a)
theorem MutA.sub {S T : List Addr} (m : MutA H S) (h : ∀ a ∈ T, a ∈ S) : MutA H T := fun a q => m a (h a q)
end

/-! ### the names of a def -/
abbrev Env := List (Option D)
inductive RepE (G : Ga) (H : Hp) : St → Env → List Addr → Prop
  | nil : RepE G H [] [] []
  | no {v : Option V} {σ : St} {ρ : Env} {O : List Addr} : RepE G H σ ρ O → RepE G H (v :: σ) (none :: ρ) O
  | va {v : V} {d : D} {σ : St} {ρ : Env} {O1 O : List Addr} : Rep G H v d O1 → RepE G H σ ρ O → RepE G H (some v :: σ) (some d :: ρ) (O1 ++ O)
section
variable {G : Ga} {H H' : Hp} {S : List Addr}
theorem RepE.len : ∀ {σ : St} {ρ : Env} {O : List Addr}, RepE G H σ ρ O → ρ.length = σ.length
  | _, _, _, .nil => rfl
  | _, _, _, .no h => congrArg (· + 1) (RepE.len h)
  | _, _, _, .va _ h => congrArg (· + 1) (RepE.len h)
theorem RepE.fr : ∀ {σ : St} {ρ : Env} {O : List Addr}, RepE G H σ ρ O → Frm S H H' → MutA H S → (∀ a ∈ O, a ∉ S) → RepE G H' σ ρ O
  | _, _, _, .nil, _, _, _ => .nil
  | _, _, _, .no h, f, m, n => .no (RepE.fr h f m n)
  | _, _, _, .va r h, f, m, n => .va (Rep.fr r f m fun a q => n a (List.mem_append_left _ q)) (RepE.fr h f m fun a q => n a (List.mem_append_right _ q))
theorem RepE.mut : ∀ {σ : St} {ρ : Env} {O : List Addr}, RepE G H σ ρ O → MutA H O
  | _, _, _, .nil => fun _ q => nomatch q
  | _, _, _, .no h => RepE.mut h
  | _, _, _, .va r h => MutA.app (Rep.mut r) (RepE.mut h)
/-- one name taken out -/
theorem RepE.out : ∀ {σ : St} {ρ : Env} {O : List Addr} {i : Nat} {d : D}, RepE G H σ ρ O → ρ[i]? = some (some d) →
    ∃ v O1 O2, σ[i]? = some (some v) ∧ Rep G H v d O1 ∧ O.Perm (O1 ++ O2) ∧ RepE G H σ (ρ.set i none) O2
  | _, _, _, i, d, .nil, e => by simp at e
  | _, _, _, 0, d, .no h, e => by simp at e
  | _, _, _, 0, d, .va r h, e => by
    simp at e; subst e
    exact ⟨_, _, _, rfl, r, .refl _, .no h⟩
  | _, _, _, i + 1, d, .no h, e => by
    obtain ⟨v, O1, O2, a, b, c, q⟩ := RepE.out (i := i) h (by simpa using e)
    exact ⟨v, O1, O2, by simpa using a, b, c, .no q⟩
  | _, _, _, i + 1, d, .va (O1 := P) r h, e => by
    obtain ⟨v, O1, O2, a, b, c, q⟩ := RepE.out (i := i) h (by simpa using e)
    refine ⟨v, O1, P ++ O2, by simpa using a, b, ?_, .va r q⟩
    exact (List.Perm.append_left P c).trans (by rw [← List.append_assoc, ← List.append_assoc]; exact List.Perm.append_right O2 List.perm_append_comm)
/-- a name forgotten -/
theorem RepE.drop : ∀ {σ : St} {ρ : Env} {O : List Addr} (i : Nat), RepE G H σ ρ O → ∃ O2, O2.Sublist O ∧ RepE G H σ (ρ.set i none) O2
  | _, _, _, i, .nil => ⟨[], .refl _, by simpa using .nil⟩
  | _, _, _, 0, .no h => ⟨_, .refl _, .no h⟩
  | _, _, _, 0, .va r h => ⟨_, List.sublist_append_right _ _, .no h⟩
  | _, _, _, i + 1, .no h => by
    obtain ⟨O2, a, q⟩ := RepE.drop i h
    exact ⟨O2, a, .no q⟩
  | _, _, _, i + 1, .va r h => by
    obtain ⟨O2, a, q⟩ := RepE.drop i h
    exact ⟨_, List.Sublist.append (.refl _) a, .va r q⟩
/-- a slot's value does not matter where the name is forgotten -/
theorem RepE.any : ∀ {σ : St} {ρ : Env} {O : List Addr} (i : Nat) (x : Option V), RepE G H σ ρ O → ρ[i]? = some none → RepE G H (σ.set i x) ρ O
  | _, _, _, i, x, .nil, e => by simp at e
  | _, _, _, 0, x, .no h, e => .no h
  | _, _, _, 0, x, .va r h, e => by simp at e
  | _, _, _, i + 1, x, .no h, e => .no (RepE.any i x h (by simpa using e))
  | _, _, _, i + 1, x, .va r h, e => .va r (RepE.any i x h (by simpa using e))
/-- a forgotten name is given a value -/
theorem RepE.put : ∀ {σ : St} {ρ : Env} {O O1 : List Addr} {i : Nat} {v : V} {d : D}, RepE G H σ ρ O → ρ[i]? = some none → σ[i]? = some (some v) → Rep G H v d O1 →
    ∃ O2, O2.Perm (O1 ++ O) ∧ RepE G H σ (ρ.set i (some d)) O2
  | _, _, _, _, i, v, d, .nil, e, _, _ => by simp at e
  | _, _, _, _, 0, v, d, .no h, e, es, r => by
    simp at es; subst es
    exact ⟨_, .refl _, .va r h⟩
  | _, _, _, _, 0, v, d, .va r h, e, _, _ => by simp at e
  | _, _, _, _, i + 1, v, d, .no h, e, es, r => by
    obtain ⟨O2, a, q⟩ := RepE.put (i := i) h (by simpa using e) (by simpa using es) r
    exact ⟨O2, a, .no q⟩
  | _, _, _, O1, i + 1, v, d, .va (O1 := P) (O := O) r h, e, es, r1 => by
    obtain ⟨O2, a, q⟩ := RepE.put (i := i) h (by simpa using e) (by simpa using es) r1
    refine ⟨_, ?_, .va r q⟩
    exact (List.Perm.append_left P a).trans (by rw [← List.append_assoc, ← List.append_assoc]; exact List.Perm.append_right O List.perm_append_comm)
end
end Vs
set_option maxHeartbeats 4000000
/-! VT: tuple * int, any tuple, any small int. -/
namespace Vs
open PySem PySem.Spec L2
open PyProof.Rows hiding St
open PySem.AutoSeq1 (wpAny_loadPart')
theorem tup_mul_same (l : Addr) (items : Array Value) (n : Nat) (dd : Option Addr) (sl : Array (Option Value)) (x : Int) (u : Tok) (c0 : (decide (x < -(2 ^ 63)) || decide (x ≥ 2 ^ 63)) = false) (c1 : (items.isEmpty || x == 1) = true) :
    Meets (Builtin.«tuple.__mul__» ⟨[.ref l, .int x u], []⟩) (fun _ R s => s.heap.get? l = some { cls := .type "tuple", dict := dd, data := .seq items n, slots := sl } ∧ R (.ok (.ret (.ref l))) s) :=
  .of_wp fun prog w A R s h => by
    obtain ⟨hp, g, d, tk, os⟩ := s
    obtain ⟨hl, h⟩ := h
    have f1 := AutoSeq1.idx_int
    have hT : Shared.TypeIs ⟨hp, g, d, tk, os⟩ (.ref l) "tuple" := ⟨_, hl, rfl⟩
    wp_walk using wpAny_loadPart' hl
    refine wpAny_ite_false (decide_eq_false (by rw [c0]; exact Bool.false_ne_true)) ?_
    wp_walk using wpAny_loadPart' hl
    exact ⟨_, rfl, h⟩
theorem tup_mul_none (l : Addr) (items : Array Value) (n : Nat) (dd : Option Addr) (sl : Array (Option Value)) (x : Int) (u : Tok) (c0 : (decide (x < -(2 ^ 63)) || decide (x ≥ 2 ^ 63)) = false) (c1 : (items.isEmpty || x == 1) = false) (c2 : (decide (x ≤ 0) || items.isEmpty) = true) :
    Meets (Builtin.«tuple.__mul__» ⟨[.ref l, .int x u], []⟩) (fun _ R s => s.heap.get? l = some { cls := .type "tuple", dict := dd, data := .seq items n, slots := sl } ∧ R (.ok (.ret (Value.ref s.heap.objs.size))) { s with heap := s.heap.push { cls := Value.type "tuple", data := Data.seq #[] }, toks := s.toks }) :=
  .of_wp fun prog w A R s h => by
    obtain ⟨hp, g, d, tk, os⟩ := s
    obtain ⟨hl, h⟩ := h
    have f1 := AutoSeq1.idx_int
    wp_walk using wpAny_loadPart' hl
    repeat (first
      | (refine wpAny_ite_false (decide_eq_false (by rw [c0]; exact Bool.false_ne_true)) ?_; wp_walk using wpAny_loadPart' hl)
      | (refine wpAny_ite_false (decide_eq_false (by rw [c1]; exact Bool.false_ne_true)) ?_; wp_walk using wpAny_loadPart' hl)
      | (refine wpAny_ite_true (decide_eq_true c2) ?_; wp_walk using wpAny_loadPart' hl))
    exact ⟨_, rfl, h⟩
def rRepA (K : PySem.W.Frag) : R2 := fun x y H Q => ∃ l k xs, x = .ref l ∧ y = .int k ∧ SqT K H l xs ∧ -1000 ≤ k ∧ k ≤ 1000 ∧ xs.length ≤ 1000 ∧
  (xs = [] ∨ k = 1 → Q (.ref l) H) ∧ (¬ (xs = [] ∨ k = 1) → ∀ p, H p = none → Q (.ref p) (upd H p (.tup (List.replicate k.toNat xs).flatten)))
theorem op_repA {X : Cx} : OpR X (binaryOp .Mult) (rRepA X.K) := by
  intro pins s σ H x y v u Q I rx ry h
  obtain ⟨l, k, xs, rfl, rfl, hT, h1, h2, hz, q0, q1⟩ := h
  by_cases hs : xs = [] ∨ k = 1
  · have q := q0 hs
    cases rx
    obtain ⟨t, rfl⟩ := ry
    obtain ⟨its, r, ⟨⟨cls, dd, data, sl⟩, ho, hc, n, hd⟩, hs'⟩ := I.tuple hT
    simp only at hc hd
    subst hc hd
    have hle : its.length = xs.length := r.length.symm
    have c0 : (decide (k < -(2 ^ 63)) || decide (k ≥ 2 ^ 63)) = false := by
      rw [decide_eq_false (by omega), decide_eq_false (by omega)] <;> rfl
    have c1 : (its.toArray.isEmpty || k == 1) = true := by
      rcases hs with rfl | rfl
      · have : its = [] := List.eq_nil_of_length_eq_zero hle
        subst this
        rfl
      · simp
    refine wpAny_binaryOp_repeat_ref (T := "tuple") (U := "int") (by decide) ⟨_, ho, rfl⟩ (fun s' => typeIs_int s' k t) noFill_tuple_mul F.fills_int_mul F.slot_int_rmul repeat_tuple F.slot_int_index.lookup
      (call_meets F.slot_int_rmul (typeIs_int s k t) F.entry_int_rmul (F.args_int_rmul_2 _ _) (int_rmul_tuple k t l its.toArray n dd sl)
        ⟨ho, rfl, ⟨_, ho, rfl⟩, call_meets F.slot_tuple_mul ⟨_, ho, rfl⟩ F.entry_tuple_mul (F.args_tuple_mul_2 _ _) (tup_mul_same l its.toArray n dd sl k t c0 c1) ⟨ho, ?_⟩⟩)
    exact ⟨.ref l, H, I, rfl, q⟩
  · by_cases h3 : 2 ≤ k
    · exact op_repT pins s σ H _ _ v u Q I rx ry ⟨l, k, xs, rfl, rfl, hT, fun e => hs (.inl e), h3, h2, hz, q1 hs⟩
    · have hk : k ≤ 0 := by
        have : k ≠ 1 := fun e => hs (.inr e)
        omega
      have q := q1 hs
      cases rx
      obtain ⟨t, rfl⟩ := ry
      obtain ⟨its, r, ⟨⟨cls, dd, data, sl⟩, ho, hc, n, hd⟩, hs'⟩ := I.tuple hT
      simp only at hc hd
      subst hc hd
      have hle : its.length = xs.length := r.length.symm
      have c0 : (decide (k < -(2 ^ 63)) || decide (k ≥ 2 ^ 63)) = false := by
        rw [decide_eq_false (by omega), decide_eq_false (by omega)] <;> rfl
      have c1 : (its.toArray.isEmpty || k == 1) = false := by
        have hi : its.toArray.isEmpty = false := by
          cases its with
          | nil => exact absurd (List.eq_nil_of_length_eq_zero hle.symm) fun e => hs (.inl e)
          | cons a b => rfl
        rw [hi, Bool.false_or]
        exact beq_eq_false_iff_ne.mpr (by omega)
      have c2 : (decide (k ≤ 0) || its.toArray.isEmpty) = true := by rw [decide_eq_true hk]; rfl
      have e0 : (List.replicate k.toNat xs).flatten = [] := by
        have : k.toNat = 0 := by omega
        rw [this]; rfl
      rw [e0] at q
      refine wpAny_binaryOp_repeat_ref (T := "tuple") (U := "int") (by decide) ⟨_, ho, rfl⟩ (fun s' => typeIs_int s' k t) noFill_tuple_mul F.fills_int_mul F.slot_int_rmul repeat_tuple F.slot_int_index.lookup
        (call_meets F.slot_int_rmul (typeIs_int s k t) F.entry_int_rmul (F.args_int_rmul_2 _ _) (int_rmul_tuple k t l its.toArray n dd sl)
          ⟨ho, rfl, ⟨_, ho, rfl⟩, call_meets F.slot_tuple_mul ⟨_, ho, rfl⟩ F.entry_tuple_mul (F.args_tuple_mul_2 _ _) (tup_mul_none l its.toArray n dd sl k t c0 c1 c2) ⟨ho, ?_⟩⟩)
      refine ⟨.ref s.heap.objs.size, _, I.laid (t' := s.toks) (o := .tup []) (fun b ob q => Heap.get?_push_of_some _ q) (Nat.le_refl _) ?_, rfl, q _ (I.hok.fresh (Nat.le_refl _))⟩
      exact ⟨Nat.zero_le _, [], .nil, IsTup.new _ _⟩
end Vs
/-! V1: what an evaluation gives, as HandS readings. -/
namespace Vs
open PySem PySem.Spec L2
open PyProof.Rows hiding St

/-- an exception of one of the program's own classes, by its fields -/
structure Exc where
  cls : Str
  fs : List (Str × PyData)
inductive Res (α : Type) where
  | ok (a : α)
  | ex (x : Exc) (ρ : Env)
  | no
def Res.bind {α β : Type} : Res α → (α → Res β) → Res β
  | .ok a, k => k a
  | .ex x ρ, _ => .ex x ρ
  | .no, _ => .no
abbrev EF := Env → Res (D × Env)
def XR (G : Ga) (H : Hp) (cls : Value) (d : Option Addr) (x : Exc) : Prop := ∃ C, G.cl x.cls = some C ∧ cls = .ref C ∧
  ∀ f v, x.fs.lookup f = some v → ∃ dd fs u, d = some dd ∧ H dd = some (.xd fs) ∧ fs.lookup f = some u ∧ DpF G.K H u v
/-- behind an expression that gives d -/
def EvR (G : Ga) (O : List Addr) (σ : L2.St) (H : Hp) (ρ : Env) (d : D) (v : V) (H' : Hp) : Prop :=
  ∃ O' T, RepE G H' σ ρ O' ∧ Rep G H' v d T ∧ (T ++ O').Nodup ∧ Go O H (T ++ O') H'
/-- behind an exception -/
def ExR (G : Ga) (O : List Addr) (H : Hp) (ρ : Env) (x : Exc) (cls : Value) (dd : Option Addr) (σ : L2.St) (H' : Hp) : Prop :=
  ∃ O', RepE G H' σ ρ O' ∧ O'.Nodup ∧ Go O H O' H' ∧ XR G H' cls dd x
def tE (G : Ga) (W : WX) (f : EF) : TE := fun σ H Q => ∃ ρ O, RepE G H σ ρ O ∧ O.Nodup ∧
  match f ρ with
  | .ok (d, ρ') => ∀ v H', EvR G O σ H ρ' d v H' → Q v H'
  | .ex x ρ' => ∀ cls dd H', ExR G O H ρ' x cls dd σ H' → W cls dd σ H'
  | .no => False

end Vs
/-! V2: built-in operations on values: what they give, and the rules. -/
namespace Vs
open PySem PySem.Spec L2
open PyProof.Rows hiding St

/-- all shared -/
def unsh : List D → Option (List PyData)
  | [] => some []
  | .sh d :: r => match unsh r with
    | some l => some (d :: l)
    | none => none
  | _ :: _ => none
@[simp] theorem unsh_map (l : List PyData) : unsh (l.map .sh) = some l := by
  induction l with
  | nil => rfl
  | cons d l ih => simp [unsh, ih]
@[simp] theorem unsh_nil : unsh [] = some [] := rfl
inductive SK where
  | lst
  | tup
  deriving DecidableEq
/-- a list or tuple of shared things -/
def D.seq : D → Option (SK × List PyData)
  | .sh (.list l) => some (.lst, l)
  | .sh (.tuple l) => some (.tup, l)
  | .ls ds => match unsh ds with
    | some l => some (.lst, l)
    | none => none
  | _ => none
mutual
/-- as plain data -/
def D.py : D → Option PyData
  | .sh d => some d
  | .ls ds => match D.pys ds with
    | some l => some (.list l)
    | none => none
  | .tp ds => match D.pys ds with
    | some l => some (.tuple l)
    | none => none
  | _ => none
def D.pys : List D → Option (List PyData)
  | [] => some []
  | d :: ds => match D.py d, D.pys ds with
    | some x, some l => some (x :: l)
    | _, _ => none
end
@[simp] theorem pys_map (l : List PyData) : D.pys (l.map .sh) = some l := by
  induction l with
  | nil => rfl
  | cons d l ih => simp [D.pys, D.py, ih]

/-- read: the footprints do not matter -/
inductive RVs (G : Ga) (H : Hp) : List V → List D → Prop
  | nil : RVs G H [] []
  | cons {v : V} {vs : List V} {d : D} {ds : List D} {T : List Addr} : Rep G H v d T → RVs G H vs ds → RVs G H (v :: vs) (d :: ds)
def SqK (K : PySem.W.Frag) (H : Hp) (a : Addr) (xs : List V) : SK → Prop
  | .lst => SqL K H a xs
  | .tup => SqT K H a xs
section
variable {G : Ga} {H H' : Hp}
theorem Reps.of_unsh : ∀ {vs : List V} {ds : List D} {T : List Addr} {l : List PyData}, Reps G H vs ds T → unsh ds = some l → DpFs G.K H vs l ∧ T = []
  | _, _, _, _, .nil, e => by
    unfold unsh at e; cases e; exact ⟨.nil, rfl⟩
  | _, _, _, l, .cons (d := d) (ds := ds) h hs, e => by
    cases h with
    | sh h =>
      unfold unsh at e
      cases e2 : unsh ds with
      | none => rw [e2] at e; cases e
      | some m =>
        rw [e2] at e; cases e
        obtain ⟨a, b⟩ := Reps.of_unsh hs e2
        exact ⟨.cons h a, by rw [b]; rfl⟩
    | tp _ _ => unfold unsh at e; cases e
    | ls _ _ => unfold unsh at e; cases e
    | dk _ _ => unfold unsh at e; cases e
    | dd _ _ _ _ => unfold unsh at e; cases e
    | ob _ _ _ => unfold unsh at e; cases e
    | fn _ => unfold unsh at e; cases e
theorem Reps.to_sh : ∀ {vs : List V} {l : List PyData}, DpFs G.K H vs l → Reps G H vs (l.map .sh) []
  | _, _, .nil => .nil
  | _, _, .cons h hs => .cons (O := []) (O' := []) (.sh h) (Reps.to_sh hs)
theorem Rep.seq {v : V} {d : D} {T : List Addr} {k : SK} {l : List PyData} (h : Rep G H v d T) (e : d.seq = some (k, l)) : ∃ a xs, v = .ref a ∧ SqK G.K H a xs k ∧ DpFs G.K H xs l := by
  cases h with
  | sh h =>
    cases h with
    | lst q hs => unfold D.seq at e; cases e; exact ⟨_, _, rfl, q.seq, hs⟩
    | tup q hs => unfold D.seq at e; cases e; exact ⟨_, _, rfl, q, hs⟩
    | non => unfold D.seq at e; cases e
    | bl _ => unfold D.seq at e; cases e
    | int _ => unfold D.seq at e; cases e
    | str _ => unfold D.seq at e; cases e
  | @ls a xs ds O q hs =>
    cases e2 : unsh ds with
    | none => simp only [D.seq, e2] at e; cases e
    | some m =>
      simp only [D.seq, e2] at e; cases e
      exact ⟨_, _, rfl, SqL.of q, (hs.of_unsh e2).1⟩
  | tp _ _ => unfold D.seq at e; cases e
  | dk _ _ => unfold D.seq at e; cases e
  | dd _ _ _ _ => unfold D.seq at e; cases e
  | ob _ _ _ => unfold D.seq at e; cases e
  | fn _ => unfold D.seq at e; cases e
mutual
theorem DpF.dp : ∀ {v : V} {d : PyData}, DpF G.K H v d → Dp G.K H v d
  | _, _, .non => .non
  | _, _, .bl b => .bl b
  | _, _, .int i => .int i
  | _, _, .str x => .str x
  | _, _, .lst h hs => .lst h.seq (DpFs.dp hs)
  | _, _, .tup h hs => .tup h (DpFs.dp hs)
theorem DpFs.dp : ∀ {vs : List V} {ds : List PyData}, DpFs G.K H vs ds → DpAll G.K H vs ds
  | _, _, .nil => .nil
  | _, _, .cons h hs => .cons (DpF.dp h) (DpFs.dp hs)
end
mutual
theorem Rep.dp : ∀ {v : V} {d : D} {T : List Addr} {p : PyData}, Rep G H v d T → d.py = some p → Dp G.K H v p
  | _, _, _, _, .sh h, e => by unfold D.py at e; cases e; exact h.dp
  | _, _, _, _, .tp (ds := ds) q hs, e => by
    unfold D.py at e
    cases e2 : D.pys ds with
    | none => rw [e2] at e; cases e
    | some l => rw [e2] at e; cases e; exact .tup q (Reps.dp hs e2)
  | _, _, _, _, .ls (ds := ds) q hs, e => by
    unfold D.py at e
    cases e2 : D.pys ds with
    | none => rw [e2] at e; cases e
    | some l => rw [e2] at e; cases e; exact .lst (SqL.of q) (Reps.dp hs e2)
  | _, _, _, _, .dk _ _, e => by unfold D.py at e; cases e
  | _, _, _, _, .dd _ _ _ _, e => by unfold D.py at e; cases e
  | _, _, _, _, .ob _ _ _, e => by unfold D.py at e; cases e
  | _, _, _, _, .fn _, e => by unfold D.py at e; cases e
theorem Reps.dp : ∀ {vs : List V} {ds : List D} {T : List Addr} {l : List PyData}, Reps G H vs ds T → D.pys ds = some l → DpAll G.K H vs l
  | _, _, _, _, .nil, e => by unfold D.pys at e; cases e; exact .nil
  | _, _, _, _, .cons (d := d) (ds := ds) h hs, e => by
    unfold D.pys at e
    cases e1 : D.py d with
    | none => rw [e1] at e; cases e
    | some x =>
      cases e2 : D.pys ds with
      | none => rw [e1, e2] at e; cases e
      | some m => rw [e1, e2] at e; cases e; exact .cons (Rep.dp h e1) (Reps.dp hs e2)
end
theorem RVs.one {v : V} {ds : List D} (h : RVs G H [v] ds) : ∃ d T, ds = [d] ∧ Rep G H v d T := by
  cases h with | cons a b => cases b; exact ⟨_, _, rfl, a⟩
theorem RVs.two {v u : V} {ds : List D} (h : RVs G H [v, u] ds) : ∃ d e T T', ds = [d, e] ∧ Rep G H v d T ∧ Rep G H u e T' := by
  cases h with | cons a b => cases b with | cons c f => cases f; exact ⟨_, _, _, _, rfl, a, c⟩
theorem RVs.of1 {vs : List V} {d : D} (h : RVs G H vs [d]) : ∃ v T, vs = [v] ∧ Rep G H v d T := by
  cases h with | cons a b => cases b; exact ⟨_, _, rfl, a⟩
theorem RVs.of2 {vs : List V} {d e : D} (h : RVs G H vs [d, e]) : ∃ v u T T', vs = [v, u] ∧ Rep G H v d T ∧ Rep G H u e T' := by
  cases h with | cons a b => cases b with | cons c f => cases f; exact ⟨_, _, _, _, rfl, a, c⟩
theorem Rep.int_of {v : V} {i : Int} {T : List Addr} (h : Rep G H v (.sh (.int i)) T) : v = .int i := by
  cases h with | sh h => cases h; rfl
theorem Rep.bl_of {v : V} {b : Bool} {T : List Addr} (h : Rep G H v (.sh (.bool b)) T) : v = .bl b := by
  cases h with | sh h => cases h; rfl
theorem Rep.str_of {v : V} {x : Str} {T : List Addr} (h : Rep G H v (.sh (.str x)) T) : v = .str x := by
  cases h with | sh h => cases h; rfl
theorem Rep.non_of {v : V} {T : List Addr} (h : Rep G H v (.sh .none) T) : v = .non := by
  cases h with | sh h => cases h; rfl
theorem DpFs.len : ∀ {vs : List V} {l : List PyData}, DpFs G.K H vs l → vs.length = l.length
  | _, _, .nil => rfl
  | _, _, .cons _ hs => congrArg (· + 1) (DpFs.len hs)
theorem DpFs.app : ∀ {vs us : List V} {l m : List PyData}, DpFs G.K H vs l → DpFs G.K H us m → DpFs G.K H (vs ++ us) (l ++ m)
  | _, _, _, _, .nil, q => q
  | _, _, _, _, .cons h hs, q => .cons h (DpFs.app hs q)
theorem DpFs.get : ∀ {vs : List V} {l : List PyData} {i : Nat} {d : PyData}, DpFs G.K H vs l → l[i]? = some d → ∃ v, vs[i]? = some v ∧ DpF G.K H v d
  | _, _, i, d, .nil, e => by simp at e
  | _, _, 0, d, .cons h hs, e => by simp at e; subst e; exact ⟨_, rfl, h⟩
  | _, _, i + 1, d, .cons h hs, e => by
    obtain ⟨v, a, b⟩ := DpFs.get (i := i) hs (by simpa using e)
    exact ⟨v, by simpa using a, b⟩
theorem DpFs.take : ∀ {vs : List V} {l : List PyData} (n : Nat), DpFs G.K H vs l → DpFs G.K H (vs.take n) (l.take n)
  | _, _, 0, _ => .nil
  | _, _, n + 1, .nil => .nil
  | _, _, n + 1, .cons h hs => .cons h (DpFs.take n hs)
theorem DpFs.drop : ∀ {vs : List V} {l : List PyData} (n : Nat), DpFs G.K H vs l → DpFs G.K H (vs.drop n) (l.drop n)
  | _, _, 0, h => h
  | _, _, n + 1, .nil => .nil
  | _, _, n + 1, .cons h hs => DpFs.drop n hs
theorem DpFs.rep {vs : List V} {l : List PyData} (h : DpFs G.K H vs l) : ∀ k : Nat, DpFs G.K H (List.replicate k vs).flatten (List.replicate k l).flatten
  | 0 => .nil
  | k + 1 => by
    simp only [List.replicate_succ, List.flatten_cons]
    exact DpFs.app h (DpFs.rep h k)
theorem DpFs.rev : ∀ {vs : List V} {l : List PyData}, DpFs G.K H vs l → DpFs G.K H vs.reverse l.reverse
  | _, _, .nil => .nil
  | _, _, .cons h hs => by
    simp only [List.reverse_cons]
    exact DpFs.app (DpFs.rev hs) (.cons h .nil)
theorem DpFs.nil_iff {vs : List V} {l : List PyData} (h : DpFs G.K H vs l) : vs = [] ↔ l = [] := by
  cases h with
  | nil => simp
  | cons _ _ => simp

/-- a new value: nothing that stood is touched -/
def NewR (G : Ga) (H : Hp) (d : D) (Q : VK) : Prop := ∀ v H' T, Rep G H' v d T → T.Nodup → (∀ a ∈ T, H a = none) → Frm [] H H' → Q v H'
theorem NewR.sh {p : PyData} {Q : VK} (h : NewR G H (.sh p) Q) {v : V} (r : DpF G.K H v p) : Q v H := h v H [] (.sh r) .nil (fun _ q => nomatch q) fun _ _ e _ => e
theorem frm_new {a : Addr} {o : HO} (h : H a = none) : Frm [] H (upd H a o) := fun b u e _ => by rw [upd_ne (ne_of_none e h)]; exact e
theorem mut_nil : MutA H [] := fun _ q => nomatch q
/-- a new tuple of shared things -/
theorem NewR.tup {l : List PyData} {Q : VK} (h : NewR G H (.sh (.tuple l)) Q) {xs : List V} (r : DpFs G.K H xs l) {p : Addr} (hp : H p = none) : Q (.ref p) (upd H p (.tup xs)) :=
  h (.ref p) _ [] (.sh (.tup (SqT.of upd_same) (DpFs.fr (G := G) (S := []) r (frm_new hp) mut_nil))) .nil (fun _ q => nomatch q) (frm_new hp)
/-- a new list of shared things -/
theorem NewR.lst {l : List PyData} {Q : VK} (h : NewR G H (.ls (l.map .sh)) Q) {xs : List V} (r : DpFs G.K H xs l) {p : Addr} (hp : H p = none) : Q (.ref p) (upd H p (.lst xs)) :=
  h (.ref p) _ [p] (.ls upd_same (Reps.to_sh (DpFs.fr (G := G) (S := []) r (frm_new hp) mut_nil))) (by simp) (fun a q => by simp at q; subst q; exact hp) (frm_new hp)
end
end Vs
/-! VK: dicts whose keys are tuples: readings and rules. -/
namespace Vs
open PySem PySem.Spec L2
open PyProof.Rows hiding St
section
variable {X : Cx} {pins : List (Addr × Obj)} {σ : L2.St} {H : Hp} {s : Shared}
mutual
theorem nis (I : Inv X pins σ H s) : ∀ {v : V} {d : PyData} {u : Value} {k : NestedKey}, DpF X.K H v d → nkD d = some k → RelV v u → NestedIs s.heap k u
  | _, _, _, _, .non, e, r => by unfold nkD at e; cases e; cases r; exact .none
  | _, _, _, _, .bl b, e, r => by unfold nkD at e; cases e; cases r; exact .bool rfl
  | _, _, _, _, .int i, e, r => by unfold nkD at e; cases e; obtain ⟨t, rfl⟩ := r; exact .int _ _
  | _, _, _, _, .str x, e, r => by unfold nkD at e; cases e; obtain ⟨t, rfl⟩ := r; exact .text _ _
  | _, _, _, _, .lst _ _, e, r => by unfold nkD at e; cases e
  | _, _, _, _, .tup (ds := ds) h hs, e, r => by
    unfold nkD at e
    cases e2 : nkDs ds with
    | none => rw [e2] at e; cases e
    | some ks =>
      rw [e2] at e; cases e
      cases r
      obtain ⟨its, rv, ⟨o, ho, hc, n, hd⟩, _⟩ := I.tuple h
      exact .tup ho hc hd (by simpa using niss I hs e2 rv)
theorem niss (I : Inv X pins σ H s) : ∀ {vs : List V} {ds : List PyData} {us : List Value} {ks : List NestedKey}, DpFs X.K H vs ds → nkDs ds = some ks → Vals vs us → NestedAll s.heap ks us
  | _, _, _, _, .nil, e, r => by unfold nkDs at e; cases e; cases r; exact .nil
  | _, _, _, _, .cons (d := d) (ds := ds) h hs, e, r => by
    unfold nkDs at e
    cases e1 : nkD d with
    | none => rw [e1] at e; cases e
    | some k =>
      cases e2 : nkDs ds with
      | none => rw [e1, e2] at e; cases e
      | some ks =>
        rw [e1, e2] at e; cases e
        cases r with
        | cons r rs => exact .cons (nis I h e1 r) (niss I hs e2 rs)
end
theorem tkey_is (I : Inv X pins σ H s) {b : Addr} {d : PyData} {k : NestedKey} (h : DpF X.K H (.ref b) d) (e : tkey d = some k) : (nestedKind X.prog X.w).is s.heap k b := by
  unfold tkey at e
  split at e
  · split at e
    · rename_i k' ek
      split at e
      · cases e
        exact ⟨nis I h ek rfl, by assumption⟩
      · cases e
    · cases e
  · cases e
/-- what stands in a dict of tuples -/
def ddV : KAV → NestedKey → Option V
  | [], _ => none
  | x :: r, k => if x.1 = k then some x.2.2 else ddV r k
/-- at a stands a dict of tuples (the empty one too) -/
inductive DDat (X : Cx) (H : Hp) (a : Addr) : KAV → Prop
  | of {kvs : KAV} {ks : List PyData} : H a = some (dtO X.w a kvs) → DpFs X.K H (kvs.map fun x => .ref x.2.1) ks → ks.map tkey = kvs.map (fun x => some x.1) → DDat X H a kvs
  | emp : H a = some (.dK []) → DDat X H a []
theorem keys_is (I : Inv X pins σ H s) : ∀ {kvs : KAV} {ks : List PyData} {xs : List (NestedKey × Addr × Value)}, DpFs X.K H (kvs.map fun x => .ref x.2.1) ks → ks.map tkey = kvs.map (fun x => some x.1) → Paired RelX kvs xs → ∀ x ∈ xs, (nestedKind X.prog X.w).is s.heap x.1 x.2.1
  | [], ks, xs, h, e, p => by cases p; exact fun _ q => nomatch q
  | y :: kvs, ks, xs, h, e, p => by
    cases p with
    | @cons _ q _ qs r t =>
      cases h with
      | cons h hs =>
        simp only [List.map_cons, List.cons.injEq] at e
        intro x hx
        rcases List.mem_cons.mp hx with rfl | hx
        · obtain ⟨r1, r2, _⟩ := r
          rw [← r1, ← r2]
          exact tkey_is I h e.1
        · exact keys_is I hs e.2 t x hx
theorem DDat.rd (I : Inv X pins σ H s) {a : Addr} {kvs : KAV} (h : DDat X H a kvs) : kvs.length ≤ sizeLine ∧ (a == sysModules) = false ∧ ∃ xs, Paired RelX kvs xs ∧ s.heap.DictOfH (nestedKind X.prog X.w) a xs := by
  cases h with
  | of h hk e =>
    obtain ⟨⟨z, y, xs, p, o, es, ep, h1, h2, h3, h4, h5⟩, _⟩ := (show ObjOk X.prog X.w H s.heap a (dtO X.w a kvs) from I.hok a _ h)
    exact ⟨z, y, xs, p, o, es, ep, h1, h2, h3, h4, keys_is I hk e p, h5⟩
  | emp h =>
    obtain ⟨z, y, vs, r, o, es, ep, h1, h2, h3, h4, h5, h6⟩ := dk_of I.hok h
    cases r
    refine ⟨z, y, [], .nil, o, es, ep, h1, h2, h3, ?_, (fun x hx => absurd hx List.not_mem_nil), List.nodup_nil⟩
    generalize es.toList = l at h5 ⊢
    cases h5
    rfl
theorem ddV_val {kvs : KAV} {xs : List (NestedKey × Addr × Value)} (p : Paired RelX kvs xs) (k : NestedKey) : RelO (ddV kvs k) ((atKey xs k).map (·.2)) := by
  induction p with
  | nil => exact True.intro
  | @cons y q ys qs r t ih =>
    obtain ⟨r1, r2, r3⟩ := r
    unfold ddV
    by_cases e : y.1 = k
    · have e' : q.1 = k := r1.symm.trans e
      rw [if_pos e]
      have : (atKey (q :: qs) k).map (·.2) = some q.2.2 := by simp [atKey, List.find?_cons, e']
      rw [this]; exact r3
    · have e' : ¬ q.1 = k := fun z => e (r1.trans z)
      rw [if_neg e]
      have : (atKey (q :: qs) k).map (·.2) = (atKey qs k).map (·.2) := by simp [atKey, List.find?_cons, e']
      rw [this]; exact ih
/-- y is the key k -/
def TKey (K : PySem.W.Frag) (H : Hp) (y : V) (k : NestedKey) : Prop := ∃ b d, y = .ref b ∧ DpF K H (.ref b) d ∧ tkey d = some k
theorem room_nk (hu : X.A.units + 65 < cLine) : (nestedKind X.prog X.w).room X.A.in1 := by
  show X.A.units + 1 + 8 < cLine
  omega
def rInDD (X : Cx) (neg : Bool) : R2 := fun x y H Q => ∃ a kvs k, y = .ref a ∧ DDat X H a kvs ∧ TKey X.K H x k ∧ Q (.bl (neg != (ddV kvs k).isSome)) H
theorem op_inDD (hu : X.A.units + 65 < cLine) : OpR X (compareOp .In) (rInDD X false) := by
  intro pins s σ H x y v u Q I rx ry h
  obtain ⟨a, kvs, k, rfl, hd, ⟨b, d, rfl, hk, ek⟩, q⟩ := h
  cases rx
  cases ry
  obtain ⟨z, na, xs, p, dd⟩ := hd.rd I
  refine wpAny_in_heap (room_nk hu) (tkey_is I hk ek) na dd ?_
  have e := (ddV_val p k).isSome_eq
  rw [Option.isSome_map] at e
  rw [← e]
  exact ⟨.bl _, H, I.tok _, rfl, by simpa using q⟩
theorem op_notinDD (hu : X.A.units + 65 < cLine) : OpR X (compareOp .NotIn) (rInDD X true) := by
  intro pins s σ H x y v u Q I rx ry h
  obtain ⟨a, kvs, k, rfl, hd, ⟨b, d, rfl, hk, ek⟩, q⟩ := h
  cases rx
  cases ry
  obtain ⟨z, na, xs, p, dd⟩ := hd.rd I
  refine wpAny_notIn_heap (room_nk hu) (tkey_is I hk ek) na dd ?_
  have e := (ddV_val p k).isSome_eq
  rw [Option.isSome_map] at e
  rw [← e]
  exact ⟨.bl _, H, I.tok _, rfl, by simpa using q⟩
def rIxDD (X : Cx) : R2 := fun x y H Q => ∃ a kvs k v, x = .ref a ∧ DDat X H a kvs ∧ TKey X.K H y k ∧ ddV kvs k = some v ∧ Q v H
theorem ix_DD (hu : X.A.units + 65 < cLine) : IxR X (rIxDD X) := by
  intro value slice pins s σ H x y v u Q I rx ry h hs
  obtain ⟨a, kvs, k, r, rfl, hd, ⟨b, d, rfl, hk, ek⟩, ev, q⟩ := h
  cases rx
  cases ry
  obtain ⟨z, na, xs, p, dd⟩ := hd.rd I
  obtain ⟨w', hw, rw'⟩ := RelO.some_of (v := r) (o := (atKey xs k).map (·.2)) (by rw [← ev]; exact ddV_val p k)
  obtain ⟨p', hp, hp2⟩ := Option.map_eq_some_iff.mp hw
  refine tail_any dd.typeIs slot_dict_getitem.lookup (wpAny_getItem_heap (room_nk hu) (tkey_is I hk ek) dd hp ?_) hs
  rw [hp2]
  exact ⟨r, H, I.tok _, rw', q⟩
/-- the entries behind a store -/
def ddP : KAV → NestedKey → Addr → V → KAV
  | [], k, b, v => [(k, b, v)]
  | x :: r, k, b, v => if x.1 = k then (x.1, x.2.1, v) :: r else x :: ddP r k b v
theorem ddP_put {kvs : KAV} {xs : List (NestedKey × Addr × Value)} {k : NestedKey} {b : Addr} {v : V} {u : Value} (p : Paired RelX kvs xs) (rv : RelV v u) (hn : (xs.map (·.1)).Nodup) : Paired RelX (ddP kvs k b v) (storedH xs k b u) := by
  induction p with
  | nil => exact .cons ⟨rfl, rfl, rv⟩ .nil
  | @cons y q ys qs r t ih =>
    obtain ⟨r1, r2, r3⟩ := r
    rw [List.map_cons, List.nodup_cons] at hn
    unfold ddP
    by_cases e : y.1 = k
    · have e' : q.1 = k := r1.symm.trans e
      rw [if_pos e]
      have hm : qs.map (putAt k u) = qs := by
        rw [List.map_congr_left (g := id) fun z hz => ?_, List.map_id]
        unfold putAt
        rw [if_neg fun ez => hn.1 (by rw [e', ← ez]; exact List.mem_map.mpr ⟨z, hz, rfl⟩)]
        rfl
      have hs : storedH (q :: qs) k b u = (q.1, q.2.1, u) :: qs := by
        rw [storedH_old (p := q.2) (by simp [atKey, List.find?_cons, e'])]
        rw [List.map_cons, hm]
        unfold putAt
        rw [if_pos e']
      rw [hs]
      exact .cons ⟨r1, r2, rv⟩ t
    · have e' : ¬ q.1 = k := fun z => e (r1.trans z)
      rw [if_neg e]
      have hs : storedH (q :: qs) k b u = q :: storedH qs k b u := by
        have ea : atKey (q :: qs) k = atKey qs k := by simp [atKey, List.find?_cons, e']
        unfold storedH
        rw [ea]
        split
        · rw [List.map_cons]
          unfold putAt
          rw [if_neg e']
        · rfl
      rw [hs]
      exact .cons ⟨r1, r2, r3⟩ (ih hn.2)
theorem ddP_len : ∀ (kvs : KAV) (k : NestedKey) (b : Addr) (v : V), (ddP kvs k b v).length ≤ kvs.length + 1
  | [], _, _, _ => Nat.le_refl _
  | x :: r, k, b, v => by
    unfold ddP
    split
    · simp
    · have := ddP_len r k b v
      simp only [List.length_cons]
      omega
def rSetDD (X : Cx) : TSet := fun o i v H Q => ∃ a b kvs k d, o = .ref a ∧ i = .ref b ∧ DDat X H a kvs ∧ DpF X.K H (.ref b) d ∧ tkey d = some k ∧ kvs.length < sizeLine ∧ Q (upd H a (dtO X.w a (ddP kvs k b v)))
theorem set_DD (hu : X.A.units + 65 < cLine) : PSet X (rSetDD X) := by
  intro pins s σ H o i v ov iv u Q I ro ri rv h
  obtain ⟨a, b, kvs, k, d, rfl, rfl, hd, hk, ek, hl, q⟩ := h
  cases ro
  cases ri
  obtain ⟨z, na, xs, p, dd⟩ := hd.rd I
  have hz : xs.length ≤ sizeLine := by rw [← Paired.length p]; exact z
  refine wpAny_setItem_heap (hsz := hz) (room_nk hu) (tkey_is I hk ek) dd fun h' dd' hs => ⟨_, ?_, q⟩
  have hn : (xs.map (·.1)).Nodup := dd.nodup
  obtain ⟨o, es, ep, hq, h2, h3, h4, _, h5⟩ := dd'
  have mu : Mut (H a) := by
    cases hd with
    | of h _ _ => rw [h]; exact True.intro
    | emp h => rw [h]; exact True.intro
  have hP : dtP X.w a (ddP kvs k b v) h' := ⟨by have := ddP_len kvs k b v; omega, na, _, ddP_put p rv hn, o, es, ep, hq, h2, h3, h4, h5⟩
  refine d_write I mu hs ⟨o, hq⟩ ⟨hP, ⟨o, hq⟩, fun h1 h2 ⟨z1, z2, ys, y1, o1, es1, ep1, y2, y3⟩ st => ⟨z1, z2, ys, y1, o1, es1, ep1, st _ y2, y3⟩⟩
def rLenDD (X : Cx) : List V → Hp → VK → Prop := fun xs H Q => ∃ a kvs, xs = [.ref a] ∧ DDat X H a kvs ∧ Q (.int kvs.length) H
theorem call_lenDD : CallR X (.builtin "len") (rLenDD X) := by
  intro pins s σ H xs us Q I r h
  obtain ⟨a, kvs, rfl, hd, q⟩ := h
  obtain rfl := Vals.ref1 r
  obtain ⟨z, na, ys, p, dd⟩ := hd.rd I
  have hl := Paired.length p
  refine PyProof.Rows.call_len_slot (n := ys.length) dd.typeIs PySem.F.slot_dict_len (fun Q' hq => len_keyed na (⟨ys, dd, rfl⟩ : s.heap.DictKeyed (nestedKind X.prog X.w) a (pairsH ys)) (by rw [pairsH_length]; exact hq)) (by omega) (by rw [sizeLine_eq] at z; omega) ?_
  rw [← hl]
  exact ⟨.int kvs.length, H, I.tok _, ⟨_, rfl⟩, q⟩
theorem tkey_ref {K : PySem.W.Frag} {v : V} {d : PyData} {k : NestedKey} (h : DpF K H v d) (e : tkey d = some k) : ∃ b, v = .ref b := by
  cases h with
  | tup _ _ => exact ⟨_, rfl⟩
  | lst _ _ => exact ⟨_, rfl⟩
  | non => unfold tkey at e; cases e
  | bl _ => unfold tkey at e; cases e
  | int _ => unfold tkey at e; cases e
  | str _ => unfold tkey at e; cases e
def rInDK (neg : Bool) : R2 := fun x y H Q => ∃ a kvs k, y = .ref a ∧ x = kV k ∧ H a = some (.dK kvs) ∧ Q (.bl (neg != (valV kvs k).isSome)) H
theorem op_inDK (hu : X.A.units + 65 < cLine) : OpR X (compareOp .In) (rInDK false) := by
  intro pins s σ H x y v u Q I rx ry h
  obtain ⟨a, kvs, k, rfl, rfl, ha, q⟩ := h
  cases ry
  exact d_in (by omega) I (DGet.k ha) rx fun s' I' => ⟨.bl _, H, I', rfl, by simpa using q⟩
theorem op_notinDK (hu : X.A.units + 65 < cLine) : OpR X (compareOp .NotIn) (rInDK true) := by
  intro pins s σ H x y v u Q I rx ry h
  obtain ⟨a, kvs, k, rfl, rfl, ha, q⟩ := h
  cases ry
  exact d_notIn (by omega) I (DGet.k ha) rx fun s' I' => ⟨.bl _, H, I', rfl, by simpa using q⟩
def rIxDK : R2 := fun x y H Q => ∃ a kvs k v, x = .ref a ∧ y = kV k ∧ H a = some (.dK kvs) ∧ valV kvs k = some v ∧ Q v H
theorem ix_DK (hu : X.A.units + 65 < cLine) : IxR X rIxDK := by
  intro value slice pins s σ H x y v u Q I rx ry h hs
  obtain ⟨a, kvs, k, r, rfl, rfl, ha, ev, q⟩ := h
  cases rx
  have g : DGet H a (kV k) (some r) := by rw [← ev]; exact DGet.k ha
  exact tail_any (dict_typeIs I g) slot_dict_getitem.lookup (d_getItem (by omega) I g ry fun w' s' I' rw' => ⟨r, H, I', rw', q⟩) hs
end
end Vs
/-! V3: operators and built-ins on values, with their rules. -/
namespace Vs
open PySem PySem.Spec L2
open PyProof.Rows hiding St

abbrev DI (i : Int) : D := .sh (.int i)
abbrev DB (b : Bool) : D := .sh (.bool b)
abbrev DS (x : Str) : D := .sh (.str x)
/-- an owned list of shared things -/
abbrev DL (l : List PyData) : D := .ls (l.map .sh)
abbrev DT (l : List PyData) : D := .sh (.tuple l)
def guardO (c : Bool) (d : D) : Option D := if c = true then some d else none
theorem guardO_some {c : Bool} {d e : D} (h : guardO c d = some e) : c = true ∧ d = e := by
  unfold guardO at h
  split at h
  · exact ⟨by assumption, Option.some.inj h⟩
  · cases h
@[simp] theorem guardO_true {d : D} : guardO true d = some d := rfl

/-- an owned list of shared things -/
def D.own : D → Option (List PyData)
  | .ls ds => unsh ds
  | _ => none
def oAdd : D → D → Option D
  | .sh (.int i), .sh (.int j) => some (DI (i + j))
  | .sh (.str x), .sh (.str y) => guardO (decide (x.length + y.length ≤ sizeLine)) (DS (x ++ y))
  | .sh (.tuple l), .sh (.tuple m) => guardO (decide (l.length + m.length ≤ sizeLine)) (DT (l ++ m))
  | .ls ds, .ls es => match unsh ds, unsh es with
    | some l, some m => guardO (decide (l.length + m.length ≤ sizeLine)) (DL (l ++ m))
    | _, _ => none
  | _, _ => none
def oInt2 (f : Int → Int → Int) (c : Int → Int → Bool) : D → D → Option D
  | .sh (.int i), .sh (.int j) => guardO (c i j) (DI (f i j))
  | _, _ => none
def small64b (i : Int) : Bool := decide (i.natAbs < 18446744073709551616)
def oMul : D → D → Option D
  | .sh (.int i), .sh (.int j) => guardO (small64b i || small64b j) (DI (i * j))
  | .ls ds, .sh (.int k) => match unsh ds with
    | some l => guardO (decide (k < 16777216) && decide (-16777216 < k) && decide (l.length * k.toNat ≤ sizeLine)) (DL (List.replicate k.toNat l).flatten)
    | none => none
  | .sh (.tuple l), .sh (.int k) => guardO (decide (-1000 ≤ k) && decide (k ≤ 1000) && decide (l.length ≤ 1000)) (DT (List.replicate k.toNat l).flatten)
  | _, _ => none
def oCmpI (f : Int → Int → Bool) : D → D → Option D
  | .sh (.int i), .sh (.int j) => some (DB (f i j))
  | _, _ => none
def oEq (neg : Bool) (x y : D) : Option D := match x.py, y.py with
  | some p, some q => guardO (SeqAt.shaped p && SeqAt.shaped q) (DB (neg != PyData.eqv p q))
  | _, _ => none
def dkGet : List Key → List D → Key → Option D
  | k :: ks, d :: ds, q => if k = q then some d else dkGet ks ds q
  | _, _, _ => none
def ddGet : List PyData → List D → NestedKey → Option D
  | q :: ks, d :: ds, k => if tkey q = some k then some d else ddGet ks ds k
  | _, _, _ => none
/-- a key of a dict of numbers and texts -/
def kOf : PyData → Option Key
  | .int i => some (.inl i)
  | .str x => some (.inr x)
  | _ => none
def dIn (neg : Bool) : D → D → Option D
  | .sh kd, .dk ks _ => match kOf kd with
    | some k => some (DB (neg != ks.any fun q => decide (q = k)))
    | none => match tkey kd, ks with
      | some _, [] => some (DB neg)
      | _, _ => none
  | .sh kd, .dd ks ds => match tkey kd with
    | some k => some (DB (neg != (ddGet ks ds k).isSome))
    | none => none
  | _, _ => none
def oIn (neg : Bool) (x y : D) : Option D := match x.py, y.py with
  | some p, some (.list l) => guardO (SeqAt.shaped p && SeqAt.shaped (.list l)) (DB (neg != l.any fun z => PyData.eqv z p))
  | some p, some (.tuple l) => guardO (SeqAt.shaped p && SeqAt.shaped (.tuple l)) (DB (neg != l.any fun z => PyData.eqv z p))
  | _, _ => dIn neg x y
def oIs (neg : Bool) : D → D → Option D
  | .sh p, .sh .none => some (DB (neg != match p with | .none => true | _ => false))
  | _, .sh .none => some (DB neg)
  | _, _ => none
def shOnly : Option D → Option D
  | some (.sh p) => some (.sh p)
  | _ => none
def oIx : D → D → Option D
  | .ls ds, .sh (.int i) => shOnly (atI ds i)
  | .tp ds, .sh (.int i) => shOnly (atI ds i)
  | .sh (.list l), .sh (.int i) => (atI l i).map .sh
  | .sh (.tuple l), .sh (.int i) => (atI l i).map .sh
  | .sh (.str z), .sh (.int i) => if z.length ≤ sizeLine then (atI z.cps.toList i).map fun c => DS ⟨#[c]⟩ else none
  | .dk ks ds, .sh kd => match kOf kd with
    | some k => shOnly (dkGet ks ds k)
    | none => none
  | .dd ks ds, .sh kd => match tkey kd with
    | some k => shOnly (ddGet ks ds k)
    | none => none
  | _, _ => none
def cutL (xs : List PyData) (lo hi : Option Int) : List PyData := (xs.drop (HT.sIx xs.length 0 lo)).take (HT.sIx xs.length xs.length hi - HT.sIx xs.length 0 lo)
def oSl (lo hi : Option Int) : D → Option D
  | .ls ds => match unsh ds with
    | some l => some (DL (cutL l lo hi))
    | none => none
  | .sh (.list l) => some (DL (cutL l lo hi))
  | .sh (.tuple l) => some (DT (cutL l lo hi))
  | _ => none
def oLen : D → Option D
  | .sh (.list l) => some (DI l.length)
  | .sh (.tuple l) => some (DI l.length)
  | .sh (.str x) => guardO (decide (x.length ≤ sizeLine)) (DI x.length)
  | .ls ds => some (DI ds.length)
  | .tp ds => some (DI ds.length)
  | .dk ks _ => some (DI ks.length)
  | .dd ks _ => some (DI ks.length)
  | _ => none
def oNeg : D → Option D
  | .sh (.int i) => some (DI (-i))
  | _ => none
def oAbs : D → Option D
  | .sh (.int i) => some (DI (if i < 0 then -i else i))
  | _ => none
def oInt : D → Option D
  | .sh (.int i) => some (DI i)
  | .sh (.bool b) => some (DI (if b then 1 else 0))
  | _ => none
def oRepr (x : D) : Option D := match x.py with
  | some p => guardO (p.showable && !p.hasDict && decide (p.depth ≤ 60) && decide (p.shown.length ≤ sizeLine)) (DS p.shown)
  | none => none
def oList (x : D) : Option D := match x.seq with
  | some (_, l) => some (DL l)
  | none => none
def oTuple (x : D) : Option D := match x.seq with
  | some (_, l) => some (DT l)
  | none => none
def allAlike (l : List PyData) : Bool := l.all fun a => l.all fun b => PySem.W.alike a b
def tupB : PyData → Bool
  | .tuple _ => true
  | _ => false
def headB : PyData → Bool
  | .tuple (_ :: _) => true
  | _ => false
def sortableB (l : List PyData) : Bool := ((l.all fun d => match d with | .tuple (_ :: _) => true | _ => false) || (l.all fun d => match d with | .none => false | .tuple _ => false | _ => true)) || (l.all tupB && !(l.all headB))
def oSorted (x : D) : Option D := match x.seq with
  | some (.lst, l) => guardO (allAlike l && sortableB l && decide (PyData.depthAll l ≤ 60)) (DL (l.mergeSort (PySem.W.dataLe false id)))
  | _ => none
def intsOf : List PyData → Option (List Int)
  | [] => some []
  | .int i :: r => match intsOf r with
    | some l => some (i :: l)
    | none => none
  | _ :: _ => none
@[simp] theorem intsOf_map (l : List Int) : intsOf (l.map .int) = some l := by
  induction l with
  | nil => rfl
  | cons d l ih => simp [intsOf, ih]
def oSum (x : D) : Option D := match x.seq with
  | some (.lst, l) => match intsOf l with
    | some ns => some (DI ns.sum)
    | none => none
  | _ => none
def boolsOf : List PyData → Option (List Bool)
  | [] => some []
  | .bool i :: r => match boolsOf r with
    | some l => some (i :: l)
    | none => none
  | _ :: _ => none
@[simp] theorem boolsOf_map (l : List Bool) : boolsOf (l.map .bool) = some l := by
  induction l with
  | nil => rfl
  | cons d l ih => simp [boolsOf, ih]
def oAll (x : D) : Option D := match x.seq with
  | some (.lst, l) => match boolsOf l with
    | some ns => some (DB (ns.all id))
    | none => none
  | _ => none
def oAny (x : D) : Option D := match x.seq with
  | some (.lst, l) => match boolsOf l with
    | some ns => some (DB (ns.any id))
    | none => none
  | _ => none
inductive Ty where
  | int | bool | str | list | tuple | dict
  deriving DecidableEq
def Ty.nm : Ty → String
  | .int => "int" | .bool => "bool" | .str => "str" | .list => "list" | .tuple => "tuple" | .dict => "dict"
def D.ty : D → Option String
  | .sh .none => some "NoneType"
  | .sh (.bool _) => some "bool"
  | .sh (.int _) => some "int"
  | .sh (.str _) => some "str"
  | .sh (.list _) => some "list"
  | .sh (.tuple _) => some "tuple"
  | .ls _ => some "list"
  | .tp _ => some "tuple"
  | .dk _ _ => some "dict"
  | _ => none
def isiTab (a : String) (t : Ty) : Bool := match t with
  | .int => a == "int" || a == "bool"
  | t => a == t.nm
def oIsi (t : Ty) (x : D) : Option D := match x.ty with
  | some a => some (DB (isiTab a t))
  | none => none
end Vs
/-! V4: the rules of the operators and built-ins. -/
namespace Vs
open PySem PySem.Spec L2
open PyProof.Rows hiding St
def r2 (G : Ga) (o : D → D → Option D) : R2 := fun x y H Q => ∃ d e z T T', Rep G H x d T ∧ Rep G H y e T' ∧ o d e = some z ∧ NewR G H z Q
def r1 (G : Ga) (o : D → Option D) : List V → Hp → VK → Prop := fun vs H Q => ∃ x d z T, vs = [x] ∧ Rep G H x d T ∧ o d = some z ∧ NewR G H z Q
section
variable {X : Cx} {G : Ga} {H : Hp}
theorem NewR.int {i : Int} {Q : VK} (h : NewR G H (DI i) Q) : Q (.int i) H := h.sh (.int i)
theorem NewR.bl {i : Bool} {Q : VK} (h : NewR G H (DB i) Q) : Q (.bl i) H := h.sh (.bl i)
theorem NewR.str {i : Str} {Q : VK} (h : NewR G H (DS i) Q) : Q (.str i) H := h.sh (.str i)
theorem Rep.tup_of {v : V} {l : List PyData} {T : List Addr} (h : Rep G H v (.sh (.tuple l)) T) : ∃ a xs, v = .ref a ∧ SqT G.K H a xs ∧ DpFs G.K H xs l := by
  cases h with | sh h => cases h with | tup a b => exact ⟨_, _, rfl, a, b⟩
theorem Rep.fl_of {v : V} {l : List PyData} {T : List Addr} (h : Rep G H v (.sh (.list l)) T) : ∃ a xs, v = .ref a ∧ SqL G.K H a xs ∧ DpFs G.K H xs l := by
  cases h with | sh h => cases h with | lst a b => exact ⟨_, _, rfl, a.seq, b⟩
theorem Rep.ls_of {v : V} {ds : List D} {l : List PyData} {T : List Addr} (h : Rep G H v (.ls ds) T) (e : unsh ds = some l) : ∃ a xs, v = .ref a ∧ H a = some (.lst xs) ∧ DpFs G.K H xs l := by
  cases h with | ls a b => exact ⟨_, _, rfl, a, (b.of_unsh e).1⟩
theorem int2_of {o : Int → Int → Int} {c : Int → Int → Bool} {x y : V} {d e z : D} {T T' : List Addr} (hx : Rep G H x d T) (hy : Rep G H y e T') (h : oInt2 o c d e = some z) : ∃ i j, x = .int i ∧ y = .int j ∧ c i j = true ∧ z = DI (o i j) := by
  unfold oInt2 at h
  split at h
  · obtain ⟨a, b⟩ := guardO_some h
    exact ⟨_, _, hx.int_of, hy.int_of, a, b.symm⟩
  · cases h
theorem opImp {f : Value → Value → Sem Value} {r r' : R2} (h : OpR X f r) (i : ∀ x y H Q, r' x y H Q → r x y H Q) : OpR X f r' := fun pins s σ H x y v u Q I rx ry q => h pins s σ H x y v u Q I rx ry (i _ _ _ _ q)
theorem callImp {f : Value} {r r' : List V → Hp → VK → Prop} (h : CallR X f r) (i : ∀ xs H Q, r' xs H Q → r xs H Q) : CallR X f r' := fun pins s σ H xs us Q I rx q => h pins s σ H xs us Q I rx (i _ _ _ q)
theorem OpR.cases {f : Value → Value → Sem Value} {r : R2} (h : ∀ x y H Q, r x y H Q → ∃ r', OpR X f r' ∧ r' x y H Q) : OpR X f r := fun pins s σ H x y v u Q I rx ry q => by
  obtain ⟨r', a, b⟩ := h _ _ _ _ q
  exact a pins s σ H x y v u Q I rx ry b
theorem CallR.cases {f : Value} {r : List V → Hp → VK → Prop} (h : ∀ xs H Q, r xs H Q → ∃ r', CallR X f r' ∧ r' xs H Q) : CallR X f r := fun pins s σ H x v Q I rx q => by
  obtain ⟨r', a, b⟩ := h _ _ _ q
  exact a pins s σ H x v Q I rx b

theorem v_add (hG : G.K = X.K) : OpR X (binaryOp .Add) (r2 G oAdd) := OpR.cases fun x y H Q ⟨d, e, z, T, T', hx, hy, ho, hn⟩ => by
  unfold oAdd at ho
  split at ho
  · cases ho
    exact ⟨_, op_add, _, _, hx.int_of, hy.int_of, hn.int⟩
  · obtain ⟨c, rfl⟩ := guardO_some ho
    exact ⟨_, op_add_str, _, _, hx.str_of, hy.str_of, of_decide_eq_true c, hn.str⟩
  · obtain ⟨c, rfl⟩ := guardO_some ho
    obtain ⟨a, xs, rfl, ha, da⟩ := hx.tup_of
    obtain ⟨b, ys, rfl, hb, db⟩ := hy.tup_of
    have c := of_decide_eq_true c
    refine ⟨_, op_catA, a, b, xs, ys, rfl, rfl, hG ▸ ha, hG ▸ hb, by rw [da.len, db.len]; exact c, fun e => ?_, fun _ e => ?_, fun _ _ p hp => ?_⟩
    · have : _ = _ := da.nil_iff.mp e
      subst this
      exact hn.sh (.tup hb db)
    · have : _ = _ := db.nil_iff.mp e
      subst this
      rw [List.append_nil] at hn
      exact hn.sh (.tup ha da)
    · exact hn.tup (da.app db) hp
  · split at ho
    · obtain ⟨c, rfl⟩ := guardO_some ho
      obtain ⟨a, xs, rfl, ha, da⟩ := hx.ls_of (by assumption)
      obtain ⟨b, ys, rfl, hb, db⟩ := hy.ls_of (by assumption)
      have c := of_decide_eq_true c
      exact ⟨_, op_cat, a, b, xs, ys, rfl, rfl, ha, hb, by rw [da.len, db.len]; exact c, fun p hp => hn.lst (da.app db) hp⟩
    · cases ho
  · cases ho
theorem v_int2 {op : Operator} {o : Int → Int → Int} {c : Int → Int → Bool} {C : Int → Int → Prop} (h : OpR X (binaryOp op) (rI C fun i j => .int (o i j))) (hc : ∀ i j, c i j = true → C i j) : OpR X (binaryOp op) (r2 G (oInt2 o c)) :=
  opImp h fun x y H Q ⟨d, e, z, T, T', hx, hy, ho, hn⟩ => by
    obtain ⟨i, j, rfl, rfl, a, rfl⟩ := int2_of hx hy ho
    exact ⟨i, j, rfl, rfl, hc i j a, hn.int⟩
theorem v_int20 {op : Operator} {o : Int → Int → Int} (h : OpR X (binaryOp op) (rI0 fun i j => .int (o i j))) : OpR X (binaryOp op) (r2 G (oInt2 o fun _ _ => true)) :=
  opImp h fun x y H Q ⟨d, e, z, T, T', hx, hy, ho, hn⟩ => by
    obtain ⟨i, j, rfl, rfl, a, rfl⟩ := int2_of hx hy ho
    exact ⟨i, j, rfl, rfl, hn.int⟩
theorem small64_mul {i j : Int} (h : (small64b i || small64b j) = true) : CMul i j := by
  rcases (Bool.or_eq_true _ _).mp h with h | h
  · have := of_decide_eq_true h; left; omega
  · have := of_decide_eq_true h; right; omega
theorem v_mul (hG : G.K = X.K) : OpR X (binaryOp .Mult) (r2 G oMul) := OpR.cases fun x y H Q ⟨d, e, z, T, T', hx, hy, ho, hn⟩ => by
  unfold oMul at ho
  split at ho
  · obtain ⟨c, rfl⟩ := guardO_some ho
    exact ⟨_, op_mul, _, _, hx.int_of, hy.int_of, small64_mul c, hn.int⟩
  · split at ho
    · obtain ⟨c, rfl⟩ := guardO_some ho
      simp only [Bool.and_eq_true, decide_eq_true_eq] at c
      obtain ⟨a, xs, rfl, ha, da⟩ := hx.ls_of (by assumption)
      exact ⟨_, op_rep, a, _, xs, rfl, hy.int_of, ha, by omega, by omega, by rw [da.len]; exact c.2, fun p hp => hn.lst (da.rep _) hp⟩
    · cases ho
  · rename_i l k
    obtain ⟨c, rfl⟩ := guardO_some ho
    simp only [Bool.and_eq_true, decide_eq_true_eq] at c
    obtain ⟨a, xs, rfl, ha, da⟩ := hx.tup_of
    refine ⟨_, op_repA, a, _, xs, rfl, hy.int_of, hG ▸ ha, c.1.1, c.1.2, by rw [da.len]; exact c.2, fun e => ?_, fun _ p hp => hn.tup (da.rep _) hp⟩
    have r := da.rep k.toNat
    have ex : (List.replicate k.toNat xs).flatten = xs := by
      rcases e with rfl | rfl
      · simp
      · simp
    rw [ex] at r
    exact hn.sh (.tup ha r)
  · cases ho
theorem v_cmpI {op : CmpOp} {o : Int → Int → Bool} (h : OpR X (compareOp op) (rI0 fun i j => .bl (o i j))) : OpR X (compareOp op) (r2 G (oCmpI o)) :=
  opImp h fun x y H Q ⟨d, e, z, T, T', hx, hy, ho, hn⟩ => by
    unfold oCmpI at ho
    split at ho
    · cases ho; exact ⟨_, _, hx.int_of, hy.int_of, hn.bl⟩
    · cases ho
theorem v_eq (hG : G.K = X.K) (hu : X.A.units + 64 < cLine) : OpR X (compareOp .Eq) (r2 G (oEq false)) := opImp (op_eqD hu) fun x y H Q ⟨d, e, z, T, T', hx, hy, ho, hn⟩ => by
  unfold oEq at ho
  split at ho
  · obtain ⟨c, rfl⟩ := guardO_some ho
    simp only [Bool.and_eq_true] at c
    exact ⟨_, _, hG ▸ hx.dp (by assumption), hG ▸ hy.dp (by assumption), c.1, c.2, by have := hn.bl; simpa using this⟩
  · cases ho
theorem v_ne (hG : G.K = X.K) (hu : X.A.units + 64 < cLine) : OpR X (compareOp .NotEq) (r2 G (oEq true)) := opImp (op_neD hu) fun x y H Q ⟨d, e, z, T, T', hx, hy, ho, hn⟩ => by
  unfold oEq at ho
  split at ho
  · obtain ⟨c, rfl⟩ := guardO_some ho
    simp only [Bool.and_eq_true] at c
    exact ⟨_, _, hG ▸ hx.dp (by assumption), hG ▸ hy.dp (by assumption), c.1, c.2, by have := hn.bl; simpa using this⟩
  · cases ho
def rInT (K : PySem.W.Frag) (neg : Bool) : R2 := fun x y H Q => ∃ d ds, Dp K H x d ∧ Dp K H y (.tuple ds) ∧ SeqAt.shaped d = true ∧ SeqAt.shaped (.tuple ds) = true ∧ Q (.bl (neg != ds.any fun z => PyData.eqv z d)) H
theorem in_room {K : PySem.W.Frag} {A : Around} {d : PyData} {ds : List PyData} (sd : SeqAt.shaped d = true) (hu : A.units + 65 < cLine) : A.units + 1 + min (PyData.depthAll ds) d.depth < cLine := by
  have h1 := SeqAt.depth_of_shaped sd
  have h2 : min (PyData.depthAll ds) d.depth ≤ d.depth := Nat.min_le_right _ _
  omega
theorem op_inT (hu : X.A.units + 65 < cLine) : OpR X (compareOp .In) (rInT X.K false) := by
  intro pins s σ H x y v u Q I rx ry ⟨d, ds, hd, he, sd, se, q⟩
  obtain ⟨as, r1⟩ := Dp.reads I d x v hd rx
  obtain ⟨bs, r2⟩ := Dp.reads I (.tuple ds) y u he ry
  exact SeqAt.in_tuple_reads r2 r1 (SeqAt.canLay_of_shaped se) (SeqAt.canLay_of_shaped sd) (in_room (K := X.K) sd hu) ⟨.bl _, H, I, rfl, by simpa using q⟩
theorem op_notInT (hu : X.A.units + 65 < cLine) : OpR X (compareOp .NotIn) (rInT X.K true) := by
  intro pins s σ H x y v u Q I rx ry ⟨d, ds, hd, he, sd, se, q⟩
  obtain ⟨as, r1⟩ := Dp.reads I d x v hd rx
  obtain ⟨bs, r2⟩ := Dp.reads I (.tuple ds) y u he ry
  exact SeqAt.notIn_tuple_reads r2 r1 (SeqAt.canLay_of_shaped se) (SeqAt.canLay_of_shaped sd) (in_room (K := X.K) sd hu) ⟨.bl _, H, I, rfl, by simpa using q⟩
theorem kOf_v {v : V} {d : PyData} {k : Key} {K : PySem.W.Frag} (h : DpF K H v d) (e : kOf d = some k) : v = kV k := by
  unfold kOf at e
  split at e
  · cases e; cases h; rfl
  · cases e; cases h; rfl
  · cases e
theorem dk_any (k : Key) : ∀ kvs : List (Key × V), ((kvs.map (·.1)).any fun q => decide (q = k)) = (valV kvs k).isSome := fun kvs => by
  rw [List.any_map, ← valV_any]
  rfl
theorem dd_some : ∀ {kvs : KAV} {ks : List PyData} {ds : List D} {T : List Addr} {k : NestedKey}, ks.map tkey = kvs.map (fun x => some x.1) → Reps G H (kvs.map (·.2.2)) ds T → (ddGet ks ds k).isSome = (ddV kvs k).isSome
  | [], ks, ds, T, k, e, r => by
    have : ks = [] := by simpa using e
    subst this
    rfl
  | x :: kvs, [], ds, T, k, e, r => by simp at e
  | x :: kvs, q :: ks, ds0, T, k, e, r => by
    simp only [List.map_cons, List.cons.injEq] at e
    rw [List.map_cons] at r
    cases r with
    | cons h hs =>
    unfold ddGet ddV
    rw [e.1]
    by_cases z : x.1 = k
    · rw [if_pos (by rw [z]), if_pos z]; rfl
    · rw [if_neg (fun y => z (Option.some.inj y)), if_neg z]; exact dd_some e.2 hs
theorem dd_at : ∀ {kvs : KAV} {ks : List PyData} {ds : List D} {T : List Addr} {k : NestedKey} {d : D}, ks.map tkey = kvs.map (fun x => some x.1) → Reps G H (kvs.map (·.2.2)) ds T → ddGet ks ds k = some d → ∃ v T', ddV kvs k = some v ∧ Rep G H v d T'
  | [], ks, ds, T, k, d, e, r, g => by
    have : ks = [] := by simpa using e
    subst this
    cases g
  | x :: kvs, [], ds, T, k, d, e, r, g => by simp at e
  | x :: kvs, q :: ks, ds0, T, k, d, e, r, g => by
    simp only [List.map_cons, List.cons.injEq] at e
    rw [List.map_cons] at r
    cases r with
    | cons h hs =>
    unfold ddGet at g
    unfold ddV
    rw [e.1] at g
    by_cases z : x.1 = k
    · rw [if_pos (by rw [z])] at g
      cases g
      rw [if_pos z]
      exact ⟨_, _, rfl, h⟩
    · rw [if_neg (fun y => z (Option.some.inj y))] at g
      rw [if_neg z]
      exact dd_at e.2 hs g
theorem dk_at' : ∀ {kvs : List (Key × V)} {ds : List D} {T : List Addr} {k : Key} {d : D}, Reps G H (kvs.map (·.2)) ds T → dkGet (kvs.map (·.1)) ds k = some d → ∃ v T', valV kvs k = some v ∧ Rep G H v d T'
  | [], ds, T, k, d, h, e => by simp [dkGet] at e
  | (q, v) :: kvs, ds0, T, k, d, r, e => by
    rw [List.map_cons] at r
    cases r with
    | cons h hs =>
    simp only [List.map_cons, dkGet] at e
    by_cases hk : q = k
    · rw [if_pos hk] at e
      cases e
      exact ⟨v, _, valV_pos hk, h⟩
    · rw [if_neg hk] at e
      obtain ⟨u, T', a, b⟩ := dk_at' hs e
      exact ⟨u, T', by rw [valV_neg hk]; exact a, b⟩
theorem Rep.ddat {v : V} {ks : List PyData} {ds : List D} {T : List Addr} (hG : G.K = X.K) (hw : G.w = X.w) (h : Rep G H v (.dd ks ds) T) : ∃ a kvs T', v = .ref a ∧ DDat X H a kvs ∧ ks.map tkey = kvs.map (fun x => some x.1) ∧ Reps G H (kvs.map (·.2.2)) ds T' ∧ ks.length = kvs.length := by
  cases h with
  | dd h hk e hs => exact ⟨_, _, _, rfl, .of (hw ▸ h) (hG ▸ hk) e, e, hs, by have := congrArg List.length e; simpa using this⟩
theorem in_dict (hG : G.K = X.K) (hw : G.w = X.w) (hu : X.A.units + 65 < cLine) {neg : Bool} {x y : V} {d e z : D} {T T' : List Addr} {Q : VK} (hx : Rep G H x d T) (hy : Rep G H y e T') (ho : dIn neg d e = some z) (hn : NewR G H z Q) : rInDK neg x y H Q ∨ rInDD X neg x y H Q := by
  unfold dIn at ho
  split at ho
  · rename_i kd ks ds
    cases hx with
    | sh hx =>
    cases hy with
    | @dk a kvs _ _ ha hs =>
    split at ho
    · rename_i k ek
      cases ho
      rw [dk_any] at hn
      exact .inl ⟨a, kvs, k, rfl, kOf_v hx ek, ha, hn.bl⟩
    · split at ho
      · rename_i k ek em
        cases ho
        have : kvs = [] := by simpa using em
        subst this
        obtain ⟨b, rfl⟩ := tkey_ref hx ek
        exact .inr ⟨a, [], k, rfl, .emp ha, ⟨b, kd, rfl, hG ▸ hx, ek⟩, by have := hn.bl; simpa [ddV] using this⟩
      · cases ho
  · rename_i kd ks ds
    cases hx with
    | sh hx =>
    split at ho
    · rename_i k ek
      cases ho
      obtain ⟨a, kvs, T2, rfl, hd, em, hs, _⟩ := hy.ddat hG hw
      obtain ⟨b, rfl⟩ := tkey_ref hx ek
      rw [dd_some em hs] at hn
      exact .inr ⟨a, kvs, k, rfl, hd, ⟨b, kd, rfl, hG ▸ hx, ek⟩, hn.bl⟩
    · cases ho
  · cases ho
theorem v_in (hG : G.K = X.K) (hw : G.w = X.w) (hu : X.A.units + 65 < cLine) : OpR X (compareOp .In) (r2 G (oIn false)) := OpR.cases fun x y H Q ⟨d, e, z, T, T', hx, hy, ho, hn⟩ => by
  unfold oIn at ho
  split at ho
  · obtain ⟨c, rfl⟩ := guardO_some ho
    simp only [Bool.and_eq_true] at c
    exact ⟨_, op_inD hu, _, _, hG ▸ hx.dp (by assumption), hG ▸ hy.dp (by assumption), c.1, c.2, by have := hn.bl; simpa using this⟩
  · obtain ⟨c, rfl⟩ := guardO_some ho
    simp only [Bool.and_eq_true] at c
    exact ⟨_, op_inT hu, _, _, hG ▸ hx.dp (by assumption), hG ▸ hy.dp (by assumption), c.1, c.2, hn.bl⟩
  · rcases in_dict hG hw hu hx hy ho hn with q | q
    · exact ⟨_, op_inDK hu, q⟩
    · exact ⟨_, op_inDD hu, q⟩
theorem v_notin (hG : G.K = X.K) (hw : G.w = X.w) (hu : X.A.units + 65 < cLine) : OpR X (compareOp .NotIn) (r2 G (oIn true)) := OpR.cases fun x y H Q ⟨d, e, z, T, T', hx, hy, ho, hn⟩ => by
  unfold oIn at ho
  split at ho
  · obtain ⟨c, rfl⟩ := guardO_some ho
    simp only [Bool.and_eq_true] at c
    exact ⟨_, op_notInD hu, _, _, hG ▸ hx.dp (by assumption), hG ▸ hy.dp (by assumption), c.1, c.2, by have := hn.bl; simpa using this⟩
  · obtain ⟨c, rfl⟩ := guardO_some ho
    simp only [Bool.and_eq_true] at c
    exact ⟨_, op_notInT hu, _, _, hG ▸ hx.dp (by assumption), hG ▸ hy.dp (by assumption), c.1, c.2, hn.bl⟩
  · rcases in_dict hG hw hu hx hy ho hn with q | q
    · exact ⟨_, op_notinDK hu, q⟩
    · exact ⟨_, op_notinDD hu, q⟩
theorem is_of {neg : Bool} {x y : V} {d e z : D} {T T' : List Addr} (hx : Rep G H x d T) (hy : Rep G H y e T') (ho : oIs neg d e = some z) : y = .non ∧ z = DB (neg != decide (x = .non)) := by
  unfold oIs at ho
  split at ho
  · cases ho
    refine ⟨hy.non_of, ?_⟩
    cases hx with
    | sh hx => cases hx <;> simp
  · cases ho
    refine ⟨hy.non_of, ?_⟩
    cases hx with
    | sh hx => exact absurd rfl (by rename_i h; exact h _)
    | tp _ _ => simp
    | ls _ _ => simp
    | dk _ _ => simp
    | dd _ _ _ _ => simp
    | ob _ _ _ => simp
    | fn _ => simp
  · cases ho
theorem v_is : OpR X (compareOp .Is) (r2 G (oIs false)) := opImp op_isN fun x y H Q ⟨d, e, z, T, T', hx, hy, ho, hn⟩ => by
  obtain ⟨a, rfl⟩ := is_of hx hy ho
  exact ⟨a, by have := hn.bl; simpa using this⟩
theorem v_isnot : OpR X (compareOp .IsNot) (r2 G (oIs true)) := opImp op_notN fun x y H Q ⟨d, e, z, T, T', hx, hy, ho, hn⟩ => by
  obtain ⟨a, rfl⟩ := is_of hx hy ho
  exact ⟨a, by have := hn.bl; simpa using this⟩
end
end Vs
/-! VS: sorted where the list holds tuples, some of them empty. -/
namespace Vs
open PySem PySem.W PySem.Calls PyProof.Rows
theorem tupB_some {d : PyData} (h : tupB d = true) : ∃ xs, d = .tuple xs := by
  cases d <;> first | exact ⟨_, rfl⟩ | cases h
section
variable {M : Model} {prog : Program} {w : World} {A : Around} {E : Value → Shared → Prop} {s : Shared}
theorem firsts_any : ∀ {us : List Value} {ds : List PyData}, EachIs (fun v d => ∃ as, Reads s.heap v d as) us ds → (∀ d, d ∈ ds → tupB d = true) →
    ∃ os : List (Option Value), os.map (·.isSome) = ds.map headB ∧ ∀ {E : Value → Shared → Prop} {Q : List (Option Value) → Shared → Prop}, Q os s → wpAny M A (us.mapM firstOfTuple') Q E s
  | _, _, .nil, _ => ⟨[], rfl, fun {_ _} h => by rw [List.mapM_nil]; exact wpAny_pure h⟩
  | _, _, .cons (a := u) (as := us) (b := d) (bs := ds) ⟨as, r⟩ t, ht => by
    obtain ⟨os, h1, h2⟩ := firsts_any t fun e he => ht e (.tail _ he)
    obtain ⟨xs, rfl⟩ := tupB_some (ht d (.head _))
    cases r with
    | @tuple a o its n _ _ q1 q2 q3 q4 =>
      refine ⟨its[0]? :: os, ?_, fun {E Q} h => ?_⟩
      · have e0 : its[0]?.isSome = headB (.tuple xs) := by
          have q := SeqAt.ReadsAll.length _ _ _ q4
          rw [Array.length_toList] at q
          cases xs with
          | nil =>
            have : its = #[] := by simpa using q
            subst this
            rfl
          | cons y ys =>
            have : 0 < its.size := by rw [q]; exact Nat.succ_pos _
            simp [headB, this]
        rw [List.map_cons, List.map_cons, e0, h1]
      · rw [List.mapM_cons]
        refine wpAny_bind ?_
        rw [kas_first_eq]
        have lk : Looks M s.heap (typeOf (Value.ref a)) o.cls := (Looks.ld q1).andThen .now
        refine wpAny_bind (lk.here ?_)
        rw [q2, if_neg (by simp)]
        refine wpAny_bind (listItems_at q1 q3 (wpAny_pure ?_))
        exact wpAny_bind (h2 (Q := fun bs s' => wpAny M A (pure (its[0]? :: bs)) Q E s') (wpAny_pure h))
/-- the kind of keys: some tuple is empty -/
theorem kind_any {us : List Value} {ds : List PyData} (e : EachIs (fun v d => ∃ as, Reads s.heap v d as) us ds) (ht : ∀ d, d ∈ ds → tupB d = true) (hn : ds.all headB = false) :
    ∃ kd : SortKind, (kd = general' ∨ kd = oneType') ∧ ∀ {E : Value → Shared → Prop} {Q : SortKind → Shared → Prop}, Q kd s → wpAny M A (keyKind' us.toArray) Q E s := by
  obtain ⟨os, h1, h2⟩ := firsts_any (M := M) (A := A) e ht
  have hs : os.toArray.all (fun o => o.isSome) = false := by
    rw [List.all_toArray, ← hn]
    have : os.all (fun o => o.isSome) = (os.map (·.isSome)).all id := by rw [List.all_map]; rfl
    rw [this, h1, List.all_map]
    rfl
  by_cases h0 : (os.toArray[0]?.bind id).isSome = true
  · refine ⟨general', .inl rfl, fun {E Q} h => ?_⟩
    rw [keyKind'_eq, List.mapM_toArray, map_eq_pure_bind]
    refine wpAny_bind (wpAny_bind (h2 (wpAny_pure ?_)))
    rw [if_neg (by rw [hs]; simp), if_pos h0]
    exact wpAny_pure h
  · refine ⟨oneType', .inr rfl, fun {E Q} h => ?_⟩
    rw [keyKind'_eq, List.mapM_toArray, map_eq_pure_bind]
    refine wpAny_bind (wpAny_bind (h2 (wpAny_pure ?_)))
    rw [if_neg (by rw [hs]; simp), if_neg h0]
    have hne : us ≠ [] := by
      rintro rfl
      cases e
      cases hn
    obtain ⟨u, ur, rfl⟩ := List.exists_cons_of_ne_nil hne
    rw [oneTypeOnly'_eq, List.mapM_toArray, map_eq_pure_bind]
    refine wpAny_bind (wpAny_bind (wpAny_bind (kas_mapM (r := Value.type "tuple") _ (fun v hv Q' hq => ?_) (wpAny_pure ?_))))
    · obtain ⟨d, hd, as, r⟩ := e.left v hv
      obtain ⟨xs, rfl⟩ := tupB_some (ht d hd)
      exact (looks_reads r).here hq
    · have a0 : ((u :: ur).map fun _ => Value.type "tuple").toArray[0]? = some (Value.type "tuple") := by simp
      have a1 : (((u :: ur).map fun _ => Value.type "tuple").toArray.all fun x => x == Value.type "tuple") = true := by
        simp only [List.all_toArray, List.all_map, List.all_eq_true]
        intro _ _
        exact beq_self_eq_true _
      rw [a0]
      simp only [a1, if_true]
      exact wpAny_pure (wpAny_pure h)
theorem tup_lt {x y : PyData} {a b : Value} {as bs : List Addr} {Q : Bool → Shared → Prop} (tx : tupB x = true) (ra : Reads s.heap a x as) (rb : Reads s.heap b y bs) (h : alike x y = true) (hu : A.units + min x.depth y.depth < cLine) (hq : Q (dataLt x y) s) :
    wpAny (model prog w) A (oneLt' true a b) Q E s := by
  obtain ⟨xs, rfl⟩ := tupB_some tx
  cases y with
  | tuple ys =>
    have hal : alikeAll xs ys = true := by simpa [alike] using h
    cases ra with
    | @tuple l o us n _ as₁ h1 h2 h3 h4 =>
      cases rb with
      | @tuple l' o' us' n' _ bs₁ k1 k2 k3 k4 =>
        have z1 : us.size = xs.length := by simpa using SeqAt.ReadsAll.length _ _ _ h4
        have z2 : us'.size = ys.length := by simpa using SeqAt.ReadsAll.length _ _ _ k4
        rw [dataLt_tuple, ← firstLt_toks xs ys hal, ← z1, ← z2] at hq
        rw [oneLt'_eq]
        simp only [if_true]
        refine wpAny_bind (wpAny_cRoomFor (SeqAt.room_here hu) ?_)
        have ee : ∀ j (j1 : j < us.size) (j2 : j < us'.size), SeqAt.EqAt A.in1 s us[j] us'[j] (SeqAt.pairEq xs ys j) := fun j j1 j2 => by
          have := eqAt_alikeAll xs ys A.in1 s us.toList us'.toList _ _ h4 k4 hal (SeqAt.room_in hu) j (by simpa using j1) (by simpa using j2)
          simpa using this
        have er : ∀ j (j1 : j < us.size) (j2 : j < us'.size), SeqAt.pairEq xs ys j = false → SeqAt.RcLt A.in1 s us[j] us'[j] (dataLt (xs.getD j .none) (ys.getD j .none)) := fun j j1 j2 hj => by
          have := rcLt_alikeAll xs ys A.in1 s us.toList us'.toList _ _ h4 k4 hal (SeqAt.room_in hu) j (by simpa using j1) (by simpa using j2) hj
          simpa using this
        obtain ⟨cls, dd, data, sl⟩ := o
        obtain ⟨cls2, dd2, data2, sl2⟩ := o'
        simp only at h2 h3 k2 k3
        subst h2 h3 k2 k3
        refine wpAny_bind (wpAny_callSpecialIfBound?_slot (T := "tuple") ⟨_, h1, rfl⟩ F.slot_tuple_lt (call_meets F.slot_tuple_lt ⟨_, h1, rfl⟩ F.entry_tuple_lt (F.args_tuple_lt_2 _ _)
          (SeqAt.tuple_ltAt l l' us us' n n' dd dd2 sl sl2 (SeqAt.pairEq xs ys) fun j => dataLt (xs.getD j .none) (ys.getD j .none)) ⟨h1, k1, ee, er, ?_⟩))
        exact wpAny_truthy_bool hq
  | _ => exact absurd h (by simp [alike])
/-- lists of tuples, some of them empty -/
theorem sortsAt_any {us : List Value} {ds : List PyData} (e : EachIs (fun v d => ∃ as, Reads s.heap v d as) us ds) (hal : AllAlike ds) (ht : ∀ d, d ∈ ds → tupB d = true) (hn : ds.all headB = false) (hu : ∀ d, d ∈ ds → A.units + d.depth < cLine) :
    SortsAt prog w A s (dataKind s.heap ds) us := by
  refine ⟨fun v hv => ?_, ?_⟩
  · obtain ⟨d, hd, as, r⟩ := e.left v hv
    exact ⟨_, dataKind_some hal hd r⟩
  · obtain ⟨kd, hk, hh⟩ := kind_any (M := model prog w) (A := A) e ht hn
    refine ⟨kd, fun E x y a b Q ha hb hq => ?_, fun _ E Q hq => ?_⟩
    · obtain ⟨d, as, hd, ra, rfl⟩ := dataKind_inv ha
      obtain ⟨d', as', hd', rb, rfl⟩ := dataKind_inv hb
      have hr : A.units + min d.depth d'.depth < cLine := Nat.lt_of_le_of_lt (Nat.add_le_add_left (Nat.min_le_left _ _) _) (hu d hd)
      rcases hk with rfl | rfl
      · show wpAny (model prog w) A (oneLt' false x y) Q E s
        exact oneLt_alike (fun h => nomatch h) ra rb (hal d hd d' hd') (fun q => by have := ht d hd; rw [q] at this; cases this) hr hq
      · rw [keyLt'_oneType]
        exact tup_lt (ht d hd) ra rb (hal d hd d' hd') hr hq
    · exact hh hq
/-- sorted(xs), by whatever says how xs is sorted -/
theorem sorted_any {β : Type} {us : List Value} {bs : List β} {enc : β → PyData} {R : Value → β → Prop} {l : Addr} {Q : Value → Shared → Prop} (hl : s.heap.IsList l us.toArray) (e : EachIs R us bs)
    (er : EachIs (fun v b => ∃ as, Reads s.heap v (enc b) as) us bs) (hal : AllAlike (bs.map enc)) (ht : ∀ d, d ∈ bs.map enc → tupB d = true) (hn : (bs.map enc).all headB = false) (hL : bs.length ≤ sizeLine)
    (hu : ∀ b, b ∈ bs → A.units + 2 + (enc b).depth < cLine) (h : ∀ out, out.length = bs.length → EachIs R out (bs.mergeSort (dataLe false enc)) → Q (.ref (s.heap.objs.size + 1)) { s with heap := sortedAll s.heap us (List.toArray out) }) :
    wpAny (model prog w) A (call (.builtin "sorted") [.ref l]) Q E s := by
  have ek : EachIs (fun v b => ∃ as, Reads (sortingHeap (copyHeap s.heap us) (s.heap.objs.size + 1) us) v (enc b) as) us bs := er.mono fun _ _ ⟨as, r⟩ => ⟨as, PyProof.Rows.Reads.keeps (fun _ _ => sorting_copy_old) r⟩
  refine sorted_vals hl (sortsAt_any (s := { s with heap := sortingHeap (copyHeap s.heap us) (s.heap.objs.size + 1) us }) (each_map (R := fun v d => ∃ as, Reads (sortingHeap (copyHeap s.heap us) (s.heap.objs.size + 1) us) v d as) enc ek) hal ht hn (bound_map hu)) ?_ ?_
  · rw [e.length]
    exact hL
  · exact h _ ((sortVals_length false rfl).trans e.length) (sortVals_data false e ek hal)
/-- sorted(xs), either way -/
theorem sorted_both {β : Type} {us : List Value} {bs : List β} {enc : β → PyData} {R : Value → β → Prop} {l : Addr} {Q : Value → Shared → Prop} (hl : s.heap.IsList l us.toArray) (e : EachIs R us bs)
    (er : EachIs (fun v b => ∃ as, Reads s.heap v (enc b) as) us bs) (hal : AllAlike (bs.map enc)) (hs : Sortable (bs.map enc) ∨ ((∀ d, d ∈ bs.map enc → tupB d = true) ∧ (bs.map enc).all headB = false)) (hL : bs.length ≤ sizeLine)
    (hu : ∀ b, b ∈ bs → A.units + 2 + (enc b).depth < cLine) (h : ∀ out, out.length = bs.length → EachIs R out (bs.mergeSort (dataLe false enc)) → Q (.ref (s.heap.objs.size + 1)) { s with heap := sortedAll s.heap us (List.toArray out) }) :
    wpAny (model prog w) A (call (.builtin "sorted") [.ref l]) Q E s := hs.elim (fun hk => sorted_data hl e er hal hk hL hu h) fun ⟨ht, hn⟩ => sorted_any hl e er hal ht hn hL hu h
end
end Vs
/-! V5: the rules of built-in calls, items, slices. -/
namespace Vs
open PySem PySem.Spec L2
open PyProof.Rows hiding St
section
variable {X : Cx} {G : Ga} {H : Hp}
theorem Reps.get : ∀ {vs : List V} {ds : List D} {O : List Addr} {i : Nat} {d : D}, Reps G H vs ds O → ds[i]? = some d → ∃ v T, vs[i]? = some v ∧ Rep G H v d T
  | _, _, _, i, d, .nil, e => by simp at e
  | _, _, _, 0, d, .cons h hs, e => by simp at e; subst e; exact ⟨_, _, rfl, h⟩
  | _, _, _, i + 1, d, .cons h hs, e => by
    obtain ⟨v, T, a, b⟩ := Reps.get (i := i) hs (by simpa using e)
    exact ⟨v, T, by simpa using a, b⟩
theorem Reps.len : ∀ {vs : List V} {ds : List D} {O : List Addr}, Reps G H vs ds O → vs.length = ds.length
  | _, _, _, .nil => rfl
  | _, _, _, .cons _ hs => congrArg (· + 1) (Reps.len hs)
theorem atI_to {α β : Type} {xs : List α} {ys : List β} {i : Int} {y : β} (hl : xs.length = ys.length) (h : atI ys i = some y) : ∃ j : Nat, ys[j]? = some y ∧ ∀ x, xs[j]? = some x → atI xs i = some x := by
  unfold atI at h
  cases e : ixN ys.length i with
  | none => rw [e] at h; cases h
  | some j =>
    rw [e] at h
    refine ⟨j, h, fun x hx => ?_⟩
    unfold atI
    rw [hl, e]
    exact hx
theorem shOnly_some {o : Option D} {z : D} (h : shOnly o = some z) : ∃ p, z = .sh p ∧ o = some (.sh p) := by
  unfold shOnly at h
  split at h
  · cases h; exact ⟨_, rfl, rfl⟩
  · cases h
theorem Rep.sh_of {v : V} {p : PyData} {T : List Addr} (h : Rep G H v (.sh p) T) : DpF G.K H v p := by cases h; assumption
theorem ixCases {r : R2} (h : ∀ x y H Q, r x y H Q → ∃ r', IxR X r' ∧ r' x y H Q) : IxR X r := fun a b pins s σ H x y v u Q I rx ry q hs => by
  obtain ⟨r', k, z⟩ := h _ _ _ _ q
  exact k a b pins s σ H x y v u Q I rx ry z hs
theorem v_ix (hG : G.K = X.K) (hw : G.w = X.w) (hu : X.A.units + 65 < cLine) : IxR X (r2 G oIx) := ixCases fun x y H Q ⟨d, e, z, T, T', hx, hy, ho, hn⟩ => by
  unfold oIx at ho
  split at ho
  · obtain ⟨p, rfl, ha⟩ := shOnly_some ho
    cases hx with
    | ls q hs =>
      obtain ⟨j, e1, e2⟩ := atI_to hs.len ha
      obtain ⟨v, T, e3, r⟩ := hs.get e1
      exact ⟨_, ix_list, _, _, _, v, rfl, hy.int_of, hG ▸ SqL.of q, e2 v e3, hn.sh r.sh_of⟩
  · obtain ⟨p, rfl, ha⟩ := shOnly_some ho
    cases hx with
    | tp q hs =>
      obtain ⟨j, e1, e2⟩ := atI_to hs.len ha
      obtain ⟨v, T, e3, r⟩ := hs.get e1
      exact ⟨_, ix_tup, _, _, _, v, rfl, hy.int_of, hG ▸ q, e2 v e3, hn.sh r.sh_of⟩
  · obtain ⟨p, ha, rfl⟩ := Option.map_eq_some_iff.mp ho
    obtain ⟨a, xs, rfl, q, hs⟩ := hx.fl_of
    obtain ⟨j, e1, e2⟩ := atI_to hs.len ha
    obtain ⟨v, e3, r⟩ := hs.get e1
    exact ⟨_, ix_list, _, _, _, v, rfl, hy.int_of, hG ▸ q, e2 v e3, hn.sh r⟩
  · obtain ⟨p, ha, rfl⟩ := Option.map_eq_some_iff.mp ho
    obtain ⟨a, xs, rfl, q, hs⟩ := hx.tup_of
    obtain ⟨j, e1, e2⟩ := atI_to hs.len ha
    obtain ⟨v, e3, r⟩ := hs.get e1
    exact ⟨_, ix_tup, _, _, _, v, rfl, hy.int_of, hG ▸ q, e2 v e3, hn.sh r⟩
  · split at ho
    · obtain ⟨c, ha, rfl⟩ := Option.map_eq_some_iff.mp ho
      exact ⟨_, ix_str, _, _, c, hx.str_of, hy.int_of, by assumption, ha, hn.str⟩
    · cases ho
  · rename_i ks ds kd
    split at ho
    · rename_i k ek
      obtain ⟨p, rfl, hg⟩ := shOnly_some ho
      cases hx with
      | @dk a kvs _ _ ha hs =>
      cases hy with
      | sh hy =>
      obtain ⟨v, T', e1, r⟩ := dk_at' hs hg
      exact ⟨_, ix_DK hu, a, kvs, k, v, rfl, kOf_v hy ek, ha, e1, hn.sh r.sh_of⟩
    · cases ho
  · rename_i ks ds kd
    split at ho
    · rename_i k ek
      obtain ⟨p, rfl, hg⟩ := shOnly_some ho
      obtain ⟨a, kvs, T2, rfl, hd, em, hs, _⟩ := hx.ddat hG hw
      cases hy with
      | sh hy =>
      obtain ⟨b, rfl⟩ := tkey_ref hy ek
      obtain ⟨v, T', e1, r⟩ := dd_at em hs hg
      exact ⟨_, ix_DD hu, a, kvs, k, v, rfl, hd, ⟨b, kd, rfl, hG ▸ hy, ek⟩, e1, hn.sh r.sh_of⟩
    · cases ho
  · cases ho
/-! ### slices -/
def rSl (G : Ga) : V → Option Int → Option Int → Hp → VK → Prop := fun x lo hi H Q => ∃ d z T, Rep G H x d T ∧ oSl lo hi d = some z ∧ NewR G H z Q
theorem slCases {r : V → Option Int → Option Int → Hp → VK → Prop} (h : ∀ x lo hi H Q, r x lo hi H Q → ∃ r', SlR X r' ∧ r' x lo hi H Q) : SlR X r := fun pins s σ H x v vl vu lo hi sl Q I rx hs pl pu q => by
  obtain ⟨r', k, z⟩ := h _ _ _ _ _ q
  exact k pins s σ H x v vl vu lo hi sl Q I rx hs pl pu z
theorem DpFs.cut {vs : List V} {l : List PyData} (lo hi : Option Int) (h : DpFs G.K H vs l) : DpFs G.K H (cutV vs lo hi) (cutL l lo hi) := by
  unfold cutV cutL
  rw [h.len]
  exact (h.drop _).take _
theorem cut_whole {l : List PyData} {lo hi : Option Int} (h : HT.sIx l.length 0 lo = 0 ∧ HT.sIx l.length l.length hi = l.length) : cutL l lo hi = l := by
  unfold cutL
  rw [h.1, h.2]
  simp
theorem v_sl (hG : G.K = X.K) : SlR X (rSl G) := slCases fun x lo hi H Q ⟨d, z, T, hx, ho, hn⟩ => by
  unfold oSl at ho
  split at ho
  · split at ho
    · cases ho
      obtain ⟨a, xs, rfl, q, hs⟩ := hx.ls_of (by assumption)
      exact ⟨_, sl_list, a, xs, rfl, SqL.of q, fun p hp => hn.lst (hs.cut lo hi) hp⟩
    · cases ho
  · cases ho
    obtain ⟨a, xs, rfl, q, hs⟩ := hx.fl_of
    exact ⟨_, sl_list, a, xs, rfl, hG ▸ q, fun p hp => hn.lst (hs.cut lo hi) hp⟩
  · cases ho
    obtain ⟨a, xs, rfl, q, hs⟩ := hx.tup_of
    refine ⟨_, sl_tupA, a, xs, rfl, hG ▸ q, fun w => ?_, fun w p hp => hn.tup (hs.cut lo hi) hp⟩
    rw [hs.len] at w
    rw [cut_whole w] at hn
    exact hn.sh (.tup q hs)
  · cases ho
/-! ### calls -/
theorem v_len (hG : G.K = X.K) (hw : G.w = X.w) : CallR X (.builtin "len") (r1 G oLen) := CallR.cases fun vs H Q ⟨x, d, z, T, e, hx, ho, hn⟩ => by
  subst e
  unfold oLen at ho
  split at ho
  · cases ho
    obtain ⟨a, xs, rfl, q, hs⟩ := hx.fl_of
    exact ⟨_, call_len_seq, a, xs, rfl, .inl (hG ▸ q), by rw [hs.len]; exact hn.int⟩
  · cases ho
    obtain ⟨a, xs, rfl, q, hs⟩ := hx.tup_of
    exact ⟨_, call_len_seq, a, xs, rfl, .inr (hG ▸ q), by rw [hs.len]; exact hn.int⟩
  · obtain ⟨c, rfl⟩ := guardO_some ho
    exact ⟨_, call_len_str, _, by rw [hx.str_of], of_decide_eq_true c, hn.int⟩
  · cases ho
    cases hx with
    | ls q hs => exact ⟨_, call_len_seq, _, _, rfl, .inl (SqL.of q), by rw [hs.len]; exact hn.int⟩
  · cases ho
    cases hx with
    | tp q hs => exact ⟨_, call_len_seq, _, _, rfl, .inr (hG ▸ q), by rw [hs.len]; exact hn.int⟩
  · cases ho
    cases hx with
    | @dk a kvs _ _ ha hs => exact ⟨_, call_lenD, a, kvs, rfl, ha, by have := hn.int; simpa using this⟩
  · cases ho
    obtain ⟨a, kvs, T2, rfl, hd, em, hs, hl⟩ := hx.ddat hG hw
    rw [hl] at hn
    exact ⟨_, call_lenDD, a, kvs, rfl, hd, hn.int⟩
  · cases ho
theorem v_abs : CallR X (.builtin "abs") (r1 G oAbs) := callImp call_abs fun vs H Q ⟨x, d, z, T, e, hx, ho, hn⟩ => by
  subst e
  unfold oAbs at ho
  split at ho
  · cases ho
    exact ⟨_, by rw [hx.int_of], hn.int⟩
  · cases ho
theorem v_int : CallR X (.type "int") (r1 G oInt) := callImp call_int1 fun vs H Q ⟨x, d, z, T, e, hx, ho, hn⟩ => by
  subst e
  unfold oInt at ho
  split at ho
  · cases ho
    exact .inl ⟨_, by rw [hx.int_of], hn.int⟩
  · cases ho
    exact .inr ⟨_, by rw [hx.bl_of], hn.int⟩
  · cases ho
theorem v_list (hG : G.K = X.K) : CallR X (.type "list") (r1 G oList) := callImp call_list_of fun vs H Q ⟨x, d, z, T, e, hx, ho, hn⟩ => by
  subst e
  unfold oList at ho
  split at ho
  · rename_i k l e
    cases ho
    obtain ⟨a, xs, rfl, q, hs⟩ := hx.seq e
    refine ⟨a, xs, rfl, ?_, fun p hp => hn.lst hs hp⟩
    cases k with
    | lst => exact .inl (hG ▸ q)
    | tup => exact .inr (hG ▸ q)
  · cases ho
theorem v_tuple (hG : G.K = X.K) : CallR X (.type "tuple") (r1 G oTuple) := callImp call_tuple_of fun vs H Q ⟨x, d, z, T, e, hx, ho, hn⟩ => by
  subst e
  unfold oTuple at ho
  split at ho
  · rename_i k l e
    cases ho
    obtain ⟨a, xs, rfl, q, hs⟩ := hx.seq e
    refine ⟨a, xs, rfl, ?_⟩
    cases k with
    | lst => exact .inl ⟨hG ▸ q, fun p hp => hn.tup hs hp⟩
    | tup => exact .inr ⟨hG ▸ q, hn.sh (.tup q hs)⟩
  · cases ho
theorem ints_of : ∀ {l : List PyData} {ns : List Int} {xs : List V}, intsOf l = some ns → DpFs G.K H xs l → xs = ns.map V.int
  | [], ns, xs, e, h => by unfold intsOf at e; cases e; cases h; rfl
  | d :: l, ns, xs, e, h => by
    cases h with
    | cons h hs =>
      cases h with
      | int i =>
        unfold intsOf at e
        cases e2 : intsOf l with
        | none => rw [e2] at e; cases e
        | some m => rw [e2] at e; cases e; rw [ints_of e2 hs]; rfl
      | non => unfold intsOf at e; cases e
      | bl _ => unfold intsOf at e; cases e
      | str _ => unfold intsOf at e; cases e
      | lst _ _ => unfold intsOf at e; cases e
      | tup _ _ => unfold intsOf at e; cases e
theorem bools_of : ∀ {l : List PyData} {ns : List Bool} {xs : List V}, boolsOf l = some ns → DpFs G.K H xs l → xs = ns.map V.bl
  | [], ns, xs, e, h => by unfold boolsOf at e; cases e; cases h; rfl
  | d :: l, ns, xs, e, h => by
    cases h with
    | cons h hs =>
      cases h with
      | bl i =>
        unfold boolsOf at e
        cases e2 : boolsOf l with
        | none => rw [e2] at e; cases e
        | some m => rw [e2] at e; cases e; rw [bools_of e2 hs]; rfl
      | non => unfold boolsOf at e; cases e
      | int _ => unfold boolsOf at e; cases e
      | str _ => unfold boolsOf at e; cases e
      | lst _ _ => unfold boolsOf at e; cases e
      | tup _ _ => unfold boolsOf at e; cases e
theorem v_sum (hG : G.K = X.K) (hc : X.calm = true) : CallR X (.builtin "sum") (r1 G oSum) := callImp (cr_sum hc) fun vs H Q ⟨x, d, z, T, e, hx, ho, hn⟩ => by
  subst e
  unfold oSum at ho
  split at ho
  · split at ho
    · cases ho
      obtain ⟨a, xs, rfl, q, hs⟩ := hx.seq (by assumption)
      rw [ints_of (by assumption) hs] at q
      exact ⟨a, _, rfl, hG ▸ q, hn.int⟩
    · cases ho
  · cases ho
theorem v_all (hG : G.K = X.K) (hc : X.calm = true) : CallR X (.builtin "all") (r1 G oAll) := callImp (cr_all hc) fun vs H Q ⟨x, d, z, T, e, hx, ho, hn⟩ => by
  subst e
  unfold oAll at ho
  split at ho
  · split at ho
    · cases ho
      obtain ⟨a, xs, rfl, q, hs⟩ := hx.seq (by assumption)
      rw [bools_of (by assumption) hs] at q
      exact ⟨a, _, rfl, hG ▸ q, hn.bl⟩
    · cases ho
  · cases ho
theorem v_any (hG : G.K = X.K) (hc : X.calm = true) : CallR X (.builtin "any") (r1 G oAny) := callImp (cr_any hc) fun vs H Q ⟨x, d, z, T, e, hx, ho, hn⟩ => by
  subst e
  unfold oAny at ho
  split at ho
  · split at ho
    · cases ho
      obtain ⟨a, xs, rfl, q, hs⟩ := hx.seq (by assumption)
      rw [bools_of (by assumption) hs] at q
      exact ⟨a, _, rfl, hG ▸ q, hn.bl⟩
    · cases ho
  · cases ho
theorem v_repr (hG : G.K = X.K) (hg : X.A.guards = some []) (hu : X.A.units + 64 < cLine) : CallR X (.builtin "repr") (r1 G oRepr) := fun pins s σ H xs us Q I rx ⟨x, d, z, T, e, hx, ho, hn⟩ => by
  subst e
  unfold oRepr at ho
  split at ho
  · rename_i p ep
    obtain ⟨c, rfl⟩ := guardO_some ho
    simp only [Bool.and_eq_true, decide_eq_true_eq, Bool.not_eq_true'] at c
    obtain ⟨u, rfl, ru⟩ := vals1 rx
    have hd : Dp X.K H x p := hG ▸ hx.dp ep
    have hq := hn.str
    obtain ⟨as, rd⟩ := Dp.reads I p x u hd ru
    cases rd with
    | none => exact PySem.P.repr_of_none ⟨.str _, H, I.tok _, ⟨_, rfl⟩, hq⟩
    | bool b => exact PySem.P.repr_of_bool ⟨.str _, H, I.tok _, ⟨_, by unfold PyData.shown; rfl⟩, hq⟩
    | int i t =>
      refine PySem.P.repr_of_int ?_ ⟨.str _, H, I.tok _, ⟨_, by unfold PyData.shown; rfl⟩, hq⟩
      have := c.1.1.1
      unfold PyData.showable at this
      exact of_decide_eq_true this
    | str y t =>
      refine PySem.P.repr_of_str ⟨.str _, H, I.tok _, ⟨_, by unfold PyData.shown; rfl⟩, hq⟩ ?_
      have := c.2
      unfold PyData.shown at this
      exact this
    | list h1 h2 h3 h4 =>
      exact PySem.repr_of_reads' (.list h1 h2 h3 h4) c.1.1.1 (PyData.noDict_hsm c.1.1.2) hg (by omega) (fun _ _ e => e) (fun h' u tk hk => ⟨.str _, H, I.kept (t' := tk) hk, ⟨_, rfl⟩, hq⟩) c.2
    | tuple h1 h2 h3 h4 =>
      exact PySem.repr_of_reads' (.tuple h1 h2 h3 h4) c.1.1.1 (PyData.noDict_hsm c.1.1.2) hg (by omega) (fun _ _ e => e) (fun h' u tk hk => ⟨.str _, H, I.kept (t' := tk) hk, ⟨_, rfl⟩, hq⟩) c.2
    | dict _ _ _ _ _ => cases hd
  · cases ho
/-! ### sorted -/
theorem each_of : ∀ {xs : List V} {us : List Value} {l : List PyData}, Vals xs us → DpFs G.K H xs l → PySem.W.EachIs (fun u d => ∃ x, RelV x u ∧ DpF G.K H x d) us l
  | _, _, _, .nil, .nil => .nil
  | _, _, _, .cons r rs, .cons h hs => .cons ⟨_, r, h⟩ (each_of rs hs)
theorem of_each : ∀ {us : List Value} {l : List PyData}, PySem.W.EachIs (fun u d => ∃ x, RelV x u ∧ DpF G.K H x d) us l → ∃ xs, Vals xs us ∧ DpFs G.K H xs l
  | _, _, .nil => ⟨[], .nil, .nil⟩
  | _, _, .cons ⟨x, r, h⟩ hs => by
    obtain ⟨xs, a, b⟩ := of_each hs
    exact ⟨x :: xs, .cons r a, .cons h b⟩
theorem alike_all {l : List PyData} (h : allAlike l = true) : PySem.W.AllAlike l := fun d hd e he => List.all_eq_true.mp (List.all_eq_true.mp h d hd) e he
theorem sortable_of {l : List PyData} (h : sortableB l = true) : PySem.W.Sortable l ∨ ((∀ d, d ∈ l → tupB d = true) ∧ l.all headB = false) := by
  rcases (Bool.or_eq_true _ _).mp h with h | h
  · refine .inl ?_
    rcases (Bool.or_eq_true _ _).mp h with h | h
    · refine .inl fun d hd => ?_
      have := List.all_eq_true.mp h d hd
      split at this
      · exact ⟨_, _, rfl⟩
      · cases this
    · refine .inr fun d hd => ?_
      have := List.all_eq_true.mp h d hd
      split at this
      · cases this
      · cases this
      · exact ⟨fun e => by simp_all, fun xs e => by simp_all⟩
  · simp only [Bool.and_eq_true, Bool.not_eq_true'] at h
    exact .inr ⟨fun d hd => List.all_eq_true.mp h.1 d hd, h.2⟩
theorem depth_mem : ∀ {l : List PyData} {d : PyData}, d ∈ l → d.depth ≤ PyData.depthAll l
  | [], _, h => nomatch h
  | e :: l, d, h => by
    unfold PyData.depthAll
    rcases List.mem_cons.mp h with rfl | h
    · omega
    · have := depth_mem h
      omega
theorem v_sorted (hG : G.K = X.K) (hu : X.A.units + 64 < cLine) : CallR X (.builtin "sorted") (r1 G oSorted) := fun pins s σ H xs us Q I rx ⟨x, d, z, T, e, hx, ho, hn⟩ => by
  subst e
  unfold oSorted at ho
  split at ho
  · obtain ⟨c, rfl⟩ := guardO_some ho
    simp only [Bool.and_eq_true, decide_eq_true_eq] at c
    obtain ⟨a, ys, rfl, q, hs⟩ := hx.seq (by assumption)
    rw [Vals.ref1 rx]
    obtain ⟨its, rv, hl, hz⟩ := I.list (hG ▸ q : SqL X.K H a ys)
    rename_i l _ _
    have e0 := hs.len
    have er : PySem.W.EachIs (fun u d => ∃ as, Reads s.heap u (id d) as) its l := by
      have r1 : DpAll X.K H ys l := hG ▸ hs.dp
      obtain ⟨as, r2⟩ := Dp.readsAll I l ys its r1 rv
      exact PySem.W.readsAll_each id (by simpa using r2)
    refine sorted_both (enc := id) (bs := l) (us := its) hl.isList (each_of rv hs) er (by simpa using alike_all c.1.1) (by simpa using sortable_of c.1.2) (by omega) (fun b hb => ?_) fun out ho2 eo => ?_
    · have := depth_mem hb
      show X.A.units + 2 + b.depth < cLine
      omega
    · obtain ⟨zs, k1, k2⟩ := of_each eo
      obtain ⟨ep, he'⟩ := PyProof.Rows.sortedAll_at s.heap its (List.toArray out)
      have hlen : zs.length ≤ sizeLine := by rw [k1.length, ho2]; omega
      exact ⟨.ref _, upd H (s.heap.objs.size + 1) (.lst zs), I.laid (t' := s.toks) (fun _ _ => PyProof.Rows.sortedAll_old) (Nat.le_succ _) ⟨hlen, out, ep, k1, by simpa using he'⟩, rfl, hn.lst k2 (I.hok.fresh (Nat.le_succ _))⟩
  · cases ho
/-! ### isinstance -/
theorem ty_of {v : V} {d : D} {T : List Addr} {a : String} (h : Rep G H v d T) (e : d.ty = some a) : TyX G.K H v (.type a) := by
  cases h with
  | sh h =>
    cases h with
    | non => cases e; exact .base .non
    | bl b => cases e; exact .base (.bl b)
    | int b => cases e; exact .base (.int b)
    | str b => cases e; exact .base (.str b)
    | lst q _ =>
      cases e
      rcases q with ⟨o, q⟩ | ((q | ⟨_, q⟩) | ⟨o, its, n, q, c, _⟩)
      · exact .base (.frz q)
      · cases q
      · cases q
      · exact .kList q c
    | tup q _ =>
      cases e
      rcases q with (q | ⟨o, q⟩) | ⟨o, its, n, q, c, _⟩
      · exact .base (.tup q)
      · exact .fTuple q
      · exact .kTuple q c
  | ls q _ => cases e; exact .base (.lst q)
  | tp q _ =>
    cases e
    rcases q with (q | ⟨o, q⟩) | ⟨o, its, n, q, c, _⟩
    · exact .base (.tup q)
    · exact .fTuple q
    · exact .kTuple q c
  | dk q _ => cases e; exact .base (.dK q)
  | dd _ _ _ _ => cases e
  | ob _ _ _ => cases e
  | fn _ => cases e
theorem isi_tab {a : String} (t : Ty) (h : a = "NoneType" ∨ a = "bool" ∨ a = "int" ∨ a = "str" ∨ a = "list" ∨ a = "tuple" ∨ a = "dict") : kitB a t.nm = some (isiTab a t) := by
  rcases h with rfl | rfl | rfl | rfl | rfl | rfl | rfl <;> cases t <;> decide +kernel
theorem ty_in {d : D} {a : String} (e : d.ty = some a) : a = "NoneType" ∨ a = "bool" ∨ a = "int" ∨ a = "str" ∨ a = "list" ∨ a = "tuple" ∨ a = "dict" := by
  unfold D.ty at e
  split at e <;> cases e <;> simp
/-- isinstance(x, t), the class named -/
def rIsiV (G : Ga) (t : Ty) : List V → Hp → VK → Prop := fun vs H Q => ∃ x d z T, vs = [x, .ty t.nm] ∧ Rep G H x d T ∧ oIsi t d = some z ∧ NewR G H z Q
theorem v_isi (hG : G.K = X.K) (t : Ty) : CallR X (.builtin "isinstance") (rIsiV G t) := callImp call_isi fun vs H Q ⟨x, d, z, T, e, hx, ho, hn⟩ => by
  subst e
  unfold oIsi at ho
  split at ho
  · cases ho
    rename_i a e
    exact ⟨x, .ty t.nm, .type a, .type t.nm, _, rfl, .ty _, hG ▸ ty_of hx e, kit_ty (isi_tab t (ty_in e)), hn.bl⟩
  · cases ho
end
end Vs
/-! VE: enumerate over a tuple. -/
namespace Vs
open PySem PySem.Spec L2
open PyProof.Rows hiding St
open PySem.AutoSeq1 (wpAny_loadPart')
set_option maxHeartbeats 1000000 in
theorem mk_enumT (b : Addr) (its : Array Value) (k : Nat) (q : Option Addr) (r : Array (Option Value)) :
    Meets (Builtin.«enumerate.__new__» ⟨[.type "enumerate", .ref b], []⟩) (fun _ R z => z.heap.get? b = some { cls := .type "tuple", dict := q, data := .seq its k, slots := r } ∧
      R (.ok (.ret (.ref (z.heap.push { cls := .type "tuple_iterator", data := .fields #[.ref b, .int 0 0] }).objs.size)))
        { z with heap := (z.heap.push { cls := .type "tuple_iterator", data := .fields #[.ref b, .int 0 0] }).push { cls := .type "enumerate", data := .fields #[.none, .bool false, .ref z.heap.objs.size, rawInt 0, .none, .none] } }) :=
  .of_wp fun pg w A R z f => by
    obtain ⟨hp, g, d, tk, os⟩ := z
    obtain ⟨hl, f⟩ := f
    have hs := sub_enumerate
    have hT : Heap.IsTuple (Shared.heap ⟨hp, g, d, tk, os⟩) b its := ⟨_, hl, rfl, k, rfl⟩
    wp_walk using wpAny_loadPart' hl
    refine wpAny_stack_any fun _ => wpAny_pure ?_
    split
    · rename_i c _ _ _ _ _
      cases (c == Value.type "enumerate")
      all_goals
        wp_walk using wpAny_loadPart' hl, wpAny_pyIter_tuple hT
        exact ⟨_, rfl, f⟩
    · wp_walk using wpAny_loadPart' hl, wpAny_pyIter_tuple hT
      exact ⟨_, rfl, f⟩
theorem push2 {h : Heap} {x y : Obj} : ∀ b u, h.get? b = some u → ((h.push x).push y).get? b = some u := fun b u e => Heap.get?_push_of_some _ (Heap.get?_push_of_some _ e)
theorem new_enumT {pg : Program} {w : World} {A : Around} {E : Value → Shared → Prop} {z : Shared} {b : Addr} {its : Array Value} {Q : Value → Shared → Prop} (hT : z.heap.IsTuple b its)
    (f : ∀ h', IsEnum h' (z.heap.objs.size + 1) z.heap.objs.size 0 .none → h'.IsTupleIter z.heap.objs.size b 0 → (∀ c u, z.heap.get? c = some u → h'.get? c = some u) → Q (.ref (z.heap.objs.size + 1)) { z with heap := h' }) :
    wpAny (model pg w) A (call (.type "enumerate") [.ref b]) Q E z := by
  obtain ⟨⟨c, q, dt, r⟩, hl, hc, k, hd⟩ := hT
  change c = _ at hc
  change dt = _ at hd
  subst hc hd
  have M := mk_enumT b its k q r
  refine callType_new F.called_enumerate (by decide) (F.typeCall_enumerate_1 _) (F.newCall_enumerate_1 _) (fun o => F.args_object_init_2 o _) F.entry_enumerate_new M ⟨hl, ?_⟩
  have hz : (z.heap.push { cls := .type "tuple_iterator", data := .fields #[.ref b, .int 0 0] }).objs.size = z.heap.objs.size + 1 := Heap.size_push ..
  have he := Heap.get?_push_size (z.heap.push { cls := .type "tuple_iterator", data := .fields #[.ref b, .int 0 0] }) (o := { cls := .type "enumerate", data := .fields #[.none, .bool false, .ref z.heap.objs.size, rawInt 0, .none, .none] }) rfl
  show _ ∧ _
  rw [hz] at he ⊢
  exact ⟨⟨_, he, rfl⟩, f _ he ⟨_, Heap.get?_push_of_some _ (Heap.get?_push_size _ rfl), rfl, rfl⟩ push2⟩
/-- the tuple at a, each item in a new pair -/
def IteT (K : PySem.W.Frag) (a : Addr) : It :=
  ⟨fun i H => ∃ (l : List V) (v : V), SqT K H a l ∧ l[i]? = some v,
   fun i H u H' => ∃ P v, u = .ref P ∧ H P = none ∧ H' = upd H P (.tup [.int (i : Nat), v]) ∧ ∀ l, SqT K H a l → l[i]? = some v,
   fun i H => ∃ l : List V, SqT K H a l ∧ l.length ≤ i⟩
theorem turn_enumT {P : Program} {w : World} {K : PySem.W.Frag} {elts : List Expr} {kk : Nat} {tpos : Pos} (a e it : Addr) (hat : a ≠ it) :
    Turn P w K (.Tuple elts kk tpos) (IteT K a) [e, it] e (fun i h => (∃ u, IsEnum h e it ((i : Nat) : Int) u) ∧ h.IsTupleIter it a i ∧ e ≠ it) where
  mem := List.mem_cons_self
  obj := fun i h ⟨⟨u, he⟩, ⟨o, ho, hc, hd⟩, _⟩ b hb => by
    rcases List.mem_cons.mp hb with rfl | hb
    · exact ⟨_, he, fun v q => nomatch q⟩
    · rw [List.mem_singleton.mp hb]
      exact ⟨o, ho, fun v q => by rw [hd] at q; cases q⟩
  keep := fun i h h' ⟨⟨u, he⟩, hi, hne⟩ k => ⟨⟨u, k e (by simp) _ he⟩, hi.at fun o q => k it (by simp) o q, hne⟩
  item := by
    intro X hP hw hK hc i pins s σ H E I hf st hg
    subst hP hw hK
    obtain ⟨⟨old, he⟩, hit, hne⟩ := st
    obtain ⟨l, v, hq, hx⟩ := hg
    obtain ⟨its, rv, p, hz⟩ := I.tuple hq
    obtain ⟨u, hu, ru⟩ := rv.get hx
    have hh := I.ok.hd hc
    have hel : e < s.heap.objs.size := Heap.lt_size he
    have hil : it < s.heap.objs.size := hit.elim fun _ q => Heap.lt_size q.1
    by_cases hea : e = a
    · subst hea
      obtain ⟨o, ho, hcl, _⟩ := p
      rw [he] at ho
      cases ho
      exact absurd hcl (by simp)
    refine wpAny_pyNext_enum_itemD (Draws.tuple (by first | exact hh | simpa using hh) it a hat its.toArray) he ⟨hit, p⟩ (by have := rv.length; have := (List.getElem?_eq_some_iff.mp hx).1; simp; omega) hne (by simp [hne, hea]) fun x h' tk hPx ho hst' hT hsz hk => ?_
    obtain rfl : x = u := by
      have : its.toArray[i]? = some u := by simpa using hu
      exact Option.some.inj (hPx.symm.trans this)
    refine ⟨_, rfl, wpAny_letOwnedTupleGo_enum (s := { s with heap := h', toks := tk + 1 }) ho fun h2 he' sb => ?_⟩
    have hT2 : h2.get? s.heap.objs.size = some { cls := .type "tuple", data := .seq #[.int i tk, x] } := (sb.2 _ (Nat.ne_of_gt hel)).trans hT
    have new : ObjOk X.prog X.w (upd H s.heap.objs.size (.tup [.int (i : Nat), v])) h2 s.heap.objs.size (.tup [.int (i : Nat), v]) := ⟨by show 2 ≤ sizeLine; decide, [.int i tk, x], .cons ⟨_, rfl⟩ (.cons ru .nil), ⟨_, hT2, rfl, _, rfl⟩⟩
    have I1 := I.turnedNew (t' := tk + 1) (ch := [e, it]) (fun b o hb q => (sb.2 b (fun z => hb (by simp [z]))).trans (hk b o (fun z => hb (by simp [z])) (fun z => hb (by simp [z])) q)) hf (Nat.le_refl _) new
    refine ⟨.ref s.heap.objs.size, _, I1, rfl, ⟨_, v, rfl, I.hok.fresh (Nat.le_refl _), rfl, fun m hm => by rw [I.tuple_inj hm hq]; exact hx⟩, ⟨⟨x, ?_⟩, hst'.1.at fun o q => (sb.2 it (Ne.symm hne)).trans q, hne⟩, fun b hb => ?_⟩
    · rw [show ((i + 1 : Nat) : Int) = (i : Int) + 1 by omega]
      exact he'
    · have hlt : b < s.heap.objs.size := by
        rcases List.mem_cons.mp hb with rfl | z
        · exact hel
        · rw [List.mem_singleton.mp z]; exact hil
      rw [upd_ne (Nat.ne_of_lt hlt)]
      exact (hf b hb).1
  done := by
    intro X hP hw hK hc i pins s σ H E I hf st hg
    subst hP hw hK
    obtain ⟨⟨old, he⟩, hit, hne⟩ := st
    obtain ⟨l, hq, hx⟩ := hg
    obtain ⟨its, rv, p, hz⟩ := I.tuple hq
    have hh := I.ok.hd hc
    obtain ⟨f0, f1, f2, f3, f4, f5⟩ := hf it (by simp)
    have hl := rv.length
    have hend : its.toArray[i]? = none := by simp; omega
    have D : Draws X.prog X.w X.A.in1 it [it, a] i (fun _ _ => False) (fun j h => j = i ∧ h.IsTupleIter it a i ∧ h.IsTuple a its.toArray) :=
      ⟨fun _ _ ⟨_, ⟨o, ho, _⟩, _⟩ => ⟨o, ho⟩, fun _ _ _ ⟨q, x, y⟩ k => ⟨q, x.at fun o e => k it (by simp) o e, y.at fun o e => k a (by simp) o e⟩, fun j _ _ _ lt ⟨q, _⟩ => absurd lt (by omega), fun s Q E ⟨_, x, y⟩ hE => wpAny_nextOf_tuple_end (by first | exact hh | simpa using hh) x y hend hE⟩
    exact wpAny_pyNext_enum_endD D he ⟨rfl, hit, p⟩ fun h' eb => ⟨rfl, I.turned (t' := s.toks) (fun b o hb q => eb b o hb q) f0 f1 f3 f4 f5⟩
  self := fun A i s Q E ⟨⟨_, q⟩, _⟩ h => wpAny_pyIter_enum q h
/-- enumerate over a list or a tuple -/
def iEnumA (K : PySem.W.Frag) (ta : TA) : TI := fun σ H R => ta σ H fun vs H1 => ∃ a l, vs = [.ref a] ∧ ((SqL K H1 a l ∧ R (Ite K a) H1) ∨ (SqT K H1 a l ∧ R (IteT K a) H1))
theorem pi_enumA {X : Cx} {e : PySem.Expr} {ta : TA} {p pos tpos : Pos} {elts : List PySem.Expr} {kk : Nat} (hg : Gl X "enumerate") (hm : X.mg "enumerate" = none) (ha : PA X [e] ta) (hs : starEach [e] X.env = [(false, eval e X.env)] := by rfl) :
    PI X (.Tuple elts kk tpos) (.Call (.Name "enumerate" p) [e] [] pos) (iEnumA X.K ta) := by
  refine ⟨fun pins s σ H R I h => Call_ (ld_blt I hg hm boot_enumerate (PyProof.Rows.callWith_type1 (thn (ha.run pos pins s σ H _ I h) fun us s1 ⟨vs, H1, I1, r1, a, l, ex, q1⟩ => ?_) hs rfl))⟩
  subst ex
  cases r1 with
  | cons r rr =>
    cases rr
    cases r
    have fresh : ∀ b ∈ [s1.heap.objs.size + 1, s1.heap.objs.size], FpOk X pins H1 b := fun b hb => by
      have hle : s1.heap.objs.size ≤ b := by
        rcases List.mem_cons.mp hb with z | z
        · omega
        · rw [List.mem_singleton.mp z]; exact Nat.le_refl _
      exact I1.fpOk hle (I1.hok.fresh hle)
    rcases q1 with ⟨hq, q⟩ | ⟨hq, q⟩
    · obtain ⟨its, rv, p', hz⟩ := I1.list hq
      exact call_enumerate_list p'.isList fun h' he hit hsz hk => wpAny_pyIter_enum he ⟨_, _, _, _, H1, rfl, I1.kept (t' := s1.toks) hk, turn_enum a (s1.heap.objs.size + 1) s1.heap.objs.size, ⟨⟨.none, he⟩, hit, Nat.succ_ne_self _⟩, fresh, q⟩
    · obtain ⟨its, rv, p', hz⟩ := I1.tuple hq
      have hat : a ≠ s1.heap.objs.size := by
        obtain ⟨o, ho, _⟩ := p'
        exact Nat.ne_of_lt (Heap.lt_size ho)
      exact new_enumT p' fun h' he hit hk => wpAny_pyIter_enum he ⟨_, _, _, _, H1, rfl, I1.kept (t' := s1.toks) hk, turn_enumT a (s1.heap.objs.size + 1) s1.heap.objs.size hat, ⟨⟨.none, he⟩, hit, Nat.succ_ne_self _⟩, fresh, q⟩
end Vs
/-! V6: the own syntax and its evaluator. -/
namespace Vs
open PySem PySem.Spec L2
open PyProof.Rows hiding St

inductive PK where
  | ix (n : Int)
  | key (k : Key)
def dkSet : List Key → List D → Key → D → List D
  | k :: ks, d :: ds, q, x => if k = q then x :: ds else d :: dkSet ks ds q x
  | _, ds, _, _ => ds
def getP : List PK → D → Option D
  | [], d => some d
  | .ix n :: p, .ls ds => match atI ds n with
    | some d => getP p d
    | none => none
  | .key k :: p, .dk ks ds => match dkGet ks ds k with
    | some d => getP p d
    | none => none
  | _, _ => none
def setAt (ds : List D) (n : Int) (d : D) : List D := match ixN ds.length n with
  | some j => ds.set j d
  | none => ds
def setP : List PK → D → D → D
  | [], _, x => x
  | .ix n :: p, .ls ds, x => match atI ds n with
    | some d => .ls (setAt ds n (setP p d x))
    | none => .ls ds
  | .key k :: p, .dk ks ds, x => match dkGet ks ds k with
    | some d => .dk ks (dkSet ks ds k (setP p d x))
    | none => .dk ks ds
  | _, d, _ => d

/-! ### operands -/
inductive Sop where
  | e (f : EF)
  | v (i : Nat)
  | p (i : Nat) (path : List PK)
inductive Ov where
  | d (d : D)
  | v (i : Nat)
  | p (i : Nat) (path : List PK) (root : D)
def runO : List Sop → Env → Res (List Ov × Env)
  | [], ρ => .ok ([], ρ)
  | .e f :: r, ρ => (f ρ).bind fun p => (runO r p.2).bind fun q => .ok (.d p.1 :: q.1, q.2)
  | .v i :: r, ρ => match ρ[i]? with
    | some (some _) => (runO r ρ).bind fun q => .ok (.v i :: q.1, q.2)
    | _ => .no
  | .p i path :: r, ρ => match ρ[i]? with
    | some (some d) => match getP path d with
      | some _ => (runO r (ρ.set i none)).bind fun q => .ok (.p i path d :: q.1, q.2)
      | none => .no
    | _ => .no
/-- the locked names are given back -/
def unlock : List Ov → Env → Option Env
  | [], ρ => some ρ
  | .d _ :: r, ρ => unlock r ρ
  | .v _ :: r, ρ => unlock r ρ
  | .p i _ d :: r, ρ => match unlock r ρ with
    | some ρ' => match ρ'[i]? with
      | some none => some (ρ'.set i (some d))
      | _ => none
    | none => none
/-- the operands' values, once all stand -/
def ovs : List Ov → Env → Option (List D)
  | [], _ => some []
  | .d d :: r, ρ => match ovs r ρ with
    | some l => some (d :: l)
    | none => none
  | .v i :: r, ρ => match ρ[i]?, ovs r ρ with
    | some (some d), some l => some (d :: l)
    | _, _ => none
  | .p _ path d :: r, ρ => match getP path d, ovs r ρ with
    | some x, some l => some (x :: l)
    | _, _ => none
/-- owned values alone -/
def ods : List Ov → Option (List D)
  | [] => some []
  | .d d :: r => match ods r with
    | some l => some (d :: l)
    | none => none
  | _ :: _ => none
/-- an operation that reads its operands and makes something new -/
def opE (o : List D → Option D) (ops : List Sop) : EF := fun ρ => (runO ops ρ).bind fun q => match ovs q.1 q.2 with
  | some ds => match o ds with
    | some d => match unlock q.1 q.2 with
      | some ρ' => .ok (d, ρ')
      | none => .no
    | none => .no
  | none => .no
def mkTup (ds : List D) : D := match unsh ds with
  | some l => .sh (.tuple l)
  | none => .tp ds
/-- a display -/
def dispE (mk : List D → D) (ops : List Sop) : EF := fun ρ => (runO ops ρ).bind fun q => match ods q.1 with
  | some ds => if ds.length ≤ 1000 then .ok (mk ds, q.2) else .no
  | none => .no

inductive Op where
  | add | sub | mul | fdiv | mod | pow | band | bor | shl | shr
  | neg
  | lt | le | gt | ge | eq | ne | isin | notin | is_ | isnot
  | ix | sl | slL | slH | slLH
  | len | abs | int | repr | list | tuple | sorted | sum | all | any
  | lrng | lrng2 | trng | trng2
  | rev
  | isi (t : Ty)
  deriving DecidableEq
def un1 (o : D → Option D) : List D → Option D
  | [a] => o a
  | _ => none
def bi2 (o : D → D → Option D) : List D → Option D
  | [a, b] => o a b
  | _ => none
def powOk (i j : Int) : Bool := decide (0 ≤ j) && decide (j ≤ 1000000) && small64b i
/-- the ints from a up to b -/
def rgL (a b : Int) : List PyData := (List.range (b - a).toNat).map fun k => .int (a + (k : Nat))
def rgOk (a b : Int) : Bool := decide (-16777216 < a) && decide (a < 16777216) && decide (-16777216 < b) && decide (b < 16777216) && decide (b - a ≤ 16777216)
def oRg1 (mk : List PyData → D) : D → Option D
  | .sh (.int n) => guardO (rgOk 0 n) (mk (rgL 0 n))
  | _ => none
def oRg2 (mk : List PyData → D) : D → D → Option D
  | .sh (.int a), .sh (.int b) => guardO (rgOk a b) (mk (rgL a b))
  | _, _ => none
/-- x[::-1] -/
def oRev (x : D) : Option D := match x.seq with
  | some (.lst, l) => some (DL l.reverse)
  | some (.tup, l) => some (DT l.reverse)
  | none => none
def opD : Op → List D → Option D
  | .add => bi2 oAdd
  | .sub => bi2 (oInt2 (fun i j => i - j) fun _ _ => true)
  | .mul => bi2 oMul
  | .fdiv => bi2 (oInt2 (fun i j => i / j) fun _ j => decide (0 < j) && decide (j < 1073741824))
  | .mod => bi2 (oInt2 (fun i j => i % j) fun _ j => decide (0 < j))
  | .pow => bi2 (oInt2 (fun i j => i ^ j.toNat) powOk)
  | .band => bi2 (oInt2 (fun i j => Builtin.bitAnd i j) fun _ _ => true)
  | .bor => bi2 (oInt2 (fun i j => Builtin.bitOr i j) fun _ _ => true)
  | .shl => bi2 (oInt2 (fun i j => i * 2 ^ j.toNat) powOk)
  | .shr => bi2 (oInt2 (fun i j => i / 2 ^ j.toNat) fun _ j => decide (0 ≤ j))
  | .neg => un1 oNeg
  | .lt => bi2 (oCmpI fun i j => decide (i < j))
  | .le => bi2 (oCmpI fun i j => decide (i ≤ j))
  | .gt => bi2 (oCmpI fun i j => decide (j < i))
  | .ge => bi2 (oCmpI fun i j => decide (j ≤ i))
  | .eq => bi2 (oEq false)
  | .ne => bi2 (oEq true)
  | .isin => bi2 (oIn false)
  | .notin => bi2 (oIn true)
  | .is_ => bi2 (oIs false)
  | .isnot => bi2 (oIs true)
  | .ix => bi2 oIx
  | .sl => un1 (oSl none none)
  | .slL => bi2 fun a b => match b with
    | .sh (.int lo) => oSl (some lo) none a
    | _ => none
  | .slH => bi2 fun a b => match b with
    | .sh (.int hi) => oSl none (some hi) a
    | _ => none
  | .slLH => fun
    | [a, .sh (.int lo), .sh (.int hi)] => oSl (some lo) (some hi) a
    | _ => none
  | .len => un1 oLen
  | .abs => un1 oAbs
  | .int => un1 oInt
  | .repr => un1 oRepr
  | .list => un1 oList
  | .tuple => un1 oTuple
  | .sorted => un1 oSorted
  | .sum => un1 oSum
  | .all => un1 oAll
  | .any => un1 oAny
  | .rev => un1 oRev
  | .lrng => un1 (oRg1 DL)
  | .lrng2 => bi2 (oRg2 DL)
  | .trng => un1 (oRg1 DT)
  | .trng2 => bi2 (oRg2 DT)
  | .isi t => un1 (oIsi t)

/-! ### targets, what is walked -/
inductive Tg where
  | nm (i : Nat)
  | tp (is : List Nat)
def Tg.sl : Tg → List Nat
  | .nm i => [i]
  | .tp is => is
inductive ItK where
  | seq | rng | rng2 | enum | zip | rev
def setN (pr : List Nat) (i : Nat) (d : D) (ρ : Env) : Option Env := if pr.contains i then none else if i < ρ.length then some (ρ.set i (some d)) else none
def setAll (pr : List Nat) : List Nat → List D → Env → Option Env
  | [], [], ρ => some ρ
  | i :: is, d :: ds, ρ => match setN pr i d ρ with
    | some ρ' => setAll pr is ds ρ'
    | none => none
  | _, _, _ => none
def bindT (pr : List Nat) : Tg → D → Env → Option Env
  | .nm i, d, ρ => setN pr i d ρ
  | .tp is, .sh (.tuple l), ρ => setAll pr is (l.map .sh) ρ
  | .tp is, .tp ds, ρ => setAll pr is ds ρ
  | _, _, _ => none
def zipD : List PyData → List PyData → List PyData
  | a :: l, b :: m => .tuple [a, b] :: zipD l m
  | _, _ => []
def enumD : Int → List PyData → List PyData
  | i, a :: l => .tuple [.int i, a] :: enumD (i + 1) l
  | _, [] => []
def rngD (lo : Int) (n : Nat) : List PyData := (List.range n).map fun k => .int (lo + (k : Nat))
def itF : ItK → List D → Option (List PyData)
  | .seq, [d] => match d.seq with
    | some (_, l) => some l
    | none => none
  | .rng, [.sh (.int n)] => if n < 16777216 ∧ -16777216 < n then some (rngD 0 n.toNat) else none
  | .rng2, [.sh (.int a), .sh (.int b)] => if (a < 16777216 ∧ -16777216 < a) ∧ (b < 16777216 ∧ -16777216 < b) then some (rngD a (b - a).toNat) else none
  | .enum, [d] => match d.seq with
    | some (_, l) => some (enumD 0 l)
    | none => none
  | .rev, [d] => match d.seq with
    | some (_, l) => some l.reverse
    | none => none
  | .zip, [d, e] => match d.seq, e.seq with
    | some (.lst, l), some (.lst, m) => some (zipD l m)
    | some (.tup, l), some (.tup, m) => some (zipD l m)
    | _, _ => none
  | _, _ => none

/-! ### methods that change a list -/
inductive Mo where
  | append | extend | pop | popAt | insert | cnt | idx
/-- count and index of an owned list of shared things: nothing is changed -/
def moCnt (ds : List D) : List D → Option (List D × D)
  | [.sh p] => match unsh ds with
    | some l => if SeqAt.shaped p && SeqAt.shaped (.list l) then some (ds, DI (l.countP fun y => PyData.eqv y p)) else none
    | none => none
  | _ => none
def moIdx (ds : List D) : List D → Option (List D × D)
  | [.sh p] => match unsh ds with
    | some l => if SeqAt.shaped p && SeqAt.shaped (.list l) then (match l.findIdx? fun y => PyData.eqv y p with
      | some j => some (ds, DI (j : Nat))
      | none => none) else none
    | none => none
  | _ => none
def moAppend (ds : List D) : List D → Option (List D × D)
  | [d] => if ds.length < 1000000 then some (ds ++ [d], .sh .none) else none
  | _ => none
def moExtend (ds : List D) : List D → Option (List D × D)
  | [.ls es] => if ds.length + es.length ≤ 1000000 then some (ds ++ es, .sh .none) else none
  | _ => none
def moPop (ds : List D) : List D → Option (List D × D)
  | [] => match ds.getLast? with
    | some d => some (ds.dropLast, d)
    | none => none
  | _ => none
def moPopAt (ds : List D) : List D → Option (List D × D)
  | [.sh (.int i)] => match ixN ds.length i with
    | some j => match ds[j]? with
      | some d => if ds.length < 1000000 then some (ds.eraseIdx j, d) else none
      | none => none
    | none => none
  | _ => none
def moInsert (ds : List D) : List D → Option (List D × D)
  | [.sh (.int i), d] => if ds.length < 1000000 ∧ 0 ≤ i ∧ i < 4611686018427387904 then some (ds.take i.toNat ++ [d] ++ ds.drop i.toNat, .sh .none) else none
  | _ => none
def mo : Mo → List D → List D → Option (List D × D)
  | .append => moAppend
  | .extend => moExtend
  | .pop => moPop
  | .popAt => moPopAt
  | .insert => moInsert
  | .cnt => moCnt
  | .idx => moIdx

/-! ### what a def computes -/
inductive FR where
  | ok (r : D) (outs : List D)
  | ex (x : Exc) (outs : List D)
  | no
structure Den where
  io : List Bool
  m : List D → FR
structure Gam where
  con : Str → Option PyData
  fn : Str → Option Den

inductive Ex where
  | lit (d : PyData)
  | rd (i : Nat)
  | mv (i : Nat)
  | vw (i : Nat) (path : List PK)
  | gl (x : Str)
  | tup (es : List Ex)
  | lst (es : List Ex)
  | op (o : Op) (as : List Ex)
  | chn (o o' : Op) (a b c : Ex)
  | bop (k : Bool) (es : List Ex)
  | not (a : Ex)
  | ite (c a b : Ex)
  | call (f : Str) (as bs : List Ex) (ks : List Str) (π : List Nat)
  | mut (m : Mo) (i : Nat) (path : List PK) (as : List Ex)
  | lc (own : List Nat) (t : Tg) (k : ItK) (as : List Ex) (ifs : List Ex) (e : Ex)
  | fz (a : Ex)
  | at (i : Nat) (path : List PK)
  | dct (ks : List Key) (es : List Ex)

/-- the values in a call's order put into the parameters' order -/
def perm {α : Type} (π : List Nat) (l : List α) : Option (List α) := match π with
  | [] => some []
  | j :: π => match l[j]?, perm π l with
    | some x, some r => some (x :: r)
    | _, _ => none
/-- the arguments' values: owned ones, and names that the callee may change -/
def argD : List Bool → List Ov → Env → Option (List D × Env)
  | [], [], ρ => some ([], ρ)
  | false :: io, .d d :: r, ρ => match argD io r ρ with
    | some (l, ρ') => some (d :: l, ρ')
    | none => none
  | true :: io, .v i :: r, ρ => match ρ[i]? with
    | some (some d) => match argD io r (ρ.set i none) with
      | some (l, ρ') => some (d :: l, ρ')
      | none => none
    | _ => none
  | _, _, _ => none
/-- the changed ones given back -/
def backD : List Bool → List Ov → List D → Env → Option Env
  | [], [], [], ρ => some ρ
  | false :: io, _ :: r, outs, ρ => backD io r outs ρ
  | true :: io, .v i :: r, d :: outs, ρ => match ρ[i]? with
    | some none => backD io r outs (ρ.set i (some d))
    | _ => none
  | _, _, _, _ => none
def Ov.isSh : Ov → Bool
  | .d (.sh _) => true
  | .v _ => true
  | _ => false
/-- the operands of a call in the parameters' order -/
def arr (ks : List Str) (π : List Nat) (os : List Ov) : Option (List Ov) := match ks with
  | [] => some os
  | _ => if os.all Ov.isSh then perm π os else none
def callD (dn : Den) (ks : List Str) (ops : List Sop) (π : List Nat) : EF := fun ρ => (runO ops ρ).bind fun q => match arr ks π q.1 with
  | some os => match argD dn.io os q.2 with
    | some (ds, ρ1) => match dn.m ds with
      | .ok r outs => match backD dn.io os outs ρ1 with
        | some ρ2 => .ok (r, ρ2)
        | none => .no
      | .ex x outs => match backD dn.io os outs ρ1 with
        | some ρ2 => .ex x ρ2
        | none => .no
      | .no => .no
    | none => .no
  | none => .no
def callE (dn : Option Den) (ks : List Str) (ops : List Sop) (π : List Nat) : EF := match dn with
  | some dn => callD dn ks ops π
  | none => fun _ => .no
def mutE (m : Mo) (i : Nat) (path : List PK) (ops : List Sop) : EF := fun ρ => match ρ[i]? with
  | some (some root) => match getP path root with
    | some (.ls _) => match path with
      | [] => (runO ops ρ).bind fun q => match ods q.1, q.2[i]? with
        | some as, some (some (.ls ds)) => match mo m ds as with
          | some (ds', r) => .ok (r, q.2.set i (some (.ls ds')))
          | none => .no
        | _, _ => .no
      | path => (runO ops (ρ.set i none)).bind fun q => match ods q.1, getP path root, q.2[i]? with
        | some as, some (.ls ds), some none => match mo m ds as with
          | some (ds', r) => .ok (r, q.2.set i (some (setP path root (.ls ds'))))
          | none => .no
        | _, _, _ => .no
    | _ => .no
  | _ => .no
def wipeE (ρ : Env) : List Nat → Env
  | [] => ρ
  | i :: is => (wipeE ρ is).set i none
/-- a comprehension's loop -/
def lcL (own : List Nat) (t : Tg) (test : Env → Res (Bool × Env)) (f : EF) : List PyData → Env → List D → Option (List D × Env)
  | [], ρ, acc => some (acc, ρ)
  | p :: ps, ρ, acc => match bindT [] t (.sh p) ρ with
    | none => none
    | some ρ1 => match test ρ1 with
      | .ok (true, ρ2) => match f ρ2 with
        | .ok (d, ρ3) => if acc.length < 1000000 then lcL own t test f ps (wipeE ρ3 own) (acc ++ [d]) else none
        | _ => none
      | .ok (false, ρ2) => lcL own t test f ps (wipeE ρ2 own) acc
      | _ => none
def lcE (own : List Nat) (t : Tg) (k : ItK) (ops : List Sop) (test : Env → Res (Bool × Env)) (f : EF) : EF := fun ρ => (runO ops ρ).bind fun q => match ovs q.1 [] with
  | some ds => match itF k ds with
    | some ps => match lcL own t test f ps (wipeE q.2 own) [] with
      | some z => match unlock q.1 z.2 with
        | some ρ' => .ok (.ls z.1, ρ')
        | none => .no
      | none => .no
    | none => .no
  | none => .no
mutual
/-- all is shared now -/
def D.fz : D → Option PyData
  | .sh d => some d
  | .tp ds => match D.fzs ds with
    | some l => some (.tuple l)
    | none => none
  | .ls ds => match D.fzs ds with
    | some l => some (.list l)
    | none => none
  | _ => none
def D.fzs : List D → Option (List PyData)
  | [] => some []
  | d :: ds => match D.fz d, D.fzs ds with
    | some x, some l => some (x :: l)
    | _, _ => none
end
def boolE (f : EF) : Env → Res (Bool × Env) := fun ρ => (f ρ).bind fun q => match q.1 with
  | .sh (.bool b) => .ok (b, q.2)
  | _ => .no
def notE (f : EF) : EF := fun ρ => (f ρ).bind fun q => match q.1 with
  | .sh (.bool b) => .ok (DB (!b), q.2)
  | _ => .no
def iteE (c : Env → Res (Bool × Env)) (a b : EF) : EF := fun ρ => (c ρ).bind fun q => if q.1 = true then a q.2 else b q.2
def bopE (k : Bool) : List EF → EF
  | [] => fun _ => .no
  | [f] => f
  | f :: g :: r => fun ρ => (f ρ).bind fun q => match q.1 with
    | .sh (.bool b) => if b = k then bopE k (g :: r) q.2 else .ok (DB b, q.2)
    | _ => .no
/-- .. as a test: the last one a bool too -/
def bopT (k : Bool) : List (Env → Res (Bool × Env)) → Env → Res (Bool × Env)
  | [] => fun _ => .no
  | [f] => f
  | f :: g :: r => fun ρ => (f ρ).bind fun q => if q.1 = k then bopT k (g :: r) q.2 else .ok (q.1, q.2)
def chnE (o o' : List D → Option D) (a b c : EF) : EF := fun ρ => (runO [.e a, .e b] ρ).bind fun q => match ods q.1 with
  | some [x, y] => match o [x, y] with
    | some (.sh (.bool true)) => (c q.2).bind fun z => match o' [y, z.1] with
      | some d => .ok (d, z.2)
      | none => .no
    | some (.sh (.bool false)) => .ok (DB false, q.2)
    | _ => .no
  | _ => .no
def fzE (f : EF) : EF := fun ρ => (f ρ).bind fun q => match q.1.fz with
  | some d => .ok (.sh d, q.2)
  | none => .no
def noE : EF := fun _ => .no
/-- what stands at a place, shared -/
def atE (i : Nat) (path : List PK) : EF := fun ρ => match ρ[i]? with
  | some (some root) => match getP path root with
    | some (.sh d) => .ok (.sh d, ρ)
    | _ => .no
  | _ => .no
/-- a dict's display -/
def dctE (ks : List Key) (ops : List Sop) : EF := fun ρ => (runO ops ρ).bind fun q => match ods q.1 with
  | some ds => if ks.length = ds.length ∧ ks.Nodup then .ok (.dk ks ds, q.2) else .no
  | none => .no
def litE (d : PyData) : EF := fun ρ => .ok (.sh d, ρ)
def rdE (i : Nat) : EF := fun ρ => match ρ[i]? with
  | some (some (.sh d)) => .ok (.sh d, ρ)
  | _ => .no
def mvE (i : Nat) : EF := fun ρ => match ρ[i]? with
  | some (some d) => .ok (d, ρ.set i none)
  | _ => .no
def glE (o : Option PyData) : EF := match o with
  | some d => litE d
  | none => noE
def intE (f : EF) : EF := fun ρ => (f ρ).bind fun q => match q.1 with
  | .sh (.int i) => .ok (DI i, q.2)
  | _ => .no
/-- the bounds of a slice are looked at as they are made -/
def wrapO : Op → List Sop → List Sop
  | .slLH, [p, .e f, .e g] => [p, .e (intE f), .e (intE g)]
  | .slLH, _ => [.e noE]
  | _, l => l
abbrev TF := Env → Res (Bool × Env)
def ifT : List TF → TF
  | [] => fun ρ => .ok (true, ρ)
  | [c] => c
  | _ => fun _ => .no
mutual
def ev (Γ : Gam) : Ex → EF
  | .lit d => litE d
  | .rd i => rdE i
  | .mv i => mvE i
  | .vw _ _ => noE
  | .gl x => glE (Γ.con x)
  | .tup es => dispE mkTup (sops Γ es)
  | .lst es => dispE .ls (sops Γ es)
  | .op o as => opE (opD o) (wrapO o (sops Γ as))
  | .chn o o' a b c => chnE (opD o) (opD o') (ev Γ a) (ev Γ b) (ev Γ c)
  | .bop k es => bopE k (evs Γ es)
  | .not a => notE (ev Γ a)
  | .ite c a b => iteE (evT Γ c) (ev Γ a) (ev Γ b)
  | .call f as bs ks π => callE (Γ.fn f) ks (sops Γ as ++ sops Γ bs) π
  | .mut m i path as => mutE m i path (sops Γ as)
  | .lc own t k as ifs e => lcE own t k (lops Γ as) (ifT (evTs Γ ifs)) (ev Γ e)
  | .fz a => fzE (ev Γ a)
  | .at i p => atE i p
  | .dct ks es => dctE ks (sops Γ es)
def evT (Γ : Gam) : Ex → Env → Res (Bool × Env)
  | .bop k es => bopT k (evTs Γ es)
  | .not a => fun ρ => (evT Γ a ρ).bind fun q => .ok (!q.1, q.2)
  | .lit d => boolE (litE d)
  | .rd i => boolE (rdE i)
  | .op o as => boolE (opE (opD o) (wrapO o (sops Γ as)))
  | .chn o o' a b c => boolE (chnE (opD o) (opD o') (ev Γ a) (ev Γ b) (ev Γ c))
  | .call f as bs ks π => boolE (callE (Γ.fn f) ks (sops Γ as ++ sops Γ bs) π)
  | _ => fun _ => .no
def evs (Γ : Gam) : List Ex → List EF
  | [] => []
  | e :: es => ev Γ e :: evs Γ es
def evTs (Γ : Gam) : List Ex → List (Env → Res (Bool × Env))
  | [] => []
  | e :: es => evT Γ e :: evTs Γ es
def sops (Γ : Gam) : List Ex → List Sop
  | [] => []
  | .vw i [] :: es => .v i :: sops Γ es
  | .vw i p :: es => .p i p :: sops Γ es
  | e :: es => .e (ev Γ e) :: sops Γ es
/-- a loop's: locked -/
def lops (Γ : Gam) : List Ex → List Sop
  | [] => []
  | .vw i p :: es => .p i p :: lops Γ es
  | e :: es => .e (ev Γ e) :: lops Γ es
end
end Vs
/-! V7: operands run; what an operation, a display gives, as HandS readings. -/
namespace Vs
open PySem PySem.Spec L2
open PyProof.Rows hiding St

theorem nd_app {A B : List Addr} : (A ++ B).Nodup ↔ A.Nodup ∧ B.Nodup ∧ ∀ a ∈ A, a ∉ B := by
  rw [List.nodup_append]
  exact ⟨fun ⟨a, b, c⟩ => ⟨a, b, fun x h z => c x h x z rfl⟩, fun ⟨a, b, c⟩ => ⟨a, b, fun x h y k e => c x h (e ▸ k)⟩⟩

/-- from v along a path -/
inductive VAt (H : Hp) : V → List PK → V → Prop
  | nil {v : V} : VAt H v [] v
  | ix {a : Addr} {xs : List V} {n : Int} {u w : V} {p : List PK} : H a = some (.lst xs) → atI xs n = some u → VAt H u p w → VAt H (.ref a) (.ix n :: p) w
  | key {a : Addr} {kvs : List (Key × V)} {k : Key} {u w : V} {p : List PK} : H a = some (.dK kvs) → valV kvs k = some u → VAt H u p w → VAt H (.ref a) (.key k :: p) w
inductive RepO (G : Ga) (H : Hp) (σ : L2.St) : List V → List Ov → List Addr → Prop
  | nil : RepO G H σ [] [] []
  | d {v : V} {vs : List V} {d : D} {os : List Ov} {O T : List Addr} : Rep G H v d O → RepO G H σ vs os T → RepO G H σ (v :: vs) (.d d :: os) (O ++ T)
  | v {v : V} {vs : List V} {i : Nat} {os : List Ov} {T : List Addr} : σ[i]? = some (some v) → RepO G H σ vs os T → RepO G H σ (v :: vs) (.v i :: os) T
  | p {v v0 : V} {vs : List V} {i : Nat} {path : List PK} {root x : D} {os : List Ov} {T0 T : List Addr} : σ[i]? = some (some v0) → Rep G H v0 root T0 → VAt H v0 path v → getP path root = some x → RepO G H σ vs os T →
      RepO G H σ (v :: vs) (.p i path root :: os) (T0 ++ T)
def tPath (i : Nat) (path : List PK) : TE := fun σ H Q => ∃ v0 u, σ[i]? = some (some v0) ∧ VAt H v0 path u ∧ Q u H
def tO (G : Ga) (W : WX) : List Sop → TA
  | [] => tNil
  | .e f :: r => tCons (tE G W f) (tO G W r)
  | .v i :: r => tCons (tVar i) (tO G W r)
  | .p i path :: r => tCons (tPath i path) (tO G W r)
section
variable {G : Ga} {W : WX} {σ : L2.St} {H H' : Hp} {S : List Addr}
theorem atI_map {α β : Type} {xs : List α} {ys : List β} {i : Int} {y : β} (hl : xs.length = ys.length) (h : atI ys i = some y) : ∃ (j : Nat) (x : α), ys[j]? = some y ∧ xs[j]? = some x ∧ atI xs i = some x ∧ ixN ys.length i = some j := by
  unfold atI at h
  cases e : ixN ys.length i with
  | none => rw [e] at h; cases h
  | some j =>
    rw [e] at h
    have hj : j < ys.length := (List.getElem?_eq_some_iff.mp h).1
    have e' : ixN xs.length i = some j := by rw [hl]; exact e
    have hx : xs[j]? = some (xs[j]'(by omega)) := List.getElem?_eq_getElem _
    refine ⟨j, _, h, hx, ?_, rfl⟩
    unfold atI
    rw [e']
    exact hx
theorem dk_at : ∀ {kvs : List (Key × V)} {ds : List D} {T : List Addr} {k : Key} {d : D}, Reps G H (kvs.map (·.2)) ds T → dkGet (kvs.map (·.1)) ds k = some d → ∃ v T', valV kvs k = some v ∧ Rep G H v d T' ∧ ∀ a ∈ T', a ∈ T
  | [], ds, T, k, d, h, e => by simp [dkGet] at e
  | (q, v) :: kvs, ds, T, k, d, h, e => by
    cases h with
    | cons h hs =>
      simp only [List.map_cons, dkGet] at e
      by_cases hk : q = k
      · rw [if_pos hk] at e
        cases e
        exact ⟨v, _, valV_pos hk, h, fun a z => List.mem_append_left _ z⟩
      · rw [if_neg hk] at e
        obtain ⟨u, T', a, b, c⟩ := dk_at hs e
        exact ⟨u, T', by rw [valV_neg hk]; exact a, b, fun x z => List.mem_append_right _ (c x z)⟩
theorem Reps.getS : ∀ {vs : List V} {ds : List D} {O : List Addr} {i : Nat} {d : D}, Reps G H vs ds O → ds[i]? = some d → ∃ v T, vs[i]? = some v ∧ Rep G H v d T ∧ ∀ a ∈ T, a ∈ O
  | _, _, _, i, d, .nil, e => by simp at e
  | _, _, _, 0, d, .cons h hs, e => by simp at e; subst e; exact ⟨_, _, rfl, h, fun a z => List.mem_append_left _ z⟩
  | _, _, _, i + 1, d, .cons h hs, e => by
    obtain ⟨v, T, a, b, c⟩ := Reps.getS (i := i) hs (by simpa using e)
    exact ⟨v, T, by simpa using a, b, fun x z => List.mem_append_right _ (c x z)⟩
/-- a place within a tree -/
theorem Rep.place : ∀ {p : List PK} {v : V} {d x : D} {T : List Addr}, Rep G H v d T → getP p d = some x → ∃ u T', VAt H v p u ∧ Rep G H u x T' ∧ ∀ a ∈ T', a ∈ T
  | [], v, d, x, T, h, e => by
    unfold getP at e; cases e
    exact ⟨v, T, .nil, h, fun a z => z⟩
  | .ix n :: p, v, d, x, T, h, e => by
    cases h with
    | @ls a xs ds O q hs =>
      unfold getP at e
      split at e
      · rename_i y ey
        obtain ⟨j, u, e1, e2, e3, _⟩ := atI_map hs.len ey
        obtain ⟨v', T', a1, a2, a3⟩ := hs.getS e1
        rw [e2] at a1; cases a1
        obtain ⟨w, T2, b1, b2, b3⟩ := Rep.place a2 e
        exact ⟨w, T2, .ix q e3 b1, b2, fun z hz => List.mem_cons_of_mem _ (a3 z (b3 z hz))⟩
      · cases e
    | sh _ => simp [getP] at e
    | tp _ _ => simp [getP] at e
    | dk _ _ => simp [getP] at e
    | dd _ _ _ _ => simp [getP] at e
    | ob _ _ _ => simp [getP] at e
    | fn _ => simp [getP] at e
  | .key k :: p, v, d, x, T, h, e => by
    cases h with
    | dk q hs =>
      unfold getP at e
      split at e
      · rename_i y ey
        obtain ⟨u, T', e3, a2, a3⟩ := dk_at hs ey
        obtain ⟨w, T2, b1, b2, b3⟩ := Rep.place a2 e
        exact ⟨w, T2, .key q e3 b1, b2, fun z hz => List.mem_cons_of_mem _ (a3 z (b3 z hz))⟩
      · cases e
    | sh _ => simp [getP] at e
    | tp _ _ => simp [getP] at e
    | ls _ _ => simp [getP] at e
    | dd _ _ _ _ => simp [getP] at e
    | ob _ _ _ => simp [getP] at e
    | fn _ => simp [getP] at e
theorem VAt.inj {v u w : V} {p : List PK} (h : VAt H v p u) : VAt H v p w → u = w := by
  induction h with
  | nil => intro q; cases q; rfl
  | ix a b c ih =>
    intro q
    cases q with
    | ix a' b' c' =>
      rw [a] at a'; cases a'
      rw [b] at b'; cases b'
      exact ih c'
  | key a b c ih =>
    intro q
    cases q with
    | key a' b' c' =>
      rw [a] at a'; cases a'
      rw [b] at b'; cases b'
      exact ih c'
/-- .. stays while what is held stays -/
theorem VAt.fr {p : List PK} {v u : V} {d x : D} {T : List Addr} (h : VAt H v p u) (r : Rep G H v d T) (e : getP p d = some x) (f : Frm S H H') (m : MutA H S) (n : ∀ a ∈ T, a ∉ S) : VAt H' v p u := by
  obtain ⟨u', T', a, b, c⟩ := Rep.place (Rep.fr r f m n) e
  obtain ⟨u2, T2, a2, b2, c2⟩ := Rep.place r e
  have : ∀ {p : List PK} {v u : V} {d x : D} {T : List Addr}, VAt H v p u → Rep G H v d T → getP p d = some x → (∀ a ∈ T, a ∉ S) → VAt H' v p u := by
    intro p
    induction p with
    | nil => intro v u d x T h _ _ _; cases h; exact .nil
    | cons k p ih =>
      intro v u d x T h r e n
      cases h with
      | ix q1 q2 q3 =>
        cases r with
        | ls z hs =>
          rw [q1] at z; cases z
          unfold getP at e
          split at e
          · rename_i y ey
            obtain ⟨j, u', e1, e2, e3, _⟩ := atI_map hs.len ey
            rw [q2] at e3; cases e3
            obtain ⟨v', T', a1, a2, a3⟩ := hs.getS e1
            rw [e2] at a1; cases a1
            exact .ix (f _ _ q1 (n _ List.mem_cons_self)) q2 (ih q3 a2 e fun b hb => n b (List.mem_cons_of_mem _ (a3 b hb)))
          · cases e
        | sh _ => simp [getP] at e
        | tp _ _ => simp [getP] at e
        | dk _ _ => simp [getP] at e
        | dd _ _ _ _ => simp [getP] at e
        | ob _ _ _ => simp [getP] at e
        | fn _ => simp [getP] at e
      | key q1 q2 q3 =>
        cases r with
        | dk z hs =>
          rw [q1] at z; cases z
          unfold getP at e
          split at e
          · rename_i y ey
            obtain ⟨u', T', e3, a2, a3⟩ := dk_at hs ey
            rw [q2] at e3; cases e3
            exact .key (f _ _ q1 (n _ List.mem_cons_self)) q2 (ih q3 a2 e fun b hb => n b (List.mem_cons_of_mem _ (a3 b hb)))
          · cases e
        | sh _ => simp [getP] at e
        | tp _ _ => simp [getP] at e
        | ls _ _ => simp [getP] at e
        | dd _ _ _ _ => simp [getP] at e
        | ob _ _ _ => simp [getP] at e
        | fn _ => simp [getP] at e
  exact this h r e n
theorem RepO.fr : ∀ {vs : List V} {os : List Ov} {O : List Addr}, RepO G H σ vs os O → Frm S H H' → MutA H S → (∀ a ∈ O, a ∉ S) → RepO G H' σ vs os O
  | _, _, _, .nil, _, _, _ => .nil
  | _, _, _, .d h hs, f, m, n => .d (Rep.fr h f m fun a q => n a (List.mem_append_left _ q)) (RepO.fr hs f m fun a q => n a (List.mem_append_right _ q))
  | _, _, _, .v e hs, f, m, n => .v e (RepO.fr hs f m n)
  | _, _, _, .p e r va g hs, f, m, n => .p e (Rep.fr r f m fun a q => n a (List.mem_append_left _ q)) (va.fr r g f m fun a q => n a (List.mem_append_left _ q)) g (RepO.fr hs f m fun a q => n a (List.mem_append_right _ q))
theorem RepO.mut : ∀ {vs : List V} {os : List Ov} {O : List Addr}, RepO G H σ vs os O → MutA H O
  | _, _, _, .nil => fun _ q => nomatch q
  | _, _, _, .d h hs => MutA.app (Rep.mut h) (RepO.mut hs)
  | _, _, _, .v e hs => RepO.mut hs
  | _, _, _, .p e r _ _ hs => MutA.app (Rep.mut r) (RepO.mut hs)

/-- what follows when the operands stand -/
def OpsR (G : Ga) (W : WX) (ops : List Sop) (σ : L2.St) (H : Hp) (ρ : Env) (O : List Addr) (R : List V → Hp → Prop) : Prop :=
  match runO ops ρ with
  | .ok (os, ρ') => ∀ vs H' O' T, RepE G H' σ ρ' O' → RepO G H' σ vs os T → (T ++ O').Nodup → Go O H (T ++ O') H' → R vs H'
  | .ex x ρ' => ∀ cls dd H', ExR G O H ρ' x cls dd σ H' → W cls dd σ H'
  | .no => False
theorem Go.held {O T S1 : List Addr} {H1 : Hp} (g : Go O H S1 H1) : Go (T ++ O) H (T ++ S1) H1 := by
  refine ⟨fun a o e n => g.frm a o e fun q => n (List.mem_append_right _ q), fun a q => ?_⟩
  rcases List.mem_append.mp q with q | q
  · exact .inl (List.mem_append_left _ q)
  · exact (g.sub a q).imp (fun z => List.mem_append_right _ z) id
/-- the operands run, from the left -/
theorem run_ops : ∀ (ops : List Sop) {σ : L2.St} {H : Hp} {R : List V → Hp → Prop} (ρ : Env) (O : List Addr), RepE G H σ ρ O → O.Nodup → OpsR G W ops σ H ρ O R → tO G W ops σ H R
  | [], σ, H, R, ρ, O, rE, nd, h => h [] H O [] rE .nil nd Go.refl
  | .v i :: r, σ, H, R, ρ, O, rE, nd, h => by
    unfold OpsR runO at h
    cases e : ρ[i]? with
    | none => rw [e] at h; exact h.elim
    | some o =>
      cases o with
      | none => rw [e] at h; exact h.elim
      | some d =>
        rw [e] at h
        obtain ⟨v, _, _, ev, _⟩ := rE.out e
        refine ⟨v, ev, ?_⟩
        refine run_ops r ρ O rE nd ?_
        unfold OpsR
        have h : (match (runO r ρ).bind fun q => .ok (.v i :: q.1, q.2) with
          | .ok (os, ρ') => ∀ vs H' O' T, RepE G H' σ ρ' O' → RepO G H' σ vs os T → (T ++ O').Nodup → Go O H (T ++ O') H' → R vs H'
          | .ex x ρ' => ∀ cls dd H', ExR G O H ρ' x cls dd σ H' → W cls dd σ H'
          | .no => False) := h
        cases er : runO r ρ with
        | no => rw [er] at h; exact h.elim
        | ex x ρ' => rw [er] at h; exact h
        | ok q =>
          obtain ⟨os, ρ2⟩ := q
          rw [er] at h
          intro vs H2 O2 T2 rE2 rO2 nd2 go2
          exact h (v :: vs) H2 O2 T2 rE2 (.v ev rO2) nd2 go2
  | .p i path :: r, σ, H, R, ρ, O, rE, nd, h => by
    unfold OpsR runO at h
    cases e : ρ[i]? with
    | none => rw [e] at h; exact h.elim
    | some o =>
      cases o with
      | none => rw [e] at h; exact h.elim
      | some d =>
        simp only [e] at h
        cases eg : getP path d with
        | none => rw [eg] at h; exact h.elim
        | some x =>
        rw [eg] at h
        obtain ⟨v0, O1, O2, ev, rv, pm, rE'⟩ := rE.out e
        obtain ⟨u, T', va, _, _⟩ := rv.place eg
        refine ⟨v0, u, ev, va, ?_⟩
        have nd' := nd_app.mp (pm.nodup nd)
        refine run_ops r (ρ.set i none) O2 rE' nd'.2.1 ?_
        unfold OpsR
        have h : (match (runO r (ρ.set i none)).bind fun q => .ok (.p i path d :: q.1, q.2) with
          | .ok (os, ρ') => ∀ vs H' O' T, RepE G H' σ ρ' O' → RepO G H' σ vs os T → (T ++ O').Nodup → Go O H (T ++ O') H' → R vs H'
          | .ex x ρ' => ∀ cls dd H', ExR G O H ρ' x cls dd σ H' → W cls dd σ H'
          | .no => False) := h
        cases er : runO r (ρ.set i none) with
        | no => rw [er] at h; exact h.elim
        | ex x ρ' =>
          rw [er] at h
          intro cls dd H' ⟨O', a, b, c, e⟩
          exact h cls dd H' ⟨O', a, b, c.more fun x q => pm.mem_iff.mpr (List.mem_append_right _ q), e⟩
        | ok q =>
          obtain ⟨os, ρ2⟩ := q
          rw [er] at h
          intro vs H2 O3 T2 rE2 rO2 nd2 go2
          have m1 : MutA H O2 := rE'.mut
          have dis : ∀ a ∈ O1, a ∉ O2 := nd'.2.2
          have keep := go2.keep (T := O1) fun a q => ⟨dis a q, rv.mut.some a q⟩
          refine h (u :: vs) H2 O3 (O1 ++ T2) rE2 (.p ev (rv.fr go2.frm m1 dis) (va.fr rv eg go2.frm m1 dis) eg rO2) ?_ ?_
          · rw [List.append_assoc]
            exact nd_app.mpr ⟨nd'.1, nd2, keep⟩
          · rw [List.append_assoc]
            exact (go2.held (T := O1)).more fun x q => pm.mem_iff.mpr q
  | .e f :: r, σ, H, R, ρ, O, rE, nd, h => by
    unfold OpsR runO at h
    refine ⟨ρ, O, rE, nd, ?_⟩
    cases ef : f ρ with
    | no => rw [ef] at h; exact h.elim
    | ex x ρ' => rw [ef] at h; exact h
    | ok p =>
      obtain ⟨d, ρ1⟩ := p
      rw [ef] at h
      intro v H1 ⟨O1, T1, rE1, rv, nd1, go1⟩
      have nd1' := nd_app.mp nd1
      refine run_ops r ρ1 O1 rE1 nd1'.2.1 ?_
      unfold OpsR
      have h : (match (runO r ρ1).bind fun q => .ok (.d d :: q.1, q.2) with
        | .ok (os, ρ') => ∀ vs H' O' T, RepE G H' σ ρ' O' → RepO G H' σ vs os T → (T ++ O').Nodup → Go O H (T ++ O') H' → R vs H'
        | .ex x ρ' => ∀ cls dd H', ExR G O H ρ' x cls dd σ H' → W cls dd σ H'
        | .no => False) := h
      cases er : runO r ρ1 with
      | no => rw [er] at h; exact h.elim
      | ex x ρ' =>
        rw [er] at h
        intro cls dd H' ⟨O', a, b, c, e⟩
        exact h cls dd H' ⟨O', a, b, (go1.less fun x q => List.mem_append_right _ q).trans c, e⟩
      | ok q =>
        obtain ⟨os, ρ2⟩ := q
        rw [er] at h
        intro vs H2 O2 T2 rE2 rO2 nd2 go2
        have m1 : MutA H1 O1 := rE1.mut
        have dis : ∀ a ∈ T1, a ∉ O1 := nd1'.2.2
        have keep := go2.keep (T := T1) fun a q => ⟨dis a q, rv.mut.some a q⟩
        refine h (v :: vs) H2 O2 (T1 ++ T2) rE2 (.d (rv.fr go2.frm m1 dis) rO2) ?_ ?_
        · rw [List.append_assoc]
          exact nd_app.mpr ⟨nd1'.1, nd2, keep⟩
        · rw [List.append_assoc]
          exact go1.trans (go2.held (T := T1))
/-- the operands' values -/
theorem ovs_ok : ∀ {os : List Ov} {vs : List V} {T O : List Addr} {ρ : Env} {ds : List D}, RepO G H σ vs os T → RepE G H σ ρ O → ovs os ρ = some ds → RVs G H vs ds
  | _, _, _, _, _, _, .nil, _, e => by unfold ovs at e; cases e; exact .nil
  | _, _, _, _, ρ, _, .d (os := os) r hs, rE, e => by
    unfold ovs at e
    cases e2 : ovs os ρ with
    | none => rw [e2] at e; cases e
    | some l => rw [e2] at e; cases e; exact .cons r (ovs_ok hs rE e2)
  | _, _, _, _, ρ, _, .v (i := i) (os := os) q hs, rE, e => by
    unfold ovs at e
    split at e
    · rename_i d l e1 e2
      cases e
      obtain ⟨v, O1, O2, a, b, _⟩ := rE.out e1
      rw [q] at a; cases a
      exact .cons b (ovs_ok hs rE e2)
    · cases e
  | _, _, _, _, ρ, _, .p (os := os) q r va g hs, rE, e => by
    unfold ovs at e
    split at e
    · rename_i d l e1 e2
      cases e
      obtain ⟨u, T', a, b, _⟩ := r.place e1
      cases a.inj va
      exact .cons b (ovs_ok hs rE e2)
    · cases e
/-- .. and the names given back -/
theorem unlock_ok : ∀ {os : List Ov} {vs : List V} {T O : List Addr} {ρ ρ' : Env}, RepO G H σ vs os T → RepE G H σ ρ O → (T ++ O).Nodup → unlock os ρ = some ρ' → ∃ O', RepE G H σ ρ' O' ∧ O'.Nodup ∧ ∀ a ∈ O', a ∈ T ++ O
  | _, _, _, _, _, _, .nil, rE, nd, e => by unfold unlock at e; cases e; exact ⟨_, rE, nd, fun a q => q⟩
  | _, _, _, _, ρ, _, .d (os := os) r hs, rE, nd, e => by
    unfold unlock at e
    rw [List.append_assoc] at nd ⊢
    obtain ⟨O', a, b, c⟩ := unlock_ok hs rE (nd_app.mp nd).2.1 e
    exact ⟨O', a, b, fun x q => List.mem_append_right _ (c x q)⟩
  | _, _, _, _, ρ, _, .v (i := i) (os := os) q hs, rE, nd, e => by
    unfold unlock at e
    exact unlock_ok hs rE nd e
  | _, _, _, O, ρ, _, .p (os := os) (T0 := T0) (T := T) q r va g hs, rE, nd, e => by
    unfold unlock at e
    split at e
    · rename_i ρ1 e1
      split at e
      · rename_i en
        cases e
        rw [List.append_assoc] at nd ⊢
        have nd' := nd_app.mp nd
        obtain ⟨O', a, b, c⟩ := unlock_ok hs rE nd'.2.1 e1
        obtain ⟨O2, pm, r2⟩ := a.put en q r
        refine ⟨O2, r2, pm.nodup_iff.mpr (nd_app.mpr ⟨nd'.1, b, fun x hx z => nd'.2.2 x hx (c x z)⟩), fun x hx => ?_⟩
        rcases List.mem_append.mp (pm.mem_iff.mp hx) with z | z
        · exact List.mem_append_left _ z
        · exact List.mem_append_right _ (c x z)
      · cases e
    · cases e
/-- behind an operation: something new, the names as they were -/
theorem new_ev {O O2 : List Addr} {ρ : Env} {d : D} {Q : VK} {H2 : Hp} (rE : RepE G H2 σ ρ O2) (nd : O2.Nodup) (go : Go O H O2 H2) (h : ∀ v H', EvR G O σ H ρ d v H' → Q v H') : NewR G H2 d Q := fun v H' T r ndT new fr => by
  refine h v H' ⟨O2, T, rE.fr (S := []) fr mut_nil (fun a _ z => nomatch z), r, nd_app.mpr ⟨ndT, nd, fun a q z => ?_⟩, go.trans ⟨fun a o e n => fr a o e (fun z => nomatch z), fun a q => ?_⟩⟩
  · obtain ⟨o, e⟩ := rE.mut.some a z
    rw [new a q] at e; cases e
  · rcases List.mem_append.mp q with q | q
    · exact .inr (new a q)
    · exact .inl q
theorem op_logic {o : List D → Option D} {ops : List Sop} {Q : VK} (h : tE G W (opE o ops) σ H Q) : tO G W ops σ H fun vs H2 => ∃ ds d, RVs G H2 vs ds ∧ o ds = some d ∧ NewR G H2 d Q := by
  obtain ⟨ρ, O, rE, nd, h⟩ := h
  refine run_ops ops ρ O rE nd ?_
  unfold OpsR
  unfold opE at h
  cases er : runO ops ρ with
  | no => rw [er] at h; exact h.elim
  | ex x ρ' => rw [er] at h; exact h
  | ok q =>
    obtain ⟨os, ρ2⟩ := q
    rw [er] at h
    intro vs H2 O2 T rE2 rO nd2 go
    simp only [Res.bind] at h
    cases e1 : ovs os ρ2 with
    | none => rw [e1] at h; exact h.elim
    | some ds =>
      cases e2 : o ds with
      | none => simp only [e1, e2] at h
      | some d =>
        cases e3 : unlock os ρ2 with
        | none => simp only [e1, e2, e3] at h
        | some ρ' =>
          simp only [e1, e2, e3] at h
          obtain ⟨O', rE3, nd3, sub⟩ := unlock_ok rO rE2 nd2 e3
          exact ⟨ds, d, ovs_ok rO rE2 e1, e2, new_ev rE3 nd3 (go.less sub) h⟩
/-! ### displays -/
theorem ods_ok : ∀ {os : List Ov} {vs : List V} {T : List Addr} {ds : List D}, RepO G H σ vs os T → ods os = some ds → Reps G H vs ds T
  | _, _, _, _, .nil, e => by unfold ods at e; cases e; exact .nil
  | _, _, _, _, .d (os := os) r hs, e => by
    unfold ods at e
    cases e2 : ods os with
    | none => rw [e2] at e; cases e
    | some l => rw [e2] at e; cases e; exact .cons r (ods_ok hs e2)
  | _, _, _, _, .v _ _, e => by unfold ods at e; cases e
  | _, _, _, _, .p _ _ _ _ _, e => by unfold ods at e; cases e
theorem disp_logic {mk : List D → D} {ops : List Sop} {Q : VK} (h : tE G W (dispE mk ops) σ H Q) : tO G W ops σ H fun vs H2 => ∃ ds T O2 ρ, vs.length ≤ 1000 ∧ Reps G H2 vs ds T ∧ RepE G H2 σ ρ O2 ∧ (T ++ O2).Nodup ∧
    ∀ v H3 T3, Rep G H3 v (mk ds) T3 → RepE G H3 σ ρ O2 → (T3 ++ O2).Nodup → Go (T ++ O2) H2 (T3 ++ O2) H3 → Q v H3 := by
  obtain ⟨ρ, O, rE, nd, h⟩ := h
  refine run_ops ops ρ O rE nd ?_
  unfold OpsR
  unfold dispE at h
  cases er : runO ops ρ with
  | no => rw [er] at h; exact h.elim
  | ex x ρ' => rw [er] at h; exact h
  | ok q =>
    obtain ⟨os, ρ2⟩ := q
    rw [er] at h
    intro vs H2 O2 T rE2 rO nd2 go
    simp only [Res.bind] at h
    cases e1 : ods os with
    | none => rw [e1] at h; exact h.elim
    | some ds =>
      simp only [e1] at h
      by_cases hl : ds.length ≤ 1000
      · rw [if_pos hl] at h
        have rs := ods_ok rO e1
        exact ⟨ds, T, O2, ρ2, by rw [rs.len]; exact hl, rs, rE2, nd2, fun v H3 T3 r rE3 nd3 go3 => h v H3 ⟨O2, T3, rE3, r, nd3, go.trans go3⟩⟩
      · rw [if_neg hl] at h; exact h.elim
theorem Reps.mkTup {vs : List V} {ds : List D} {T : List Addr} {a : Addr} (h : Reps G H vs ds T) (q : SqT G.K H a vs) : Rep G H (.ref a) (mkTup ds) T := by
  unfold Vs.mkTup
  split
  · rename_i l e
    obtain ⟨a1, a2⟩ := h.of_unsh e
    rw [a2]
    exact .sh (.tup q a1)
  · exact .tp q h
end
end Vs
/-! V8: when a piece of the model's syntax is an instance of the own one (positions do not matter). -/
namespace Vs
open PySem PySem.Spec L2
open PyProof.Rows hiding St

/-- where a text stands: its scope, the names by slot, the built-in names that the module leaves alone -/
structure Sc where
  sc : Scope
  N : List Str
  bl : List Str
  pats : Str → List (Nat × List Str × List Nat)
def relB (scope sc : Scope) : Scope :=
  { scope with names := scope.names.map fun (n, k) => if (k == .free && sc.kind == .function && sc.names.lookup n == some .cell) then (n, .cell) else (n, k) }
def Sc.blk (S : Sc) (scope : Scope) : Sc := { S with sc := relB scope S.sc }
def plainB (x : Str) : Bool := !(x == ("__debug__" : Str)) && !(x == ("__classdict__" : Str)) && decide (x ≠ "__name__")
def visB (S : Sc) (i : Nat) (x : Str) : Bool := decide (S.N[i]? = some x) && plainB x && (match S.sc.names.lookup x with
  | some .local | some .cell | some .free => true
  | _ => false)
def glB (S : Sc) (x : Str) : Bool := plainB x && decide (S.sc.names.lookup x = some .globalImplicit)
def bltB (S : Sc) (x : Str) : Bool := glB S x && S.bl.contains x
def litB : PyData → Const → Bool
  | .none, .none => true
  | .bool a, .bool b => a == b
  | .int a, .int b => decide (a = b)
  | .str a, .str b => decide (a = b)
  | _, _ => false
def notStar : PySem.Expr → Bool
  | .Starred _ _ => false
  | _ => true
def notSet : PySem.Expr → Bool
  | .Set _ _ _ => false
  | _ => true
def notSlice : PySem.Expr → Bool
  | .Slice _ _ _ _ => false
  | _ => true
def binOf : Op → Option Operator
  | .add => some .Add
  | .sub => some .Sub
  | .mul => some .Mult
  | .fdiv => some .FloorDiv
  | .mod => some .Mod
  | .pow => some .Pow
  | .band => some .BitAnd
  | .bor => some .BitOr
  | .shl => some .LShift
  | .shr => some .RShift
  | _ => none
def cmpOf : Op → Option CmpOp
  | .lt => some .Lt
  | .le => some .LtE
  | .gt => some .Gt
  | .ge => some .GtE
  | .eq => some .Eq
  | .ne => some .NotEq
  | .isin => some .In
  | .notin => some .NotIn
  | .is_ => some .Is
  | .isnot => some .IsNot
  | _ => none
def f1Of : Op → Option Str
  | .len => some "len"
  | .abs => some "abs"
  | .int => some "int"
  | .repr => some "repr"
  | .list => some "list"
  | .tuple => some "tuple"
  | .sorted => some "sorted"
  | .sum => some "sum"
  | .all => some "all"
  | .any => some "any"
  | _ => none
def isRev : Op → Bool
  | .rev => true
  | _ => false
def isRg (k : Nat) (o : Op) : Bool := match o with
  | .lrng => k == 0
  | .trng => k == 1
  | .lrng2 => k == 2
  | .trng2 => k == 3
  | _ => false
/-- list(range(..)), tuple(range(..)) -/
def rgArgs (S : Sc) (o : Op) (f : Str) (a : PySem.Expr) : Option (List PySem.Expr) := match a with
  | .Call (.Name g _) [x] [] _ => if decide (g = "range") && bltB S "range" && ((decide (f = "list") && bltB S "list" && isRg 0 o) || (decide (f = "tuple") && bltB S "tuple" && isRg 1 o)) then some [x] else none
  | .Call (.Name g _) [x, y] [] _ => if decide (g = "range") && bltB S "range" && ((decide (f = "list") && bltB S "list" && isRg 2 o) || (decide (f = "tuple") && bltB S "tuple" && isRg 3 o)) then some [x, y] else none
  | _ => none
/-- the operands' texts -/
def opArgs (S : Sc) (o : Op) : PySem.Expr → Option (List PySem.Expr)
  | .BinOp a p b _ => if binOf o = some p then some [a, b] else none
  | .Compare a [p] [b] _ => if cmpOf o = some p && notSet b then some [a, b] else none
  | .UnaryOp .USub a _ => match o with
    | .neg => some [a]
    | _ => none
  | .Subscript a (.Slice none none none _) _ => match o with
    | .sl => some [a]
    | _ => none
  | .Subscript a (.Slice none none (some (.UnaryOp .USub (.Constant (.int i) _ _) _)) _) _ => if decide (i = 1) && isRev o then some [a] else none
  | .Subscript a (.Slice (some b) none none _) _ => match o with
    | .slL => some [a, b]
    | _ => none
  | .Subscript a (.Slice none (some b) none _) _ => match o with
    | .slH => some [a, b]
    | _ => none
  | .Subscript a (.Slice (some b) (some c) none _) _ => match o with
    | .slLH => some [a, b, c]
    | _ => none
  | .Subscript a b _ => match o with
    | .ix => if notSlice b then some [a, b] else none
    | _ => none
  | .Call (.Name f _) [a] [] _ => if f1Of o = some f && bltB S f then some [a] else rgArgs S o f a
  | .Call (.Name f _) [a, .Name t _] [] _ => match o with
    | .isi ty => if decide (f = "isinstance") && bltB S "isinstance" && bltB S t && decide (t = Str.ofString ty.nm) then some [a] else none
    | _ => none
  | _ => none
/-- x[k1][k2].., the last step first -/
def mPathR (S : Sc) (i : Nat) : List PK → PySem.Expr → Bool
  | [], .Name x _ => visB S i x
  | .ix n :: p, .Subscript e (.Constant (.int k) _ _) _ => decide (k = n) && mPathR S i p e
  | .key k :: p, .Subscript e (.Constant (.str x) _ _) _ => decide (k = .inr x) && mPathR S i p e
  | _, _ => false
def mName (S : Sc) (i : Nat) : PySem.Expr → Bool
  | .Name x _ => visB S i x
  | _ => false
/-- a name that may be stored in (fn: a cell made here) -/
def stB (S : Sc) (fn : Str → Bool) (i : Nat) (x : Str) : Bool := decide (S.N[i]? = some x) && (match S.sc.names.lookup x with
  | some .local => true
  | some .cell => fn x
  | _ => false)
def mNames (S : Sc) (fn : Str → Bool) : List Nat → List PySem.Expr → Bool
  | [], [] => true
  | i :: is, .Name x _ :: es => stB S fn i x && mNames S fn is es
  | _, _ => false
def mTg (S : Sc) (fn : Str → Bool) : Tg → PySem.Expr → Bool
  | .nm i, .Name x _ => stB S fn i x
  | .tp is, .Tuple es _ _ => mNames S fn is es
  | _, _ => false
def itArgs (S : Sc) : ItK → PySem.Expr → Option (List PySem.Expr)
  | .seq, e => some [e]
  | .rng, .Call (.Name f _) [a] [] _ => if decide (f = "range") && bltB S f then some [a] else none
  | .rng2, .Call (.Name f _) [a, b] [] _ => if decide (f = "range") && bltB S f then some [a, b] else none
  | .enum, .Call (.Name f _) [a] [] _ => if decide (f = "enumerate") && bltB S f then some [a] else none
  | .rev, .Call (.Name f _) [a] [] _ => if decide (f = "reversed") && bltB S f then some [a] else none
  | .zip, .Call (.Name f _) [a, b] [] _ => if decide (f = "zip") && bltB S f then some [a, b] else none
  | _, _ => none
/-- an iterable that makes tuples wants a target of names -/
def itTup : ItK → Bool
  | .enum => true
  | .zip => true
  | _ => false
def isTup : PySem.Expr → Bool
  | .Tuple _ _ _ => true
  | _ => false
def moName : Mo → Str
  | .append => "append"
  | .extend => "extend"
  | .pop => "pop"
  | .popAt => "pop"
  | .insert => "insert"
  | .cnt => "count"
  | .idx => "index"
def kwB : List Keyword → Option (List PySem.Expr)
  | [] => some []
  | ⟨_, v, _⟩ :: r => match kwB r with
    | some l => some (v :: l)
    | none => none
def kwN : List Keyword → List (Option Str)
  | [] => []
  | ⟨n, _, _⟩ :: r => n :: kwN r
def bopOf : Bool → BoolOp
  | true => .And
  | false => .Or
def ownOf (S : Sc) (own : List Nat) : List (Str × Nat) := own.map fun i => ((S.N[i]?).getD Str.empty, i)
def mKeys : List Key → List (Option PySem.Expr) → Bool
  | [], [] => true
  | k :: ks, some (.Constant (.str x) _ _) :: es => decide (k = .inr x) && mKeys ks es
  | k :: ks, some (.Constant (.int n) _ _) :: es => decide (k = .inl n) && mKeys ks es
  | _, _ => false
mutual
def mE (S : Sc) (e : Ex) (x : PySem.Expr) : Bool := match e with
  | .lit d => match x with
    | .Constant c _ _ => litB d c
    | _ => false
  | .rd i => mName S i x
  | .mv i => mName S i x
  | .vw _ _ => false
  | .gl f => match x with
    | .Name y _ => decide (f = y) && glB S f
    | _ => false
  | .tup es => match x with
    | .Tuple xs _ _ => mEs S es xs
    | _ => false
  | .lst es => match x with
    | .List xs _ => mEs S es xs
    | _ => false
  | .op o as => match opArgs S o x with
    | some xs => mO S as xs
    | none => false
  | .chn o o' a b c => match x with
    | .Compare x [p, p'] [y, z] _ => decide (cmpOf o = some p) && decide (cmpOf o' = some p') && notSet y && notSet z && mE S a x && mE S b y && mE S c z
    | _ => false
  | .bop k es => match x with
    | .BoolOp p xs _ => decide (bopOf k = p) && !xs.isEmpty && mEs S es xs
    | _ => false
  | .not a => match x with
    | .UnaryOp .Not x _ => mE S a x
    | _ => false
  | .ite c a b => match x with
    | .IfExp x y z _ => mE S c x && mE S a y && mE S b z
    | _ => false
  | .call f as bs ks π => match x with
    | .Call (.Name g _) xs kws _ => decide (f = g) && glB S f && mO S as xs && (match kwB kws with
      | some ys => mO S bs ys
      | none => false) && decide (kwN kws = ks.map some) && (S.pats f).contains (xs.length, ks, π) && (!ks.isEmpty || decide (π = List.range xs.length))
    | _ => false
  | .mut m i path as => match x with
    | .Call (.Attribute o name ap) xs [] cp => decide (name = moName m) && mPathR S i path.reverse o && mO S as xs && ap.endLine == cp.line && decide (xs.length < 20)
    | _ => false
  | .lc own t k as ifs e => match x with
    | .ListComp x [⟨tg, it, cs, 0⟩] scope _ => (match itArgs S k it with
      | some xs => mL S as xs
      | none => false) && (!itTup k || isTup tg) && blkC S.N S.sc scope (ownOf S own) && mTg (S.blk scope) (fun x => scope.names.lookup x == some .cell) t tg && t.sl.all own.contains && decide (cs.length ≤ 1) && mEs (S.blk scope) ifs cs && mE (S.blk scope) e x && notSet it
    | _ => false
  | .fz a => mE S a x
  | .at i p => mPathR S i p.reverse x
  | .dct ks es => match x with
    | .Dict keys vs _ => mKeys ks keys && decide (keys.length = vs.length) && decide (keys.length ≤ 15) && mEs S es vs
    | _ => false
def mEs (S : Sc) : List Ex → List PySem.Expr → Bool
  | [], [] => true
  | e :: es, x :: xs => mE S e x && notStar x && mEs S es xs
  | _, _ => false
/-- operands -/
def mO (S : Sc) : List Ex → List PySem.Expr → Bool
  | [], [] => true
  | .vw i p :: es, x :: xs => mPathR S i p.reverse x && notStar x && mO S es xs
  | e :: es, x :: xs => mE S e x && notStar x && mO S es xs
  | _, _ => false
/-- a loop's operands -/
def mL (S : Sc) : List Ex → List PySem.Expr → Bool
  | [], [] => true
  | .vw i p :: es, x :: xs => mPathR S i p.reverse x && notStar x && mL S es xs
  | e :: es, x :: xs => mE S e x && notStar x && mL S es xs
  | _, _ => false
end
end Vs
/-! V9: the context; operands and operations of the model's syntax. -/
namespace Vs
open PySem PySem.Spec L2
open PyProof.Rows hiding St

def pick {α : Type} : List Bool → List α → List α
  | true :: io, v :: vs => v :: pick io vs
  | false :: io, _ :: vs => pick io vs
  | _, _ => []
/-- a def's promise: it computes what dn says -/
def spD (G : Ga) (dn : Den) : Sp := fun vs H Q E => vs.length = dn.io.length ∧ ∃ ds O, Reps G H vs ds O ∧ O.Nodup ∧
  match dn.m ds with
  | .ok r outs => ∀ v H' T O', Rep G H' v r T → Reps G H' (pick dn.io vs) outs O' → (T ++ O').Nodup → Go O H (T ++ O') H' → Q v H'
  | .ex x outs => ∀ cls dd H' O', Reps G H' (pick dn.io vs) outs O' → O'.Nodup → Go O H O' H' → XR G H' cls dd x → E cls dd H'
  | .no => False
/-- as FnOk, where no repr runs -/
structure FnG (P : Program) (w : World) (K : PySem.W.Frag) (mg : Str → Option Value) (base : Heap) (k : Nat) (f : Addr) (fd : FuncData) (ps : List Str) (sp : Sp) : Prop where
  len : ∀ vs H Q E, sp vs H Q E → vs.length = ps.length
  run : ∀ (A : Around) (outer : List PySem.Env) (s : Shared) (H : Hp) (args : Args) (us : List Value) (vs : List V) (Q : VK) (E : XK), Room k A → A.guards = some [] → Env0 P w K mg base A outer s H →
    BindsTo s fd args (ps.zip us) → Vals vs us → sp vs H Q E → codeAny (model P w) A (.call (.ref f) args) (CR (L2.CX P w) outer P w H s Q E) s
/-- how calls may bind: how many by place, the names of the others, where each parameter's value stands -/
abbrev Pat := Nat × List Str × List Nat
structure FnCl (G : Ga) (X : Cx) (f : Str) (dn : Den) (pats : List Pat) : Prop where
  to : ∃ (a : Addr) (fd : FuncData) (ps : List Str) (k : Nat), X.mg f = some (.ref a) ∧ PySem.W.keepIn X.K (.ref a) = true ∧ Room k X.A ∧ FnG X.prog X.w X.K X.mg X.base k a fd ps (spD G dn) ∧
    ∀ n ks π, (n, ks, π) ∈ pats → ∀ (s : Shared) (us ws zs : List Value), X.K.In s.heap → us.length = n → ws.length = ks.length → perm π (us ++ ws) = some zs → BindsTo s fd ⟨us, ks.zip ws⟩ (ps.zip zs)
structure Ctx (G : Ga) (Γ : Gam) (S : Sc) (X : Cx) : Prop where
  hG : G.K = X.K
  hw : G.w = X.w
  sc : X.env.scope = S.sc
  hN : X.N = S.N
  nd : S.N.Nodup
  calm : X.calm = true
  gd : X.A.guards = some []
  un : X.A.units + 65 < cLine
  con : ∀ x p, Γ.con x = some p → ∃ u v, X.mg x = some u ∧ RelV v u ∧ ∀ H, DpF X.K H v p
  fn : ∀ f dn, Γ.fn f = some dn → FnCl G X f dn (S.pats f)
  bl : ∀ x, S.bl.contains x = true → X.mg x = none

/-! ### operands in the model's syntax -/
def tS1 (G : Ga) (W : WX) : Sop → TE
  | .e f => tE G W f
  | .v i => tVar i
  | .p i path => tPath i path
theorem tO_cons {G : Ga} {W : WX} (o : Sop) (r : List Sop) : tO G W (o :: r) = tCons (tS1 G W o) (tO G W r) := by cases o <;> rfl
theorem tS1_mono {G : Ga} {W : WX} {o : Sop} {σ : L2.St} {H : Hp} {Q Q' : VK} (h : tS1 G W o σ H Q) (imp : ∀ v H', Q v H' → Q' v H') : tS1 G W o σ H Q' := by
  cases o with
  | e f =>
    obtain ⟨ρ, O, a, b, c⟩ := h
    refine ⟨ρ, O, a, b, ?_⟩
    cases ef : f ρ with
    | no => rw [ef] at c; exact c
    | ex x ρ' => rw [ef] at c; exact c
    | ok p => rw [ef] at c; exact fun v H' z => imp _ _ (c v H' z)
  | v i =>
    obtain ⟨v, a, b⟩ := h
    exact ⟨v, a, imp _ _ b⟩
  | p i path =>
    obtain ⟨v, u, a, b, c⟩ := h
    exact ⟨v, u, a, b, imp _ _ c⟩
inductive POs (X : Cx) (G : Ga) (W : WX) : List PySem.Expr → List Sop → Prop
  | nil : POs X G W [] []
  | cons {x : PySem.Expr} {xs : List PySem.Expr} {o : Sop} {os : List Sop} : PE X x (tS1 G W o) → notStar x = true → POs X G W xs os → POs X G W (x :: xs) (o :: os)
theorem star1 {x : PySem.Expr} {xs : List PySem.Expr} {env : PySem.Env} (h : notStar x = true) : starEach (x :: xs) env = (false, eval x env) :: starEach xs env := by
  cases x <;> first | rfl | cases h
section
variable {X : Cx} {G : Ga} {W : WX} {S : Sc} {Γ : Gam}
theorem POs.pa : ∀ {xs : List PySem.Expr} {os : List Sop}, POs X G W xs os → PA X xs (tO G W os)
  | _, _, .nil => pa_nil
  | _, _, .cons h n hs => by rw [tO_cons]; exact pa_cons h (POs.pa hs) (star1 n)
theorem POs.app : ∀ {xs ys : List PySem.Expr} {os ps : List Sop}, POs X G W xs os → POs X G W ys ps → POs X G W (xs ++ ys) (os ++ ps)
  | _, _, _, _, .nil, q => q
  | _, _, _, _, .cons h n hs, q => .cons h n (POs.app hs q)
theorem POs.plain : ∀ {xs : List PySem.Expr} {os : List Sop} (pos : Pos) (env : PySem.Env), POs X G W xs os → (backTo pos (starEach xs env)).any (·.1) = false
  | _, _, _, _, .nil => rfl
  | _, _, pos, env, .cons (xs := xs) h n hs => by
    rw [star1 n]
    show (false || (backTo pos (starEach xs env)).any (·.1)) = false
    rw [POs.plain pos env hs]; rfl
theorem pImp {e : PySem.Expr} {t t' : TE} (h : PE X e t) (i : ∀ σ H Q, t' σ H Q → t σ H Q) : PE X e t' := ⟨fun pins s σ H Q I q => h.run pins s σ H Q I (i σ H Q q)⟩
theorem ptImp {e : PySem.Expr} {t t' : TT} (h : PT X e t) (i : ∀ σ H Q, t' σ H Q → t σ H Q) : PT X e t' := ⟨fun pins s σ H Q I q => h.run pins s σ H Q I (i σ H Q q)⟩
theorem Ctx.vis (C : Ctx G Γ S X) {i : Nat} {x : Str} {pos : Pos} (h : visB S i x = true) : PE X (.Name x pos) (tVar i) := by
  unfold visB plainB at h
  simp only [Bool.and_eq_true, decide_eq_true_eq, Bool.not_eq_true'] at h
  obtain ⟨⟨h1, ⟨h2, h3⟩, h4⟩, h5⟩ := h
  refine pe_var (by rw [C.hN]; exact h1) ?_ h2 h3
  unfold Vis
  rw [C.sc]
  split at h5
  · exact .inl (by assumption)
  · exact .inr (.inl (by assumption))
  · exact .inr (.inr (by assumption))
  · cases h5
theorem Ctx.gl (C : Ctx G Γ S X) {x : Str} (h : glB S x = true) : Gl X x ∧ (x == ("__debug__" : Str)) = false ∧ x ≠ "__name__" := by
  unfold glB plainB at h
  simp only [Bool.and_eq_true, decide_eq_true_eq, Bool.not_eq_true'] at h
  refine ⟨?_, h.1.1.1, h.1.2⟩
  unfold Gl Env.kindOf
  rw [C.sc]; exact h.2
theorem Ctx.blt (C : Ctx G Γ S X) {x : Str} (h : bltB S x = true) : Gl X x ∧ (x == ("__debug__" : Str)) = false ∧ x ≠ "__name__" ∧ X.mg x = none := by
  unfold bltB at h
  rw [Bool.and_eq_true] at h
  obtain ⟨a, b, c⟩ := C.gl h.1
  exact ⟨a, b, c, C.bl x h.2⟩
/-- x[k1][k2].. -/
theorem VAt.unsnoc {H : Hp} : ∀ {p : List PK} {v w : V} {k : PK}, VAt H v (p ++ [k]) w → ∃ u, VAt H v p u ∧ VAt H u [k] w
  | [], v, w, k, h => ⟨v, .nil, h⟩
  | q :: p, v, w, k, h => by
    cases h with
    | ix q1 q2 q3 =>
      obtain ⟨u, z1, z2⟩ := VAt.unsnoc q3
      exact ⟨u, .ix q1 q2 z1, z2⟩
    | key q1 q2 q3 =>
      obtain ⟨u, z1, z2⟩ := VAt.unsnoc q3
      exact ⟨u, .key q1 q2 z1, z2⟩
theorem mPath_pe (C : Ctx G Γ S X) {i : Nat} : ∀ (p : List PK) {e : PySem.Expr}, mPathR S i p e = true → PE X e (tPath i p.reverse)
  | [], .Name x pos, h => pImp (C.vis h) fun σ H Q ⟨v, u, a, b, c⟩ => by cases b; exact ⟨v, a, c⟩
  | .ix n :: p, .Subscript e (.Constant (.int k) j q) pos, h => by
    unfold mPathR at h
    rw [Bool.and_eq_true, decide_eq_true_eq] at h
    obtain ⟨rfl, h⟩ := h
    have ih := mPath_pe C p h
    refine pImp (pe_ix ix_list ih pe_int fun _ _ => rfl) fun σ H Q ⟨v, u, a, b, c⟩ => ?_
    rw [List.reverse_cons] at b
    obtain ⟨x, z1, z2⟩ := b.unsnoc
    cases z2 with
    | ix z2 z3 z4 =>
      cases z4
      exact ⟨v, _, a, z1, _, _, k, u, rfl, rfl, SqL.of z2, z3, c⟩
  | .key k :: p, .Subscript e (.Constant (.str x) j q) pos, h => by
    unfold mPathR at h
    rw [Bool.and_eq_true, decide_eq_true_eq] at h
    obtain ⟨rfl, h⟩ := h
    have ih := mPath_pe C p h
    have un := C.un
    refine pImp (pe_dget (by omega) ih pe_str fun _ _ => rfl) fun σ H Q ⟨v, u, a, b, c⟩ => ?_
    rw [List.reverse_cons] at b
    obtain ⟨y, z1, z2⟩ := b.unsnoc
    cases z2 with
    | key z2 z3 z4 =>
      cases z4
      exact ⟨v, _, a, z1, _, u, rfl, by rw [← z3]; exact DGet.k (k := .inr x) z2, c⟩
  | [], .Subscript _ _ _, h => by unfold mPathR at h; cases h
theorem mView_pe (C : Ctx G Γ S X) {i : Nat} {p : List PK} {e : PySem.Expr} (h : mPathR S i p.reverse e = true) : PE X e (tPath i p) := by
  have := mPath_pe C p.reverse h
  rw [List.reverse_reverse] at this
  exact this
theorem mView_var (C : Ctx G Γ S X) {i : Nat} {e : PySem.Expr} (h : mPathR S i [] e = true) : PE X e (tVar i) := by
  unfold mPathR at h
  split at h
  all_goals first | contradiction | exact C.vis h
/-! ### operations -/
theorem one_logic {o : List D → Option D} {p : Sop} {f : D → Option D} (ho : ∀ ds, o ds = un1 f ds) {σ : L2.St} {H : Hp} {Q : VK} (h : tE G W (opE o [p]) σ H Q) : tS1 G W p σ H fun x H1 => r1 G f [x] H1 Q := by
  have z := op_logic h
  rw [tO_cons] at z
  refine tS1_mono z fun x H1 ⟨ds, d, rv, e, n⟩ => ?_
  obtain ⟨y, T, rfl, ry⟩ := rv.one
  rw [ho] at e
  exact ⟨x, y, d, T, rfl, ry, e, n⟩
theorem two_logic {o : List D → Option D} {p q : Sop} {f : D → D → Option D} (ho : ∀ ds, o ds = bi2 f ds) {σ : L2.St} {H : Hp} {Q : VK} (h : tE G W (opE o [p, q]) σ H Q) : tOp (r2 G f) (tS1 G W p) (tS1 G W q) σ H Q := by
  have z := op_logic h
  rw [tO_cons, tO_cons] at z
  refine tS1_mono z fun x H1 z => ?_
  refine tS1_mono z fun y H2 ⟨ds, d, rv, e, n⟩ => ?_
  obtain ⟨a, b, T, T', rfl, ra, rb⟩ := rv.two
  rw [ho] at e
  exact ⟨a, b, d, T, T', ra, rb, e, n⟩
theorem un_neg' : UnR X (unaryOp .USub) (fun x H Q => r1 G oNeg [x] H Q) := fun pins s σ H x v Q I rx ⟨y, d, z, T, e, ry, ho, hn⟩ => by
  cases e
  unfold oNeg at ho
  split at ho
  · cases ho
    exact un_neg pins s σ H x v Q I rx ⟨_, ry.int_of, hn.int⟩
  · cases ho
theorem powOk_c {i j : Int} (h : powOk i j = true) : CPow i j := by
  unfold powOk small64b at h
  simp only [Bool.and_eq_true, decide_eq_true_eq] at h
  exact ⟨h.1.1, h.1.2, by omega⟩
theorem bin_ok (C : Ctx G Γ S X) {o : Op} {p : Operator} (h : binOf o = some p) : ∃ f, (∀ ds, opD o ds = bi2 f ds) ∧ OpR X (binaryOp p) (r2 G f) := by
  cases o <;> cases h
  · exact ⟨_, fun _ => rfl, v_add C.hG⟩
  · exact ⟨_, fun _ => rfl, v_int20 op_sub⟩
  · exact ⟨_, fun _ => rfl, v_mul C.hG⟩
  · exact ⟨_, fun _ => rfl, v_int2 op_fdiv fun i j h => by simp only [Bool.and_eq_true, decide_eq_true_eq] at h; exact h⟩
  · exact ⟨_, fun _ => rfl, v_int2 op_mod fun i j h => of_decide_eq_true h⟩
  · exact ⟨_, fun _ => rfl, v_int2 op_pow fun i j h => powOk_c h⟩
  · exact ⟨_, fun _ => rfl, v_int20 op_and⟩
  · exact ⟨_, fun _ => rfl, v_int20 op_or⟩
  · exact ⟨_, fun _ => rfl, v_int2 op_shl fun i j h => powOk_c h⟩
  · exact ⟨_, fun _ => rfl, v_int2 op_shr fun i j h => of_decide_eq_true h⟩
theorem cmp_ok (C : Ctx G Γ S X) {o : Op} {p : CmpOp} (h : cmpOf o = some p) : ∃ f, (∀ ds, opD o ds = bi2 f ds) ∧ OpR X (compareOp p) (r2 G f) := by
  have u := C.un
  cases o <;> cases h
  · exact ⟨_, fun _ => rfl, v_cmpI op_lt⟩
  · exact ⟨_, fun _ => rfl, v_cmpI op_le⟩
  · exact ⟨_, fun _ => rfl, v_cmpI op_gt⟩
  · exact ⟨_, fun _ => rfl, v_cmpI op_ge⟩
  · exact ⟨_, fun _ => rfl, v_eq C.hG (by omega)⟩
  · exact ⟨_, fun _ => rfl, v_ne C.hG (by omega)⟩
  · exact ⟨_, fun _ => rfl, v_in C.hG C.hw u⟩
  · exact ⟨_, fun _ => rfl, v_notin C.hG C.hw u⟩
  · exact ⟨_, fun _ => rfl, v_is⟩
  · exact ⟨_, fun _ => rfl, v_isnot⟩
/-- the built-in functions of one argument -/
theorem f1_ok (C : Ctx G Γ S X) {o : Op} {x : Str} (h : f1Of o = some x) : ∃ f, (∀ ds, opD o ds = un1 f ds) ∧ ((∃ id, bootBuiltins x = some (.builtin id) ∧ CallR X (.builtin id) (r1 G f)) ∨ ∃ T, bootBuiltins x = some (.type T) ∧ CallR X (.type T) (r1 G f)) := by
  have u := C.un
  cases o <;> cases h
  · exact ⟨_, fun _ => rfl, .inl ⟨_, by decide +kernel, v_len C.hG C.hw⟩⟩
  · exact ⟨_, fun _ => rfl, .inl ⟨_, by decide +kernel, v_abs⟩⟩
  · exact ⟨_, fun _ => rfl, .inr ⟨_, by decide +kernel, v_int⟩⟩
  · exact ⟨_, fun _ => rfl, .inl ⟨_, by decide +kernel, v_repr C.hG C.gd (by omega)⟩⟩
  · exact ⟨_, fun _ => rfl, .inr ⟨_, by decide +kernel, v_list C.hG⟩⟩
  · exact ⟨_, fun _ => rfl, .inr ⟨_, by decide +kernel, v_tuple C.hG⟩⟩
  · exact ⟨_, fun _ => rfl, .inl ⟨_, by decide +kernel, v_sorted C.hG (by omega)⟩⟩
  · exact ⟨_, fun _ => rfl, .inl ⟨_, by decide +kernel, v_sum C.hG C.calm⟩⟩
  · exact ⟨_, fun _ => rfl, .inl ⟨_, by decide +kernel, v_all C.hG C.calm⟩⟩
  · exact ⟨_, fun _ => rfl, .inl ⟨_, by decide +kernel, v_any C.hG C.calm⟩⟩
theorem nobeh {op : CmpOp} {b : PySem.Expr} (h : notSet b = true) : behindInMarks op b = false := by
  cases b <;> first | rfl | cases h
theorem ty_boot (t : Ty) : bootBuiltins (Str.ofString t.nm) = some (.type t.nm) := by cases t <;> decide +kernel
end
end Vs
/-! VR: x[::-1] of a tuple. -/
namespace Vs
open PySem PySem.Spec L2
open PyProof.Rows hiding St
theorem adj_rev (n : Nat) : Builtin.Slice.sliceAdjust none none (-1) (n : Int) = ((n : Int) - 1, -1) := by
  unfold Builtin.Slice.sliceAdjust
  simp
theorem places_rev (n : Nat) : Builtin.Slice.slicePlaces ((n : Int) - 1) (-1) (-1) = n := by
  unfold Builtin.Slice.slicePlaces
  simp
  omega
theorem fmap_congr {α β : Type} {f g : α → Option β} : ∀ {l : List α}, (∀ a ∈ l, f a = g a) → l.filterMap f = l.filterMap g
  | [], _ => rfl
  | a :: l, h => by
    rw [List.filterMap_cons, List.filterMap_cons, h a List.mem_cons_self, fmap_congr fun b hb => h b (List.mem_cons_of_mem _ hb)]
theorem pick_rev (xs : Array Value) : ((List.range xs.size).filterMap fun (k : Nat) => xs[((xs.size : Int) - 1 + (k : Int) * -1).toNat]?).toArray = xs.toList.reverse.toArray := by
  have h := PySem.W.krv_all xs
  have e : ((List.range xs.size).filterMap fun (k : Nat) => xs[((xs.size : Int) - 1 + (k : Int) * -1).toNat]?) = ((List.range xs.size).map fun k => xs.size - 1 - k).filterMap (xs[·]?) := by
    rw [List.filterMap_map]
    refine fmap_congr fun k hk => ?_
    have h1 := List.mem_range.mp hk
    have h2 : ((xs.size : Int) - 1 + (k : Int) * -1).toNat = xs.size - 1 - k := by omega
    rw [h2]
    rfl
  rw [e, PySem.W.krv_range, List.filterMap_reverse, h]
section
variable {prog : Program} {w : World} {A : Around} {E : Value → Shared → Prop} {s : Shared}
theorem applied_rev {sl : Addr} {vs : Value} {n : Nat} {Q : Int × Int × Nat → Shared → Prop} (hs : s.heap.IsSliceOf sl .none .none vs) (ps : IsPart vs (some (-1)))
    (h : Q ((n : Int) - 1, -1, n) s) : wpAny (model prog w) A (Builtin.Slice.sliceApplied (.ref sl) (pure (n : Int))) Q E s := by
  obtain ⟨os, hos, hcs, hds⟩ := id hs
  unfold Builtin.Slice.sliceApplied Builtin.Slice.sliceFields
  refine wpAny_bind (wpAny_bind (wpAny_field hos hds (x := .none) rfl (wpAny_bind (wpAny_field hos hds (x := .none) rfl (wpAny_bind (wpAny_field hos hds (x := vs) rfl (wpAny_pure ?_)))))))
  refine wpAny_bind (HT.slicePart_ ps ?_)
  show wpAny _ _ (if ((-1 : Int) == 0) = true then _ else _) _ _ s
  rw [if_neg (by decide)]
  refine wpAny_bind (HT.slicePart_ .none (wpAny_bind (HT.slicePart_ .none (wpAny_bind (wpAny_pure ?_)))))
  show wpAny _ _ (match Builtin.Slice.sliceAdjust none none (-1) (n : Int) with | (lo, hi) => pure (lo, (-1 : Int), Builtin.Slice.slicePlaces lo hi (-1))) _ _ s
  rw [adj_rev n]
  show wpAny _ _ (pure ((n : Int) - 1, (-1 : Int), Builtin.Slice.slicePlaces ((n : Int) - 1) (-1) (-1))) _ _ s
  rw [places_rev]
  exact wpAny_pure h
theorem item_rev {t sl : Addr} {items : Array Value} {vs : Value} {Q : Value → Shared → Prop} (ht : IsTup s.heap t items) (hs : s.heap.IsSliceOf sl .none .none vs) (ps : IsPart vs (some (-1)))
    (h : Q (.ref s.heap.objs.size) { s with heap := s.heap.push { cls := .type "tuple", data := .seq items.toList.reverse.toArray } })
    (hsz : items.size ≤ sizeLine) : wpAny (model prog w) A (getItem (.ref t) (.ref sl)) Q E s := by
  have ok : sizeOk (.seq items.toList.reverse.toArray) := by
    show items.toList.reverse.toArray.size ≤ sizeLine
    rw [List.size_toArray, List.length_reverse, Array.length_toList]
    exact hsz
  obtain ⟨os, hos, hcs, hds⟩ := id hs
  have hT : s.TypeIs (.ref sl) "slice" := ⟨os, hos, hcs⟩
  unfold getItem
  try with_reducible refine wpAny_holding ?_
  first | refine wpAny_bind (wpAny_pure ?_) | skip
  refine wpAny_bind (wpAny_sequenceKey ht.typeIs (by decide) ?_)
  refine wpAny_bind (wpAny_callSpecial?_slot (name := Str.ofString "__getitem__") ht.typeIs PyProof.Rows.slot_tuple_getitem (wpAny_call_entry PyProof.Rows.slot_tuple_getitem ht.typeIs PyProof.Rows.entry_tuple_getitem ?_ (PyProof.Rows.args_tuple_getitem _ _)))
  show wpAny _ _ (Builtin.Tuple.tupleItemsOf (.ref t) >>= _) _ _ s
  refine wpAny_bind (tupleItemsOf_ ht ?_)
  refine wpAny_bind (wpAny_typeOf hT ?_)
  rw [if_pos (by decide)]
  refine wpAny_bind (applied_rev hs ps ?_)
  show wpAny _ _ (if (((items.size : Int) - 1) == 0 && (-1 : Int) == 1 && items.size == items.size) = true then _ else _) _ _ s
  rw [if_neg (by
    intro q
    rw [Bool.and_eq_true, Bool.and_eq_true] at q
    exact absurd q.1.2 (by decide)), pick_rev]
  first
    | exact wpAny_bind (m := Builtin.Tuple.tupleExact _) (wpAny_newObj_type (wpAny_pure ⟨_, rfl, wpAny_pure h⟩) ok)
    | exact wpAny_bind (m := Builtin.Tuple.tupleExact _) (wpAny_newObj_type (wpAny_bind (wpAny_pure (wpAny_pure ⟨_, rfl, wpAny_pure h⟩))) ok)
    | exact wpAny_bind (wpAny_bind (m := Builtin.Tuple.tupleExact _) (wpAny_newObj_type (wpAny_pure (wpAny_pure ⟨_, rfl, wpAny_pure h⟩)) ok))
    | exact wpAny_bind (wpAny_bind (m := Builtin.Tuple.tupleExact _) (wpAny_newObj_type (wpAny_pure ⟨_, rfl, wpAny_pure h⟩) ok))
end
section
variable {X : Cx} {G : Ga}
def tRev (K : PySem.W.Frag) (te : TE) : TE := fun σ H Q => te σ H fun x H1 => ∃ a xs, x = .ref a ∧ ((SqL K H1 a xs ∧ ∀ p, H1 p = none → Q (.ref p) (upd H1 p (.lst xs.reverse))) ∨ (SqT K H1 a xs ∧ ∀ p, H1 p = none → Q (.ref p) (upd H1 p (.tup xs.reverse))))
/-- x[::-1], a list or a tuple -/
theorem pe_rev {e : PySem.Expr} {te : TE} {k : Nat} {p1 p2 p3 pos : Pos} (he : PE X e te) : PE X (.Subscript e (.Slice none none (some (.UnaryOp .USub (.Constant (.int 1) k p1) p2)) p3) pos) (tRev X.K te) := by
  refine ⟨fun pins s σ H Q I h => ?_⟩
  refine Subscript_ (thn (he.run pins s σ H _ I h) fun v s1 ⟨x, H1, I1, r1, a, xs, ex, q⟩ => ?_)
  subst ex
  cases r1
  have step : PO X (some (.UnaryOp .USub (.Constant (.int 1) k p1) p2)) (tPart (tUn (rU fun i => .int (-i)) (tC (.int 1)))) := po_some (pe_un un_neg pe_int)
  refine wpAny_Slice (thn (po_none.run pins s1 σ H1 (fun o H2 => o = none ∧ H2 = H1) I1 ⟨rfl, rfl⟩) fun vl s2 ⟨l, H2, I2, pl, el, e2⟩ => ?_)
  cases el
  cases e2
  refine thn (po_none.run pins s2 σ H1 (fun o H3 => o = none ∧ H3 = H1) I2 ⟨rfl, rfl⟩) fun vu s3 ⟨u, H3, I3, pu, eu, e3⟩ => ?_
  cases eu
  cases e3
  refine thn (step.run pins s3 σ H1 (fun o H4 => o = some (-1) ∧ H4 = H1) I3 ⟨1, rfl, -1, rfl, rfl, rfl⟩) fun vs s4 ⟨o, H4, I4, ps, eo, e4⟩ => ?_
  cases eo
  cases e4
  cases pl
  cases pu
  have J : Inv X pins σ H1 { s4 with heap := s4.heap.push { cls := .type "slice", data := .fields #[.none, .none, vs] } } := I4.kept (t' := s4.toks) fun b ob z => Heap.get?_push_of_some _ z
  have sl := Heap.IsSliceOf.new s4.heap .none .none vs
  show wpAny (model X.prog X.w) X.A (subscriptTail e (.Slice none none (some (.UnaryOp .USub (.Constant (.int 1) k p1) p2)) p3) (.ref a) (.ref s4.heap.objs.size)) (EP X pins σ Q) X.xe { s4 with heap := s4.heap.push { cls := .type "slice", data := .fields #[.none, .none, vs] } }
  rcases q with ⟨hx, q⟩ | ⟨hx, q⟩
  · obtain ⟨its, r, ht, hz⟩ := J.list hx
    have hl := r.length
    refine tail_any (ops := [.ref a, .ref s4.heap.objs.size]) ht.isList.typeIs PySem.slot_list_getitem.lookup ?_ (by with_unfolding_all rfl)
    refine wpAny_getItem_list_slice ht.isList sl .none .none ps (by decide) ?_ (by rw [List.size_toArray]; omega)
    rw [PySem.W.krv_pick]
    exact ⟨.ref _, _, J.laid (t' := s4.toks) (o := .lst xs.reverse) (fun b ob z => Heap.get?_push_of_some _ z) (Nat.le_refl _) ⟨by rw [List.length_reverse]; exact hz, _, 0, r.reverse, Heap.get?_push_size _ rfl⟩, rfl, q _ (J.hok.fresh (Nat.le_refl _))⟩
  · obtain ⟨its, r, ht, hz⟩ := J.tuple hx
    have hl := r.length
    refine tail_any (ops := [.ref a, .ref s4.heap.objs.size]) ht.typeIs PyProof.Rows.slot_tuple_getitem.lookup ?_ (by with_unfolding_all rfl)
    refine item_rev ht sl ps ?_ (by rw [List.size_toArray]; omega)
    exact ⟨.ref _, _, J.laid (t' := s4.toks) (o := .tup xs.reverse) (fun b ob z => Heap.get?_push_of_some _ z) (Nat.le_refl _) ⟨by rw [List.length_reverse]; exact hz, _, r.reverse, IsTup.new _ _⟩, rfl, q _ (J.hok.fresh (Nat.le_refl _))⟩
end
end Vs
/-! V10: operations, displays, tests: from the model's syntax to what the evaluator says. -/
namespace Vs
open PySem PySem.Spec L2
open PyProof.Rows hiding St
section
variable {X : Cx} {G : Ga} {W : WX} {S : Sc} {Γ : Gam}
theorem notSlice_ix {b : PySem.Expr} (h : notSlice b = true) : PlainIx b := by
  cases b <;> first | (intro o i; rfl) | cases h
theorem wrap1 {o : Op} {p : Sop} (h : o ≠ .slLH) : wrapO o [p] = [p] := by cases o <;> first | rfl | exact absurd rfl h
theorem wrap2 {o : Op} {p q : Sop} (h : o ≠ .slLH) : wrapO o [p, q] = [p, q] := by cases o <;> first | rfl | exact absurd rfl h
theorem pe_false {e : PySem.Expr} {f : EF} (h : ∀ ρ, f ρ = .no) : PE X e (tE G W f) := ⟨fun pins s σ H Q I ⟨ρ, O, _, _, z⟩ => by rw [h ρ] at z; exact z.elim⟩
theorem intE_logic {f : EF} {σ : L2.St} {H : Hp} {Q : VK} (h : tE G W (intE f) σ H Q) : tE G W f σ H fun x H1 => ∃ i, x = .int i ∧ Q x H1 := by
  obtain ⟨ρ, O, a, b, h⟩ := h
  refine ⟨ρ, O, a, b, ?_⟩
  unfold intE at h
  cases ef : f ρ with
  | no => rw [ef] at h; exact h
  | ex x ρ' => rw [ef] at h; exact h
  | ok q =>
    obtain ⟨d, ρ'⟩ := q
    rw [ef] at h
    simp only [Res.bind] at h
    split at h
    · rename_i e
      split at e
      · rename_i i
        cases e
        intro v H' ⟨O', T, k1, k2, k3, k4⟩
        exact ⟨i, k2.int_of, h v H' ⟨O', T, k1, k2, k3, k4⟩⟩
      · cases e
    · rename_i e; split at e <;> cases e
    · exact h.elim
theorem isRev_is {o : Op} (h : isRev o = true) : o = .rev := by cases o <;> first | rfl | (simp [isRev] at h)
theorem DpFs.revs : ∀ {vs : List V} {l : List PyData}, DpFs G.K H vs l → DpFs G.K H vs.reverse l.reverse := fun h => h.rev
theorem rev_ok (C : Ctx G Γ S X) {a : PySem.Expr} {op : Sop} {k : Nat} {p1 p2 p3 pos : Pos} (ha : PE X a (tS1 G W op)) : PE X (.Subscript a (.Slice none none (some (.UnaryOp .USub (.Constant (.int 1) k p1) p2)) p3) pos) (tE G W (opE (opD .rev) (wrapO .rev [op]))) := by
  refine pImp (pe_rev ha) fun σ H Q z => ?_
  refine tS1_mono (one_logic (f := oRev) (fun _ => rfl) z) fun x H1 ⟨y, d, w, T, e, ry, ho, hn⟩ => ?_
  cases e
  unfold oRev at ho
  split at ho
  · rename_i l el
    cases ho
    obtain ⟨b, xs, rfl, sq, m⟩ := ry.seq el
    exact ⟨b, xs, rfl, .inl ⟨C.hG ▸ sq, fun q hq => hn.lst m.rev hq⟩⟩
  · rename_i l el
    cases ho
    obtain ⟨b, xs, rfl, sq, m⟩ := ry.seq el
    exact ⟨b, xs, rfl, .inr ⟨C.hG ▸ sq, fun q hq => hn.tup m.rev hq⟩⟩
  · cases ho
theorem isRg0 {o : Op} (h : isRg 0 o = true) : o = .lrng := by cases o <;> first | rfl | (simp [isRg] at h)
theorem isRg1 {o : Op} (h : isRg 1 o = true) : o = .trng := by cases o <;> first | rfl | (simp [isRg] at h)
theorem isRg2 {o : Op} (h : isRg 2 o = true) : o = .lrng2 := by cases o <;> first | rfl | (simp [isRg] at h)
theorem isRg3 {o : Op} (h : isRg 3 o = true) : o = .trng2 := by cases o <;> first | rfl | (simp [isRg] at h)
theorem rg_rel {a b : Int} : DpFs G.K H (rgV a b) (rgL a b) := by
  unfold rgV rgL
  generalize List.range (b - a).toNat = l
  induction l with
  | nil => exact .nil
  | cons k l ih => exact .cons (.int _) ih
theorem rgOk_is {a b : Int} (h : rgOk a b = true) : RgOk a b := by
  unfold rgOk at h
  simp only [Bool.and_eq_true, decide_eq_true_eq] at h
  exact ⟨by omega, by omega, by omega, by omega, by omega⟩
theorem rg_ok (C : Ctx G Γ S X) {o : Op} {f : Str} {a : PySem.Expr} {xs : List PySem.Expr} {ops : List Sop} {p pos : Pos} (h : rgArgs S o f a = some xs) (ps : POs X G W xs ops) : PE X (.Call (.Name f p) [a] [] pos) (tE G W (opE (opD o) (wrapO o ops))) := by
  unfold rgArgs at h
  split at h
  · split at h
    · rename_i hc
      cases h
      simp only [Bool.and_eq_true, Bool.or_eq_true, decide_eq_true_eq] at hc
      obtain ⟨⟨rfl, hr⟩, hc⟩ := hc
      obtain ⟨r1, r2, r3, r4⟩ := C.blt hr
      cases ps with
      | cons pa na ps =>
      cases ps
      rcases hc with ⟨⟨rfl, hf⟩, ho⟩ | ⟨⟨rfl, hf⟩, ho⟩
      · obtain ⟨g1, g2, g3, g4⟩ := C.blt hf
        cases isRg0 ho
        refine pImp (pe_listRg C.calm g1 g4 (prg_1 r1 r4 pa (star1 na)) (star1 rfl)) fun σ H Q z => ?_
        refine tS1_mono (one_logic (f := oRg1 DL) (fun _ => rfl) z) fun x H1 ⟨y, d, w, T, e, ry, ho, hn⟩ => ?_
        cases e
        unfold oRg1 at ho
        split at ho
        · obtain ⟨k1, rfl⟩ := guardO_some ho
          exact ⟨_, ry.int_of, rgOk_is k1, fun q hq => hn.lst rg_rel hq⟩
        · cases ho
      · obtain ⟨g1, g2, g3, g4⟩ := C.blt hf
        cases isRg1 ho
        refine pImp (pe_tupRg C.calm g1 g4 (prg_1 r1 r4 pa (star1 na)) (star1 rfl)) fun σ H Q z => ?_
        refine tS1_mono (one_logic (f := oRg1 DT) (fun _ => rfl) z) fun x H1 ⟨y, d, w, T, e, ry, ho, hn⟩ => ?_
        cases e
        unfold oRg1 at ho
        split at ho
        · obtain ⟨k1, rfl⟩ := guardO_some ho
          exact ⟨_, ry.int_of, rgOk_is k1, fun q hq => hn.tup rg_rel hq⟩
        · cases ho
    · cases h
  · split at h
    · rename_i hc
      cases h
      simp only [Bool.and_eq_true, Bool.or_eq_true, decide_eq_true_eq] at hc
      obtain ⟨⟨rfl, hr⟩, hc⟩ := hc
      obtain ⟨r1, r2, r3, r4⟩ := C.blt hr
      cases ps with
      | cons pa na ps =>
      cases ps with
      | cons pb nb ps =>
      cases ps
      rcases hc with ⟨⟨rfl, hf⟩, ho⟩ | ⟨⟨rfl, hf⟩, ho⟩
      · obtain ⟨g1, g2, g3, g4⟩ := C.blt hf
        cases isRg2 ho
        refine pImp (pe_listRg C.calm g1 g4 (prg_2 r1 r4 pa pb (star1 na) (star1 nb) (POs.plain _ _ (.cons pb nb .nil))) (star1 rfl)) fun σ H Q z => ?_
        refine tS1_mono (two_logic (f := oRg2 DL) (fun _ => rfl) z) fun x H1 z => tS1_mono z fun x2 H2 ⟨y, y2, d, T, T2, ry, ry2, ho, hn⟩ => ?_
        unfold oRg2 at ho
        split at ho
        · obtain ⟨k1, rfl⟩ := guardO_some ho
          exact ⟨_, _, ry.int_of, ry2.int_of, rgOk_is k1, fun q hq => hn.lst rg_rel hq⟩
        · cases ho
      · obtain ⟨g1, g2, g3, g4⟩ := C.blt hf
        cases isRg3 ho
        refine pImp (pe_tupRg C.calm g1 g4 (prg_2 r1 r4 pa pb (star1 na) (star1 nb) (POs.plain _ _ (.cons pb nb .nil))) (star1 rfl)) fun σ H Q z => ?_
        refine tS1_mono (two_logic (f := oRg2 DT) (fun _ => rfl) z) fun x H1 z => tS1_mono z fun x2 H2 ⟨y, y2, d, T, T2, ry, ry2, ho, hn⟩ => ?_
        unfold oRg2 at ho
        split at ho
        · obtain ⟨k1, rfl⟩ := guardO_some ho
          exact ⟨_, _, ry.int_of, ry2.int_of, rgOk_is k1, fun q hq => hn.tup rg_rel hq⟩
        · cases ho
    · cases h
  · cases h
theorem op_ok (C : Ctx G Γ S X) {o : Op} {e : PySem.Expr} {xs : List PySem.Expr} {ops : List Sop} (h : opArgs S o e = some xs) (ps : POs X G W xs ops) : PE X e (tE G W (opE (opD o) (wrapO o ops))) := by
  unfold opArgs at h
  split at h
  · split at h
    · cases h
      obtain ⟨f, hf, hr⟩ := bin_ok C (by assumption)
      cases ps with | cons ha na ps => cases ps with | cons hb nb ps => cases ps; exact pImp (pe_op hr ha hb) fun σ H Q z => two_logic hf (by rw [wrap2 (by intro z; subst z; simp_all [binOf, cmpOf, f1Of])] at z; exact z)
    · cases h
  · split at h
    · cases h
      rename_i hc
      rw [Bool.and_eq_true, decide_eq_true_eq] at hc
      obtain ⟨f, hf, hr⟩ := cmp_ok C hc.1
      cases ps with | cons ha na ps => cases ps with | cons hb nb ps => cases ps; exact pImp (pe_cmpR hr ha hb (nobeh hc.2)) fun σ H Q z => two_logic hf (by rw [wrap2 (by intro z; subst z; simp_all [binOf, cmpOf, f1Of])] at z; exact z)
    · cases h
  · split at h
    · cases h
      cases ps with | cons ha na ps => cases ps; exact pImp (pe_un un_neg' ha) fun σ H Q z => one_logic (fun _ => rfl) z
    · cases h
  · split at h
    · cases h
      cases ps with | cons ha na ps => cases ps; exact pImp (pe_slice (v_sl C.hG) ha po_none po_none) fun σ H Q z => tS1_mono (one_logic (f := oSl none none) (fun _ => rfl) z) fun x H1 ⟨y, d, w, T, e, ry, ho, hn⟩ => by cases e; exact ⟨d, w, T, ry, ho, hn⟩
    · cases h
  · split at h
    · rename_i hc
      cases h
      rw [Bool.and_eq_true, decide_eq_true_eq] at hc
      obtain ⟨rfl, ho⟩ := hc
      cases isRev_is ho
      cases ps with | cons ha na ps => cases ps; exact rev_ok C ha
    · cases h
  · split at h
    · cases h
      cases ps with
      | cons ha na ps =>
        cases ps with
        | cons hb nb ps =>
          cases ps
          refine pImp (pe_slice (v_sl C.hG) ha (po_some hb) po_none) fun σ H Q z => ?_
          have z := op_logic z
          rw [wrap2 (by intro z; cases z)] at z
          rw [tO_cons, tO_cons] at z
          refine tS1_mono z fun x H1 z => tS1_mono z fun y H2 ⟨ds, d, rv, ho, hn⟩ => ?_
          obtain ⟨a, b, T, T', rfl, ra, rb⟩ := rv.two
          unfold opD bi2 at ho
          simp only at ho
          split at ho
          · exact ⟨_, rb.int_of, a, d, T, ra, ho, hn⟩
          · cases ho
    · cases h
  · split at h
    · cases h
      cases ps with
      | cons ha na ps =>
        cases ps with
        | cons hb nb ps =>
          cases ps
          refine pImp (pe_slice (v_sl C.hG) ha po_none (po_some hb)) fun σ H Q z => ?_
          have z := op_logic z
          rw [wrap2 (by intro z; cases z)] at z
          rw [tO_cons, tO_cons] at z
          refine tS1_mono z fun x H1 z => tS1_mono z fun y H2 ⟨ds, d, rv, ho, hn⟩ => ?_
          obtain ⟨a, b, T, T', rfl, ra, rb⟩ := rv.two
          unfold opD bi2 at ho
          simp only at ho
          split at ho
          · exact ⟨_, rb.int_of, a, d, T, ra, ho, hn⟩
          · cases ho
    · cases h
  · split at h
    · cases h
      cases ps with
      | cons ha na ps =>
        cases ps with
        | cons hb nb ps =>
          cases ps with
          | cons hc nc ps =>
            cases ps
            rename_i p q r
            cases q with
            | v i => exact pe_false fun ρ => rfl
            | p i path => exact pe_false fun ρ => rfl
            | e f =>
              cases r with
              | v i => exact pe_false fun ρ => rfl
              | p i path => exact pe_false fun ρ => rfl
              | e g =>
                refine pImp (pe_slice (v_sl C.hG) ha (po_some hb) (po_some hc)) fun σ H Q z => ?_
                have z := op_logic z
                unfold wrapO at z
                simp only at z
                rw [tO_cons, tO_cons, tO_cons] at z
                refine tS1_mono z fun x H1 z => ?_
                refine tS1_mono (o := .e f) (intE_logic z) fun y H2 ⟨i, e1, z⟩ => ⟨i, e1, ?_⟩
                refine tS1_mono (o := .e g) (intE_logic z) fun y' H3 ⟨j, e2, ds, d, rv, ho, hn⟩ => ⟨j, e2, ?_⟩
                subst e1 e2
                cases rv with
                | cons ra rv =>
                  cases rv with
                  | cons rb rv =>
                    cases rv with
                    | cons rc rv =>
                      cases rv
                      unfold opD at ho
                      simp only at ho
                      split at ho
                      · rename_i e
                        cases e
                        have k1 := rb.int_of
                        have k2 := rc.int_of
                        cases k1; cases k2
                        exact ⟨_, d, _, ra, ho, hn⟩
                      · cases ho
    · cases h
  · split at h
    · split at h
      · cases h
        cases ps with | cons ha na ps => cases ps with | cons hb nb ps => cases ps; exact pImp (pe_ix (v_ix C.hG C.hw C.un) ha hb (notSlice_ix (by assumption))) fun σ H Q z => two_logic (fun _ => rfl) z
      · cases h
    · cases h
  · split at h
    · cases h
      rename_i hc
      rw [Bool.and_eq_true, decide_eq_true_eq] at hc
      obtain ⟨g1, g2, g3, g4⟩ := C.blt hc.2
      cases ps with
      | cons ha na ps =>
        cases ps
        obtain ⟨f, hf, hr⟩ := f1_ok C hc.1
        have hp : PA X [_] (tO G W [_]) := POs.pa (.cons ha na .nil)
        rcases hr with ⟨id, hb, hr⟩ | ⟨T, hb, hr⟩
        · refine pImp (pe_callB hr g1 g4 hb hp g3 g2 (star1 na) (by rfl)) fun σ H Q z => ?_
          rw [wrap1 (by intro z; subst z; simp_all [f1Of])] at z
          have z := one_logic hf z
          rw [tO_cons]
          exact z
        · refine pImp (pe_callTy hr g1 g4 hb hp g3 g2 (star1 na) (by rfl)) fun σ H Q z => ?_
          rw [wrap1 (by intro z; subst z; simp_all [f1Of])] at z
          have z := one_logic hf z
          rw [tO_cons]
          exact z
    · exact rg_ok C h ps
  · split at h
    · split at h
      · cases h
        rename_i t _ ty hc
        simp only [Bool.and_eq_true, decide_eq_true_eq] at hc
        obtain ⟨⟨⟨rfl, c2⟩, c3⟩, c4⟩ := hc
        obtain ⟨g1, g2, g3, g4⟩ := C.blt c2
        obtain ⟨k1, k2, k3, k4⟩ := C.blt c3
        subst c4
        cases ps with
        | cons ha na ps =>
          cases ps
          refine pImp (pe_callB (v_isi C.hG ty) g1 g4 (by decide +kernel) (pa_cons ha (pa_cons (pe_bltn (v := .ty ty.nm) k1 k4 (ty_boot ty) rfl k3 k2) pa_nil (star1 rfl)) (star1 na)) g3 g2 (star1 na) (by rfl)) fun σ H Q z => ?_
          refine tS1_mono (one_logic (f := oIsi ty) (fun _ => rfl) z) fun x H1 ⟨y, d, w, T, e, ry, ho, hn⟩ => ?_
          cases e
          exact ⟨x, d, w, T, rfl, ry, ho, hn⟩
      · cases h
    · cases h
  · cases h
end
end Vs
/-! V11: displays, and, or, not, tests. -/
namespace Vs
open PySem PySem.Spec L2
open PyProof.Rows hiding St
/-- what is to follow an evaluation's outcome -/
def Cont (G : Ga) (W : WX) (O : List Addr) (σ : L2.St) (H : Hp) (r : Res (D × Env)) (Q : VK) : Prop := match r with
  | .ok (d, ρ') => ∀ v H', EvR G O σ H ρ' d v H' → Q v H'
  | .ex x ρ' => ∀ cls dd H', ExR G O H ρ' x cls dd σ H' → W cls dd σ H'
  | .no => False
def TsR (G : Ga) (O : List Addr) (σ : L2.St) (H : Hp) (ρ' : Env) (H' : Hp) : Prop := ∃ O', RepE G H' σ ρ' O' ∧ O'.Nodup ∧ Go O H O' H'
def ContT (G : Ga) (W : WX) (O : List Addr) (σ : L2.St) (H : Hp) (r : Res (Bool × Env)) (Q : Bool → Hp → Prop) : Prop := match r with
  | .ok (b, ρ') => ∀ H', TsR G O σ H ρ' H' → Q b H'
  | .ex x ρ' => ∀ cls dd H', ExR G O H ρ' x cls dd σ H' → W cls dd σ H'
  | .no => False
def tT (G : Ga) (W : WX) (f : TF) : TT := fun σ H Q => ∃ ρ O, RepE G H σ ρ O ∧ O.Nodup ∧ ContT G W O σ H (f ρ) Q
section
variable {X : Cx} {G : Ga} {W : WX} {S : Sc} {Γ : Gam} {σ : L2.St} {H : Hp}
theorem tE_iff {f : EF} {Q : VK} : tE G W f σ H Q ↔ ∃ ρ O, RepE G H σ ρ O ∧ O.Nodup ∧ Cont G W O σ H (f ρ) Q := Iff.rfl
theorem ExR.more {O S1 : List Addr} {H1 H' : Hp} {ρ : Env} {x : Exc} {cls : Value} {dd : Option Addr} (go : Go O H S1 H1) (h : ExR G S1 H1 ρ x cls dd σ H') : ExR G O H ρ x cls dd σ H' := by
  obtain ⟨O', a, b, c, e⟩ := h
  exact ⟨O', a, b, go.trans c, e⟩
theorem EvR.more {O S1 : List Addr} {H1 H' : Hp} {ρ : Env} {d : D} {v : V} (go : Go O H S1 H1) (h : EvR G S1 σ H1 ρ d v H') : EvR G O σ H ρ d v H' := by
  obtain ⟨O', T, a, b, c, e⟩ := h
  exact ⟨O', T, a, b, c, go.trans e⟩
theorem TsR.more {O S1 : List Addr} {H1 H' : Hp} {ρ : Env} (go : Go O H S1 H1) (h : TsR G S1 σ H1 ρ H') : TsR G O σ H ρ H' := by
  obtain ⟨O', a, b, e⟩ := h
  exact ⟨O', a, b, go.trans e⟩
theorem Cont.more {O S1 : List Addr} {H1 : Hp} {r : Res (D × Env)} {Q : VK} (go : Go O H S1 H1) (h : Cont G W O σ H r Q) : Cont G W S1 σ H1 r Q := by
  cases r with
  | no => exact h
  | ex x ρ' => exact fun cls dd H' z => h cls dd H' (z.more go)
  | ok p => obtain ⟨d, ρ'⟩ := p; exact fun v H' z => h v H' (z.more go)
theorem ContT.more {O S1 : List Addr} {H1 : Hp} {r : Res (Bool × Env)} {Q : Bool → Hp → Prop} (go : Go O H S1 H1) (h : ContT G W O σ H r Q) : ContT G W S1 σ H1 r Q := by
  cases r with
  | no => exact h
  | ex x ρ' => exact fun cls dd H' z => h cls dd H' (z.more go)
  | ok p => obtain ⟨d, ρ'⟩ := p; exact fun H' z => h H' (z.more go)
/-- one evaluation ahead of another -/
theorem bindE {f : EF} {g : D × Env → Res (D × Env)} {Q : VK} (h : tE G W (fun ρ => (f ρ).bind g) σ H Q) :
    tE G W f σ H fun v H1 => ∃ ρ1 d O1 T, RepE G H1 σ ρ1 O1 ∧ Rep G H1 v d T ∧ (T ++ O1).Nodup ∧ Cont G W (T ++ O1) σ H1 (g (d, ρ1)) Q := by
  obtain ⟨ρ, O, a, b, h⟩ := tE_iff.mp h
  refine tE_iff.mpr ⟨ρ, O, a, b, ?_⟩
  cases ef : f ρ with
  | no => rw [ef] at h; exact h
  | ex x ρ' => rw [ef] at h; exact h
  | ok p =>
    obtain ⟨d, ρ1⟩ := p
    rw [ef] at h
    intro v H1 ⟨O1, T, rE, rv, nd, go⟩
    exact ⟨ρ1, d, O1, T, rE, rv, nd, Cont.more go h⟩
theorem bindET {f : EF} {g : D × Env → Res (Bool × Env)} {Q : Bool → Hp → Prop} (h : tT G W (fun ρ => (f ρ).bind g) σ H Q) :
    tE G W f σ H fun v H1 => ∃ ρ1 d O1 T, RepE G H1 σ ρ1 O1 ∧ Rep G H1 v d T ∧ (T ++ O1).Nodup ∧ ContT G W (T ++ O1) σ H1 (g (d, ρ1)) Q := by
  obtain ⟨ρ, O, a, b, h⟩ := h
  have h : ContT G W O σ H ((f ρ).bind g) Q := h
  refine tE_iff.mpr ⟨ρ, O, a, b, ?_⟩
  cases ef : f ρ with
  | no => rw [ef] at h; exact h
  | ex x ρ' => rw [ef] at h; exact h
  | ok p =>
    obtain ⟨d, ρ1⟩ := p
    rw [ef] at h
    intro v H1 ⟨O1, T, rE, rv, nd, go⟩
    exact ⟨ρ1, d, O1, T, rE, rv, nd, ContT.more go h⟩
theorem bindTE {f : TF} {g : Bool × Env → Res (D × Env)} {Q : VK} (h : tE G W (fun ρ => (f ρ).bind g) σ H Q) :
    tT G W f σ H fun b H1 => ∃ ρ1 O1, RepE G H1 σ ρ1 O1 ∧ O1.Nodup ∧ Cont G W O1 σ H1 (g (b, ρ1)) Q := by
  obtain ⟨ρ, O, a, b, h⟩ := tE_iff.mp h
  refine ⟨ρ, O, a, b, ?_⟩
  cases ef : f ρ with
  | no => rw [ef] at h; exact h
  | ex x ρ' => rw [ef] at h; exact h
  | ok p =>
    obtain ⟨d, ρ1⟩ := p
    rw [ef] at h
    intro H1 ⟨O1, rE, nd, go⟩
    exact ⟨ρ1, O1, rE, nd, Cont.more go h⟩
theorem bindTT {f : TF} {g : Bool × Env → Res (Bool × Env)} {Q : Bool → Hp → Prop} (h : tT G W (fun ρ => (f ρ).bind g) σ H Q) :
    tT G W f σ H fun b H1 => ∃ ρ1 O1, RepE G H1 σ ρ1 O1 ∧ O1.Nodup ∧ ContT G W O1 σ H1 (g (b, ρ1)) Q := by
  obtain ⟨ρ, O, a, b, h⟩ := h
  have h : ContT G W O σ H ((f ρ).bind g) Q := h
  refine ⟨ρ, O, a, b, ?_⟩
  cases ef : f ρ with
  | no => rw [ef] at h; exact h
  | ex x ρ' => rw [ef] at h; exact h
  | ok p =>
    obtain ⟨d, ρ1⟩ := p
    rw [ef] at h
    intro H1 ⟨O1, rE, nd, go⟩
    exact ⟨ρ1, O1, rE, nd, ContT.more go h⟩
theorem tT_mono {f : TF} {Q Q' : Bool → Hp → Prop} (h : tT G W f σ H Q) (imp : ∀ b H', Q b H' → Q' b H') : tT G W f σ H Q' := by
  obtain ⟨ρ, O, a, b, h⟩ := h
  refine ⟨ρ, O, a, b, ?_⟩
  cases ef : f ρ with
  | no => rw [ef] at h; exact h
  | ex x ρ' => rw [ef] at h; exact h
  | ok p => rw [ef] at h; exact fun H' z => imp _ _ (h H' z)
theorem tE_mono {f : EF} {Q Q' : VK} (h : tE G W f σ H Q) (imp : ∀ v H', Q v H' → Q' v H') : tE G W f σ H Q' := tS1_mono (o := .e f) h imp
theorem tO_mono : ∀ {ops : List Sop} {σ : L2.St} {H : Hp} {R R' : List V → Hp → Prop}, tO G W ops σ H R → (∀ vs H', R vs H' → R' vs H') → tO G W ops σ H R'
  | [], _, _, _, _, h, i => i _ _ h
  | o :: r, _, _, _, _, h, i => by
    rw [tO_cons] at h ⊢
    exact tS1_mono h fun x H1 z => tO_mono z fun xs H2 q => i _ _ q
/-- nothing owned: the value is a bool -/
theorem Cont.nil {O1 T : List Addr} {r : Res (D × Env)} {Q : VK} (h : Cont G W (T ++ O1) σ H r Q) : Cont G W O1 σ H r Q :=
  Cont.more (S1 := O1) (O := T ++ O1) ⟨fun _ _ e _ => e, fun a q => .inl (List.mem_append_right _ q)⟩ h
theorem ContT.nil {O1 T : List Addr} {r : Res (Bool × Env)} {Q : Bool → Hp → Prop} (h : ContT G W (T ++ O1) σ H r Q) : ContT G W O1 σ H r Q :=
  ContT.more (S1 := O1) (O := T ++ O1) ⟨fun _ _ e _ => e, fun a q => .inl (List.mem_append_right _ q)⟩ h
/-- an outcome that is a value of no parts -/
theorem Cont.now {O : List Addr} {d : D} {ρ : Env} {Q : VK} (h : Cont G W O σ H (.ok (d, ρ)) Q) (rE : RepE G H σ ρ O) (nd : O.Nodup) {v : V} (r : Rep G H v d []) : Q v H :=
  h v H ⟨O, [], rE, r, nd, Go.refl⟩
theorem ContT.now {O : List Addr} {b : Bool} {ρ : Env} {Q : Bool → Hp → Prop} (h : ContT G W O σ H (.ok (b, ρ)) Q) (rE : RepE G H σ ρ O) (nd : O.Nodup) : Q b H :=
  h H ⟨O, rE, nd, Go.refl⟩
/-! ### displays -/
theorem tup_ok {xs : List PySem.Expr} {ops : List Sop} {k : Nat} {pos : Pos} (ps : POs X G W xs ops) : PE X (.Tuple xs k pos) (tE G W (dispE mkTup ops)) := by
  refine pImp (pe_tup ps.pa) fun σ H Q h => ?_
  refine tO_mono (disp_logic h) fun vs H2 ⟨ds, T, O2, ρ, hl, rs, rE, nd, q⟩ => ⟨Nat.le_trans hl (by rw [sizeLine_eq]; decide), fun p hp => ?_⟩
  have f := frm_new (o := .tup vs) hp
  refine q (.ref p) _ T (Reps.mkTup (rs.fr (S := []) f mut_nil (fun _ _ z => nomatch z)) (SqT.of upd_same)) (rE.fr (S := []) f mut_nil (fun _ _ z => nomatch z)) nd ⟨fun a o e _ => f a o e (fun z => nomatch z), fun a z => .inl z⟩
theorem lst_ok {xs : List PySem.Expr} {ops : List Sop} {pos : Pos} (ps : POs X G W xs ops) : PE X (.List xs pos) (tE G W (dispE .ls ops)) := by
  refine pImp (pe_lst ps.pa) fun σ H Q h => ?_
  refine tO_mono (disp_logic h) fun vs H2 ⟨ds, T, O2, ρ, hl, rs, rE, nd, q⟩ => ⟨Nat.le_trans hl (by rw [sizeLine_eq]; decide), fun p hp => ?_⟩
  have f := frm_new (o := .lst vs) hp
  refine q (.ref p) _ (p :: T) (.ls upd_same (rs.fr (S := []) f mut_nil fun _ _ z => nomatch z)) (rE.fr (S := []) f mut_nil fun _ _ z => nomatch z) ?_ (Go.new hp)
  rw [List.cons_append]
  refine List.nodup_cons.mpr ⟨fun z => ?_, nd⟩
  obtain ⟨o, e⟩ := (MutA.app rs.mut rE.mut).some p z
  rw [hp] at e; cases e
/-! ### not, and, or -/
theorem not_ok {x : PySem.Expr} {f : EF} {pos : Pos} (h : PE X x (tE G W f)) : PE X (.UnaryOp .Not x pos) (tE G W (notE f)) := by
  refine pImp (pe_not h) fun σ H Q z => ?_
  refine tE_mono (bindE z) fun v H1 ⟨ρ1, d, O1, T, rE, rv, nd, c⟩ => ?_
  simp only at c
  split at c
  · exact ⟨_, rv.bl_of, Cont.now c.nil rE (nd_app.mp nd).2.1 (.sh (.bl _))⟩
  · exact c.elim
inductive PEs (X : Cx) (G : Ga) (W : WX) : List PySem.Expr → List EF → Prop
  | nil : PEs X G W [] []
  | cons {x : PySem.Expr} {xs : List PySem.Expr} {f : EF} {fs : List EF} : PE X x (tE G W f) → PEs X G W xs fs → PEs X G W (x :: xs) (f :: fs)
inductive PTss (X : Cx) (G : Ga) (W : WX) : List PySem.Expr → List TF → Prop
  | nil : PTss X G W [] []
  | cons {x : PySem.Expr} {xs : List PySem.Expr} {f : TF} {fs : List TF} : PT X x (tT G W f) → PTss X G W xs fs → PTss X G W (x :: xs) (f :: fs)
theorem bop_logic {k : Bool} {f g : EF} {r : List EF} {Q : VK} (h : tE G W (bopE k (f :: g :: r)) σ H Q) : tE G W f σ H fun x H1 => ∃ c, x = .bl c ∧ if c = k then tE G W (bopE k (g :: r)) σ H1 Q else Q (.bl c) H1 := by
  refine tE_mono (bindE h) fun v H1 ⟨ρ1, d, O1, T, rE, rv, nd, c⟩ => ?_
  simp only at c
  split at c
  · rename_i b
    refine ⟨b, rv.bl_of, ?_⟩
    split
    · rename_i e
      rw [if_pos e] at c
      exact tE_iff.mpr ⟨ρ1, O1, rE, (nd_app.mp nd).2.1, c.nil⟩
    · rename_i e
      rw [if_neg e] at c
      exact Cont.now c.nil rE (nd_app.mp nd).2.1 (.sh (.bl _))
  · exact c.elim
theorem bop_ok {k : Bool} {pos : Pos} : ∀ {xs : List PySem.Expr} {fs : List EF}, PEs X G W xs fs → PE X (.BoolOp (bopOf k) xs pos) (tE G W (bopE k fs))
  | _, _, .nil => ⟨fun pins s σ H Q I ⟨ρ, O, _, _, z⟩ => z.elim⟩
  | _, _, .cons h .nil => pe_one h
  | _, _, .cons h (.cons h2 hs) => by
    have ih := bop_ok (k := k) (pos := pos) (.cons h2 hs)
    cases k with
    | true =>
      refine pImp (pe_and h ih) fun σ H Q z => tE_mono (bop_logic z) fun v H1 ⟨c, e, z⟩ => ⟨c, e, ?_⟩
      cases c with
      | true => exact z
      | false => exact z
    | false =>
      refine pImp (pe_or h ih) fun σ H Q z => tE_mono (bop_logic z) fun v H1 ⟨c, e, z⟩ => ⟨c, e, ?_⟩
      cases c with
      | true => exact z
      | false => exact z
theorem bopT_logic {k : Bool} {f g : TF} {r : List TF} {Q : Bool → Hp → Prop} (h : tT G W (bopT k (f :: g :: r)) σ H Q) : tT G W f σ H fun c H1 => if c = k then tT G W (bopT k (g :: r)) σ H1 Q else Q c H1 := by
  refine tT_mono (bindTT h) fun c H1 ⟨ρ1, O1, rE, nd, z⟩ => ?_
  simp only at z
  split
  · rename_i e
    rw [if_pos e] at z
    exact ⟨ρ1, O1, rE, nd, z⟩
  · rename_i e
    rw [if_neg e] at z
    exact z.now rE nd
theorem bopT_ok {k : Bool} {pos : Pos} : ∀ {xs : List PySem.Expr} {fs : List TF}, PTss X G W xs fs → xs ≠ [] → PW X (.BoolOp (bopOf k) xs pos) (tT G W (bopT k fs))
  | _, _, .nil, n => absurd rfl n
  | _, _, .cons h .nil, _ => by
    cases k with
    | true => exact pw_and1 h
    | false => exact pw_or1 h
  | _, _, .cons h (.cons h2 hs), _ => by
    have ih := bopT_ok (k := k) (pos := pos) (.cons h2 hs) (by simp)
    cases k with
    | true =>
      refine ⟨fun wh pins s σ H Q I z => (pw_and h ih).run wh pins s σ H Q I ?_⟩
      refine tT_mono (bopT_logic z) fun c H1 z => ?_
      cases c with
      | true => exact z
      | false => exact z
    | false =>
      refine ⟨fun wh pins s σ H Q I z => (pw_or h ih).run wh pins s σ H Q I ?_⟩
      refine tT_mono (bopT_logic z) fun c H1 z => ?_
      cases c with
      | true => exact z
      | false => exact z
theorem notT_ok {x : PySem.Expr} {f : TF} {pos : Pos} (h : PT X x (tT G W f)) : PT X (.UnaryOp .Not x pos) (tT G W fun ρ => (f ρ).bind fun q => .ok (!q.1, q.2)) :=
  ptImp (pt_not h) fun σ H Q z => tT_mono (bindTT z) fun b H1 ⟨ρ1, O1, rE, nd, c⟩ => c.now rE nd
/-! ### a if c else b -/
theorem ite_ok {c a b : PySem.Expr} {fc : TF} {fa fb : EF} {pos : Pos} (hc : PT X c (tT G W fc)) (ha : PE X a (tE G W fa)) (hb : PE X b (tE G W fb)) : PE X (.IfExp c a b pos) (tE G W (iteE fc fa fb)) := by
  refine pImp (pe_ifExp hc ha hb) fun σ H Q z => tT_mono (bindTE z) fun t H1 ⟨ρ1, O1, rE, nd, k⟩ => ?_
  cases t with
  | true => exact ⟨ρ1, O1, rE, nd, k⟩
  | false => exact ⟨ρ1, O1, rE, nd, k⟩
/-! ### an expression as a test -/
def simpleT : PySem.Expr → Bool
  | .UnaryOp .Not _ _ => false
  | .BoolOp _ _ _ => false
  | .IfExp _ _ _ _ => false
  | .Compare _ _ _ _ => false
  | _ => true
theorem simple_is {e : PySem.Expr} {env : PySem.Env} (h : simpleT e = true) (whole : Sem Value) : isTrue e env whole = (do let v ← whole; standAt e.pos; holding [v] (truthy v)) := by
  cases e with
  | UnaryOp op x pos => cases op <;> first | rfl | cases h
  | BoolOp _ _ _ => cases h
  | IfExp _ _ _ _ => cases h
  | Compare _ _ _ _ => cases h
  | _ => rfl
theorem boolE_logic {f : EF} {Q : Bool → Hp → Prop} (h : tT G W (boolE f) σ H Q) : tE G W f σ H fun x H1 => ∃ c, x = .bl c ∧ Q c H1 := by
  refine tE_mono (bindET h) fun v H1 ⟨ρ1, d, O1, T, rE, rv, nd, c⟩ => ?_
  simp only at c
  split at c
  · exact ⟨_, rv.bl_of, c.nil.now rE (nd_app.mp nd).2.1⟩
  · exact c.elim
theorem val_okT {e : PySem.Expr} {f : EF} (h : PE X e (tE G W f)) (s : simpleT e = true) : PT X e (tT G W (boolE f)) :=
  ptImp (pt_val h (simple_is s)) fun σ H Q z => boolE_logic z
theorem op_okT (C : Ctx G Γ S X) {o : Op} {e : PySem.Expr} {xs : List PySem.Expr} {ops : List Sop} (h : opArgs S o e = some xs) (ps : POs X G W xs ops) : PT X e (tT G W (boolE (opE (opD o) (wrapO o ops)))) := by
  by_cases s : simpleT e = true
  · exact val_okT (op_ok C h ps) s
  · unfold opArgs at h
    split at h <;> first | exact absurd rfl s | skip
    rotate_left
    · cases h
    split at h
    · cases h
      rename_i hc
      rw [Bool.and_eq_true, decide_eq_true_eq] at hc
      obtain ⟨f, hf, hr⟩ := cmp_ok C hc.1
      cases ps with
      | cons ha na ps =>
        cases ps with
        | cons hb nb ps =>
          cases ps
          exact ptImp (pt_cmpR hr ha hb (nobeh hc.2)) fun σ H Q z => by
            have z := boolE_logic z
            rw [wrap2 (by intro z; subst z; simp_all [cmpOf])] at z
            exact two_logic hf z
    · cases h
end
end Vs
/-! V12: calls of the program's own defs. -/
namespace Vs
open PySem PySem.Spec L2
open PyProof.Rows hiding St
section
variable {X : Cx} {G : Ga} {W : WX} {S : Sc} {Γ : Gam} {σ : L2.St} {H H' : Hp}
theorem tO_app : ∀ {a b : List Sop} {σ : L2.St} {H : Hp} {R : List V → Hp → Prop}, tO G W (a ++ b) σ H R → tO G W a σ H fun xs H1 => tO G W b σ H1 fun ys H2 => R (xs ++ ys) H2
  | [], _, _, _, _, h => h
  | o :: a, _, _, _, _, h => by
    rw [List.cons_append, tO_cons] at h
    rw [tO_cons]
    exact tS1_mono h fun x H1 z => tO_app (R := fun xs H2 => _) z
theorem RepO.len : ∀ {vs : List V} {os : List Ov} {T : List Addr}, RepO G H σ vs os T → vs.length = os.length
  | _, _, _, .nil => rfl
  | _, _, _, .d _ hs => congrArg (· + 1) (RepO.len hs)
  | _, _, _, .v _ hs => congrArg (· + 1) (RepO.len hs)
  | _, _, _, .p _ _ _ _ hs => congrArg (· + 1) (RepO.len hs)
/-- arguments that own nothing, one by one -/
def Sh1 (G : Ga) (H : Hp) (σ : L2.St) (v : V) (o : Ov) : Prop := (∃ d, o = .d (.sh d) ∧ DpF G.K H v d) ∨ ∃ i, o = .v i ∧ σ[i]? = some (some v)
theorem RepO.at_sh : ∀ {vs : List V} {os : List Ov} {T : List Addr} {j : Nat} {o : Ov}, RepO G H σ vs os T → os.all Ov.isSh = true → os[j]? = some o → ∃ v, vs[j]? = some v ∧ Sh1 G H σ v o
  | _, _, _, j, o, .nil, _, e => by simp at e
  | _, _, _, 0, o, .d r hs, a, e => by
    simp at e; subst e
    cases r with
    | sh r => exact ⟨_, rfl, .inl ⟨_, rfl, r⟩⟩
    | tp _ _ => simp [Ov.isSh] at a
    | ls _ _ => simp [Ov.isSh] at a
    | dk _ _ => simp [Ov.isSh] at a
    | dd _ _ => simp [Ov.isSh] at a
    | ob _ _ _ => simp [Ov.isSh] at a
    | fn _ => simp [Ov.isSh] at a
  | _, _, _, 0, o, .v q hs, a, e => by simp at e; subst e; exact ⟨_, rfl, .inr ⟨_, rfl, q⟩⟩
  | _, _, _, 0, o, .p _ _ _ _ _, a, e => by simp [Ov.isSh] at a
  | _, _, _, j + 1, o, .d r hs, a, e => by
    rw [List.all_cons, Bool.and_eq_true] at a
    obtain ⟨v, x, y⟩ := RepO.at_sh (j := j) hs a.2 (by simpa using e)
    exact ⟨v, by simpa using x, y⟩
  | _, _, _, j + 1, o, .v r hs, a, e => by
    rw [List.all_cons, Bool.and_eq_true] at a
    obtain ⟨v, x, y⟩ := RepO.at_sh (j := j) hs a.2 (by simpa using e)
    exact ⟨v, by simpa using x, y⟩
  | _, _, _, j + 1, o, .p _ _ _ _ hs, a, e => by
    rw [List.all_cons, Bool.and_eq_true] at a
    obtain ⟨v, x, y⟩ := RepO.at_sh (j := j) hs a.2 (by simpa using e)
    exact ⟨v, by simpa using x, y⟩
theorem RepO.cons1 {v : V} {vs : List V} {o : Ov} {os : List Ov} (h : Sh1 G H σ v o) (hs : RepO G H σ vs os []) : RepO G H σ (v :: vs) (o :: os) [] := by
  rcases h with ⟨d, rfl, r⟩ | ⟨i, rfl, q⟩
  · exact .d (O := []) (.sh r) hs
  · exact .v q hs
theorem perm_ok : ∀ {π : List Nat} {vs : List V} {os os' : List Ov} {T : List Addr}, RepO G H σ vs os T → os.all Ov.isSh = true → perm π os = some os' → ∃ vs', perm π vs = some vs' ∧ RepO G H σ vs' os' []
  | [], _, _, _, _, _, _, e => by unfold perm at e; cases e; exact ⟨[], rfl, .nil⟩
  | j :: π, vs, os, _, _, r, a, e => by
    unfold perm at e
    split at e
    · rename_i o os2 e1 e2
      cases e
      obtain ⟨v, x, y⟩ := r.at_sh a e1
      obtain ⟨vs', p, q⟩ := perm_ok r a e2
      refine ⟨v :: vs', ?_, RepO.cons1 y q⟩
      unfold perm
      rw [x, p]
    · cases e
theorem perm_val {π : List Nat} : ∀ {vs : List V} {us : List Value} {vs' : List V}, Vals vs us → perm π vs = some vs' → ∃ us', perm π us = some us' ∧ Vals vs' us' := by
  induction π with
  | nil => intro vs us vs' _ e; unfold perm at e; cases e; exact ⟨[], rfl, .nil⟩
  | cons j π ih =>
    intro vs us vs' r e
    unfold perm at e
    split at e
    · rename_i x l e1 e2
      cases e
      obtain ⟨u, h1, h2⟩ := r.get e1
      obtain ⟨us', p, q⟩ := ih r e2
      refine ⟨u :: us', ?_, .cons h2 q⟩
      unfold perm
      rw [h1, p]
    · cases e
theorem perm_off {α : Type} : ∀ (l m : List α), perm ((List.range l.length).map (· + m.length)) (m ++ l) = some l
  | [], _ => rfl
  | x :: l, m => by
    have ih := perm_off l (m ++ [x])
    rw [List.length_cons, List.range_succ_eq_map, List.map_cons, List.map_map]
    unfold perm
    rw [List.length_append, List.append_assoc] at ih
    simp only [List.length_singleton, List.singleton_append] at ih
    have e : ((List.range l.length).map ((fun x => x + m.length) ∘ Nat.succ)) = (List.range l.length).map (· + (m.length + 1)) := by
      refine List.map_congr_left fun a _ => ?_
      show a + 1 + m.length = a + (m.length + 1)
      omega
    rw [e, ih]
    simp
theorem perm_id {α : Type} (l : List α) : perm (List.range l.length) l = some l := by
  have := perm_off l []
  simpa using this
/-- the arguments' values -/
theorem argD_ok : ∀ {io : List Bool} {vs : List V} {os : List Ov} {T O : List Addr} {ρ ρ1 : Env} {ds : List D}, RepO G H σ vs os T → RepE G H σ ρ O → (T ++ O).Nodup → argD io os ρ = some (ds, ρ1) →
    ∃ A O1, Reps G H vs ds A ∧ RepE G H σ ρ1 O1 ∧ (A ++ O1).Nodup ∧ ∀ a ∈ A ++ O1, a ∈ T ++ O
  | [], _, _, _, _, ρ, _, _, .nil, rE, nd, e => by unfold argD at e; cases e; exact ⟨[], _, .nil, rE, nd, fun a q => q⟩
  | false :: io, _, _, _, O, ρ, _, _, .d (d := d) (os := os) (O := T0) (T := T) r hs, rE, nd, e => by
    unfold argD at e
    split at e
    · rename_i l ρ' e1
      cases e
      rw [List.append_assoc] at nd
      have nd' := nd_app.mp nd
      obtain ⟨A, O1, a1, a2, a3, a4⟩ := argD_ok hs rE nd'.2.1 e1
      refine ⟨T0 ++ A, O1, .cons r a1, a2, ?_, fun x q => ?_⟩
      · rw [List.append_assoc]
        exact nd_app.mpr ⟨nd'.1, a3, fun x hx z => nd'.2.2 x hx (a4 x z)⟩
      · rw [List.append_assoc] at q ⊢
        rcases List.mem_append.mp q with q | q
        · exact List.mem_append_left _ q
        · exact List.mem_append_right _ (a4 x q)
    · cases e
  | true :: io, _, _, _, O, ρ, _, _, .v (i := i) (os := os) (T := T) q hs, rE, nd, e => by
    unfold argD at e
    split at e
    · rename_i d e0
      split at e
      · rename_i l ρ' e1
        cases e
        obtain ⟨v, O1, O2, b1, b2, b3, b4⟩ := rE.out e0
        rw [q] at b1; cases b1
        have p2 : (T ++ O).Perm (O1 ++ (T ++ O2)) := (List.Perm.append_left T b3).trans (by rw [← List.append_assoc, ← List.append_assoc]; exact List.Perm.append_right O2 List.perm_append_comm)
        have nd' := nd_app.mp (p2.nodup nd)
        obtain ⟨A, O3, a1, a2, a3, a4⟩ := argD_ok hs b4 nd'.2.1 e1
        refine ⟨O1 ++ A, O3, .cons b2 a1, a2, ?_, fun x hx => p2.mem_iff.mpr ?_⟩
        · rw [List.append_assoc]
          exact nd_app.mpr ⟨nd'.1, a3, fun x hx z => nd'.2.2 x hx (a4 x z)⟩
        · rw [List.append_assoc] at hx
          rcases List.mem_append.mp hx with z | z
          · exact List.mem_append_left _ z
          · exact List.mem_append_right _ (a4 x z)
      · cases e
    · cases e
  | true :: _, _, _, _, _, _, _, _, .d _ _, _, _, e => by simp [argD] at e
  | false :: _, _, _, _, _, _, _, _, .v _ _, _, _, e => by simp [argD] at e
  | io, _, _, _, _, _, _, _, .p _ _ _ _ _, _, _, e => by
    cases io with
    | nil => simp [argD] at e
    | cons b io => cases b <;> simp [argD] at e
  | [], _, _, _, _, _, _, _, .d _ _, _, _, e => by simp [argD] at e
  | [], _, _, _, _, _, _, _, .v _ _, _, _, e => by simp [argD] at e
  | b :: _, _, _, _, _, _, _, _, .nil, _, _, e => by cases b <;> simp [argD] at e
/-- .. given back: in another heap -/
theorem backD_ok : ∀ {io : List Bool} {vs : List V} {os : List Ov} {T O A : List Addr} {ρ ρ2 : Env} {outs : List D}, RepO G H σ vs os T → RepE G H' σ ρ O → Reps G H' (pick io vs) outs A → (A ++ O).Nodup → backD io os outs ρ = some ρ2 →
    ∃ O2, RepE G H' σ ρ2 O2 ∧ O2.Nodup ∧ ∀ a ∈ O2, a ∈ A ++ O
  | [], _, _, _, _, _, ρ, _, outs, .nil, rE, rs, nd, e => by
    cases outs with
    | nil =>
      unfold backD at e; cases e
      exact ⟨_, rE, (nd_app.mp nd).2.1, fun a q => List.mem_append_right _ q⟩
    | cons _ _ => simp [backD] at e
  | false :: io, _, _, _, _, _, ρ, _, outs, .d r hs, rE, rs, nd, e => by unfold backD at e; exact backD_ok hs rE rs nd e
  | false :: io, _, _, _, _, _, ρ, _, outs, .v r hs, rE, rs, nd, e => by unfold backD at e; exact backD_ok hs rE rs nd e
  | false :: io, _, _, _, _, _, ρ, _, outs, .p _ _ _ _ hs, rE, rs, nd, e => by unfold backD at e; exact backD_ok hs rE rs nd e
  | true :: io, _, _, _, O, _, ρ, _, outs, .v (v := v) (vs := vs) (i := i) q hs, rE, rs, nd, e => by
    cases outs with
    | nil => simp [backD] at e
    | cons d outs =>
      unfold backD at e
      split at e
      · rename_i e0
        cases rs with
        | @cons v vs d ds O1 A' r rs =>
          rw [List.append_assoc] at nd
          have nd' := nd_app.mp nd
          obtain ⟨O2, pm, rE2⟩ := rE.put e0 q r
          have p2 : (O1 ++ (A' ++ O)).Perm (A' ++ O2) := by
            refine List.Perm.trans ?_ (List.Perm.append_left A' pm.symm)
            rw [← List.append_assoc, ← List.append_assoc]
            exact List.Perm.append_right O List.perm_append_comm
          obtain ⟨O3, b1, b2, b3⟩ := backD_ok hs rE2 rs (p2.nodup nd) e
          refine ⟨O3, b1, b2, fun a z => ?_⟩
          rw [List.append_assoc]
          exact p2.mem_iff.mpr (b3 a z)
      · cases e
  | true :: _, _, _, _, _, _, _, _, outs, .d _ _, _, _, _, e => by cases outs <;> simp [backD] at e
  | true :: _, _, _, _, _, _, _, _, outs, .p _ _ _ _ _, _, _, _, e => by cases outs <;> simp [backD] at e
  | [], _, _, _, _, _, _, _, outs, .d _ _, _, _, _, e => by cases outs <;> simp [backD] at e
  | [], _, _, _, _, _, _, _, outs, .v _ _, _, _, _, e => by cases outs <;> simp [backD] at e
  | [], _, _, _, _, _, _, _, outs, .p _ _ _ _ _, _, _, _, e => by cases outs <;> simp [backD] at e
  | b :: _, _, _, _, _, _, _, _, outs, .nil, _, _, _, e => by cases b <;> cases outs <;> simp [backD] at e
theorem argD_len : ∀ {io : List Bool} {os : List Ov} {ρ ρ1 : Env} {ds : List D}, argD io os ρ = some (ds, ρ1) → io.length = os.length
  | [], [], _, _, _, _ => rfl
  | [], _ :: _, _, _, _, e => by simp [argD] at e
  | b :: _, [], _, _, _, e => by cases b <;> simp [argD] at e
  | false :: io, .d d :: os, ρ, _, _, e => by
    unfold argD at e
    split at e
    · exact congrArg (· + 1) (argD_len (by assumption))
    · cases e
  | true :: io, .v i :: os, ρ, _, _, e => by
    unfold argD at e
    split at e
    · split at e
      · exact congrArg (· + 1) (argD_len (by assumption))
      · cases e
    · cases e
  | false :: _, .v _ :: _, _, _, _, e => by simp [argD] at e
  | false :: _, .p _ _ _ :: _, _, _, _, e => by simp [argD] at e
  | true :: _, .d _ :: _, _, _, _, e => by simp [argD] at e
  | true :: _, .p _ _ _ :: _, _, _, _, e => by simp [argD] at e

theorem call_logic {dn : Den} {ks : List Str} {ops : List Sop} {π : List Nat} {Q : VK} (h : tE G W (callD dn ks ops π) σ H Q) :
    tO G W ops σ H fun vs H2 => ∃ zs, (match ks with | [] => zs = vs | _ => perm π vs = some zs) ∧ spD G dn zs H2 Q fun cls d H' => W cls d σ H' := by
  obtain ⟨ρ, O, rE, nd, h⟩ := tE_iff.mp h
  refine run_ops ops ρ O rE nd ?_
  unfold OpsR
  unfold callD at h
  cases er : runO ops ρ with
  | no => rw [er] at h; exact h.elim
  | ex x ρ' => rw [er] at h; exact h
  | ok q =>
    obtain ⟨os, ρ2⟩ := q
    rw [er] at h
    intro vs H2 O2 T rE2 rO nd2 go
    simp only [Res.bind] at h
    cases e1 : arr ks π os with
    | none => rw [e1] at h; exact h.elim
    | some os' =>
      simp only [e1] at h
      have hz : ∃ zs T', (match ks with | [] => zs = vs | _ => perm π vs = some zs) ∧ RepO G H2 σ zs os' T' ∧ (T' ++ O2).Nodup ∧ ∀ a ∈ T' ++ O2, a ∈ T ++ O2 := by
        unfold arr at e1
        split at e1
        · cases e1
          exact ⟨vs, T, rfl, rO, nd2, fun a z => z⟩
        · rename_i hne
          split at e1
          · rename_i ha
            obtain ⟨zs, p, r⟩ := perm_ok rO ha e1
            refine ⟨zs, [], ?_, r, (nd_app.mp nd2).2.1, fun a z => List.mem_append_right _ z⟩
            cases ks with
            | nil => exact absurd rfl hne
            | cons _ _ => exact p
          · cases e1
      obtain ⟨zs, T', hz, rO', nd', sub⟩ := hz
      cases e2 : argD dn.io os' ρ2 with
      | none => rw [e2] at h; exact h.elim
      | some p =>
        obtain ⟨ds, ρ1⟩ := p
        simp only [e2] at h
        obtain ⟨A, O1, rA, rE1, nd1, sub1⟩ := argD_ok rO' rE2 nd' e2
        refine ⟨zs, hz, by rw [argD_len e2, rO'.len], ds, A, rA, (nd_app.mp nd1).1, ?_⟩
        have go1 : Go O H (A ++ O1) H2 := go.less fun a z => sub a (sub1 a z)
        have nd1' := nd_app.mp nd1
        -- the names that were not handed over stay
        have stay : ∀ {S1 : List Addr} {H' : Hp}, Go A H2 S1 H' → RepE G H' σ ρ1 O1 ∧ (∀ a ∈ O1, a ∉ S1) := fun g =>
          ⟨rE1.fr g.frm rA.mut fun a z q => nd1'.2.2 a q z, g.keep fun a z => ⟨fun q => nd1'.2.2 a q z, rE1.mut.some a z⟩⟩
        have goH : ∀ {S1 : List Addr} {H' : Hp}, Go A H2 S1 H' → Go (A ++ O1) H2 (S1 ++ O1) H' := fun g =>
          ⟨fun a o e n => g.frm a o e fun q => n (List.mem_append_left _ q), fun a q => (List.mem_append.mp q).elim (fun z => (g.sub a z).imp (fun y => List.mem_append_left _ y) id) fun z => .inl (List.mem_append_right _ z)⟩
        cases e3 : dn.m ds with
        | no => simp only [e3] at h; exact h
        | ok r outs =>
          simp only [e3] at h
          intro v H' Tr Oo rv rs nd3 g
          obtain ⟨rE', dis⟩ := stay g
          have nd3' := nd_app.mp nd3
          cases e4 : backD dn.io os' outs ρ1 with
          | none => simp only [e4] at h; exact h.elim
          | some ρ3 =>
            simp only [e4] at h
            obtain ⟨O3, b1, b2, b3⟩ := backD_ok rO' rE' rs (nd_app.mpr ⟨nd3'.2.1, nd1'.2.1, fun a z q => dis a q (List.mem_append_right _ z)⟩) e4
            refine h v H' ⟨O3, Tr, b1, rv, nd_app.mpr ⟨nd3'.1, b2, fun a z q => ?_⟩, (go1.trans (goH g)).less fun a z => ?_⟩
            · rcases List.mem_append.mp (b3 a q) with y | y
              · exact nd3'.2.2 a z y
              · exact dis a y (List.mem_append_left _ z)
            · rw [List.append_assoc]
              rcases List.mem_append.mp z with z | z
              · exact List.mem_append_left _ z
              · exact List.mem_append_right _ (b3 a z)
        | ex x outs =>
          simp only [e3] at h
          intro cls dd H' Oo rs nd3 g hx
          obtain ⟨rE', dis⟩ := stay g
          cases e4 : backD dn.io os' outs ρ1 with
          | none => simp only [e4] at h; exact h.elim
          | some ρ3 =>
            simp only [e4] at h
            obtain ⟨O3, b1, b2, b3⟩ := backD_ok rO' rE' rs (nd_app.mpr ⟨nd3, nd1'.2.1, fun a z q => dis a q z⟩) e4
            exact h cls dd H' ⟨O3, b1, b2, (go1.trans (goH g)).less fun a z => b3 a z, hx⟩
/-! ### the call itself -/
theorem kw_all : ∀ {kws : List Keyword} {ks : List Str} (pos : Pos) (env : PySem.Env), kwN kws = ks.map some → (backToKw pos (keywordEach kws env)).all (·.1.isSome) = true ∧ (backToKw pos (keywordEach kws env)).filterMap (·.1) = ks ∧
    (backToKw pos (keywordEach kws env)).any (·.1.isNone) = false
  | [], [], _, _, _ => ⟨rfl, rfl, rfl⟩
  | [], _ :: _, _, _, h => by simp [kwN] at h
  | ⟨n, v, p⟩ :: kws, [], _, _, h => by simp [kwN] at h
  | ⟨n, v, p⟩ :: kws, k :: ks, pos, env, h => by
    simp only [kwN, List.map_cons, List.cons.injEq] at h
    obtain ⟨rfl, h⟩ := h
    obtain ⟨a, b, c⟩ := kw_all pos env h
    refine ⟨?_, ?_, ?_⟩
    · show (true && (backToKw pos (keywordEach kws env)).all (·.1.isSome)) = true
      rw [a]; rfl
    · show k :: (backToKw pos (keywordEach kws env)).filterMap (·.1) = k :: ks
      rw [b]
    · show (false || (backToKw pos (keywordEach kws env)).any (·.1.isNone)) = false
      rw [c]; rfl
theorem kw_pk : ∀ {kws : List Keyword} {ys : List PySem.Expr} {ops : List Sop}, kwB kws = some ys → POs X G W ys ops → L2.PK X kws (tO G W ops)
  | [], _, _, e, ps => by
    unfold kwB at e; cases e
    cases ps; exact pk_nil
  | ⟨n, v, p⟩ :: kws, _, _, e, ps => by
    unfold kwB at e
    split at e
    · rename_i l e2
      cases e
      cases ps with
      | cons h _ hs => rw [tO_cons]; exact pk_cons h (kw_pk e2 hs)
    · cases e
theorem tO_len : ∀ {ops : List Sop} {σ : L2.St} {H : Hp} {R : List V → Hp → Prop}, tO G W ops σ H R → tO G W ops σ H fun vs H' => vs.length = ops.length ∧ R vs H'
  | [], _, _, _, h => ⟨rfl, h⟩
  | o :: r, _, _, _, h => by
    rw [tO_cons] at h ⊢
    refine tS1_mono h fun x H1 z => tO_mono (tO_len (R := fun xs H2 => _) z) fun xs H2 ⟨a, b⟩ => ⟨?_, b⟩
    rw [List.length_cons, a, List.length_cons]
theorem POs.len : ∀ {xs : List PySem.Expr} {os : List Sop}, POs X G W xs os → xs.length = os.length
  | _, _, .nil => rfl
  | _, _, .cons _ _ hs => congrArg (· + 1) (POs.len hs)
theorem kwB_len : ∀ {kws : List Keyword} {ys : List PySem.Expr}, kwB kws = some ys → ys.length = kws.length
  | [], _, e => by unfold kwB at e; cases e; rfl
  | ⟨n, v, p⟩ :: kws, _, e => by
    unfold kwB at e
    split at e
    · rename_i l e2
      cases e
      exact congrArg (· + 1) (kwB_len e2)
    · cases e
theorem kwN_len : ∀ (kws : List Keyword), (kwN kws).length = kws.length
  | [] => rfl
  | ⟨n, v, p⟩ :: kws => congrArg (· + 1) (kwN_len kws)
theorem call_ok (C : Ctx G Γ S X) (tk : Takes X W) {f : Str} {xs ys : List PySem.Expr} {kws : List Keyword} {ks : List Str} {π : List Nat} {opsA opsB : List Sop} {p pos : Pos} (hg : glB S f = true) (psA : POs X G W xs opsA) (hk : kwB kws = some ys)
    (psB : POs X G W ys opsB) (hn : kwN kws = ks.map some) (hp : (S.pats f).contains (xs.length, ks, π) = true) (hid : ks = [] → π = List.range xs.length) : PE X (.Call (.Name f p) xs kws pos) (tE G W (callE (Γ.fn f) ks (opsA ++ opsB) π)) := by
  cases ef : Γ.fn f with
  | none => exact pe_false fun ρ => rfl
  | some dn =>
    obtain ⟨a, fd, ps, k, hm, hkp, hr, F, hb⟩ := (C.fn f dn ef).to
    obtain ⟨g1, g2, _⟩ := C.gl hg
    refine ⟨fun pins s σ H Q I h => ?_⟩
    have h := tO_len (tO_mono (tO_app (call_logic h)) fun vs H1 z => tO_len z)
    obtain ⟨k1, k2, k3⟩ := kw_all pos X.env hn
    -- the callee runs
    have run : ∀ {s2 : Shared} {H2 : Hp} {us ws : List Value} {vs ws' : List V}, Inv X pins σ H2 s2 → Vals vs us → Vals ws' ws → us.length = xs.length → ws.length = ks.length →
        (∃ zs, (match ks with | [] => zs = vs ++ ws' | _ => perm π (vs ++ ws') = some zs) ∧ spD G dn zs H2 Q fun cls d H' => W cls d σ H') →
        wpAny (model X.prog X.w) X.A (call (.ref a) us (ks.zip ws)) (EP X pins σ Q) X.xe s2 := by
      intro s2 H2 us ws vs ws' I2 rv rw' lu lw ⟨zs, hz, hs⟩
      have hz2 : perm π (vs ++ ws') = some zs := by
        cases ks with
        | nil =>
          have e : ws' = [] := List.eq_nil_of_length_eq_zero (by rw [rw'.length, lw]; rfl)
          subst e
          rw [List.append_nil] at hz ⊢
          subst hz
          rw [hid rfl, ← lu, ← rv.length]
          exact perm_id zs
        | cons _ _ => exact hz
      obtain ⟨us', pz, rz⟩ := perm_val (rv.append rw') hz2
      have hb' := hb xs.length ks π (by simpa using hp) s2 us ws us' I2.kIn lu lw pz
      refine wpAny_call (codeAny_mono (F.run X.A X.stack s2 H2 ⟨us, ks.zip ws⟩ us' zs Q _ hr C.gd I2.env0 hb' rz hs) fun r s' hq => ?_)
      cases r with
      | error e => exact tk e s' (XE.of_call I2 (fun _ _ _ z => z) hq)
      | ok fl =>
        cases fl with
        | ret u => exact I2.after hq
        | next => exact False.elim hq
        | brk => exact False.elim hq
        | cont => exact False.elim hq
    refine wpAny_Call_Name_kw (ld_glob I g1 hm ?_ g2)
    have lk : opsB.length = ks.length := by
      rw [← psB.len, kwB_len hk]
      have := congrArg List.length hn
      rw [List.length_map] at this
      rw [← this, kwN_len]
    cases kws with
    | nil =>
      have e0 : ks = [] := by
        cases ks with
        | nil => rfl
        | cons _ _ => simp [kwN] at hn
      subst e0
      unfold kwB at hk; cases hk
      cases psB
      cases xs with
      | nil =>
        cases psA
        exact PySem.W.callWith_K0 I.kIn hkp (run (us := []) (ws := []) I .nil .nil rfl rfl h.2.2)
      | cons x xs =>
        have hx : notStar x = true := by cases psA; assumption
        have pl := psA
        cases pl with
        | cons _ _ pl =>
          refine PySem.W.callWith_K (h₀ := X.base) I.ok.mod.kin hkp (thn (psA.pa.run pos pins s σ H _ I h) fun us s1 ⟨vs, H1, I1, r, q⟩ => ⟨I1.kIn, ?_⟩) (star1 hx) (pl.plain pos X.env)
          exact run (us := us) (ws := []) I1 r .nil (by rw [← r.length, q.1, ← psA.len]) rfl q.2.2
    | cons kw kws =>
      cases xs with
      | nil =>
        cases psA
        refine PySem.W.callWith_KW0 (h₀ := X.base) I.ok.mod.kin hkp k1 (thn ((kw_pk hk psB).run pos pins s σ H _ I h.2) fun ws s1 ⟨zs, H1, I1, r, q⟩ => ⟨I1.kIn, ?_⟩) (by show (false || (backToKw pos (keywordEach (kw :: kws) X.env)).any (·.1.isNone)) = false; rw [k3]; rfl)
        rw [k2]
        exact run (us := []) I1 .nil r rfl (by rw [← r.length, q.1, lk]) q.2
      | cons x xs =>
        have hx : notStar x = true := by cases psA; assumption
        refine PySem.W.callWith_KW (h₀ := X.base) I.ok.mod.kin hkp k1 (thn (psA.pa.run pos pins s σ H _ I h) fun us s1 ⟨vs, H1, I1, r, q⟩ => ?_) (by rw [psA.plain pos X.env, k3]; rfl) (star1 hx)
        refine thn ((kw_pk hk psB).run pos pins s1 σ H1 _ I1 q.2) fun ws s2 ⟨zs, H2, I2, rz, q2⟩ => ⟨I2.kIn, ?_⟩
        rw [k2]
        exact run (us := us) I2 r rz (by rw [← r.length, q.1, ← psA.len]) (by rw [← rz.length, q2.1, lk]) q2.2
end
end Vs
/-! V13: methods that change a list; freezing. -/
namespace Vs
open PySem PySem.Spec L2
open PyProof.Rows hiding St
section
variable {X : Cx} {G : Ga} {W : WX} {S : Sc} {Γ : Gam} {σ : L2.St} {H H' : Hp}
/-- one item of a list of values -/
theorem Reps.split : ∀ {us : List V} {es : List D} {T : List Addr} {j : Nat} {y : D}, Reps G H us es T → es[j]? = some y → ∃ u Tj R, us[j]? = some u ∧ Rep G H u y Tj ∧ T.Perm (Tj ++ R) ∧
    ∀ {H3 : Hp} {S : List Addr} {y' : D} {Tj' : List Addr}, Frm S H H3 → MutA H S → (∀ a ∈ R, a ∉ S) → Rep G H3 u y' Tj' → ∃ T', Reps G H3 us (es.set j y') T' ∧ T'.Perm (Tj' ++ R)
  | _, _, _, j, y, .nil, e => by simp at e
  | _, _, _, 0, y, .cons (O := O) (O' := O') h hs, e => by
    simp at e; subst e
    exact ⟨_, O, O', rfl, h, .refl _, fun f m n r => ⟨_, .cons r (hs.fr f m n), .refl _⟩⟩
  | _, _, _, j + 1, y, .cons (O := O) (O' := O') h hs, e => by
    obtain ⟨u, Tj, R, a, b, c, k⟩ := Reps.split (j := j) hs (by simpa using e)
    refine ⟨u, Tj, O ++ R, by simpa using a, b, ?_, fun f m n r => ?_⟩
    · exact (List.Perm.append_left O c).trans (by rw [← List.append_assoc, ← List.append_assoc]; exact List.Perm.append_right R List.perm_append_comm)
    · obtain ⟨T', x, p⟩ := k f m (fun a q => n a (List.mem_append_right _ q)) r
      refine ⟨_, .cons (h.fr f m fun a q => n a (List.mem_append_left _ q)) x, ?_⟩
      exact (List.Perm.append_left O p).trans (by rw [← List.append_assoc, ← List.append_assoc]; exact List.Perm.append_right R List.perm_append_comm)
theorem dk_split : ∀ {kvs : List (Key × V)} {es : List D} {T : List Addr} {k : Key} {y : D}, Reps G H (kvs.map (·.2)) es T → dkGet (kvs.map (·.1)) es k = some y → ∃ u Tj R, valV kvs k = some u ∧ Rep G H u y Tj ∧ T.Perm (Tj ++ R) ∧
    ∀ {H3 : Hp} {S : List Addr} {y' : D} {Tj' : List Addr}, Frm S H H3 → MutA H S → (∀ a ∈ R, a ∉ S) → Rep G H3 u y' Tj' → ∃ T', Reps G H3 (kvs.map (·.2)) (dkSet (kvs.map (·.1)) es k y') T' ∧ T'.Perm (Tj' ++ R)
  | [], es, T, k, y, h, e => by simp [dkGet] at e
  | (q, v) :: kvs, es, T, k, y, hh, e => by
   cases hh with
   | @cons _ _ d ds O O' h hs =>
    simp only [List.map_cons, dkGet] at e
    by_cases hk : q = k
    · rw [if_pos hk] at e
      cases e
      refine ⟨v, O, O', valV_pos hk, h, .refl _, fun f m n r => ⟨_, ?_, .refl _⟩⟩
      simp only [List.map_cons, dkSet, if_pos hk]
      exact .cons r (hs.fr f m n)
    · rw [if_neg hk] at e
      obtain ⟨u, Tj, R, a, b, c, g⟩ := dk_split hs e
      refine ⟨u, Tj, O ++ R, by rw [valV_neg hk]; exact a, b, ?_, fun f m n r => ?_⟩
      · exact (List.Perm.append_left O c).trans (by rw [← List.append_assoc, ← List.append_assoc]; exact List.Perm.append_right R List.perm_append_comm)
      · obtain ⟨T', x, p⟩ := g f m (fun a q => n a (List.mem_append_right _ q)) r
        refine ⟨O ++ T', ?_, ?_⟩
        · simp only [List.map_cons, dkSet, if_neg hk]
          exact .cons (h.fr f m fun a q => n a (List.mem_append_left _ q)) x
        · exact (List.Perm.append_left O p).trans (by rw [← List.append_assoc, ← List.append_assoc]; exact List.Perm.append_right R List.perm_append_comm)
/-- a list within a tree, and the tree with another list in its place -/
theorem Rep.focus : ∀ {p : List PK} {v : V} {d : D} {ds : List D} {T0 : List Addr}, Rep G H v d T0 → getP p d = some (.ls ds) → T0.Nodup → ∃ l xs T R, VAt H v p (.ref l) ∧ H l = some (.lst xs) ∧ Reps G H xs ds T ∧ T0.Perm ((l :: T) ++ R) ∧
    ∀ {H3 : Hp} {xs' : List V} {ds' : List D} {T' : List Addr}, Frm [l] H H3 → H3 l = some (.lst xs') → Reps G H3 xs' ds' T' → ∃ T0', Rep G H3 v (setP p d (.ls ds')) T0' ∧ T0'.Perm ((l :: T') ++ R)
  | [], v, d, ds, T0, h, e, nd => by
    unfold getP at e; cases e
    cases h with
    | @ls a xs _ O q hs =>
      exact ⟨a, xs, O, [], .nil, q, hs, by simp, fun f e r => ⟨_, .ls e r, by simp⟩⟩
  | .ix n :: p, v, d, ds, T0, h, e, nd => by
    cases h with
    | @ls a xs es O q hs =>
      unfold getP at e
      split at e
      · rename_i y ey
        obtain ⟨j, u, e1, e2, e3, e4⟩ := atI_map hs.len ey
        obtain ⟨u', Tj, R, a1, a2, a3, a4⟩ := hs.split e1
        rw [e2] at a1; cases a1
        have nd2 := List.nodup_cons.mp nd
        have nd3 := nd_app.mp (a3.nodup nd2.2)
        obtain ⟨l, zs, T, R2, b1, b2, b3, b4, b5⟩ := Rep.focus a2 e nd3.1
        have hl : l ∈ Tj := b4.mem_iff.mpr (by simp)
        have hla : a ≠ l := fun z => nd2.1 (a3.mem_iff.mpr (List.mem_append_left _ (z ▸ hl)))
        have p1 : (a :: O).Perm ((l :: T) ++ (a :: (R2 ++ R))) := by
          refine List.Perm.trans (List.Perm.cons a (a3.trans (List.Perm.append_right R b4))) ?_
          rw [List.append_assoc]
          exact List.perm_middle.symm
        refine ⟨l, zs, T, a :: (R2 ++ R), .ix q e3 b1, b2, b3, p1, fun {H3 xs' ds' T'} f e r => ?_⟩
        obtain ⟨Tj', c1, c2⟩ := b5 f e r
        have ml : MutA H [l] := fun b hb => by
          have : b = l := by simpa using hb
          subst this; rw [b2]; trivial
        obtain ⟨T2, d1, d2⟩ := a4 f ml (fun b hb z => by
          have : b = l := by simpa using z
          subst this; exact nd3.2.2 _ hl hb) c1
        refine ⟨a :: T2, ?_, ?_⟩
        · unfold setP
          rw [ey]
          simp only
          unfold setAt
          rw [e4]
          exact .ls (f _ _ q fun z => by
            have : a = l := by simpa using z
            exact hla this) d1
        · refine List.Perm.trans (List.Perm.cons a (d2.trans (List.Perm.append_right R c2))) ?_
          rw [List.append_assoc]
          exact List.perm_middle.symm
      · cases e
    | sh _ => simp [getP] at e
    | tp _ _ => simp [getP] at e
    | dk _ _ => simp [getP] at e
    | dd _ _ _ _ => simp [getP] at e
    | ob _ _ _ => simp [getP] at e
    | fn _ => simp [getP] at e
  | .key k :: p, v, d, ds, T0, h, e, nd => by
    cases h with
    | @dk a kvs es O q hs =>
      unfold getP at e
      split at e
      · rename_i y ey
        obtain ⟨u', Tj, R, a1, a2, a3, a4⟩ := dk_split hs ey
        have nd2 := List.nodup_cons.mp nd
        have nd3 := nd_app.mp (a3.nodup nd2.2)
        obtain ⟨l, zs, T, R2, b1, b2, b3, b4, b5⟩ := Rep.focus a2 e nd3.1
        have hl : l ∈ Tj := b4.mem_iff.mpr (by simp)
        have hla : a ≠ l := fun z => nd2.1 (a3.mem_iff.mpr (List.mem_append_left _ (z ▸ hl)))
        have p1 : (a :: O).Perm ((l :: T) ++ (a :: (R2 ++ R))) := by
          refine List.Perm.trans (List.Perm.cons a (a3.trans (List.Perm.append_right R b4))) ?_
          rw [List.append_assoc]
          exact List.perm_middle.symm
        refine ⟨l, zs, T, a :: (R2 ++ R), .key q a1 b1, b2, b3, p1, fun {H3 xs' ds' T'} f e r => ?_⟩
        obtain ⟨Tj', c1, c2⟩ := b5 f e r
        have ml : MutA H [l] := fun b hb => by
          have : b = l := by simpa using hb
          subst this; rw [b2]; trivial
        obtain ⟨T2, d1, d2⟩ := a4 f ml (fun b hb z => by
          have : b = l := by simpa using z
          subst this; exact nd3.2.2 _ hl hb) c1
        refine ⟨a :: T2, ?_, ?_⟩
        · unfold setP
          rw [ey]
          simp only
          exact .dk (f _ _ q fun z => by
            have : a = l := by simpa using z
            exact hla this) d1
        · refine List.Perm.trans (List.Perm.cons a (d2.trans (List.Perm.append_right R c2))) ?_
          rw [List.append_assoc]
          exact List.perm_middle.symm
      · cases e
    | sh _ => simp [getP] at e
    | tp _ _ => simp [getP] at e
    | ls _ _ => simp [getP] at e
    | dd _ _ _ _ => simp [getP] at e
    | ob _ _ _ => simp [getP] at e
    | fn _ => simp [getP] at e
/-- any place within a tree, and the tree with another value of the same kind of reference in its place -/
theorem Rep.focusG : ∀ {p : List PK} {v : V} {d y : D} {T0 : List Addr}, Rep G H v d T0 → getP p d = some y → T0.Nodup → ∃ u T R, VAt H v p u ∧ Rep G H u y T ∧ T0.Perm (T ++ R) ∧
    ∀ {H3 : Hp} {A : List Addr} {y' : D} {T' : List Addr}, Frm A H H3 → MutA H A → (∀ a ∈ A, a ∉ R) → Rep G H3 u y' T' → ∃ T0', Rep G H3 v (setP p d y') T0' ∧ T0'.Perm (T' ++ R)
  | [], v, d, y, T0, h, e, nd => by
    unfold getP at e; cases e
    exact ⟨v, T0, [], .nil, h, by simp, fun f m n r => ⟨_, r, by simp⟩⟩
  | .ix n :: p, v, d, y, T0, h, e, nd => by
    cases h with
    | @ls a xs es O q hs =>
      unfold getP at e
      split at e
      · rename_i z ez
        obtain ⟨j, u, e1, e2, e3, e4⟩ := atI_map hs.len ez
        obtain ⟨u', Tj, R, a1, a2, a3, a4⟩ := hs.split e1
        rw [e2] at a1; cases a1
        have nd2 := List.nodup_cons.mp nd
        have nd3 := nd_app.mp (a3.nodup nd2.2)
        obtain ⟨w, T, R2, b1, b3, b4, b5⟩ := Rep.focusG a2 e nd3.1
        have p1 : ∀ (T Tj : List Addr) (O : List Addr), O.Perm (Tj ++ R) → Tj.Perm (T ++ R2) → (a :: O).Perm (T ++ (a :: (R2 ++ R))) := fun T Tj O h1 h2 => by
          refine List.Perm.trans (List.Perm.cons a (h1.trans (List.Perm.append_right R h2))) ?_
          rw [List.append_assoc]
          exact List.perm_middle.symm
        refine ⟨w, T, a :: (R2 ++ R), .ix q e3 b1, b3, p1 T Tj O a3 b4, fun {H3 A y' T'} f m n r => ?_⟩
        obtain ⟨Tj', c1, c2⟩ := b5 f m (fun b hb z => n b hb (List.mem_cons_of_mem _ (List.mem_append_left _ z))) r
        obtain ⟨T2, d1, d2⟩ := a4 f m (fun b hb z => n b z (List.mem_cons_of_mem _ (List.mem_append_right _ hb))) c1
        refine ⟨a :: T2, ?_, p1 T' Tj' T2 d2 c2⟩
        unfold setP
        rw [ez]
        simp only
        unfold setAt
        rw [e4]
        exact .ls (f _ _ q fun z => n a z List.mem_cons_self) d1
      · cases e
    | sh _ => simp [getP] at e
    | tp _ _ => simp [getP] at e
    | dk _ _ => simp [getP] at e
    | dd _ _ _ _ => simp [getP] at e
    | ob _ _ _ => simp [getP] at e
    | fn _ => simp [getP] at e
  | .key k :: p, v, d, y, T0, h, e, nd => by
    cases h with
    | @dk a kvs es O q hs =>
      unfold getP at e
      split at e
      · rename_i z ez
        obtain ⟨u', Tj, R, a1, a2, a3, a4⟩ := dk_split hs ez
        have nd2 := List.nodup_cons.mp nd
        have nd3 := nd_app.mp (a3.nodup nd2.2)
        obtain ⟨w, T, R2, b1, b3, b4, b5⟩ := Rep.focusG a2 e nd3.1
        have p1 : ∀ (T Tj : List Addr) (O : List Addr), O.Perm (Tj ++ R) → Tj.Perm (T ++ R2) → (a :: O).Perm (T ++ (a :: (R2 ++ R))) := fun T Tj O h1 h2 => by
          refine List.Perm.trans (List.Perm.cons a (h1.trans (List.Perm.append_right R h2))) ?_
          rw [List.append_assoc]
          exact List.perm_middle.symm
        refine ⟨w, T, a :: (R2 ++ R), .key q a1 b1, b3, p1 T Tj O a3 b4, fun {H3 A y' T'} f m n r => ?_⟩
        obtain ⟨Tj', c1, c2⟩ := b5 f m (fun b hb z => n b hb (List.mem_cons_of_mem _ (List.mem_append_left _ z))) r
        obtain ⟨T2, d1, d2⟩ := a4 f m (fun b hb z => n b z (List.mem_cons_of_mem _ (List.mem_append_right _ hb))) c1
        refine ⟨a :: T2, ?_, p1 T' Tj' T2 d2 c2⟩
        unfold setP
        rw [ez]
        simp only
        exact .dk (f _ _ q fun z => n a z List.mem_cons_self) d1
      · cases e
    | sh _ => simp [getP] at e
    | tp _ _ => simp [getP] at e
    | ls _ _ => simp [getP] at e
    | dd _ _ _ _ => simp [getP] at e
    | ob _ _ _ => simp [getP] at e
    | fn _ => simp [getP] at e
/-- what a method's rule is asked: the list at l, its items, the arguments -/
def MutQ (G : Ga) (m : Mo) (l : Addr) (vs : List V) (H2 : Hp) (Q : VK) : Prop := ∃ xs ds as T A ds' r, H2 l = some (.lst xs) ∧ Reps G H2 xs ds T ∧ Reps G H2 vs as A ∧ (T ++ A).Nodup ∧ l ∉ T ++ A ∧ mo m ds as = some (ds', r) ∧
  ∀ xs' v T' Tr H3, H3 l = some (.lst xs') → Frm [l] H2 H3 → Reps G H3 xs' ds' T' → Rep G H3 v r Tr → (Tr ++ T').Nodup → (∀ a ∈ Tr ++ T', a ∈ T ++ A) → Q v H3
/-- the last step, for a root that stands aside -/
theorem mut_fin {m : Mo} {i : Nat} {path : List PK} {root : D} {ds as ds' : List D} {r : D} {v0 : V} {vs : List V} {T0 A O O' : List Addr} {ρ : Env} {H2 : Hp} {Q : VK} (rv : Rep G H2 v0 root T0) (eg : getP path root = some (.ls ds)) (ra : Reps G H2 vs as A)
    (rE : RepE G H2 σ ρ O') (nd : (T0 ++ (A ++ O')).Nodup) (hn : ρ[i]? = some none) (hσ : σ[i]? = some (some v0)) (em : mo m ds as = some (ds', r)) (go : Go O H (T0 ++ (A ++ O')) H2)
    (h : ∀ v H3, EvR G O σ H (ρ.set i (some (setP path root (.ls ds')))) r v H3 → Q v H3) {l : Addr} (hv : VAt H2 v0 path (.ref l)) : MutQ G m l vs H2 Q := by
  have nd1 := nd_app.mp nd
  obtain ⟨l', xs, T, R, b1, b2, b3, b4, b5⟩ := rv.focus eg nd1.1
  cases b1.inj hv
  have nd2 := nd_app.mp (b4.nodup nd1.1)
  have nd3 := List.nodup_cons.mp nd2.1
  have nd4 := nd_app.mp nd1.2.1
  have inT0 : ∀ {a : Addr}, a ∈ l :: T ∨ a ∈ R → a ∈ T0 := fun {a} z => b4.mem_iff.mpr (by rcases z with z | z; exact List.mem_append_left _ z; exact List.mem_append_right _ z)
  refine ⟨xs, ds, as, T, A, ds', r, b2, b3, ra, nd_app.mpr ⟨nd3.2, nd4.1, fun a x y => nd1.2.2 a (inT0 (.inl (List.mem_cons_of_mem _ x))) (List.mem_append_left _ y)⟩, fun z => ?_, em, fun xs' v T' Tr H3 e f rs rr ndr sub => ?_⟩
  · rcases List.mem_append.mp z with z | z
    · exact nd3.1 z
    · exact nd1.2.2 l (inT0 (.inl List.mem_cons_self)) (List.mem_append_left _ z)
  · obtain ⟨T0', c1, c2⟩ := b5 f e rs
    have ml : MutA H2 [l] := fun b hb => by
      have : b = l := by simpa using hb
      subst this; rw [b2]; trivial
    have dO : ∀ a ∈ O', a ∉ [l] := fun a ha z => by
      have : a = l := by simpa using z
      subst this
      exact nd1.2.2 _ (inT0 (.inl List.mem_cons_self)) (List.mem_append_right _ ha)
    obtain ⟨O2, pm, rE2⟩ := (rE.fr f ml dO).put hn hσ c1
    have ndr' := nd_app.mp ndr
    -- where the parts come from
    have fromTA : ∀ {a : Addr}, a ∈ T ++ A → a ∉ R ∧ a ∉ O' ∧ a ≠ l := fun {a} z => by
      rcases List.mem_append.mp z with z | z
      · exact ⟨fun y => nd2.2.2 a (List.mem_cons_of_mem _ z) y, fun y => nd1.2.2 a (inT0 (.inl (List.mem_cons_of_mem _ z))) (List.mem_append_right _ y), fun y => nd3.1 (y ▸ z)⟩
      · exact ⟨fun y => nd1.2.2 a (inT0 (.inr y)) (List.mem_append_left _ z), fun y => nd4.2.2 a z y, fun y => nd1.2.2 l (inT0 (.inl List.mem_cons_self)) (List.mem_append_left _ (y ▸ z))⟩
    have ndT0' : T0'.Nodup := c2.nodup_iff.mpr (nd_app.mpr ⟨List.nodup_cons.mpr ⟨fun z => (fromTA (sub l (List.mem_append_right _ z))).2.2 rfl, ndr'.2.1⟩, nd2.2.1, fun a z y => by
      rcases List.mem_cons.mp z with rfl | z
      · exact nd2.2.2 _ List.mem_cons_self y
      · exact (fromTA (sub a (List.mem_append_right _ z))).1 y⟩)
    have inT0' : ∀ {a : Addr}, a ∈ T0' → a = l ∨ a ∈ T' ∨ a ∈ R := fun {a} z => by
      rcases List.mem_append.mp (c2.mem_iff.mp z) with z | z
      · rcases List.mem_cons.mp z with z | z
        · exact .inl z
        · exact .inr (.inl z)
      · exact .inr (.inr z)
    have dT0O : ∀ {a : Addr}, a ∈ T0' → a ∉ O' := fun {a} z y => by
      rcases inT0' z with z | z | z
      · subst z; exact nd1.2.2 _ (inT0 (.inl List.mem_cons_self)) (List.mem_append_right _ y)
      · exact (fromTA (sub a (List.mem_append_right _ z))).2.1 y
      · exact nd1.2.2 a (inT0 (.inr z)) (List.mem_append_right _ y)
    refine h v H3 ⟨O2, Tr, rE2, rr, nd_app.mpr ⟨ndr'.1, pm.nodup_iff.mpr (nd_app.mpr ⟨ndT0', nd4.2.1, fun a z y => dT0O z y⟩), fun a z y => ?_⟩, go.trans ⟨fun a o ea n => f a o ea fun z => n ?_, fun a z => .inl ?_⟩⟩
    · have k := fromTA (sub a (List.mem_append_left _ z))
      rcases List.mem_append.mp (pm.mem_iff.mp y) with y | y
      · rcases inT0' y with y | y | y
        · exact k.2.2 y
        · exact ndr'.2.2 a z y
        · exact k.1 y
      · exact k.2.1 y
    · have : a = l := by simpa using z
      subst this
      exact List.mem_append_left _ (inT0 (.inl List.mem_cons_self))
    · have back : ∀ {a : Addr}, a ∈ T ++ A → a ∈ T0 ++ (A ++ O') := fun {a} z => by
        rcases List.mem_append.mp z with z | z
        · exact List.mem_append_left _ (inT0 (.inl (List.mem_cons_of_mem _ z)))
        · exact List.mem_append_right _ (List.mem_append_left _ z)
      rcases List.mem_append.mp z with z | z
      · exact back (sub a (List.mem_append_left _ z))
      · rcases List.mem_append.mp (pm.mem_iff.mp z) with z | z
        · rcases inT0' z with z | z | z
          · subst z; exact List.mem_append_left _ (inT0 (.inl List.mem_cons_self))
          · exact back (sub a (List.mem_append_right _ z))
          · exact List.mem_append_left _ (inT0 (.inr z))
        · exact List.mem_append_right _ (List.mem_append_right _ z)
theorem mut_logic {m : Mo} {i : Nat} {path : List PK} {ops : List Sop} {Q : VK} (h : tE G W (mutE m i path ops) σ H Q) :
    tPath i path σ H fun x H1 => ∃ l, x = .ref l ∧ (∃ xs, H1 l = some (.lst xs)) ∧ tO G W ops σ H1 fun vs H2 => MutQ G m l vs H2 Q := by
  obtain ⟨ρ, O, rE, nd, h⟩ := tE_iff.mp h
  unfold mutE at h
  cases e0 : ρ[i]? with
  | none => simp only [e0] at h; exact h.elim
  | some o =>
  cases o with
  | none => simp only [e0] at h; exact h.elim
  | some root =>
  simp only [e0] at h
  cases eg : getP path root with
  | none => simp only [eg] at h; exact h.elim
  | some y =>
  cases y with
  | ls ds0 =>
    obtain ⟨v0, O1, O2, hσ, rv, pm, rE'⟩ := rE.out e0
    have nd' := nd_app.mp (pm.nodup nd)
    obtain ⟨l, xs, _, _, b1, b2, _⟩ := rv.focus eg nd'.1
    refine ⟨v0, .ref l, hσ, b1, l, rfl, ⟨xs, b2⟩, ?_⟩
    cases path with
    | nil =>
      cases b1
      simp only [eg] at h
      refine run_ops ops ρ O rE nd ?_
      unfold OpsR
      cases er : runO ops ρ with
      | no => rw [er] at h; exact h.elim
      | ex x ρ' => rw [er] at h; exact h
      | ok q =>
        obtain ⟨os, ρ2⟩ := q
        rw [er] at h
        intro vs H2 O3 A rE2 rO nd2 go
        simp only [Res.bind] at h
        cases e1 : ods os with
        | none => simp only [e1] at h; exact h.elim
        | some as =>
          cases e2 : ρ2[i]? with
          | none => simp only [e1, e2] at h; exact h.elim
          | some o =>
          cases o with
          | none => simp only [e1, e2] at h; exact h.elim
          | some z =>
          cases z with
          | ls ds =>
            simp only [e1, e2] at h
            cases em : mo m ds as with
            | none => simp only [em] at h; exact h.elim
            | some p =>
              obtain ⟨ds', r⟩ := p
              simp only [em] at h
              obtain ⟨v1, T0, O4, c1, c2, c3, c4⟩ := rE2.out e2
              rw [hσ] at c1; cases c1
              have p2 : (A ++ O3).Perm (T0 ++ (A ++ O4)) := (List.Perm.append_left A c3).trans (by rw [← List.append_assoc, ← List.append_assoc]; exact List.Perm.append_right O4 List.perm_append_comm)
              have hi : i < ρ2.length := (List.getElem?_eq_some_iff.mp e2).1
              refine mut_fin (path := []) (root := .ls ds) c2 rfl (ods_ok rO e1) c4 (p2.nodup nd2) (by rw [List.getElem?_set_self hi]) hσ em (go.less fun a z => p2.mem_iff.mpr z) (fun v H3 e => h v H3 ?_) .nil
              simpa [setP] using e
          | sh _ => simp only [e1, e2] at h; exact h.elim
          | tp _ => simp only [e1, e2] at h; exact h.elim
          | dk _ _ => simp only [e1, e2] at h; exact h.elim
          | dd _ _ => simp only [e1, e2] at h; exact h.elim
          | ob _ _ _ => simp only [e1, e2] at h; exact h.elim
          | fn _ => simp only [e1, e2] at h; exact h.elim
    | cons k path =>
      simp only [eg] at h
      refine run_ops ops (ρ.set i none) O2 rE' nd'.2.1 ?_
      unfold OpsR
      cases er : runO ops (ρ.set i none) with
      | no => rw [er] at h; exact h.elim
      | ex x ρ' =>
        rw [er] at h
        intro cls dd H' ⟨O', a, b, c, e⟩
        exact h cls dd H' ⟨O', a, b, c.more fun x q => pm.mem_iff.mpr (List.mem_append_right _ q), e⟩
      | ok q =>
        obtain ⟨os, ρ2⟩ := q
        rw [er] at h
        intro vs H2 O3 A rE2 rO nd2 go
        simp only [Res.bind] at h
        cases e1 : ods os with
        | none => simp only [e1] at h; exact h.elim
        | some as =>
          cases e2 : ρ2[i]? with
          | none => simp only [e1, e2] at h; exact h.elim
          | some o =>
          cases o with
          | some _ => simp only [e1, e2] at h; exact h.elim
          | none =>
            simp only [e1, e2] at h
            cases em : mo m ds0 as with
            | none => simp only [em] at h; exact h.elim
            | some p =>
              obtain ⟨ds', r⟩ := p
              simp only [em] at h
              have m1 : MutA H O2 := rE'.mut
              have keep := go.keep (T := O1) fun a q => ⟨nd'.2.2 a q, rv.mut.some a q⟩
              exact mut_fin (rv.fr go.frm m1 nd'.2.2) eg (ods_ok rO e1) rE2 (nd_app.mpr ⟨nd'.1, nd2, keep⟩) e2 hσ em ((go.held (T := O1)).more fun a q => pm.mem_iff.mpr q) h (b1.fr rv eg go.frm m1 nd'.2.2)
  | sh _ => simp only [eg] at h; exact h.elim
  | tp _ => simp only [eg] at h; exact h.elim
  | dk _ _ => simp only [eg] at h; exact h.elim
  | dd _ _ => simp only [eg] at h; exact h.elim
  | ob _ _ _ => simp only [eg] at h; exact h.elim
  | fn _ => simp only [eg] at h; exact h.elim
end
end Vs
/-! V14: the methods; names, constants; freezing; chains. -/
namespace Vs
open PySem PySem.Spec L2
open PyProof.Rows hiding St
section
variable {X : Cx} {G : Ga} {W : WX} {S : Sc} {Γ : Gam} {σ : L2.St} {H H' : Hp}
theorem Reps.app : ∀ {xs ys : List V} {ds es : List D} {T U : List Addr}, Reps G H xs ds T → Reps G H ys es U → Reps G H (xs ++ ys) (ds ++ es) (T ++ U)
  | _, _, _, _, _, _, .nil, q => q
  | _, _, _, _, _, _, .cons h hs, q => by
    rw [List.append_assoc]
    exact .cons h (Reps.app hs q)
theorem Reps.erase : ∀ {xs : List V} {ds : List D} {T : List Addr} {j : Nat} {d : D}, Reps G H xs ds T → ds[j]? = some d → ∃ y T1 T2, xs[j]? = some y ∧ Reps G H (xs.eraseIdx j) (ds.eraseIdx j) T1 ∧ Rep G H y d T2 ∧ T.Perm (T2 ++ T1)
  | _, _, _, j, d, .nil, e => by simp at e
  | _, _, _, 0, d, .cons h hs, e => by simp at e; subst e; exact ⟨_, _, _, rfl, hs, h, .refl _⟩
  | _, _, _, j + 1, d, .cons (O := O) h hs, e => by
    obtain ⟨y, T1, T2, a, b, c, p⟩ := Reps.erase (j := j) hs (by simpa using e)
    refine ⟨y, O ++ T1, T2, by simpa using a, by simpa using Reps.cons h b, c, ?_⟩
    exact (List.Perm.append_left O p).trans (by rw [← List.append_assoc, ← List.append_assoc]; exact List.Perm.append_right T1 List.perm_append_comm)
theorem erase_last {α : Type} : ∀ (l : List α), l.eraseIdx (l.length - 1) = l.dropLast
  | [] => rfl
  | [_] => rfl
  | a :: b :: l => by
    have := erase_last (b :: l)
    simp only [List.length_cons, Nat.add_sub_cancel] at this ⊢
    rw [List.eraseIdx_cons_succ, this]
    rfl
theorem last_at {α : Type} {l : List α} {d : α} (h : l.getLast? = some d) : l[l.length - 1]? = some d := by
  rw [← h, List.getLast?_eq_getElem?]
theorem small_line {n : Nat} (h : n ≤ 1000000) : n ≤ sizeLine := Nat.le_trans h (by rw [sizeLine_eq]; decide)
theorem frm_upd {l : Addr} {o : HO} : Frm [l] H (upd H l o) := fun b u e n => by rw [upd_ne (fun z : b = l => n (by rw [z]; simp))]; exact e
theorem MutQ.append {l : Addr} {vs : List V} {Q : VK} (h : MutQ G .append l vs H Q) : rAppend (.ref l) vs H Q := by
  obtain ⟨xs, ds, as, T, A, ds', r, hl, rs, ra, nd, nl, em, k⟩ := h
  replace em : moAppend ds as = some (ds', r) := em
  unfold moAppend at em
  split at em
  rotate_left
  · cases em
  split at em
  · cases em
    cases ra with
    | @cons y _ _ _ B _ r1 r2 =>
      cases r2
      rw [List.append_nil] at nd nl k
      have ml : MutA H [l] := fun b hb => by
        have : b = l := by simpa using hb
        subst this; rw [hl]; trivial
      have f := frm_upd (H := H) (l := l) (o := .lst (xs ++ [y]))
      have dis : ∀ a ∈ T ++ B, a ∉ [l] := fun a ha z => by
        have : a = l := by simpa using z
        exact nl (this ▸ ha)
      refine ⟨l, xs, y, rfl, rfl, hl, Nat.lt_of_lt_of_le (by rw [rs.len]; assumption) (small_line (Nat.le_refl _)), ?_⟩
      have r3 := ((rs.fr f ml fun a z => dis a (List.mem_append_left _ z)).app (.cons (r1.fr f ml fun a z => dis a (List.mem_append_right _ z)) .nil))
      rw [List.append_nil] at r3
      exact k _ .non (T ++ B) [] _ upd_same f r3 (.sh .non) nd fun a z => z
  · cases em
theorem MutQ.extend {l : Addr} {vs : List V} {Q : VK} (h : MutQ G .extend l vs H Q) : rExtend (.ref l) vs H Q := by
  obtain ⟨xs, ds, as, T, A, ds', r, hl, rs, ra, nd, nl, em, k⟩ := h
  replace em : moExtend ds as = some (ds', r) := em
  unfold moExtend at em
  split at em
  rotate_left
  · cases em
  split at em
  · cases em
    rename_i hz
    cases ra with
    | @cons y _ _ _ B _ r1 r2 =>
      cases r2
      rw [List.append_nil] at nd nl k
      cases r1 with
      | @ls b zs _ U hb rz =>
        have ml : MutA H [l] := fun b hb => by
          have : b = l := by simpa using hb
          subst this; rw [hl]; trivial
        have f := frm_upd (H := H) (l := l) (o := .lst (xs ++ zs))
        have dis : ∀ a ∈ T ++ b :: U, a ∉ [l] := fun a ha z => by
          have : a = l := by simpa using z
          exact nl (this ▸ ha)
        refine ⟨l, b, xs, zs, rfl, rfl, hl, hb, small_line (by rw [rs.len, rz.len]; exact hz), ?_⟩
        have nd' := nd_app.mp nd
        refine k _ .non (T ++ U) [] _ upd_same f ((rs.fr f ml fun a z => dis a (List.mem_append_left _ z)).app (rz.fr f ml fun a z => dis a (List.mem_append_right _ (List.mem_cons_of_mem _ z)))) (.sh .non) ?_ fun a z => ?_
        · rw [List.nil_append]
          exact nd_app.mpr ⟨nd'.1, (List.nodup_cons.mp nd'.2.1).2, fun a z y => nd'.2.2 a z (List.mem_cons_of_mem _ y)⟩
        · rw [List.nil_append] at z
          rcases List.mem_append.mp z with z | z
          · exact List.mem_append_left _ z
          · exact List.mem_append_right _ (List.mem_cons_of_mem _ z)
  · cases em
theorem mut_take {l : Addr} {xs : List V} {ds : List D} {T : List Addr} {j : Nat} {d : D} {Q : VK} (hl : H l = some (.lst xs)) (rs : Reps G H xs ds T) (nd : T.Nodup) (nl : l ∉ T) (ej : ds[j]? = some d)
    (k : ∀ xs' v T' Tr H3, H3 l = some (.lst xs') → Frm [l] H H3 → Reps G H3 xs' (ds.eraseIdx j) T' → Rep G H3 v d Tr → (Tr ++ T').Nodup → (∀ a ∈ Tr ++ T', a ∈ T) → Q v H3) : ∃ y, xs[j]? = some y ∧ Q y (upd H l (.lst (xs.eraseIdx j))) := by
  obtain ⟨y, T1, T2, a, b, c, p⟩ := rs.erase ej
  have ml : MutA H [l] := fun b hb => by
    have : b = l := by simpa using hb
    subst this; rw [hl]; trivial
  have f := frm_upd (H := H) (l := l) (o := .lst (xs.eraseIdx j))
  have dis : ∀ a ∈ T2 ++ T1, a ∉ [l] := fun a ha z => by
    have : a = l := by simpa using z
    exact nl (p.mem_iff.mpr (this ▸ ha))
  exact ⟨y, a, k _ y T1 T2 _ upd_same f (b.fr f ml fun a z => dis a (List.mem_append_right _ z)) (c.fr f ml fun a z => dis a (List.mem_append_left _ z)) (p.nodup nd) fun a z => p.mem_iff.mpr z⟩
theorem MutQ.pop {l : Addr} {vs : List V} {Q : VK} (h : MutQ G .pop l vs H Q) : rPop (.ref l) vs H Q := by
  obtain ⟨xs, ds, as, T, A, ds', r, hl, rs, ra, nd, nl, em, k⟩ := h
  replace em : moPop ds as = some (ds', r) := em
  unfold moPop at em
  split at em
  rotate_left
  · cases em
  split at em
  · cases em
    rename_i e
    cases ra
    rw [List.append_nil] at nd nl k
    rw [← erase_last] at k
    obtain ⟨y, e1, q⟩ := mut_take hl rs nd nl (last_at e) k
    rw [← rs.len] at e1 q
    rw [erase_last] at q
    exact ⟨l, xs, y, rfl, rfl, hl, e1, q⟩
  · cases em
theorem MutQ.popAt {l : Addr} {vs : List V} {Q : VK} (h : MutQ G .popAt l vs H Q) : rPopAt (.ref l) vs H Q := by
  obtain ⟨xs, ds, as, T, A, ds', r, hl, rs, ra, nd, nl, em, k⟩ := h
  replace em : moPopAt ds as = some (ds', r) := em
  unfold moPopAt at em
  split at em
  rotate_left
  · cases em
  rename_i i
  split at em
  · rename_i j ej
    split at em
    · rename_i d ed
      split at em
      · rename_i hz
        cases em
        cases ra with
        | cons r1 r2 =>
          cases r2
          cases r1 with
          | sh r1 =>
            cases r1
            simp only [List.append_nil] at nd nl k
            obtain ⟨y, e1, q⟩ := mut_take hl rs nd nl ed k
            obtain ⟨s1, s2, s3, s4⟩ := ixN_seq ej
            exact ⟨l, xs, i, j, y, rfl, rfl, hl, by omega, by omega, by rw [rs.len]; exact s1, e1, q⟩
      · cases em
    · cases em
  · cases em
theorem Reps.cutAt : ∀ {xs : List V} {ds : List D} {T : List Addr} (n : Nat), Reps G H xs ds T → ∃ T1 T2, Reps G H (xs.take n) (ds.take n) T1 ∧ Reps G H (xs.drop n) (ds.drop n) T2 ∧ T = T1 ++ T2
  | _, _, T, 0, h => ⟨[], T, .nil, h, rfl⟩
  | _, _, _, n + 1, .nil => ⟨[], [], .nil, .nil, rfl⟩
  | _, _, _, n + 1, .cons (O := O) h hs => by
    obtain ⟨T1, T2, a, b, c⟩ := Reps.cutAt n hs
    exact ⟨O ++ T1, T2, .cons h a, b, by rw [c, List.append_assoc]⟩
theorem MutQ.insert {l : Addr} {vs : List V} {Q : VK} (h : MutQ G .insert l vs H Q) : ∃ (l' : Addr) (xs : List V) (i : Int) (y : V), V.ref l = .ref l' ∧ vs = [.int i, y] ∧ H l' = some (.lst xs) ∧ xs.length < sizeLine ∧ 0 ≤ i ∧ i < 2 ^ 63 ∧
    Q .non (upd H l' (.lst (xs.take i.toNat ++ [y] ++ xs.drop i.toNat))) := by
  obtain ⟨xs, ds, as, T, A, ds', r, hl, rs, ra, nd, nl, em, k⟩ := h
  replace em : moInsert ds as = some (ds', r) := em
  unfold moInsert at em
  split at em
  rotate_left
  · cases em
  rename_i i d
  split at em
  · cases em
    rename_i hz
    cases ra with
    | cons r0 ra =>
      cases ra with
      | @cons y _ _ _ B _ r1 r2 =>
        cases r2
        cases r0 with
        | sh r0 =>
          cases r0
          simp only [List.nil_append, List.append_nil] at nd nl k
          obtain ⟨T1, T2, c1, c2, rfl⟩ := rs.cutAt i.toNat
          have ml : MutA H [l] := fun b hb => by
            have : b = l := by simpa using hb
            subst this; rw [hl]; trivial
          have f := frm_upd (H := H) (l := l) (o := .lst (xs.take i.toNat ++ [y] ++ xs.drop i.toNat))
          have dis : ∀ a ∈ T1 ++ T2 ++ B, a ∉ [l] := fun a ha z => by
            have : a = l := by simpa using z
            exact nl (this ▸ ha)
          refine ⟨l, xs, i, y, rfl, rfl, hl, Nat.lt_of_lt_of_le (by rw [rs.len]; exact hz.1) (small_line (Nat.le_refl _)), hz.2.1, by omega, ?_⟩
          have r3 := ((c1.fr f ml fun a z => dis a (List.mem_append_left _ (List.mem_append_left _ z))).app (.cons (r1.fr f ml fun a z => dis a (List.mem_append_right _ z)) .nil)).app (c2.fr f ml fun a z => dis a (List.mem_append_left _ (List.mem_append_right _ z)))
          rw [List.append_nil] at r3
          have pm : (T1 ++ T2 ++ B).Perm (T1 ++ B ++ T2) := by
            rw [List.append_assoc, List.append_assoc]
            exact List.Perm.append_left T1 List.perm_append_comm
          exact k _ .non (T1 ++ B ++ T2) [] _ upd_same f r3 (.sh .non) (pm.nodup nd) fun a z => pm.mem_iff.mpr z
  · cases em
theorem unsh_eq0 : ∀ {ds : List D} {l : List PyData}, unsh ds = some l → ds = l.map .sh
  | [], l, h => by simp [unsh] at h; simp [h]
  | .sh d :: r, l, h => by
    unfold unsh at h
    split at h
    · rename_i m e
      cases h
      rw [unsh_eq0 e]; rfl
    · cases h
  | .tp _ :: _, l, h => by simp [unsh] at h
  | .ls _ :: _, l, h => by simp [unsh] at h
  | .dk _ _ :: _, l, h => by simp [unsh] at h
  | .ob _ _ _ :: _, l, h => by simp [unsh] at h
  | .fn _ :: _, l, h => by simp [unsh] at h
theorem MutQ.same {m : Mo} {l : Addr} {vs : List V} {Q : VK} (h : MutQ G m l vs H Q) (k : ∀ ds p r ds', mo m ds [.sh p] = some (ds', r) → ds' = ds ∧ ∃ l i, unsh ds = some l ∧ r = DI i) (hm : ∀ ds as ds' r, mo m ds as = some (ds', r) → ∃ p, as = [.sh p]) :
    ∃ xs ds y p l' i, vs = [y] ∧ H l = some (.lst xs) ∧ mo m ds [.sh p] = some (ds, DI i) ∧ unsh ds = some l' ∧ Dp G.K H (.ref l) (.list l') ∧ Dp G.K H y p ∧ Q (.int i) H := by
  obtain ⟨xs, ds, as, T, A, ds', r, hl, rs, ra, nd, nl, em, q⟩ := h
  obtain ⟨p, rfl⟩ := hm _ _ _ _ em
  obtain ⟨rfl, l', i, hu, rfl⟩ := k _ _ _ _ em
  cases ra with
  | @cons y _ _ _ B _ r1 r2 =>
    cases r2
    cases r1 with
    | sh r1 =>
      have rl : Rep G H (.ref l) (.ls ds') (l :: T) := .ls hl rs
      refine ⟨xs, ds', y, p, l', i, rfl, hl, em, hu, rl.dp (by rw [unsh_eq0 hu]; simp [D.py]), (Rep.sh r1 : Rep G H y (.sh p) []).dp rfl, ?_⟩
      exact q xs (.int i) T [] H hl (fun _ _ e _ => e) rs (.sh (.int i)) (by simpa using nd) fun a z => by simpa using z
def rCountD (K : PySem.W.Frag) : V → List V → Hp → VK → Prop := fun x xs H Q => ∃ (a : Addr) (y : V) (d : PyData) (ds : List PyData), x = V.ref a ∧ xs = [y] ∧ Dp K H (V.ref a) (.list ds) ∧ Dp K H y d ∧
  SeqAt.shaped (.list ds) = true ∧ SeqAt.shaped d = true ∧ Q (.int (ds.countP fun z => PyData.eqv z d : Nat)) H
theorem mt_countD (hu : X.A.units + 65 < cLine) : MtR X "list.count" (rCountD X.K) := by
  intro pins s σ H x xs v us Q I rx rxs h
  obtain ⟨a, y, d, ds, rfl, rfl, hl, hy, sl, sd, q⟩ := h
  cases rx
  cases rxs with
  | cons ry rt =>
    rename_i uy ut
    cases rt
    obtain ⟨bs, r1⟩ := Dp.reads I d y uy hy ry
    have hxs : PyData.canLayAll0 ds = true := SeqAt.canLay_of_shaped sl
    have hroom : X.A.units + 1 + min (PyData.depthAll ds) d.depth < cLine := room_in_shaped sd hu
    cases hl with
    | lst hs ha =>
      obtain ⟨its, rv, ⟨⟨cls, dd, data, sls⟩, n, ho, hc, hdn, hdt⟩, hlen⟩ := I.list hs
      simp only at hc hdt
      subst hc hdt
      obtain ⟨as, h4⟩ := Dp.readsAll I ds _ its ha rv
      have hmap : its.map (SeqAt.readOf s.heap) = ds := SeqAt.readsAll_map ds its as hxs h4
      have ec : its.toArray.toList.countP (fun u => PyData.eqv (SeqAt.readOf s.heap u) d) = ds.countP fun z => PyData.eqv z d := by
        rw [← hmap, List.countP_map]; rfl
      refine call_meets PySem.F.slot_list_count ⟨_, ho, rfl⟩ PySem.F.entry_list_count (PySem.F.args_list_count_2 _ _)
        (SeqAt.list_countAt a its.toArray n dd sls uy (fun u => PyData.eqv (SeqAt.readOf s.heap u) d)) ⟨ho, SeqAt.items_eqAt (vs := its.toArray) (show ReadsAll s.heap its.toArray.toList ds as from h4) r1 hxs (SeqAt.canLay_of_shaped sd) hroom, ?_⟩
      refine ⟨.int (ds.countP fun z => PyData.eqv z d : Nat), H, I.tok _, ⟨s.toks, ?_⟩, q⟩
      rw [ec]
theorem MutQ.cnt {l : Addr} {vs : List V} {Q : VK} (h : MutQ G .cnt l vs H Q) : rCountD G.K (.ref l) vs H Q := by
  obtain ⟨xs, ds, y, p, l', i, rfl, hl, em, hu, d1, d2, q⟩ := h.same (fun ds p r ds' e => by
    replace e : moCnt ds [.sh p] = some (ds', r) := e
    simp only [moCnt] at e
    split at e
    · split at e
      · cases e
        exact ⟨rfl, _, _, by assumption, rfl⟩
      · cases e
    · cases e) fun ds as ds' r e => by
    replace e : moCnt ds as = some (ds', r) := e
    unfold moCnt at e
    split at e
    · exact ⟨_, rfl⟩
    · cases e
  replace em : moCnt ds [.sh p] = some (ds, DI i) := em
  simp only [moCnt, hu] at em
  split at em
  · rename_i c
    rw [Bool.and_eq_true] at c
    simp only [Option.some.injEq, Prod.mk.injEq, D.sh.injEq, PyData.int.injEq, true_and] at em
    subst em
    exact ⟨l, y, p, l', rfl, rfl, d1, d2, c.2, c.1, q⟩
  · cases em
theorem MutQ.idx {l : Addr} {vs : List V} {Q : VK} (h : MutQ G .idx l vs H Q) : rIndexD G.K (.ref l) vs H Q := by
  obtain ⟨xs, ds, y, p, l', i, rfl, hl, em, hu, d1, d2, q⟩ := h.same (fun ds p r ds' e => by
    replace e : moIdx ds [.sh p] = some (ds', r) := e
    simp only [moIdx] at e
    split at e
    · split at e
      · split at e
        · cases e
          exact ⟨rfl, _, _, by assumption, rfl⟩
        · cases e
      · cases e
    · cases e) fun ds as ds' r e => by
    replace e : moIdx ds as = some (ds', r) := e
    unfold moIdx at e
    split at e
    · exact ⟨_, rfl⟩
    · cases e
  replace em : moIdx ds [.sh p] = some (ds, DI i) := em
  simp only [moIdx, hu] at em
  split at em
  · rename_i c
    rw [Bool.and_eq_true] at c
    split at em
    · rename_i j ej
      simp only [Option.some.injEq, Prod.mk.injEq, D.sh.injEq, PyData.int.injEq, true_and] at em
      subst em
      obtain ⟨h1, h2, h3⟩ := List.findIdx?_eq_some_iff_getElem.mp ej
      refine ⟨l, y, p, l', j, l'[j], rfl, rfl, d1, d2, c.2, c.1, List.getElem?_eq_getElem h1, h2, fun m z' hm hz => ?_, q⟩
      have h4 := h3 m hm
      have : m < l'.length := by omega
      rw [List.getElem?_eq_getElem this] at hz
      cases hz
      simpa using h4
    · cases em
  · cases em
theorem mut_none {m : Mo} {l : Addr} {vs : List V} {Q : VK} (h : ∀ ds as, mo m ds as = none) : ¬ MutQ G m l vs H Q := fun ⟨_, ds, as, _, _, _, _, _, _, _, _, _, em, _⟩ => by rw [h] at em; cases em
theorem base_of {o : PySem.Expr} {i : Nat} {p : List PK} {name : Str} {env : PySem.Env} (h : mPathR S i p o = true) : attributeBase o name env (eval o env) = eval o env := by
  unfold mPathR at h
  split at h
  all_goals first | contradiction | rfl
theorem few_of {xs : List PySem.Expr} {ops : List Sop} (ps : POs X G W xs ops) (h : xs.length < 20) (cp : Pos) : ((backTo cp (starEach xs X.env)).all (fun x => !x.1) && (backToKw cp (keywordEach [] X.env)).all (fun x => x.1.isSome)
      && decide (xs.length + ([] : List Keyword).length + (if ([] : List Keyword).isEmpty then 0 else 1) < 30)) = true := by
  have h1 : (backTo cp (starEach xs X.env)).all (fun x => !x.1) = true := by
    have h2 := ps.plain cp X.env
    rw [List.all_eq_not_any_not]
    simpa using h2
  rw [h1]
  simp only [keywordEach, backToKw, List.map_nil, List.all_nil, Bool.true_and, List.length_nil, List.isEmpty_nil]
  have : xs.length + 0 + 0 < 30 := by omega
  simpa using this
theorem tyL {l : Addr} {xs : List V} {H1 : Hp} (h : H1 l = some (.lst xs)) : tyV X.K "list" (.ref l) H1 := .inl ⟨rfl, xs, SqL.of h⟩
theorem mut_ok (C : Ctx G Γ S X) {m : Mo} {i : Nat} {path : List PK} {o : PySem.Expr} {name : Str} {xs : List PySem.Expr} {ops : List Sop} {ap cp : Pos} (hn : name = moName m) (ho : mPathR S i path.reverse o = true) (ps : POs X G W xs ops)
    (hl : (ap.endLine == cp.line) = true) (hz : xs.length < 20) : PE X (.Call (.Attribute o name ap) xs [] cp) (tE G W (mutE m i path ops)) := by
  subst hn
  have po := mView_pe C ho
  have hb : ∀ nm, attributeBase o nm X.env (eval o X.env) = eval o X.env := fun nm => base_of ho
  have lg : ∀ {σ : L2.St} {H : Hp} {Q : VK}, tE G W (mutE m i path ops) σ H Q → tPath i path σ H fun x H1 => ∃ l, x = .ref l ∧ (∃ xs, H1 l = some (.lst xs)) ∧ tO G W ops σ H1 fun vs H2 => MutQ G m l vs H2 Q := fun h => mut_logic h
  have mono : ∀ {σ : L2.St} {H : Hp} {Q Q' : VK}, tPath i path σ H Q → (∀ v H', Q v H' → Q' v H') → tPath i path σ H Q' := fun h k => tS1_mono (o := .p i path) (G := G) (W := W) h k
  cases xs with
  | nil =>
    cases ps
    cases m with
    | pop => exact pImp (pe_bm0 PySem.F.plainAttrs_list PySem.F.slot_list_pop PySem.F.type_list_pop mt_pop po (hb _) hl) fun σ H Q h => mono (lg h) fun x H1 ⟨l, e, ⟨xs, e2⟩, z⟩ => by subst e; exact ⟨tyL e2, MutQ.pop z⟩
    | append => exact ⟨fun pins s σ H Q I h => by obtain ⟨v0, u, _, _, l, _, _, z⟩ := lg h; exact (by have := MutQ.append z; obtain ⟨_, _, _, _, e, _⟩ := this; cases e)⟩
    | extend => exact ⟨fun pins s σ H Q I h => by obtain ⟨v0, u, _, _, l, _, _, z⟩ := lg h; exact (by have := MutQ.extend z; obtain ⟨_, _, _, _, _, e, _⟩ := this; cases e)⟩
    | popAt => exact ⟨fun pins s σ H Q I h => by obtain ⟨v0, u, _, _, l, _, _, z⟩ := lg h; exact (by have := MutQ.popAt z; obtain ⟨_, _, _, _, _, _, e, _⟩ := this; cases e)⟩
    | insert => exact ⟨fun pins s σ H Q I h => by obtain ⟨v0, u, _, _, l, _, _, z⟩ := lg h; exact (by have := MutQ.insert z; obtain ⟨_, _, _, _, _, e, _⟩ := this; cases e)⟩
    | cnt => exact ⟨fun pins s σ H Q I h => by obtain ⟨v0, u, _, _, l, _, _, z⟩ := lg h; exact (by have := MutQ.cnt z; obtain ⟨_, _, _, _, _, e, _⟩ := this; cases e)⟩
    | idx => exact ⟨fun pins s σ H Q I h => by obtain ⟨v0, u, _, _, l, _, _, z⟩ := lg h; exact (by have := MutQ.idx z; obtain ⟨_, _, _, _, _, _, _, e, _⟩ := this; cases e)⟩
  | cons x xs =>
    have hx : notStar x = true := by cases ps; assumption
    have few := few_of ps hz cp
    have pl : (backTo cp (starEach xs X.env)).any (·.1) = false := by
      cases ps with | cons _ _ ps => exact ps.plain cp X.env
    cases m with
    | append => exact pImp (pe_bm PySem.F.plainAttrs_list PySem.F.slot_list_append PySem.F.type_list_append mt_append po ps.pa (hb _) few hl (star1 hx) pl) fun σ H Q h => mono (lg h) fun y H1 ⟨l, e, ⟨zs, e2⟩, z⟩ => by subst e; exact ⟨tyL e2, tO_mono z fun vs H2 q => MutQ.append q⟩
    | extend => exact pImp (pe_bm PySem.F.plainAttrs_list PySem.F.slot_list_extend PySem.F.type_list_extend mt_extend po ps.pa (hb _) few hl (star1 hx) pl) fun σ H Q h => mono (lg h) fun y H1 ⟨l, e, ⟨zs, e2⟩, z⟩ => by subst e; exact ⟨tyL e2, tO_mono z fun vs H2 q => MutQ.extend q⟩
    | popAt => exact pImp (pe_bm PySem.F.plainAttrs_list PySem.F.slot_list_pop PySem.F.type_list_pop mt_popAt po ps.pa (hb _) few hl (star1 hx) pl) fun σ H Q h => mono (lg h) fun y H1 ⟨l, e, ⟨zs, e2⟩, z⟩ => by subst e; exact ⟨tyL e2, tO_mono z fun vs H2 q => MutQ.popAt q⟩
    | pop => exact pImp (pe_bm PySem.F.plainAttrs_list PySem.F.slot_list_pop PySem.F.type_list_pop mt_pop po ps.pa (hb _) few hl (star1 hx) pl) fun σ H Q h => mono (lg h) fun y H1 ⟨l, e, ⟨zs, e2⟩, z⟩ => by subst e; exact ⟨tyL e2, tO_mono z fun vs H2 q => MutQ.pop q⟩
    | cnt => exact pImp (pe_bm PySem.F.plainAttrs_list PySem.F.slot_list_count PySem.F.type_list_count (mt_countD (by have := C.un; omega)) po ps.pa (hb _) few hl (star1 hx) pl) fun σ H Q h => mono (lg h) fun y H1 ⟨l, e, ⟨zs, e2⟩, z⟩ => by subst e; exact ⟨tyL e2, tO_mono z fun vs H2 q => C.hG ▸ MutQ.cnt q⟩
    | idx => exact pImp (pe_bm PySem.F.plainAttrs_list PySem.F.slot_list_index PySem.F.type_list_index (mt_indexD (by have := C.un; omega)) po ps.pa (hb _) few hl (star1 hx) pl) fun σ H Q h => mono (lg h) fun y H1 ⟨l, e, ⟨zs, e2⟩, z⟩ => by subst e; exact ⟨tyL e2, tO_mono z fun vs H2 q => C.hG ▸ MutQ.idx q⟩
    | insert => exact pImp (pe_bm PySem.F.plainAttrs_list PySem.F.slot_list_insert PySem.F.type_list_insert mt_insert po ps.pa (hb _) few hl (star1 hx) pl) fun σ H Q h => mono (lg h) fun y H1 ⟨l, e, ⟨zs, e2⟩, z⟩ => by subst e; exact ⟨tyL e2, tO_mono z fun vs H2 q => MutQ.insert q⟩
end
end Vs
/-! V15: names and constants, freezing, chains, targets. -/
namespace Vs
open PySem PySem.Spec L2
open PyProof.Rows hiding St
section
variable {X : Cx} {G : Ga} {W : WX} {S : Sc} {Γ : Gam} {σ : L2.St} {H H' : Hp}
theorem lit_ok {d : PyData} {c : Const} {k : Nat} {pos : Pos} (h : litB d c = true) : PE X (.Constant c k pos) (tE G W (litE d)) := by
  unfold litB at h
  split at h
  · exact pImp pe_non fun σ H Q ⟨ρ, O, a, b, z⟩ => z _ _ ⟨O, [], a, .sh .non, b, Go.refl⟩
  · have e := eq_of_beq h
    subst e
    exact pImp pe_bl fun σ H Q ⟨ρ, O, a, b, z⟩ => z _ _ ⟨O, [], a, .sh (.bl _), b, Go.refl⟩
  · have e := of_decide_eq_true h
    subst e
    exact pImp pe_int fun σ H Q ⟨ρ, O, a, b, z⟩ => z _ _ ⟨O, [], a, .sh (.int _), b, Go.refl⟩
  · have e := of_decide_eq_true h
    subst e
    exact pImp pe_str fun σ H Q ⟨ρ, O, a, b, z⟩ => z _ _ ⟨O, [], a, .sh (.str _), b, Go.refl⟩
  · cases h
theorem mName_pe (C : Ctx G Γ S X) {i : Nat} {e : PySem.Expr} (h : mName S i e = true) : PE X e (tVar i) := by
  unfold mName at h
  split at h
  · exact C.vis h
  · cases h
theorem rd_ok (C : Ctx G Γ S X) {i : Nat} {e : PySem.Expr} (h : mName S i e = true) : PE X e (tE G W (rdE i)) := pImp (mName_pe C h) fun σ H Q ⟨ρ, O, a, b, z⟩ => by
  unfold rdE at z
  cases e1 : ρ[i]? with
  | none => rw [e1] at z; exact z.elim
  | some o =>
  cases o with
  | none => rw [e1] at z; exact z.elim
  | some d =>
  obtain ⟨v, O1, O2, c1, c2, c3, c4⟩ := a.out e1
  cases d with
  | sh d =>
    rw [e1] at z
    exact ⟨v, c1, z _ _ ⟨O, [], a, .sh c2.sh_of, b, Go.refl⟩⟩
  | tp _ => rw [e1] at z; exact z.elim
  | ls _ => rw [e1] at z; exact z.elim
  | dk _ _ => rw [e1] at z; exact z.elim
  | dd _ _ => rw [e1] at z; exact z.elim
  | ob _ _ _ => rw [e1] at z; exact z.elim
  | fn _ => rw [e1] at z; exact z.elim
theorem mv_ok (C : Ctx G Γ S X) {i : Nat} {e : PySem.Expr} (h : mName S i e = true) : PE X e (tE G W (mvE i)) := pImp (mName_pe C h) fun σ H Q ⟨ρ, O, a, b, z⟩ => by
  unfold mvE at z
  cases e1 : ρ[i]? with
  | none => rw [e1] at z; exact z.elim
  | some o =>
  cases o with
  | none => rw [e1] at z; exact z.elim
  | some d =>
    obtain ⟨v, O1, O2, c1, c2, c3, c4⟩ := a.out e1
    rw [e1] at z
    exact ⟨v, c1, z _ _ ⟨O2, O1, c4, c2, c3.nodup b, Go.refl.less fun x q => c3.mem_iff.mpr q⟩⟩
theorem gl_ok (C : Ctx G Γ S X) {x : Str} {pos : Pos} (h : glB S x = true) : PE X (.Name x pos) (tE G W (glE (Γ.con x))) := by
  cases e : Γ.con x with
  | none => exact pe_false fun ρ => rfl
  | some d =>
    obtain ⟨g1, g2, _⟩ := C.gl h
    obtain ⟨u, v, a, b, c⟩ := C.con x d e
    exact pImp (pe_glob g1 a b g2) fun σ H Q ⟨ρ, O, k1, k2, z⟩ => z _ _ ⟨O, [], k1, .sh (by rw [C.hG]; exact c H), k2, Go.refl⟩
/-! ### what stands at a place; displays of dicts -/
theorem at_ok (C : Ctx G Γ S X) {i : Nat} {p : List PK} {e : PySem.Expr} (h : mPathR S i p.reverse e = true) : PE X e (tE G W (atE i p)) := pImp (mView_pe C h) fun σ H Q ⟨ρ, O, a, b, z⟩ => by
  unfold atE at z
  cases e1 : ρ[i]? with
  | none => simp only [e1] at z
  | some o =>
  cases o with
  | none => simp only [e1] at z
  | some root =>
  simp only [e1] at z
  cases e2 : getP p root with
  | none => simp only [e2] at z
  | some y =>
  cases y with
  | sh d =>
    simp only [e2] at z
    obtain ⟨v0, O1, O2, c1, c2, c3, c4⟩ := a.out e1
    obtain ⟨u, T, d1, d2, _⟩ := c2.place e2
    cases d2 with
    | sh d2 => exact ⟨v0, u, c1, d1, z _ _ ⟨O, [], a, .sh d2, b, Go.refl⟩⟩
  | tp _ => simp only [e2] at z
  | ls _ => simp only [e2] at z
  | dk _ _ => simp only [e2] at z
  | dd _ _ => simp only [e2] at z
  | ob _ _ _ => simp only [e2] at z
  | fn _ => simp only [e2] at z
/-- the pairs of a display: constant keys -/
def kTr (G : Ga) (W : WX) : List Key → List Sop → List (TE × TE)
  | k :: ks, o :: os => (tC (kV k), tS1 G W o) :: kTr G W ks os
  | _, _ => []
theorem kTr_logic : ∀ {ks : List Key} {ops : List Sop} {σ : L2.St} {H : Hp} {R : List (V × V) → Hp → Prop}, ks.length = ops.length → tO G W ops σ H (fun vs H' => ∀ kvs : List (Key × V), kvs.map (·.1) = ks → kvs.map (·.2) = vs → R (kvs.map fun kv => (kV kv.1, kv.2)) H') → tPairs (kTr G W ks ops) σ H R
  | [], [], _, _, _, _, h => h [] rfl rfl
  | k :: ks, o :: os, σ, H, R, hl, h => by
    rw [tO_cons] at h
    refine tS1_mono h fun x H1 z => ?_
    refine kTr_logic (by simpa using hl) (tO_mono z fun vs H2 z kvs e1 e2 => ?_)
    exact z ((k, x) :: kvs) (by simp [e1]) (by simp [e2])
  | [], _ :: _, _, _, _, hl, _ => by simp at hl
  | _ :: _, [], _, _, _, hl, _ => by simp at hl
theorem kTr_pps {ops : List Sop} {pos : Pos} : ∀ {ks : List Key} {keys : List (Option PySem.Expr)} {vs : List PySem.Expr} {ops : List Sop}, mKeys ks keys = true → keys.length = vs.length → POs X G W vs ops → PPs X pos keys vs (kTr G W ks ops)
  | [], [], [], _, _, _, .nil => pps_nil
  | k :: ks, some (.Constant (.str x) _ _) :: keys, v :: vs, _, h, hl, .cons hv n hs => by
    unfold mKeys at h
    rw [Bool.and_eq_true, decide_eq_true_eq] at h
    obtain ⟨rfl, h⟩ := h
    exact pps_cons pe_str hv (kTr_pps (ops := []) h (by simpa using hl) hs)
  | k :: ks, some (.Constant (.int x) _ _) :: keys, v :: vs, _, h, hl, .cons hv n hs => by
    unfold mKeys at h
    rw [Bool.and_eq_true, decide_eq_true_eq] at h
    obtain ⟨rfl, h⟩ := h
    exact pps_cons pe_int hv (kTr_pps (ops := []) h (by simpa using hl) hs)
  | [], _ :: _, _, _, h, _, _ => by unfold mKeys at h; cases h
  | [], [], _ :: _, _, _, hl, _ => by simp at hl
  | _ :: _, [], _, _, h, _, _ => by unfold mKeys at h; cases h
  | _ :: _, _ :: _, [], _, _, hl, _ => by simp at hl
theorem mKeys_some : ∀ {ks : List Key} {keys : List (Option PySem.Expr)}, mKeys ks keys = true → keys.all (·.isSome) = true ∧ ks.length = keys.length
  | [], [], _ => ⟨rfl, rfl⟩
  | k :: ks, some (.Constant (.str x) _ _) :: keys, h => by
    unfold mKeys at h
    rw [Bool.and_eq_true] at h
    obtain ⟨a, b⟩ := mKeys_some h.2
    exact ⟨by simpa using a, by simp [b]⟩
  | k :: ks, some (.Constant (.int x) _ _) :: keys, h => by
    unfold mKeys at h
    rw [Bool.and_eq_true] at h
    obtain ⟨a, b⟩ := mKeys_some h.2
    exact ⟨by simpa using a, by simp [b]⟩
  | [], _ :: _, h => by unfold mKeys at h; cases h
  | _ :: _, [], h => by unfold mKeys at h; cases h
theorem merge_id : ∀ (kvs acc : List (Key × V)), (acc.map (·.1) ++ kvs.map (·.1)).Nodup → mergeK acc kvs = acc ++ kvs
  | [], acc, _ => by simp [mergeK]
  | (k, v) :: kvs, acc, h => by
    have hk : (acc.any fun kv => decide (kv.1 = k)) = false := by
      rw [Bool.eq_false_iff]
      intro z
      rw [List.any_eq_true] at z
      obtain ⟨p, hp, e⟩ := z
      rw [decide_eq_true_eq] at e
      rw [List.nodup_append] at h
      exact h.2.2 k (List.mem_map.mpr ⟨p, hp, e⟩) k (by simp) rfl
    have e : putK acc k v = acc ++ [(k, v)] := by unfold putK; rw [if_neg (by rw [hk]; simp)]
    show mergeK (putK acc k v) kvs = _
    rw [e, merge_id kvs (acc ++ [(k, v)]) (by simpa using h)]
    simp
theorem dct0_ok {pos : Pos} : PE X (.Dict [] [] pos) (tE G W (dctE [] [])) := pImp pe_dnewK fun σ H Q h p hp => by
  obtain ⟨ρ, O, rE, nd, h⟩ := h
  have h : ∀ v H', EvR G O σ H ρ (.dk [] []) v H' → Q v H' := h
  exact (new_ev rE nd Go.refl h) (.ref p) _ [p] (.dk (kvs := []) upd_same .nil) (by simp) (fun a q => by rw [List.mem_singleton] at q; rw [q]; exact hp) (frm_new hp)
theorem dct_ok {keys : List (Option PySem.Expr)} {vs : List PySem.Expr} {ks : List Key} {ops : List Sop} {pos : Pos} (hk : mKeys ks keys = true) (hl : keys.length = vs.length) (h0 : ks ≠ []) (h15 : keys.length ≤ 15) (ps : POs X G W vs ops) :
    PE X (.Dict keys vs pos) (tE G W (dctE ks ops)) := by
  obtain ⟨ha, hkl⟩ := mKeys_some hk
  have hol : ks.length = ops.length := by
    rw [hkl, hl]
    clear hk h15 hl hkl h0 ha
    induction ps with
    | nil => rfl
    | cons _ _ _ ih => simp [ih]
  refine pImp (pe_disp (kTr_pps (ops := []) hk hl ps) ha hl (fun z => h0 (by cases ks; rfl; rw [z] at hkl; simp at hkl)) h15) fun σ H Q h p hp => ?_
  refine kTr_logic hol ?_
  obtain ⟨ρ, O, rE, nd, h⟩ := h
  have f0 := frm_new (o := .dK []) hp
  have rE0 := rE.fr (S := []) f0 mut_nil fun _ _ z => nomatch z
  have hpO : p ∉ O := fun z => by
    obtain ⟨o, e⟩ := rE.mut.some p z
    rw [hp] at e; cases e
  refine run_ops ops ρ O rE0 nd ?_
  unfold OpsR
  unfold dctE at h
  cases er : runO ops ρ with
  | no => rw [er] at h; exact h.elim
  | ex x ρ' =>
    rw [er] at h
    intro cls dd H' ⟨O', a, b, c, e⟩
    exact h cls dd H' ⟨O', a, b, ⟨fun y o ey n => c.frm y o (f0 y o ey fun z => nomatch z) n, fun y q => (c.sub y q).imp id fun z => by
      by_cases hy : y = p
      · subst hy; exact hp
      · rw [upd_ne hy] at z; exact z⟩, e⟩
  | ok q =>
    obtain ⟨os, ρ2⟩ := q
    rw [er] at h
    intro us H2 O2 T rE2 rO nd2 go kvs k1 k2
    simp only [Res.bind] at h
    cases e1 : ods os with
    | none => simp only [e1] at h
    | some ds =>
      simp only [e1] at h
      by_cases hc : ks.length = ds.length ∧ ks.Nodup
      · rw [if_pos hc] at h
        have rs := ods_ok rO e1
        have hp2 : H2 p = some (.dK []) := go.frm p _ upd_same hpO
        have go' : Go O H (T ++ O2) H2 := ⟨fun y o ey n => go.frm y o (f0 y o ey fun z => nomatch z) n, fun y q => (go.sub y q).imp id fun z => by
          by_cases hy : y = p
          · subst hy; exact hp
          · rw [upd_ne hy] at z; exact z⟩
        have hn : p ∉ T ++ O2 := fun z => by
          rcases go.sub p z with y | y
          · exact hpO y
          · rw [upd_same] at y; cases y
        have em : mergeK [] kvs = kvs := by
          have := merge_id kvs [] (by rw [k1]; simpa using hc.2)
          simpa using this
        refine ⟨hp2, kvs, rfl, ?_, ?_⟩
        · have : kvs.length = ks.length := by rw [← k1]; simp
          omega
        · rw [em]
          subst k1 k2
          have fp : Frm [p] H2 (upd H2 p (.dK kvs)) := fun b u e n => by rw [upd_ne (fun q : b = p => n (by rw [q]; simp))]; exact e
          have mp : MutA H2 [p] := fun a q => by rw [List.mem_singleton] at q; subst q; rw [hp2]; trivial
          refine h _ _ ⟨O2, p :: T, rE2.fr fp mp (fun a q z => hn (List.mem_append_right _ (by rw [List.mem_singleton] at z; exact z ▸ q))), .dk upd_same (rs.fr fp mp fun a q z => hn (List.mem_append_left _ (by rw [List.mem_singleton] at z; exact z ▸ q))), ?_, ?_⟩
          · rw [List.cons_append]; exact List.nodup_cons.mpr ⟨hn, nd2⟩
          · refine ⟨fun y o ey n => ?_, fun y q => ?_⟩
            · rw [upd_ne (fun z : y = p => by rw [z, hp] at ey; cases ey)]
              exact go'.frm y o ey n
            · rcases List.mem_cons.mp q with rfl | q
              · exact .inr hp
              · exact go'.sub y q
      · rw [if_neg hc] at h; exact h.elim
/-! ### freezing -/
theorem freeze_all {pins : List (Addr × Obj)} {s : Shared} : ∀ (A : List Addr) {H : Hp}, Inv X pins σ H s → A.Nodup → (∀ a ∈ A, ∃ xs, H a = some (.lst xs)) → ∃ H2, Inv X pins σ H2 s ∧ (∀ b, b ∉ A → H2 b = H b) ∧ ∀ a ∈ A, ∀ u, H a = some u → ∃ o, H2 a = some (.frz o u)
  | [], H, I, _, _ => ⟨H, I, fun _ _ => rfl, fun _ q => nomatch q⟩
  | a :: A, H, I, nd, h => by
    obtain ⟨xs, hx⟩ := h a List.mem_cons_self
    have nd' := List.nodup_cons.mp nd
    obtain ⟨o, I1⟩ := Inv.lock I hx trivial
    obtain ⟨H2, I2, k1, k2⟩ := freeze_all A I1 nd'.2 fun b hb => by
      obtain ⟨ys, hy⟩ := h b (List.mem_cons_of_mem _ hb)
      exact ⟨ys, by rw [upd_ne (fun z : b = a => nd'.1 (z ▸ hb))]; exact hy⟩
    refine ⟨H2, I2, fun b hb => ?_, fun b hb u hu => ?_⟩
    · rw [List.mem_cons, not_or] at hb
      rw [k1 b hb.2, upd_ne hb.1]
    · rcases List.mem_cons.mp hb with rfl | hb
      · rw [hx] at hu; cases hu
        exact ⟨o, by rw [k1 _ nd'.1, upd_same]⟩
      · exact k2 b hb u (by rw [upd_ne (fun z : b = a => nd'.1 (z ▸ hb))]; exact hu)
mutual
theorem Rep.lsts : ∀ {v : V} {d : D} {T : List Addr} {p : PyData}, Rep G H v d T → d.fz = some p → ∀ a ∈ T, ∃ xs, H a = some (.lst xs)
  | _, _, _, _, .sh _, _, a, q => nomatch q
  | _, _, _, _, .tp (ds := ds) _ hs, e, a, q => by
    unfold D.fz at e
    cases e2 : D.fzs ds with
    | none => rw [e2] at e; cases e
    | some l => exact Reps.lsts hs e2 a q
  | _, _, _, _, .ls (ds := ds) h hs, e, a, q => by
    unfold D.fz at e
    cases e2 : D.fzs ds with
    | none => rw [e2] at e; cases e
    | some l =>
      rcases List.mem_cons.mp q with rfl | q
      · exact ⟨_, h⟩
      · exact Reps.lsts hs e2 a q
  | _, _, _, _, .dk _ _, e, _, _ => by unfold D.fz at e; cases e
  | _, _, _, _, .ob _ _ _, e, _, _ => by unfold D.fz at e; cases e
  | _, _, _, _, .fn _, e, _, _ => by unfold D.fz at e; cases e
theorem Reps.lsts : ∀ {vs : List V} {ds : List D} {T : List Addr} {l : List PyData}, Reps G H vs ds T → D.fzs ds = some l → ∀ a ∈ T, ∃ xs, H a = some (.lst xs)
  | _, _, _, _, .nil, _, a, q => nomatch q
  | _, _, _, _, .cons (d := d) (ds := ds) h hs, e, a, q => by
    unfold D.fzs at e
    cases e1 : D.fz d with
    | none => rw [e1] at e; cases e
    | some x =>
      cases e2 : D.fzs ds with
      | none => rw [e1, e2] at e; cases e
      | some m =>
        rcases List.mem_append.mp q with q | q
        · exact Rep.lsts h e1 a q
        · exact Reps.lsts hs e2 a q
end
mutual
theorem Rep.frozen {A : List Addr} (k1 : Frm A H H') (m : MutA H A) (k2 : ∀ a ∈ A, ∀ u, H a = some u → ∃ o, H' a = some (.frz o u)) : ∀ {v : V} {d : D} {T : List Addr} {p : PyData}, Rep G H v d T → d.fz = some p → (∀ a ∈ T, a ∈ A) → DpF G.K H' v p
  | _, _, _, _, .sh h, e, _ => by unfold D.fz at e; cases e; exact h.fr k1 m
  | _, _, _, _, .tp (ds := ds) h hs, e, n => by
    unfold D.fz at e
    cases e2 : D.fzs ds with
    | none => rw [e2] at e; cases e
    | some l => rw [e2] at e; cases e; exact .tup (SqT.fr (G := G) h k1 m) (Reps.frozen k1 m k2 hs e2 n)
  | _, _, _, _, .ls (ds := ds) h hs, e, n => by
    unfold D.fz at e
    cases e2 : D.fzs ds with
    | none => rw [e2] at e; cases e
    | some l => rw [e2] at e; cases e; exact .lst (.inl (k2 _ (n _ List.mem_cons_self) _ h)) (Reps.frozen k1 m k2 hs e2 fun a q => n a (List.mem_cons_of_mem _ q))
  | _, _, _, _, .dk _ _, e, _ => by unfold D.fz at e; cases e
  | _, _, _, _, .ob _ _ _, e, _ => by unfold D.fz at e; cases e
  | _, _, _, _, .fn _, e, _ => by unfold D.fz at e; cases e
theorem Reps.frozen {A : List Addr} (k1 : Frm A H H') (m : MutA H A) (k2 : ∀ a ∈ A, ∀ u, H a = some u → ∃ o, H' a = some (.frz o u)) : ∀ {vs : List V} {ds : List D} {T : List Addr} {l : List PyData}, Reps G H vs ds T → D.fzs ds = some l → (∀ a ∈ T, a ∈ A) → DpFs G.K H' vs l
  | _, _, _, _, .nil, e, _ => by unfold D.fzs at e; cases e; exact .nil
  | _, _, _, _, .cons (d := d) (ds := ds) h hs, e, n => by
    unfold D.fzs at e
    cases e1 : D.fz d with
    | none => rw [e1] at e; cases e
    | some x =>
      cases e2 : D.fzs ds with
      | none => rw [e1, e2] at e; cases e
      | some l =>
        rw [e1, e2] at e; cases e
        exact .cons (Rep.frozen k1 m k2 h e1 fun a q => n a (List.mem_append_left _ q)) (Reps.frozen k1 m k2 hs e2 fun a q => n a (List.mem_append_right _ q))
end
theorem fz_ok {e : PySem.Expr} {f : EF} (h : PE X e (tE G W f)) : PE X e (tE G W (fzE f)) := ⟨fun pins s σ H Q I z => by
  refine thn (h.run pins s σ H _ I (bindE z)) fun u s1 ⟨v, H1, I1, r1, ρ1, d, O1, T, rE, rv, nd, c⟩ => ?_
  cases ed : d.fz with
  | none => simp only [ed] at c; exact c.elim
  | some p =>
    simp only [ed] at c
    have nd' := nd_app.mp nd
    obtain ⟨H2, I2, k1, k2⟩ := freeze_all T I1 nd'.1 (rv.lsts ed)
    have f : Frm T H1 H2 := fun a o e n => by rw [k1 a n]; exact e
    have m := rv.mut
    refine ⟨v, H2, I2, r1, c v H2 ⟨O1, [], rE.fr f m (fun a q z => nd'.2.2 a z q), .sh (rv.frozen f m k2 ed fun a q => q), nd'.2.1, ⟨fun a o e n => f a o e fun q => n (List.mem_append_left _ q), fun a q => .inl (List.mem_append_right _ q)⟩⟩⟩⟩
/-! ### chains -/
theorem chn_logic {o o' : Op} {f f' : D → D → Option D} (h1 : ∀ ds, opD o ds = bi2 f ds) (h2 : ∀ ds, opD o' ds = bi2 f' ds) {a b c : EF} {Q : VK} (h : tE G W (chnE (opD o) (opD o') a b c) σ H Q) :
    tChain (r2 G f) (r2 G f') (tE G W a) (tE G W b) (tE G W c) σ H Q := by
  obtain ⟨ρ, O, rE, nd, h⟩ := tE_iff.mp h
  have main : tO G W [.e a, .e b] σ H fun vs H2 => ∃ x y, vs = [x, y] ∧ r2 G f x y H2 fun z H3 => ∃ k, z = .bl k ∧ (if k = true then tE G W c σ H3 fun w' H4 => r2 G f' y w' H4 Q else Q (.bl false) H3) := by
    refine run_ops _ ρ O rE nd ?_
    unfold OpsR
    unfold chnE at h
    cases er : runO [.e a, .e b] ρ with
    | no => rw [er] at h; exact h.elim
    | ex x ρ' => rw [er] at h; exact h
    | ok q =>
      obtain ⟨os, ρ2⟩ := q
      rw [er] at h
      intro vs H2 O2 T rE2 rO nd2 go
      simp only [Res.bind] at h
      cases e1 : ods os with
      | none => simp only [e1] at h; exact h.elim
      | some ds =>
      have rs := ods_ok rO e1
      simp only [e1] at h
      split at h
      · rename_i dx dy e2
        cases e2
        cases rs with
        | @cons x _ _ _ Tx _ rx rs =>
          cases rs with
          | @cons y _ _ _ Ty _ ry rs =>
            cases rs
            rw [List.append_nil] at nd2 go
            have nd3 := nd_app.mp nd2
            split at h
            · rename_i e3
              rw [h1] at e3
              refine ⟨x, y, rfl, dx, dy, _, Tx, Ty, rx, ry, e3, fun z H3 T3 rz ndz new f3 => ?_⟩
              cases rz with
              | sh rz =>
                cases rz
                refine ⟨true, rfl, ?_⟩
                rw [if_pos rfl]
                have rE3 := rE2.fr (S := []) f3 mut_nil fun _ _ z => nomatch z
                have ry3 := ry.fr (S := []) f3 mut_nil fun _ _ z => nomatch z
                refine tE_iff.mpr ⟨ρ2, O2, rE3, nd3.2.1, ?_⟩
                have go3 : Go O H (Tx ++ Ty ++ O2) H3 := go.trans ⟨fun a o e n => f3 a o e (fun z => nomatch z), fun a q => .inl q⟩
                cases ec : c ρ2 with
                | no => rw [ec] at h; exact h.elim
                | ex x ρ' =>
                  rw [ec] at h
                  intro cls dd H' z
                  exact h cls dd H' (z.more (go3.less fun a q => List.mem_append_right _ q))
                | ok q =>
                  obtain ⟨dw, ρ3⟩ := q
                  rw [ec] at h
                  simp only at h
                  intro w H4 ⟨O4, T4, k1, k2, k3, k4⟩
                  cases e4 : opD o' [dy, dw] with
                  | none => simp only [e4] at h; exact h.elim
                  | some d =>
                    simp only [e4] at h
                    have dis : ∀ a ∈ Ty, a ∉ O2 := fun a q z => nd3.2.2 a (List.mem_append_right _ q) z
                    rw [h2] at e4
                    refine ⟨dy, dw, d, Ty, T4, ry3.fr k4.frm rE3.mut dis, k2, e4, ?_⟩
                    exact new_ev (O := O) (H := H) k1 (nd_app.mp k3).2.1 ((go3.less fun a q => List.mem_append_right _ q).trans (k4.less fun a q => List.mem_append_right _ q)) h
            · rename_i e3
              rw [h1] at e3
              refine ⟨x, y, rfl, dx, dy, _, Tx, Ty, rx, ry, e3, fun z H3 T3 rz ndz new f3 => ?_⟩
              cases rz with
              | sh rz =>
                cases rz
                refine ⟨false, rfl, ?_⟩
                rw [if_neg Bool.false_ne_true]
                exact h _ _ ⟨O2, [], rE2.fr (S := []) f3 mut_nil (fun _ _ z => nomatch z), .sh (.bl false), nd3.2.1, (go.trans ⟨fun a o e n => f3 a o e (fun z => nomatch z), fun a q => .inl q⟩).less fun a q => List.mem_append_right _ q⟩
            · exact h.elim
      · exact h.elim
  rw [tO_cons, tO_cons] at main
  refine tS1_mono main fun x H1 z => tS1_mono z fun y H2 ⟨x', y', e, z⟩ => ?_
  cases e
  exact z
theorem chn_ok (C : Ctx G Γ S X) {o o' : Op} {p p' : CmpOp} {x y z : PySem.Expr} {a b c : EF} {pos : Pos} (e1 : cmpOf o = some p) (e2 : cmpOf o' = some p') (n : notSet z = true) (ha : PE X x (tE G W a)) (hb : PE X y (tE G W b)) (hc : PE X z (tE G W c)) :
    PE X (.Compare x [p, p'] [y, z] pos) (tE G W (chnE (opD o) (opD o') a b c)) := by
  obtain ⟨f, h1, r⟩ := cmp_ok C e1
  obtain ⟨f', h2, r'⟩ := cmp_ok C e2
  exact pImp (pe_chain r r' ha hb hc (by unfold lastMarks lastMarks; exact nobeh n)) fun σ H Q h => chn_logic h1 h2 h
theorem chn_okT (C : Ctx G Γ S X) {o o' : Op} {p p' : CmpOp} {x y z : PySem.Expr} {a b c : EF} {pos : Pos} (e1 : cmpOf o = some p) (e2 : cmpOf o' = some p') (n : notSet z = true) (ha : PE X x (tE G W a)) (hb : PE X y (tE G W b)) (hc : PE X z (tE G W c)) :
    PT X (.Compare x [p, p'] [y, z] pos) (tT G W (boolE (chnE (opD o) (opD o') a b c))) := by
  obtain ⟨f, h1, r⟩ := cmp_ok C e1
  obtain ⟨f', h2, r'⟩ := cmp_ok C e2
  exact ptImp (pt_chain r r' ha hb hc (by unfold lastMarks lastMarks; exact nobeh n)) fun σ H Q h => chn_logic h1 h2 (boolE_logic h)
end
end Vs
/-! V16: targets; what is walked. -/
namespace Vs
open PySem PySem.Spec L2
open PyProof.Rows hiding St
def gNames : List Nat → TGs
  | [] => gNil
  | i :: is => gCons (gName i) (gNames is)
def gT (K : PySem.W.Frag) : Tg → TG
  | .nm i => gName i
  | .tp is => gTup K is.length (gNames is)
section
variable {X : Cx} {G : Ga} {W : WX} {S : Sc} {Γ : Gam} {σ : L2.St} {H H' : Hp}
theorem RepE.setv {ρ : Env} {O T : List Addr} {i : Nat} {v : V} {d : D} (rE : RepE G H σ ρ O) (r : Rep G H v d T) (nd : (T ++ O).Nodup) (hi : i < ρ.length) :
    ∃ O', RepE G H (σ.set i (some v)) (ρ.set i (some d)) O' ∧ O'.Nodup ∧ (∀ a ∈ O', a ∈ T ++ O) := by
  obtain ⟨O2, sb, r2⟩ := rE.drop i
  have e1 : (ρ.set i none)[i]? = some none := by simp [hi]
  have r3 := r2.any i (some v) e1
  have hs : i < σ.length := by rw [← rE.len]; exact hi
  obtain ⟨O3, pm, r4⟩ := r3.put e1 (by simp [hs]) r
  rw [List.set_set] at r4
  have nd' := nd_app.mp nd
  refine ⟨O3, r4, pm.nodup_iff.mpr (nd_app.mpr ⟨nd'.1, sb.nodup nd'.2.1, fun a q z => nd'.2.2 a q (sb.subset z)⟩), fun a q => ?_⟩
  rcases List.mem_append.mp (pm.mem_iff.mp q) with z | z
  · exact List.mem_append_left _ z
  · exact List.mem_append_right _ (sb.subset z)
/-- the slots' values differ at these alone -/
structure Dif (sl pr : List Nat) (σ σ' : L2.St) : Prop where
  len : σ'.length = σ.length
  out : ∀ j, j ∉ sl → σ'[j]? = σ[j]?
  pr : ∀ j, j ∈ pr → σ'[j]? = σ[j]?
theorem setN_logic {pr : List Nat} {i : Nat} {v : V} {d : D} {ρ ρ' : Env} {O T : List Addr} (rE : RepE G H σ ρ O) (r : Rep G H v d T) (nd : (T ++ O).Nodup) (h : setN pr i d ρ = some ρ') :
    (∃ O', RepE G H (σ.set i (some v)) ρ' O' ∧ O'.Nodup ∧ (∀ a ∈ O', a ∈ T ++ O)) ∧ Dif [i] pr σ (σ.set i (some v)) ∧ i ∉ pr := by
  unfold setN at h
  split at h
  · cases h
  · rename_i np
    split at h
    · rename_i hi
      cases h
      refine ⟨rE.setv r nd hi, ⟨by simp, fun j n => ?_, fun j n => ?_⟩, ?_⟩
      · rw [List.getElem?_set_ne]; intro e; subst e; exact n List.mem_cons_self
      · rw [List.getElem?_set_ne]; intro e; subst e; exact np (by simpa using n)
      · intro z; exact np (by simpa using z)
    · cases h
theorem setAll_logic {pr : List Nat} : ∀ {is : List Nat} {ds : List D} {vs : List V} {ρ ρ' : Env} {O T : List Addr} {σ : L2.St} {Q : L2.St → Hp → Prop}, RepE G H σ ρ O → Reps G H vs ds T → (T ++ O).Nodup → setAll pr is ds ρ = some ρ' →
    (∀ σ' O', RepE G H σ' ρ' O' → O'.Nodup → (∀ a ∈ O', a ∈ T ++ O) → Dif is pr σ σ' → Q σ' H) → vs.length = is.length ∧ gNames is vs σ H Q
  | [], _, _, ρ, ρ', O, _, σ, Q, rE, .nil, nd, h, k => by
    unfold setAll at h; cases h
    exact ⟨rfl, rfl, k σ O rE nd (fun a q => q) ⟨rfl, fun _ _ => rfl, fun _ _ => rfl⟩⟩
  | i :: is, _, _, ρ, ρ', O, _, σ, Q, rE, .cons (O := T1) (O' := T2) r rs, nd, h, k => by
    unfold setAll at h
    split at h
    · rename_i ρ1 e1
      rw [List.append_assoc] at nd
      have nd' := nd_app.mp nd
      have nd2 := nd_app.mp nd'.2.1
      obtain ⟨⟨O1, rE1, n1, s1⟩, dif, _⟩ := setN_logic rE r (nd_app.mpr ⟨nd'.1, nd2.2.1, fun a q z => nd'.2.2 a q (List.mem_append_right _ z)⟩) e1
      have nd3 : (T2 ++ O1).Nodup := nd_app.mpr ⟨nd2.1, n1, fun a q z => by
        rcases List.mem_append.mp (s1 a z) with y | y
        · exact nd'.2.2 a y (List.mem_append_left _ q)
        · exact nd2.2.2 a q y⟩
      obtain ⟨l, g⟩ := setAll_logic (pr := pr) (Q := Q) rE1 rs nd3 h fun σ' O' rE' n' s' d' => by
        refine k σ' O' rE' n' (fun a q => ?_) ⟨by rw [d'.len, dif.len], fun j n => ?_, fun j n => by rw [d'.pr j n, dif.pr j n]⟩
        · rcases List.mem_append.mp (s' a q) with y | y
          · exact List.mem_append_left _ (List.mem_append_right _ y)
          · rcases List.mem_append.mp (s1 a y) with y | y
            · exact List.mem_append_left _ (List.mem_append_left _ y)
            · exact List.mem_append_right _ y
        · rw [List.mem_cons, not_or] at n
          rw [d'.out j n.2, dif.out j (by simpa using n.1)]
      exact ⟨by simp [l], _, _, rfl, g⟩
    · cases h
  | [], _, _, _, _, _, _, _, _, _, .cons _ _, _, h, _ => by unfold setAll at h; cases h
  | _ :: _, _, _, _, _, _, _, _, _, _, .nil, _, h, _ => by unfold setAll at h; cases h
theorem bind_logic {pr : List Nat} {t : Tg} {d : D} {v : V} {ρ ρ' : Env} {O T : List Addr} {Q : L2.St → Hp → Prop} (rE : RepE G H σ ρ O) (r : Rep G H v d T) (nd : (T ++ O).Nodup) (h : bindT pr t d ρ = some ρ')
    (k : ∀ σ' O', RepE G H σ' ρ' O' → O'.Nodup → (∀ a ∈ O', a ∈ T ++ O) → Dif t.sl pr σ σ' → Q σ' H) : gT G.K t v σ H Q := by
  cases t with
  | nm i =>
    obtain ⟨⟨O1, a, b, c⟩, dif, _⟩ := setN_logic rE r nd h
    exact k _ O1 a b c dif
  | tp is =>
    cases r with
    | sh r =>
      cases r with
      | tup q hs =>
        obtain ⟨a, b⟩ := setAll_logic (Q := Q) rE (Reps.to_sh hs) nd (show setAll pr is _ ρ = some ρ' from h) k
        exact ⟨_, _, rfl, q, a, b⟩
      | non => cases h
      | bl _ => cases h
      | int _ => cases h
      | str _ => cases h
      | lst _ _ => cases h
    | tp q hs =>
      obtain ⟨a, b⟩ := setAll_logic (Q := Q) rE hs nd (show setAll pr is _ ρ = some ρ' from h) k
      exact ⟨_, _, rfl, q, a, b⟩
    | ls _ _ => cases h
    | dk _ _ => cases h
    | dd _ _ _ _ => cases h
    | ob _ _ _ => cases h
    | fn _ => cases h
theorem st_pg (C : Ctx G Γ S X) {fn : Str → Bool} (hf : ∀ x, fn x = true → X.fn x = true) {i : Nat} {x : Str} {pos : Pos} (h : stB S fn i x = true) : PG X (.Name x pos) (gName i) := by
  unfold stB at h
  rw [Bool.and_eq_true, decide_eq_true_eq] at h
  obtain ⟨h1, h2⟩ := h
  have nd : X.N.Nodup := by rw [C.hN]; exact C.nd
  split at h2
  · rename_i e
    exact pg_name nd (by rw [C.hN]; exact h1) (by unfold L2.Loc; rw [C.sc]; exact .inl e) (.inr (by rw [C.sc]; exact e))
  · rename_i e
    exact pg_name nd (by rw [C.hN]; exact h1) (by unfold L2.Loc; rw [C.sc]; exact .inr e) (.inl (hf x h2))
  · cases h2
theorem names_pg (C : Ctx G Γ S X) {fn : Str → Bool} (hf : ∀ x, fn x = true → X.fn x = true) : ∀ {is : List Nat} {es : List PySem.Expr}, mNames S fn is es = true → PGs X es (gNames is) ∧ (assignEach es X.env).length = is.length ∧ (assignEach es X.env).findIdx? (·.1) = none
  | [], [], _ => ⟨pgs_nil, rfl, rfl⟩
  | i :: is, .Name x p :: es, h => by
    unfold mNames at h
    rw [Bool.and_eq_true] at h
    obtain ⟨a, b, c⟩ := names_pg C hf h.2
    refine ⟨pgs_cons (st_pg C hf h.1) a rfl, ?_, ?_⟩
    · show ((false, assign (.Name x p) X.env) :: assignEach es X.env).length = _
      simp [b]
    · show ((false, assign (.Name x p) X.env) :: assignEach es X.env).findIdx? _ = _
      rw [List.findIdx?_cons, if_neg (by simp), c]; rfl
  | [], _ :: _, h => by unfold mNames at h; cases h
  | _ :: _, [], h => by unfold mNames at h; cases h
theorem tg_pg (C : Ctx G Γ S X) {fn : Str → Bool} (hf : ∀ x, fn x = true → X.fn x = true) {t : Tg} {e : PySem.Expr} (h : mTg S fn t e = true) : PG X e (gT G.K t) := by
  unfold mTg at h
  split at h
  · exact st_pg C hf h
  · obtain ⟨a, b, c⟩ := names_pg C hf h
    have := pg_tup (pos := by assumption) (k := by assumption) C.calm a b c
    rw [← C.hG] at this
    exact this
  · cases h
/-! ### what is walked -/
def YD (G : Ga) (ps : List PyData) : Nat → Hp → V → Hp → Prop := fun i H x H' => Frm [] H H' ∧ ∃ p, ps[i]? = some p ∧ DpF G.K H' x p
def itR (G : Ga) (k : ItK) : List V → Hp → (It → Hp → Prop) → Prop := fun vs H R => ∃ ds ps, RVs G H vs ds ∧ itF k ds = some ps ∧ ∀ J, Walk J ps.length (fun H => RVs G H vs ds) (YD G ps) → R J H
def tI (G : Ga) (W : WX) (k : ItK) (ops : List Sop) : TI := fun σ H R => tO G W ops σ H fun vs H1 => itR G k vs H1 R
theorem piImp {tg it : PySem.Expr} {w w' : TI} (h : PI X tg it w) (i : ∀ σ H R, w' σ H R → w σ H R) : PI X tg it w' := ⟨fun pins s σ H R I q => h.run pins s σ H R I (i σ H R q)⟩
theorem frm_nil : Frm [] H H := fun _ _ e _ => e
theorem rng_get {lo : Int} {n i : Nat} (h : i < n) : (rngD lo n)[i]? = some (.int (lo + (i : Nat))) := by
  unfold rngD
  simp [h]
theorem rng_len {lo : Int} {n : Nat} : (rngD lo n).length = n := by unfold rngD; simp
theorem enum_len : ∀ {l : List PyData} {i : Int}, (enumD i l).length = l.length
  | [], _ => rfl
  | _ :: l, i => congrArg (· + 1) enum_len
theorem enum_get : ∀ {l : List PyData} {i : Int} {k : Nat} {p : PyData}, l[k]? = some p → (enumD i l)[k]? = some (.tuple [.int (i + (k : Nat)), p])
  | [], _, k, _, h => by simp at h
  | _ :: l, i, 0, _, h => by simp at h; subst h; simp [enumD]
  | _ :: l, i, k + 1, p, h => by
    have := enum_get (l := l) (i := i + 1) (k := k) (by simpa using h)
    simp only [enumD, List.getElem?_cons_succ, this]
    congr 4
    omega
theorem zip_len : ∀ {l m : List PyData}, (zipD l m).length = min l.length m.length
  | [], _ => by unfold zipD; simp
  | _ :: _, [] => by unfold zipD; simp
  | _ :: l, _ :: m => by
    unfold zipD
    simp only [List.length_cons, zip_len]
    omega
theorem zip_get : ∀ {l m : List PyData} {k : Nat} {p q : PyData}, l[k]? = some p → m[k]? = some q → (zipD l m)[k]? = some (.tuple [p, q])
  | [], _, k, _, _, h, _ => by simp at h
  | _ :: _, [], k, _, _, _, h => by simp at h
  | _ :: l, _ :: m, 0, _, _, h, h' => by simp at h h'; subst h h'; simp [zipD]
  | _ :: l, _ :: m, k + 1, p, q, h, h' => by
    simp only [zipD, List.getElem?_cons_succ]
    exact zip_get (by simpa using h) (by simpa using h')
theorem RVs.seq1 {v : V} {d : D} {k : SK} {l : List PyData} (h : RVs G H [v] [d]) (e : d.seq = some (k, l)) : ∃ a xs, v = .ref a ∧ SqK G.K H a xs k ∧ DpFs G.K H xs l := by
  cases h with
  | cons r _ => exact r.seq e
theorem RVs.seq2 {v : V} {d e : D} {vs : List V} {ds : List D} {k : SK} {l : List PyData} (h : RVs G H (v :: vs) (e :: ds)) (q : e.seq = some (k, l)) : ∃ a xs, v = .ref a ∧ SqK G.K H a xs k ∧ DpFs G.K H xs l := by
  cases h with
  | cons r _ => exact r.seq q
/-- a new pair of shared things -/
theorem YD.pair {ps : List PyData} {i : Nat} {T : Addr} {x y : V} {p q : PyData} (hT : H T = none) (hx : DpF G.K H x p) (hy : DpF G.K H y q) (e : ps[i]? = some (.tuple [p, q])) : YD G ps i H (.ref T) (upd H T (.tup [x, y])) :=
  ⟨frm_new hT, _, e, .tup (SqT.of upd_same) (.cons (hx.fr (frm_new hT) mut_nil) (.cons (hy.fr (frm_new hT) mut_nil) .nil))⟩
theorem walkL {a : Addr} {d : D} {l : List PyData} (e : d.seq = some (.lst, l)) : Walk (Itl G.K a) l.length (fun H => RVs G H [.ref a] [d]) (YD G l) := by
  refine ⟨fun i H hi q => ?_, fun H q => ?_, fun i H x H' hi q y => ?_⟩
  · obtain ⟨b, xs, e1, s, m⟩ := q.seq1 e
    cases e1
    obtain ⟨v, ev, _⟩ := m.get (List.getElem?_eq_getElem hi)
    exact ⟨xs, v, s, ev⟩
  · obtain ⟨b, xs, e1, s, m⟩ := q.seq1 e
    cases e1
    exact ⟨xs, s, Nat.le_of_eq m.len⟩
  · obtain ⟨b, xs, e1, s, m⟩ := q.seq1 e
    cases e1
    obtain ⟨v, ev, dv⟩ := m.get (List.getElem?_eq_getElem hi)
    obtain ⟨rfl, y⟩ := y
    have := y xs s
    rw [ev] at this; cases this
    exact ⟨frm_nil, _, List.getElem?_eq_getElem hi, dv⟩
theorem walkT {a : Addr} {d : D} {l : List PyData} (e : d.seq = some (.tup, l)) : Walk (Itt G.K a) l.length (fun H => RVs G H [.ref a] [d]) (YD G l) := by
  refine ⟨fun i H hi q => ?_, fun H q => ?_, fun i H x H' hi q y => ?_⟩
  · obtain ⟨b, xs, e1, s, m⟩ := q.seq1 e
    cases e1
    obtain ⟨v, ev, _⟩ := m.get (List.getElem?_eq_getElem hi)
    exact ⟨xs, v, s, ev⟩
  · obtain ⟨b, xs, e1, s, m⟩ := q.seq1 e
    cases e1
    exact ⟨xs, s, Nat.le_of_eq m.len⟩
  · obtain ⟨b, xs, e1, s, m⟩ := q.seq1 e
    cases e1
    obtain ⟨v, ev, dv⟩ := m.get (List.getElem?_eq_getElem hi)
    obtain ⟨rfl, y⟩ := y
    have := y xs s
    rw [ev] at this; cases this
    exact ⟨frm_nil, _, List.getElem?_eq_getElem hi, dv⟩
theorem walkR {lo : Int} {n : Nat} {vs : List V} {ds : List D} : Walk (Itr lo n) (rngD lo n).length (fun H => RVs G H vs ds) (YD G (rngD lo n)) := by
  refine ⟨fun i H hi q => ?_, fun H q => ?_, fun i H x H' hi q y => ?_⟩
  · rw [rng_len] at hi; exact hi
  · show n ≤ _; rw [rng_len]; exact Nat.le_refl _
  · obtain ⟨rfl, rfl⟩ := y
    rw [rng_len] at hi
    exact ⟨frm_nil, _, rng_get hi, .int _⟩
theorem pi_seq (C : Ctx G Γ S X) {tg x : PySem.Expr} {op : Sop} (h : PE X x (tS1 G W op)) : PI X tg x (tI G W .seq [op]) := by
  refine ⟨fun pins s σ H R I z => ?_⟩
  unfold tI at z
  rw [tO_cons] at z
  refine thn (h.run pins s σ H _ I z) fun u s1 ⟨v, H1, I1, r1, ds, ps, rv, e, k⟩ => ?_
  obtain ⟨d, T, rfl, r⟩ := rv.one
  simp only [itF] at e
  cases e1 : d.seq with
  | none => rw [e1] at e; cases e
  | some q =>
    obtain ⟨kk, l⟩ := q
    rw [e1] at e; cases e
    obtain ⟨a, xs, rfl, sq, _⟩ := r.seq e1
    cases r1
    cases kk with
    | lst =>
      obtain ⟨its, rv, p, hz⟩ := I1.list (C.hG ▸ sq)
      refine wpAny_pyIter_list p.isList ?_
      refine ⟨s1.heap.objs.size, [s1.heap.objs.size], _, _, H1, rfl, I1.kept (t' := s1.toks) fun b o e => Heap.get?_push_of_some _ e, turn_list a _, ⟨_, Heap.get?_push_size _ rfl, rfl, rfl⟩, fun b hb => ?_, C.hG ▸ k _ (walkL e1)⟩
      have e : b = s1.heap.objs.size := by simpa using hb
      subst e
      exact I1.fpOk (Nat.le_refl _) (I1.hok.fresh (Nat.le_refl _))
    | tup =>
      obtain ⟨its, rv, p, hz⟩ := I1.tuple (C.hG ▸ sq)
      refine wpAny_pyIter_tuple (show s1.heap.IsTuple a its.toArray from p) ?_
      refine ⟨s1.heap.objs.size, [s1.heap.objs.size], _, _, H1, rfl, I1.kept (t' := s1.toks) fun b o e => Heap.get?_push_of_some _ e, turn_tuple a _, ⟨_, Heap.get?_push_size _ rfl, rfl, rfl⟩, fun b hb => ?_, C.hG ▸ k _ (walkT e1)⟩
      have e : b = s1.heap.objs.size := by simpa using hb
      subst e
      exact I1.fpOk (Nat.le_refl _) (I1.hok.fresh (Nat.le_refl _))
theorem rng_inv {e : PySem.Expr} {xs : List PySem.Expr} (h : itArgs S .rng e = some xs) : ∃ f p a pos, e = .Call (.Name f p) [a] [] pos ∧ f = "range" ∧ xs = [a] ∧ bltB S "range" = true := by
  unfold itArgs at h
  split at h
  all_goals first | contradiction | skip
  all_goals (split at h <;> try contradiction)
  rename_i hh
  rw [Bool.and_eq_true, decide_eq_true_eq] at hh
  obtain ⟨rfl, hb⟩ := hh
  cases h
  exact ⟨_, _, _, _, rfl, rfl, rfl, hb⟩
theorem rng2_inv {e : PySem.Expr} {xs : List PySem.Expr} (h : itArgs S .rng2 e = some xs) : ∃ f p a b pos, e = .Call (.Name f p) [a, b] [] pos ∧ f = "range" ∧ xs = [a, b] ∧ bltB S "range" = true := by
  unfold itArgs at h
  split at h
  all_goals first | contradiction | skip
  all_goals (split at h <;> try contradiction)
  rename_i hh
  rw [Bool.and_eq_true, decide_eq_true_eq] at hh
  obtain ⟨rfl, hb⟩ := hh
  cases h
  exact ⟨_, _, _, _, _, rfl, rfl, rfl, hb⟩
theorem enum_inv {e : PySem.Expr} {xs : List PySem.Expr} (h : itArgs S .enum e = some xs) : ∃ f p a pos, e = .Call (.Name f p) [a] [] pos ∧ f = "enumerate" ∧ xs = [a] ∧ bltB S "enumerate" = true := by
  unfold itArgs at h
  split at h
  all_goals first | contradiction | skip
  all_goals (split at h <;> try contradiction)
  rename_i hh
  rw [Bool.and_eq_true, decide_eq_true_eq] at hh
  obtain ⟨rfl, hb⟩ := hh
  cases h
  exact ⟨_, _, _, _, rfl, rfl, rfl, hb⟩
theorem rev_inv {e : PySem.Expr} {xs : List PySem.Expr} (h : itArgs S .rev e = some xs) : ∃ f p a pos, e = .Call (.Name f p) [a] [] pos ∧ f = "reversed" ∧ xs = [a] ∧ bltB S "reversed" = true := by
  unfold itArgs at h
  split at h
  all_goals first | contradiction | skip
  all_goals (split at h <;> try contradiction)
  rename_i hh
  rw [Bool.and_eq_true, decide_eq_true_eq] at hh
  obtain ⟨rfl, hb⟩ := hh
  cases h
  exact ⟨_, _, _, _, rfl, rfl, rfl, hb⟩
theorem itF_rev {ds : List D} {ps : List PyData} (h : itF .rev ds = some ps) : ∃ d k l, ds = [d] ∧ d.seq = some (k, l) ∧ ps = l.reverse := by
  unfold itF at h
  split at h
  all_goals first | contradiction | skip
  split at h
  · rename_i hh; cases h; exact ⟨_, _, _, rfl, hh, rfl⟩
  · cases h
theorem rev_get {α : Type} {l : List α} {i : Nat} (h : i < l.length) : l.reverse[i]? = l[l.length - 1 - i]? := List.getElem?_reverse h
theorem walkVL {a : Addr} {d : D} {l : List PyData} (e : d.seq = some (.lst, l)) : Walk (Itv G.K a l.length) l.reverse.length (fun H => RVs G H [.ref a] [d]) (YD G l.reverse) := by
  rw [List.length_reverse]
  refine ⟨fun i H hi q => ?_, fun H q => Nat.le_refl _, fun i H x H' hi q y => ?_⟩
  all_goals (obtain ⟨b, xs, e1, s, m⟩ := q.seq1 e; cases e1; have hj : l.length - 1 - i < l.length := by omega)
  · obtain ⟨v, ev, _⟩ := m.get (List.getElem?_eq_getElem hj)
    exact ⟨hi, xs, v, s, ev⟩
  · obtain ⟨v, ev, dv⟩ := m.get (List.getElem?_eq_getElem hj)
    obtain ⟨rfl, y⟩ := y
    have := y xs s
    rw [ev] at this; cases this
    exact ⟨frm_nil, _, by rw [rev_get hi]; exact List.getElem?_eq_getElem hj, dv⟩
theorem walkVT {a : Addr} {d : D} {l : List PyData} (e : d.seq = some (.tup, l)) : Walk (RT.ItvT G.K a l.length) l.reverse.length (fun H => RVs G H [.ref a] [d]) (YD G l.reverse) := by
  rw [List.length_reverse]
  refine ⟨fun i H hi q => ?_, fun H q => Nat.le_refl _, fun i H x H' hi q y => ?_⟩
  all_goals (obtain ⟨b, xs, e1, s, m⟩ := q.seq1 e; cases e1; have hj : l.length - 1 - i < l.length := by omega)
  · obtain ⟨v, ev, _⟩ := m.get (List.getElem?_eq_getElem hj)
    exact ⟨hi, xs, v, s, ev⟩
  · obtain ⟨v, ev, dv⟩ := m.get (List.getElem?_eq_getElem hj)
    obtain ⟨rfl, y⟩ := y
    have := y xs s
    rw [ev] at this; cases this
    exact ⟨frm_nil, _, by rw [rev_get hi]; exact List.getElem?_eq_getElem hj, dv⟩
theorem zip_inv {e : PySem.Expr} {xs : List PySem.Expr} (h : itArgs S .zip e = some xs) : ∃ f p a b pos, e = .Call (.Name f p) [a, b] [] pos ∧ f = "zip" ∧ xs = [a, b] ∧ bltB S "zip" = true := by
  unfold itArgs at h
  split at h
  all_goals first | contradiction | skip
  all_goals (split at h <;> try contradiction)
  rename_i hh
  rw [Bool.and_eq_true, decide_eq_true_eq] at hh
  obtain ⟨rfl, hb⟩ := hh
  cases h
  exact ⟨_, _, _, _, _, rfl, rfl, rfl, hb⟩
theorem itF_rng {ds : List D} {ps : List PyData} (h : itF .rng ds = some ps) : ∃ n : Int, ds = [.sh (.int n)] ∧ n < 16777216 ∧ -16777216 < n ∧ ps = rngD 0 n.toNat := by
  unfold itF at h
  split at h
  all_goals first | contradiction | skip
  split at h
  · rename_i hh; cases h; exact ⟨_, rfl, hh.1, hh.2, rfl⟩
  · cases h
theorem itF_rng2 {ds : List D} {ps : List PyData} (h : itF .rng2 ds = some ps) : ∃ a b : Int, ds = [.sh (.int a), .sh (.int b)] ∧ (a < 16777216 ∧ -16777216 < a) ∧ (b < 16777216 ∧ -16777216 < b) ∧ ps = rngD a (b - a).toNat := by
  unfold itF at h
  split at h
  all_goals first | contradiction | skip
  split at h
  · rename_i hh; cases h; exact ⟨_, _, rfl, hh.1, hh.2, rfl⟩
  · cases h
theorem itF_enum {ds : List D} {ps : List PyData} (h : itF .enum ds = some ps) : ∃ d k l, ds = [d] ∧ d.seq = some (k, l) ∧ ps = enumD 0 l := by
  unfold itF at h
  split at h
  all_goals first | contradiction | skip
  split at h
  · rename_i hh; cases h; exact ⟨_, _, _, rfl, hh, rfl⟩
  · cases h
theorem itF_zip {ds : List D} {ps : List PyData} (h : itF .zip ds = some ps) : ∃ d e l m k, ds = [d, e] ∧ d.seq = some (k, l) ∧ e.seq = some (k, m) ∧ ps = zipD l m := by
  unfold itF at h
  split at h
  all_goals first | contradiction | skip
  split at h
  · rename_i h1 h2; cases h; exact ⟨_, _, _, _, _, rfl, h1, h2, rfl⟩
  · rename_i h1 h2; cases h; exact ⟨_, _, _, _, _, rfl, h1, h2, rfl⟩
  · cases h
theorem walkE {a : Addr} {d : D} {l : List PyData} (e : d.seq = some (.lst, l)) : Walk (Ite G.K a) (enumD 0 l).length (fun H => RVs G H [.ref a] [d]) (YD G (enumD 0 l)) := by
  refine ⟨fun i H hi q => ?_, fun H q => ?_, fun i H x H' hi q y => ?_⟩
  all_goals (obtain ⟨b, xs, e1, s, m⟩ := q.seq1 e; cases e1)
  · rw [enum_len] at hi
    obtain ⟨v, ev, _⟩ := m.get (List.getElem?_eq_getElem hi)
    exact ⟨xs, v, s, ev⟩
  · exact ⟨xs, s, Nat.le_of_eq (by rw [enum_len]; exact m.len)⟩
  · rw [enum_len] at hi
    obtain ⟨v, ev, dv⟩ := m.get (List.getElem?_eq_getElem hi)
    obtain ⟨T, x', h1, h2, h3, h4⟩ := y
    have := h4 xs s
    rw [ev] at this; cases this
    subst h1 h3
    exact YD.pair h2 (.int _) dv (by rw [enum_get (List.getElem?_eq_getElem hi)]; simp)
theorem walkET {a : Addr} {d : D} {l : List PyData} (e : d.seq = some (.tup, l)) : Walk (IteT G.K a) (enumD 0 l).length (fun H => RVs G H [.ref a] [d]) (YD G (enumD 0 l)) := by
  refine ⟨fun i H hi q => ?_, fun H q => ?_, fun i H x H' hi q y => ?_⟩
  all_goals (obtain ⟨b, xs, e1, s, m⟩ := q.seq1 e; cases e1)
  · rw [enum_len] at hi
    obtain ⟨v, ev, _⟩ := m.get (List.getElem?_eq_getElem hi)
    exact ⟨xs, v, s, ev⟩
  · exact ⟨xs, s, Nat.le_of_eq (by rw [enum_len]; exact m.len)⟩
  · rw [enum_len] at hi
    obtain ⟨v, ev, dv⟩ := m.get (List.getElem?_eq_getElem hi)
    obtain ⟨T, x', h1, h2, h3, h4⟩ := y
    have := h4 xs s
    rw [ev] at this; cases this
    subst h1 h3
    exact YD.pair h2 (.int _) dv (by rw [enum_get (List.getElem?_eq_getElem hi)]; simp)
theorem RVs.pair {v u : V} {d e : D} (h : RVs G H [v, u] [d, e]) : ∃ T T', Rep G H v d T ∧ Rep G H u e T' := by
  cases h with | cons a b => cases b with | cons c f => exact ⟨_, _, a, c⟩
theorem walkZ {a b : Addr} {d e : D} {l m : List PyData} (h1 : d.seq = some (.lst, l)) (h2 : e.seq = some (.lst, m)) : Walk (Itz G.K a b) (zipD l m).length (fun H => RVs G H [.ref a, .ref b] [d, e]) (YD G (zipD l m)) := by
  refine ⟨fun i H hi q => ?_, fun H q => ?_, fun i H x H' hi q y => ?_⟩
  all_goals (obtain ⟨_, _, r1, r2⟩ := q.pair; obtain ⟨b1, xs, e1, s, n⟩ := r1.seq h1; obtain ⟨b2, ys, e2, s', n'⟩ := r2.seq h2; cases e1; cases e2)
  · rw [zip_len] at hi
    obtain ⟨v, ev, _⟩ := n.get (List.getElem?_eq_getElem (i := i) (by omega))
    obtain ⟨u, eu, _⟩ := n'.get (List.getElem?_eq_getElem (i := i) (by omega))
    exact ⟨xs, ys, v, u, s, s', ev, eu⟩
  · refine ⟨xs, ys, s, s', ?_⟩
    rw [zip_len, n.len, n'.len]; omega
  · rw [zip_len] at hi
    have el := List.getElem?_eq_getElem (l := l) (i := i) (by omega)
    have em := List.getElem?_eq_getElem (l := m) (i := i) (by omega)
    obtain ⟨v, ev, dv⟩ := n.get el
    obtain ⟨u, eu, du⟩ := n'.get em
    obtain ⟨T, x', y', z1, z2, z3, z4, z5⟩ := y
    have t1 := z4 xs s
    have t2 := z5 ys s'
    rw [ev] at t1; cases t1
    rw [eu] at t2; cases t2
    subst z1 z3
    exact YD.pair z2 dv du (zip_get el em)
theorem walkZT {a b : Addr} {d e : D} {l m : List PyData} (h1 : d.seq = some (.tup, l)) (h2 : e.seq = some (.tup, m)) : Walk (RZ.ItzT G.K a b) (zipD l m).length (fun H => RVs G H [.ref a, .ref b] [d, e]) (YD G (zipD l m)) := by
  refine ⟨fun i H hi q => ?_, fun H q => ?_, fun i H x H' hi q y => ?_⟩
  all_goals (obtain ⟨_, _, r1, r2⟩ := q.pair; obtain ⟨b1, xs, e1, s, n⟩ := r1.seq h1; obtain ⟨b2, ys, e2, s', n'⟩ := r2.seq h2; cases e1; cases e2)
  · rw [zip_len] at hi
    obtain ⟨v, ev, _⟩ := n.get (List.getElem?_eq_getElem (i := i) (by omega))
    obtain ⟨u, eu, _⟩ := n'.get (List.getElem?_eq_getElem (i := i) (by omega))
    exact ⟨xs, ys, v, u, s, s', ev, eu⟩
  · refine ⟨xs, ys, s, s', ?_⟩
    rw [zip_len, n.len, n'.len]; omega
  · rw [zip_len] at hi
    have el := List.getElem?_eq_getElem (l := l) (i := i) (by omega)
    have em := List.getElem?_eq_getElem (l := m) (i := i) (by omega)
    obtain ⟨v, ev, dv⟩ := n.get el
    obtain ⟨u, eu, du⟩ := n'.get em
    obtain ⟨T, x', y', z1, z2, z3, z4, z5⟩ := y
    have t1 := z4 xs s
    have t2 := z5 ys s'
    rw [ev] at t1; cases t1
    rw [eu] at t2; cases t2
    subst z1 z3
    exact YD.pair z2 dv du (zip_get el em)
theorem RVs.len : ∀ {vs : List V} {ds : List D}, RVs G H vs ds → vs.length = ds.length
  | _, _, .nil => rfl
  | _, _, .cons _ h => congrArg (· + 1) (RVs.len h)
theorem pi_ok (C : Ctx G Γ S X) {k : ItK} {tg e : PySem.Expr} {xs : List PySem.Expr} {ops : List Sop} (h : itArgs S k e = some xs) (ps : POs X G W xs ops) (ht : itTup k = true → isTup tg = true) : PI X tg e (tI G W k ops) := by
  cases k with
  | seq =>
    cases h
    cases ps with
    | cons a n r => cases r; exact pi_seq C a
  | rng =>
    obtain ⟨f, p, a, pos, rfl, rfl, rfl, hb⟩ := rng_inv h
    obtain ⟨g1, g2, g3, g4⟩ := C.blt hb
    cases ps with
    | cons pa n r =>
    cases r
    refine piImp (pi_range1 g1 g4 (POs.pa (.cons pa n .nil)) (star1 n)) fun σ H R z => tO_mono z fun vs H1 ⟨ds, ps, rv, e, k⟩ => ?_
    obtain ⟨j, rfl, j1, j2, rfl⟩ := itF_rng e
    obtain ⟨v, T, rfl, r⟩ := rv.of1
    cases r.int_of
    exact ⟨j, rfl, by omega, by omega, k _ walkR⟩
  | rng2 =>
    obtain ⟨f, p, a, b, pos, rfl, rfl, rfl, hb⟩ := rng2_inv h
    obtain ⟨g1, g2, g3, g4⟩ := C.blt hb
    cases ps with
    | cons pa n r =>
    cases r with
    | cons pb n' r =>
    cases r
    refine piImp (pi_range2 g1 g4 (POs.pa (.cons pa n (.cons pb n' .nil))) (by rw [star1 n, star1 n']; rfl) (star1 n')) fun σ H R z => tO_mono z fun vs H1 ⟨ds, ps, rv, e, k⟩ => ?_
    obtain ⟨i, j, rfl, j1, j2, rfl⟩ := itF_rng2 e
    obtain ⟨v, u, T, T', rfl, r, r'⟩ := rv.of2
    cases r.int_of
    cases r'.int_of
    exact ⟨i, j, rfl, ⟨by omega, by omega, by omega, by omega⟩, k _ walkR⟩
  | enum =>
    obtain ⟨f, p, a, pos, rfl, rfl, rfl, hb⟩ := enum_inv h
    obtain ⟨g1, g2, g3, g4⟩ := C.blt hb
    cases ps with
    | cons pa n r =>
    cases r
    have ht := ht rfl
    unfold isTup at ht
    split at ht
    · refine piImp (pi_enumA g1 g4 (POs.pa (.cons pa n .nil)) (star1 n)) fun σ H R z => tO_mono z fun vs H1 ⟨ds, ps, rv, e, k⟩ => ?_
      obtain ⟨d, kk, l, rfl, e1, rfl⟩ := itF_enum e
      obtain ⟨v, T, rfl, r⟩ := rv.of1
      obtain ⟨b, xs, rfl, s, m⟩ := r.seq e1
      cases kk with
      | lst => exact ⟨b, xs, rfl, .inl ⟨C.hG ▸ s, C.hG ▸ k _ (walkE e1)⟩⟩
      | tup => exact ⟨b, xs, rfl, .inr ⟨C.hG ▸ s, C.hG ▸ k _ (walkET e1)⟩⟩
    · cases ht
  | rev =>
    obtain ⟨f, p, a, pos, rfl, rfl, rfl, hb⟩ := rev_inv h
    obtain ⟨g1, g2, g3, g4⟩ := C.blt hb
    cases ps with
    | cons pa n r =>
    cases r
    refine piImp (RT.pi_revA g1 g4 pa (star1 n)) fun σ H R z => ?_
    unfold tI at z
    rw [tO_cons] at z
    refine tS1_mono z fun v H1 ⟨ds, ps, rv, e, k⟩ => ?_
    obtain ⟨d, kk, l, rfl, e1, rfl⟩ := itF_rev e
    obtain ⟨_, T, e2, r⟩ := rv.of1
    cases e2
    obtain ⟨b, xs, rfl, s, m⟩ := r.seq e1
    have hl : xs.length = l.length := m.len
    cases kk with
    | lst => exact ⟨b, xs, rfl, .inl ⟨C.hG ▸ s, hl ▸ C.hG ▸ k _ (walkVL e1)⟩⟩
    | tup => exact ⟨b, xs, rfl, .inr ⟨C.hG ▸ s, hl ▸ C.hG ▸ k _ (walkVT e1)⟩⟩
  | zip =>
    obtain ⟨f, p, a, b, pos, rfl, rfl, rfl, hb⟩ := zip_inv h
    obtain ⟨g1, g2, g3, g4⟩ := C.blt hb
    cases ps with
    | cons pa n r =>
    cases r with
    | cons pb n' r =>
    cases r
    have ht := ht rfl
    unfold isTup at ht
    split at ht
    · refine piImp (RZ.pi_zipA g1 g4 (POs.pa (.cons pa n (.cons pb n' .nil))) (star1 n) (POs.plain _ _ (.cons pb n' .nil))) fun σ H R z => tO_mono z fun vs H1 ⟨ds, ps, rv, e, k⟩ => ?_
      obtain ⟨d, e', l, m, kk, rfl, e1, e2, rfl⟩ := itF_zip e
      obtain ⟨v, u, T, T', rfl, r, r'⟩ := rv.of2
      obtain ⟨b, xs, rfl, s, _⟩ := r.seq e1
      obtain ⟨b', xs', rfl, s', _⟩ := r'.seq e2
      cases kk with
      | lst => exact ⟨_, _, _, _, rfl, .inl ⟨C.hG ▸ s, C.hG ▸ s', C.hG ▸ k _ (walkZ e1 e2)⟩⟩
      | tup => exact ⟨_, _, _, _, rfl, .inr ⟨C.hG ▸ s, C.hG ▸ s', C.hG ▸ k _ (walkZT e1 e2)⟩⟩
    · cases ht
end
end Vs
/-! V17: comprehensions. -/
namespace Vs
open PySem PySem.Spec L2
open PyProof.Rows hiding St
abbrev W0 : WX := fun _ _ _ _ => False
section
variable {X : Cx} {G : Ga} {W : WX} {S : Sc} {Γ : Gam} {σ : L2.St} {H H' : Hp}
theorem Ctx.blk (C : Ctx G Γ S X) (s : Shared) (H : Hp) (scope : Scope) (c : Addr) (cl : List (Str × Addr)) (fp : List Addr) : Ctx G Γ (S.blk scope) (X.blk s H scope (compEnvC scope cl c X.env) fp) where
  hG := C.hG
  hw := C.hw
  sc := by show relS scope X.env.scope = relB scope S.sc; rw [C.sc]; rfl
  hN := C.hN
  nd := C.nd
  calm := C.calm
  gd := C.gd
  un := C.un
  con := C.con
  fn := fun f dn e => by
    obtain ⟨a, fd, ps, k, h⟩ := (C.fn f dn e).to
    exact ⟨a, fd, ps, k, h⟩
  bl := C.bl
theorem ovl_ok : ∀ {os : List Ov} {vs : List V} {T : List Addr} {ds : List D}, RepO G H σ vs os T → ovs os [] = some ds → RVs G H vs ds
  | _, _, _, _, .nil, e => by unfold ovs at e; cases e; exact .nil
  | _, _, _, _, .d (os := os) r hs, e => by
    unfold ovs at e
    cases e2 : ovs os [] with
    | none => rw [e2] at e; cases e
    | some l => rw [e2] at e; cases e; exact .cons r (ovl_ok hs e2)
  | _, _, _, _, .v (i := i) (os := os) q hs, e => by
    unfold ovs at e
    split at e
    · rename_i d l e1 e2
      simp at e1
    · cases e
  | _, _, _, _, .p (os := os) q r va g hs, e => by
    unfold ovs at e
    split at e
    · rename_i d l e1 e2
      cases e
      obtain ⟨u, T', a, b, _⟩ := r.place e1
      cases a.inj va
      exact .cons b (ovl_ok hs e2)
    · cases e
theorem RepE.wipe {ρ : Env} : ∀ {O : List Addr} (vs : List Nat), RepE G H σ ρ O → ∃ O', O'.Sublist O ∧ RepE G H (L2.wipe σ vs) (wipeE ρ vs) O'
  | O, [], h => ⟨O, .refl _, h⟩
  | O, v :: vs, h => by
    obtain ⟨O1, s1, r1⟩ := RepE.wipe vs h
    obtain ⟨O2, s2, r2⟩ := r1.drop v
    refine ⟨O2, s2.trans s1, ?_⟩
    show RepE G H ((L2.wipe σ vs).set v none) ((wipeE ρ vs).set v none) O2
    by_cases hv : v < (wipeE ρ vs).length
    · exact r2.any v none (by simp [hv])
    · rw [List.set_eq_of_length_le (by rw [← r1.len]; omega)]; exact r2
theorem wipeE_len {ρ : Env} : ∀ vs : List Nat, (wipeE ρ vs).length = ρ.length
  | [] => rfl
  | v :: vs => by unfold wipeE; rw [List.length_set, wipeE_len vs]
theorem wipeE_none {ρ : Env} {i : Nat} {d : D} : ∀ {vs : List Nat}, i ∈ vs → (wipeE ρ vs)[i]? ≠ some (some d)
  | v :: vs, h => by
    intro e
    unfold wipeE at e
    by_cases hv : v = i
    · subst hv
      by_cases hl : v < (wipeE ρ vs).length
      · rw [List.getElem?_set_self hl] at e; cases e
      · rw [List.getElem?_eq_none (by simpa using hl)] at e; cases e
    · rw [List.getElem?_set_ne hv] at e
      rcases List.mem_cons.mp h with rfl | h
      · exact hv rfl
      · exact wipeE_none h e
theorem RepE.unwipe {ρ : Env} {O : List Addr} : ∀ {vs : List Nat}, RepE G H (L2.wipe σ vs) ρ O → (∀ i ∈ vs, ∀ d, ρ[i]? ≠ some (some d)) → RepE G H σ ρ O
  | [], h, _ => h
  | v :: vs, h, n => by
    refine RepE.unwipe (vs := vs) ?_ fun i q => n i (List.mem_cons_of_mem _ q)
    have h : RepE G H ((L2.wipe σ vs).set v none) ρ O := h
    by_cases hv : v < (L2.wipe σ vs).length
    · have hl : v < ρ.length := by rw [h.len]; simpa using hv
      have e : ρ[v]? = some none := by
        rw [List.getElem?_eq_getElem hl]
        cases q : ρ[v] with
        | none => rfl
        | some d => exact absurd (by rw [List.getElem?_eq_getElem hl, q]) (n v List.mem_cons_self d)
      have := h.any v (L2.wipe σ vs)[v] e
      rw [List.set_set] at this
      rw [show (L2.wipe σ vs).set v ((L2.wipe σ vs)[v]) = L2.wipe σ vs from List.set_getElem_self ..] at this
      exact this
    · rw [List.set_eq_of_length_le (by omega)] at h; exact h
theorem wipe_in {i : Nat} : ∀ {vs : List Nat}, i ∈ vs → i < σ.length → (L2.wipe σ vs)[i]? = some none
  | v :: vs, h, hl => by
    show ((L2.wipe σ vs).set v none)[i]? = some none
    by_cases hv : v = i
    · subst hv
      rw [List.getElem?_set_self (by rw [wipe_length]; exact hl)]
    · rw [List.getElem?_set_ne hv]
      rcases List.mem_cons.mp h with rfl | h
      · exact absurd rfl hv
      · exact wipe_in h hl
theorem wipe_eq {σ σ' : L2.St} {vs : List Nat} (hl : σ'.length = σ.length) (h : ∀ j, j ∉ vs → σ'[j]? = σ[j]?) : L2.wipe σ' vs = L2.wipe σ vs := by
  refine List.ext_getElem? fun j => ?_
  by_cases hj : j ∈ vs
  · by_cases hk : j < σ.length
    · rw [wipe_in hj hk, wipe_in hj (by omega)]
    · rw [List.getElem?_eq_none (by rw [wipe_length]; omega), List.getElem?_eq_none (by rw [wipe_length]; omega)]
  · rw [wipe_out hj, wipe_out hj, h j hj]
theorem wipe_wipe {σ' : L2.St} {vs : List Nat} (h : ∀ j, j ∉ vs → σ'[j]? = (L2.wipe σ vs)[j]?) (hl : σ'.length = (L2.wipe σ vs).length) : L2.wipe σ' vs = L2.wipe σ vs :=
  wipe_eq (by rw [hl, wipe_length]) fun j n => by rw [h j n, wipe_out n]
/-- what a comprehension's loop keeps -/
structure LcI (G : Ga) (σ : L2.St) (own : List Nat) (vs : List V) (os : List Ov) (T O2 : List Addr) (H2 : Hp) (D : Addr) (H : Hp) (ρ : Env) (acc : List Vs.D) : Prop where
  to : ∃ O xs TD, RepE G H (L2.wipe σ own) ρ O ∧ H D = some (.lst xs) ∧ Reps G H xs acc TD ∧ RepO G H σ vs os T ∧ (T ++ ((D :: TD) ++ O)).Nodup ∧ Go (T ++ O2) H2 (T ++ ((D :: TD) ++ O)) H
  no : ∀ i ∈ own, ∀ d, ρ[i]? ≠ some (some d)
theorem lc_logic {own : List Nat} {t : Tg} {k : ItK} {ops : List Sop} {test : TF} {f : EF} {Q : VK} (ht : ∀ i ∈ t.sl, i ∈ own) (h : tE G W (lcE own t k ops test f) σ H Q) :
    tLc (tI G W k ops) (gT G.K t) (tT G W0 test) (tE G W0 f) own σ H Q := by
  obtain ⟨ρ, O, rE, nd, h⟩ := h
  unfold tLc tI
  refine run_ops ops ρ O rE nd ?_
  unfold OpsR
  unfold lcE at h
  cases er : runO ops ρ with
  | no => rw [er] at h; exact h.elim
  | ex x ρ' => rw [er] at h; exact h
  | ok q =>
  obtain ⟨os, ρ2⟩ := q
  rw [er] at h
  intro vs H2 O2 T rE2 rO nd2 go
  simp only [Res.bind] at h
  cases e1 : ovs os [] with
  | none => simp only [e1] at h
  | some ds =>
  simp only [e1] at h
  cases e2 : itF k ds with
  | none => simp only [e2] at h
  | some ps =>
  simp only [e2] at h
  cases e3 : lcL own t test f ps (wipeE ρ2 own) [] with
  | none => simp only [e3] at h
  | some z =>
  simp only [e3] at h
  refine ⟨ds, ps, ovl_ok rO e1, e2, fun J w D hD => ?_⟩
  refine lc_it w (fun i H => ∃ ρ' acc, LcI G σ own vs os T O2 H2 D H ρ' acc ∧ lcL own t test f (ps.drop i) ρ' acc = some z) ?_ ?_ ?_ ?_
  · obtain ⟨Ow, sw, rw'⟩ := rE2.wipe own
    have f := frm_new (o := .lst []) hD
    refine ⟨_, [], ⟨⟨Ow, [], [], rw'.fr (S := []) f mut_nil (fun _ _ z => nomatch z), upd_same, .nil, rO.fr (S := []) f mut_nil (fun _ _ z => nomatch z), ?_, ?_⟩, fun i hi d => wipeE_none hi⟩, by simpa using e3⟩
    · have nd' := nd_app.mp nd2
      refine nd_app.mpr ⟨nd'.1, List.nodup_cons.mpr ⟨fun z => ?_, sw.nodup nd'.2.1⟩, fun a q z => ?_⟩
      · obtain ⟨o, e⟩ := rE2.mut.some D (sw.subset (by simpa using z))
        rw [hD] at e; cases e
      · rcases List.mem_cons.mp z with rfl | z
        · obtain ⟨o, e⟩ := rO.mut.some a q
          rw [hD] at e; cases e
        · exact nd'.2.2 a q (sw.subset (by simpa using z))
    · refine (Go.new hD).less fun x q => ?_
      rcases List.mem_append.mp q with q | q
      · exact List.mem_cons_of_mem _ (List.mem_append_left _ q)
      · rcases List.mem_cons.mp q with rfl | q
        · exact List.mem_cons_self
        · exact List.mem_cons_of_mem _ (List.mem_append_right _ (sw.subset (by simpa using q)))
  · rintro i H _ ⟨ρ', acc, I, _⟩
    obtain ⟨_, _, _, _, _, _, r, _⟩ := I.to
    exact ovl_ok r e1
  · rintro i x H5 H6 hi ⟨ρ', acc, I, el⟩ ⟨fr, p, ep, dp⟩
    obtain ⟨O5, xs, TD, rE5, hDx, rA, rO5, nd5, go5⟩ := I.to
    have ed : ps.drop i = p :: ps.drop (i + 1) := by
      rw [List.getElem?_eq_getElem hi] at ep; cases ep
      exact List.drop_eq_getElem_cons hi
    rw [ed] at el
    unfold lcL at el
    have nL := nd_app.mp nd5
    have nR := nd_app.mp nL.2.1
    cases e4 : bindT [] t (.sh p) ρ' with
    | none => simp only [e4] at el; cases el
    | some ρ1 =>
    simp only [e4] at el
    have rE6 := rE5.fr (S := []) fr mut_nil fun _ _ z => nomatch z
    refine bind_logic rE6 (.sh dp) (by simpa using nR.2.1) e4 fun σ2 O7 rE7 nd7 sub7 dif => ?_
    have ew : L2.wipe σ2 own = L2.wipe σ own := wipe_wipe (fun j n => dif.out j fun q => n (ht j q)) dif.len
    refine ⟨ew, ρ1, O7, rE7, nd7, ?_⟩
    have go6 : Go O5 H5 O7 H6 := ⟨fun a o e _ => fr a o e (fun z => nomatch z), fun a q => .inl (by simpa using sub7 a q)⟩
    -- what is held beside is carried over
    have stand : ∀ {O9 : List Addr} {H9 : Hp} {ρ9 : Env} (Ty : List Addr), RepE G H9 σ2 ρ9 O9 → (Ty ++ O9).Nodup → Go O5 H5 (Ty ++ O9) H9 → H9 D = some (.lst xs) ∧ Reps G H9 xs acc TD ∧ RepO G H9 σ vs os T ∧ (T ++ ((D :: TD) ++ (Ty ++ O9))).Nodup ∧ Go (T ++ O2) H2 (T ++ ((D :: TD) ++ (Ty ++ O9))) H9 := by
      intro O9 H9 ρ9 Ty r9 n9 g9
      have m5 := rE5.mut
      have d1 : ∀ a ∈ T, a ∉ O5 := fun a q z => nL.2.2 a q (List.mem_append_right _ z)
      have d2 : ∀ a ∈ D :: TD, a ∉ O5 := fun a q z => nR.2.2 a q z
      have mL : MutA H5 (T ++ (D :: TD)) := MutA.app rO5.mut (fun a q => by
        rcases List.mem_cons.mp q with rfl | q
        · rw [hDx]; trivial
        · exact rA.mut a q)
      have kp := g9.keep (T := T ++ (D :: TD)) fun a q => ⟨fun z => (List.mem_append.mp q).elim (fun y => d1 a y z) fun y => d2 a y z, mL.some a q⟩
      refine ⟨g9.frm _ _ hDx (d2 D List.mem_cons_self), rA.fr g9.frm m5 fun a q => d2 a (List.mem_cons_of_mem _ q), rO5.fr g9.frm m5 d1, ?_, ?_⟩
      · have nLR : (T ++ (D :: TD)).Nodup := nd_app.mpr ⟨nL.1, nR.1, fun a q z => nL.2.2 a q (List.mem_append_left _ z)⟩
        rw [← List.append_assoc]
        exact nd_app.mpr ⟨nLR, n9, kp⟩
      · have := go5.trans (S2 := T ++ ((D :: TD) ++ (Ty ++ O9))) (H2 := H9) (by
          have := (g9.held (T := T ++ (D :: TD)))
          rw [List.append_assoc, List.append_assoc] at this
          exact this)
        exact this
    have next : ∀ {O9 : List Addr} {H9 : Hp} {ρ9 : Env}, RepE G H9 σ2 ρ9 O9 → O9.Nodup → Go O5 H5 O9 H9 → LcI G σ own vs os T O2 H2 D H9 (wipeE ρ9 own) acc := by
      intro O9 H9 ρ9 r9 n9 g9
      obtain ⟨a1, a2, a3, a4, a5⟩ := stand [] r9 (by simpa using n9) (by simpa using g9)
      obtain ⟨Ow, sw, rw'⟩ := r9.wipe own
      rw [ew] at rw'
      have sb : (T ++ ((D :: TD) ++ Ow)).Sublist (T ++ ((D :: TD) ++ ([] ++ O9))) := .append (.refl _) (.append (.refl _) (by simpa using sw))
      exact ⟨⟨Ow, xs, TD, rw', a1, a2, a3, sb.nodup a4, a5.less fun x q => sb.subset q⟩, fun i hi d => wipeE_none hi⟩
    cases e5 : test ρ1 with
    | no => simp only [e5] at el; cases el
    | ex x ρ9 => simp only [e5] at el; cases el
    | ok q5 =>
    obtain ⟨b, ρ8⟩ := q5
    intro H8 ⟨O8, rE8, nd8, go8⟩
    have g8 := go6.trans go8
    cases b with
    | false =>
      simp only [e5] at el
      rw [if_neg Bool.false_ne_true]
      exact ⟨_, acc, next rE8 nd8 g8, el⟩
    | true =>
      simp only [e5] at el
      rw [if_pos rfl]
      refine tE_iff.mpr ⟨ρ8, O8, rE8, nd8, ?_⟩
      cases e6 : f ρ8 with
      | no => simp only [e6] at el; cases el
      | ex x ρ9 => simp only [e6] at el; cases el
      | ok q6 =>
      obtain ⟨d, ρ9⟩ := q6
      simp only [e6] at el
      split at el
      · rename_i hlen
        intro y H9 ⟨O9, Ty, rE9, ry, nd9, go9⟩
        have g9 := g8.trans go9
        obtain ⟨a1, a2, a3, a4, a5⟩ := stand Ty rE9 nd9 g9
        refine ⟨xs, a1, by rw [rA.len, sizeLine_eq]; omega, _, acc ++ [d], ?_, el⟩
        obtain ⟨Ow, sw, rw'⟩ := rE9.wipe own
        rw [ew] at rw'
        have n4 := nd_app.mp a4
        have n5 := nd_app.mp n4.2.1
        have nD := List.nodup_cons.mp n5.1
        have dD : ∀ a, a ∈ T ∨ a ∈ TD ∨ a ∈ Ty ∨ a ∈ O9 → a ∉ [D] := fun a q z => by
          rw [List.mem_singleton] at z; subst z
          rcases q with q | q | q | q
          · exact n4.2.2 a q (List.mem_append_left _ List.mem_cons_self)
          · exact nD.1 q
          · exact n5.2.2 a List.mem_cons_self (List.mem_append_left _ q)
          · exact n5.2.2 a List.mem_cons_self (List.mem_append_right _ q)
        have fD : Frm [D] H9 (upd H9 D (.lst (xs ++ [y]))) := fun b u e n => by rw [upd_ne (fun q : b = D => n (by rw [q]; simp))]; exact e
        have mD : MutA H9 [D] := fun a q => by rw [List.mem_singleton] at q; subst q; rw [a1]; trivial
        have pm : (T ++ ((D :: (TD ++ Ty)) ++ Ow)).Sublist (T ++ ((D :: TD) ++ (Ty ++ O9))) := by
          refine .append (.refl _) ?_
          rw [List.cons_append, List.cons_append, List.append_assoc]
          exact .cons_cons _ (.append (.refl _) (.append (.refl _) sw))
        refine ⟨⟨Ow, xs ++ [y], TD ++ Ty, rw'.fr fD mD (fun a q => dD a (.inr (.inr (.inr (sw.subset q))))), upd_same, ?_, a3.fr fD mD fun a q => dD a (.inl q), pm.nodup a4, ?_⟩, fun i hi d => wipeE_none hi⟩
        · have r1 := a2.fr fD mD fun a q => dD a (.inr (.inl q))
          have r2 := ry.fr fD mD fun a q => dD a (.inr (.inr (.inl q)))
          have := r1.app (.cons r2 .nil)
          rwa [List.append_nil] at this
        · exact (a5.trans (Go.put (List.mem_append_right _ (List.mem_append_left _ List.mem_cons_self)))).less fun x q => pm.subset q
      · cases el
  · rintro H9 ⟨ρ', acc, I, el⟩
    obtain ⟨O5, xs, TD, rE5, hDx, rA, rO5, nd5, go5⟩ := I.to
    rw [List.drop_length] at el
    unfold lcL at el
    cases el
    simp only at h
    have nL := nd_app.mp nd5
    have nR := nd_app.mp nL.2.1
    cases e4 : unlock os ρ' with
    | none => simp only [e4] at h
    | some ρ3 =>
    simp only [e4] at h
    obtain ⟨O6, rE6, nd6, sub⟩ := unlock_ok rO5 (rE5.unwipe I.no) (nd_app.mpr ⟨nL.1, nR.2.1, fun a q z => nL.2.2 a q (List.mem_append_right _ z)⟩) e4
    refine h _ _ ⟨O6, D :: TD, rE6, .ls hDx rA, nd_app.mpr ⟨nR.1, nd6, fun a q z => ?_⟩, go.trans (go5.less fun a q => ?_)⟩
    · rcases List.mem_append.mp (sub a z) with y | y
      · exact nL.2.2 a y (List.mem_append_left _ q)
      · exact nR.2.2 a q y
    · rcases List.mem_append.mp q with q | q
      · exact List.mem_append_right _ (List.mem_append_left _ q)
      · rcases List.mem_append.mp (sub a q) with y | y
        · exact List.mem_append_left _ y
        · exact List.mem_append_right _ (List.mem_append_right _ y)
end
end Vs
/-! V18: every expression. -/
namespace Vs
open PySem PySem.Spec L2
open PyProof.Rows hiding St
section
variable {G : Ga} {Γ : Gam}
theorem pt_no {X : Cx} {W : WX} {x : PySem.Expr} : PT X x (tT G W fun _ => .no) := ⟨fun _ _ _ _ _ _ ⟨_, _, _, _, z⟩ => z.elim⟩
theorem ownOf_map {S : Sc} {own : List Nat} : (ownOf S own).map (·.2) = own := by
  unfold ownOf
  rw [List.map_map]
  exact List.map_id own
theorem isSet_pure {it : PySem.Expr} {env : PySem.Env} (h : notSet it = true) : ∀ x, foldedSetIterable it env x = pure x := by
  intro x
  cases it <;> first | rfl | cases h
/-- operands that are not views -/
def noVw : Ex → Bool
  | .vw _ _ => false
  | _ => true
theorem sops_e {e : Ex} {es : List Ex} (h : noVw e = true) : sops Γ (e :: es) = .e (ev Γ e) :: sops Γ es := by
  cases e <;> first | rfl | cases h
theorem lops_e {e : Ex} {es : List Ex} (h : noVw e = true) : lops Γ (e :: es) = .e (ev Γ e) :: lops Γ es := by
  cases e <;> first | rfl | cases h
theorem mO_e {S : Sc} {e : Ex} {es : List Ex} {x : PySem.Expr} {xs : List PySem.Expr} (n : noVw e = true) : mO S (e :: es) (x :: xs) = (mE S e x && notStar x && mO S es xs) := by
  cases e <;> first | rfl | cases n
theorem mL_e {S : Sc} {e : Ex} {es : List Ex} {x : PySem.Expr} {xs : List PySem.Expr} (n : noVw e = true) : mL S (e :: es) (x :: xs) = (mE S e x && notStar x && mL S es xs) := by
  cases e <;> first | rfl | cases n
theorem mE_vw {S : Sc} {e : Ex} {x : PySem.Expr} (h : mE S e x = true) : noVw e = true := by
  cases e <;> first | rfl | (unfold mE at h; cases h)
theorem ifs_ok {X : Cx} {W : WX} {xs : List PySem.Expr} {fs : List TF} (h : PTss X G W xs fs) (n : xs.length ≤ 1) : PTs X xs (tT G W (ifT fs)) := by
  cases h with
  | nil => exact ⟨fun pins s σ H Q I ⟨ρ, O, a, b, c⟩ => pts_nil.run pins s σ H Q I (c.now a b)⟩
  | cons h hs =>
    cases hs with
    | nil => exact pts_one h
    | cons _ _ => simp at n
mutual
theorem ev_ok : ∀ (e : Ex) {S : Sc} {X : Cx} {W : WX} {x : PySem.Expr}, Ctx G Γ S X → Takes X W → mE S e x = true → PE X x (tE G W (ev Γ e))
  | .lit d, S, X, W, x, C, tk, h => by
    unfold mE at h
    split at h
    · exact lit_ok h
    · cases h
  | .rd i, S, X, W, x, C, tk, h => rd_ok C h
  | .mv i, S, X, W, x, C, tk, h => mv_ok C h
  | .vw _ _, S, X, W, x, C, tk, h => by unfold mE at h; cases h
  | .gl f, S, X, W, x, C, tk, h => by
    unfold mE at h
    split at h
    · rw [Bool.and_eq_true, decide_eq_true_eq] at h
      obtain ⟨rfl, h⟩ := h
      exact gl_ok C h
    · cases h
  | .tup es, S, X, W, x, C, tk, h => by
    unfold mE at h
    split at h
    · exact tup_ok (evs_pos es C tk h)
    · cases h
  | .lst es, S, X, W, x, C, tk, h => by
    unfold mE at h
    split at h
    · exact lst_ok (evs_pos es C tk h)
    · cases h
  | .op o as, S, X, W, x, C, tk, h => by
    unfold mE at h
    split at h
    · rename_i xs e
      exact op_ok C e (mO_ok as C tk h)
    · cases h
  | .chn o o' a b c, S, X, W, x, C, tk, h => by
    unfold mE at h
    split at h
    · simp only [Bool.and_eq_true, decide_eq_true_eq] at h
      obtain ⟨⟨⟨⟨⟨⟨h1, h2⟩, h3⟩, h4⟩, h5⟩, h6⟩, h7⟩ := h
      exact chn_ok C h1 h2 h4 (ev_ok a C tk h5) (ev_ok b C tk h6) (ev_ok c C tk h7)
    · cases h
  | .bop k es, S, X, W, x, C, tk, h => by
    unfold mE at h
    split at h
    · simp only [Bool.and_eq_true, decide_eq_true_eq] at h
      obtain ⟨⟨rfl, h1⟩, h2⟩ := h
      exact bop_ok (evs_pe es C tk h2)
    · cases h
  | .not a, S, X, W, x, C, tk, h => by
    unfold mE at h
    split at h
    · exact not_ok (ev_ok a C tk h)
    · cases h
  | .ite c a b, S, X, W, x, C, tk, h => by
    unfold mE at h
    split at h
    · simp only [Bool.and_eq_true] at h
      exact ite_ok (evT_ok c C tk h.1.1) (ev_ok a C tk h.1.2) (ev_ok b C tk h.2)
    · cases h
  | .call f as bs ks π, S, X, W, x, C, tk, h => by
    unfold mE at h
    split at h
    · simp only [Bool.and_eq_true, decide_eq_true_eq, Bool.or_eq_true, Bool.not_eq_true'] at h
      obtain ⟨⟨⟨⟨⟨⟨rfl, h1⟩, h2⟩, h3⟩, h4⟩, h5⟩, h6⟩ := h
      split at h3
      · rename_i ys e
        refine call_ok C tk h1 (mO_ok as C tk h2) e (mO_ok bs C tk h3) h4 h5 fun z => ?_
        subst z
        rcases h6 with h6 | h6
        · simp at h6
        · exact h6
      · cases h3
    · cases h
  | .mut m i path as, S, X, W, x, C, tk, h => by
    unfold mE at h
    split at h
    · simp only [Bool.and_eq_true, decide_eq_true_eq] at h
      obtain ⟨⟨⟨⟨h1, h2⟩, h3⟩, h4⟩, h5⟩ := h
      exact mut_ok C h1 h2 (mO_ok as C tk h3) h4 h5
    · cases h
  | .lc own t k as ifs e, S, X, W, x, C, tk, h => by
    unfold mE at h
    split at h
    · rename_i elt tg it cs scope pos
      simp only [Bool.and_eq_true, decide_eq_true_eq] at h
      obtain ⟨⟨⟨⟨⟨⟨⟨⟨h1, h2⟩, h3⟩, h4⟩, h5⟩, h6⟩, h7⟩, h8⟩, h9⟩ := h
      split at h1
      · rename_i xs ex
        have pi := pi_ok (tg := tg) C ex (mL_ok as C tk h1) (fun z => by rw [z] at h2; simpa using h2)
        have ok := blkOk_by h3
        rw [← C.hN, ← C.sc] at ok
        refine pImp (pe_lc C.calm (C.hN ▸ C.nd) pi ok
          (fun s H c cl fp => tg_pg (C.blk s H scope c cl fp) (fun x z => z) h4)
          (fun s H c cl fp => ifs_ok (evTs_ok ifs (W := W0) (C.blk s H scope c cl fp) takes0 h7) h6)
          (fun s H c cl fp => ev_ok e (W := W0) (C.blk s H scope c cl fp) takes0 h8) (isSet_pure h9)) fun σ H Q z => ?_
        rw [ownOf_map]
        refine lc_logic (fun i q => ?_) z
        have := List.all_eq_true.mp h5 i q
        simpa using this
      · cases h1
    · cases h
  | .fz a, S, X, W, x, C, tk, h => fz_ok (ev_ok a C tk h)
  | .at i p, S, X, W, x, C, tk, h => at_ok C h
  | .dct ks es, S, X, W, x, C, tk, h => by
    unfold mE at h
    split at h
    · simp only [Bool.and_eq_true, decide_eq_true_eq, Bool.not_eq_true'] at h
      obtain ⟨⟨⟨h1, h2⟩, h4⟩, h5⟩ := h
      by_cases h0 : ks = []
      · subst h0
        cases ‹List (Option PySem.Expr)› with
        | cons _ _ => unfold mKeys at h1; cases h1
        | nil =>
          cases ‹List PySem.Expr› with
          | cons _ _ => simp at h2
          | nil =>
            cases es with
            | cons _ _ => unfold mEs at h5; cases h5
            | nil => exact dct0_ok
      · exact dct_ok h1 h2 h0 h4 (evs_pos es C tk h5)
    · cases h
theorem evT_ok : ∀ (e : Ex) {S : Sc} {X : Cx} {W : WX} {x : PySem.Expr}, Ctx G Γ S X → Takes X W → mE S e x = true → PT X x (tT G W (evT Γ e))
  | .bop k es, S, X, W, x, C, tk, h => by
    unfold mE at h
    split at h
    · simp only [Bool.and_eq_true, decide_eq_true_eq] at h
      obtain ⟨⟨rfl, h1⟩, h2⟩ := h
      exact (bopT_ok (evTs_ok es C tk h2) (fun z => by subst z; simp at h1)).pt
    · cases h
  | .not a, S, X, W, x, C, tk, h => by
    unfold mE at h
    split at h
    · exact notT_ok (evT_ok a C tk h)
    · cases h
  | .lit d, S, X, W, x, C, tk, h => by
    unfold mE at h
    split at h
    · exact val_okT (lit_ok h) rfl
    · cases h
  | .rd i, S, X, W, x, C, tk, h => by
    refine val_okT (rd_ok C h) ?_
    have h : mName S i x = true := h
    unfold mName at h
    split at h
    · rfl
    · cases h
  | .op o as, S, X, W, x, C, tk, h => by
    unfold mE at h
    split at h
    · rename_i xs e
      exact op_okT C e (mO_ok as C tk h)
    · cases h
  | .chn o o' a b c, S, X, W, x, C, tk, h => by
    unfold mE at h
    split at h
    · simp only [Bool.and_eq_true, decide_eq_true_eq] at h
      obtain ⟨⟨⟨⟨⟨⟨h1, h2⟩, h3⟩, h4⟩, h5⟩, h6⟩, h7⟩ := h
      exact chn_okT C h1 h2 h4 (ev_ok a C tk h5) (ev_ok b C tk h6) (ev_ok c C tk h7)
    · cases h
  | .call f as bs ks π, S, X, W, x, C, tk, h => by
    refine val_okT (ev_ok (.call f as bs ks π) C tk h) ?_
    unfold mE at h
    split at h
    · rfl
    · cases h
  | .vw _ _, S, X, W, x, C, tk, h => pt_no
  | .mv _, S, X, W, x, C, tk, h => pt_no
  | .gl _, S, X, W, x, C, tk, h => pt_no
  | .tup _, S, X, W, x, C, tk, h => pt_no
  | .lst _, S, X, W, x, C, tk, h => pt_no
  | .ite _ _ _, S, X, W, x, C, tk, h => pt_no
  | .mut _ _ _ _, S, X, W, x, C, tk, h => pt_no
  | .lc _ _ _ _ _ _, S, X, W, x, C, tk, h => pt_no
  | .fz _, S, X, W, x, C, tk, h => pt_no
  | .at _ _, S, X, W, x, C, tk, h => pt_no
  | .dct _ _, S, X, W, x, C, tk, h => pt_no
theorem evs_pe : ∀ (es : List Ex) {S : Sc} {X : Cx} {W : WX} {xs : List PySem.Expr}, Ctx G Γ S X → Takes X W → mEs S es xs = true → PEs X G W xs (evs Γ es)
  | [], S, X, W, [], C, tk, h => .nil
  | e :: es, S, X, W, x :: xs, C, tk, h => by
    unfold mEs at h
    simp only [Bool.and_eq_true] at h
    exact .cons (ev_ok e C tk h.1.1) (evs_pe es C tk h.2)
  | [], S, X, W, _ :: _, C, tk, h => by unfold mEs at h; cases h
  | _ :: _, S, X, W, [], C, tk, h => by unfold mEs at h; cases h
theorem evTs_ok : ∀ (es : List Ex) {S : Sc} {X : Cx} {W : WX} {xs : List PySem.Expr}, Ctx G Γ S X → Takes X W → mEs S es xs = true → PTss X G W xs (evTs Γ es)
  | [], S, X, W, [], C, tk, h => .nil
  | e :: es, S, X, W, x :: xs, C, tk, h => by
    unfold mEs at h
    simp only [Bool.and_eq_true] at h
    exact .cons (evT_ok e C tk h.1.1) (evTs_ok es C tk h.2)
  | [], S, X, W, _ :: _, C, tk, h => by unfold mEs at h; cases h
  | _ :: _, S, X, W, [], C, tk, h => by unfold mEs at h; cases h
theorem evs_pos : ∀ (es : List Ex) {S : Sc} {X : Cx} {W : WX} {xs : List PySem.Expr}, Ctx G Γ S X → Takes X W → mEs S es xs = true → POs X G W xs (sops Γ es)
  | [], S, X, W, [], C, tk, h => .nil
  | e :: es, S, X, W, x :: xs, C, tk, h => by
    unfold mEs at h
    simp only [Bool.and_eq_true] at h
    rw [sops_e (mE_vw h.1.1)]
    exact .cons (ev_ok e C tk h.1.1) h.1.2 (evs_pos es C tk h.2)
  | [], S, X, W, _ :: _, C, tk, h => by unfold mEs at h; cases h
  | _ :: _, S, X, W, [], C, tk, h => by unfold mEs at h; cases h
theorem mO_ok : ∀ (es : List Ex) {S : Sc} {X : Cx} {W : WX} {xs : List PySem.Expr}, Ctx G Γ S X → Takes X W → mO S es xs = true → POs X G W xs (sops Γ es)
  | [], S, X, W, [], C, tk, h => .nil
  | e :: es, S, X, W, x :: xs, C, tk, h => by
    cases n : noVw e with
    | true =>
      rw [mO_e n] at h
      simp only [Bool.and_eq_true] at h
      rw [sops_e n]
      exact .cons (ev_ok e C tk h.1.1) h.1.2 (mO_ok es C tk h.2)
    | false =>
      have ih := fun h => mO_ok es (xs := xs) C tk h
      cases e with
      | vw i p =>
        unfold mO at h
        simp only [Bool.and_eq_true] at h
        cases p with
        | nil => exact .cons (mView_var C h.1.1) h.1.2 (ih h.2)
        | cons k p => exact .cons (mView_pe C h.1.1) h.1.2 (ih h.2)
      | _ => cases n
  | [], S, X, W, _ :: _, C, tk, h => by unfold mO at h; cases h
  | e :: _, S, X, W, [], C, tk, h => by cases e <;> (unfold mO at h; cases h)
theorem mL_ok : ∀ (es : List Ex) {S : Sc} {X : Cx} {W : WX} {xs : List PySem.Expr}, Ctx G Γ S X → Takes X W → mL S es xs = true → POs X G W xs (lops Γ es)
  | [], S, X, W, [], C, tk, h => .nil
  | e :: es, S, X, W, x :: xs, C, tk, h => by
    cases n : noVw e with
    | true =>
      rw [mL_e n] at h
      simp only [Bool.and_eq_true] at h
      rw [lops_e n]
      exact .cons (ev_ok e C tk h.1.1) h.1.2 (mL_ok es C tk h.2)
    | false =>
      have ih := fun h => mL_ok es (xs := xs) C tk h
      cases e with
      | vw i p =>
        unfold mL at h
        simp only [Bool.and_eq_true] at h
        exact .cons (mView_pe C h.1.1) h.1.2 (ih h.2)
      | _ => cases n
  | [], S, X, W, _ :: _, C, tk, h => by unfold mL at h; cases h
  | e :: _, S, X, W, [], C, tk, h => by cases e <;> (unfold mL at h; cases h)
end
end
end Vs
/-! V19: statements: the own syntax, its evaluator, when a text is an instance of it. -/
namespace Vs
open PySem PySem.Spec L2
open PyProof.Rows hiding St
inductive Sm where
  | asg (t : Tg) (e : Ex)
  | par (is : List Nat) (es : List Ex)
  | put (dk : Bool) (i : Nat) (path : List PK) (k e : Ex)
  | ex (e : Ex)
  | ite (c : Ex) (a b : List Sm)
  | whl (c : Ex) (b : List Sm)
  | lop (t : Tg) (k : ItK) (as : List Ex) (b : List Sm)
  | ret (e : Ex)
  | retN
  | pass
  | brk
  | cnt
  | frz (i : Nat)
  | bor (j i : Nat) (path : List PK) (b : List Sm)
inductive Out where
  | nx (ρ : Env)
  | br (ρ : Env)
  | ct (ρ : Env)
  | rt (d : D) (ρ : Env)
  | ex (x : Exc) (ρ : Env)
  | no
abbrev SF := Env → Out
def Out.seq : Out → SF → Out
  | .nx ρ, g => g ρ
  | o, _ => o
/-- the names put right at any end -/
def Out.back (f : Env → Option Env) : Out → Out
  | .nx ρ => match f ρ with | some ρ' => .nx ρ' | none => .no
  | .br ρ => match f ρ with | some ρ' => .br ρ' | none => .no
  | .ct ρ => match f ρ with | some ρ' => .ct ρ' | none => .no
  | .rt d ρ => match f ρ with | some ρ' => .rt d ρ' | none => .no
  | .ex x ρ => match f ρ with | some ρ' => .ex x ρ' | none => .no
  | .no => .no
def Res.out {α : Type} (r : Res α) (k : α → Out) : Out := match r with
  | .ok a => k a
  | .ex x ρ => .ex x ρ
  | .no => .no
def asgF (t : Tg) (f : EF) : SF := fun ρ => (f ρ).out fun q => match bindT [] t q.1 q.2 with
  | some ρ' => .nx ρ'
  | none => .no
def parF (is : List Nat) (ops : List Sop) : SF := fun ρ => (runO ops ρ).out fun q => match ods q.1 with
  | some ds => match setAll [] is ds q.2 with
    | some ρ' => .nx ρ'
    | none => .no
  | none => .no
def hasK (ks : List Key) (k : Key) : Bool := ks.any fun q => decide (q = k)
theorem hasK_iff {ks : List Key} {k : Key} : hasK ks k = true ↔ k ∈ ks := by
  unfold hasK
  simp
def dkPut (ks : List Key) (ds : List D) (k : Key) (d : D) : Option D := if ks.Nodup ∧ ks.length < 1000000 then (if hasK ks k = true then some (.dk ks (dkSet ks ds k d)) else some (.dk (ks ++ [k]) (ds ++ [d]))) else none
/-- a store in a dict of tuples -/
def ddPut : List PyData → List D → PyData → NestedKey → D → List PyData × List D
  | q :: ks, e :: ds, kk, k, d => if tkey q = some k then (q :: ks, d :: ds) else (q :: (ddPut ks ds kk k d).1, e :: (ddPut ks ds kk k d).2)
  | _, _, kk, _, d => ([kk], [d])
def ddStore (ks : List PyData) (ds : List D) (kk : PyData) (d : D) : Option D := match tkey kk with
  | some k => if ks.length < 1000000 then some (.dd (ddPut ks ds kk k d).1 (ddPut ks ds kk k d).2) else none
  | none => none
def putD : Bool → D → PyData → D → Option D
  | false, .ls ds, .int n, d => match ixN ds.length n with
    | some j => some (.ls (ds.set j d))
    | none => none
  | true, .dk ks ds, .str x, d => dkPut ks ds (.inr x) d
  | true, .dk ks ds, .int x, d => dkPut ks ds (.inl x) d
  | true, .dk [] [], .tuple l, d => ddStore [] [] (.tuple l) d
  | true, .dd ks ds, kk, d => ddStore ks ds kk d
  | _, _, _, _ => none
def putF (dk : Bool) (i : Nat) (path : List PK) (k f : EF) : SF := fun ρ => (f ρ).out fun q => match q.2[i]? with
  | some (some root) => match getP path root with
    | some c => match k (q.2.set i none) with
      | .ok (.sh kk, ρ2) => match putD dk c kk q.1 with
        | some c' => match ρ2[i]? with
          | some none => .nx (ρ2.set i (some (setP path root c')))
          | _ => .no
        | none => .no
      | _ => .no
    | none => .no
  | _ => .no
def exF (f : EF) : SF := fun ρ => (f ρ).out fun q => .nx q.2
def iteF (c : TF) (a b : SF) : SF := fun ρ => (c ρ).out fun q => if q.1 = true then a q.2 else b q.2
def fuel : Nat := 1000000000000
def whL (c : TF) (b : SF) : Nat → SF
  | 0, _ => .no
  | n + 1, ρ => (c ρ).out fun q => if q.1 = true then (match b q.2 with
      | .nx ρ2 => whL c b n ρ2
      | .ct ρ2 => whL c b n ρ2
      | .br ρ2 => .nx ρ2
      | o => o) else .nx q.2
def lopL (t : Tg) (b : SF) : List PyData → SF
  | [], ρ => .nx ρ
  | p :: ps, ρ => match bindT [] t (.sh p) ρ with
    | none => .no
    | some ρ1 => match b ρ1 with
      | .nx ρ2 => lopL t b ps ρ2
      | .ct ρ2 => lopL t b ps ρ2
      | .br ρ2 => .nx ρ2
      | o => o
def lopF (t : Tg) (k : ItK) (ops : List Sop) (b : SF) : SF := fun ρ => (runO ops ρ).out fun q => match ovs q.1 [] with
  | some ds => match itF k ds with
    | some ps => (lopL t b ps q.2).back (unlock q.1)
    | none => .no
  | none => .no
def retF (f : EF) : SF := fun ρ => (f ρ).out fun q => .rt q.1 q.2
def frzF (i : Nat) : SF := fun ρ => match ρ[i]? with
  | some (some d) => match d.fz with
    | some p => .nx (ρ.set i (some (.sh p)))
    | none => .no
  | _ => .no
/-- a name for a place within another name's tree, which stands aside meanwhile -/
def giveB (j i : Nat) (path : List PK) (root : D) : Env → Option Env := fun ρ => match ρ[j]?, ρ[i]? with
  | some (some d), some none => some ((ρ.set j none).set i (some (setP path root d)))
  | _, _ => none
def borF (j i : Nat) (path : List PK) (b : SF) : SF := fun ρ => match ρ[i]? with
  | some (some root) => match getP path root with
    | some d => if i ≠ j ∧ j < ρ.length then (b ((ρ.set i none).set j (some d))).back (giveB j i path root) else .no
    | none => .no
  | _ => .no
mutual
def go (Γ : Gam) : Sm → SF
  | .asg t e => asgF t (ev Γ e)
  | .par is es => parF is (sops Γ es)
  | .put dk i path k e => putF dk i path (ev Γ k) (ev Γ e)
  | .ex e => exF (ev Γ e)
  | .ite c a b => iteF (evT Γ c) (gos Γ a) (gos Γ b)
  | .whl c b => whL (evT Γ c) (gos Γ b) fuel
  | .lop t k as b => lopF t k (lops Γ as) (gos Γ b)
  | .ret e => retF (ev Γ e)
  | .retN => fun ρ => .rt (.sh .none) ρ
  | .pass => fun ρ => .nx ρ
  | .brk => fun ρ => .br ρ
  | .cnt => fun ρ => .ct ρ
  | .frz i => frzF i
  | .bor j i path b => borF j i path (gos Γ b)
def gos (Γ : Gam) : List Sm → SF
  | [] => fun ρ => .nx ρ
  | s :: r => fun ρ => (go Γ s ρ).seq (gos Γ r)
end
/-! ### when a text is an instance -/
def isComp : PySem.Expr → Bool
  | .ListComp _ _ _ _ => true
  | .SetComp _ _ _ _ => true
  | .DictComp _ _ _ _ _ => true
  | _ => false
def apart (sl pr : List Nat) : Bool := sl.all fun i => !pr.contains i
/-- one target, one value: no swapped stores -/
def plainTo (tg x : PySem.Expr) : Bool := match tg with
  | .Name _ _ => true
  | .Tuple ts _ _ => match x with
    | .Tuple vs _ _ => vs.all (foldedForSure 8) || (!(ts.length == 2) && !(ts.length == 3))
    | _ => true
  | _ => false
/-- some target is no plain local name: the stores are not swapped -/
def someCell (S : Sc) (tg x : PySem.Expr) : Bool := match tg with
  | .Tuple ts _ _ => (match x with
    | .Tuple _ _ _ => true
    | _ => false) && ts.any fun t => match t with
    | .Name y _ => S.sc.names.lookup y != some .local
    | _ => true
  | _ => false
/-- a comprehension stored right away under a local name of this line -/
def swapOk (S : Sc) (tg x : PySem.Expr) : Bool := match tg, x with
  | .Name y py, .ListComp _ _ scope pos => (match S.sc.kind with | .function => true | _ => false) && decide (S.sc.names.lookup y = some .local) && (py.line == pos.line) && !(scope.names.any fun (n, k) => n == y && (k == .local || k == .cell))
  | _, _ => false
def locB (S : Sc) (i : Nat) : PySem.Expr → Bool
  | .Name x _ => decide (S.N[i]? = some x) && decide (S.sc.names.lookup x = some .local)
  | _ => false
def nmOf : PySem.Expr → Str
  | .Name x _ => x
  | _ => Str.empty
def lineOf : PySem.Expr → Nat
  | .Name _ p => p.line
  | _ => 0
def parB (S : Sc) : List Nat → List PySem.Expr → List PySem.Expr → Bool
  | [i, j], [x, y], [a, b] => locB S i x && locB S j y && decide (i ≠ j) && (lineOf y == lineOf x) && (match S.sc.kind with | .function => true | _ => false) && notStar a && notStar b && !([a, b].all (foldedForSure 8)) && !([a, b].all (constantsAlone 8))
  | [i, j, l], [x, y, z], [a, b, c] => locB S i x && locB S j y && locB S l z && decide (i ≠ j) && decide (i ≠ l) && decide (j ≠ l) && (lineOf y == lineOf x) && (lineOf z == lineOf x) && (match S.sc.kind with | .function => true | _ => false) && notStar a && notStar b && notStar c && !([a, b, c].all (foldedForSure 8)) && !([a, b, c].all (constantsAlone 8))
  | _, _, _ => false
/-- the names that a loop's operands keep aside -/
def lockS : List Ex → List Nat
  | [] => []
  | .vw i _ :: r => i :: lockS r
  | _ :: r => lockS r
mutual
/-- how many statements of the text -/
def Sm.size : Sm → Nat
  | .frz _ => 0
  | .bor _ _ _ b => 1 + sizes b
  | _ => 1
def sizes : List Sm → Nat
  | [] => 0
  | s :: r => s.size + sizes r
end
mutual
def mS (S : Sc) (fn : Str → Bool) (pr : List Nat) (m : Sm) (st : Stmt) : Bool := match m with
  | .asg t e => match st with
    | .Assign [tg] x _ => mTg S fn t tg && apart t.sl pr && ((!isComp x && (plainTo tg x || someCell S tg x) && mE S e x) || (swapOk S tg x && mE S e x && (match e with | .lc _ _ _ _ _ _ => true | _ => false)))
    | _ => false
  | .par is es => match st with
    | .Assign [.Tuple ts _ _] (.Tuple xs _ _) _ => parB S is ts xs && apart is pr && mEs S es xs
    | _ => false
  | .put _ i path k e => match st with
    | .Assign [.Subscript o ix _] x _ => !isComp x && mPathR S i path.reverse o && notSlice ix && mE S k ix && mE S e x
    | _ => false
  | .ex e => match st with
    | .Expr x _ => !isComp x && mE S e x
    | _ => false
  | .ite c a b => match st with
    | .If x p q _ => mE S c x && mSs S fn pr a p && mSs S fn pr b q
    | _ => false
  | .whl c b => match st with
    | .While x p [] _ => mE S c x && mSs S fn pr b p
    | _ => false
  | .lop t k as b => match st with
    | .For tg it p [] _ => (match itArgs S k it with
      | some xs => mL S as xs
      | none => false) && (!itTup k || isTup tg) && mTg S fn t tg && apart t.sl (lockS as ++ pr) && mSs S fn (lockS as ++ pr) b p && notSet it
    | _ => false
  | .ret e => match st with
    | .Return (some x) _ => mE S e x
    | _ => false
  | .retN => match st with
    | .Return none _ => true
    | _ => false
  | .pass => match st with
    | .Pass _ => true
    | _ => false
  | .brk => match st with
    | .Break _ => true
    | _ => false
  | .cnt => match st with
    | .Continue _ => true
    | _ => false
  | .frz _ => false
  | .bor _ _ _ _ => false
def mSs (S : Sc) (fn : Str → Bool) (pr : List Nat) (ms : List Sm) (sts : List Stmt) : Bool := match ms with
  | [] => sts.isEmpty
  | .frz i :: r => mSs S fn pr r sts
  | .bor j i path b :: r => match sts with
    | .Assign [.Name y py] x _ :: rest => stB S fn j y && !pr.contains j && !isComp x && mPathR S i path.reverse x && mSs S fn (j :: i :: pr) b (rest.take (sizes b)) && mSs S fn pr r (rest.drop (sizes b))
    | _ => false
  | m :: r => match sts with
    | st :: rest => mS S fn pr m st && mSs S fn pr r rest
    | [] => false
end
end Vs
/-! V20: what a statement's outcome means; the small statements. -/
namespace Vs
open PySem PySem.Spec L2
open PyProof.Rows hiding St
/-- these slots' values stay -/
structure Prs (pr : List Nat) (σ σ' : L2.St) : Prop where
  len : σ'.length = σ.length
  eq : ∀ j ∈ pr, σ'[j]? = σ[j]?
theorem Prs.refl {pr : List Nat} {σ : L2.St} : Prs pr σ σ := ⟨rfl, fun _ _ => rfl⟩
theorem Prs.trans {pr : List Nat} {σ σ1 σ2 : L2.St} (a : Prs pr σ σ1) (b : Prs pr σ1 σ2) : Prs pr σ σ2 := ⟨b.len.trans a.len, fun j h => (b.eq j h).trans (a.eq j h)⟩
theorem Prs.less {pr pr' : List Nat} {σ σ1 : L2.St} (a : Prs pr σ σ1) (h : ∀ j ∈ pr', j ∈ pr) : Prs pr' σ σ1 := ⟨a.len, fun j q => a.eq j (h j q)⟩
def StR (G : Ga) (pr : List Nat) (O : List Addr) (σ : L2.St) (H : Hp) (ρ' : Env) (σ' : L2.St) (H' : Hp) : Prop := ∃ O', RepE G H' σ' ρ' O' ∧ O'.Nodup ∧ Go O H O' H' ∧ Prs pr σ σ'
def RtR (G : Ga) (pr : List Nat) (O : List Addr) (σ : L2.St) (H : Hp) (d : D) (ρ' : Env) (σ' : L2.St) (v : V) (H' : Hp) : Prop := ∃ O' T, RepE G H' σ' ρ' O' ∧ Rep G H' v d T ∧ (T ++ O').Nodup ∧ Go O H (T ++ O') H' ∧ Prs pr σ σ'
def XcR (G : Ga) (pr : List Nat) (O : List Addr) (σ : L2.St) (H : Hp) (x : Exc) (ρ' : Env) (cls : Value) (dd : Option Addr) (σ' : L2.St) (H' : Hp) : Prop := ∃ O', RepE G H' σ' ρ' O' ∧ O'.Nodup ∧ Go O H O' H' ∧ XR G H' cls dd x ∧ Prs pr σ σ'
def ContS (G : Ga) (W : WX) (pr : List Nat) (O : List Addr) (σ : L2.St) (H : Hp) (r : Out) (D : Ends) : Prop := match r with
  | .nx ρ' => ∀ σ' H', StR G pr O σ H ρ' σ' H' → D.nx σ' H'
  | .br ρ' => ∀ σ' H', StR G pr O σ H ρ' σ' H' → D.bk σ' H'
  | .ct ρ' => ∀ σ' H', StR G pr O σ H ρ' σ' H' → D.ct σ' H'
  | .rt d ρ' => ∀ σ' v H', RtR G pr O σ H d ρ' σ' v H' → D.rt v H'
  | .ex x ρ' => ∀ σ' cls dd H', XcR G pr O σ H x ρ' cls dd σ' H' → W cls dd σ' H'
  | .no => False
def tG (G : Ga) (W : WX) (pr : List Nat) (g : SF) : TS := fun D σ H => ∃ ρ O, RepE G H σ ρ O ∧ O.Nodup ∧ ContS G W pr O σ H (g ρ) D
section
variable {X : Cx} {G : Ga} {W : WX} {S : Sc} {Γ : Gam} {σ : L2.St} {H H' : Hp} {pr : List Nat}
theorem StR.more {O O1 : List Addr} {σ1 : L2.St} {H1 : Hp} {ρ' : Env} {σ' : L2.St} (go : Go O H O1 H1) (p : Prs pr σ σ1) (h : StR G pr O1 σ1 H1 ρ' σ' H') : StR G pr O σ H ρ' σ' H' := by
  obtain ⟨O', a, b, c, d⟩ := h
  exact ⟨O', a, b, go.trans c, p.trans d⟩
theorem ContS.more {O O1 : List Addr} {σ1 : L2.St} {H1 : Hp} {r : Out} {D : Ends} (go : Go O H O1 H1) (p : Prs pr σ σ1) (h : ContS G W pr O σ H r D) : ContS G W pr O1 σ1 H1 r D := by
  cases r with
  | no => exact h
  | nx ρ' => exact fun σ' H' z => h σ' H' (z.more go p)
  | br ρ' => exact fun σ' H' z => h σ' H' (z.more go p)
  | ct ρ' => exact fun σ' H' z => h σ' H' (z.more go p)
  | rt d ρ' => exact fun σ' v H' ⟨O', T, a, b, c, e, f⟩ => h σ' v H' ⟨O', T, a, b, c, go.trans e, p.trans f⟩
  | ex x ρ' => exact fun σ' cls dd H' ⟨O', a, b, c, e, f⟩ => h σ' cls dd H' ⟨O', a, b, go.trans c, e, p.trans f⟩
/-- another wish at the ends -/
theorem ContS.ends {O : List Addr} {r : Out} {D D' : Ends} (h : ContS G W pr O σ H r D) (h1 : ∀ ρ', r = .nx ρ' → ∀ σ' H', StR G pr O σ H ρ' σ' H' → D'.nx σ' H') (h2 : ∀ ρ', r = .br ρ' → ∀ σ' H', StR G pr O σ H ρ' σ' H' → D'.bk σ' H') (h3 : ∀ ρ', r = .ct ρ' → ∀ σ' H', StR G pr O σ H ρ' σ' H' → D'.ct σ' H')
    (h4 : ∀ v H', D.rt v H' → D'.rt v H') : ContS G W pr O σ H r D' := by
  cases r with
  | no => exact h
  | nx ρ' => exact h1 ρ' rfl
  | br ρ' => exact h2 ρ' rfl
  | ct ρ' => exact h3 ρ' rfl
  | rt d ρ' => exact fun σ' v H' z => h4 _ _ (h σ' v H' z)
  | ex x ρ' => exact h
theorem psImp {st : Stmt} {t t' : TS} (h : PS X st t) (i : ∀ D σ H, t' D σ H → t D σ H) : PS X st t' := ⟨fun pins s σ H D I q => h.run pins s σ H D I (i D σ H q)⟩
theorem pssImp {st : List Stmt} {t t' : TS} (h : PSs X st t) (i : ∀ D σ H, t' D σ H → t D σ H) : PSs X st t' := ⟨fun pins s σ H D I q => h.run pins s σ H D I (i D σ H q)⟩
/-- an expression ahead of a statement's end -/
theorem outE {f : EF} {k : Vs.D × Env → Out} {D : Ends} (h : tG G W pr (fun ρ => (f ρ).out k) D σ H) : tE G W f σ H fun v H1 => ∃ ρ1 d O1 T, RepE G H1 σ ρ1 O1 ∧ Rep G H1 v d T ∧ (T ++ O1).Nodup ∧ ContS G W pr (T ++ O1) σ H1 (k (d, ρ1)) D := by
  obtain ⟨ρ, O, a, b, h⟩ := h
  refine tE_iff.mpr ⟨ρ, O, a, b, ?_⟩
  cases ef : f ρ with
  | no => simp only [ef, Res.out] at h; exact h
  | ex x ρ' =>
    simp only [ef, Res.out] at h
    exact fun cls dd H' ⟨O', z1, z2, z3, z4⟩ => h σ cls dd H' ⟨O', z1, z2, z3, z4, .refl⟩
  | ok p =>
    obtain ⟨d, ρ1⟩ := p
    simp only [ef, Res.out] at h
    intro v H1 ⟨O1, T, rE, rv, nd, go⟩
    exact ⟨ρ1, d, O1, T, rE, rv, nd, h.more go .refl⟩
theorem outT {f : TF} {k : Bool × Env → Out} {D : Ends} (h : tG G W pr (fun ρ => (f ρ).out k) D σ H) : tT G W f σ H fun b H1 => ∃ ρ1 O1, RepE G H1 σ ρ1 O1 ∧ O1.Nodup ∧ ContS G W pr O1 σ H1 (k (b, ρ1)) D := by
  obtain ⟨ρ, O, a, b, h⟩ := h
  refine ⟨ρ, O, a, b, ?_⟩
  cases ef : f ρ with
  | no => simp only [ef, Res.out] at h; exact h
  | ex x ρ' =>
    simp only [ef, Res.out] at h
    exact fun cls dd H' ⟨O', z1, z2, z3, z4⟩ => h σ cls dd H' ⟨O', z1, z2, z3, z4, .refl⟩
  | ok p =>
    obtain ⟨c, ρ1⟩ := p
    simp only [ef, Res.out] at h
    intro H1 ⟨O1, rE, nd, go⟩
    exact ⟨ρ1, O1, rE, nd, h.more go .refl⟩
theorem outO {ops : List Sop} {k : List Ov × Env → Out} {D : Ends} (h : tG G W pr (fun ρ => (runO ops ρ).out k) D σ H) : tO G W ops σ H fun vs H1 => ∃ os ρ1 O1 T, RepE G H1 σ ρ1 O1 ∧ RepO G H1 σ vs os T ∧ (T ++ O1).Nodup ∧ ContS G W pr (T ++ O1) σ H1 (k (os, ρ1)) D := by
  obtain ⟨ρ, O, a, b, h⟩ := h
  refine run_ops ops ρ O a b ?_
  unfold OpsR
  cases ef : runO ops ρ with
  | no => simp only [ef, Res.out] at h; exact h
  | ex x ρ' =>
    simp only [ef, Res.out] at h
    exact fun cls dd H' ⟨O', z1, z2, z3, z4⟩ => h σ cls dd H' ⟨O', z1, z2, z3, z4, .refl⟩
  | ok p =>
    obtain ⟨os, ρ1⟩ := p
    simp only [ef, Res.out] at h
    intro vs H1 O1 T rE rO nd go
    exact ⟨os, ρ1, O1, T, rE, rO, nd, h.more go .refl⟩
theorem ContS.now {O : List Addr} {ρ : Env} {D : Ends} (h : ContS G W pr O σ H (.nx ρ) D) {σ' : L2.St} {O' : List Addr} (rE : RepE G H σ' ρ O') (nd : O'.Nodup) (s : ∀ a ∈ O', a ∈ O) (p : Prs pr σ σ') : D.nx σ' H :=
  h σ' H ⟨O', rE, nd, ⟨fun _ _ e _ => e, fun a q => .inl (s a q)⟩, p⟩
theorem seq_logic {f g : SF} {D : Ends} (h : tG G W pr (fun ρ => (f ρ).seq g) D σ H) : tSeq (tG G W pr f) (tG G W pr g) D σ H := by
  obtain ⟨ρ, O, a, b, h⟩ := h
  refine ⟨ρ, O, a, b, ?_⟩
  cases ef : f ρ with
  | nx ρ1 =>
    simp only [ef, Out.seq] at h
    exact fun σ1 H1 ⟨O1, z1, z2, z3, z4⟩ => ⟨ρ1, O1, z1, z2, h.more z3 z4⟩
  | br ρ1 => simp only [ef, Out.seq] at h; exact h
  | ct ρ1 => simp only [ef, Out.seq] at h; exact h
  | rt d ρ1 => simp only [ef, Out.seq] at h; exact h
  | ex x ρ1 => simp only [ef, Out.seq] at h; exact h
  | no => simp only [ef, Out.seq] at h; exact h
/-! ### an assignment -/
theorem Dif.prs {sl pr0 : List Nat} {σ' : L2.St} (d : Dif sl pr0 σ σ') (h : apart sl pr = true) : Prs pr σ σ' := ⟨d.len, fun j q => d.out j fun z => by
  have := List.all_eq_true.mp h j z
  simp at this
  exact this q⟩
theorem asg_logic {t : Tg} {f : EF} {D : Ends} (hp : apart t.sl pr = true) (h : tG G W pr (asgF t f) D σ H) : tAsg (tE G W f) (gT G.K t) D σ H := by
  refine tE_mono (outE h) fun v H1 ⟨ρ1, d, O1, T, rE, rv, nd, c⟩ => ?_
  simp only at c
  cases e : bindT [] t d ρ1 with
  | none => simp only [e] at c; exact c.elim
  | some ρ2 =>
    simp only [e] at c
    exact bind_logic rE rv nd e fun σ' O' r n s dif => c.now r n s (dif.prs hp)
theorem swap_no {x : PySem.Expr} {t : Option PySem.Expr} {l : Nat} {env : PySem.Env} (h : isComp x = false) : swapsWith x t l env = pure false := by
  cases x <;> first | rfl | cases h
theorem fm_short {α β : Type} {g : α → Option β} : ∀ {l : List α}, (∃ t ∈ l, g t = none) → (l.filterMap g).length < l.length
  | [], h => by obtain ⟨_, h, _⟩ := h; cases h
  | a :: l, h => by
    obtain ⟨t, m, e⟩ := h
    have le := List.length_filterMap_le g l
    rw [List.filterMap_cons]
    cases ea : g a with
    | none => simp only [List.length_cons]; omega
    | some b =>
      rcases List.mem_cons.mp m with rfl | m
      · rw [e] at ea; cases ea
      · have := fm_short (g := g) ⟨t, m, e⟩
        simp only [List.length_cons]; omega
theorem ne_len {α β : Type} {g : α → Option β} {l : List α} (h : ∃ t ∈ l, g t = none) : ((l.filterMap g).length != l.length) = true := by
  have := fm_short h
  rw [bne_iff_ne]
  omega
theorem stores_cell {S : Sc} {tg x : PySem.Expr} {env : PySem.Env} (hs : env.scope = S.sc) (h : someCell S tg x = true) : swappedStores [tg] x env = pure none ∧ (assignEach [tg] env).map (·.2) = [assign tg env] := by
  unfold someCell at h
  split at h
  · rename_i ts k p
    refine ⟨?_, rfl⟩
    rw [Bool.and_eq_true] at h
    obtain ⟨h0, h⟩ := h
    split at h0
    · rename_i vs k2 p2
      obtain ⟨t, m, q⟩ := List.any_eq_true.mp h
      unfold swappedStores
      simp only [pure_bind]
      split
      · rfl
      · split
        · rfl
        · rw [if_pos]
          rw [Bool.or_eq_true]
          left
          refine ne_len ⟨t, m, ?_⟩
          split
          · rename_i id pos
            rw [if_neg]
            have q : (S.sc.names.lookup id != some .local) = true := q
            have kk : env.kindOf id = S.sc.names.lookup id := by rw [← hs]; rfl
            rw [kk]
            intro z
            rw [Bool.and_eq_true] at z
            rw [bne, z.1] at q
            cases q
          · rfl
    · cases h0
  · cases h
theorem stores_no {tg x : PySem.Expr} {env : PySem.Env} (h : plainTo tg x = true) : swappedStores [tg] x env = pure none ∧ (assignEach [tg] env).map (·.2) = [assign tg env] := by
  unfold plainTo at h
  split at h
  · exact ⟨rfl, rfl⟩
  · rename_i ts k p
    refine ⟨?_, rfl⟩
    split at h
    · rename_i vs k2 p2
      rw [Bool.or_eq_true] at h
      unfold swappedStores
      simp only [pure_bind]
      split
      · rfl
      · rename_i h1
        split
        · rfl
        · split
          · rfl
          · rcases h with h | h
            · rw [if_pos h]
            · exfalso
              rw [Bool.and_eq_true] at h
              apply h1
              have : (ts.length == 2) = false ∧ (ts.length == 3) = false := by simpa using h
              rw [this.1, this.2]; rfl
    · cases x <;> first | rfl | (exfalso; rename_i hx; exact hx _ _ _ rfl)
  · cases h
end
end Vs
/-! V21: pairs of names stored at once; a place stored. -/
namespace Vs
open PySem PySem.Spec L2
open PyProof.Rows hiding St
section
variable {X : Cx} {G : Ga} {W : WX} {S : Sc} {Γ : Gam} {σ : L2.St} {H H' : Hp} {pr : List Nat}
theorem kind_fn {S : Sc} (C : Ctx G Γ S X) (h : (match S.sc.kind with | .function => true | _ => false) = true) : X.env.scope.kind = .function := by
  rw [C.sc]
  split at h
  · assumption
  · cases h
theorem blockK {env : PySem.Env} (h : env.scope.kind = .function) : (env.blockKind != .function) = false := by
  unfold Env.blockKind; rw [h]; rfl
theorem locB_is (C : Ctx G Γ S X) {i : Nat} {e : PySem.Expr} (h : locB S i e = true) : ∃ x p, e = .Name x p ∧ X.N[i]? = some x ∧ X.env.scope.names.lookup x = some .local := by
  unfold locB at h
  split at h
  · rw [Bool.and_eq_true, decide_eq_true_eq, decide_eq_true_eq] at h
    exact ⟨_, _, rfl, by rw [C.hN]; exact h.1, by rw [C.sc]; exact h.2⟩
  · cases h
theorem ne_of_ix {N : List Str} {i j : Nat} {x y : Str} (nd : N.Nodup) (hi : N[i]? = some x) (hj : N[j]? = some y) (h : i ≠ j) : x ≠ y := by
  intro e
  subst e
  obtain ⟨h1, e1⟩ := List.getElem?_eq_some_iff.mp hi
  obtain ⟨h2, e2⟩ := List.getElem?_eq_some_iff.mp hj
  rcases Nat.lt_or_gt_of_ne h with z | z
  · exact List.pairwise_iff_getElem.mp nd i j h1 h2 z (e1.trans e2.symm)
  · exact List.pairwise_iff_getElem.mp nd j i h2 h1 z (e2.trans e1.symm)
def starB : PySem.Expr → Bool
  | .Starred _ _ => true
  | _ => false
theorem star_no {a : PySem.Expr} (h : notStar a = true) : starB a = false := by
  cases a <;> first | rfl | cases h
theorem fm2 {x y : Str} {a b : PySem.Expr} (g : PySem.Expr → Option Str) (h1 : g a = some x) (h2 : g b = some y) : [a, b].filterMap g = [x, y] := by simp [h1, h2]
theorem fm3 {x y z : Str} {a b c : PySem.Expr} (g : PySem.Expr → Option Str) (h1 : g a = some x) (h2 : g b = some y) (h3 : g c = some z) : [a, b, c].filterMap g = [x, y, z] := by simp [h1, h2, h3]
theorem par2_sw {x y : Str} {px py pt pt2 : Pos} {kt k2 : Nat} {a b : PySem.Expr} {env : PySem.Env} (hk : env.scope.kind = .function) (hx : env.scope.names.lookup x = some .local) (hy : env.scope.names.lookup y = some .local) (hl : (py.line == px.line) = true) (hne : x ≠ y)
    (na : notStar a = true) (nb : notStar b = true) (ff : [a, b].all (foldedForSure 8) = false) (ca : [a, b].all (constantsAlone 8) = false) :
    swappedStores [.Tuple [.Name x px, .Name y py] kt pt] (.Tuple [a, b] k2 pt2) env = pure (some [x, y]) := by
  have kx : env.kindOf x = some .local := hx
  have ky : env.kindOf y = some .local := hy
  have hd : ([x, y].eraseDups.length != [x, y].length) = false := by
    rw [List.eraseDups_cons]
    simp [List.eraseDups_cons, Ne.symm hne, hne]
  have hl' : (px.line == px.line) = true := by simp
  unfold swappedStores
  simp only [pure_bind]
  rw [if_neg (by simp [blockK hk]), if_neg (by
    have h1 := star_no na
    have h2 := star_no nb
    show ¬ ([a, b].any starB = true)
    simp [h1, h2])]
  show (if _ then _ else _) = _
  have hp : ((List.head? [PySem.Expr.Name x px, .Name y py]).map (·.pos.line)).getD 0 = px.line := rfl
  rw [hp]
  rw [fm2 (x := x) (y := y) _ (by simp [kx, hl']) (by simp [ky, hl])]
  rw [if_neg (by rw [hd]; simp), if_neg (by rw [ff]; simp), if_neg (by rw [ca]; simp)]
theorem par3_sw {x y z : Str} {px py pz pt pt2 : Pos} {kt k2 : Nat} {a b c : PySem.Expr} {env : PySem.Env} (hk : env.scope.kind = .function) (hx : env.scope.names.lookup x = some .local) (hy : env.scope.names.lookup y = some .local) (hz : env.scope.names.lookup z = some .local) (hl : (py.line == px.line) = true) (hl2 : (pz.line == px.line) = true) (hne : x ≠ y) (hxz : x ≠ z) (hyz : y ≠ z)
    (na : notStar a = true) (nb : notStar b = true) (nc : notStar c = true) (ff : [a, b, c].all (foldedForSure 8) = false) (ca : [a, b, c].all (constantsAlone 8) = false) :
    swappedStores [.Tuple [.Name x px, .Name y py, .Name z pz] kt pt] (.Tuple [a, b, c] k2 pt2) env = pure (some [x, y, z]) := by
  have kx : env.kindOf x = some .local := hx
  have ky : env.kindOf y = some .local := hy
  have kz : env.kindOf z = some .local := hz
  have hd : ([x, y, z].eraseDups.length != [x, y, z].length) = false := by
    simp [List.eraseDups_cons, Ne.symm hne, hne, hxz, hyz, Ne.symm hxz, Ne.symm hyz]
  have hl' : (px.line == px.line) = true := by simp
  unfold swappedStores
  simp only [pure_bind]
  rw [if_neg (by simp [blockK hk]), if_neg (by
    have h1 := star_no na
    have h2 := star_no nb
    have h3 := star_no nc
    show ¬ ([a, b, c].any starB = true)
    simp [h1, h2, h3])]
  show (if _ then _ else _) = _
  have hp : ((List.head? [PySem.Expr.Name x px, .Name y py, .Name z pz]).map (·.pos.line)).getD 0 = px.line := rfl
  rw [hp]
  rw [fm3 (x := x) (y := y) (z := z) _ (by simp [kx, hl']) (by simp [ky, hl]) (by simp [kz, hl2])]
  rw [if_neg (by rw [hd]; simp), if_neg (by rw [ff]; simp), if_neg (by rw [ca]; simp)]
theorem par_logic {is : List Nat} {ops : List Sop} {D : Ends} (hp : apart is pr = true) (h : tG G W pr (parF is ops) D σ H) : tO G W ops σ H fun vs H1 => vs.length = is.length ∧ gNames is vs σ H1 D.nx := by
  refine tO_mono (outO h) fun vs H1 ⟨os, ρ1, O1, T, rE, rO, nd, c⟩ => ?_
  simp only at c
  cases e : ods os with
  | none => simp only [e] at c; exact c.elim
  | some ds =>
    simp only [e] at c
    cases e2 : setAll [] is ds ρ1 with
    | none => simp only [e2] at c; exact c.elim
    | some ρ2 =>
      simp only [e2] at c
      exact setAll_logic rE (ods_ok rO e) nd e2 fun σ' O' r n s dif => c.now r n s (dif.prs hp)
theorem par_ok (C : Ctx G Γ S X) {is : List Nat} {ts xs : List PySem.Expr} {ops : List Sop} {k k2 : Nat} {p p2 pos : Pos} (h : parB S is ts xs = true) (hp : apart is pr = true) (ps : POs X G W xs ops) : PS X (.Assign [.Tuple ts k p] (.Tuple xs k2 p2) pos) (tG G W pr (parF is ops)) := by
  have hN : X.N.Nodup := by rw [C.hN]; exact C.nd
  unfold parB at h
  split at h
  · simp only [Bool.and_eq_true, decide_eq_true_eq, Bool.not_eq_true'] at h
    obtain ⟨⟨⟨⟨⟨⟨⟨⟨h1, h2⟩, h3⟩, h4⟩, h5⟩, h6⟩, h7⟩, h8⟩, h9⟩ := h
    obtain ⟨x, px, rfl, a1, a2⟩ := locB_is C h1
    obtain ⟨y, py, rfl, b1, b2⟩ := locB_is C h2
    refine psImp (ps_par C.calm hN a1 b1 h3 a2 b2 ps.pa (par2_sw (kind_fn C h5) a2 b2 h4 (ne_of_ix hN a1 b1 h3) h6 h7 h8 h9)) fun D σ H z => ?_
    refine tO_mono (par_logic hp z) fun vs H1 ⟨l, g⟩ => ?_
    obtain ⟨v, r, rfl, w, r2, rfl, e, g⟩ := g
    subst e
    exact ⟨v, w, rfl, g⟩
  · simp only [Bool.and_eq_true, decide_eq_true_eq, Bool.not_eq_true'] at h
    obtain ⟨⟨⟨⟨⟨⟨⟨⟨⟨⟨⟨⟨⟨h1, h2⟩, hz⟩, h3⟩, h3b⟩, h3c⟩, h4⟩, h4b⟩, h5⟩, h6⟩, h7⟩, h7b⟩, h8⟩, h9⟩ := h
    obtain ⟨x, px, rfl, a1, a2⟩ := locB_is C h1
    obtain ⟨y, py, rfl, b1, b2⟩ := locB_is C h2
    obtain ⟨z, pz, rfl, c1, c2⟩ := locB_is C hz
    refine psImp (ps_par3 C.calm hN a1 b1 c1 h3 h3b h3c a2 b2 c2 ps.pa (par3_sw (kind_fn C h5) a2 b2 c2 h4 h4b (ne_of_ix hN a1 b1 h3) (ne_of_ix hN a1 c1 h3b) (ne_of_ix hN b1 c1 h3c) h6 h7 h7b h8 h9)) fun D σ H z => ?_
    refine tO_mono (par_logic hp z) fun vs H1 ⟨l, g⟩ => ?_
    obtain ⟨v, r, rfl, w, r2, rfl, u, r3, rfl, e, g⟩ := g
    subst e
    exact ⟨v, w, u, rfl, g⟩
  · cases h
end
end Vs
/-! V22: loops; freezing; a name for a place. -/
namespace Vs
open PySem PySem.Spec L2
open PyProof.Rows hiding St
section
variable {X : Cx} {G : Ga} {W : WX} {S : Sc} {Γ : Gam} {σ : L2.St} {H H' : Hp} {pr : List Nat}
theorem ite_logic {c : TF} {a b : SF} {D : Ends} (h : tG G W pr (iteF c a b) D σ H) : tIfS (tT G W c) (tG G W pr a) (tG G W pr b) D σ H := by
  refine tT_mono (outT h) fun t H1 ⟨ρ1, O1, rE, nd, k⟩ => ?_
  cases t with
  | true => exact ⟨ρ1, O1, rE, nd, k⟩
  | false => exact ⟨ρ1, O1, rE, nd, k⟩
theorem ret_logic {f : EF} {D : Ends} (h : tG G W pr (retF f) D σ H) : tRet (tE G W f) D σ H :=
  tE_mono (outE h) fun v H1 ⟨ρ1, d, O1, T, rE, rv, nd, k⟩ => k σ v H1 ⟨O1, T, rE, rv, nd, Go.refl, .refl⟩
theorem ex_logic {f : EF} {D : Ends} (h : tG G W pr (exF f) D σ H) : tDrop (tE G W f) D σ H :=
  tE_mono (outE h) fun v H1 ⟨ρ1, d, O1, T, rE, rv, nd, k⟩ => k.now rE (nd_app.mp nd).2.1 (fun a q => List.mem_append_right _ q) .refl
theorem whl_logic {c : TF} {b : SF} {n : Nat} {D : Ends} (h : tG G W pr (whL c b n) D σ H) : tWhile (tT G W c) (tG G W pr b) D σ H := by
  refine ⟨fun m σ H => tG G W pr (whL c b m) D σ H, ⟨n, h⟩, fun m σ1 H1 w => ?_⟩
  cases m with
  | zero => obtain ⟨_, _, _, _, z⟩ := w; exact z.elim
  | succ m =>
    have w : tG G W pr (fun ρ => (c ρ).out fun q => if q.1 = true then (match b q.2 with
      | .nx ρ2 => whL c b m ρ2
      | .ct ρ2 => whL c b m ρ2
      | .br ρ2 => .nx ρ2
      | o => o) else .nx q.2) D σ1 H1 := w
    refine tT_mono (outT w) fun t H2 ⟨ρ1, O1, rE, nd, k⟩ => ?_
    cases t with
    | false => exact k.now rE nd (fun a q => q) .refl
    | true =>
      rw [if_pos rfl]
      refine ⟨fun σ' H' => tG G W pr (whL c b m) D σ' H', fun σ' H' z => ⟨m, Nat.lt_succ_self m, z⟩, ρ1, O1, rE, nd, ?_⟩
      simp only [if_pos] at k
      cases eb : b ρ1 with
      | no => simp only [eb] at k; exact k
      | nx ρ2 => simp only [eb] at k; exact fun σ' H' ⟨O', z1, z2, z3, z4⟩ => ⟨ρ2, O', z1, z2, k.more z3 z4⟩
      | ct ρ2 => simp only [eb] at k; exact fun σ' H' ⟨O', z1, z2, z3, z4⟩ => ⟨ρ2, O', z1, z2, k.more z3 z4⟩
      | br ρ2 => simp only [eb] at k; exact k
      | rt d ρ2 => simp only [eb] at k; exact k
      | ex x ρ2 => simp only [eb] at k; exact k
/-! ### for -/
def lockO : List Ov → List Nat
  | [] => []
  | .p i _ _ :: r => i :: lockO r
  | _ :: r => lockO r
theorem RepO.st {σ' : L2.St} : ∀ {os : List Ov} {vs : List V} {T : List Addr} {ds : List D}, RepO G H σ vs os T → ovs os [] = some ds → (∀ i ∈ lockO os, σ'[i]? = σ[i]?) → RepO G H σ' vs os T
  | _, _, _, _, .nil, _, _ => .nil
  | _, _, _, _, .d (os := os) r hs, e, n => by
    unfold ovs at e
    cases e2 : ovs os [] with
    | none => rw [e2] at e; cases e
    | some l => exact .d r (RepO.st hs e2 n)
  | _, _, _, _, .v q hs, e, n => by
    unfold ovs at e
    split at e
    · rename_i e1 _; simp at e1
    · cases e
  | _, _, _, _, .p (os := os) q r va g hs, e, n => by
    unfold ovs at e
    split at e
    · rename_i e2
      exact .p (by rw [n _ List.mem_cons_self]; exact q) r va g (RepO.st hs e2 fun i h => n i (List.mem_cons_of_mem _ h))
    · cases e
theorem Out.back_nx {f : Env → Option Env} {r : Out} {O : List Addr} {D : Ends} (h : ContS G W pr O σ H (r.back f) D) {ρ : Env} (e : r = .nx ρ) : ∃ ρ', f ρ = some ρ' ∧ ContS G W pr O σ H (.nx ρ') D := by
  subst e
  cases e : f ρ with
  | none => simp only [Out.back, e] at h; exact h.elim
  | some ρ' => simp only [Out.back, e] at h; exact ⟨ρ', rfl, h⟩
/-- behind a block with something set aside (T0 behind it, made whole by f) -/
theorem back_logic {f : Env → Option Env} {r : Out} {T O1 Ob : List Addr} {σ1 : L2.St} {H1 : Hp} {pr' : List Nat} {D : Ends} (h : ContS G W pr (T ++ O1) σ1 H1 (r.back f) D) (hp : ∀ j ∈ pr, j ∈ pr') (ndT : T.Nodup) (disj : ∀ a ∈ T, a ∉ O1) (mT : MutA H1 T) (mO : MutA H1 O1)
    (wh : ∀ {ρ ρ' : Env} {σ' : L2.St} {H' : Hp} {O' A : List Addr}, f ρ = some ρ' → RepE G H' σ' ρ O' → Frm O1 H1 H' → Prs pr' σ1 σ' → O'.Nodup → (∀ a ∈ T, a ∉ O') → ∃ O2, RepE G H' σ' ρ' O2 ∧ O2.Nodup ∧ ∀ a ∈ O2, a ∈ T ++ O') :
    ContS G W pr' O1 σ1 H1 r { D with bk := D.bk, ct := D.ct } := by
  have key : ∀ {ρ ρ' : Env} {σ' : L2.St} {H' : Hp} {O' : List Addr}, f ρ = some ρ' → RepE G H' σ' ρ O' → O'.Nodup → Go O1 H1 O' H' → Prs pr' σ1 σ' → StR G pr (T ++ O1) σ1 H1 ρ' σ' H' := fun {ρ ρ' σ' H' O'} e rE nd go p => by
    have kp := go.keep (T := T) fun a q => ⟨disj a q, mT.some a q⟩
    obtain ⟨O2, a, b, c⟩ := wh (A := []) e rE go.frm p nd kp
    exact ⟨O2, a, b, (go.held (T := T)).less fun x q => c x q, p.less hp⟩
  cases r with
  | no => exact h
  | nx ρ =>
    cases e : f ρ with
    | none => simp only [Out.back, e] at h; exact h.elim
    | some ρ' => simp only [Out.back, e] at h; exact fun σ' H' ⟨O', z1, z2, z3, z4⟩ => h σ' H' (key e z1 z2 z3 z4)
  | br ρ =>
    cases e : f ρ with
    | none => simp only [Out.back, e] at h; exact h.elim
    | some ρ' => simp only [Out.back, e] at h; exact fun σ' H' ⟨O', z1, z2, z3, z4⟩ => h σ' H' (key e z1 z2 z3 z4)
  | ct ρ =>
    cases e : f ρ with
    | none => simp only [Out.back, e] at h; exact h.elim
    | some ρ' => simp only [Out.back, e] at h; exact fun σ' H' ⟨O', z1, z2, z3, z4⟩ => h σ' H' (key e z1 z2 z3 z4)
  | rt d ρ =>
    cases e : f ρ with
    | none => simp only [Out.back, e] at h; exact h.elim
    | some ρ' =>
      simp only [Out.back, e] at h
      intro σ' v H' ⟨O', Tv, z1, z2, z3, z4, z5⟩
      have kp := z4.keep (T := T) fun a q => ⟨disj a q, mT.some a q⟩
      have nd3 := nd_app.mp z3
      obtain ⟨O2, a, b, c⟩ := wh (A := Tv) e z1 z4.frm z5 nd3.2.1 fun a q z => kp a q (List.mem_append_right _ z)
      refine h σ' v H' ⟨O2, Tv, a, z2, nd_app.mpr ⟨nd3.1, b, fun x hx z => ?_⟩, (z4.held (T := T)).less fun x q => ?_, z5.less hp⟩
      · rcases List.mem_append.mp (c x z) with y | y
        · exact kp x y (List.mem_append_left _ hx)
        · exact nd3.2.2 x hx y
      · rcases List.mem_append.mp q with q | q
        · exact List.mem_append_right _ (List.mem_append_left _ q)
        · rcases List.mem_append.mp (c x q) with y | y
          · exact List.mem_append_left _ y
          · exact List.mem_append_right _ (List.mem_append_right _ y)
  | ex x ρ =>
    cases e : f ρ with
    | none => simp only [Out.back, e] at h; exact h.elim
    | some ρ' =>
      simp only [Out.back, e] at h
      intro σ' cls dd H' ⟨O', z1, z2, z3, z4, z5⟩
      obtain ⟨O2, a, b, c, d⟩ := key e z1 z2 z3 z5
      exact h σ' cls dd H' ⟨O2, a, b, c, z4, d⟩
theorem lop_in {t : Tg} {b : SF} {ps : List PyData} {vs : List V} {ds : List D} {os : List Ov} {T O1 : List Addr} {σ1 : L2.St} {H1 : Hp} {pr' : List Nat} {D : Ends} {J : It} {ρ : Env}
    (w : Walk J ps.length (fun H => RVs G H vs ds) (YD G ps)) (eo : ovs os [] = some ds) (ht : apart t.sl pr' = true) (rE : RepE G H1 σ1 ρ O1) (nd : O1.Nodup) (rO : RepO G H1 σ1 vs os T) (dj : ∀ a ∈ T, a ∉ O1) (lk : ∀ i ∈ lockO os, i ∈ pr')
    (h : ContS G W pr' O1 σ1 H1 (lopL t b ps ρ) D) :
    ∃ W' : Nat → Nat → L2.St → Hp → Prop, (∃ m, W' 0 m σ1 H1) ∧ ∀ i m σ H, W' i m σ H →
      (J.stop i H ∧ D.nx σ H) ∨ (J.go i H ∧ ∃ N : L2.St → Hp → Prop, (∀ σ' H', N σ' H' → ∃ m', m' < m ∧ W' (i + 1) m' σ' H') ∧ ∀ x H', J.yld i H x H' → gT G.K t x σ H' fun σ2 H2 => tG G W pr' b { D with nx := N, ct := N, bk := D.nx } σ2 H2) := by
  refine for_it w (fun i σ H => ∃ ρ' O', RepE G H σ ρ' O' ∧ O'.Nodup ∧ Go O1 H1 O' H ∧ Prs pr' σ1 σ ∧ ContS G W pr' O' σ H (lopL t b (ps.drop i) ρ') D) ⟨ρ, O1, rE, nd, Go.refl, .refl, by simpa using h⟩ ?_ ?_ ?_
  · rintro i σ H hi ⟨ρ', O', r, n, g, p, k⟩
    exact ovl_ok ((rO.fr g.frm rE.mut dj).st (σ' := σ) eo fun i q => p.eq i (lk i q)) eo
  · rintro i x σ H H' hi ⟨ρ', O', r, n, g, p, k⟩ ⟨fr, q, eq, dp⟩
    have ed : ps.drop i = q :: ps.drop (i + 1) := by
      rw [List.getElem?_eq_getElem hi] at eq; cases eq
      exact List.drop_eq_getElem_cons hi
    rw [ed] at k
    unfold lopL at k
    cases e4 : bindT [] t (.sh q) ρ' with
    | none => simp only [e4] at k; exact k.elim
    | some ρ1 =>
      simp only [e4] at k
      have r' := r.fr (S := []) fr mut_nil fun _ _ z => nomatch z
      refine bind_logic r' (.sh dp) (by simpa using n) e4 fun σ2 O7 rE7 nd7 sub7 dif => ⟨ρ1, O7, rE7, nd7, ?_⟩
      have g7 : Go O' H O7 H' := ⟨fun a o e _ => fr a o e (fun z => nomatch z), fun a q => .inl (by simpa using sub7 a q)⟩
      have k := k.more g7 (dif.prs ht)
      cases eb : b ρ1 with
      | no => simp only [eb] at k; exact k
      | nx ρ2 => simp only [eb] at k; exact fun σ' H' ⟨O8, z1, z2, z3, z4⟩ => ⟨ρ2, O8, z1, z2, g.trans (g7.trans z3), p.trans ((dif.prs ht).trans z4), k.more z3 z4⟩
      | ct ρ2 => simp only [eb] at k; exact fun σ' H' ⟨O8, z1, z2, z3, z4⟩ => ⟨ρ2, O8, z1, z2, g.trans (g7.trans z3), p.trans ((dif.prs ht).trans z4), k.more z3 z4⟩
      | br ρ2 => simp only [eb] at k; exact k
      | rt d ρ2 => simp only [eb] at k; exact k
      | ex x ρ2 => simp only [eb] at k; exact k
  · rintro σ H ⟨ρ', O', r, n, g, p, k⟩
    rw [List.drop_length] at k
    exact ContS.now k r n (fun a q => q) .refl
theorem lock_of {os : List Ov} {ρ ρ' : Env} : ∀ {as : List Ex}, runO (lops Γ as) ρ = .ok (os, ρ') → lockO os = lockS as := by
  intro as
  induction as generalizing os ρ ρ' with
  | nil => intro h; simp [lops, runO] at h; obtain ⟨rfl, _⟩ := h; rfl
  | cons e as ih =>
    intro h
    have gen : noVw e = true → lockO os = lockS (e :: as) := fun n => by
      rw [lops_e n] at h
      unfold runO at h
      have hl : lockS (e :: as) = lockS as := by cases e <;> first | rfl | cases n
      rw [hl]
      cases e1 : ev Γ e ρ with
      | no => simp only [e1, Res.bind] at h; cases h
      | ex x ρ1 => simp only [e1, Res.bind] at h; cases h
      | ok p =>
        simp only [e1, Res.bind] at h
        cases e2 : runO (lops Γ as) p.2 with
        | no => simp only [e2] at h; cases h
        | ex x ρ1 => simp only [e2] at h; cases h
        | ok q =>
          simp only [e2] at h
          cases h
          exact (show lockO (_ :: q.1) = lockO q.1 from rfl).trans (ih e2)
    cases n : noVw e with
    | true => exact gen n
    | false =>
      cases e with
      | vw i p =>
        simp only [lops, runO] at h
        cases e1 : ρ[i]? with
        | none => simp only [e1] at h; cases h
        | some o =>
        cases o with
        | none => simp only [e1] at h; cases h
        | some d =>
        simp only [e1] at h
        cases e3 : getP p d with
        | none => simp only [e3] at h; cases h
        | some y =>
        simp only [e3] at h
        cases e2 : runO (lops Γ as) (ρ.set i none) with
        | no => simp only [e2, Res.bind] at h; cases h
        | ex x ρ1 => simp only [e2, Res.bind] at h; cases h
        | ok q =>
          simp only [e2, Res.bind] at h
          cases h
          show i :: lockO q.1 = i :: lockS as
          rw [ih e2]
      | _ => cases n
theorem lop_logic {t : Tg} {k : ItK} {as : List Ex} {b : SF} {D : Ends} (ht : apart t.sl (lockS as ++ pr) = true) (h : tG G W pr (lopF t k (lops Γ as) b) D σ H) : tFor (tI G W k (lops Γ as)) (gT G.K t) (tG G W (lockS as ++ pr) b) D σ H := by
  obtain ⟨ρ0, O0, rE0, nd0, h⟩ := h
  unfold tFor tI
  refine run_ops _ ρ0 O0 rE0 nd0 ?_
  unfold OpsR
  unfold lopF at h
  cases er : runO (lops Γ as) ρ0 with
  | no => simp only [er, Res.out] at h; exact h
  | ex x ρ' =>
    simp only [er, Res.out] at h
    exact fun cls dd H' ⟨O', z1, z2, z3, z4⟩ => h σ cls dd H' ⟨O', z1, z2, z3, z4, .refl⟩
  | ok q =>
  obtain ⟨os, ρ1⟩ := q
  simp only [er, Res.out] at h
  intro vs H1 O1 T rE rO nd go
  have h := ContS.more go .refl h
  cases e1 : ovs os [] with
  | none => simp only [e1] at h; exact h.elim
  | some ds =>
  simp only [e1] at h
  cases e2 : itF k ds with
  | none => simp only [e2] at h; exact h.elim
  | some ps =>
  simp only [e2] at h
  refine ⟨ds, ps, ovl_ok rO e1, e2, fun J w => ?_⟩
  have nd' := nd_app.mp nd
  have lk := lock_of (Γ := Γ) er
  refine lop_in (pr' := lockS as ++ pr) w e1 ht rE nd'.2.1 rO nd'.2.2 (fun i q => List.mem_append_left _ (lk ▸ q)) ?_
  refine back_logic (T := T) (O1 := O1) (Ob := []) h (fun j q => List.mem_append_right _ q) nd'.1 nd'.2.2 rO.mut rE.mut fun {ρ ρ' σ' H' O' A} e r f p n d => ?_
  have rO' := (rO.fr f rE.mut nd'.2.2).st (σ' := σ') e1 fun i q => p.eq i (List.mem_append_left _ (lk ▸ q))
  exact unlock_ok rO' r (nd_app.mpr ⟨nd'.1, n, d⟩) e
end
end Vs
/-! V23: freezing a name's list; a place stored; a name for a place. -/
namespace Vs
open PySem PySem.Spec L2
open PyProof.Rows hiding St
section
variable {X : Cx} {G : Ga} {W : WX} {S : Sc} {Γ : Gam} {σ : L2.St} {H H' : Hp} {pr : List Nat}
theorem frz_ok {sts : List Stmt} {i : Nat} {g : SF} {u : TS} (h : PSs X sts (tSeq (tG G W pr g) u)) : PSs X sts (tSeq (tG G W pr fun ρ => (frzF i ρ).seq g) u) := ⟨fun pins s σ H D I ⟨ρ, O, rE, nd, c⟩ => by
  unfold frzF at c
  cases e1 : ρ[i]? with
  | none => simp only [e1, Out.seq] at c; exact c.elim
  | some o =>
  cases o with
  | none => simp only [e1, Out.seq] at c; exact c.elim
  | some d =>
  simp only [e1] at c
  cases e2 : d.fz with
  | none => simp only [e2, Out.seq] at c; exact c.elim
  | some p =>
  simp only [e2, Out.seq] at c
  obtain ⟨v, T, O2, hv, rv, pm, rE2⟩ := rE.out e1
  have nd' := nd_app.mp (pm.nodup nd)
  obtain ⟨H2, I2, k1, k2⟩ := freeze_all T I nd'.1 (rv.lsts e2)
  have f : Frm T H H2 := fun a o e n => by rw [k1 a n]; exact e
  have rE3 := rE2.fr f rv.mut fun a q z => nd'.2.2 a z q
  have hi : i < ρ.length := (List.getElem?_eq_some_iff.mp e1).1
  obtain ⟨O3, pm3, rE4⟩ := rE3.put (by rw [List.getElem?_set_self hi]) hv (Rep.sh (rv.frozen f rv.mut k2 e2 fun a q => q))
  rw [List.set_set] at rE4
  refine h.run pins s σ H2 D I2 ⟨_, O3, rE4, pm3.nodup_iff.mpr (by simpa using nd'.2.1), c.more ⟨fun a o e n => f a o e fun q => n (pm.mem_iff.mpr (List.mem_append_left _ q)), fun a q => .inl (pm.mem_iff.mpr (List.mem_append_right _ (by simpa using pm3.mem_iff.mp q)))⟩ .refl⟩⟩
/-! ### a place stored -/
theorem Reps.setV : ∀ {us : List V} {es : List D} {T T1 : List Addr} {j : Nat} {v : V} {d : D}, Reps G H us es T → Rep G H v d T1 → j < es.length → ∃ R, R.Sublist T ∧ ∃ T', Reps G H (us.set j v) (es.set j d) T' ∧ T'.Perm (T1 ++ R)
  | _, _, _, _, j, _, _, .nil, _, hj => by simp at hj
  | _, _, _, T1, 0, v, d, .cons (O := O) (O' := O') h hs, r, hj => ⟨O', List.sublist_append_right _ _, T1 ++ O', .cons r hs, .refl _⟩
  | _, _, _, T1, j + 1, v, d, .cons (O := O) (O' := O') h hs, r, hj => by
    obtain ⟨R, sb, T', a, b⟩ := Reps.setV (j := j) hs r (by simpa using hj)
    refine ⟨O ++ R, .append (.refl _) sb, O ++ T', .cons h a, ?_⟩
    exact (List.Perm.append_left O b).trans (by rw [← List.append_assoc, ← List.append_assoc]; exact List.Perm.append_right R List.perm_append_comm)
theorem dk_put : ∀ {kvs : List (Key × V)} {es : List D} {T T1 : List Addr} {k : Key} {v : V} {d : D}, Reps G H (kvs.map (·.2)) es T → Rep G H v d T1 → (kvs.map (·.1)).Nodup → k ∈ kvs.map (·.1) →
    ∃ R, R.Sublist T ∧ ∃ T', Reps G H ((kvs.map fun kv => if kv.1 = k then (kv.1, v) else kv).map (·.2)) (dkSet (kvs.map (·.1)) es k d) T' ∧ T'.Perm (T1 ++ R)
  | [], es, T, T1, k, v, d, h, r, nd, e => by simp at e
  | (q, u) :: kvs, es, T, T1, k, v, d, hh, r, nd, e => by
   cases hh with
   | @cons _ _ d0 ds O O' h hs =>
    have nd' := List.nodup_cons.mp (show (q :: kvs.map (·.1)).Nodup from nd)
    by_cases hk : q = k
    · subst hk
      have same : (kvs.map fun kv : Key × V => if kv.1 = q then (kv.1, v) else kv) = kvs := by
        rw [List.map_congr_left (g := id) fun kv hkv => ?_]
        · simp
        · rw [if_neg (fun z => nd'.1 (List.mem_map.mpr ⟨kv, hkv, z⟩))]; rfl
      refine ⟨O', List.sublist_append_right _ _, T1 ++ O', ?_, .refl _⟩
      simp only [List.map_cons, dkSet, if_pos]
      rw [same]
      exact .cons r hs
    · have e' : k ∈ kvs.map (·.1) := by
        rcases List.mem_cons.mp e with z | z
        · exact absurd z.symm hk
        · exact z
      obtain ⟨R, sb, T', a, b⟩ := dk_put hs r nd'.2 e'
      refine ⟨O ++ R, .append (.refl _) sb, O ++ T', ?_, ?_⟩
      · simp only [List.map_cons, dkSet, if_neg hk]
        exact .cons h a
      · exact (List.Perm.append_left O b).trans (by rw [← List.append_assoc, ← List.append_assoc]; exact List.Perm.append_right R List.perm_append_comm)
/-- behind a store in a dict -/
theorem dkPut_step {u v : V} {k : Key} {ks : List Key} {ds : List D} {c' d : D} {Tc Td : List Addr} {Q : Hp → Prop} (rc : Rep G H u (.dk ks ds) Tc) (rd : Rep G H v d Td) (nd : (Tc ++ Td).Nodup) (e : dkPut ks ds k d = some c')
    (h : ∀ H3 T3 l, l ∈ Tc → Frm [l] H H3 → Rep G H3 u c' T3 → T3.Nodup → (∀ a ∈ T3, a ∈ Tc ++ Td) → Q H3) : rSetD u (kV k) v H Q := by
  have nd' := nd_app.mp nd
  unfold dkPut at e
  split at e
  · rename_i hn
    cases rc with
    | @dk a kvs _ T ha hs =>
      have na := List.nodup_cons.mp nd'.1
      have hl : kvs.length < sizeLine := by
        have := hn.2
        rw [List.length_map] at this
        rw [sizeLine_eq]; omega
      refine ⟨a, _, rfl, DPut.k ha hl, ?_⟩
      have f : Frm [a] H (upd H a (.dK (putK kvs k v))) := fun b o q z => by rw [upd_ne (fun y : b = a => z (by rw [y]; simp))]; exact q
      have m : MutA H [a] := fun b q => by rw [List.mem_singleton] at q; subst q; rw [ha]; trivial
      have d1 : ∀ b ∈ T, b ∉ [a] := fun b q z => by rw [List.mem_singleton] at z; exact na.1 (z ▸ q)
      have d2 : ∀ b ∈ Td, b ∉ [a] := fun b q z => by rw [List.mem_singleton] at z; exact nd'.2.2 a List.mem_cons_self (z ▸ q)
      have hs' := hs.fr f m d1
      have rd' := rd.fr f m d2
      have fin : ∀ (T' R : List Addr), R.Sublist T → T'.Perm (Td ++ R) → (a :: T').Nodup ∧ ∀ b ∈ a :: T', b ∈ (a :: T) ++ Td := fun T' R sb pm => by
        refine ⟨List.nodup_cons.mpr ⟨fun z => ?_, pm.nodup_iff.mpr (nd_app.mpr ⟨nd'.2.1, sb.nodup na.2, fun b q z => nd'.2.2 b (List.mem_cons_of_mem _ (sb.subset z)) q⟩)⟩, fun b q => ?_⟩
        · rcases List.mem_append.mp (pm.mem_iff.mp z) with y | y
          · exact nd'.2.2 a List.mem_cons_self y
          · exact na.1 (sb.subset y)
        · rcases List.mem_cons.mp q with rfl | q
          · exact List.mem_append_left _ List.mem_cons_self
          · rcases List.mem_append.mp (pm.mem_iff.mp q) with y | y
            · exact List.mem_append_right _ y
            · exact List.mem_append_left _ (List.mem_cons_of_mem _ (sb.subset y))
      by_cases hk : k ∈ kvs.map (·.1)
      · rw [if_pos (hasK_iff.mpr hk)] at e
        cases e
        have hany : (kvs.any fun kv => decide (kv.1 = k)) = true := by
          obtain ⟨p, hp, e⟩ := List.mem_map.mp hk
          exact List.any_eq_true.mpr ⟨p, hp, by simpa using e⟩
        have ep : putK kvs k v = kvs.map fun kv => if kv.1 = k then (kv.1, v) else kv := by unfold putK; rw [if_pos hany]
        obtain ⟨R, sb, T', r', pm⟩ := dk_put hs' rd' hn.1 hk
        obtain ⟨g1, g2⟩ := fin T' R sb pm
        refine h _ (a :: T') a List.mem_cons_self f ?_ g1 g2
        have em : (putK kvs k v).map (·.1) = kvs.map (·.1) := by
          rw [ep, List.map_map]
          refine List.map_congr_left fun kv _ => ?_
          show (if kv.1 = k then (kv.1, v) else kv).1 = kv.1
          split <;> rfl
        rw [← em]
        refine .dk upd_same ?_
        rw [ep]
        rw [← em, ep] at r'
        exact r'
      · rw [if_neg (fun z => hk (hasK_iff.mp z))] at e
        cases e
        have hany : ¬ (kvs.any fun kv => decide (kv.1 = k)) = true := fun z => by
          obtain ⟨p, hp, e⟩ := List.any_eq_true.mp z
          exact hk (List.mem_map.mpr ⟨p, hp, by simpa using e⟩)
        have ep : putK kvs k v = kvs ++ [(k, v)] := by unfold putK; rw [if_neg hany]
        have r' := hs'.app (.cons rd' .nil)
        rw [List.append_nil] at r'
        obtain ⟨g1, g2⟩ := fin (T ++ Td) T (.refl _) List.perm_append_comm
        refine h _ (a :: (T ++ Td)) a List.mem_cons_self f ?_ g1 g2
        have em : kvs.map (·.1) ++ [k] = (putK kvs k v).map (·.1) := by rw [ep]; simp
        rw [em]
        refine .dk upd_same ?_
        rw [ep] at r' ⊢
        simpa using r'
  · cases e
theorem ddStore_some {ks : List PyData} {ds : List D} {kk : PyData} {d c' : D} (e : ddStore ks ds kk d = some c') : ∃ k, tkey kk = some k ∧ ks.length < 1000000 ∧ c' = .dd (ddPut ks ds kk k d).1 (ddPut ks ds kk k d).2 := by
  unfold ddStore at e
  split at e
  · rename_i k ek
    split at e
    · cases e
      exact ⟨k, ek, by assumption, rfl⟩
    · cases e
  · cases e
theorem ddP_rep {H : Hp} {b : Addr} {v : V} {kk : PyData} {k : NestedKey} {d : D} {Td : List Addr} (hb : DpF G.K H (.ref b) kk) (ek : tkey kk = some k) (rd : Rep G H v d Td) : ∀ {kvs : KAV} {ks : List PyData} {ds : List D} {T : List Addr},
    DpFs G.K H (kvs.map fun x => .ref x.2.1) ks → ks.map tkey = kvs.map (fun x => some x.1) → Reps G H (kvs.map (·.2.2)) ds T → (T ++ Td).Nodup →
    ∃ T', DpFs G.K H ((ddP kvs k b v).map fun x => .ref x.2.1) (ddPut ks ds kk k d).1 ∧ (ddPut ks ds kk k d).1.map tkey = (ddP kvs k b v).map (fun x => some x.1) ∧ Reps G H ((ddP kvs k b v).map (·.2.2)) (ddPut ks ds kk k d).2 T' ∧ T'.Nodup ∧ ∀ a ∈ T', a ∈ T ++ Td
  | [], ks, ds, T, hk, e, hs, nd => by
    have : ks = [] := by simpa using e
    subst this
    cases hs
    refine ⟨Td ++ [], .cons hb .nil, by simp [ddPut, ddP, ek], .cons rd .nil, by simpa using nd, fun a q => by simpa using q⟩
  | x :: kvs, [], ds, T, hk, e, hs, nd => by simp at e
  | x :: kvs, q :: ks, ds0, T, hk, e, hs, nd => by
    simp only [List.map_cons, List.cons.injEq] at e
    rw [List.map_cons] at hk hs
    cases hk with
    | cons hk hks =>
    cases hs with
    | @cons _ _ e0 ds O O' h hs =>
    unfold ddPut ddP
    rw [e.1]
    rw [List.append_assoc] at nd
    have nd' := nd_app.mp nd
    have nd2 := nd_app.mp nd'.2.1
    by_cases z : x.1 = k
    · rw [if_pos z, if_pos (show some x.1 = some k by rw [z])]
      refine ⟨Td ++ O', .cons hk hks, by simp [e.1, e.2], .cons rd hs, nd_app.mpr ⟨nd2.2.1, nd2.1, fun a p y => nd2.2.2 a y p⟩, fun a p => ?_⟩
      simp only [List.mem_append] at p ⊢
      exact p.elim (fun y => .inr y) fun y => .inl (.inr y)
    · rw [if_neg z, if_neg (show ¬ some x.1 = some k from fun y => z (Option.some.inj y))]
      obtain ⟨T', a1, a2, a3, a4, a5⟩ := ddP_rep hb ek rd hks e.2 hs nd'.2.1
      refine ⟨O ++ T', .cons hk a1, by simp [e.1, a2], .cons h a3, nd_app.mpr ⟨nd'.1, a4, fun a p y => nd'.2.2 a p (a5 a y)⟩, fun a p => ?_⟩
      rw [List.append_assoc]
      rcases List.mem_append.mp p with y | y
      · exact List.mem_append_left _ y
      · exact List.mem_append_right _ (a5 a y)
/-- behind a store in a dict of tuples -/
theorem dd_step (hG : G.K = X.K) (hw : G.w = X.w) {u kv v : V} {ks : List PyData} {ds : List D} {kk : PyData} {k : NestedKey} {c' d : D} {Tc Td : List Addr} {Q : Hp → Prop} (rc : Rep G H u (.dd ks ds) Tc ∨ Rep G H u (.dk [] []) Tc ∧ ks = [] ∧ ds = []) (rd : Rep G H v d Td) (rk : DpF G.K H kv kk) (nd : (Tc ++ Td).Nodup)
    (ek : tkey kk = some k) (z : ks.length < 1000000 ∧ c' = .dd (ddPut ks ds kk k d).1 (ddPut ks ds kk k d).2) (h : ∀ H3 T3 l, l ∈ Tc → Frm [l] H H3 → Rep G H3 u c' T3 → T3.Nodup → (∀ a ∈ T3, a ∈ Tc ++ Td) → Q H3) : rSetDD X u kv v H Q := by
  obtain ⟨b, rfl⟩ := tkey_ref rk ek
  obtain ⟨hl, rfl⟩ := z
  have nd' := nd_app.mp nd
  obtain ⟨a, kvs, T, rfl, rfl, hd, mu, hk, em, hs⟩ : ∃ a kvs T, u = .ref a ∧ Tc = a :: T ∧ DDat X H a kvs ∧ Mut (H a) ∧ DpFs G.K H (kvs.map fun x => .ref x.2.1) ks ∧ ks.map tkey = kvs.map (fun x => some x.1) ∧ Reps G H (kvs.map (·.2.2)) ds T := by
    rcases rc with rc | ⟨rc, rfl, rfl⟩
    · cases rc with
      | @dd a kvs _ _ O ha hk em hs => exact ⟨a, kvs, O, rfl, rfl, .of (hw ▸ ha) (hG ▸ hk) em, by rw [ha]; trivial, hk, em, hs⟩
    · generalize e0 : (D.dk [] []) = dd at rc
      cases rc with
      | @dk a kvs ds O ha hs =>
        injection e0 with e1 e2
        have : kvs = [] := by simpa using e1.symm
        subst this
        subst e2
        cases hs
        exact ⟨a, [], [], rfl, rfl, .emp ha, by rw [ha]; trivial, .nil, rfl, .nil⟩
      | sh _ => cases e0
      | tp _ _ => cases e0
      | ls _ _ => cases e0
      | dd _ _ _ _ => cases e0
      | ob _ _ _ => cases e0
      | fn _ => cases e0
  have na := List.nodup_cons.mp nd'.1
  have hlen : kvs.length = ks.length := by have := congrArg List.length em; simpa using this.symm
  refine ⟨a, b, kvs, k, kk, rfl, rfl, hd, hG ▸ rk, ek, by rw [sizeLine_eq]; omega, ?_⟩
  have f : Frm [a] H (upd H a (dtO X.w a (ddP kvs k b v))) := fun c o q z => by rw [upd_ne (fun y : c = a => z (by rw [y]; simp))]; exact q
  have m : MutA H [a] := fun c q => by rw [List.mem_singleton] at q; subst q; exact mu
  have d1 : ∀ c ∈ T, c ∉ [a] := fun c q z => by rw [List.mem_singleton] at z; exact na.1 (z ▸ q)
  have d2 : ∀ c ∈ Td, c ∉ [a] := fun c q z => by rw [List.mem_singleton] at z; exact nd'.2.2 a List.mem_cons_self (z ▸ q)
  obtain ⟨T', a1, a2, a3, a4, a5⟩ := ddP_rep (DpF.fr rk f m) ek (rd.fr f m d2) (DpFs.fr hk f m) em (hs.fr f m d1) (nd_app.mpr ⟨na.2, nd'.2.1, fun c q y => nd'.2.2 c (List.mem_cons_of_mem _ q) y⟩)
  refine h _ (a :: T') a List.mem_cons_self f (.dd (by rw [hw]; exact upd_same) a1 a2 a3) (List.nodup_cons.mpr ⟨fun q => ?_, a4⟩) fun c q => ?_
  · rcases List.mem_append.mp (a5 a q) with y | y
    · exact na.1 y
    · exact nd'.2.2 a List.mem_cons_self y
  · rcases List.mem_cons.mp q with rfl | q
    · exact List.mem_append_left _ List.mem_cons_self
    · exact List.mem_append.mpr ((List.mem_append.mp (a5 c q)).imp (fun y => List.mem_cons_of_mem _ y) id)
def tPut (X : Cx) (dk : Bool) : TSet := if dk = true then (fun o i v H Q => rSetD o i v H Q ∨ rSetDD X o i v H Q) else rSetL
/-- what is stored in a container -/
theorem put_step (hG : G.K = X.K) (hw : G.w = X.w) {dk : Bool} {u kv v : V} {c c' d : D} {kk : PyData} {Tc Td : List Addr} {Q : Hp → Prop} (rc : Rep G H u c Tc) (rd : Rep G H v d Td) (rk : DpF G.K H kv kk) (nd : (Tc ++ Td).Nodup) (e : putD dk c kk d = some c')
    (h : ∀ H3 T3 l, l ∈ Tc → Frm [l] H H3 → Rep G H3 u c' T3 → T3.Nodup → (∀ a ∈ T3, a ∈ Tc ++ Td) → Q H3) : tPut X dk u kv v H Q := by
  have nd' := nd_app.mp nd
  unfold putD at e
  split at e
  · rename_i ds n
    cases rc with
    | @ls a xs _ T ha hs =>
      cases rk
      cases ej : ixN ds.length n with
      | none => rw [ej] at e; cases e
      | some j =>
        rw [ej] at e; cases e
        have hj := (ixN_seq ej).2.1
        refine ⟨a, xs, n, j, rfl, rfl, ha, by rw [hs.len]; exact ej, ?_⟩
        have f : Frm [a] H (upd H a (.lst (xs.set j v))) := fun b o q z => by rw [upd_ne (fun y : b = a => z (by rw [y]; simp))]; exact q
        have m : MutA H [a] := fun b q => by rw [List.mem_singleton] at q; subst q; rw [ha]; trivial
        have na := List.nodup_cons.mp nd'.1
        have d1 : ∀ b ∈ T, b ∉ [a] := fun b q z => by rw [List.mem_singleton] at z; exact na.1 (z ▸ q)
        have d2 : ∀ b ∈ Td, b ∉ [a] := fun b q z => by rw [List.mem_singleton] at z; exact nd'.2.2 a List.mem_cons_self (z ▸ q)
        obtain ⟨R, sb, T', r', pm⟩ := (hs.fr f m d1).setV (rd.fr f m d2) hj
        refine h _ (a :: T') a List.mem_cons_self f (.ls upd_same r') ?_ fun b q => ?_
        · refine List.nodup_cons.mpr ⟨fun z => ?_, pm.nodup_iff.mpr (nd_app.mpr ⟨nd'.2.1, sb.nodup na.2, fun b q z => nd'.2.2 b (List.mem_cons_of_mem _ (sb.subset z)) q⟩)⟩
          rcases List.mem_append.mp (pm.mem_iff.mp z) with y | y
          · exact nd'.2.2 a List.mem_cons_self y
          · exact na.1 (sb.subset y)
        · rcases List.mem_cons.mp q with rfl | q
          · exact List.mem_append_left _ List.mem_cons_self
          · rcases List.mem_append.mp (pm.mem_iff.mp q) with y | y
            · exact List.mem_append_right _ y
            · exact List.mem_append_left _ (List.mem_cons_of_mem _ (sb.subset y))
  · rename_i ks ds x
    cases rk
    exact .inl (dkPut_step (k := .inr x) rc rd nd e h)
  · rename_i ks ds x
    cases rk
    exact .inl (dkPut_step (k := .inl x) rc rd nd e h)
  · rename_i l
    obtain ⟨k, q, z⟩ := ddStore_some e
    exact .inr (dd_step hG hw (.inr ⟨rc, rfl, rfl⟩) rd rk nd q z h)
  · rename_i ks ds kk
    obtain ⟨k, q, z⟩ := ddStore_some e
    exact .inr (dd_step hG hw (.inl rc) rd rk nd q z h)
  · cases e
theorem put_logic (hG : G.K = X.K) (hw : G.w = X.w) {dk : Bool} {i : Nat} {path : List PK} {k f : EF} {D : Ends} (h : tG G W pr (putF dk i path k f) D σ H) : tAsg (tE G W f) (gSub (tPath i path) (tE G W0 k) (tPut X dk)) D σ H := by
  refine tE_mono (outE h) fun v H1 ⟨ρ1, d, O1, Td, rE, rv, nd, c⟩ => ?_
  simp only at c
  cases e0 : ρ1[i]? with
  | none => simp only [e0] at c; exact c.elim
  | some o =>
  cases o with
  | none => simp only [e0] at c; exact c.elim
  | some root =>
  simp only [e0] at c
  cases eg : getP path root with
  | none => simp only [eg] at c; exact c.elim
  | some y =>
  simp only [eg] at c
  obtain ⟨v0, O2, O3, hσ, rr, pm, rE'⟩ := rE.out e0
  have nd' := nd_app.mp nd
  have nO := nd_app.mp (pm.nodup nd'.2.1)
  obtain ⟨u, _, va, _, _⟩ := rr.place eg
  refine ⟨v0, u, hσ, va, tE_iff.mpr ⟨ρ1.set i none, O3, rE', nO.2.1, ?_⟩⟩
  cases ek : k (ρ1.set i none) with
  | no => simp only [ek] at c; exact c.elim
  | ex x ρ' => simp only [ek] at c; exact c.elim
  | ok q =>
  obtain ⟨dk', ρ2⟩ := q
  cases dk' with
  | sh kk =>
    simp only [ek] at c
    intro kv H2 ⟨O4, Tk, rE4, rk, nd4, go4⟩
    cases rk with
    | sh rk =>
    cases ep : putD dk y kk d with
    | none => simp only [ep] at c; exact c.elim
    | some c' =>
    simp only [ep] at c
    cases e2 : ρ2[i]? with
    | none => simp only [e2] at c; exact c.elim
    | some o =>
    cases o with
    | some _ => simp only [e2] at c; exact c.elim
    | none =>
    simp only [e2] at c
    have m3 : MutA H1 O3 := rE'.mut
    have dT : ∀ a ∈ Td, a ∉ O3 := fun a q z => nd'.2.2 a q (pm.mem_iff.mpr (List.mem_append_right _ z))
    have dR : ∀ a ∈ O2, a ∉ O3 := nO.2.2
    have rd2 := rv.fr go4.frm m3 dT
    have rr2 := rr.fr go4.frm m3 dR
    have va2 := va.fr rr eg go4.frm m3 dR
    have kp := go4.keep (T := Td ++ O2) fun a q => ⟨fun z => (List.mem_append.mp q).elim (fun y => dT a y z) fun y => dR a y z, (MutA.app rv.mut rr.mut).some a q⟩
    simp only [List.nil_append] at kp nd4
    obtain ⟨u', T, R, b1, b2, b3, b4⟩ := rr2.focusG eg nO.1
    cases va2.inj b1
    have nTR := nd_app.mp (b3.nodup nO.1)
    have ndTd : (T ++ Td).Nodup := nd_app.mpr ⟨nTR.1, nd'.1, fun a q z => nd'.2.2 a z (pm.mem_iff.mpr (List.mem_append_left _ (b3.mem_iff.mpr (List.mem_append_left _ q))))⟩
    refine put_step hG hw b2 rd2 rk ndTd ep fun H3 T3 l hl f r3 n3 s3 => ?_
    have ml : MutA H2 [l] := fun a q => by rw [List.mem_singleton] at q; subst q; exact b2.mut _ hl
    have lR : ∀ a ∈ [l], a ∉ R := fun a q => by rw [List.mem_singleton] at q; subst q; exact nTR.2.2 _ hl
    obtain ⟨T0', r4, pm4⟩ := b4 f ml lR r3
    have lO2 : l ∈ O2 := b3.mem_iff.mpr (List.mem_append_left _ hl)
    have rE5 := rE4.fr f ml fun a q z => by
      rw [List.mem_singleton] at z; subst z
      exact kp a (List.mem_append_right _ lO2) q
    obtain ⟨O5, pm5, rE6⟩ := rE5.put e2 hσ r4
    have inOld : ∀ a ∈ T0', a ∈ Td ++ O2 := fun a q => by
      rcases List.mem_append.mp (pm4.mem_iff.mp q) with y | y
      · rcases List.mem_append.mp (s3 a y) with y | y
        · exact List.mem_append_right _ (b3.mem_iff.mpr (List.mem_append_left _ y))
        · exact List.mem_append_left _ y
      · exact List.mem_append_right _ (b3.mem_iff.mpr (List.mem_append_right _ y))
    have nT0 : T0'.Nodup := pm4.nodup_iff.mpr (nd_app.mpr ⟨n3, nTR.2.1, fun a q z => by
      rcases List.mem_append.mp (s3 a q) with y | y
      · exact nTR.2.2 a y z
      · exact nd'.2.2 a y (pm.mem_iff.mpr (List.mem_append_left _ (b3.mem_iff.mpr (List.mem_append_right _ z))))⟩)
    refine c σ H3 ⟨O5, rE6, pm5.nodup_iff.mpr (nd_app.mpr ⟨nT0, nd4, fun a q => kp a (inOld a q)⟩), ?_, .refl⟩
    refine ⟨fun a o e n => ?_, fun a q => ?_⟩
    · have h1 : a ∉ O3 := fun z => n (List.mem_append_right _ (pm.mem_iff.mpr (List.mem_append_right _ z)))
      refine f a o (go4.frm a o e h1) fun z => ?_
      rw [List.mem_singleton] at z; subst z
      exact n (List.mem_append_right _ (pm.mem_iff.mpr (List.mem_append_left _ lO2)))
    · rcases List.mem_append.mp (pm5.mem_iff.mp q) with y | y
      · rcases List.mem_append.mp (inOld a y) with z | z
        · exact .inl (List.mem_append_left _ z)
        · exact .inl (List.mem_append_right _ (pm.mem_iff.mpr (List.mem_append_left _ z)))
      · exact (go4.sub a (List.mem_append_right _ y)).imp (fun z => List.mem_append_right _ (pm.mem_iff.mpr (List.mem_append_right _ z))) id
  | tp _ => simp only [ek] at c; exact c.elim
  | ls _ => simp only [ek] at c; exact c.elim
  | dk _ _ => simp only [ek] at c; exact c.elim
  | dd _ _ => simp only [ek] at c; exact c.elim
  | ob _ _ _ => simp only [ek] at c; exact c.elim
  | fn _ => simp only [ek] at c; exact c.elim
/-! ### a name for a place -/
theorem bor_logic {j i : Nat} {path : List PK} {b g : SF} {D : Ends} (hj : j ∉ pr) (h : tG G W pr (fun ρ => (borF j i path b ρ).seq g) D σ H) :
    tAsg (tPath i path) (gName j) { D with nx := fun σ1 H1 => tSeq (tG G W (j :: i :: pr) b) (tG G W pr g) D σ1 H1 } σ H := by
  obtain ⟨ρ, O, rE, nd, c⟩ := h
  unfold borF at c
  cases e0 : ρ[i]? with
  | none => simp only [e0, Out.seq] at c; exact c.elim
  | some o =>
  cases o with
  | none => simp only [e0, Out.seq] at c; exact c.elim
  | some root =>
  simp only [e0] at c
  cases eg : getP path root with
  | none => simp only [eg, Out.seq] at c; exact c.elim
  | some d =>
  simp only [eg] at c
  by_cases hc : i ≠ j ∧ j < ρ.length
  · rw [if_pos hc] at c
    obtain ⟨v0, T0, O2, hσ, rr, pm, rE'⟩ := rE.out e0
    have nO := nd_app.mp (pm.nodup nd)
    obtain ⟨u, T, R, va, ru, pT, put⟩ := rr.focusG eg nO.1
    have nTR := nd_app.mp (pT.nodup nO.1)
    refine ⟨v0, u, hσ, va, ?_⟩
    -- the place has the name j now
    have hj' : j < (ρ.set i none).length := by simpa using hc.2
    have ndT : (T ++ O2).Nodup := nd_app.mpr ⟨nTR.1, nO.2.1, fun a q z => nO.2.2 a (pT.mem_iff.mpr (List.mem_append_left _ q)) z⟩
    obtain ⟨O1, rE1, nd1, s1⟩ := rE'.setv ru ndT hj'
    have hσ1 : (σ.set j (some u))[i]? = some (some v0) := by rw [List.getElem?_set_ne (Ne.symm hc.1)]; exact hσ
    have hjl : j < σ.length := by rw [← rE.len]; exact hc.2
    have hσj : (σ.set j (some u))[j]? = some (some u) := by simp [hjl]
    have p01 : Prs pr σ (σ.set j (some u)) := ⟨by simp, fun k q => by rw [List.getElem?_set_ne]; rintro rfl; exact hj q⟩
    have dR : ∀ a ∈ R, a ∉ O1 := fun a q z => by
      rcases List.mem_append.mp (s1 a z) with y | y
      · exact nTR.2.2 a y q
      · exact nO.2.2 a (pT.mem_iff.mpr (List.mem_append_right _ q)) y
    have inO : ∀ a ∈ R ++ O1, a ∈ O := fun a q => by
      rcases List.mem_append.mp q with q | q
      · exact pm.mem_iff.mpr (List.mem_append_left _ (pT.mem_iff.mpr (List.mem_append_right _ q)))
      · rcases List.mem_append.mp (s1 a q) with y | y
        · exact pm.mem_iff.mpr (List.mem_append_left _ (pT.mem_iff.mpr (List.mem_append_left _ y)))
        · exact pm.mem_iff.mpr (List.mem_append_right _ y)
    have go0 : Go O H (R ++ O1) H := ⟨fun _ _ e _ => e, fun a q => .inl (inO a q)⟩
    -- given back at any end
    have back : ∀ {D' : Ends} (r : Out), ContS G W pr (R ++ O1) (σ.set j (some u)) H (r.back (giveB j i path root)) D' → ContS G W (j :: i :: pr) O1 (σ.set j (some u)) H r D' := fun {D'} r k => by
      refine back_logic (T := R) (O1 := O1) (Ob := []) k (fun x q => List.mem_cons_of_mem _ (List.mem_cons_of_mem _ q)) nTR.2.1 dR (rr.mut.sub fun a q => pT.mem_iff.mpr (List.mem_append_right _ q)) rE1.mut fun {ρ5 ρ6 σ5 H5 O5 A} e r5 f5 p5 n5 d5 => ?_
      unfold giveB at e
      split at e
      · rename_i d' e1 e2
        cases e
        obtain ⟨u', Td, O6, k1, k2, k3, k4⟩ := r5.out e1
        rw [p5.eq j List.mem_cons_self, hσj] at k1; cases k1
        have n6 := nd_app.mp (k3.nodup n5)
        -- the root is whole again
        have fA : ∃ A : List Addr, Frm A H H5 ∧ MutA H A ∧ ∀ a ∈ A, a ∉ R := ⟨O1, f5, rE1.mut, fun a q z => dR a z q⟩
        obtain ⟨A, f1, f2, f3⟩ := fA
        obtain ⟨T0', q1, q2⟩ := put f1 f2 f3 k2
        have ei : (ρ5.set j none)[i]? = some none := by rw [List.getElem?_set_ne (Ne.symm hc.1)]; exact e2
        obtain ⟨O7, q3, q4⟩ := k4.put ei (by rw [p5.eq i (List.mem_cons_of_mem _ List.mem_cons_self)]; exact hσ1) q1
        have inn : ∀ a ∈ T0', a ∈ Td ∨ a ∈ R := fun a q => List.mem_append.mp (q2.mem_iff.mp q)
        refine ⟨O7, q4, q3.nodup_iff.mpr (nd_app.mpr ⟨q2.nodup_iff.mpr (nd_app.mpr ⟨n6.1, nTR.2.1, fun a q z => d5 a z (k3.mem_iff.mpr (List.mem_append_left _ q))⟩), n6.2.1, fun a q z => ?_⟩), fun a q => ?_⟩
        · rcases inn a q with y | y
          · exact n6.2.2 a y z
          · exact d5 a y (k3.mem_iff.mpr (List.mem_append_right _ z))
        · rcases List.mem_append.mp (q3.mem_iff.mp q) with y | y
          · rcases inn a y with y | y
            · exact List.mem_append_right _ (k3.mem_iff.mpr (List.mem_append_left _ y))
            · exact List.mem_append_left _ y
          · exact List.mem_append_right _ (k3.mem_iff.mpr (List.mem_append_right _ y))
      · cases e
    have c' : ContS G W pr (R ++ O1) (σ.set j (some u)) H ((Out.back (giveB j i path root) (b ((ρ.set i none).set j (some d)))).seq g) D := c.more go0 p01
    refine ⟨_, O1, rE1, nd1, ?_⟩
    refine back _ ?_
    cases eb : (Out.back (giveB j i path root) (b ((ρ.set i none).set j (some d)))) with
    | nx ρ1 =>
      rw [eb] at c'
      exact fun σ' H' ⟨O', z1, z2, z3, z4⟩ => ⟨ρ1, O', z1, z2, c'.more z3 z4⟩
    | br ρ1 => rw [eb] at c'; exact c'
    | ct ρ1 => rw [eb] at c'; exact c'
    | rt d ρ1 => rw [eb] at c'; exact c'
    | ex x ρ1 => rw [eb] at c'; exact c'
    | no => rw [eb] at c'; exact c'
  · rw [if_neg hc] at c; exact c.elim
end
end Vs
/-! V24: every statement. -/
namespace Vs
open PySem PySem.Spec L2
open PyProof.Rows hiding St
section
variable {G : Ga} {Γ : Gam} {X : Cx} {W : WX} {S : Sc} {fn : Str → Bool}
theorem lcset_ok (C : Ctx G Γ S X) (hf : ∀ x, fn x = true → X.fn x = true) (tk : Takes X W) {t' : Tg} {tg x : PySem.Expr} {spos : Pos} {own : List Nat} {t : Tg} {k : ItK} {as ifs : List Ex} {e : Ex} (h : mE S (.lc own t k as ifs e) x = true) (hs : swapOk S tg x = true) (ht : mTg S fn t' tg = true) :
    PS X (.Assign [tg] x spos) (tAsg (tE G W (ev Γ (.lc own t k as ifs e))) (gT G.K t')) := by
  unfold mE at h
  split at h
  · rename_i elt tg1 it cs scope pos
    simp only [Bool.and_eq_true, decide_eq_true_eq] at h
    obtain ⟨⟨⟨⟨⟨⟨⟨⟨h1, h2⟩, h3⟩, h4⟩, h5⟩, h6⟩, h7⟩, h8⟩, h9⟩ := h
    split at h1
    · rename_i xs ex
      unfold swapOk at hs
      split at hs
      · rename_i y py elt0 gs0 scope0 pos0 he
        cases he
        simp only [Bool.and_eq_true, decide_eq_true_eq, Bool.not_eq_true'] at hs
        obtain ⟨⟨⟨s1, s2⟩, s3⟩, s4⟩ := hs
        cases t' with
        | tp is => unfold mTg at ht; cases ht
        | nm i =>
          have hst : stB S fn i y = true := ht
          unfold stB at hst
          rw [Bool.and_eq_true, decide_eq_true_eq] at hst
          have hN : X.N.Nodup := by rw [C.hN]; exact C.nd
          have hyl : X.env.scope.names.lookup y = some .local := by rw [C.sc]; exact s2
          have pi := pi_ok (tg := tg1) C ex (mL_ok as C tk h1) (fun z => by rw [z] at h2; simpa using h2)
          have ok := blkOk_by h3
          rw [← C.hN, ← C.sc] at ok
          refine psImp (ps_setLc C.calm hN (by rw [C.hN]; exact hst.1) hyl (sw_true (kind_fn C s1) hyl s3 s4) pi ok
            (fun s H c cl fp => tg_pg (C.blk s H scope c cl fp) (fun x z => z) h4)
            (fun s H c cl fp => ifs_ok (evTs_ok ifs (W := W0) (C.blk s H scope c cl fp) takes0 h7) h6)
            (fun s H c cl fp => ev_ok e (W := W0) (C.blk s H scope c cl fp) takes0 h8) (isSet_pure h9)) fun D σ H z => ?_
          rw [ownOf_map]
          refine lc_logic (fun i q => ?_) z
          have := List.all_eq_true.mp h5 i q
          simpa using this
      · cases hs
    · cases h1
  · cases h
theorem pset_ok (C : Ctx G Γ S X) {dk : Bool} : PSet X (tPut X dk) := by
  have un := C.un
  cases dk with
  | true => exact fun pins s σ H o i v ov iv u Q I ro ri rv h => h.elim (set_dict (by omega) pins s σ H o i v ov iv u Q I ro ri rv) (set_DD un pins s σ H o i v ov iv u Q I ro ri rv)
  | false => exact set_list
theorem asg_ix {o i : PySem.Expr} {pos : Pos} {env : PySem.Env} (h : notSlice i = true) : ∀ v, assign (.Subscript o i pos) env v = (do
      let ov ← holding [v] (eval o env)
      let iv ← holding [v, ov] (eval i env)
      standAt pos
      holding [v, ov, iv] (setItem ov iv v)
      release [v, ov, iv] []) := by
  intro v
  cases i <;> first | rfl | cases h
def mBor (F : Str → PySem.Expr → List Stmt → Bool) : List Stmt → Bool
  | .Assign [.Name y py] x pos :: rest => F y x rest
  | _ => false
theorem bor_inv {F : Str → PySem.Expr → List Stmt → Bool} {sts : List Stmt} (h : mBor F sts = true) : ∃ y py x pos rest, sts = .Assign [.Name y py] x pos :: rest ∧ F y x rest = true := by
  unfold mBor at h
  split at h
  · exact ⟨_, _, _, _, _, rfl, h⟩
  · cases h
def mCons (f : Stmt → Bool) (g : List Stmt → Bool) : List Stmt → Bool
  | st :: rest => f st && g rest
  | [] => false
mutual
theorem go_ok (C : Ctx G Γ S X) (hf : ∀ x, fn x = true → X.fn x = true) (tk : Takes X W) (hp : PassesOwn (model X.prog X.w) X.A X.env X.xe) : ∀ (m : Sm) {pr : List Nat} {st : Stmt}, mS S fn pr m st = true → PS X st (tG G W pr (go Γ m))
  | .asg t e, pr, st, h => by
    unfold mS at h
    split at h
    · rename_i tg x pos
      simp only [Bool.and_eq_true, Bool.or_eq_true, Bool.not_eq_true'] at h
      obtain ⟨⟨h1, h2⟩, h3⟩ := h
      rcases h3 with ⟨⟨h3, h4⟩, h5⟩ | ⟨⟨h3, h4⟩, h5⟩
      · obtain ⟨k1, k2⟩ : swappedStores [tg] x X.env = pure none ∧ (assignEach [tg] X.env).map (·.2) = [assign tg X.env] := by
          rcases h4 with h4 | h4
          · exact stores_no (env := X.env) h4
          · exact stores_cell C.sc h4
        exact psImp (ps_asg (ev_ok e C tk h5) (tg_pg C hf h1) (swap_no h3) k1 k2) fun D σ H z => asg_logic h2 z
      · split at h5
        · exact psImp (lcset_ok C hf tk h4 h3 h1) fun D σ H z => asg_logic h2 z
        · cases h5
    · cases h
  | .par is es, pr, st, h => by
    unfold mS at h
    split at h
    · simp only [Bool.and_eq_true] at h
      exact par_ok C h.1.1 h.1.2 (evs_pos es C tk h.2)
    · cases h
  | .put dk i path k e, pr, st, h => by
    unfold mS at h
    split at h
    · rename_i o ix ipos x pos
      simp only [Bool.and_eq_true, Bool.not_eq_true'] at h
      obtain ⟨⟨⟨⟨h1, h2⟩, h3⟩, h4⟩, h5⟩ := h
      have hs : swapsWithSole [.Subscript o ix ipos] x pos.line X.env = pure false := by
        show swapsWith x (some (.Subscript o ix ipos)) pos.line X.env = pure false
        exact swap_no h1
      exact psImp (ps_asg (ev_ok e C tk h5) (pg_sub (mView_pe C h2) (ev_ok k (W := W0) C takes0 h4) (pset_ok C (dk := dk)) (asg_ix h3)) hs rfl rfl) fun D σ H z => put_logic C.hG C.hw z
    · cases h
  | .ex e, pr, st, h => by
    unfold mS at h
    split at h
    · simp only [Bool.and_eq_true, Bool.not_eq_true'] at h
      exact psImp (ps_expr (ev_ok e C tk h.2) (swap_no h.1)) fun D σ H z => ex_logic z
    · cases h
  | .ite c a b, pr, st, h => by
    unfold mS at h
    split at h
    · simp only [Bool.and_eq_true] at h
      have ha := gos_ok C hf tk hp a h.1.2 pss_nil
      have hb := gos_ok C hf tk hp b h.2 pss_nil
      rw [List.append_nil] at ha hb
      exact psImp (ps_if (evT_ok c C tk h.1.1) ha hb) fun D σ H z => ite_logic z
    · cases h
  | .whl c b, pr, st, h => by
    unfold mS at h
    split at h
    · simp only [Bool.and_eq_true] at h
      have hb := gos_ok C hf tk hp b h.2 pss_nil
      rw [List.append_nil] at hb
      exact psImp (ps_while hp (evT_ok c C tk h.1) hb) fun D σ H z => whl_logic z
    · cases h
  | .lop t k as b, pr, st, h => by
    unfold mS at h
    split at h
    · rename_i tg it p pos
      simp only [Bool.and_eq_true] at h
      obtain ⟨⟨⟨⟨⟨h1, h2⟩, h3⟩, h4⟩, h5⟩, h6⟩ := h
      split at h1
      · rename_i xs ex
        have hb := gos_ok C hf tk hp b h5 pss_nil
        rw [List.append_nil] at hb
        have pi := pi_ok (tg := tg) C ex (mL_ok as C tk h1) (fun z => by rw [z] at h2; simpa using h2)
        exact psImp (ps_for hp C.calm pi (tg_pg C hf h3) hb (isSet_pure h6)) fun D σ H z => lop_logic h4 z
      · cases h1
    · cases h
  | .ret e, pr, st, h => by
    unfold mS at h
    split at h
    · exact psImp (ps_ret (ev_ok e C tk h)) fun D σ H z => ret_logic z
    · cases h
  | .retN, pr, st, h => by
    unfold mS at h
    split at h
    · exact psImp ps_retN fun D σ H ⟨ρ, O, rE, nd, z⟩ => z σ .non H ⟨O, [], rE, .sh .non, nd, Go.refl, .refl⟩
    · cases h
  | .pass, pr, st, h => by
    unfold mS at h
    split at h
    · exact psImp ps_pass fun D σ H ⟨ρ, O, rE, nd, z⟩ => z σ H ⟨O, rE, nd, Go.refl, .refl⟩
    · cases h
  | .brk, pr, st, h => by
    unfold mS at h
    split at h
    · exact psImp ps_break fun D σ H ⟨ρ, O, rE, nd, z⟩ => z σ H ⟨O, rE, nd, Go.refl, .refl⟩
    · cases h
  | .cnt, pr, st, h => by
    unfold mS at h
    split at h
    · exact psImp ps_continue fun D σ H ⟨ρ, O, rE, nd, z⟩ => z σ H ⟨O, rE, nd, Go.refl, .refl⟩
    · cases h
  | .frz _, pr, st, h => by unfold mS at h; cases h
  | .bor _ _ _ _, pr, st, h => by unfold mS at h; cases h
theorem gos_ok (C : Ctx G Γ S X) (hf : ∀ x, fn x = true → X.fn x = true) (tk : Takes X W) (hp : PassesOwn (model X.prog X.w) X.A X.env X.xe) : ∀ (l : List Sm) {pr : List Nat} {sts rest : List Stmt} {u : TS}, mSs S fn pr l sts = true → PSs X rest u → PSs X (sts ++ rest) (tSeq (tG G W pr (gos Γ l)) u)
  | [], pr, sts, rest, u, h, hr => by
    unfold mSs at h
    have : sts = [] := by simpa using h
    subst this
    exact pssImp hr fun D σ H ⟨ρ, O, rE, nd, z⟩ => z σ H ⟨O, rE, nd, Go.refl, .refl⟩
  | m :: r, pr, sts, rest, u, h, hr => by
    have plain : (∀ i, m ≠ .frz i) → (∀ j i p b, m ≠ .bor j i p b) → mSs S fn pr (m :: r) sts = mCons (mS S fn pr m) (mSs S fn pr r) sts → PSs X (sts ++ rest) (tSeq (tG G W pr (gos Γ (m :: r))) u) := fun _ _ e => by
      rw [e] at h
      cases sts with
      | nil => cases h
      | cons st rest0 =>
        unfold mCons at h
        rw [Bool.and_eq_true] at h
        exact pssImp (pss_cons (go_ok C hf tk hp m h.1) (gos_ok C hf tk hp r h.2 hr)) fun D σ H z => seq_logic (D := { D with nx := u D }) z
    cases m with
    | frz i =>
      have h : mSs S fn pr r sts = true := h
      exact frz_ok (gos_ok C hf tk hp r h hr)
    | bor j i path b =>
      have h : mBor (fun y x rest => stB S fn j y && !pr.contains j && !isComp x && mPathR S i path.reverse x && mSs S fn (j :: i :: pr) b (rest.take (sizes b)) && mSs S fn pr r (rest.drop (sizes b))) sts = true := h
      obtain ⟨y, py, x, pos, rest0, e0, g⟩ := bor_inv h
      subst e0
      have g : (stB S fn j y && !pr.contains j && !isComp x && mPathR S i path.reverse x && mSs S fn (j :: i :: pr) b (rest0.take (sizes b)) && mSs S fn pr r (rest0.drop (sizes b))) = true := g
      simp only [Bool.and_eq_true, Bool.not_eq_true'] at g
      obtain ⟨⟨⟨⟨⟨h1, h2⟩, h3⟩, h4⟩, h5⟩, h6⟩ := g
      have hr1 := gos_ok C hf tk hp r h6 hr
      have hb := gos_ok C hf tk hp b h5 hr1
      rw [← List.append_assoc, List.take_append_drop] at hb
      have hs : PS X (.Assign [.Name y py] x pos) (tAsg (tPath i path) (gName j)) := by
        have hw : swapsWithSole [.Name y py] x pos.line X.env = pure false := by
          show swapsWith x (some (.Name y py)) pos.line X.env = pure false
          exact swap_no h3
        exact ps_asg (mView_pe C h4) (st_pg C hf h1) hw rfl rfl
      exact pssImp (pss_cons hs hb) fun D σ H z => bor_logic (D := { D with nx := u D }) (fun q => by simp [q] at h2) z
    | asg t e => exact plain (by simp) (by simp) (by cases sts <;> rfl)
    | par is es => exact plain (by simp) (by simp) (by cases sts <;> rfl)
    | put dk i path k e => exact plain (by simp) (by simp) (by cases sts <;> rfl)
    | ex e => exact plain (by simp) (by simp) (by cases sts <;> rfl)
    | ite c a b => exact plain (by simp) (by simp) (by cases sts <;> rfl)
    | whl c b => exact plain (by simp) (by simp) (by cases sts <;> rfl)
    | lop t k as b => exact plain (by simp) (by simp) (by cases sts <;> rfl)
    | ret e => exact plain (by simp) (by simp) (by cases sts <;> rfl)
    | retN => exact plain (by simp) (by simp) (by cases sts <;> rfl)
    | pass => exact plain (by simp) (by simp) (by cases sts <;> rfl)
    | brk => exact plain (by simp) (by simp) (by cases sts <;> rfl)
    | cnt => exact plain (by simp) (by simp) (by cases sts <;> rfl)
end
end
end Vs
/-! V25: a def by its own syntax. -/
namespace Vs
open PySem PySem.Spec L2
open PyProof.Rows hiding St
/-- the changed parameters' values behind -/
def outsE : List Bool → Env → Option (List D)
  | [], _ => some []
  | true :: io, o :: ρ => match o, outsE io ρ with
    | some d, some l => some (d :: l)
    | _, _ => none
  | false :: io, _ :: ρ => outsE io ρ
  | _ :: _, [] => none
/-- a def: from its arguments -/
def runD (n : Nat) (io : List Bool) (b : SF) (ds : List D) : FR := if ds.length = io.length then (match b (ds.map some ++ List.replicate (n - ds.length) none) with
    | .rt d ρ => match outsE io ρ with
      | some l => .ok d l
      | none => .no
    | .nx ρ => match outsE io ρ with
      | some l => .ok (.sh .none) l
      | none => .no
    | .ex x ρ => match outsE io ρ with
      | some l => .ex x l
      | none => .no
    | _ => .no) else .no
def denOf (Γ : Gam) (n : Nat) (io : List Bool) (b : List Sm) : Den := ⟨io, runD n io (gos Γ b)⟩
/-- the slots of the changed parameters -/
def ioS : List Bool → Nat → List Nat
  | [], _ => []
  | true :: io, k => k :: ioS io (k + 1)
  | false :: io, k => ioS io (k + 1)
section
variable {G : Ga} {H H' : Hp} {σ σ' : L2.St}
theorem none_rep : ∀ n : Nat, RepE G H (List.replicate n none) (List.replicate n none) []
  | 0 => .nil
  | n + 1 => .no (none_rep n)
theorem start_rep : ∀ {vs : List V} {ds : List D} {O : List Addr}, Reps G H vs ds O → ∀ n : Nat, RepE G H (vs.map some ++ List.replicate n none) (ds.map some ++ List.replicate n none) O
  | _, _, _, .nil, n => none_rep n
  | _, _, _, .cons r rs, n => .va r (start_rep rs n)
theorem ioS_ge : ∀ {io : List Bool} {k j : Nat}, j ∈ ioS io k → k ≤ j
  | true :: io, k, j, h => by
    rcases List.mem_cons.mp h with rfl | h
    · exact Nat.le_refl _
    · exact Nat.le_of_succ_le (ioS_ge h)
  | false :: io, k, j, h => Nat.le_of_succ_le (ioS_ge (k := k + 1) h)
/-- the changed ones, out of the names behind -/
theorem outs_rep : ∀ {io : List Bool} {vs : List V} {ρ : Env} {O : List Addr} {outs : List D} {τ : L2.St}, RepE G H' τ ρ O → vs.length = io.length → (∀ (j : Nat) (v : V), io[j]? = some true → vs[j]? = some v → τ[j]? = some (some v)) → outsE io ρ = some outs →
    ∃ O', Reps G H' (pick io vs) outs O' ∧ O'.Sublist O
  | [], vs, ρ, O, outs, τ, rE, hl, hs, e => by
    unfold outsE at e; cases e
    have : vs = [] := by simpa using hl
    subst this
    exact ⟨[], .nil, List.nil_sublist _⟩
  | true :: io, v :: vs, _, _, outs, _, .no (v := w) rE, hl, hs, e => by
    unfold outsE at e
    split at e
    · rename_i e1 _; cases e1
    · cases e
  | true :: io, v :: vs, _, _, outs, _, .va (v := w) (O1 := O1) (O := O) r rE, hl, hs, e => by
    unfold outsE at e
    split at e
    · rename_i d l e1 e2
      cases e1
      cases e
      have hw := hs 0 v rfl rfl
      simp at hw
      subst hw
      obtain ⟨O', a, b⟩ := outs_rep rE (by simpa using hl) (fun j u h1 h2 => by simpa using hs (j + 1) u (by simpa using h1) (by simpa using h2)) e2
      exact ⟨O1 ++ O', .cons r a, .append (.refl _) b⟩
    · cases e
  | false :: io, v :: vs, _, _, outs, _, .no (v := w) rE, hl, hs, e => by
    unfold outsE at e
    exact outs_rep (vs := vs) rE (by simpa using hl) (fun j u h1 h2 => by simpa using hs (j + 1) u (by simpa using h1) (by simpa using h2)) e
  | false :: io, v :: vs, _, _, outs, _, .va (v := w) (O1 := O1) (O := O) r rE, hl, hs, e => by
    unfold outsE at e
    obtain ⟨O', a, b⟩ := outs_rep (vs := vs) rE (by simpa using hl) (fun j u h1 h2 => by simpa using hs (j + 1) u (by simpa using h1) (by simpa using h2)) e
    exact ⟨O', a, b.trans (List.sublist_append_right _ _)⟩
  | true :: io, v :: vs, _, _, outs, _, .nil, hl, hs, e => by unfold outsE at e; cases e
  | false :: io, v :: vs, _, _, outs, _, .nil, hl, hs, e => by unfold outsE at e; cases e
  | _ :: _, [], _, _, _, _, _, hl, _, _ => by simp at hl
theorem ioS_mem : ∀ {io : List Bool} {k j : Nat}, io[j]? = some true → k + j ∈ ioS io k
  | true :: io, k, 0, h => List.mem_cons_self
  | true :: io, k, j + 1, h => List.mem_cons_of_mem _ (by
    have := ioS_mem (io := io) (k := k + 1) (j := j) (by simpa using h)
    rwa [show k + 1 + j = k + (j + 1) by omega] at this)
  | false :: io, k, 0, h => by simp at h
  | false :: io, k, j + 1, h => by
    have := ioS_mem (io := io) (k := k + 1) (j := j) (by simpa using h)
    rw [show k + 1 + j = k + (j + 1) by omega] at this
    exact this
  | [], k, j, h => by simp at h
/-- the body's reading at the parameters' values -/
theorem den_logic {n : Nat} {io : List Bool} {b : SF} {vs : List V} {Q : VK} {E : XK} (hsp : spD G ⟨io, runD n io b⟩ vs H Q E) :
    tG G (fun cls dd _ H' => E cls dd H') (ioS io 0) b { nx := fun _ H' => Q .non H', rt := Q } (vs.map some ++ List.replicate (n - vs.length) none) H := by
  obtain ⟨hl, ds, O, rs, nd, k⟩ := hsp
  have hd : ds.length = io.length := rs.len ▸ hl
  refine ⟨ds.map some ++ List.replicate (n - ds.length) none, O, by rw [rs.len]; exact start_rep rs _, nd, ?_⟩
  have st : ∀ {τ : L2.St}, Prs (ioS io 0) (vs.map some ++ List.replicate (n - vs.length) none) τ → ∀ (j : Nat) (v : V), io[j]? = some true → vs[j]? = some v → τ[j]? = some (some v) := fun {τ} p j v h1 h2 => by
    have hm := ioS_mem (k := 0) h1
    rw [Nat.zero_add] at hm
    rw [p.eq j hm]
    have hj : j < vs.length := (List.getElem?_eq_some_iff.mp h2).1
    rw [List.getElem?_append_left (by simpa using hj)]
    simp [h2]
  unfold runD at k
  simp only [if_pos hd] at k
  cases e : b (ds.map some ++ List.replicate (n - ds.length) none) with
  | no => simp only [e] at k
  | br ρ => simp only [e] at k
  | ct ρ => simp only [e] at k
  | nx ρ =>
    simp only [e] at k
    cases e2 : outsE io ρ with
    | none => simp only [e2] at k
    | some l =>
      simp only [e2] at k
      intro σ' H' ⟨O', r, nd', go, p⟩
      obtain ⟨O2, a, sb⟩ := outs_rep r hl (st p) e2
      exact k .non H' [] O2 (.sh .non) a (sb.nodup nd') (go.less fun x q => sb.subset q)
  | rt d ρ =>
    simp only [e] at k
    cases e2 : outsE io ρ with
    | none => simp only [e2] at k
    | some l =>
      simp only [e2] at k
      intro σ' v H' ⟨O', T, r, rv, nd', go, p⟩
      obtain ⟨O2, a, sb⟩ := outs_rep r hl (st p) e2
      have sb2 : (T ++ O2).Sublist (T ++ O') := .append (.refl _) sb
      exact k v H' T O2 rv a (sb2.nodup nd') (go.less fun x q => sb2.subset q)
  | ex x ρ =>
    simp only [e] at k
    cases e2 : outsE io ρ with
    | none => simp only [e2] at k
    | some l =>
      simp only [e2] at k
      intro σ' cls dd H' ⟨O', r, nd', go, xr, p⟩
      obtain ⟨O2, a, sb⟩ := outs_rep r hl (st p) e2
      exact k cls dd H' O2 a (sb.nodup nd') (go.less fun x q => sb.subset q) xr
end
end Vs
/-! V26: a def keeps its promise; the law's end. -/
namespace Vs
open PySem PySem.Spec L2
open PyProof.Rows hiding St
section
variable {P : Program} {w : World} {K : PySem.W.Frag} {mg : Str → Option Value} {base : Heap} {G : Ga}
theorem FnG.mono {j k : Nat} {f : Addr} {fd : FuncData} {ps : List Str} {sp : Sp} (F : FnG P w K mg base j f fd ps sp) (h : j ≤ k) : FnG P w K mg base k f fd ps sp :=
  ⟨F.len, fun A outer s H args us vs Q E hr => F.run A outer s H args us vs Q E (hr.mono h)⟩
/-- how a def's calls bind -/
def PatOk (K : PySem.W.Frag) (fd : FuncData) (ps : List Str) (p : Pat) : Prop := ∀ (s : Shared) (us ws zs : List Value), K.In s.heap → us.length = p.1 → ws.length = p.2.1.length → perm p.2.2 (us ++ ws) = some zs → BindsTo s fd ⟨us, p.2.1.zip ws⟩ (ps.zip zs)
/-- a def of the module that keeps its promise -/
structure FnM (P : Program) (w : World) (K : PySem.W.Frag) (mg : Str → Option Value) (base : Heap) (G : Ga) (k : Nat) (f : Str) (dn : Den) (pats : List Pat) : Prop where
  to : ∃ (a : Addr) (fd : FuncData) (ps : List Str), mg f = some (.ref a) ∧ PySem.W.keepIn K (.ref a) = true ∧ FnG P w K mg base k a fd ps (spD G dn) ∧ ∀ p ∈ pats, PatOk K fd ps p
theorem FnM.mono {j k : Nat} {f : Str} {dn : Den} {pats : List Pat} (F : FnM P w K mg base G j f dn pats) (h : j ≤ k) : FnM P w K mg base G k f dn pats := by
  obtain ⟨a, fd, ps, h1, h2, h3, h4⟩ := F.to
  exact ⟨a, fd, ps, h1, h2, h3.mono h, h4⟩
/-- what a def's body may lean on -/
structure Mo0 (P : Program) (w : World) (K : PySem.W.Frag) (mg : Str → Option Value) (base : Heap) (G : Ga) (k : Nat) (Γ : Gam) (bl : List Str) (pats : Str → List Pat) : Prop where
  hG : G.K = K
  hw : G.w = w
  con : ∀ x p, Γ.con x = some p → ∃ u v, mg x = some u ∧ RelV v u ∧ ∀ H, DpF K H v p
  fn : ∀ f dn, Γ.fn f = some dn → FnM P w K mg base G k f dn (pats f)
  bl : ∀ x, bl.contains x = true → mg x = none
theorem fnG_of {k : Nat} {f : Addr} {name qual : Str} {params : Arguments} {body : List Stmt} {scope : Scope} {dV kV doc pm cdv ct oc : Value} {an od : Option Addr} {osl : Array (Option Value)} {N ps : List Str} {Γ : Gam} {bl : List Str} {pats : Str → List Pat}
    (lk : K.lookup f = some ⟨oc, od, .func (PySem.W.fnOf name qual params body scope dV kV doc pm an cdv ct), osl⟩) (hcd : PySem.W.codeIn K cdv qual = true) (S : FnScope N ps scope) (M : Mo0 P w K mg base G k Γ bl pats)
    (io : List Bool) (hio : io.length = ps.length) (b : List Sm) (hm : mSs ⟨scope, N, bl, pats⟩ (fun _ => true) (ioS io 0) b body = true) :
    FnG P w K mg base (k + 1) f (PySem.W.fnOf name qual params body scope dV kV doc pm an cdv ct) ps (spD G (denOf Γ N.length io b)) := by
  have len : ∀ vs H Q E, spD G (denOf Γ N.length io b) vs H Q E → vs.length = ps.length := fun vs H Q E h => h.1.trans hio
  refine ⟨len, fun A outer s H args us vs Q E room gd e0 hb r hsp => ?_⟩
  have hl := len _ _ _ _ hsp
  have inK : K.In s.heap := e0.mod.kin.keeps fun c o q => (e0.bs c o q).1
  have noL : s.heap.NoLimit := e0.mod.nolimit.keeps fun c o q => (e0.bs c o q).1
  have kinds : ∀ y ∈ ps.zip us, scope.names.lookup y.1 = some .local ∨ (scope.names.lookup y.1 = some .cell ∧ ((cellsFrom (s.heap.objs.size + 1) scope.names []).lookup y.1).isSome = true) := by
    rintro ⟨n, v⟩ hy
    exact (S.par n (List.of_mem_zip hy).1).imp id fun q => ⟨q, PySem.W.cellsFrom_some _ _ _ (.inl q)⟩
  refine codeAny_call_function room.depth (inK _ _ lk) rfl S.co S.gen rfl (PySem.W.codeRec_of inK hcd) (hb _ _ _ _ ?_)
  refine wpAny_newFunctionEnv_cells S.kind kinds fun env he s1 x => ?_
  subst he
  refine ⟨noL.keeps x.toInCall.keep, codeAny_func ?_⟩
  have room1 := room.deeper (envOfC qual scope s.heap.objs.size f cdv)
  let X : Cx := cxOf (L2.CX P w) P w K mg base N qual scope f cdv A outer s H E
  have C : Ctx G Γ ⟨scope, N, bl, pats⟩ X :=
    { hG := M.hG, hw := M.hw, sc := rfl, hN := rfl, nd := S.nd, calm := rfl, gd := gd, un := by
        have := room1.un
        show (A.deeper _).units + 65 < cLine
        omega
      con := M.con, fn := fun g dn e => by
        obtain ⟨a, fd, qs, h1, h2, h3, h4⟩ := (M.fn g dn e).to
        exact ⟨a, fd, qs, k, h1, h2, room1, h3, fun n ks π hp => h4 (n, ks, π) hp⟩
      bl := M.bl }
  have tk : Takes X (fun cls dd _ H' => E cls dd H') := takes_of rfl rfl rfl rfl
  have pss := gos_ok C (fun _ _ => rfl) tk (passes_of rfl) b hm pss_nil
  rw [List.append_nil] at pss
  have I : Inv X [] (start N vs) H s1 := inv_start S room.hd e0 hl r x
  refine wpAny_mono (pss.run [] s1 (start N vs) H { nx := fun _ H' => Q .non H', rt := Q } I (den_logic hsp)) (fun fl s' hs => ?_) fun _ _ q => q
  have done : ∀ {τ : L2.St} {H' : Hp} {v : V} {u : Value}, Inv X [] τ H' s' → RelV v u → Q v H' → CE outer P w H s Q u s' := fun {τ H' v u} J rv q => ⟨v, H', J.os, J.bare, J.base, J.hok, rv, q⟩
  cases fl with
  | next => obtain ⟨τ, H', J, q⟩ := hs; exact done (v := V.non) (u := Value.none) J rfl q
  | ret u => obtain ⟨v, τ, H', J, rv, q⟩ := hs; exact done J rv q
  | brk => obtain ⟨_, _, _, q⟩ := hs; exact q.elim
  | cont => obtain ⟨_, _, _, q⟩ := hs; exact q.elim
/-- a def of the text, by the record the top wrote -/
theorem fnM_of {k : Nat} {x : Str} {f : Addr} {st : Stmt} {od an : Option Addr} {osl : Array (Option Value)} {oc kV doc pm cdv ct : Value} {N ps : List Str} {Γ : Gam} {bl : List Str} {pats : Str → List Pat}
    (hmg : mg x = some (.ref f)) (lk : K.lookup f = some ⟨oc, od, .func (PySem.W.fnOf x x (defArgs st) (defBody st) (defScope st) .none kV doc pm an cdv ct), osl⟩) (hcd : PySem.W.codeIn K cdv x = true) (kp : PySem.W.keepIn K (.ref f) = true)
    (S : FnScope N ps (defScope st)) (M : Mo0 P w K mg base G k Γ bl pats) (io : List Bool) (hio : io.length = ps.length) (b : List Sm) (hm : mSs ⟨defScope st, N, bl, pats⟩ (fun _ => true) (ioS io 0) b (defBody st) = true)
    (hp : ∀ (s : Shared) (us ws zs : List Value) (p : Pat), p ∈ pats x → us.length = p.1 → ws.length = p.2.1.length → perm p.2.2 (us ++ ws) = some zs → bindArgs (PySem.W.fnOf x x (defArgs st) (defBody st) (defScope st) .none kV doc pm an cdv ct) ⟨us, p.2.1.zip ws⟩ = pure (ps.zip zs)) :
    FnM P w K mg base G (k + 1) x (denOf Γ N.length io b) (pats x) :=
  ⟨f, _, ps, hmg, kp, fnG_of lk hcd S M io hio b hm, fun p hpp s us ws zs _ h1 h2 h3 => .of_eq (hp s us ws zs p hpp h1 h2 h3)⟩
end
/-! ### the law's end -/
theorem script_rep {G : Ga} {H : Hp} {a : Addr} {ns : List Int} (h1 : Only H) (h2 : SqL G.K H a (ns.map V.int)) : Reps G H [.ref a] [.sh (.list (ns.map .int))] [] := by
  have hs : DpFs G.K H (ns.map V.int) (ns.map .int) := by
    induction ns with
    | nil => exact .nil
    | cons n ns ih =>
      refine .cons (.int n) ?_
      clear h2 ih
      induction ns with
      | nil => exact .nil
      | cons m ns ih => exact .cons (.int m) ih
  have hf : SqF G.K H a (ns.map V.int) := by
    rcases h2 with (h | h) | h
    · rcases h1 a with z | ⟨o, xs, z⟩
      · rw [h] at z; cases z
      · rw [h] at z; cases z
    · exact .inl h
    · exact .inr (.inr h)
  exact .cons (O := []) (O' := []) (.sh (.lst hf hs)) .nil
theorem hid_same {h : Heap} {H : Hp} {a : Addr} {xs : Array Value} (e : h.get? a = some { cls := .type "list", data := .seq xs }) (n : ∀ b, H b ≠ none → b = a) {b : Addr} {o : Obj} {es : Array DictEntry} {ep : Nat} (eb : h.get? b = some o) (d : o.data = .dict es ep) : (hidT h H).get? b = some o := by
  refine hidT_get eb (Classical.byContradiction fun z => ?_)
  cases n b z
  rw [e] at eb
  cases eb
  exact nomatch d
/-- the law at a heap that knows of nothing but the script -/
theorem lawG_at {P : Program} {w : World} {G : Ga} {mg mb : Str → Option Value} {k : Nat} {fa a : Addr} {fd : FuncData} {x : Str} {dn : Den} {s₁ : Shared} {vs : List Value} {ns : List Int} {H : Hp} {outs : List D}
    (KX : G.K.In s₁.heap) (hns : s₁.heap.Ns mainGlobals mg) (hb : s₁.heap.Ns builtinsNs mb) (hbb : ∀ x : Str, x ≠ "__name__" → mb x = bootBuiltins x) (hlim : s₁.heap.NoLimit) (hg : s₁.gens = #[])
    (ha : s₁.heap.get? a = some { cls := .type "list", data := .seq vs.toArray }) (hr : Room k callerA) (F : ∀ base : Heap, G.K.In base → base.Ns mainGlobals mg → FnG P w G.K mg base k fa fd [x] (spD G dn))
    (hbind : ∀ (s : Shared) (u : Value), BindsTo s fd ⟨[u], []⟩ [(x, u)]) (hio : dn.io = [false]) (hm : dn.m [.sh (.list (ns.map .int))] = .ok (.sh (.bool true)) outs)
    (o1 : Only H) (o2 : SqL G.K H a (ns.map V.int)) (o3 : HOk P w H s₁.heap) (o4 : ∀ b, H b ≠ none → b = a) (o5 : H a ≠ none → G.K.lookup a = none) :
    codeAny (model P w) callerA (.call (.ref fa) ⟨[.ref a], []⟩) (fun r s' => r = .ok (.ret (.bool true)) ∧ OldK s₁.heap s'.heap ∧ s'.os = s₁.os ∧ AllBare s'.gens) s₁ := by
  have hid : ∀ {b : Addr} {m : Str → Option Value}, s₁.heap.Ns b m → (hidT s₁.heap H).Ns b m := by
    rintro b m ⟨o, es, ep, e, d, q⟩
    exact ⟨o, es, ep, hid_same ha o4 e d, d, q⟩
  have kin : G.K.In (hidT s₁.heap H) := fun b o e => hidT_get (KX b o e) (Classical.byContradiction fun z => by
    have h1 := o4 b z
    subst h1
    rw [o5 z] at e
    cases e)
  have noL : (hidT s₁.heap H).NoLimit := by
    obtain ⟨mc, z1, z2⟩ := hlim
    exact ⟨mc, hid z1, z2⟩
  have env : Env0 P w G.K mg (hidT s₁.heap H) callerA [] s₁ H :=
    { frames := rfl, mod := ⟨kin, hid hns, ⟨mb, hid hb, hbb⟩, noL⟩, bs := fun b o e => of_hidT e, bsz := Nat.le_of_eq (hidT_size _ _), funs := trivial, frf := fun b z => (nomatch (show b ∈ ([] : List Addr) from z)), hok := o3, bare := .of_eq hg }
  have sp : spD G dn [.ref a] H (fun v _ => v = .bl true) fun _ _ _ => False := by
    refine ⟨by rw [hio]; rfl, _, [], script_rep o1 o2, .nil, ?_⟩
    rw [hm]
    exact fun v H' T O' r _ _ _ => r.bl_of
  refine codeAny_mono ((F _ kin (hid hns)).run callerA [] s₁ H ⟨[.ref a], []⟩ [.ref a] [.ref a] _ _ hr rfl env (hbind s₁ (.ref a)) (.cons rfl .nil) sp) fun r s' h => ?_
  match r, h with
  | .error e, h => obtain ⟨_, _, _, _, _, _, _, _, _, _, _, _, z⟩ := h; exact z.elim
  | .ok .next, h => exact False.elim h
  | .ok .brk, h => exact False.elim h
  | .ok .cont, h => exact False.elim h
  | .ok (.ret u), ⟨v, H', os, bare, un, hok', r', q⟩ =>
    have q : v = .bl true := q
    subst q
    cases (show u = Value.bool true from r')
    refine ⟨rfl, OldK.of_keep fun b o e => ?_, os, bare⟩
    cases z : H b with
    | none => exact un.keep b o e z (fun y => nomatch y) (fun y => nomatch y)
    | some hb =>
      rcases o1 b with y | ⟨ob, xs, y⟩
      · rw [y] at z; cases z
      · obtain ⟨e1, _⟩ := o3 b _ y
        obtain ⟨e2, _⟩ := hok' b _ (un.frzs b ob _ y)
        rw [e] at e1; cases e1
        exact e2
theorem ints_vals : ∀ {vs : List Value} {ns : List Int}, IntsAre vs ns → Vals (ns.map V.int) vs := fun h => vals_ints h
/-- the head's goal, from the law's own den -/
theorem law_end {l : PySem.W.OpenLaw} {n k : Nat} {q : Program} {loose : List Str} {XP : (Str → Option Value) → Heap → Prop} {YP : World → Heap → Prop} {d : DefRec} {Kp : Params → PySem.W.Frag} {x : Str} {cl : Params → Str → Option Addr} {dn : Params → Den}
    (hn : l.most = some n) (hn2 : n ≤ sizeLine) (hdf : d.params.defaults = []) (hr : Room k callerA) (hY : ∀ (w : World) (h : Heap), YP w h → (Kp w.params).In h)
    (F : ∀ (w : World) (mg : Str → Option Value) (fa : Addr) (h : Heap), (Kp w.params).In h → h.Ns mainGlobals mg → mg d.name = some (.ref fa) →
      ∃ fd : FuncData, (∀ (s : Shared) (u : Value), BindsTo s fd ⟨[u], []⟩ [(x, u)]) ∧ ∀ base : Heap, (Kp w.params).In base → base.Ns mainGlobals mg → FnG l.prog w (Kp w.params) mg base k fa fd [x] (spD ⟨Kp w.params, cl w.params, w⟩ (dn w.params)))
    (hio : ∀ p, (dn p).io = [false]) (hm : ∀ p (ns : List Int), ns.length ≤ n → ∃ outs, (dn p).m [.sh (.list (ns.map .int))] = .ok (.sh (.bool true)) outs) :
    PySem.W.WalkO q loose XP YP l.row.toRowW d [] (fun f vs => PySem.call f vs) := by
  refine Att.attach_call hn hdf fun w s₀ s₁ mg mb fa o pm cd doc a vs ns Gd Y ho hd hcd hmg hobj hints hlen hg => ?_
  have KX := hY w _ Y
  obtain ⟨fd, hb, hF⟩ := F w mg fa _ KX Gd.T.g hmg
  obtain ⟨outs, hm⟩ := hm w.params ns hlen
  have at_ := fun (H : Hp) => lawG_at (G := ⟨Kp w.params, cl w.params, w⟩) (H := H) KX Gd.T.g Gd.T.b Gd.T.builtins Gd.T.nolimit hg hobj hr hF hb (hio _) hm
  have small : ns.length ≤ sizeLine := Nat.le_trans hlen hn2
  cases hk : (Kp w.params).lookup a with
  | some oa =>
    have e := KX a oa hk
    rw [hobj] at e
    cases e
    refine at_ (fun _ => none) (fun _ => .inl rfl) (.inr ⟨_, vs.toArray, _, hk, rfl, rfl, rfl, ?_, by simpa using ints_vals hints⟩) (fun b u z => (nomatch (show (none : Option HO) = some u from z))) (fun b z => absurd rfl z) fun z => absurd rfl z
    rw [List.size_toArray, hints.length]
    exact small
  | none =>
    let H : Hp := fun b => if b = a then some (.frz { cls := .type "list", data := .seq vs.toArray } (.lst (ns.map V.int))) else none
    have h1 : H a = some (.frz { cls := .type "list", data := .seq vs.toArray } (.lst (ns.map V.int))) := if_pos rfl
    have h2 : ∀ b, b ≠ a → H b = none := fun b z => if_neg z
    refine at_ H (fun b => ?_) (.inl (.inr ⟨_, h1⟩)) (fun b u z => ?_) (fun b z => Classical.byContradiction fun y => z (h2 b y)) fun _ => hk
    · by_cases hb : b = a
      · subst hb; exact .inr ⟨_, _, h1⟩
      · exact .inl (h2 b hb)
    · by_cases hb : b = a
      · subst hb
        rw [h1] at z
        cases z
        exact ⟨hobj, by rw [List.length_map]; exact small, vs, _, ints_vals hints, hobj⟩
      · rw [h2 b hb] at z; cases z
end Vs
/-! V27: small words for the printed texts. -/
namespace Vs
open PySem PySem.Spec L2
open PyProof.Rows hiding St
section
variable {α : Type} {us : List α}
theorem len0 (h : us.length = 0) : us = [] := by simpa using h
theorem len1 (h : us.length = 1) : ∃ a, us = [a] := by
  match us, h with
  | [a], _ => exact ⟨a, rfl⟩
theorem len2 (h : us.length = 2) : ∃ a b, us = [a, b] := by
  match us, h with
  | [a, b], _ => exact ⟨a, b, rfl⟩
theorem len3 (h : us.length = 3) : ∃ a b c, us = [a, b, c] := by
  match us, h with
  | [a, b, c], _ => exact ⟨a, b, c, rfl⟩
theorem len4 (h : us.length = 4) : ∃ a b c d, us = [a, b, c, d] := by
  match us, h with
  | [a, b, c, d], _ => exact ⟨a, b, c, d, rfl⟩
theorem len5 (h : us.length = 5) : ∃ a b c d e, us = [a, b, c, d, e] := by
  match us, h with
  | [a, b, c, d, e], _ => exact ⟨a, b, c, d, e, rfl⟩
theorem len6 (h : us.length = 6) : ∃ a b c d e f, us = [a, b, c, d, e, f] := by
  match us, h with
  | [a, b, c, d, e, f], _ => exact ⟨a, b, c, d, e, f, rfl⟩
theorem len7 (h : us.length = 7) : ∃ a b c d e f g, us = [a, b, c, d, e, f, g] := by
  match us, h with
  | [a, b, c, d, e, f, g], _ => exact ⟨a, b, c, d, e, f, g, rfl⟩
end
end Vs
/-! V28: the evaluator's equations. -/
namespace Vs
open PySem PySem.Spec L2
open PyProof.Rows hiding St
section
variable {Γ : Gam} {α β : Type} {ρ : Env}
@[simp] theorem gos_nil : gos Γ [] ρ = .nx ρ := (rfl)
@[simp] theorem gos_cons {s : Sm} {r : List Sm} : gos Γ (s :: r) ρ = (go Γ s ρ).seq (gos Γ r) := (rfl)
@[simp] theorem seq_nx {g : SF} : (Out.nx ρ).seq g = g ρ := (rfl)
@[simp] theorem seq_rt {g : SF} {d : D} : (Out.rt d ρ).seq g = .rt d ρ := (rfl)
@[simp] theorem seq_br {g : SF} : (Out.br ρ).seq g = .br ρ := (rfl)
@[simp] theorem seq_ct {g : SF} : (Out.ct ρ).seq g = .ct ρ := (rfl)
@[simp] theorem seq_ex {g : SF} {x : Exc} : (Out.ex x ρ).seq g = .ex x ρ := (rfl)
@[simp] theorem seq_no {g : SF} : (Out.no).seq g = .no := (rfl)
@[simp] theorem out_ok {a : α} {k : α → Out} : (Res.ok a).out k = k a := (rfl)
@[simp] theorem bind_ok' {a : α} {k : α → Res β} : (Res.ok a).bind k = k a := (rfl)
@[simp] theorem go_asg {t : Tg} {e : Ex} : go Γ (.asg t e) ρ = asgF t (ev Γ e) ρ := (rfl)
@[simp] theorem go_par {is : List Nat} {es : List Ex} : go Γ (.par is es) ρ = parF is (sops Γ es) ρ := (rfl)
@[simp] theorem go_put {dk : Bool} {i : Nat} {p : List PK} {k e : Ex} : go Γ (.put dk i p k e) ρ = putF dk i p (ev Γ k) (ev Γ e) ρ := (rfl)
@[simp] theorem go_ex {e : Ex} : go Γ (.ex e) ρ = exF (ev Γ e) ρ := (rfl)
@[simp] theorem go_ite {c : Ex} {a b : List Sm} : go Γ (.ite c a b) ρ = iteF (evT Γ c) (gos Γ a) (gos Γ b) ρ := (rfl)
@[simp] theorem go_whl {c : Ex} {b : List Sm} : go Γ (.whl c b) ρ = whL (evT Γ c) (gos Γ b) fuel ρ := (rfl)
@[simp] theorem go_lop {t : Tg} {k : ItK} {as : List Ex} {b : List Sm} : go Γ (.lop t k as b) ρ = lopF t k (lops Γ as) (gos Γ b) ρ := (rfl)
@[simp] theorem go_ret {e : Ex} : go Γ (.ret e) ρ = retF (ev Γ e) ρ := (rfl)
@[simp] theorem go_retN : go Γ .retN ρ = .rt (.sh .none) ρ := (rfl)
@[simp] theorem go_pass : go Γ .pass ρ = .nx ρ := (rfl)
@[simp] theorem go_brk : go Γ .brk ρ = .br ρ := (rfl)
@[simp] theorem go_cnt : go Γ .cnt ρ = .ct ρ := (rfl)
@[simp] theorem go_frz {i : Nat} : go Γ (.frz i) ρ = frzF i ρ := (rfl)
@[simp] theorem go_bor {j i : Nat} {p : List PK} {b : List Sm} : go Γ (.bor j i p b) ρ = borF j i p (gos Γ b) ρ := (rfl)
@[simp] theorem ev_lit {d : PyData} : ev Γ (.lit d) ρ = .ok (.sh d, ρ) := (rfl)
@[simp] theorem ev_rd {i : Nat} : ev Γ (.rd i) ρ = rdE i ρ := (rfl)
@[simp] theorem ev_mv {i : Nat} : ev Γ (.mv i) ρ = mvE i ρ := (rfl)
@[simp] theorem ev_tup {es : List Ex} : ev Γ (.tup es) ρ = dispE mkTup (sops Γ es) ρ := (rfl)
@[simp] theorem ev_lst {es : List Ex} : ev Γ (.lst es) ρ = dispE .ls (sops Γ es) ρ := (rfl)
@[simp] theorem ev_op {o : Op} {as : List Ex} : ev Γ (.op o as) ρ = opE (opD o) (wrapO o (sops Γ as)) ρ := (rfl)
@[simp] theorem ev_chn {o o' : Op} {a b c : Ex} : ev Γ (.chn o o' a b c) ρ = chnE (opD o) (opD o') (ev Γ a) (ev Γ b) (ev Γ c) ρ := (rfl)
@[simp] theorem ev_bop {k : Bool} {es : List Ex} : ev Γ (.bop k es) ρ = bopE k (evs Γ es) ρ := (rfl)
@[simp] theorem ev_not {a : Ex} : ev Γ (.not a) ρ = notE (ev Γ a) ρ := (rfl)
@[simp] theorem ev_ite {c a b : Ex} : ev Γ (.ite c a b) ρ = iteE (evT Γ c) (ev Γ a) (ev Γ b) ρ := (rfl)
@[simp] theorem ev_call {f : Str} {as bs : List Ex} {ks : List Str} {π : List Nat} : ev Γ (.call f as bs ks π) ρ = callE (Γ.fn f) ks (sops Γ as ++ sops Γ bs) π ρ := (rfl)
@[simp] theorem ev_mut {m : Mo} {i : Nat} {p : List PK} {as : List Ex} : ev Γ (.mut m i p as) ρ = mutE m i p (sops Γ as) ρ := (rfl)
@[simp] theorem ev_lc {own : List Nat} {t : Tg} {k : ItK} {as ifs : List Ex} {e : Ex} : ev Γ (.lc own t k as ifs e) ρ = lcE own t k (lops Γ as) (ifT (evTs Γ ifs)) (ev Γ e) ρ := (rfl)
@[simp] theorem ev_fz {a : Ex} : ev Γ (.fz a) ρ = fzE (ev Γ a) ρ := (rfl)
@[simp] theorem ev_at {i : Nat} {p : List PK} : ev Γ (.at i p) ρ = atE i p ρ := (rfl)
@[simp] theorem ev_dct {ks : List Key} {es : List Ex} : ev Γ (.dct ks es) ρ = dctE ks (sops Γ es) ρ := (rfl)
@[simp] theorem evs_nil : evs Γ [] = [] := (rfl)
@[simp] theorem evs_cons {e : Ex} {es : List Ex} : evs Γ (e :: es) = ev Γ e :: evs Γ es := (rfl)
@[simp] theorem evTs_nil : evTs Γ [] = [] := (rfl)
@[simp] theorem evTs_cons {e : Ex} {es : List Ex} : evTs Γ (e :: es) = evT Γ e :: evTs Γ es := (rfl)
@[simp] theorem evT_bop {k : Bool} {es : List Ex} : evT Γ (.bop k es) ρ = bopT k (evTs Γ es) ρ := (rfl)
@[simp] theorem evT_not {a : Ex} : evT Γ (.not a) ρ = (evT Γ a ρ).bind fun q => .ok (!q.1, q.2) := (rfl)
@[simp] theorem evT_lit {d : PyData} : evT Γ (.lit d) ρ = boolE (litE d) ρ := (rfl)
@[simp] theorem evT_rd {i : Nat} : evT Γ (.rd i) ρ = boolE (rdE i) ρ := (rfl)
@[simp] theorem evT_op {o : Op} {as : List Ex} : evT Γ (.op o as) ρ = boolE (opE (opD o) (wrapO o (sops Γ as))) ρ := (rfl)
@[simp] theorem evT_chn {o o' : Op} {a b c : Ex} : evT Γ (.chn o o' a b c) ρ = boolE (chnE (opD o) (opD o') (ev Γ a) (ev Γ b) (ev Γ c)) ρ := (rfl)
@[simp] theorem evT_call {f : Str} {as bs : List Ex} {ks : List Str} {π : List Nat} : evT Γ (.call f as bs ks π) ρ = boolE (callE (Γ.fn f) ks (sops Γ as ++ sops Γ bs) π) ρ := (rfl)
@[simp] theorem sops_nil : sops Γ [] = [] := (rfl)
@[simp] theorem sops_v {i : Nat} {es : List Ex} : sops Γ (.vw i [] :: es) = .v i :: sops Γ es := (rfl)
@[simp] theorem sops_p {i : Nat} {k : PK} {p : List PK} {es : List Ex} : sops Γ (.vw i (k :: p) :: es) = .p i (k :: p) :: sops Γ es := (rfl)
@[simp] theorem lops_nil : lops Γ [] = [] := (rfl)
@[simp] theorem lops_v {i : Nat} {p : List PK} {es : List Ex} : lops Γ (.vw i p :: es) = .p i p :: lops Γ es := (rfl)
section
variable {es : List Ex} {a b c : Ex} {as bs ifs : List Ex} {o o' : Op} {k : Bool} {i : Nat} {d : PyData} {x : Str} {m : Mo} {p : List PK} {own : List Nat} {t : Tg} {ik : ItK} {ks : List Str} {π : List Nat} {kk : List Key}
@[simp] theorem sops_lit : sops Γ (.lit d :: es) = .e (ev Γ (.lit d)) :: sops Γ es := (rfl)
@[simp] theorem sops_rd : sops Γ (.rd i :: es) = .e (ev Γ (.rd i)) :: sops Γ es := (rfl)
@[simp] theorem sops_mv : sops Γ (.mv i :: es) = .e (ev Γ (.mv i)) :: sops Γ es := (rfl)
@[simp] theorem sops_gl : sops Γ (.gl x :: es) = .e (ev Γ (.gl x)) :: sops Γ es := (rfl)
@[simp] theorem sops_tup : sops Γ (.tup as :: es) = .e (ev Γ (.tup as)) :: sops Γ es := (rfl)
@[simp] theorem sops_lst : sops Γ (.lst as :: es) = .e (ev Γ (.lst as)) :: sops Γ es := (rfl)
@[simp] theorem sops_op : sops Γ (.op o as :: es) = .e (ev Γ (.op o as)) :: sops Γ es := (rfl)
@[simp] theorem sops_chn : sops Γ (.chn o o' a b c :: es) = .e (ev Γ (.chn o o' a b c)) :: sops Γ es := (rfl)
@[simp] theorem sops_bop : sops Γ (.bop k as :: es) = .e (ev Γ (.bop k as)) :: sops Γ es := (rfl)
@[simp] theorem sops_not : sops Γ (.not a :: es) = .e (ev Γ (.not a)) :: sops Γ es := (rfl)
@[simp] theorem sops_ite : sops Γ (.ite a b c :: es) = .e (ev Γ (.ite a b c)) :: sops Γ es := (rfl)
@[simp] theorem sops_call : sops Γ (.call x as bs ks π :: es) = .e (ev Γ (.call x as bs ks π)) :: sops Γ es := (rfl)
@[simp] theorem sops_mut : sops Γ (.mut m i p as :: es) = .e (ev Γ (.mut m i p as)) :: sops Γ es := (rfl)
@[simp] theorem sops_lc : sops Γ (.lc own t ik as ifs a :: es) = .e (ev Γ (.lc own t ik as ifs a)) :: sops Γ es := (rfl)
@[simp] theorem sops_fz : sops Γ (.fz a :: es) = .e (ev Γ (.fz a)) :: sops Γ es := (rfl)
@[simp] theorem sops_at : sops Γ (.at i p :: es) = .e (ev Γ (.at i p)) :: sops Γ es := (rfl)
@[simp] theorem sops_dct : sops Γ (.dct kk as :: es) = .e (ev Γ (.dct kk as)) :: sops Γ es := (rfl)
@[simp] theorem lops_lit : lops Γ (.lit d :: es) = .e (ev Γ (.lit d)) :: lops Γ es := (rfl)
@[simp] theorem lops_rd : lops Γ (.rd i :: es) = .e (ev Γ (.rd i)) :: lops Γ es := (rfl)
@[simp] theorem lops_mv : lops Γ (.mv i :: es) = .e (ev Γ (.mv i)) :: lops Γ es := (rfl)
@[simp] theorem lops_gl : lops Γ (.gl x :: es) = .e (ev Γ (.gl x)) :: lops Γ es := (rfl)
@[simp] theorem lops_tup : lops Γ (.tup as :: es) = .e (ev Γ (.tup as)) :: lops Γ es := (rfl)
@[simp] theorem lops_lst : lops Γ (.lst as :: es) = .e (ev Γ (.lst as)) :: lops Γ es := (rfl)
@[simp] theorem lops_op : lops Γ (.op o as :: es) = .e (ev Γ (.op o as)) :: lops Γ es := (rfl)
@[simp] theorem lops_call : lops Γ (.call x as bs ks π :: es) = .e (ev Γ (.call x as bs ks π)) :: lops Γ es := (rfl)
@[simp] theorem lops_lc : lops Γ (.lc own t ik as ifs a :: es) = .e (ev Γ (.lc own t ik as ifs a)) :: lops Γ es := (rfl)
@[simp] theorem lops_fz : lops Γ (.fz a :: es) = .e (ev Γ (.fz a)) :: lops Γ es := (rfl)
@[simp] theorem lops_at : lops Γ (.at i p :: es) = .e (ev Γ (.at i p)) :: lops Γ es := (rfl)
end
@[simp] theorem runO_nil : runO [] ρ = .ok ([], ρ) := (rfl)
@[simp] theorem runO_e {f : EF} {r : List Sop} : runO (.e f :: r) ρ = (f ρ).bind fun p => (runO r p.2).bind fun q => .ok (.d p.1 :: q.1, q.2) := (rfl)
@[simp] theorem runO_v' {i : Nat} {r : List Sop} : runO (.v i :: r) ρ = (match ρ[i]? with
  | some (some _) => (runO r ρ).bind fun q => .ok (.v i :: q.1, q.2)
  | _ => .no) := (rfl)
@[simp] theorem runO_p' {i : Nat} {path : List PK} {r : List Sop} : runO (.p i path :: r) ρ = (match ρ[i]? with
  | some (some d) => match getP path d with
    | some _ => (runO r (ρ.set i none)).bind fun q => .ok (.p i path d :: q.1, q.2)
    | none => .no
  | _ => .no) := (rfl)
@[simp] theorem asgF_eq {t : Tg} {f : EF} : asgF t f ρ = (f ρ).out fun q => match bindT [] t q.1 q.2 with
  | some ρ' => .nx ρ'
  | none => .no := (rfl)
@[simp] theorem parF_eq {is : List Nat} {ops : List Sop} : parF is ops ρ = (runO ops ρ).out fun q => match ods q.1 with
  | some ds => match setAll [] is ds q.2 with
    | some ρ' => .nx ρ'
    | none => .no
  | none => .no := (rfl)
@[simp] theorem exF_eq {f : EF} : exF f ρ = (f ρ).out fun q => .nx q.2 := (rfl)
@[simp] theorem iteF_eq {c : TF} {a b : SF} : iteF c a b ρ = (c ρ).out fun q => if q.1 = true then a q.2 else b q.2 := (rfl)
@[simp] theorem retF_eq {f : EF} : retF f ρ = (f ρ).out fun q => .rt q.1 q.2 := (rfl)
@[simp] theorem frzF_eq {i : Nat} : frzF i ρ = (match ρ[i]? with
  | some (some d) => match d.fz with
    | some p => .nx (ρ.set i (some (.sh p)))
    | none => .no
  | _ => .no) := (rfl)
@[simp] theorem borF_eq {j i : Nat} {path : List PK} {b : SF} : borF j i path b ρ = (match ρ[i]? with
  | some (some root) => match getP path root with
    | some d => if i ≠ j ∧ j < ρ.length then (b ((ρ.set i none).set j (some d))).back (giveB j i path root) else .no
    | none => .no
  | _ => .no) := (rfl)
@[simp] theorem giveB_eq {j i : Nat} {path : List PK} {root : D} : giveB j i path root ρ = (match ρ[j]?, ρ[i]? with
  | some (some d), some none => some ((ρ.set j none).set i (some (setP path root d)))
  | _, _ => none) := (rfl)
@[simp] theorem back_nx {f : Env → Option Env} : (Out.nx ρ).back f = (match f ρ with | some ρ' => .nx ρ' | none => .no) := (rfl)
@[simp] theorem back_rt {f : Env → Option Env} {d : D} : (Out.rt d ρ).back f = (match f ρ with | some ρ' => .rt d ρ' | none => .no) := (rfl)
@[simp] theorem back_br {f : Env → Option Env} : (Out.br ρ).back f = (match f ρ with | some ρ' => .br ρ' | none => .no) := (rfl)
@[simp] theorem back_ct {f : Env → Option Env} : (Out.ct ρ).back f = (match f ρ with | some ρ' => .ct ρ' | none => .no) := (rfl)
@[simp] theorem putF_eq {dk : Bool} {i : Nat} {path : List PK} {k f : EF} : putF dk i path k f ρ = (f ρ).out fun q => match q.2[i]? with
  | some (some root) => match getP path root with
    | some c => match k (q.2.set i none) with
      | .ok (.sh kk, ρ2) => match putD dk c kk q.1 with
        | some c' => match ρ2[i]? with
          | some none => .nx (ρ2.set i (some (setP path root c')))
          | _ => .no
        | none => .no
      | _ => .no
    | none => .no
  | _ => .no := (rfl)
@[simp] theorem rdE_eq {i : Nat} : rdE i ρ = (match ρ[i]? with
  | some (some (.sh d)) => .ok (.sh d, ρ)
  | _ => .no) := (rfl)
@[simp] theorem mvE_eq {i : Nat} : mvE i ρ = (match ρ[i]? with
  | some (some d) => .ok (d, ρ.set i none)
  | _ => .no) := (rfl)
@[simp] theorem litE_eq {d : PyData} : litE d ρ = .ok (.sh d, ρ) := (rfl)
@[simp] theorem opE_eq {o : List D → Option D} {ops : List Sop} : opE o ops ρ = (runO ops ρ).bind fun q => match ovs q.1 q.2 with
  | some ds => match o ds with
    | some d => match unlock q.1 q.2 with
      | some ρ' => .ok (d, ρ')
      | none => .no
    | none => .no
  | none => .no := (rfl)
@[simp] theorem dispE_eq {mk : List D → D} {ops : List Sop} : dispE mk ops ρ = (runO ops ρ).bind fun q => match ods q.1 with
  | some ds => if ds.length ≤ 1000 then .ok (mk ds, q.2) else .no
  | none => .no := (rfl)
@[simp] theorem fzE_eq {f : EF} : fzE f ρ = (f ρ).bind fun q => match q.1.fz with
  | some d => .ok (.sh d, q.2)
  | none => .no := (rfl)
@[simp] theorem boolE_eq {f : EF} : boolE f ρ = (f ρ).bind fun q => match q.1 with
  | .sh (.bool b) => .ok (b, q.2)
  | _ => .no := (rfl)
@[simp] theorem notE_eq {f : EF} : notE f ρ = (f ρ).bind fun q => match q.1 with
  | .sh (.bool b) => .ok (DB (!b), q.2)
  | _ => .no := (rfl)
@[simp] theorem iteE_eq {c : TF} {a b : EF} : iteE c a b ρ = (c ρ).bind fun q => if q.1 = true then a q.2 else b q.2 := (rfl)
@[simp] theorem bopT_one {k : Bool} {f : TF} : bopT k [f] ρ = f ρ := (rfl)
@[simp] theorem bopT_two {k : Bool} {f g : TF} {r : List TF} : bopT k (f :: g :: r) ρ = (f ρ).bind fun q => if q.1 = k then bopT k (g :: r) q.2 else .ok (q.1, q.2) := (rfl)
@[simp] theorem bopE_one {k : Bool} {f : EF} : bopE k [f] ρ = f ρ := (rfl)
@[simp] theorem bopE_two {k : Bool} {f g : EF} {r : List EF} : bopE k (f :: g :: r) ρ = (f ρ).bind fun q => match q.1 with
    | .sh (.bool b) => if b = k then bopE k (g :: r) q.2 else .ok (DB b, q.2)
    | _ => .no := (rfl)
@[simp] theorem atE_eq {i : Nat} {path : List PK} : atE i path ρ = (match ρ[i]? with
  | some (some root) => match getP path root with
    | some (.sh d) => .ok (.sh d, ρ)
    | _ => .no
  | _ => .no) := (rfl)
@[simp] theorem dctE_eq {ks : List Key} {ops : List Sop} : dctE ks ops ρ = (runO ops ρ).bind fun q => match ods q.1 with
  | some ds => if ks.length = ds.length ∧ ks.Nodup then .ok (.dk ks ds, q.2) else .no
  | none => .no := (rfl)
@[simp] theorem mutE_eq {m : Mo} {i : Nat} {path : List PK} {ops : List Sop} : mutE m i path ops ρ = (match ρ[i]? with
  | some (some root) => match getP path root with
    | some (.ls _) => match path with
      | [] => (runO ops ρ).bind fun q => match ods q.1, q.2[i]? with
        | some as, some (some (.ls ds)) => match mo m ds as with
          | some (ds', r) => .ok (r, q.2.set i (some (.ls ds')))
          | none => .no
        | _, _ => .no
      | path => (runO ops (ρ.set i none)).bind fun q => match ods q.1, getP path root, q.2[i]? with
        | some as, some (.ls ds), some none => match mo m ds as with
          | some (ds', r) => .ok (r, q.2.set i (some (setP path root (.ls ds'))))
          | none => .no
        | _, _, _ => .no
    | _ => .no
  | _ => .no) := by
  unfold mutE
  rfl
@[simp] theorem callE_some {dn : Den} {ks : List Str} {ops : List Sop} {π : List Nat} : callE (some dn) ks ops π ρ = callD dn ks ops π ρ := (rfl)
@[simp] theorem callD_eq {dn : Den} {ks : List Str} {ops : List Sop} {π : List Nat} : callD dn ks ops π ρ = (runO ops ρ).bind fun q => match arr ks π q.1 with
  | some os => match argD dn.io os q.2 with
    | some (ds, ρ1) => match dn.m ds with
      | .ok r outs => match backD dn.io os outs ρ1 with
        | some ρ2 => .ok (r, ρ2)
        | none => .no
      | .ex x outs => match backD dn.io os outs ρ1 with
        | some ρ2 => .ex x ρ2
        | none => .no
      | .no => .no
    | none => .no
  | none => .no := (rfl)
theorem runO_v {i : Nat} {r : List Sop} {d : D} (h : ρ[i]? = some (some d)) : runO (.v i :: r) ρ = (runO r ρ).bind fun q => .ok (.v i :: q.1, q.2) := by
  simp only [runO, h]
theorem runO_p {i : Nat} {path : List PK} {r : List Sop} {d x : D} (h : ρ[i]? = some (some d)) (h2 : getP path d = some x) : runO (.p i path :: r) ρ = (runO r (ρ.set i none)).bind fun q => .ok (.p i path d :: q.1, q.2) := by
  simp only [runO, h, h2]
theorem rdE_some {i : Nat} {d : PyData} (h : ρ[i]? = some (some (.sh d))) : rdE i ρ = .ok (.sh d, ρ) := by
  simp only [rdE, h]
theorem mvE_some {i : Nat} {d : D} (h : ρ[i]? = some (some d)) : mvE i ρ = .ok (d, ρ.set i none) := by
  simp only [mvE, h]
end
end Vs
/-! V29: operations on known values. -/
namespace Vs
open PySem PySem.Spec L2
open PyProof.Rows hiding St
theorem lay_ints (l : List Int) : PyData.canLayAll0 (l.map .int) = true := by
  induction l with
  | nil => rfl
  | cons a l ih => simp [PyData.canLayAll0, PyData.canLay0, ih]
theorem depth_ints (l : List Int) : PyData.depthAll (l.map .int) = 0 := by
  induction l with
  | nil => rfl
  | cons a l ih => simp [PyData.depthAll, PyData.depth, ih]
@[simp] theorem shaped_ints (l : List Int) : SeqAt.shaped (.list (l.map .int)) = true := by
  simp [SeqAt.shaped, PyData.canLay0, lay_ints, PyData.depth, depth_ints]
@[simp] theorem shaped_intsT (l : List Int) : SeqAt.shaped (.tuple (l.map .int)) = true := by
  simp [SeqAt.shaped, PyData.canLay0, lay_ints, PyData.depth, depth_ints]
@[simp] theorem shaped_nil : SeqAt.shaped (.list []) = true := (rfl)
@[simp] theorem shaped_nilT : SeqAt.shaped (.tuple []) = true := (rfl)
@[simp] theorem shaped_int (i : Int) : SeqAt.shaped (.int i) = true := (rfl)
@[simp] theorem shaped_bool (i : Bool) : SeqAt.shaped (.bool i) = true := (rfl)
@[simp] theorem shaped_none : SeqAt.shaped .none = true := (rfl)
@[simp] theorem eqv_nil : PyData.eqv (.list []) (.list []) = true := (rfl)
@[simp] theorem eqv_cons_nil {a : PyData} {l : List PyData} : PyData.eqv (.list (a :: l)) (.list []) = false := (rfl)
@[simp] theorem eqv_nil_cons {a : PyData} {l : List PyData} : PyData.eqv (.list []) (.list (a :: l)) = false := (rfl)
@[simp] theorem eqv_int {i j : Int} : PyData.eqv (.int i) (.int j) = (i == j) := by simp only [PyData.eqv]
@[simp] theorem eqv_str {i j : Str} : PyData.eqv (.str i) (.str j) = (i == j) := by simp only [PyData.eqv]
@[simp] theorem oAdd_int {i j : Int} : oAdd (.sh (.int i)) (.sh (.int j)) = some (.sh (.int (i + j))) := (rfl)
@[simp] theorem oMul_int {i j : Int} : oMul (.sh (.int i)) (.sh (.int j)) = guardO (small64b i || small64b j) (.sh (.int (i * j))) := (rfl)
@[simp] theorem oInt2_int {f : Int → Int → Int} {c : Int → Int → Bool} {i j : Int} : oInt2 f c (.sh (.int i)) (.sh (.int j)) = guardO (c i j) (.sh (.int (f i j))) := (rfl)
@[simp] theorem oCmpI_int {f : Int → Int → Bool} {i j : Int} : oCmpI f (.sh (.int i)) (.sh (.int j)) = some (.sh (.bool (f i j))) := (rfl)
@[simp] theorem oInt_int {i : Int} : oInt (.sh (.int i)) = some (.sh (.int i)) := (rfl)
@[simp] theorem oInt_bool {i : Bool} : oInt (.sh (.bool i)) = some (.sh (.int (if i = true then 1 else 0))) := by cases i <;> rfl
@[simp] theorem oAbs_int {i : Int} : oAbs (.sh (.int i)) = some (.sh (.int (if i < 0 then -i else i))) := (rfl)
@[simp] theorem oNeg_int {i : Int} : oNeg (.sh (.int i)) = some (.sh (.int (-i))) := (rfl)
@[simp] theorem oLen_ls {ds : List D} : oLen (.ls ds) = some (.sh (.int ds.length)) := (rfl)
@[simp] theorem oLen_list {ds : List PyData} : oLen (.sh (.list ds)) = some (.sh (.int ds.length)) := (rfl)
@[simp] theorem oLen_tuple {ds : List PyData} : oLen (.sh (.tuple ds)) = some (.sh (.int ds.length)) := (rfl)
@[simp] theorem py_sh {d : PyData} : D.py (.sh d) = some d := by simp only [D.py]
@[simp] theorem py_ls {ds : List D} : D.py (.ls ds) = (match D.pys ds with | some l => some (.list l) | none => none) := by
  rw [D.py]
  try rfl
@[simp] theorem pys_nil : D.pys [] = some [] := by simp only [D.pys]
@[simp] theorem pys_cons {d : D} {ds : List D} : D.pys (d :: ds) = (match D.py d, D.pys ds with
    | some x, some l => some (x :: l)
    | _, _ => none) := by
  rw [D.pys]
  try rfl
@[simp] theorem fz_sh {d : PyData} : D.fz (.sh d) = some d := by simp only [D.fz]
@[simp] theorem fzs_sh (l : List PyData) : D.fzs (l.map .sh) = some l := by
  induction l with
  | nil => simp only [List.map_nil, D.fzs]
  | cons a l ih => simp only [List.map_cons, D.fzs, D.fz, ih]
theorem fz_ls {ds : List D} {l : List PyData} (h : D.fzs ds = some l) : D.fz (.ls ds) = some (.list l) := by simp only [D.fz, h]
@[simp] theorem fz_lsh (l : List PyData) : D.fz (.ls (l.map .sh)) = some (.list l) := fz_ls (fzs_sh l)
@[simp] theorem pys_comp (l : List Int) : D.pys (l.map (D.sh ∘ PyData.int)) = some (l.map .int) := by
  rw [← List.map_map]
  exact pys_map _
@[simp] theorem shaped_icons (a : Int) (l : List Int) : SeqAt.shaped (.list (.int a :: l.map .int)) = true := shaped_ints (a :: l)
theorem small_of {i : Int} (h : i.natAbs < 18446744073709551616) : small64b i = true := by simp [small64b, h]
section
variable {a b : D} {ρ : Env} {os : List Ov} {pr : List Nat}
@[simp] theorem opD_add : opD .add [a, b] = oAdd a b := (rfl)
@[simp] theorem opD_sub : opD .sub [a, b] = oInt2 (fun i j => i - j) (fun _ _ => true) a b := (rfl)
@[simp] theorem opD_mul : opD .mul [a, b] = oMul a b := (rfl)
@[simp] theorem opD_fdiv : opD .fdiv [a, b] = oInt2 (fun i j => i / j) (fun _ j => decide (0 < j) && decide (j < 1073741824)) a b := (rfl)
@[simp] theorem opD_mod : opD .mod [a, b] = oInt2 (fun i j => i % j) (fun _ j => decide (0 < j)) a b := (rfl)
@[simp] theorem opD_pow : opD .pow [a, b] = oInt2 (fun i j => i ^ j.toNat) powOk a b := (rfl)
@[simp] theorem opD_lt : opD .lt [a, b] = oCmpI (fun i j => decide (i < j)) a b := (rfl)
@[simp] theorem opD_le : opD .le [a, b] = oCmpI (fun i j => decide (i ≤ j)) a b := (rfl)
@[simp] theorem opD_gt : opD .gt [a, b] = oCmpI (fun i j => decide (j < i)) a b := (rfl)
@[simp] theorem opD_ge : opD .ge [a, b] = oCmpI (fun i j => decide (j ≤ i)) a b := (rfl)
@[simp] theorem opD_eq : opD .eq [a, b] = oEq false a b := (rfl)
@[simp] theorem opD_ne : opD .ne [a, b] = oEq true a b := (rfl)
@[simp] theorem opD_isin : opD .isin [a, b] = oIn false a b := (rfl)
@[simp] theorem opD_notin : opD .notin [a, b] = oIn true a b := (rfl)
@[simp] theorem opD_is_ : opD .is_ [a, b] = oIs false a b := (rfl)
@[simp] theorem opD_isnot : opD .isnot [a, b] = oIs true a b := (rfl)
@[simp] theorem opD_ix : opD .ix [a, b] = oIx a b := (rfl)
@[simp] theorem opD_neg : opD .neg [a] = oNeg a := (rfl)
@[simp] theorem opD_sl : opD .sl [a] = oSl none none a := (rfl)
@[simp] theorem opD_len : opD .len [a] = oLen a := (rfl)
@[simp] theorem opD_abs : opD .abs [a] = oAbs a := (rfl)
@[simp] theorem opD_int : opD .int [a] = oInt a := (rfl)
@[simp] theorem opD_repr : opD .repr [a] = oRepr a := (rfl)
@[simp] theorem opD_list : opD .list [a] = oList a := (rfl)
@[simp] theorem opD_tuple : opD .tuple [a] = oTuple a := (rfl)
@[simp] theorem opD_sorted : opD .sorted [a] = oSorted a := (rfl)
@[simp] theorem opD_sum : opD .sum [a] = oSum a := (rfl)
@[simp] theorem opD_all : opD .all [a] = oAll a := (rfl)
@[simp] theorem opD_any : opD .any [a] = oAny a := (rfl)
@[simp] theorem opD_slH {k : Int} : opD .slH [a, .sh (.int k)] = oSl none (some k) a := (rfl)
@[simp] theorem opD_slL {k : Int} : opD .slL [a, .sh (.int k)] = oSl (some k) none a := (rfl)
@[simp] theorem opD_slLH {k l : Int} : opD .slLH [a, .sh (.int k), .sh (.int l)] = oSl (some k) (some l) a := (rfl)
@[simp] theorem opD_isi {t : Ty} : opD (.isi t) [a] = oIsi t a := (rfl)
@[simp] theorem ovs_nil : ovs [] ρ = some [] := (rfl)
@[simp] theorem ovs_d : ovs (.d a :: os) ρ = (match ovs os ρ with | some l => some (a :: l) | none => none) := (rfl)
@[simp] theorem ovs_v {i : Nat} : ovs (.v i :: os) ρ = (match ρ[i]?, ovs os ρ with | some (some d), some l => some (d :: l) | _, _ => none) := (rfl)
@[simp] theorem ovs_p {i : Nat} {p : List PK} : ovs (.p i p a :: os) ρ = (match getP p a, ovs os ρ with | some x, some l => some (x :: l) | _, _ => none) := (rfl)
@[simp] theorem ods_nil : ods [] = some [] := (rfl)
@[simp] theorem ods_d : ods (.d a :: os) = (match ods os with | some l => some (a :: l) | none => none) := (rfl)
@[simp] theorem unlock_nil : unlock [] ρ = some ρ := (rfl)
@[simp] theorem unlock_d : unlock (.d a :: os) ρ = unlock os ρ := (rfl)
@[simp] theorem unlock_v {i : Nat} : unlock (.v i :: os) ρ = unlock os ρ := (rfl)
@[simp] theorem unlock_p {i : Nat} {p : List PK} : unlock (.p i p a :: os) ρ = (match unlock os ρ with | some ρ' => (match ρ'[i]? with | some none => some (ρ'.set i (some a)) | _ => none) | none => none) := (rfl)
@[simp] theorem bindT_nm {i : Nat} : bindT [] (.nm i) a ρ = (if i < ρ.length then some (ρ.set i (some a)) else none) := (rfl)
@[simp] theorem bindT_tps {is : List Nat} {l : List PyData} : bindT [] (.tp is) (.sh (.tuple l)) ρ = setAll [] is (l.map .sh) ρ := (rfl)
@[simp] theorem bindT_tp {is : List Nat} {l : List D} : bindT [] (.tp is) (.tp l) ρ = setAll [] is l ρ := (rfl)
@[simp] theorem setAll_nil : setAll pr [] [] ρ = some ρ := (rfl)
@[simp] theorem setAll_cons {i : Nat} {is : List Nat} {ds : List D} : setAll [] (i :: is) (a :: ds) ρ = (if i < ρ.length then setAll [] is ds (ρ.set i (some a)) else none) := by
  rw [setAll]
  simp only [setN]
  by_cases h : i < ρ.length <;> simp [h]
@[simp] theorem outsE_nil : outsE [] ρ = some [] := (rfl)
@[simp] theorem outsE_f {o : Option D} {io : List Bool} : outsE (false :: io) (o :: ρ) = outsE io ρ := (rfl)
@[simp] theorem outsE_t {o : Option D} {io : List Bool} : outsE (true :: io) (o :: ρ) = (match o, outsE io ρ with | some d, some l => some (d :: l) | _, _ => none) := (rfl)
@[simp] theorem wipe_nil : wipeE ρ [] = ρ := (rfl)
@[simp] theorem wipe_cons {i : Nat} {is : List Nat} : wipeE ρ (i :: is) = (wipeE ρ is).set i none := (rfl)
@[simp] theorem seq_DL {l : List PyData} : (D.ls (l.map .sh)).seq = some (.lst, l) := by simp only [D.seq, unsh_map]
@[simp] theorem seq_list {l : List PyData} : (D.sh (.list l)).seq = some (.lst, l) := (rfl)
@[simp] theorem seq_tuple {l : List PyData} : (D.sh (.tuple l)).seq = some (.tup, l) := (rfl)
@[simp] theorem itF_seq : itF .seq [a] = (match a.seq with | some (_, l) => some l | none => none) := (rfl)
@[simp] theorem itF_rev1 : itF .rev [a] = (match a.seq with | some (_, l) => some l.reverse | none => none) := (rfl)
@[simp] theorem itF_enum1 : itF .enum [a] = (match a.seq with | some (_, l) => some (enumD 0 l) | none => none) := (rfl)
theorem itF_rngI {n : Int} : itF .rng [.sh (.int n)] = (if n < 16777216 ∧ -16777216 < n then some (rngD 0 n.toNat) else none) := (rfl)
theorem itF_rngN {n : Nat} (h : n < 16777216) : itF .rng [.sh (.int (n : Int))] = some (rngD 0 n) := by
  rw [itF_rngI, if_pos ⟨by omega, by omega⟩, Int.toNat_natCast]
@[simp] theorem oSl_list {l : List PyData} {x y : Option Int} : oSl x y (.sh (.list l)) = some (.ls ((cutL l x y).map .sh)) := (rfl)
@[simp] theorem oSl_tuple {l : List PyData} {x y : Option Int} : oSl x y (.sh (.tuple l)) = some (.sh (.tuple (cutL l x y))) := (rfl)
theorem cut_H {l : List PyData} {k : Int} (h : 0 ≤ k) : cutL l none (some k) = l.take k.toNat := by
  unfold cutL
  simp only [HT.sIx]
  rw [if_neg (by omega), List.drop_zero, Nat.sub_zero]
  by_cases hk : k.toNat ≤ l.length
  · rw [Nat.min_eq_left hk]
  · rw [Nat.min_eq_right (by omega), List.take_of_length_le (Nat.le_refl _), List.take_of_length_le (by omega)]
@[simp] theorem oList_list {l : List PyData} : oList (.sh (.list l)) = some (.ls (l.map .sh)) := (rfl)
@[simp] theorem oList_tuple {l : List PyData} : oList (.sh (.tuple l)) = some (.ls (l.map .sh)) := (rfl)
@[simp] theorem oTuple_ls {l : List PyData} : oTuple (.ls (l.map .sh)) = some (.sh (.tuple l)) := by simp only [oTuple, seq_DL]
@[simp] theorem argD_nil : argD [] [] ρ = some ([], ρ) := (rfl)
@[simp] theorem argD_f {io : List Bool} : argD (false :: io) (.d a :: os) ρ = (match argD io os ρ with | some (l, ρ') => some (a :: l, ρ') | none => none) := (rfl)
@[simp] theorem argD_t {io : List Bool} {i : Nat} : argD (true :: io) (.v i :: os) ρ = (match ρ[i]? with | some (some d) => (match argD io os (ρ.set i none) with | some (l, ρ') => some (d :: l, ρ') | none => none) | _ => none) := (rfl)
@[simp] theorem backD_nil : backD [] [] [] ρ = some ρ := (rfl)
@[simp] theorem backD_f {io : List Bool} {o : Ov} {outs : List D} : backD (false :: io) (o :: os) outs ρ = backD io os outs ρ := by cases outs <;> rfl
@[simp] theorem backD_t {io : List Bool} {i : Nat} {outs : List D} : backD (true :: io) (.v i :: os) (a :: outs) ρ = (match ρ[i]? with | some none => backD io os outs (ρ.set i (some a)) | _ => none) := (rfl)
@[simp] theorem arr_nil {π : List Nat} : arr [] π os = some os := (rfl)
end
end Vs
/-! V30: loops of the evaluator, by invariants. -/
namespace Vs
open PySem PySem.Spec L2
open PyProof.Rows hiding St
theorem lcL_filter {own : List Nat} {t : Tg} {test : TF} {f : EF} {ρ : Env} (b : PyData → Bool) (g : PyData → D) : ∀ (ps : List PyData) (acc : List D), (∀ p ∈ ps, ∃ ρ1, bindT [] t (.sh p) ρ = some ρ1 ∧ test ρ1 = .ok (b p, ρ1) ∧ (b p = true → f ρ1 = .ok (g p, ρ1)) ∧ wipeE ρ1 own = ρ) → acc.length + ps.length ≤ 1000000 →
    lcL own t test f ps ρ acc = some (acc ++ (ps.filter b).map g, ρ)
  | [], acc, _, _ => by simp [lcL]
  | p :: ps, acc, h, hl => by
    obtain ⟨ρ1, h1, h2, h3, h4⟩ := h p List.mem_cons_self
    have hl' : acc.length + ps.length + 1 ≤ 1000000 := by simpa [Nat.add_assoc] using hl
    unfold lcL
    simp only [h1, h2]
    cases e : b p with
    | false =>
      simp only [h4]
      rw [lcL_filter b g ps acc (fun q hq => h q (List.mem_cons_of_mem _ hq)) (by omega)]
      simp [e]
    | true =>
      simp only [h3 e, h4]
      rw [if_pos (by omega), lcL_filter b g ps (acc ++ [g p]) (fun q hq => h q (List.mem_cons_of_mem _ hq)) (by simp; omega)]
      simp [e]
theorem lcL_map {own : List Nat} {t : Tg} {test : TF} {f : EF} {ρ : Env} (g : PyData → D) (ps : List PyData) (h : ∀ p ∈ ps, ∃ ρ1, bindT [] t (.sh p) ρ = some ρ1 ∧ test ρ1 = .ok (true, ρ1) ∧ f ρ1 = .ok (g p, ρ1) ∧ wipeE ρ1 own = ρ) (hl : ps.length ≤ 1000000) :
    lcL own t test f ps ρ [] = some (ps.map g, ρ) := by
  have := lcL_filter (own := own) (t := t) (test := test) (f := f) (ρ := ρ) (fun _ => true) g ps [] (fun p hp => by
    obtain ⟨ρ1, h1, h2, h3, h4⟩ := h p hp
    exact ⟨ρ1, h1, h2, fun _ => h3, h4⟩) (by simpa using hl)
  rw [List.filter_eq_self.mpr (fun _ _ => rfl)] at this
  simpa using this
/-- with something that goes along (a pot of draws) -/
theorem lcL_inv {own : List Nat} {t : Tg} {test : TF} {f : EF} (I : Nat → Env → List D → Prop) : ∀ (ps : List PyData) (k : Nat) (ρ : Env) (acc : List D), I k ρ acc → (∀ i p ρ acc, ps[i]? = some p → I (k + i) ρ acc → acc.length < 1000000 ∧ ∃ ρ1, bindT [] t (.sh p) ρ = some ρ1 ∧
      ((∃ ρ2 d ρ3, test ρ1 = .ok (true, ρ2) ∧ f ρ2 = .ok (d, ρ3) ∧ I (k + i + 1) (wipeE ρ3 own) (acc ++ [d])) ∨ ∃ ρ2, test ρ1 = .ok (false, ρ2) ∧ I (k + i + 1) (wipeE ρ2 own) acc)) →
    ∃ acc' ρ', lcL own t test f ps ρ acc = some (acc', ρ') ∧ I (k + ps.length) ρ' acc'
  | [], k, ρ, acc, h0, _ => ⟨acc, ρ, rfl, h0⟩
  | p :: ps, k, ρ, acc, h0, hs => by
    obtain ⟨hl, ρ1, h1, h2⟩ := hs 0 p ρ acc rfl h0
    have next : ∀ ρ' acc', I (k + 1) ρ' acc' → ∃ acc2 ρ2, lcL own t test f ps ρ' acc' = some (acc2, ρ2) ∧ I (k + (ps.length + 1)) ρ2 acc2 := fun ρ' acc' h => by
      obtain ⟨a, r, e, q⟩ := lcL_inv I ps (k + 1) ρ' acc' h fun i p ρ acc hp hi => by
        have := hs (i + 1) p ρ acc (by simpa using hp) (by rwa [show k + (i + 1) = k + 1 + i by omega])
        rwa [show k + (i + 1) = k + 1 + i by omega] at this
      exact ⟨a, r, e, by rw [show k + (ps.length + 1) = k + 1 + ps.length by omega]; exact q⟩
    unfold lcL
    simp only [h1]
    rcases h2 with ⟨ρ2, d, ρ3, h2, h3, h4⟩ | ⟨ρ2, h2, h4⟩
    · simp only [h2, h3, if_pos hl]
      exact next _ _ h4
    · simp only [h2]
      exact next _ _ h4
/-- a for that runs to its end -/
theorem lopL_run {t : Tg} {b : SF} (I : Nat → Env → Prop) : ∀ (ps : List PyData) (k : Nat) (ρ : Env), I k ρ → (∀ i p ρ, ps[i]? = some p → I (k + i) ρ → ∃ ρ1 ρ2, bindT [] t (.sh p) ρ = some ρ1 ∧ (b ρ1 = .nx ρ2 ∨ b ρ1 = .ct ρ2) ∧ I (k + i + 1) ρ2) → ∃ ρ', lopL t b ps ρ = .nx ρ' ∧ I (k + ps.length) ρ'
  | [], k, ρ, h0, _ => ⟨ρ, rfl, h0⟩
  | p :: ps, k, ρ, h0, hs => by
    obtain ⟨ρ1, ρ2, h1, h2, h3⟩ := hs 0 p ρ rfl h0
    obtain ⟨r, e, q⟩ := lopL_run I ps (k + 1) ρ2 h3 fun i p ρ hp hi => by
      have := hs (i + 1) p ρ (by simpa using hp) (by rwa [show k + (i + 1) = k + 1 + i by omega])
      rwa [show k + (i + 1) = k + 1 + i by omega] at this
    refine ⟨r, ?_, by rw [List.length_cons, show k + (ps.length + 1) = k + 1 + ps.length by omega]; exact q⟩
    unfold lopL
    simp only [h1]
    rcases h2 with h2 | h2 <;> (simp only [h2]; exact e)
/-- a while that runs to its end: a measure -/
theorem whL_run {c : TF} {b : SF} (I : Nat → Env → Prop) (hs : ∀ m ρ, I m ρ → (∃ ρ1, c ρ = .ok (false, ρ1) ∧ I 0 ρ1) ∨ ∃ ρ1 ρ2 m', c ρ = .ok (true, ρ1) ∧ (b ρ1 = .nx ρ2 ∨ b ρ1 = .ct ρ2) ∧ m' < m ∧ I m' ρ2) : ∀ (n m : Nat) (ρ : Env), I m ρ → m < n → ∃ ρ', whL c b n ρ = .nx ρ' ∧ I 0 ρ'
  | 0, m, ρ, _, h => absurd h (Nat.not_lt_zero _)
  | n + 1, m, ρ, h0, hn => by
    rcases hs m ρ h0 with ⟨ρ1, h1, h2⟩ | ⟨ρ1, ρ2, m', h1, h2, h3, h4⟩
    · exact ⟨ρ1, by simp [whL, h1], h2⟩
    · obtain ⟨r, e, q⟩ := whL_run I hs n m' ρ2 h4 (by omega)
      refine ⟨r, ?_, q⟩
      rcases h2 with h2 | h2 <;> (simp [whL, h1, h2]; exact e)
theorem lopF_eq {t : Tg} {k : ItK} {ops : List Sop} {b : SF} {ρ : Env} : lopF t k ops b ρ = (runO ops ρ).out fun q => match ovs q.1 [] with
  | some ds => match itF k ds with
    | some ps => (lopL t b ps q.2).back (unlock q.1)
    | none => .no
  | none => .no := (rfl)
theorem lcE_eq {own : List Nat} {t : Tg} {k : ItK} {ops : List Sop} {test : TF} {f : EF} {ρ : Env} : lcE own t k ops test f ρ = (runO ops ρ).bind fun q => match ovs q.1 [] with
  | some ds => match itF k ds with
    | some ps => match lcL own t test f ps (wipeE q.2 own) [] with
      | some z => match unlock q.1 z.2 with
        | some ρ' => .ok (.ls z.1, ρ')
        | none => .no
      | none => .no
    | none => .no
  | none => .no := (rfl)
@[simp] theorem ifT_nil {ρ : Env} : ifT [] ρ = .ok (true, ρ) := (rfl)
@[simp] theorem ifT_one {c : TF} {ρ : Env} : ifT [c] ρ = c ρ := (rfl)
theorem lopF_run {t : Tg} {k : ItK} {ops : List Sop} {b : SF} {ρ ρ1 ρ2 ρ3 : Env} {os : List Ov} {ds : List D} {ps : List PyData} (e1 : runO ops ρ = .ok (os, ρ1)) (e2 : ovs os [] = some ds) (e3 : itF k ds = some ps) (e4 : lopL t b ps ρ1 = .nx ρ2) (e5 : unlock os ρ2 = some ρ3) : lopF t k ops b ρ = .nx ρ3 := by
  rw [lopF_eq, e1, out_ok]
  simp only [e2, e3, e4, back_nx, e5]
end Vs
/-! V31: lists that are written, on known values. -/
namespace Vs
open PySem PySem.Spec L2
open PyProof.Rows hiding St
theorem ixN_some {n : Nat} {r : Int} (h0 : 0 ≤ r) (h1 : r < n) : ixN n r = some r.toNat := by
  unfold ixN
  rw [if_pos h0, if_pos h1]
theorem erase_map {α β : Type} (f : α → β) : ∀ (l : List α) (j : Nat), (l.map f).eraseIdx j = (l.eraseIdx j).map f
  | [], _ => rfl
  | _ :: _, 0 => rfl
  | a :: l, j + 1 => by simp [erase_map f l j]
theorem popAt_ok {l : List PyData} {r : Int} {x : PyData} (h0 : 0 ≤ r) (h1 : r < l.length) (hx : l[r.toNat]? = some x) (hl : l.length < 1000000) : mo .popAt (l.map .sh) [.sh (.int r)] = some ((l.eraseIdx r.toNat).map .sh, .sh x) := by
  have h2 : (l.map D.sh)[r.toNat]? = some (.sh x) := by rw [List.getElem?_map, hx]; rfl
  simp only [mo, moPopAt, List.length_map, ixN_some h0 h1, h2, if_pos hl, erase_map]
theorem append_ok {l : List PyData} {x : PyData} (hl : l.length < 1000000) : mo .append (l.map .sh) [.sh x] = some ((l ++ [x]).map .sh, .sh .none) := by
  simp [mo, moAppend, hl]
theorem pop_ok {l : List PyData} {x : PyData} (hx : l.getLast? = some x) : mo .pop (l.map .sh) [] = some (l.dropLast.map .sh, .sh x) := by
  simp [mo, moPop, List.getLast?_map, hx, List.map_dropLast]
theorem mem_erase {α : Type} : ∀ {l : List α} {j : Nat} {x : α}, x ∈ l.eraseIdx j → x ∈ l
  | [], _, _, h => h
  | _ :: _, 0, _, h => List.mem_cons_of_mem _ h
  | a :: l, j + 1, x, h => by
    rcases List.mem_cons.mp h with rfl | h
    · exact List.mem_cons_self
    · exact List.mem_cons_of_mem _ (mem_erase h)
theorem len_erase {α : Type} : ∀ {l : List α} {j : Nat}, j < l.length → (l.eraseIdx j).length + 1 = l.length
  | a :: l, 0, _ => rfl
  | a :: l, j + 1, h => by
    have := len_erase (l := l) (j := j) (by simpa using h)
    simp [this]
theorem runD_rt {n : Nat} {io : List Bool} {b : SF} {ds : List D} {ρ0 ρ : Env} {d : D} {l : List D} (h1 : ds.length = io.length) (h0 : ds.map some ++ List.replicate (n - ds.length) none = ρ0) (h2 : b ρ0 = .rt d ρ) (h3 : outsE io ρ = some l) : runD n io b ds = .ok d l := by
  unfold runD
  rw [if_pos h1, h0, h2]
  simp only [h3]
theorem runD_nx {n : Nat} {io : List Bool} {b : SF} {ds : List D} {ρ0 ρ : Env} {l : List D} (h1 : ds.length = io.length) (h0 : ds.map some ++ List.replicate (n - ds.length) none = ρ0) (h2 : b ρ0 = .nx ρ) (h3 : outsE io ρ = some l) : runD n io b ds = .ok (.sh .none) l := by
  unfold runD
  rw [if_pos h1, h0, h2]
  simp only [h3]
/-- one statement, then the rest -/
theorem gos_step {Γ : Gam} {s : Sm} {r : List Sm} {ρ ρ1 : Env} {o : Out} (h1 : go Γ s ρ = .nx ρ1) (h2 : gos Γ r ρ1 = o) : gos Γ (s :: r) ρ = o := by
  rw [gos_cons, h1, seq_nx, h2]
theorem gos_last {Γ : Gam} {s : Sm} {r : List Sm} {ρ ρ1 : Env} {d : D} (h1 : go Γ s ρ = .rt d ρ1) : gos Γ (s :: r) ρ = .rt d ρ1 := by
  rw [gos_cons, h1, seq_rt]
theorem lcE_run {own : List Nat} {t : Tg} {k : ItK} {ops : List Sop} {test : TF} {f : EF} {ρ ρ1 ρ2 ρ3 : Env} {os : List Ov} {ds acc : List D} {ps : List PyData} (e1 : runO ops ρ = .ok (os, ρ1)) (e2 : ovs os [] = some ds) (e3 : itF k ds = some ps) (e4 : lcL own t test f ps (wipeE ρ1 own) [] = some (acc, ρ2)) (e5 : unlock os ρ2 = some ρ3) : lcE own t k ops test f ρ = .ok (.ls acc, ρ3) := by
  rw [lcE_eq, e1, bind_ok']
  simp only [e2, e3, e4, e5]
theorem oAdd_lss {l m : List PyData} (h : l.length + m.length ≤ 1000000) : oAdd (.ls (l.map .sh)) (.ls (m.map .sh)) = some (.ls ((l ++ m).map .sh)) := by
  have : l.length + m.length ≤ sizeLine := by rw [sizeLine_eq]; omega
  simp only [oAdd, unsh_map, decide_eq_true this, guardO_true]
theorem oAdd_tups {l m : List PyData} (h : l.length + m.length ≤ 1000000) : oAdd (.sh (.tuple l)) (.sh (.tuple m)) = some (.sh (.tuple (l ++ m))) := by
  have : l.length + m.length ≤ sizeLine := by rw [sizeLine_eq]; omega
  simp only [oAdd, decide_eq_true this, guardO_true]
end Vs
/-! V32: constants of the module, read from the written part. -/
namespace Vs
open PySem PySem.Spec L2
open PyProof.Rows hiding St
def isTupO (o : Obj) : Option (List Value) := match o.cls, o.data with
  | .type n, .seq its _ => if n = "tuple" ∧ its.size ≤ sizeLine then some its.toList else none
  | _, _ => none
mutual
def conB (K : PySem.W.Frag) (u : Value) (p : PyData) : Bool := match p with
  | .none => (match u with | .none => true | _ => false)
  | .bool c => (match u with | .bool b => b == c | _ => false)
  | .int j => (match u with | .int i _ => decide (i = j) | _ => false)
  | .str y => (match u with | .str x _ => decide (x = y) | _ => false)
  | .tuple l => (match u with
    | .ref a => (match K.lookup a with
      | some o => (match isTupO o with
        | some us => conBs K us l
        | none => false)
      | none => false)
    | _ => false)
  | _ => false
def conBs (K : PySem.W.Frag) (us : List Value) (l : List PyData) : Bool := match l with
  | [] => us.isEmpty
  | p :: l => (match us with
    | u :: us => conB K u p && conBs K us l
    | [] => false)
end
theorem isTupO_is {K : PySem.W.Frag} {a : Addr} {o : Obj} {us : List Value} {xs : List V} (h : isTupO o = some us) (hk : K.lookup a = some o) (r : Vals xs us) (H : Hp) : SqT K H a xs := by
  unfold isTupO at h
  split at h
  · rename_i n its k e1 e2
    split at h
    · rename_i hc
      cases h
      exact .inr ⟨o, its, k, hk, by rw [e1, hc.1], e2, hc.2, r⟩
    · cases h
  · cases h
mutual
theorem con_ok {G : Ga} : ∀ (p : PyData) {u : Value}, conB G.K u p = true → ∃ v, RelV v u ∧ ∀ H, DpF G.K H v p
  | .none, u, h => by
    unfold conB at h
    cases u <;> first | exact ⟨.non, rfl, fun _ => .non⟩ | cases h
  | .bool c, u, h => by
    unfold conB at h
    split at h
    · cases eq_of_beq h
      exact ⟨.bl _, rfl, fun _ => .bl _⟩
    · cases h
  | .int j, u, h => by
    unfold conB at h
    split at h
    · cases of_decide_eq_true h
      exact ⟨.int _, ⟨_, rfl⟩, fun _ => .int _⟩
    · cases h
  | .str y, u, h => by
    unfold conB at h
    split at h
    · cases of_decide_eq_true h
      exact ⟨.str _, ⟨_, rfl⟩, fun _ => .str _⟩
    · cases h
  | .tuple l, u, h => by
    unfold conB at h
    split at h
    · rename_i a
      split at h
      · rename_i o hk
        split at h
        · rename_i us ho
          obtain ⟨xs, r, d⟩ := cons_ok l h
          exact ⟨.ref a, rfl, fun H => .tup (isTupO_is ho hk r H) (d H)⟩
        · cases h
      · cases h
    · cases h
  | .list _, u, h => by unfold conB at h; cases h
  | .dict _, u, h => by unfold conB at h; cases h
theorem cons_ok {G : Ga} : ∀ (l : List PyData) {us : List Value}, conBs G.K us l = true → ∃ xs, Vals xs us ∧ ∀ H, DpFs G.K H xs l
  | [], us, h => by
    unfold conBs at h
    have : us = [] := by simpa using h
    subst this
    exact ⟨[], .nil, fun _ => .nil⟩
  | p :: l, us, h => by
    unfold conBs at h
    split at h
    · rename_i u us
      rw [Bool.and_eq_true] at h
      obtain ⟨v, r, d⟩ := con_ok p h.1
      obtain ⟨xs, rs, ds⟩ := cons_ok l h.2
      exact ⟨v :: xs, .cons r rs, fun H => .cons (d H) (ds H)⟩
    · cases h
end
end Vs
/-! X0: what a value can be (types), and when one type lies within another. -/
namespace Ab
open PySem PySem.Spec L2 Vs
open PyProof.Rows hiding St
mutual
/-- plain data: no dicts, sound texts, short ints -/
def gdB : PyData → Bool
  | .none => true
  | .bool _ => true
  | .int i => decide (i.natAbs < 10 ^ 38)
  | .str x => PySem.PyData.strOk x
  | .list xs => gdBs xs
  | .tuple xs => gdBs xs
  | .dict _ => false
def gdBs : List PyData → Bool
  | [] => true
  | x :: xs => gdB x && gdBs xs
end
theorem gdBs_iff : ∀ {xs : List PyData}, gdBs xs = true ↔ ∀ x ∈ xs, gdB x = true
  | [] => by simp [gdBs]
  | x :: xs => by simp [gdBs, gdBs_iff (xs := xs)]
mutual
theorem gd_lay : ∀ {p : PyData}, gdB p = true → p.canLay0 = true
  | .none, _ => rfl
  | .bool _, _ => rfl
  | .int _, _ => rfl
  | .str x, h => by simpa [gdB, PyData.canLay0] using h
  | .list xs, h => by
    have := gds_lay (xs := xs) (by simpa [gdB] using h)
    simpa [PyData.canLay0] using this
  | .tuple xs, h => by
    have := gds_lay (xs := xs) (by simpa [gdB] using h)
    simpa [PyData.canLay0] using this
  | .dict _, h => by simp [gdB] at h
theorem gds_lay : ∀ {xs : List PyData}, gdBs xs = true → PyData.canLayAll0 xs = true
  | [], _ => by simp [PyData.canLayAll0]
  | x :: xs, h => by
    have h : gdB x = true ∧ gdBs xs = true := by simpa [gdBs] using h
    simp [PyData.canLayAll0, gd_lay h.1, gds_lay h.2]
end
mutual
theorem gd_short : ∀ {p : PyData}, gdB p = true → p.intsShort 39 = true
  | .none, _ => rfl
  | .bool _, _ => rfl
  | .int i, h => by
    have h : i.natAbs < 10 ^ 38 := by simpa [gdB] using h
    have e := int_text_length_le10 (k := 38) (by decide) h
    simp only [PyData.intsShort, decide_eq_true_eq]
    show (Str.ofString (toString i)).length ≤ 39
    rw [PySem.ofString_length]
    exact e
  | .str x, _ => rfl
  | .list xs, h => by
    have := gds_short (xs := xs) (by simpa [gdB] using h)
    simpa [PyData.intsShort] using this
  | .tuple xs, h => by
    have := gds_short (xs := xs) (by simpa [gdB] using h)
    simpa [PyData.intsShort] using this
  | .dict _, h => by simp [gdB] at h
theorem gds_short : ∀ {xs : List PyData}, gdBs xs = true → PyData.intsShortAll 39 xs = true
  | [], _ => by simp [PyData.intsShortAll]
  | x :: xs, h => by
    have h : gdB x = true ∧ gdBs xs = true := by simpa [gdBs] using h
    simp [PyData.intsShortAll, gd_short h.1, gds_short h.2]
end
mutual
theorem gd_show : ∀ {p : PyData}, gdB p = true → p.showable = true
  | .none, _ => rfl
  | .bool _, _ => rfl
  | .int i, h => by
    have h : i.natAbs < 10 ^ 38 := by simpa [gdB] using h
    simp only [PyData.showable, decide_eq_true_eq]
    by_cases z : i.natAbs = 0
    · rw [z]; decide
    · exact (Nat.log2_lt z).mpr (Nat.lt_of_lt_of_le h (by decide +kernel))
  | .str x, _ => rfl
  | .list xs, h => by
    have := gds_show (xs := xs) (by simpa [gdB] using h)
    simpa [PyData.showable] using this
  | .tuple xs, h => by
    have := gds_show (xs := xs) (by simpa [gdB] using h)
    simpa [PyData.showable] using this
  | .dict _, h => by simp [gdB] at h
theorem gds_show : ∀ {xs : List PyData}, gdBs xs = true → PyData.showableAll xs = true
  | [], _ => by simp [PyData.showableAll]
  | x :: xs, h => by
    have h : gdB x = true ∧ gdBs xs = true := by simpa [gdBs] using h
    simp [PyData.showableAll, gd_show h.1, gds_show h.2]
end
structure Gd (dep w : Nat) (p : PyData) : Prop where
  ok : gdB p = true
  dep : p.depth ≤ dep
  w : p.weight ≤ w
theorem Gd.shown {dep w : Nat} {p : PyData} (h : Gd dep w p) : p.shown.length ≤ 41 * w + 39 := by
  have := PyData.shown_le 39 (by decide) p (PyData.leavesShort_of_canLay0 39 p (gd_lay h.ok) (gd_short h.ok))
  have := h.w
  omega
theorem Gd.repr {dep w : Nat} {p : PyData} {x : D} (e : x.py = some p) (h : Gd dep w p) (h1 : dep ≤ 60) (h2 : w ≤ 400000) : oRepr x = some (.sh (.str p.shown)) := by
  have q := h.shown
  have s : sizeLine = 16777216 := by decide
  have d := h.dep
  simp only [oRepr, e, gd_show h.ok, PyData.hasDict_of_canLay p (gd_lay h.ok), Bool.not_false, Bool.true_and]
  rw [decide_eq_true (by omega : p.depth ≤ 60), decide_eq_true (by omega : p.shown.length ≤ sizeLine)]
  rfl
theorem Gd.shaped {dep w : Nat} {p : PyData} (h : Gd dep w p) (h1 : dep ≤ 64) : SeqAt.shaped p = true := by
  have d := h.dep
  simp [SeqAt.shaped, gd_lay h.ok]
  omega
theorem Gd.mono {dep w dep' w' : Nat} {p : PyData} (h : Gd dep w p) (h1 : dep ≤ dep') (h2 : w ≤ w') : Gd dep' w' p := ⟨h.ok, Nat.le_trans h.dep h1, Nat.le_trans h.w h2⟩
theorem gds_of {dep w : Nat} : ∀ {l : List PyData}, (∀ p ∈ l, Gd dep w p) → gdBs l = true ∧ PyData.depthAll l ≤ dep ∧ PyData.weightAll l ≤ l.length * (w + 1)
  | [], _ => ⟨rfl, Nat.zero_le _, by simp [PyData.weightAll]⟩
  | p :: l, h => by
    obtain ⟨a, b, c⟩ := gds_of (l := l) fun q hq => h q (List.mem_cons_of_mem _ hq)
    have g := h p List.mem_cons_self
    refine ⟨by simp [gdBs, g.ok, a], ?_, ?_⟩
    · simp only [PyData.depthAll]
      exact Nat.max_le.mpr ⟨g.dep, b⟩
    · simp only [PyData.weightAll, List.length_cons, Nat.add_mul, Nat.one_mul]
      have := g.w
      omega
inductive QK where
  | tup | lst | own
  deriving DecidableEq
inductive T where
  | lit (p : PyData)
  | int (lo hi : Int)
  | bool
  | str (n : Nat)
  | tup (ts : List T)
  | ls (ts : List T)
  | fl (ts : List T)
  | vec (k : QK) (lo hi : Nat) (t : T)
  | dat (dep w : Nat)
  | pr (k n : Nat)
  | uni (ts : List T)
def mkQ : QK → List PyData → D
  | .tup, l => .sh (.tuple l)
  | .lst, l => .sh (.list l)
  | .own, l => .ls (l.map .sh)
/-- what the opaque ones mean -/
structure Pi where
  p : Nat → Nat → D → Prop
  mono : ∀ {k n m : Nat} {d : D}, p k n d → n ≤ m → p k m d
  sh : ∀ {k n : Nat} {d : D}, p k n d → 100 ≤ k → ∃ q, d = .sh q
section
variable (Ω : Pi)
mutual
def has : T → D → Prop
  | .lit p, d => d = .sh p
  | .int lo hi, d => ∃ i, d = .sh (.int i) ∧ lo ≤ i ∧ i ≤ hi
  | .bool, d => ∃ b, d = .sh (.bool b)
  | .str n, d => ∃ x, d = .sh (.str x) ∧ PySem.PyData.strOk x = true ∧ x.cps.size ≤ n
  | .tup ts, d => ∃ ds, d = mkTup ds ∧ hasL ts ds
  | .ls ts, d => ∃ ds, d = .ls ds ∧ hasL ts ds
  | .fl ts, d => ∃ l : List PyData, d = .sh (.list l) ∧ hasL ts (l.map .sh)
  | .vec k lo hi t, d => ∃ l, d = mkQ k l ∧ lo ≤ l.length ∧ l.length ≤ hi ∧ ∀ p ∈ l, has t (.sh p)
  | .dat dep w, d => ∃ p, d = .sh p ∧ Gd dep w p
  | .pr k n, d => Ω.p k n d
  | .uni ts, d => hasA ts d
/-- one of them -/
def hasA : List T → D → Prop
  | [], _ => False
  | t :: ts, d => has t d ∨ hasA ts d
def hasL : List T → List D → Prop
  | [], [] => True
  | t :: ts, d :: ds => has t d ∧ hasL ts ds
  | _, _ => False
end
end
mutual
def pEq : PyData → PyData → Bool
  | .none, .none => true
  | .bool a, .bool b => a == b
  | .int a, .int b => decide (a = b)
  | .str a, .str b => decide (a = b)
  | .list a, .list b => pEqs a b
  | .tuple a, .tuple b => pEqs a b
  | _, _ => false
def pEqs : List PyData → List PyData → Bool
  | [], [] => true
  | a :: as, b :: bs => pEq a b && pEqs as bs
  | _, _ => false
end
mutual
theorem pEq_eq : ∀ {a b : PyData}, pEq a b = true → a = b
  | .none, b, h => by cases b <;> simp_all [pEq]
  | .bool _, b, h => by cases b <;> simp_all [pEq]
  | .int _, b, h => by cases b <;> simp_all [pEq]
  | .str _, b, h => by cases b <;> simp_all [pEq]
  | .list x, b, h => by cases b <;> simp [pEq] at h; exact congrArg _ (pEqs_eq h)
  | .tuple x, b, h => by cases b <;> simp [pEq] at h; exact congrArg _ (pEqs_eq h)
  | .dict _, b, h => by cases b <;> simp [pEq] at h
theorem pEqs_eq : ∀ {a b : List PyData}, pEqs a b = true → a = b
  | [], [], _ => rfl
  | x :: xs, y :: ys, h => by
    simp only [pEqs, Bool.and_eq_true] at h
    rw [pEq_eq h.1, pEqs_eq h.2]
  | [], _ :: _, h => by simp [pEqs] at h
  | _ :: _, [], h => by simp [pEqs] at h
end
/-! ### measures of types -/
def rng : T → Option (Int × Int)
  | .lit (.int i) => some (i, i)
  | .int a b => some (a, b)
  | _ => none
mutual
def shT : T → Bool
  | .lit _ => true
  | .int _ _ => true
  | .bool => true
  | .str _ => true
  | .tup ts => shTs ts
  | .ls _ => false
  | .fl _ => true
  | .vec .own _ _ _ => false
  | .vec _ _ _ _ => true
  | .dat _ _ => true
  | .pr k _ => decide (100 ≤ k)
  | .uni ts => shTs ts
def shTs : List T → Bool
  | [] => true
  | t :: ts => shT t && shTs ts
end
def intW (i : Int) : Nat := if i.natAbs < 1048576 then 20 else 127
mutual
def dmP : PyData → Option (Nat × Nat)
  | .none => some (0, 0)
  | .bool _ => some (0, 0)
  | .int i => if i.natAbs < 10 ^ 38 then some (0, intW i) else none
  | .str x => if PySem.PyData.strOk x = true then some (0, x.cps.size) else none
  | .list xs => match dmPs xs with | some (a, b) => some (a + 1, b) | none => none
  | .tuple xs => match dmPs xs with | some (a, b) => some (a + 1, b) | none => none
  | .dict _ => none
def dmPs : List PyData → Option (Nat × Nat)
  | [] => some (0, 0)
  | x :: xs => match dmP x, dmPs xs with
    | some (a, b), some (c, d) => some (max a c, b + 1 + d)
    | _, _ => none
end
mutual
/-- depth and weight of what shows as data -/
def dm : T → Option (Nat × Nat)
  | .lit p => dmP p
  | .int lo hi => if lo.natAbs < 10 ^ 38 ∧ hi.natAbs < 10 ^ 38 then some (0, max (intW lo) (intW hi)) else none
  | .bool => some (0, 0)
  | .str n => some (0, n)
  | .tup ts => match dms ts with | some (a, b) => some (a + 1, b) | none => none
  | .ls ts => match dms ts with | some (a, b) => some (a + 1, b) | none => none
  | .fl ts => match dms ts with | some (a, b) => some (a + 1, b) | none => none
  | .vec _ _ hi t => match dm t with | some (a, b) => some (a + 1, hi * (b + 1)) | none => none
  | .dat a b => some (a, b)
  | .pr _ _ => none
  | .uni ts => dmU ts
/-- the greatest ones -/
def dmU : List T → Option (Nat × Nat)
  | [] => some (0, 0)
  | x :: xs => match dm x, dmU xs with
    | some (a, b), some (c, d) => some (max a c, max b d)
    | _, _ => none
def dms : List T → Option (Nat × Nat)
  | [] => some (0, 0)
  | x :: xs => match dm x, dms xs with
    | some (a, b), some (c, d) => some (max a c, b + 1 + d)
    | _, _ => none
end
/-- written tuples and lists opened -/
def expT : T → T
  | .lit (.tuple l) => .tup (l.map .lit)
  | .lit (.list l) => .fl (l.map .lit)
  | t => t
/-- what a type is one of -/
def alts : T → List T
  | .uni ts => ts
  | t => [t]
mutual
def leT1 (b a : T) : Bool := match b with
  | .lit q => match a with
    | .lit p => pEq p q
    | _ => false
  | .int lo hi => match rng a with
    | some (x, y) => decide (lo ≤ x) && decide (y ≤ hi)
    | none => false
  | .bool => match a with
    | .lit (.bool _) => true
    | .bool => true
    | _ => false
  | .str n => match a with
    | .lit (.str x) => PySem.PyData.strOk x && decide (x.cps.size ≤ n)
    | .str m => decide (m ≤ n)
    | _ => false
  | .tup ts => match expT a with
    | .tup xs => leT1s ts xs
    | _ => false
  | .ls ts => match a with
    | .ls xs => leT1s ts xs
    | _ => false
  | .fl ts => match expT a with
    | .fl xs => leT1s ts xs
    | _ => false
  | .vec k lo hi t => match expT a with
    | .tup xs => decide (k = .tup) && decide (lo ≤ xs.length) && decide (xs.length ≤ hi) && shTs xs && xs.all fun x => (alts x).all fun y => leT1 t y
    | .ls xs => decide (k = .own) && decide (lo ≤ xs.length) && decide (xs.length ≤ hi) && shTs xs && xs.all fun x => (alts x).all fun y => leT1 t y
    | .fl xs => decide (k = .lst) && decide (lo ≤ xs.length) && decide (xs.length ≤ hi) && xs.all fun x => (alts x).all fun y => leT1 t y
    | .vec k' lo' hi' t' => decide (k = k') && decide (lo ≤ lo') && decide (hi' ≤ hi) && ((alts t').all (fun y => leT1 t y) || decide (hi' = 0))
    | _ => false
  | .dat dep w => shT a && match dm a with
    | some (x, y) => decide (x ≤ dep) && decide (y ≤ w)
    | none => false
  | .pr k n => match a with
    | .pr k' n' => decide (k = k') && decide (n' ≤ n)
    | _ => false
  | .uni bs => leT1u bs a
def leT1u (bs : List T) (a : T) : Bool := match bs with
  | [] => false
  | b :: bs => leT1 b a || leT1u bs a
def leT1s (bs as : List T) : Bool := match bs with
  | [] => match as with
    | [] => true
    | _ :: _ => false
  | b :: bs => match as with
    | a :: as => (alts a).all (fun y => leT1 b y) && leT1s bs as
    | [] => false
end
def leT (b a : T) : Bool := (alts a).all fun y => leT1 b y
def leTs : List T → List T → Bool
  | [], [] => true
  | b :: bs, a :: as => leT b a && leTs bs as
  | _, _ => false
end Ab
/-! X1: types: what holds of them. -/
namespace Ab
open PySem PySem.Spec L2 Vs
open PyProof.Rows hiding St
theorem unsh_eq : ∀ {ds : List D} {l : List PyData}, unsh ds = some l → ds = l.map .sh
  | [], l, h => by simp [unsh] at h; simp [h]
  | .sh d :: r, l, h => by
    unfold unsh at h
    split at h
    · rename_i m e
      cases h
      rw [unsh_eq e]; rfl
    · cases h
  | .tp _ :: _, l, h => by simp [unsh] at h
  | .ls _ :: _, l, h => by simp [unsh] at h
  | .dk _ _ :: _, l, h => by simp [unsh] at h
  | .ob _ _ _ :: _, l, h => by simp [unsh] at h
  | .fn _ :: _, l, h => by simp [unsh] at h
theorem mkTup_map (l : List PyData) : mkTup (l.map .sh) = .sh (.tuple l) := by simp [mkTup]
theorem mkTup_py (ds : List D) : (mkTup ds).py = match D.pys ds with | some l => some (.tuple l) | none => none := by
  unfold mkTup
  cases e : unsh ds with
  | none => first | (simp only [D.py]; done) | (simp only [D.py]; cases D.pys ds <;> rfl)
  | some l => rw [unsh_eq e]; simp [D.py]
variable {Ω : Pi}
theorem hasL_len : ∀ {ts : List T} {ds : List D}, hasL Ω ts ds → ts.length = ds.length
  | [], [], _ => rfl
  | _ :: _, _ :: _, h => congrArg (· + 1) (hasL_len (by unfold hasL at h; exact h.2))
  | [], _ :: _, h => by simp [hasL] at h
  | _ :: _, [], h => by simp [hasL] at h
theorem hasL_get : ∀ {ts : List T} {ds : List D} {i : Nat} {t : T}, hasL Ω ts ds → ts[i]? = some t → ∃ d, ds[i]? = some d ∧ has Ω t d
  | t :: ts, d :: ds, 0, _, h, e => by
    unfold hasL at h
    simp at e; subst e
    exact ⟨d, rfl, h.1⟩
  | t :: ts, d :: ds, i + 1, _, h, e => by
    unfold hasL at h
    exact hasL_get (i := i) h.2 (by simpa using e)
  | [], _, _, _, _, e => by simp at e
  | _ :: _, [], _, _, h, _ => by simp [hasL] at h
theorem hasL_lit : ∀ l : List PyData, hasL Ω (l.map .lit) (l.map .sh)
  | [] => by simp [hasL]
  | p :: l => by
    simp only [List.map_cons, hasL]
    exact ⟨by simp [has], hasL_lit l⟩
mutual
theorem has_sh : ∀ {t : T} {d : D}, has Ω t d → shT t = true → ∃ p, d = .sh p
  | .lit p, d, h, _ => ⟨p, by simpa [has] using h⟩
  | .int _ _, d, h, _ => by obtain ⟨i, e, _⟩ := (by simpa only [has] using h); exact ⟨_, e⟩
  | .bool, d, h, _ => by obtain ⟨i, e⟩ := (by simpa only [has] using h); exact ⟨_, e⟩
  | .str _, d, h, _ => by obtain ⟨i, e, _⟩ := (by simpa only [has] using h); exact ⟨_, e⟩
  | .tup ts, d, h, s => by
    obtain ⟨ds, e, q⟩ := (by simpa only [has] using h)
    obtain ⟨l, rfl⟩ := hasL_sh q (by simpa [shT] using s)
    rw [mkTup_map] at e
    exact ⟨_, e⟩
  | .ls _, _, _, s => by simp [shT] at s
  | .fl ts, d, h, _ => by obtain ⟨l, e, _⟩ := (by simpa only [has] using h); exact ⟨_, e⟩
  | .vec k _ _ _, d, h, s => by
    obtain ⟨l, e, _⟩ := (by simpa only [has] using h)
    cases k with
    | tup => exact ⟨_, e⟩
    | lst => exact ⟨_, e⟩
    | own => simp [shT] at s
  | .dat _ _, d, h, _ => by obtain ⟨p, e, _⟩ := (by simpa only [has] using h); exact ⟨_, e⟩
  | .pr k n, d, h, s => Ω.sh (by simpa only [has] using h) (by simpa [shT] using s)
  | .uni ts, d, h, s => hasA_sh (ts := ts) (by simpa only [has] using h) (by simpa [shT] using s)
theorem hasA_sh : ∀ {ts : List T} {d : D}, hasA Ω ts d → shTs ts = true → ∃ p, d = .sh p
  | t :: ts, d, h, s => by
    unfold hasA at h
    have s : shT t = true ∧ shTs ts = true := by simpa [shTs] using s
    rcases h with h | h
    · exact has_sh h s.1
    · exact hasA_sh h s.2
  | [], _, h, _ => by simp [hasA] at h
theorem hasL_sh : ∀ {ts : List T} {ds : List D}, hasL Ω ts ds → shTs ts = true → ∃ l : List PyData, ds = l.map .sh
  | [], [], _, _ => ⟨[], rfl⟩
  | t :: ts, d :: ds, h, s => by
    unfold hasL at h
    have s : shT t = true ∧ shTs ts = true := by simpa [shTs] using s
    obtain ⟨p, rfl⟩ := has_sh h.1 s.1
    obtain ⟨l, rfl⟩ := hasL_sh h.2 s.2
    exact ⟨p :: l, rfl⟩
  | [], _ :: _, h, _ => by simp [hasL] at h
  | _ :: _, [], h, _ => by simp [hasL] at h
end
theorem intW_le {i : Int} (h : i.natAbs < 10 ^ 38) : (PyData.int i).weight ≤ intW i := by
  unfold PyData.weight intW
  split
  · split <;> omega
  · rename_i z
    have z : i.natAbs ≠ 0 := by simpa using z
    split
    · rename_i q
      have := (Nat.log2_lt z (k := 20)).mpr (by omega)
      omega
    · have := (Nat.log2_lt z (k := 127)).mpr (Nat.lt_of_lt_of_le h (by decide +kernel))
      omega
theorem intW_mono {i lo hi : Int} (h1 : lo ≤ i) (h2 : i ≤ hi) : intW i ≤ max (intW lo) (intW hi) := by
  unfold intW
  by_cases a : lo.natAbs < 1048576 <;> by_cases b : hi.natAbs < 1048576 <;> by_cases c : i.natAbs < 1048576 <;> simp [a, b, c] <;> omega
mutual
theorem dmP_ok : ∀ {p : PyData} {a b : Nat}, dmP p = some (a, b) → Gd a b p
  | .none, a, b, h => by simp [dmP] at h; exact ⟨rfl, by simp [PyData.depth], by simp [PyData.weight]⟩
  | .bool _, a, b, h => by simp [dmP] at h; exact ⟨rfl, by simp [PyData.depth], by simp [PyData.weight]⟩
  | .int i, a, b, h => by
    unfold dmP at h
    split at h
    · rename_i q
      cases h
      exact ⟨by simpa [gdB] using q, by simp [PyData.depth], intW_le q⟩
    · cases h
  | .str x, a, b, h => by
    unfold dmP at h
    split at h
    · rename_i q
      cases h
      exact ⟨by simpa [gdB] using q, by simp [PyData.depth], by simp [PyData.weight]⟩
    · cases h
  | .list xs, a, b, h => by
    unfold dmP at h
    split at h
    · rename_i q
      cases h
      obtain ⟨x, y, z⟩ := dmPs_ok q
      exact ⟨by simpa [gdB] using x, by simp only [PyData.depth]; omega, by simpa [PyData.weight] using z⟩
    · cases h
  | .tuple xs, a, b, h => by
    unfold dmP at h
    split at h
    · rename_i q
      cases h
      obtain ⟨x, y, z⟩ := dmPs_ok q
      exact ⟨by simpa [gdB] using x, by simp only [PyData.depth]; omega, by simpa [PyData.weight] using z⟩
    · cases h
  | .dict _, a, b, h => by simp [dmP] at h
theorem dmPs_ok : ∀ {xs : List PyData} {a b : Nat}, dmPs xs = some (a, b) → gdBs xs = true ∧ PyData.depthAll xs ≤ a ∧ PyData.weightAll xs ≤ b
  | [], a, b, h => by simp [dmPs] at h; exact ⟨rfl, by simp [PyData.depthAll], by simp [PyData.weightAll]⟩
  | x :: xs, a, b, h => by
    unfold dmPs at h
    split at h
    · rename_i q r
      cases h
      have g := dmP_ok q
      obtain ⟨x, y, z⟩ := dmPs_ok r
      have g2 := g.dep
      have g3 := g.w
      refine ⟨by simp [gdBs, g.ok, x], ?_, ?_⟩
      · simp only [PyData.depthAll]; omega
      · simp only [PyData.weightAll]; omega
    · cases h
end
mutual
theorem has_dm : ∀ {t : T} {d : D} {a b : Nat}, has Ω t d → dm t = some (a, b) → ∃ p, d.py = some p ∧ Gd a b p
  | .lit p, d, a, b, h, e => by
    have h : d = .sh p := by simpa only [has] using h
    subst h
    exact ⟨p, rfl, dmP_ok (by simpa only [dm] using e)⟩
  | .int lo hi, d, a, b, h, e => by
    obtain ⟨i, rfl, h1, h2⟩ := (by simpa only [has] using h)
    unfold dm at e
    split at e
    · rename_i q
      cases e
      have q' : i.natAbs < 10 ^ 38 := by omega
      exact ⟨_, rfl, by simpa [gdB] using q', by simp [PyData.depth], Nat.le_trans (intW_le q') (intW_mono h1 h2)⟩
    · cases e
  | .bool, d, a, b, h, e => by
    obtain ⟨i, rfl⟩ := (by simpa only [has] using h)
    simp [dm] at e
    exact ⟨_, rfl, rfl, by simp [PyData.depth], by simp [PyData.weight]⟩
  | .str n, d, a, b, h, e => by
    obtain ⟨x, rfl, h1, h2⟩ := (by simpa only [has] using h)
    simp only [dm, Option.some.injEq, Prod.mk.injEq] at e
    obtain ⟨rfl, rfl⟩ := e
    exact ⟨_, rfl, by simpa [gdB] using h1, by simp [PyData.depth], by simpa [PyData.weight] using h2⟩
  | .tup ts, d, a, b, h, e => by
    obtain ⟨ds, rfl, q⟩ := (by simpa only [has] using h)
    unfold dm at e
    split at e
    · rename_i r
      cases e
      obtain ⟨l, x, y, z, w⟩ := hasL_dm q r
      refine ⟨.tuple l, by rw [mkTup_py, x], by simpa [gdB] using y, by simp only [PyData.depth]; omega, by simpa [PyData.weight] using w⟩
    · cases e
  | .ls ts, d, a, b, h, e => by
    obtain ⟨ds, rfl, q⟩ := (by simpa only [has] using h)
    unfold dm at e
    split at e
    · rename_i r
      cases e
      obtain ⟨l, x, y, z, w⟩ := hasL_dm q r
      refine ⟨.list l, by simp [D.py, x], by simpa [gdB] using y, by simp only [PyData.depth]; omega, by simpa [PyData.weight] using w⟩
    · cases e
  | .fl ts, d, a, b, h, e => by
    obtain ⟨ds, rfl, q⟩ := (by simpa only [has] using h)
    unfold dm at e
    split at e
    · rename_i r
      cases e
      obtain ⟨l, x, y, z, w⟩ := hasL_dm q r
      rw [pys_map] at x
      cases x
      refine ⟨.list _, rfl, by simpa [gdB] using y, by simp only [PyData.depth]; omega, by simpa [PyData.weight] using w⟩
    · cases e
  | .vec k lo hi t, d, a, b, h, e => by
    obtain ⟨l, rfl, _, h2, h3⟩ := (by simpa only [has] using h)
    unfold dm at e
    split at e
    · rename_i x y r
      cases e
      have g : ∀ p ∈ l, Gd x y p := fun p hp => by
        obtain ⟨q, e, g⟩ := has_dm (h3 p hp) r
        cases e
        exact g
      obtain ⟨u, v, w⟩ := gds_of g
      have : l.length * (y + 1) ≤ hi * (y + 1) := Nat.mul_le_mul_right _ h2
      cases k with
      | tup => exact ⟨.tuple l, rfl, by simpa [gdB] using u, by simp only [PyData.depth]; omega, by simp only [PyData.weight]; omega⟩
      | lst => exact ⟨.list l, rfl, by simpa [gdB] using u, by simp only [PyData.depth]; omega, by simp only [PyData.weight]; omega⟩
      | own => exact ⟨.list l, by simp [mkQ, D.py], by simpa [gdB] using u, by simp only [PyData.depth]; omega, by simp only [PyData.weight]; omega⟩
    · cases e
  | .dat _ _, d, a, b, h, e => by
    obtain ⟨p, rfl, g⟩ := (by simpa only [has] using h)
    simp only [dm, Option.some.injEq, Prod.mk.injEq] at e
    obtain ⟨rfl, rfl⟩ := e
    exact ⟨p, rfl, g⟩
  | .pr _ _, _, _, _, _, e => by simp [dm] at e
  | .uni ts, d, a, b, h, e => hasA_dm (ts := ts) (by simpa only [has] using h) (by simpa only [dm] using e)
theorem hasA_dm : ∀ {ts : List T} {d : D} {a b : Nat}, hasA Ω ts d → dmU ts = some (a, b) → ∃ p, d.py = some p ∧ Gd a b p
  | t :: ts, d, a, b, h, e => by
    unfold hasA at h
    unfold dmU at e
    split at e
    · rename_i q r
      cases e
      rcases h with h | h
      · obtain ⟨p, x, g⟩ := has_dm h q
        exact ⟨p, x, g.mono (Nat.le_max_left _ _) (Nat.le_max_left _ _)⟩
      · obtain ⟨p, x, g⟩ := hasA_dm h r
        exact ⟨p, x, g.mono (Nat.le_max_right _ _) (Nat.le_max_right _ _)⟩
    · cases e
  | [], _, _, _, h, _ => by simp [hasA] at h
theorem hasL_dm : ∀ {ts : List T} {ds : List D} {a b : Nat}, hasL Ω ts ds → dms ts = some (a, b) → ∃ l, D.pys ds = some l ∧ gdBs l = true ∧ PyData.depthAll l ≤ a ∧ PyData.weightAll l ≤ b
  | [], [], a, b, _, e => by simp [dms] at e; exact ⟨[], rfl, rfl, by simp [PyData.depthAll], by simp [PyData.weightAll]⟩
  | t :: ts, d :: ds, a, b, h, e => by
    unfold hasL at h
    unfold dms at e
    split at e
    · rename_i q r
      cases e
      obtain ⟨p, x, g⟩ := has_dm h.1 q
      obtain ⟨l, y, z, u, v⟩ := hasL_dm h.2 r
      have g2 := g.dep
      have g3 := g.w
      refine ⟨p :: l, by simp [D.pys, x, y], by simp [gdBs, g.ok, z], ?_, ?_⟩
      · simp only [PyData.depthAll]; omega
      · simp only [PyData.weightAll]; omega
    · cases e
  | [], _ :: _, _, _, h, _ => by simp [hasL] at h
  | _ :: _, [], _, _, h, _ => by simp [hasL] at h
end
theorem has_exp {t : T} {d : D} (h : has Ω t d) : has Ω (expT t) d := by
  unfold expT
  split
  · rename_i l
    have h : d = .sh (.tuple l) := by simpa only [has] using h
    unfold has
    exact ⟨l.map .sh, by rw [mkTup_map]; exact h, hasL_lit l⟩
  · rename_i l
    have h : d = .sh (.list l) := by simpa only [has] using h
    unfold has
    exact ⟨l, h, hasL_lit l⟩
  · exact h
theorem rng_ok {t : T} {d : D} {a b : Int} (h : has Ω t d) (e : rng t = some (a, b)) : ∃ i, d = .sh (.int i) ∧ a ≤ i ∧ i ≤ b := by
  unfold rng at e
  split at e
  · cases e
    exact ⟨_, by simpa only [has] using h, Int.le_refl _, Int.le_refl _⟩
  · cases e
    simpa only [has] using h
  · cases e
theorem hasL_mem : ∀ {ts : List T} {ds : List D} {d : D}, hasL Ω ts ds → d ∈ ds → ∃ t ∈ ts, has Ω t d
  | t :: ts, d :: ds, e, h, m => by
    unfold hasL at h
    rcases List.mem_cons.mp m with rfl | m
    · exact ⟨t, List.mem_cons_self, h.1⟩
    · obtain ⟨u, a, b⟩ := hasL_mem h.2 m
      exact ⟨u, List.mem_cons_of_mem _ a, b⟩
  | [], [], _, _, m => by simp at m
  | [], _ :: _, _, h, _ => by simp [hasL] at h
  | _ :: _, [], _, h, _ => by simp [hasL] at h
theorem hasA_mem : ∀ {ts : List T} {d : D}, hasA Ω ts d → ∃ t ∈ ts, has Ω t d
  | t :: ts, d, h => by
    unfold hasA at h
    rcases h with h | h
    · exact ⟨t, List.mem_cons_self, h⟩
    · obtain ⟨u, a, b⟩ := hasA_mem h
      exact ⟨u, List.mem_cons_of_mem _ a, b⟩
  | [], _, h => by simp [hasA] at h
theorem has_alts {t : T} {d : D} (h : has Ω t d) : ∃ u ∈ alts t, has Ω u d := by
  unfold alts
  split
  · exact hasA_mem (by simpa only [has] using h)
  · exact ⟨_, List.mem_singleton.mpr rfl, h⟩
mutual
theorem leT1_ok : ∀ {b a : T} {d : D}, leT1 b a = true → has Ω a d → has Ω b d
  | .lit q, a, d, h, g => by
    unfold leT1 at h
    split at h
    · rename_i p
      rw [← pEq_eq h]
      exact g
    · cases h
  | .int lo hi, a, d, h, g => by
    unfold leT1 at h
    split at h
    · rename_i x y e
      obtain ⟨i, rfl, h1, h2⟩ := rng_ok g e
      simp at h
      unfold has
      exact ⟨i, rfl, by omega, by omega⟩
    · cases h
  | .bool, a, d, h, g => by
    unfold leT1 at h
    split at h
    · rename_i b
      unfold has
      exact ⟨b, by simpa only [has] using g⟩
    · exact g
    · cases h
  | .str n, a, d, h, g => by
    unfold leT1 at h
    split at h
    · rename_i x
      simp at h
      unfold has
      exact ⟨x, by simpa only [has] using g, h.1, h.2⟩
    · obtain ⟨x, e, h1, h2⟩ := (by simpa only [has] using g)
      simp at h
      unfold has
      exact ⟨x, e, h1, by omega⟩
    · cases h
  | .tup ts, a, d, h, g => by
    unfold leT1 at h
    have g := has_exp g
    split at h
    · rename_i xs e
      rw [e] at g
      obtain ⟨ds, e, q⟩ := (by simpa only [has] using g)
      unfold has
      exact ⟨ds, e, leT1s_ok h q⟩
    · cases h
  | .ls ts, a, d, h, g => by
    unfold leT1 at h
    split at h
    · obtain ⟨ds, e, q⟩ := (by simpa only [has] using g)
      unfold has
      exact ⟨ds, e, leT1s_ok h q⟩
    · cases h
  | .fl ts, a, d, h, g => by
    unfold leT1 at h
    have g := has_exp g
    split at h
    · rename_i xs e
      rw [e] at g
      obtain ⟨ds, e, q⟩ := (by simpa only [has] using g)
      unfold has
      exact ⟨ds, e, leT1s_ok h q⟩
    · cases h
  | .vec k lo hi t, a, d, h, g => by
    unfold leT1 at h
    have g := has_exp g
    split at h
    · rename_i xs e
      rw [e] at g
      obtain ⟨ds, rfl, q⟩ := (by simpa only [has] using g)
      simp only [Bool.and_eq_true, decide_eq_true_eq, List.all_eq_true] at h
      obtain ⟨⟨⟨⟨rfl, h1⟩, h2⟩, h3⟩, h4⟩ := h
      obtain ⟨l, rfl⟩ := hasL_sh q h3
      have hl := hasL_len q
      rw [List.length_map] at hl
      unfold has
      refine ⟨l, by rw [mkTup_map]; rfl, by omega, by omega, fun p hp => ?_⟩
      obtain ⟨u, m, z⟩ := hasL_mem q (List.mem_map_of_mem hp)
      obtain ⟨y, my, hy⟩ := has_alts z
      exact leT1_ok (h4 u m y my) hy
    · rename_i xs e
      rw [e] at g
      obtain ⟨ds, rfl, q⟩ := (by simpa only [has] using g)
      simp only [Bool.and_eq_true, decide_eq_true_eq, List.all_eq_true] at h
      obtain ⟨⟨⟨⟨rfl, h1⟩, h2⟩, h3⟩, h4⟩ := h
      obtain ⟨l, rfl⟩ := hasL_sh q h3
      have hl := hasL_len q
      rw [List.length_map] at hl
      unfold has
      refine ⟨l, rfl, by omega, by omega, fun p hp => ?_⟩
      obtain ⟨u, m, z⟩ := hasL_mem q (List.mem_map_of_mem hp)
      obtain ⟨y, my, hy⟩ := has_alts z
      exact leT1_ok (h4 u m y my) hy
    · rename_i xs e
      rw [e] at g
      obtain ⟨l, rfl, q⟩ := (by simpa only [has] using g)
      simp only [Bool.and_eq_true, decide_eq_true_eq, List.all_eq_true] at h
      obtain ⟨⟨⟨rfl, h1⟩, h2⟩, h4⟩ := h
      have hl := hasL_len q
      rw [List.length_map] at hl
      unfold has
      refine ⟨l, rfl, by omega, by omega, fun p hp => ?_⟩
      obtain ⟨u, m, z⟩ := hasL_mem q (List.mem_map_of_mem hp)
      obtain ⟨y, my, hy⟩ := has_alts z
      exact leT1_ok (h4 u m y my) hy
    · rename_i e
      rw [e] at g
      obtain ⟨l, rfl, h1, h2, h3⟩ := (by simpa only [has] using g)
      simp only [Bool.and_eq_true, Bool.or_eq_true, decide_eq_true_eq] at h
      obtain ⟨⟨⟨rfl, q1⟩, q2⟩, q3⟩ := h
      unfold has
      refine ⟨l, rfl, by omega, by omega, fun p hp => ?_⟩
      rcases q3 with q3 | q3
      · obtain ⟨y, my, hy⟩ := has_alts (h3 p hp)
        exact leT1_ok (List.all_eq_true.mp q3 y my) hy
      · have : l = [] := List.length_eq_zero_iff.mp (by omega)
        rw [this] at hp
        cases hp
    · cases h
  | .dat dep w, a, d, h, g => by
    unfold leT1 at h
    rw [Bool.and_eq_true] at h
    obtain ⟨s, h⟩ := h
    split at h
    · rename_i x y e
      obtain ⟨p, rfl⟩ := has_sh g s
      obtain ⟨q, e2, gd⟩ := has_dm g e
      cases e2
      simp at h
      unfold has
      exact ⟨p, rfl, gd.mono h.1 h.2⟩
    · cases h
  | .pr k n, a, d, h, g => by
    unfold leT1 at h
    split at h
    · simp at h
      obtain ⟨rfl, h⟩ := h
      unfold has at g ⊢
      exact Ω.mono g h
    · cases h
  | .uni bs, a, d, h, g => by
    unfold leT1 at h
    unfold has
    exact leT1u_ok h g
theorem leT1u_ok : ∀ {bs : List T} {a : T} {d : D}, leT1u bs a = true → has Ω a d → hasA Ω bs d
  | b :: bs, a, d, h, g => by
    unfold leT1u at h
    unfold hasA
    rw [Bool.or_eq_true] at h
    rcases h with h | h
    · exact .inl (leT1_ok h g)
    · exact .inr (leT1u_ok h g)
  | [], _, _, h, _ => by simp [leT1u] at h
theorem leT1s_ok : ∀ {bs as : List T} {ds : List D}, leT1s bs as = true → hasL Ω as ds → hasL Ω bs ds
  | [], [], ds, _, g => g
  | b :: bs, a :: as, d :: ds, h, g => by
    unfold leT1s at h
    rw [Bool.and_eq_true] at h
    unfold hasL at g ⊢
    obtain ⟨y, my, hy⟩ := has_alts g.1
    exact ⟨leT1_ok (List.all_eq_true.mp h.1 y my) hy, leT1s_ok h.2 g.2⟩
  | _ :: _, _ :: _, [], _, g => by simp [hasL] at g
  | [], _ :: _, _, h, _ => by simp [leT1s] at h
  | _ :: _, [], _, h, _ => by simp [leT1s] at h
end
theorem leT_ok {b a : T} {d : D} (h : leT b a = true) (g : has Ω a d) : has Ω b d := by
  unfold leT at h
  obtain ⟨y, my, hy⟩ := has_alts g
  exact leT1_ok (List.all_eq_true.mp h y my) hy
theorem leTs_ok : ∀ {bs as : List T} {ds : List D}, leTs bs as = true → hasL Ω as ds → hasL Ω bs ds
  | [], [], ds, _, g => g
  | b :: bs, a :: as, d :: ds, h, g => by
    unfold leTs at h
    rw [Bool.and_eq_true] at h
    unfold hasL at g ⊢
    exact ⟨leT_ok h.1 g.1, leTs_ok h.2 g.2⟩
  | _ :: _, _ :: _, [], _, g => by simp [hasL] at g
  | [], _ :: _, _, h, _ => by simp [leTs] at h
  | _ :: _, [], _, h, _ => by simp [leTs] at h
end Ab
/-! X2: symbolic values, contexts, states. -/
namespace Ab
open PySem PySem.Spec L2
open Vs hiding Env
open PyProof.Rows hiding St
inductive S where
  | v (n : Nat)
  | lit (p : PyData)
  | tup (l : List S)
  | ls (l : List S)
  | fl (l : List S)
inductive Fn where
  | op (o : Op)
  | id (n : Nat)
  deriving DecidableEq
structure CE where
  t : T
  o : Option (Fn × List S)
/-- what stands behind the opaque types and the named functions -/
structure Iv where
  Ω : Pi
  fi : Nat → List D → Option D
def fnD (iv : Iv) : Fn → List D → Option D
  | .op o => opD o
  | .id n => iv.fi n
mutual
def den (ν : List D) : S → Option D
  | .v n => ν[n]?
  | .lit p => some (.sh p)
  | .tup l => match dens ν l with
    | some ds => some (mkTup ds)
    | none => none
  | .ls l => match dens ν l with
    | some ds => some (.ls ds)
    | none => none
  | .fl l => match dens ν l with
    | some ds => match unsh ds with
      | some l => some (.sh (.list l))
      | none => none
    | none => none
def dens (ν : List D) : List S → Option (List D)
  | [] => some []
  | s :: l => match den ν s, dens ν l with
    | some d, some ds => some (d :: ds)
    | _, _ => none
end
mutual
theorem den_app : ∀ {ν μ : List D} {s : S} {d : D}, den ν s = some d → den (ν ++ μ) s = some d
  | ν, μ, .v n, d, h => by
    simp only [den] at h ⊢
    rw [List.getElem?_append_left (List.getElem?_eq_some_iff.mp h).1]
    exact h
  | ν, μ, .lit p, d, h => h
  | ν, μ, .tup l, d, h => by
    unfold den at h ⊢
    cases e : dens ν l with
    | none => rw [e] at h; cases h
    | some ds => rw [e] at h; rw [dens_app e]; exact h
  | ν, μ, .ls l, d, h => by
    unfold den at h ⊢
    cases e : dens ν l with
    | none => rw [e] at h; cases h
    | some ds => rw [e] at h; rw [dens_app e]; exact h
  | ν, μ, .fl l, d, h => by
    unfold den at h ⊢
    cases e : dens ν l with
    | none => rw [e] at h; cases h
    | some ds => rw [e] at h; rw [dens_app e]; exact h
theorem dens_app : ∀ {ν μ : List D} {l : List S} {ds : List D}, dens ν l = some ds → dens (ν ++ μ) l = some ds
  | ν, μ, [], ds, h => h
  | ν, μ, s :: l, ds, h => by
    unfold dens at h ⊢
    cases e1 : den ν s with
    | none => rw [e1] at h; cases h
    | some d =>
      cases e2 : dens ν l with
      | none => rw [e1, e2] at h; cases h
      | some ds' => rw [e1, e2] at h; rw [den_app e1, dens_app e2]; exact h
end
theorem dens_cons {ν : List D} {s : S} {l : List S} {ds : List D} (h : dens ν (s :: l) = some ds) : ∃ d ds', ds = d :: ds' ∧ den ν s = some d ∧ dens ν l = some ds' := by
  unfold dens at h
  cases e1 : den ν s with
  | none => rw [e1] at h; cases h
  | some d =>
    cases e2 : dens ν l with
    | none => rw [e1, e2] at h; cases h
    | some ds' => rw [e1, e2] at h; cases h; exact ⟨d, ds', rfl, rfl, rfl⟩
theorem dens_mk {ν : List D} {s : S} {l : List S} {d : D} {ds : List D} (h1 : den ν s = some d) (h2 : dens ν l = some ds) : dens ν (s :: l) = some (d :: ds) := by
  unfold dens
  rw [h1, h2]
theorem dens_append : ∀ {ν : List D} {l m : List S} {ds es : List D}, dens ν l = some ds → dens ν m = some es → dens ν (l ++ m) = some (ds ++ es)
  | ν, [], m, ds, es, h1, h2 => by simp [dens] at h1; subst h1; exact h2
  | ν, s :: l, m, ds, es, h1, h2 => by
    obtain ⟨d, ds', rfl, a, b⟩ := dens_cons h1
    exact dens_mk a (dens_append b h2)
theorem dens_len : ∀ {ν : List D} {l : List S} {ds : List D}, dens ν l = some ds → ds.length = l.length
  | ν, [], ds, h => by simp [dens] at h; subst h; rfl
  | ν, s :: l, ds, h => by
    obtain ⟨d, ds', rfl, a, b⟩ := dens_cons h
    simp [dens_len b]
theorem dens_get : ∀ {ν : List D} {l : List S} {ds : List D} {i : Nat} {s : S}, dens ν l = some ds → l[i]? = some s → ∃ d, ds[i]? = some d ∧ den ν s = some d
  | ν, s :: l, ds, 0, _, h, e => by
    obtain ⟨d, ds', rfl, a, b⟩ := dens_cons h
    simp at e; subst e
    exact ⟨d, rfl, a⟩
  | ν, s :: l, ds, i + 1, _, h, e => by
    obtain ⟨d, ds', rfl, a, b⟩ := dens_cons h
    exact dens_get (i := i) b (by simpa using e)
  | _, [], _, _, _, _, e => by simp at e
theorem dens_take : ∀ {ν : List D} {l : List S} {ds : List D} (n : Nat), dens ν l = some ds → dens ν (l.take n) = some (ds.take n)
  | ν, l, ds, 0, h => by simp [dens]
  | ν, [], ds, n + 1, h => by simp [dens] at h; subst h; simp [dens]
  | ν, s :: l, ds, n + 1, h => by
    obtain ⟨d, ds', rfl, a, b⟩ := dens_cons h
    exact dens_mk a (dens_take n b)
theorem dens_drop : ∀ {ν : List D} {l : List S} {ds : List D} (n : Nat), dens ν l = some ds → dens ν (l.drop n) = some (ds.drop n)
  | ν, l, ds, 0, h => h
  | ν, [], ds, n + 1, h => by simp [dens] at h; subst h; simp [dens]
  | ν, s :: l, ds, n + 1, h => by
    obtain ⟨d, ds', rfl, a, b⟩ := dens_cons h
    exact dens_drop n b
theorem dens_rev : ∀ {ν : List D} {l : List S} {ds : List D}, dens ν l = some ds → dens ν l.reverse = some ds.reverse
  | ν, [], ds, h => by simp [dens] at h; subst h; rfl
  | ν, s :: l, ds, h => by
    obtain ⟨d, ds', rfl, a, b⟩ := dens_cons h
    rw [List.reverse_cons, List.reverse_cons]
    exact dens_append (dens_rev b) (dens_mk a rfl)
mutual
def nrm : PyData → S
  | .tuple l => .tup (nrms l)
  | p => .lit p
def nrms : List PyData → List S
  | [] => []
  | p :: l => nrm p :: nrms l
end
mutual
theorem nrm_ok : ∀ {ν : List D} {p : PyData}, den ν (nrm p) = some (.sh p)
  | ν, .tuple l => by
    unfold nrm den
    rw [nrms_ok]
    simp only [mkTup_map]
  | ν, .none => rfl
  | ν, .bool _ => rfl
  | ν, .int _ => rfl
  | ν, .str _ => rfl
  | ν, .list _ => rfl
  | ν, .dict _ => rfl
theorem nrms_ok : ∀ {ν : List D} {l : List PyData}, dens ν (nrms l) = some (l.map .sh)
  | ν, [] => rfl
  | ν, p :: l => dens_mk nrm_ok nrms_ok
end
mutual
def opn (n : Nat) : T → S × List T
  | .lit p => (nrm p, [])
  | .tup ts => (.tup (opns n ts).1, (opns n ts).2)
  | .ls ts => (.ls (opns n ts).1, (opns n ts).2)
  | .fl ts => (.fl (opns n ts).1, (opns n ts).2)
  | .int lo hi => (.v n, [.int lo hi])
  | .bool => (.v n, [.bool])
  | .str k => (.v n, [.str k])
  | .vec k lo hi t => (.v n, [.vec k lo hi t])
  | .dat a b => (.v n, [.dat a b])
  | .pr a b => (.v n, [.pr a b])
  | .uni ts => (.v n, [.uni ts])
def opns (n : Nat) : List T → List S × List T
  | [] => ([], [])
  | t :: ts => ((opn n t).1 :: (opns (n + (opn n t).2.length) ts).1, (opn n t).2 ++ (opns (n + (opn n t).2.length) ts).2)
end
section
variable {Ω : Pi}
theorem hasL_app : ∀ {a b : List T} {x y : List D}, hasL Ω a x → hasL Ω b y → hasL Ω (a ++ b) (x ++ y)
  | [], b, [], y, _, h => h
  | t :: a, b, d :: x, y, h, g => by
    unfold hasL at h
    show hasL Ω (t :: (a ++ b)) (d :: (x ++ y))
    unfold hasL
    exact ⟨h.1, hasL_app h.2 g⟩
  | [], _, _ :: _, _, h, _ => by simp [hasL] at h
  | _ :: _, _, [], _, h, _ => by simp [hasL] at h
theorem hasL_one {t : T} {d : D} (h : has Ω t d) : hasL Ω [t] [d] := by
  simp only [hasL]; exact ⟨h, trivial⟩
theorem opn_v {n : Nat} {t : T} {d : D} (h : has Ω t d) : ∃ μ, hasL Ω [t] μ ∧ ∀ ν : List D, ν.length = n → den (ν ++ μ) (.v n) = some d :=
  ⟨[d], hasL_one h, fun ν e => by subst e; simp [den]⟩
mutual
theorem opn_ok : ∀ {n : Nat} {t : T} {d : D}, has Ω t d → ∃ μ, hasL Ω (opn n t).2 μ ∧ ∀ ν : List D, ν.length = n → den (ν ++ μ) (opn n t).1 = some d
  | n, .lit p, d, h => by
    have h : d = .sh p := by simpa only [has] using h
    subst h
    exact ⟨[], trivial, fun ν _ => nrm_ok⟩
  | n, .tup ts, d, h => by
    obtain ⟨ds, rfl, q⟩ := (by simpa only [has] using h)
    obtain ⟨μ, a, b⟩ := opns_ok (n := n) q
    refine ⟨μ, by simpa only [opn] using a, fun ν e => ?_⟩
    simp only [opn, den, b ν e]
  | n, .ls ts, d, h => by
    obtain ⟨ds, rfl, q⟩ := (by simpa only [has] using h)
    obtain ⟨μ, a, b⟩ := opns_ok (n := n) q
    refine ⟨μ, by simpa only [opn] using a, fun ν e => ?_⟩
    simp only [opn, den, b ν e]
  | n, .fl ts, d, h => by
    obtain ⟨ds, rfl, q⟩ := (by simpa only [has] using h)
    obtain ⟨μ, a, b⟩ := opns_ok (n := n) q
    refine ⟨μ, by simpa only [opn] using a, fun ν e => ?_⟩
    simp only [opn, den, b ν e, unsh_map]
  | n, .int _ _, d, h => opn_v h
  | n, .bool, d, h => opn_v h
  | n, .str _, d, h => opn_v h
  | n, .vec _ _ _ _, d, h => opn_v h
  | n, .dat _ _, d, h => opn_v h
  | n, .pr _ _, d, h => opn_v h
  | n, .uni _, d, h => opn_v h
theorem opns_ok : ∀ {n : Nat} {ts : List T} {ds : List D}, hasL Ω ts ds → ∃ μ, hasL Ω (opns n ts).2 μ ∧ ∀ ν : List D, ν.length = n → dens (ν ++ μ) (opns n ts).1 = some ds
  | n, [], [], _ => ⟨[], trivial, fun _ _ => rfl⟩
  | n, t :: ts, d :: ds, h => by
    unfold hasL at h
    obtain ⟨μ, a, b⟩ := opn_ok (n := n) h.1
    obtain ⟨μ', a', b'⟩ := opns_ok (n := n + (opn n t).2.length) h.2
    refine ⟨μ ++ μ', by simpa only [opns] using hasL_app a a', fun ν e => ?_⟩
    have l := hasL_len a
    simp only [opns]
    rw [← List.append_assoc]
    exact dens_mk (den_app (b ν e)) (b' (ν ++ μ) (by simp [e, l]))
  | _, [], _ :: _, h => by simp [hasL] at h
  | _, _ :: _, [], h => by simp [hasL] at h
end
end
structure satC (iv : Iv) (ν : List D) (C : List CE) : Prop where
  len : ν.length = C.length
  get : ∀ (n : Nat) (c : CE), C[n]? = some c → ∃ d, ν[n]? = some d ∧ has iv.Ω c.t d ∧ ∀ (f : Fn) (ss : List S), c.o = some (f, ss) → ∃ ds, dens ν ss = some ds ∧ fnD iv f ds = some d
def plainC (ts : List T) : List CE := ts.map fun t => ⟨t, none⟩
section
variable {iv : Iv} {ν : List D} {C : List CE}
theorem satC.app {ts : List T} {μ : List D} (h : satC iv ν C) (g : hasL iv.Ω ts μ) : satC iv (ν ++ μ) (C ++ plainC ts) := by
  have l := hasL_len g
  refine ⟨by simp [plainC, h.len, l], fun n c e => ?_⟩
  by_cases q : n < C.length
  · rw [List.getElem?_append_left q] at e
    obtain ⟨d, a, b, o⟩ := h.get n c e
    refine ⟨d, ?_, b, fun f ss z => ?_⟩
    · rw [List.getElem?_append_left (by rw [h.len]; exact q)]; exact a
    · obtain ⟨ds, x, y⟩ := o f ss z
      exact ⟨ds, dens_app x, y⟩
  · rw [List.getElem?_append_right (by omega)] at e
    unfold plainC at e
    rw [List.getElem?_map] at e
    obtain ⟨t, e1, rfl⟩ := Option.map_eq_some_iff.mp e
    obtain ⟨d, a, b⟩ := hasL_get g e1
    refine ⟨d, ?_, b, fun f ss z => by cases z⟩
    rw [List.getElem?_append_right (by rw [h.len]; omega), h.len]
    exact a
theorem satC.one {t : T} {d : D} {f : Fn} {ss : List S} {ds : List D} (h : satC iv ν C) (g : has iv.Ω t d) (e1 : dens ν ss = some ds) (e2 : fnD iv f ds = some d) : satC iv (ν ++ [d]) (C ++ [⟨t, some (f, ss)⟩]) := by
  refine ⟨by simp [h.len], fun n c e => ?_⟩
  by_cases q : n < C.length
  · rw [List.getElem?_append_left q] at e
    obtain ⟨d', a, b, o⟩ := h.get n c e
    refine ⟨d', ?_, b, fun f ss z => ?_⟩
    · rw [List.getElem?_append_left (by rw [h.len]; exact q)]; exact a
    · obtain ⟨ds, x, y⟩ := o f ss z
      exact ⟨ds, dens_app x, y⟩
  · rw [List.getElem?_append_right (by omega)] at e
    have hn : n - C.length = 0 := by
      have := (List.getElem?_eq_some_iff.mp e).1
      simpa using this
    rw [hn] at e
    cases e
    refine ⟨d, ?_, g, fun f ss z => ?_⟩
    · rw [List.getElem?_append_right (by rw [h.len]; omega), h.len, hn]; rfl
    · cases z
      exact ⟨ds, dens_app e1, e2⟩
end
mutual
def tyS (C : List CE) : S → Option T
  | .v n => match C[n]? with
    | some c => some c.t
    | none => none
  | .lit p => some (.lit p)
  | .tup l => match tySs C l with
    | some ts => some (.tup ts)
    | none => none
  | .ls l => match tySs C l with
    | some ts => some (.ls ts)
    | none => none
  | .fl l => match tySs C l with
    | some ts => if shTs ts = true then some (.fl ts) else none
    | none => none
def tySs (C : List CE) : List S → Option (List T)
  | [] => some []
  | s :: l => match tyS C s, tySs C l with
    | some t, some ts => some (t :: ts)
    | _, _ => none
end
section
variable {iv : Iv} {ν : List D} {C : List CE} (H : satC iv ν C)
include H
mutual
theorem tyS_ok : ∀ {s : S} {t : T}, tyS C s = some t → ∃ d, den ν s = some d ∧ has iv.Ω t d
  | .v n, t, h => by
    unfold tyS at h
    split at h
    · rename_i c e
      cases h
      obtain ⟨d, a, b, _⟩ := H.get n c e
      exact ⟨d, a, b⟩
    · cases h
  | .lit p, t, h => by
    simp only [tyS, Option.some.injEq] at h
    subst h
    exact ⟨_, rfl, by simp [has]⟩
  | .tup l, t, h => by
    unfold tyS at h
    split at h
    · rename_i ts e
      cases h
      obtain ⟨ds, a, b⟩ := tySs_ok e
      exact ⟨mkTup ds, by simp only [den, a], by unfold has; exact ⟨ds, rfl, b⟩⟩
    · cases h
  | .ls l, t, h => by
    unfold tyS at h
    split at h
    · rename_i ts e
      cases h
      obtain ⟨ds, a, b⟩ := tySs_ok e
      exact ⟨.ls ds, by simp only [den, a], by unfold has; exact ⟨ds, rfl, b⟩⟩
    · cases h
  | .fl l, t, h => by
    unfold tyS at h
    split at h
    · rename_i ts e
      split at h
      · rename_i s
        cases h
        obtain ⟨ds, a, b⟩ := tySs_ok e
        obtain ⟨m, rfl⟩ := hasL_sh b s
        exact ⟨.sh (.list m), by simp only [den, a, unsh_map], by unfold has; exact ⟨m, rfl, b⟩⟩
      · cases h
    · cases h
theorem tySs_ok : ∀ {l : List S} {ts : List T}, tySs C l = some ts → ∃ ds, dens ν l = some ds ∧ hasL iv.Ω ts ds
  | [], ts, h => by
    simp only [tySs, Option.some.injEq] at h
    subst h
    exact ⟨[], rfl, trivial⟩
  | s :: l, ts, h => by
    unfold tySs at h
    split at h
    · rename_i t ts' e1 e2
      cases h
      obtain ⟨d, a, b⟩ := tyS_ok e1
      obtain ⟨ds, a', b'⟩ := tySs_ok e2
      exact ⟨d :: ds, dens_mk a a', by unfold hasL; exact ⟨b, b'⟩⟩
    · cases h
end
end
mutual
def sEq : S → S → Bool
  | .v n, .v m => decide (n = m)
  | .lit p, .lit q => pEq p q
  | .tup a, .tup b => sEqs a b
  | .ls a, .ls b => sEqs a b
  | .fl a, .fl b => sEqs a b
  | _, _ => false
def sEqs : List S → List S → Bool
  | [], [] => true
  | a :: as, b :: bs => sEq a b && sEqs as bs
  | _, _ => false
end
mutual
theorem sEq_eq : ∀ {a b : S}, sEq a b = true → a = b
  | .v _, b, h => by cases b <;> simp_all [sEq]
  | .lit _, b, h => by cases b <;> simp [sEq] at h; exact congrArg _ (pEq_eq h)
  | .tup x, b, h => by cases b <;> simp [sEq] at h; exact congrArg _ (sEqs_eq h)
  | .ls x, b, h => by cases b <;> simp [sEq] at h; exact congrArg _ (sEqs_eq h)
  | .fl x, b, h => by cases b <;> simp [sEq] at h; exact congrArg _ (sEqs_eq h)
theorem sEqs_eq : ∀ {a b : List S}, sEqs a b = true → a = b
  | [], [], _ => rfl
  | x :: xs, y :: ys, h => by
    simp only [sEqs, Bool.and_eq_true] at h
    rw [sEq_eq h.1, sEqs_eq h.2]
  | [], _ :: _, h => by simp [sEqs] at h
  | _ :: _, [], h => by simp [sEqs] at h
end
/-- what is known already -/
def findO (f : Fn) (ss : List S) : List CE → Nat → Option Nat
  | [], _ => none
  | c :: C, k => match c.o with
    | some (g, ts) => if decide (f = g) && sEqs ss ts then some k else findO f ss C (k + 1)
    | none => findO f ss C (k + 1)
theorem findO_ok {f : Fn} {ss : List S} : ∀ {C : List CE} {k n : Nat}, findO f ss C k = some n → ∃ c, C[n - k]? = some c ∧ c.o = some (f, ss) ∧ k ≤ n
  | c :: C, k, n, h => by
    unfold findO at h
    have nx : findO f ss C (k + 1) = some n → ∃ c', (c :: C)[n - k]? = some c' ∧ c'.o = some (f, ss) ∧ k ≤ n := fun h => by
      obtain ⟨c', a, b, l⟩ := findO_ok h
      refine ⟨c', ?_, b, by omega⟩
      rw [show n - k = (n - (k + 1)) + 1 by omega, List.getElem?_cons_succ]
      exact a
    split at h
    · rename_i g ts e
      split at h
      · rename_i q
        cases h
        simp only [Bool.and_eq_true, decide_eq_true_eq] at q
        refine ⟨c, by simp, ?_, Nat.le_refl _⟩
        rw [e, q.1, sEqs_eq q.2]
      · exact nx h
    · exact nx h
  | [], k, n, h => by simp [findO] at h
/-! ### states -/
inductive Sl where
  | un
  | top
  | val (s : S)
structure Stt where
  C : List CE
  A : List Sl
def satS (ν : List D) : Sl → Option D → Prop
  | .un, x => x = none
  | .top, _ => True
  | .val s, x => ∃ d, x = some d ∧ den ν s = some d
def satA (ν : List D) : List Sl → Vs.Env → Prop
  | [], [] => True
  | a :: A, x :: ρ => satS ν a x ∧ satA ν A ρ
  | _, _ => False
structure Sat (iv : Iv) (ν : List D) (ρ : Vs.Env) (st : Stt) : Prop where
  C : satC iv ν st.C
  A : satA ν st.A ρ
section
variable {ν μ : List D}
theorem satS.app {a : Sl} {x : Option D} (h : satS ν a x) : satS (ν ++ μ) a x := by
  cases a with
  | un => exact h
  | top => trivial
  | val s => obtain ⟨d, e, q⟩ := h; exact ⟨d, e, den_app q⟩
theorem satA.app : ∀ {A : List Sl} {ρ : Vs.Env}, satA ν A ρ → satA (ν ++ μ) A ρ
  | [], [], _ => trivial
  | a :: A, x :: ρ, h => ⟨satS.app h.1, satA.app h.2⟩
  | [], _ :: _, h => h
  | _ :: _, [], h => h
theorem satA.len : ∀ {A : List Sl} {ρ : Vs.Env}, satA ν A ρ → ρ.length = A.length
  | [], [], _ => rfl
  | a :: A, x :: ρ, h => congrArg (· + 1) (satA.len h.2)
  | [], _ :: _, h => h.elim
  | _ :: _, [], h => h.elim
theorem satA.get : ∀ {A : List Sl} {ρ : Vs.Env} {i : Nat} {a : Sl}, satA ν A ρ → A[i]? = some a → ∃ x, ρ[i]? = some x ∧ satS ν a x
  | a :: A, x :: ρ, 0, _, h, e => by simp at e; subst e; exact ⟨x, rfl, h.1⟩
  | a :: A, x :: ρ, i + 1, _, h, e => satA.get (i := i) h.2 (by simpa using e)
  | [], _, _, _, _, e => by simp at e
  | _ :: _, [], _, _, h, _ => h.elim
theorem satA.set : ∀ {A : List Sl} {ρ : Vs.Env} {a : Sl} {x : Option D} (i : Nat), satA ν A ρ → satS ν a x → satA ν (A.set i a) (ρ.set i x)
  | [], [], _, _, _, _, _ => trivial
  | a :: A, x :: ρ, _, _, 0, h, g => ⟨g, h.2⟩
  | a :: A, x :: ρ, _, _, i + 1, h, g => ⟨h.1, satA.set i h.2 g⟩
  | [], _ :: _, _, _, _, h, _ => h.elim
  | _ :: _, [], _, _, _, h, _ => h.elim
theorem satA.val {A : List Sl} {ρ : Vs.Env} {i : Nat} {s : S} (h : satA ν A ρ) (e : A[i]? = some (.val s)) : ∃ d, ρ[i]? = some (some d) ∧ den ν s = some d := by
  obtain ⟨x, a, d, rfl, b⟩ := h.get e
  exact ⟨d, a, b⟩
theorem satA.un {A : List Sl} {ρ : Vs.Env} {i : Nat} (h : satA ν A ρ) (e : A[i]? = some .un) : ρ[i]? = some none := by
  obtain ⟨x, a, b⟩ := h.get e
  rw [a, show x = none from b]
end
end Ab
/-! XR: what repr writes is a sound text. -/
namespace Ab
open PySem PySem.Spec L2 Vs
open PyProof.Rows hiding St
def Ok (x : Str) : Prop := ∀ c ∈ x.cps.toList, c < 1114112
theorem chr_lt (c : Char) : c.toNat < 1114112 := by
  have h := c.valid
  simp only [UInt32.isValidChar, Nat.isValidChar] at h
  show c.val.toNat < 1114112
  omega
theorem ok_str (s : String) : Ok (Str.ofString s) := by
  rw [Str.ofString_eq_toList]
  intro c h
  simp at h
  obtain ⟨d, _, rfl⟩ := h
  exact chr_lt d
theorem ok_app {a b : Str} (h : Ok a) (g : Ok b) : Ok (a ++ b) := by
  intro c m
  have m : c ∈ (a.cps ++ b.cps).toList := m
  rw [Array.toList_append, List.mem_append] at m
  exact m.elim (h c) (g c)
theorem ok_iff {x : Str} : PySem.PyData.strOk x = true ↔ Ok x := by
  unfold PySem.PyData.strOk Ok
  rw [Array.all_eq_true_iff_forall_mem]
  constructor
  · intro h c m
    have := h c (Array.mem_toList_iff.mp m)
    simpa using this
  · intro h c m
    have := h c (Array.mem_toList_iff.mpr m)
    simpa using this
theorem ok_from : ∀ (ts : List Str) (k : Nat) (acc : Str), Ok acc → (∀ t ∈ ts, Ok t) → Ok (textFrom k acc ts)
  | [], _, _, h, _ => h
  | t :: ts, k, acc, h, g => ok_from ts (k + 1) _ (ok_app (ok_app h (by split <;> exact ok_str _)) (g t List.mem_cons_self)) fun u m => g u (List.mem_cons_of_mem _ m)
theorem ok_join {s : Str} (hs : Ok s) : ∀ (ts : List Str), (∀ t ∈ ts, Ok t) → Ok (Str.join s ts)
  | [], _ => by intro c h; simp [Str.join, Str.empty] at h
  | [x], g => g x List.mem_cons_self
  | x :: y :: r, g => by
    have : Str.join s (x :: y :: r) = x ++ s ++ Str.join s (y :: r) := rfl
    rw [this]
    exact ok_app (ok_app (g x List.mem_cons_self) hs) (ok_join hs (y :: r) fun t m => g t (List.mem_cons_of_mem _ m))
theorem ok_list {ts : List Str} (g : ∀ t ∈ ts, Ok t) : Ok (listText ts) := ok_app (ok_from ts 0 _ (ok_str _) g) (ok_str _)
theorem ok_tuple {ts : List Str} (g : ∀ t ∈ ts, Ok t) : Ok (tupleText ts) := ok_app (ok_app (ok_str _) (ok_join (ok_str _) ts g)) (by split <;> exact ok_str _)
theorem ok_char {q c : Nat} (hc : c < 1114112) : ∀ d ∈ Builtin.Str.reprChar q c, d < 1114112 := by
  have hx : ∀ w d, d ∈ List.replicate (w - ((Nat.toDigits 16 c).map Char.toNat).length) 48 ++ (Nat.toDigits 16 c).map Char.toNat → d < 1114112 := by
    intro w d m
    rw [List.mem_append] at m
    rcases m with m | m
    · rw [(List.mem_replicate.mp m).2]; decide
    · obtain ⟨e, _, rfl⟩ := List.mem_map.mp m
      exact chr_lt e
  intro d m
  unfold Builtin.Str.reprChar at m
  dsimp only at m
  repeat' split at m
  all_goals first
    | (simp only [List.mem_cons, List.not_mem_nil, or_false] at m; omega)
    | (rw [List.mem_append] at m
       rcases m with m | m
       · simp only [List.mem_cons, List.not_mem_nil, or_false] at m; omega
       · exact hx _ _ m)
theorem ok_fold {q : Nat} : ∀ (l : List Nat) (acc : Array Nat), (∀ c ∈ l, c < 1114112) → (∀ c ∈ acc.toList, c < 1114112) → ∀ c ∈ (l.foldl (fun out c => out ++ (Builtin.Str.reprChar q c).toArray) acc).toList, c < 1114112
  | [], acc, _, h => h
  | x :: l, acc, g, h => by
    rw [List.foldl_cons]
    refine ok_fold l _ (fun c m => g c (List.mem_cons_of_mem _ m)) fun c m => ?_
    rw [Array.toList_append, List.mem_append] at m
    rcases m with m | m
    · exact h c m
    · exact ok_char (g x List.mem_cons_self) c (by simpa using m)
theorem ok_repr {x : Str} (h : Ok x) : Ok (reprText x) := by
  unfold reprText
  intro c m
  have hq : reprQuote x < 1114112 := by unfold reprQuote; split <;> decide
  change c ∈ ((x.cps.foldl (fun out c => out ++ (Builtin.Str.reprChar (reprQuote x) c).toArray) #[reprQuote x]).push (reprQuote x)).toList at m
  rw [Array.toList_push, List.mem_append] at m
  rcases m with m | m
  · rw [← Array.foldl_toList] at m
    exact ok_fold _ _ h (fun c m => by simp at m; omega) c m
  · simp at m; omega
mutual
theorem ok_shown : ∀ {p : PyData}, gdB p = true → Ok p.shown
  | .none, _ => ok_str _
  | .bool b, _ => by cases b <;> exact ok_str _
  | .int i, _ => ok_str _
  | .str x, h => ok_repr (ok_iff.mp (by simpa [gdB] using h))
  | .list xs, h => by
    simp only [PyData.shown]
    exact ok_list (ok_showns (by simpa [gdB] using h))
  | .tuple xs, h => by
    simp only [PyData.shown]
    exact ok_tuple (ok_showns (by simpa [gdB] using h))
  | .dict _, h => by simp [gdB] at h
theorem ok_showns : ∀ {xs : List PyData}, gdBs xs = true → ∀ t ∈ PyData.shownAll xs, Ok t
  | [], _ => by simp [PyData.shownAll]
  | x :: xs, h => by
    have h : gdB x = true ∧ gdBs xs = true := by simpa [gdBs] using h
    intro t m
    simp only [PyData.shownAll] at m
    rcases List.mem_cons.mp m with rfl | m
    · exact ok_shown h.1
    · exact ok_showns h.2 t m
end
end Ab
/-! X3: operations on types. -/
namespace Ab
open PySem PySem.Spec L2 Vs
open PyProof.Rows hiding St
/-! ### joins (a guess, looked at) -/
def vecC0 (J : T → T → T) (t : T) : Option (QK × Nat × Nat × T) := match expT t with
  | .vec k lo hi t => some (k, lo, hi, t)
  | .tup ts => some (.tup, ts.length, ts.length, match ts with | [] => .lit .none | t :: r => r.foldl J t)
  | .ls ts => some (.own, ts.length, ts.length, match ts with | [] => .lit .none | t :: r => r.foldl J t)
  | .fl ts => some (.lst, ts.length, ts.length, match ts with | [] => .lit .none | t :: r => r.foldl J t)
  | _ => none
def vecU (J : T → T → T) : List T → Option (QK × Nat × Nat × T)
  | [] => none
  | t :: ts => match ts with
    | [] => vecC0 J t
    | _ :: _ => match vecC0 J t, vecU J ts with
      | some (k, lo, hi, t), some (k', lo', hi', t') => if k = k' then some (k, min lo lo', max hi hi', if hi = 0 then t' else if hi' = 0 then t else J t t') else none
      | _, _ => none
def vecC (J : T → T → T) (t : T) : Option (QK × Nat × Nat × T) := vecU J (alts t)
def litS : T → Bool
  | .lit (.str _) => true
  | _ => false
def tupB : T → Bool
  | .tup _ => true
  | _ => false
def isB : T → Bool
  | .lit (.bool _) => true
  | .bool => true
  | _ => false
def strC : T → Option Nat
  | .lit (.str x) => some x.cps.size
  | .str n => some n
  | .uni ts => strU ts
  | _ => none
where strU : List T → Option Nat
  | [] => some 0
  | .lit (.str x) :: r => match strU r with
    | some n => some (max x.cps.size n)
    | none => none
  | _ :: _ => none
def datJ (a b : T) : T := match dm a, dm b with
  | some (x, y), some (z, w) => .dat (max x z) (max y w)
  | _, _ => a
def zipJ (J : T → T → T) : List T → List T → List T
  | a :: as, b :: bs => J a b :: zipJ J as bs
  | _, _ => []
def addU (J : T → T → T) (u : T) : List T → List T
  | [] => [u]
  | t :: ts => if leT t u = true then t :: ts else match u, t with
    | .tup xs, .tup ys => if xs.length = ys.length then .tup (zipJ J ys xs) :: ts else t :: addU J u ts
    | _, _ => t :: addU J u ts
def uniJ (J : T → T → T) (a b : T) : Option T :=
  let l := (alts b).foldl (fun acc u => addU J u acc) (alts a)
  if (l.all litS && decide (l.length ≤ 6)) || (l.all tupB && decide (l.length ≤ 4)) then (match l with | [t] => some t | _ => some (.uni l)) else none
def vj (J : T → T → T) (a b : T) : T := match vecC J a, vecC J b with
    | some (k, lo, hi, t), some (k', lo', hi', t') => if k = k' then .vec k (min lo lo') (max hi hi') (if hi = 0 then t' else if hi' = 0 then t else J t t') else datJ a b
    | _, _ => datJ a b
def lubF : Nat → T → T → T
  | 0, a, _ => a
  | n + 1, a, b => if leT b a = true then b else if leT a b = true then a else
    match rng a, rng b with
    | some (x, y), some (z, w) => .int (min x z) (max y w)
    | _, _ => if (isB a && isB b) = true then .bool else
      match uniJ (lubF n) (expT a) (expT b) with
      | some u => u
      | none =>
      match strC a, strC b with
      | some n, some m => .str (max n m)
      | _, _ => match a, b with
        | .pr k n, .pr k' m => if k = k' then .pr k (max n m) else a
        | _, _ => match expT a, expT b with
          | .ls xs, .ls ys => if xs.length = ys.length then .ls (zipJ (lubF n) xs ys) else vj (lubF n) a b
          | .fl xs, .fl ys => if xs.length = ys.length then .fl (zipJ (lubF n) xs ys) else vj (lubF n) a b
          | _, _ => vj (lubF n) a b
def lub (a b : T) : T := lubF 6 a b
def joinT (a b : T) : Option T := let u := lub a b; if (leT u a && leT u b) = true then some u else none
def seqT (t : T) : Option (QK × Nat × Nat × T) := match vecC lub t with
  | some (k, lo, hi, e) => if leT (.vec k lo hi e) t = true then some (k, lo, hi, e) else none
  | none => none
def mkI (lo hi : Int) : T := if lo = hi then .lit (.int lo) else .int lo hi
section
variable {Ω : Pi}
theorem has_mkI {lo hi i : Int} (h1 : lo ≤ i) (h2 : i ≤ hi) : has Ω (mkI lo hi) (.sh (.int i)) := by
  unfold mkI
  split
  · have : lo = i := by omega
    subst this
    simp [has]
  · unfold has
    exact ⟨i, rfl, h1, h2⟩
theorem has_bool (b : Bool) : has Ω .bool (.sh (.bool b)) := by unfold has; exact ⟨b, rfl⟩
theorem has_lit (p : PyData) : has Ω (.lit p) (.sh p) := by simp [has]
theorem joinT_l {a b u : T} {d : D} (h : joinT a b = some u) (g : has Ω a d) : has Ω u d := by
  unfold joinT at h
  simp only at h
  split at h
  · rename_i q
    cases h
    rw [Bool.and_eq_true] at q
    exact leT_ok q.1 g
  · cases h
theorem joinT_r {a b u : T} {d : D} (h : joinT a b = some u) (g : has Ω b d) : has Ω u d := by
  unfold joinT at h
  simp only at h
  split at h
  · rename_i q
    cases h
    rw [Bool.and_eq_true] at q
    exact leT_ok q.2 g
  · cases h
theorem seqT_ok {t : T} {k : QK} {lo hi : Nat} {e : T} {d : D} (h : seqT t = some (k, lo, hi, e)) (g : has Ω t d) : ∃ l, d = mkQ k l ∧ lo ≤ l.length ∧ l.length ≤ hi ∧ ∀ p ∈ l, has Ω e (.sh p) := by
  unfold seqT at h
  split at h
  · split at h
    · rename_i q
      cases h
      simpa only [has] using leT_ok q g
    · cases h
  · cases h
end
/-! ### each operation -/
def addT (a b : T) : Option T := match rng a, rng b with
  | some (x, y), some (z, w) => some (mkI (x + z) (y + w))
  | _, _ => match seqT a, seqT b with
    | some (.tup, lo, hi, t), some (.tup, lo', hi', t') => if hi + hi' ≤ 1000000 then (if hi = 0 then some (.vec .tup lo' hi' t') else if hi' = 0 then some (.vec .tup lo hi t) else match joinT t t' with
      | some u => some (.vec .tup (lo + lo') (hi + hi') u)
      | none => none) else none
    | some (.own, lo, hi, t), some (.own, lo', hi', t') => if hi + hi' ≤ 1000000 then (if hi = 0 then some (.vec .own lo' hi' t') else if hi' = 0 then some (.vec .own lo hi t) else match joinT t t' with
      | some u => some (.vec .own (lo + lo') (hi + hi') u)
      | none => none) else none
    | _, _ => none
def subT (a b : T) : Option T := match rng a, rng b with
  | some (x, y), some (z, w) => some (mkI (x - w) (y - z))
  | _, _ => none
def mulT (a b : T) : Option T := match rng a, rng b with
  | some (x, y), some (z, w) => if 0 ≤ x ∧ 0 ≤ z ∧ (y < 18446744073709551616 ∨ w < 18446744073709551616) then some (mkI (x * z) (y * w)) else none
  | _, _ => match seqT a, rng b with
    | some (.tup, lo, hi, t), some (z, w) => if 0 ≤ z ∧ w ≤ 1000 ∧ hi ≤ 1000 then some (.vec .tup (lo * z.toNat) (hi * w.toNat) t) else none
    | some (.own, lo, hi, t), some (z, w) => if 0 ≤ z ∧ w ≤ 1000 ∧ hi ≤ 1000 then some (.vec .own (lo * z.toNat) (hi * w.toNat) t) else none
    | _, _ => none
def divT (a b : T) : Option T := match rng a, rng b with
  | some (x, y), some (z, w) => if 0 ≤ x ∧ 1 ≤ z ∧ w < 1073741824 then some (if z = w then mkI (x / z) (y / z) else mkI 0 y) else none
  | _, _ => none
def modT (a b : T) : Option T := match rng a, rng b with
  | some (x, y), some (z, w) => if 1 ≤ z then some (if 0 ≤ x ∧ y < z then mkI x y else mkI 0 (w - 1)) else none
  | _, _ => none
def negT (a : T) : Option T := match rng a with
  | some (x, y) => some (mkI (-y) (-x))
  | none => none
def ltT (a b : T) : Option T := match rng a, rng b with
  | some (x, y), some (z, w) => some (if y < z then .lit (.bool true) else if w ≤ x then .lit (.bool false) else .bool)
  | _, _ => none
def leIT (a b : T) : Option T := match rng a, rng b with
  | some (x, y), some (z, w) => some (if y ≤ z then .lit (.bool true) else if w < x then .lit (.bool false) else .bool)
  | _, _ => none
def tagP : PyData → Nat
  | .none => 0
  | .bool _ => 1
  | .int _ => 1
  | .str _ => 2
  | .list _ => 3
  | .tuple _ => 4
  | .dict _ => 5
def tag0 : T → Option Nat
  | .lit p => some (tagP p)
  | .int _ _ => some 1
  | .bool => some 1
  | .str _ => some 2
  | .tup _ => some 4
  | .ls _ => some 3
  | .fl _ => some 3
  | .vec .tup _ _ _ => some 4
  | .vec _ _ _ _ => some 3
  | .dat _ _ => none
  | .pr _ _ => none
  | .uni _ => none
def tagU : List T → Option Nat
  | [] => none
  | t :: ts => match ts with
    | [] => tag0 t
    | _ :: _ => match tag0 t, tagU ts with
      | some i, some j => if i = j then some i else none
      | _, _ => none
def tagT (t : T) : Option Nat := tagU (alts t)
def lenP : PyData → Nat
  | .list l => l.length
  | .tuple l => l.length
  | _ => 0
def lenR0 (t : T) : Option (Nat × Nat) := match expT t with
  | .tup ts => some (ts.length, ts.length)
  | .ls ts => some (ts.length, ts.length)
  | .fl ts => some (ts.length, ts.length)
  | .vec _ lo hi _ => some (lo, hi)
  | _ => none
def lenU : List T → Option (Nat × Nat)
  | [] => none
  | t :: ts => match ts with
    | [] => lenR0 t
    | _ :: _ => match lenR0 t, lenU ts with
      | some (x, y), some (z, w) => some (min x z, max y w)
      | _, _ => none
def lenR (t : T) : Option (Nat × Nat) := lenU (alts t)
def differ (a b : T) : Bool := (match tagT a, tagT b with | some i, some j => !decide (i = j) | _, _ => false)
  || (match rng a, rng b with | some (x, y), some (z, w) => decide (y < z) || decide (w < x) | _, _ => false)
  || (match lenR a, lenR b with | some (x, y), some (z, w) => decide (y < z) || decide (w < x) | _, _ => false)
def eqT (neg : Bool) (a b : T) : Option T := match dm a, dm b with
  | some (x, _), some (y, _) => if x ≤ 60 ∧ y ≤ 60 then some (if differ a b = true then .lit (.bool neg) else .bool) else none
  | _, _ => none
def inT (neg : Bool) (a b : T) : Option T := match dm a, dm b, tagT b with
  | some (x, _), some (y, _), some k => if x ≤ 60 ∧ y ≤ 60 ∧ (k = 3 ∨ k = 4) then some .bool else none
  | _, _, _ => none
def isT (neg : Bool) (a b : T) : Option T := match b with
  | .lit .none => match tagT a with
    | some 0 => some (.lit (.bool (!neg)))
    | some _ => some (.lit (.bool neg))
    | none => if shT a = true then some .bool else none
  | _ => none
def ixT (a b : T) : Option T := match seqT a, rng b with
  | some (_, lo, _, t), some (x, y) => if -(lo : Int) ≤ x ∧ y < lo then some t else none
  | _, _ => none
def slK : QK → QK
  | .tup => .tup
  | _ => .own
def slT (a : T) : Option T := match seqT a with
  | some (k, _, hi, t) => some (.vec (slK k) 0 hi t)
  | none => none
def lenT (a : T) : Option T := match lenR a with
  | some (lo, hi) => some (mkI lo hi)
  | none => match a with
    | .str n => if n ≤ 1000000 then some (mkI 0 n) else none
    | _ => none
def absT (a : T) : Option T := match rng a with
  | some (x, y) => some (if 0 ≤ x then mkI x y else .int 0 (max (-x) y))
  | none => none
def intT (a : T) : Option T := match rng a with
  | some (x, y) => some (mkI x y)
  | none => if isB a = true then some (.int 0 1) else none
def reprT (a : T) : Option T := match dm a with
  | some (x, y) => if x ≤ 60 ∧ y ≤ 400000 then some (.str (41 * y + 39)) else none
  | none => none
def listT (a : T) : Option T := match seqT a with
  | some (_, lo, hi, t) => some (.vec .own lo hi t)
  | none => none
def tupleT (a : T) : Option T := match seqT a with
  | some (_, lo, hi, t) => some (.vec .tup lo hi t)
  | none => none
def revT (a : T) : Option T := match seqT a with
  | some (k, lo, hi, t) => some (.vec (slK k) lo hi t)
  | none => none
def rngT (k : QK) (a b : T) : Option T := match rng a, rng b with
  | some (x, y), some (z, w) => if -16777216 < x ∧ y < 16777216 ∧ -16777216 < z ∧ w < 16777216 ∧ w - x ≤ 16777216 then some (.vec k (z - y).toNat (w - x).toNat (.int x (w - 1))) else none
  | _, _ => none
def tyN0 : T → Option String
  | .lit p => (D.sh p).ty
  | .int _ _ => some "int"
  | .bool => some "bool"
  | .str _ => some "str"
  | .tup _ => some "tuple"
  | .ls _ => some "list"
  | .fl _ => some "list"
  | .vec .tup _ _ _ => some "tuple"
  | .vec _ _ _ _ => some "list"
  | .dat _ _ => none
  | .pr _ _ => none
  | .uni _ => none
def tyU : List T → Option String
  | [] => none
  | t :: ts => match ts with
    | [] => tyN0 t
    | _ :: _ => match tyN0 t, tyU ts with
      | some i, some j => if i = j then some i else none
      | _, _ => none
def tyN (t : T) : Option String := tyU (alts t)
def isiT (ty : Ty) (a : T) : Option T := match tyN a with
  | some s => some (.lit (.bool (isiTab s ty)))
  | none => match a with
    | .dat _ _ => some .bool
    | _ => none
def sumT (a : T) : Option T := match seqT a with
  | some (k, lo, hi, t) => if k = .tup then none else match rng t with
    | some (x, y) => if 0 ≤ x ∧ 0 ≤ y then some (mkI 0 (hi * y)) else none
    | none => none
  | none => none
def allT (a : T) : Option T := match seqT a with
  | some (k, _, _, t) => if k = .tup then none else if isB t = true then some .bool else none
  | none => none
def opT : Op → List T → Option T
  | .add, [a, b] => addT a b
  | .sub, [a, b] => subT a b
  | .mul, [a, b] => mulT a b
  | .fdiv, [a, b] => divT a b
  | .mod, [a, b] => modT a b
  | .neg, [a] => negT a
  | .lt, [a, b] => ltT a b
  | .le, [a, b] => leIT a b
  | .gt, [a, b] => ltT b a
  | .ge, [a, b] => leIT b a
  | .eq, [a, b] => eqT false a b
  | .ne, [a, b] => eqT true a b
  | .isin, [a, b] => inT false a b
  | .notin, [a, b] => inT true a b
  | .is_, [a, b] => isT false a b
  | .isnot, [a, b] => isT true a b
  | .ix, [a, b] => ixT a b
  | .sl, [a] => slT a
  | .slL, [a, b] => match rng b with | some _ => slT a | none => none
  | .slH, [a, b] => match rng b with | some _ => slT a | none => none
  | .slLH, [a, b, c] => match rng b, rng c with | some _, some _ => slT a | _, _ => none
  | .len, [a] => lenT a
  | .abs, [a] => absT a
  | .int, [a] => intT a
  | .repr, [a] => reprT a
  | .list, [a] => listT a
  | .tuple, [a] => tupleT a
  | .sum, [a] => sumT a
  | .all, [a] => allT a
  | .any, [a] => allT a
  | .rev, [a] => revT a
  | .lrng, [a] => rngT .own (.lit (.int 0)) a
  | .lrng2, [a, b] => rngT .own a b
  | .trng, [a] => rngT .tup (.lit (.int 0)) a
  | .trng2, [a, b] => rngT .tup a b
  | .isi ty, [a] => isiT ty a
  | _, _ => none
end Ab
/-! X4: operations on types are right. -/
namespace Ab
open PySem PySem.Spec L2
open Vs hiding Env
open PyProof.Rows hiding St
variable {Ω : Pi} {a b c t : T} {d e f : D}
theorem mkQ_tup {l : List PyData} : mkQ .tup l = .sh (.tuple l) := rfl
theorem mkQ_own {l : List PyData} : mkQ .own l = .ls (l.map .sh) := rfl
theorem mkQ_seq {k : QK} {l : List PyData} : (mkQ k l).seq = some (match k with | .tup => .tup | _ => .lst, l) := by
  cases k <;> simp [mkQ, D.seq]
theorem has_vec {k : QK} {lo hi : Nat} {l : List PyData} (h1 : lo ≤ l.length) (h2 : l.length ≤ hi) (h3 : ∀ p ∈ l, has Ω t (.sh p)) : has Ω (.vec k lo hi t) (mkQ k l) := by
  unfold has
  exact ⟨l, rfl, h1, h2, h3⟩
theorem addT_ok (h : addT a b = some t) (ga : has Ω a d) (gb : has Ω b e) : ∃ z, oAdd d e = some z ∧ has Ω t z := by
  unfold addT at h
  split at h
  · rename_i x y z w e1 e2
    cases h
    obtain ⟨i, rfl, i1, i2⟩ := rng_ok ga e1
    obtain ⟨j, rfl, j1, j2⟩ := rng_ok gb e2
    exact ⟨_, rfl, has_mkI (by omega) (by omega)⟩
  · split at h
    · rename_i lo hi t1 lo' hi' t2 e1 e2
      obtain ⟨l, rfl, l1, l2, l3⟩ := seqT_ok e1 ga
      obtain ⟨m, rfl, m1, m2, m3⟩ := seqT_ok e2 gb
      have sz : sizeLine = 16777216 := by decide
      split at h
      · have r : oAdd (mkQ .tup l) (mkQ .tup m) = some (mkQ .tup (l ++ m)) := oAdd_tups (by omega)
        refine ⟨_, r, ?_⟩
        split at h
        · cases h
          have : l = [] := List.length_eq_zero_iff.mp (by omega)
          subst this
          exact has_vec (by simpa using m1) (by simpa using m2) (by simpa using m3)
        · split at h
          · cases h
            have : m = [] := List.length_eq_zero_iff.mp (by omega)
            subst this
            exact has_vec (by simpa using l1) (by simpa using l2) (by simpa using l3)
          · split at h
            · rename_i u eu
              cases h
              refine has_vec (by simp; omega) (by simp; omega) fun p hp => ?_
              rcases List.mem_append.mp hp with hp | hp
              · exact joinT_l eu (l3 p hp)
              · exact joinT_r eu (m3 p hp)
            · cases h
      · cases h
    · rename_i lo hi t1 lo' hi' t2 e1 e2
      obtain ⟨l, rfl, l1, l2, l3⟩ := seqT_ok e1 ga
      obtain ⟨m, rfl, m1, m2, m3⟩ := seqT_ok e2 gb
      split at h
      · have r : oAdd (mkQ .own l) (mkQ .own m) = some (mkQ .own (l ++ m)) := oAdd_lss (by omega)
        refine ⟨_, r, ?_⟩
        split at h
        · cases h
          have : l = [] := List.length_eq_zero_iff.mp (by omega)
          subst this
          exact has_vec (by simpa using m1) (by simpa using m2) (by simpa using m3)
        · split at h
          · cases h
            have : m = [] := List.length_eq_zero_iff.mp (by omega)
            subst this
            exact has_vec (by simpa using l1) (by simpa using l2) (by simpa using l3)
          · split at h
            · rename_i u eu
              cases h
              refine has_vec (by simp; omega) (by simp; omega) fun p hp => ?_
              rcases List.mem_append.mp hp with hp | hp
              · exact joinT_l eu (l3 p hp)
              · exact joinT_r eu (m3 p hp)
            · cases h
      · cases h
    · cases h
theorem subT_ok (h : subT a b = some t) (ga : has Ω a d) (gb : has Ω b e) : ∃ z, oInt2 (fun i j => i - j) (fun _ _ => true) d e = some z ∧ has Ω t z := by
  unfold subT at h
  split at h
  · rename_i x y z w e1 e2
    cases h
    obtain ⟨i, rfl, i1, i2⟩ := rng_ok ga e1
    obtain ⟨j, rfl, j1, j2⟩ := rng_ok gb e2
    exact ⟨.sh (.int (i - j)), rfl, has_mkI (by omega) (by omega)⟩
  · cases h
theorem rep_len {l : List PyData} {n : Nat} : (List.replicate n l).flatten.length = l.length * n := by simp [Nat.mul_comm]
theorem rep_mem {l : List PyData} {n : Nat} {p : PyData} (h : p ∈ (List.replicate n l).flatten) : p ∈ l := by
  rw [List.mem_flatten] at h
  obtain ⟨m, h1, h2⟩ := h
  rw [(List.mem_replicate.mp h1).2] at h2
  exact h2
theorem mulT_ok (h : mulT a b = some t) (ga : has Ω a d) (gb : has Ω b e) : ∃ z, oMul d e = some z ∧ has Ω t z := by
  unfold mulT at h
  split at h
  · rename_i x y z w e1 e2
    split at h
    · rename_i q
      cases h
      obtain ⟨i, rfl, i1, i2⟩ := rng_ok ga e1
      obtain ⟨j, rfl, j1, j2⟩ := rng_ok gb e2
      have s : (small64b i || small64b j) = true := by
        unfold small64b
        rw [Bool.or_eq_true, decide_eq_true_eq, decide_eq_true_eq]
        obtain ⟨_, _, q | q⟩ := q
        · left; omega
        · right; omega
      refine ⟨DI (i * j), by simp only [oMul, s, guardO_true], has_mkI ?_ ?_⟩
      · exact Int.mul_le_mul i1 j1 (by omega) (by omega)
      · exact Int.mul_le_mul i2 j2 (by omega) (by omega)
    · cases h
  · split at h
    · rename_i lo hi t1 z w e1 e2
      split at h
      · rename_i q
        cases h
        obtain ⟨l, rfl, l1, l2, l3⟩ := seqT_ok e1 ga
        obtain ⟨j, rfl, j1, j2⟩ := rng_ok gb e2
        refine ⟨mkQ .tup (List.replicate j.toNat l).flatten, ?_, has_vec ?_ ?_ fun p hp => l3 p (rep_mem hp)⟩
        · simp only [mkQ, oMul, decide_eq_true (by omega : -1000 ≤ j), decide_eq_true (by omega : j ≤ 1000), decide_eq_true (by omega : l.length ≤ 1000), Bool.and_self, guardO_true]
        · rw [rep_len]; exact Nat.mul_le_mul l1 (by omega)
        · rw [rep_len]; exact Nat.mul_le_mul l2 (by omega)
      · cases h
    · rename_i lo hi t1 z w e1 e2
      split at h
      · rename_i q
        cases h
        obtain ⟨l, rfl, l1, l2, l3⟩ := seqT_ok e1 ga
        obtain ⟨j, rfl, j1, j2⟩ := rng_ok gb e2
        have sz : sizeLine = 16777216 := by decide
        have le : l.length * j.toNat ≤ sizeLine := by
          have : l.length * j.toNat ≤ 1000 * 1000 := Nat.mul_le_mul (by omega) (by omega)
          omega
        refine ⟨mkQ .own (List.replicate j.toNat l).flatten, ?_, has_vec ?_ ?_ fun p hp => l3 p (rep_mem hp)⟩
        · simp only [mkQ, oMul, unsh_map, decide_eq_true (by omega : j < 16777216), decide_eq_true (by omega : -16777216 < j), decide_eq_true le, Bool.and_self, guardO_true]
        · rw [rep_len]; exact Nat.mul_le_mul l1 (by omega)
        · rw [rep_len]; exact Nat.mul_le_mul l2 (by omega)
      · cases h
    · cases h
theorem divT_ok (h : divT a b = some t) (ga : has Ω a d) (gb : has Ω b e) : ∃ z, oInt2 (fun i j => i / j) (fun _ j => decide (0 < j) && decide (j < 1073741824)) d e = some z ∧ has Ω t z := by
  unfold divT at h
  split at h
  · rename_i x y z w e1 e2
    split at h
    · rename_i q
      cases h
      obtain ⟨i, rfl, i1, i2⟩ := rng_ok ga e1
      obtain ⟨j, rfl, j1, j2⟩ := rng_ok gb e2
      refine ⟨DI (i / j), by simp only [oInt2, decide_eq_true (by omega : 0 < j), decide_eq_true (by omega : j < 1073741824), Bool.and_self, guardO_true], ?_⟩
      split
      · have : j = z := by omega
        subst this
        exact has_mkI (Int.ediv_le_ediv (by omega) i1) (Int.ediv_le_ediv (by omega) i2)
      · refine has_mkI (Int.ediv_nonneg (by omega) (by omega)) ?_
        exact Int.le_trans (Int.ediv_le_self j (by omega : 0 ≤ i)) i2
    · cases h
  · cases h
theorem modT_ok (h : modT a b = some t) (ga : has Ω a d) (gb : has Ω b e) : ∃ z, oInt2 (fun i j => i % j) (fun _ j => decide (0 < j)) d e = some z ∧ has Ω t z := by
  unfold modT at h
  split at h
  · rename_i x y z w e1 e2
    split at h
    · rename_i q
      cases h
      obtain ⟨i, rfl, i1, i2⟩ := rng_ok ga e1
      obtain ⟨j, rfl, j1, j2⟩ := rng_ok gb e2
      refine ⟨DI (i % j), by simp only [oInt2, decide_eq_true (by omega : 0 < j), guardO_true], ?_⟩
      have m0 := Int.emod_nonneg i (by omega : j ≠ 0)
      have m1 := Int.emod_lt_of_pos i (by omega : 0 < j)
      split
      · rename_i r
        rw [Int.emod_eq_of_lt (by omega) (by omega)]
        exact has_mkI i1 i2
      · exact has_mkI m0 (by omega)
    · cases h
  · cases h
theorem negT_ok (h : negT a = some t) (ga : has Ω a d) : ∃ z, oNeg d = some z ∧ has Ω t z := by
  unfold negT at h
  split at h
  · rename_i x y e1
    cases h
    obtain ⟨i, rfl, i1, i2⟩ := rng_ok ga e1
    exact ⟨_, rfl, has_mkI (by omega) (by omega)⟩
  · cases h
theorem ltT_ok (h : ltT a b = some t) (ga : has Ω a d) (gb : has Ω b e) : ∃ i j, d = .sh (.int i) ∧ e = .sh (.int j) ∧ has Ω t (.sh (.bool (decide (i < j)))) := by
  unfold ltT at h
  split at h
  · rename_i x y z w e1 e2
    cases h
    obtain ⟨i, rfl, i1, i2⟩ := rng_ok ga e1
    obtain ⟨j, rfl, j1, j2⟩ := rng_ok gb e2
    refine ⟨i, j, rfl, rfl, ?_⟩
    split
    · rw [decide_eq_true (by omega : i < j)]; exact has_lit _
    · split
      · rw [decide_eq_false (by omega : ¬ i < j)]; exact has_lit _
      · exact has_bool _
  · cases h
theorem leIT_ok (h : leIT a b = some t) (ga : has Ω a d) (gb : has Ω b e) : ∃ i j, d = .sh (.int i) ∧ e = .sh (.int j) ∧ has Ω t (.sh (.bool (decide (i ≤ j)))) := by
  unfold leIT at h
  split at h
  · rename_i x y z w e1 e2
    cases h
    obtain ⟨i, rfl, i1, i2⟩ := rng_ok ga e1
    obtain ⟨j, rfl, j1, j2⟩ := rng_ok gb e2
    refine ⟨i, j, rfl, rfl, ?_⟩
    split
    · rw [decide_eq_true (by omega : i ≤ j)]; exact has_lit _
    · split
      · rw [decide_eq_false (by omega : ¬ i ≤ j)]; exact has_lit _
      · exact has_bool _
  · cases h
theorem eqv_tag {p q : PyData} (h : PyData.eqv p q = true) : tagP p = tagP q := by
  cases p <;> cases q <;> simp_all [PyData.eqv, tagP]
theorem eqvAll_len : ∀ {l m : List PyData}, PyData.eqvAll l m = true → l.length = m.length
  | [], [], _ => rfl
  | x :: l, y :: m, h => by
    simp only [PyData.eqvAll, Bool.and_eq_true] at h
    simp [eqvAll_len h.2]
  | [], _ :: _, h => by simp [PyData.eqvAll] at h
  | _ :: _, [], h => by simp [PyData.eqvAll] at h
theorem eqv_len {p q : PyData} (h : PyData.eqv p q = true) : lenP p = lenP q := by
  cases p <;> cases q <;> simp_all [PyData.eqv, lenP]
  all_goals exact eqvAll_len h
theorem pys_len : ∀ {ds : List D} {l : List PyData}, D.pys ds = some l → l.length = ds.length
  | [], l, h => by simp [D.pys] at h; subst h; rfl
  | d :: ds, l, h => by
    unfold D.pys at h
    split at h
    · rename_i e1 e2
      cases h
      simp [pys_len e2]
    · cases h
theorem mkQ_py {k : QK} {l : List PyData} : (mkQ k l).py = some (match k with | .tup => .tuple l | _ => .list l) := by
  cases k <;> simp [mkQ, D.py]
theorem tag0_ok {p : PyData} {k : Nat} (g : has Ω a d) (h1 : d.py = some p) (h2 : tag0 a = some k) : tagP p = k := by
  unfold tag0 at h2
  split at h2
  · rename_i q
    cases h2
    have g : d = .sh q := by simpa only [has] using g
    subst g; cases h1; rfl
  · cases h2
    obtain ⟨i, rfl, _⟩ := (by simpa only [has] using g)
    cases h1; rfl
  · cases h2
    obtain ⟨i, rfl⟩ := (by simpa only [has] using g)
    cases h1; rfl
  · cases h2
    obtain ⟨i, rfl, _⟩ := (by simpa only [has] using g)
    cases h1; rfl
  · cases h2
    obtain ⟨ds, rfl, _⟩ := (by simpa only [has] using g)
    rw [mkTup_py] at h1
    split at h1
    · cases h1; rfl
    · cases h1
  · cases h2
    obtain ⟨ds, rfl, _⟩ := (by simpa only [has] using g)
    unfold D.py at h1
    split at h1
    · cases h1; rfl
    · cases h1
  · cases h2
    obtain ⟨l, rfl, _⟩ := (by simpa only [has] using g)
    cases h1; rfl
  · cases h2
    obtain ⟨l, rfl, _⟩ := (by simpa only [has] using g)
    cases h1; rfl
  · rename_i kk lo hi tt hk
    cases h2
    obtain ⟨l, rfl, _⟩ := (by simpa only [has] using g)
    rw [mkQ_py] at h1
    cases kk with
    | tup => exact (hk rfl).elim
    | lst => cases h1; rfl
    | own => cases h1; rfl
  · cases h2
  · cases h2
  · cases h2
theorem tagU_ok : ∀ {ts : List T} {k : Nat} {u : T}, tagU ts = some k → u ∈ ts → tag0 u = some k
  | t :: ts, k, u, h, m => by
    unfold tagU at h
    split at h
    · rw [List.mem_singleton.mp m]; exact h
    · split at h
      · rename_i e1 e2
        split at h
        · rename_i q
          cases h
          rcases List.mem_cons.mp m with rfl | m
          · exact e1
          · rw [q]; exact tagU_ok e2 m
        · cases h
      · cases h
  | [], _, _, _, m => by cases m
theorem tagT_ok {p : PyData} {k : Nat} (g : has Ω a d) (h1 : d.py = some p) (h2 : tagT a = some k) : tagP p = k := by
  obtain ⟨u, mu, hu⟩ := has_alts g
  exact tag0_ok hu h1 (tagU_ok h2 mu)
theorem len0_ok {p : PyData} {x y : Nat} (g : has Ω a d) (h1 : d.py = some p) (h2 : lenR0 a = some (x, y)) : x ≤ lenP p ∧ lenP p ≤ y := by
  have g := has_exp g
  unfold lenR0 at h2
  split at h2
  · rename_i ts e
    cases h2
    rw [e] at g
    obtain ⟨ds, rfl, q⟩ := (by simpa only [has] using g)
    rw [mkTup_py] at h1
    split at h1
    · rename_i e
      cases h1
      have := pys_len e
      have := hasL_len q
      simp only [lenP]
      omega
    · cases h1
  · rename_i ts e
    cases h2
    rw [e] at g
    obtain ⟨ds, rfl, q⟩ := (by simpa only [has] using g)
    unfold D.py at h1
    split at h1
    · rename_i e
      cases h1
      have := pys_len e
      have := hasL_len q
      simp only [lenP]
      omega
    · cases h1
  · rename_i ts e
    cases h2
    rw [e] at g
    obtain ⟨l, rfl, q⟩ := (by simpa only [has] using g)
    cases h1
    have := hasL_len q
    rw [List.length_map] at this
    simp only [lenP]
    omega
  · rename_i k lo hi tt e
    cases h2
    rw [e] at g
    obtain ⟨l, rfl, q1, q2, _⟩ := (by simpa only [has] using g)
    rw [mkQ_py] at h1
    cases k <;> (cases h1; exact ⟨q1, q2⟩)
  · cases h2
theorem lenU_ok : ∀ {ts : List T} {x y : Nat} {u : T}, lenU ts = some (x, y) → u ∈ ts → ∃ z w, lenR0 u = some (z, w) ∧ x ≤ z ∧ w ≤ y
  | t :: ts, x, y, u, h, m => by
    unfold lenU at h
    split at h
    · rw [List.mem_singleton.mp m]; exact ⟨x, y, h, Nat.le_refl _, Nat.le_refl _⟩
    · split at h
      · rename_i e1 e2
        cases h
        rcases List.mem_cons.mp m with rfl | m
        · exact ⟨_, _, e1, Nat.min_le_left _ _, Nat.le_max_left _ _⟩
        · obtain ⟨z, w, a, b, c⟩ := lenU_ok e2 m
          exact ⟨z, w, a, Nat.le_trans (Nat.min_le_right _ _) b, Nat.le_trans c (Nat.le_max_right _ _)⟩
      · cases h
  | [], _, _, _, _, m => by cases m
theorem lenR_ok {p : PyData} {x y : Nat} (g : has Ω a d) (h1 : d.py = some p) (h2 : lenR a = some (x, y)) : x ≤ lenP p ∧ lenP p ≤ y := by
  obtain ⟨u, mu, hu⟩ := has_alts g
  obtain ⟨z, w, e, l1, l2⟩ := lenU_ok h2 mu
  have := len0_ok hu h1 e
  omega
theorem rng_py {p : PyData} {x y : Int} (g : has Ω a d) (h1 : d.py = some p) (h2 : rng a = some (x, y)) : ∃ i, p = .int i ∧ x ≤ i ∧ i ≤ y := by
  obtain ⟨i, rfl, q⟩ := rng_ok g h2
  cases h1
  exact ⟨i, rfl, q⟩
theorem differ_ok {p q : PyData} (h : differ a b = true) (ga : has Ω a d) (gb : has Ω b e) (ha : d.py = some p) (hb : e.py = some q) : PyData.eqv p q = false := by
  cases z : PyData.eqv p q with
  | false => rfl
  | true =>
    exfalso
    unfold differ at h
    simp only [Bool.or_eq_true] at h
    rcases h with (h | h) | h
    · split at h
      · rename_i i j e1 e2
        have := tagT_ok ga ha e1
        have := tagT_ok gb hb e2
        have := eqv_tag z
        simp at h
        omega
      · cases h
    · split at h
      · rename_i e1 e2
        obtain ⟨i, rfl, _⟩ := rng_py ga ha e1
        obtain ⟨j, rfl, _⟩ := rng_py gb hb e2
        simp [PyData.eqv] at z
        simp at h
        omega
      · cases h
    · split at h
      · rename_i e1 e2
        have := lenR_ok ga ha e1
        have := lenR_ok gb hb e2
        have := eqv_len z
        simp at h
        omega
      · cases h
theorem eqT_ok {neg : Bool} (h : eqT neg a b = some t) (ga : has Ω a d) (gb : has Ω b e) : ∃ z, oEq neg d e = some z ∧ has Ω t z := by
  unfold eqT at h
  split at h
  · rename_i x _ y _ e1 e2
    split at h
    · rename_i q
      cases h
      obtain ⟨p, hp, gp⟩ := has_dm ga e1
      obtain ⟨r, hr, gr⟩ := has_dm gb e2
      refine ⟨DB (neg != PyData.eqv p r), ?_, ?_⟩
      · simp only [oEq, hp, hr, gp.shaped (by omega), gr.shaped (by omega), Bool.and_self, guardO_true]
      · split
        · rename_i z
          rw [differ_ok z ga gb hp hr]
          cases neg <;> exact has_lit _
        · exact has_bool _
    · cases h
  · cases h
theorem inT_ok {neg : Bool} (h : inT neg a b = some t) (ga : has Ω a d) (gb : has Ω b e) : ∃ z, oIn neg d e = some z ∧ has Ω t z := by
  unfold inT at h
  split at h
  · rename_i x _ y _ k e1 e2 e3
    split at h
    · rename_i q
      cases h
      obtain ⟨p, hp, gp⟩ := has_dm ga e1
      obtain ⟨r, hr, gr⟩ := has_dm gb e2
      have ht := tagT_ok gb hr e3
      have s1 := gp.shaped (by omega)
      have s2 := gr.shaped (by omega)
      cases r with
      | list l => exact ⟨DB (neg != l.any fun z => PyData.eqv z p), by simp only [oIn, hp, hr, s1, s2, Bool.and_self, guardO_true], has_bool _⟩
      | tuple l => exact ⟨DB (neg != l.any fun z => PyData.eqv z p), by simp only [oIn, hp, hr, s1, s2, Bool.and_self, guardO_true], has_bool _⟩
      | none => simp [tagP] at ht; omega
      | bool _ => simp [tagP] at ht; omega
      | int _ => simp [tagP] at ht; omega
      | str _ => simp [tagP] at ht; omega
      | dict _ => simp [tagP] at ht; omega
    · cases h
  · cases h
theorem is_sh {neg : Bool} {p : PyData} : oIs neg (.sh p) (.sh .none) = some (DB (neg != match p with | .none => true | _ => false)) := rfl
theorem is_ns {neg : Bool} (h : ∀ p, d ≠ .sh p) : oIs neg d (.sh .none) = some (DB neg) := by
  cases d with
  | sh p => exact absurd rfl (h p)
  | _ => rfl
theorem isT_ok {neg : Bool} (h : isT neg a b = some t) (ga : has Ω a d) (gb : has Ω b e) : ∃ z, oIs neg d e = some z ∧ has Ω t z := by
  unfold isT at h
  split at h
  · have gb : e = .sh .none := by simpa only [has] using gb
    subst gb
    split at h
    · rename_i e1
      cases h
      by_cases s : ∃ p, d = .sh p
      · obtain ⟨p, rfl⟩ := s
        have := tagT_ok ga rfl e1
        cases p <;> simp [tagP] at this
        refine ⟨_, is_sh, ?_⟩
        cases neg <;> exact has_lit _
      · exfalso
        apply s
        obtain ⟨u, mu, hu⟩ := has_alts ga
        have e1 := tagU_ok e1 mu
        unfold tag0 at e1
        split at e1
        all_goals first
          | (have hu : d = _ := (by simpa only [has] using hu); exact ⟨_, hu⟩)
          | cases e1
    · rename_i k hk e1
      cases h
      by_cases s : ∃ p, d = .sh p
      · obtain ⟨p, rfl⟩ := s
        have tg := tagT_ok ga rfl e1
        cases p with
        | none => exact (hk tg.symm).elim
        | _ =>
          refine ⟨_, is_sh, ?_⟩
          cases neg <;> exact has_lit _
      · exact ⟨_, is_ns fun p q => s ⟨p, q⟩, has_lit _⟩
    · split at h
      · rename_i s
        cases h
        obtain ⟨p, rfl⟩ := has_sh ga s
        exact ⟨_, is_sh, has_bool _⟩
      · cases h
  · cases h
theorem atI_in {α : Type} {l : List α} {i : Int} (h1 : -(l.length : Int) ≤ i) (h2 : i < l.length) : ∃ x ∈ l, atI l i = some x := by
  unfold atI ixN
  by_cases h0 : 0 ≤ i
  · rw [if_pos h0, if_pos h2]
    have q : i.toNat < l.length := by omega
    exact ⟨l[i.toNat], List.getElem_mem q, by simp [List.getElem?_eq_getElem q]⟩
  · rw [if_neg h0, if_pos h1]
    have q : (i + l.length).toNat < l.length := by omega
    exact ⟨l[(i + l.length).toNat], List.getElem_mem q, by simp [List.getElem?_eq_getElem q]⟩
theorem atI_map {α β : Type} {g : α → β} {l : List α} {i : Int} : atI (l.map g) i = (atI l i).map g := by
  unfold atI
  rw [List.length_map]
  cases ixN l.length i <;> simp
theorem ix_mkQ {k : QK} {l : List PyData} {i : Int} {p : PyData} (h : atI l i = some p) : oIx (mkQ k l) (.sh (.int i)) = some (.sh p) := by
  cases k with
  | tup => simp [mkQ, oIx, h]
  | lst => simp [mkQ, oIx, h]
  | own => simp [mkQ, oIx, atI_map, h, shOnly]
theorem ixT_ok (h : ixT a b = some t) (ga : has Ω a d) (gb : has Ω b e) : ∃ z, oIx d e = some z ∧ has Ω t z := by
  unfold ixT at h
  split at h
  · rename_i k lo hi t1 x y e1 e2
    split at h
    · cases h
      obtain ⟨l, rfl, l1, l2, l3⟩ := seqT_ok e1 ga
      obtain ⟨i, rfl, i1, i2⟩ := rng_ok gb e2
      obtain ⟨p, m, q⟩ := atI_in (l := l) (i := i) (by omega) (by omega)
      exact ⟨_, ix_mkQ q, l3 p m⟩
    · cases h
  · cases h
theorem cut_len {l : List PyData} {x y : Option Int} : (cutL l x y).length ≤ l.length := by
  unfold cutL
  simp; omega
theorem cut_mem {l : List PyData} {x y : Option Int} {p : PyData} (h : p ∈ cutL l x y) : p ∈ l := List.mem_of_mem_drop (List.mem_of_mem_take h)
theorem sl_mkQ {k : QK} {l : List PyData} {x y : Option Int} : oSl x y (mkQ k l) = some (mkQ (slK k) (cutL l x y)) := by
  cases k with
  | tup => rfl
  | lst => rfl
  | own => simp [mkQ, oSl, slK]
theorem slT_ok {x y : Option Int} (h : slT a = some t) (ga : has Ω a d) : ∃ z, oSl x y d = some z ∧ has Ω t z := by
  unfold slT at h
  split at h
  · rename_i k lo hi t1 e1
    cases h
    obtain ⟨l, rfl, l1, l2, l3⟩ := seqT_ok e1 ga
    exact ⟨_, sl_mkQ, has_vec (Nat.zero_le _) (Nat.le_trans cut_len l2) fun p hp => l3 p (cut_mem hp)⟩
  · cases h
theorem mkTup_len (ds : List D) : oLen (mkTup ds) = some (DI ds.length) := by
  unfold mkTup
  cases e : unsh ds with
  | none => rfl
  | some l => rw [unsh_eq e]; simp [oLen]
theorem oLen0 {x y : Nat} (ga : has Ω a d) (e : lenR0 a = some (x, y)) : ∃ n : Nat, oLen d = some (DI n) ∧ x ≤ n ∧ n ≤ y := by
  have g := has_exp ga
  unfold lenR0 at e
  split at e
  · rename_i q
    cases e
    rw [q] at g
    obtain ⟨ds, rfl, r⟩ := (by simpa only [has] using g)
    have := hasL_len r
    exact ⟨_, mkTup_len ds, by omega, by omega⟩
  · rename_i q
    cases e
    rw [q] at g
    obtain ⟨ds, rfl, r⟩ := (by simpa only [has] using g)
    have := hasL_len r
    exact ⟨_, rfl, by omega, by omega⟩
  · rename_i q
    cases e
    rw [q] at g
    obtain ⟨l, rfl, r⟩ := (by simpa only [has] using g)
    have := hasL_len r
    rw [List.length_map] at this
    exact ⟨_, rfl, by omega, by omega⟩
  · rename_i k _ _ _ q
    cases e
    rw [q] at g
    obtain ⟨l, rfl, r1, r2, _⟩ := (by simpa only [has] using g)
    exact ⟨l.length, by cases k <;> simp [mkQ, oLen], r1, r2⟩
  · cases e
theorem lenT_ok (h : lenT a = some t) (ga : has Ω a d) : ∃ z, oLen d = some z ∧ has Ω t z := by
  unfold lenT at h
  split at h
  · rename_i lo hi e
    cases h
    obtain ⟨u, mu, hu⟩ := has_alts ga
    obtain ⟨z, w, e2, l1, l2⟩ := lenU_ok e mu
    obtain ⟨n, e3, l3, l4⟩ := oLen0 hu e2
    exact ⟨_, e3, has_mkI (by omega) (by omega)⟩
  · split at h
    · rename_i n _
      split at h
      · rename_i q
        cases h
        obtain ⟨x, rfl, _, s⟩ := (by simpa only [has] using ga)
        have sz : sizeLine = 16777216 := by decide
        have s : x.length ≤ n := s
        exact ⟨DI x.length, by simp only [oLen, decide_eq_true (by omega : x.length ≤ sizeLine), guardO_true], has_mkI (by omega) (by omega)⟩
      · cases h
    · cases h
theorem absT_ok (h : absT a = some t) (ga : has Ω a d) : ∃ z, oAbs d = some z ∧ has Ω t z := by
  unfold absT at h
  split at h
  · rename_i x y e1
    cases h
    obtain ⟨i, rfl, i1, i2⟩ := rng_ok ga e1
    refine ⟨_, rfl, ?_⟩
    split
    · rw [if_neg (by omega)]; exact has_mkI i1 i2
    · unfold has
      exact ⟨_, rfl, by split <;> omega, by split <;> omega⟩
  · cases h
theorem isB_ok (h : isB a = true) (g : has Ω a d) : ∃ b, d = .sh (.bool b) := by
  unfold isB at h
  split at h
  · exact ⟨_, by simpa only [has] using g⟩
  · simpa only [has] using g
  · cases h
theorem intT_ok (h : intT a = some t) (ga : has Ω a d) : ∃ z, oInt d = some z ∧ has Ω t z := by
  unfold intT at h
  split at h
  · rename_i x y e1
    cases h
    obtain ⟨i, rfl, i1, i2⟩ := rng_ok ga e1
    exact ⟨_, rfl, has_mkI i1 i2⟩
  · split at h
    · rename_i q
      cases h
      obtain ⟨b, rfl⟩ := isB_ok q ga
      refine ⟨_, rfl, ?_⟩
      unfold has
      exact ⟨_, rfl, by cases b <;> decide, by cases b <;> decide⟩
    · cases h
theorem reprT_ok (h : reprT a = some t) (ga : has Ω a d) : ∃ z, oRepr d = some z ∧ has Ω t z := by
  unfold reprT at h
  split at h
  · rename_i x y e1
    split at h
    · rename_i q
      cases h
      obtain ⟨p, hp, gp⟩ := has_dm ga e1
      refine ⟨_, gp.repr hp q.1 q.2, ?_⟩
      unfold has
      exact ⟨_, rfl, ok_iff.mpr (ok_shown gp.ok), gp.shown⟩
    · cases h
  · cases h
theorem listT_ok (h : listT a = some t) (ga : has Ω a d) : ∃ z, oList d = some z ∧ has Ω t z := by
  unfold listT at h
  split at h
  · rename_i k lo hi t1 e1
    cases h
    obtain ⟨l, rfl, l1, l2, l3⟩ := seqT_ok e1 ga
    exact ⟨mkQ .own l, by simp only [oList, mkQ_seq]; rfl, has_vec l1 l2 l3⟩
  · cases h
theorem tupleT_ok (h : tupleT a = some t) (ga : has Ω a d) : ∃ z, oTuple d = some z ∧ has Ω t z := by
  unfold tupleT at h
  split at h
  · rename_i k lo hi t1 e1
    cases h
    obtain ⟨l, rfl, l1, l2, l3⟩ := seqT_ok e1 ga
    exact ⟨mkQ .tup l, by simp only [oTuple, mkQ_seq]; rfl, has_vec l1 l2 l3⟩
  · cases h
theorem revT_ok (h : revT a = some t) (ga : has Ω a d) : ∃ z, oRev d = some z ∧ has Ω t z := by
  unfold revT at h
  split at h
  · rename_i k lo hi t1 e1
    cases h
    obtain ⟨l, rfl, l1, l2, l3⟩ := seqT_ok e1 ga
    refine ⟨mkQ (slK k) l.reverse, ?_, has_vec (by simpa using l1) (by simpa using l2) fun p hp => l3 p (List.mem_reverse.mp hp)⟩
    cases k <;> (simp only [oRev, mkQ_seq]; rfl)
  · cases h
theorem rg_len {i j : Int} : (rgL i j).length = (j - i).toNat := by simp [rgL]
theorem rg_mem {i j : Int} {p : PyData} (h : p ∈ rgL i j) : ∃ k, p = .int k ∧ i ≤ k ∧ k < j := by
  unfold rgL at h
  obtain ⟨n, m, rfl⟩ := List.mem_map.mp h
  have := List.mem_range.mp m
  exact ⟨_, rfl, by omega, by omega⟩
theorem rngT_ok {k : QK} (h : rngT k a b = some t) (ga : has Ω a d) (gb : has Ω b e) : ∃ i j, d = .sh (.int i) ∧ e = .sh (.int j) ∧ rgOk i j = true ∧ has Ω t (mkQ k (rgL i j)) := by
  unfold rngT at h
  split at h
  · rename_i x y z w e1 e2
    split at h
    · rename_i q
      cases h
      obtain ⟨i, rfl, i1, i2⟩ := rng_ok ga e1
      obtain ⟨j, rfl, j1, j2⟩ := rng_ok gb e2
      refine ⟨i, j, rfl, rfl, by simp [rgOk]; omega, has_vec (by rw [rg_len]; omega) (by rw [rg_len]; omega) fun p hp => ?_⟩
      obtain ⟨k, rfl, k1, k2⟩ := rg_mem hp
      unfold has
      exact ⟨k, rfl, by omega, by omega⟩
    · cases h
  · cases h
theorem tyN0_ok {s : String} (h : tyN0 a = some s) (g : has Ω a d) : d.ty = some s := by
  unfold tyN0 at h
  split at h
  · rename_i q
    have g : d = .sh q := by simpa only [has] using g
    subst g; exact h
  · cases h
    obtain ⟨i, rfl, _⟩ := (by simpa only [has] using g)
    rfl
  · cases h
    obtain ⟨i, rfl⟩ := (by simpa only [has] using g)
    rfl
  · cases h
    obtain ⟨i, rfl, _⟩ := (by simpa only [has] using g)
    rfl
  · cases h
    obtain ⟨ds, rfl, _⟩ := (by simpa only [has] using g)
    unfold mkTup
    split <;> rfl
  · cases h
    obtain ⟨i, rfl, _⟩ := (by simpa only [has] using g)
    rfl
  · cases h
    obtain ⟨i, rfl, _⟩ := (by simpa only [has] using g)
    rfl
  · cases h
    obtain ⟨i, rfl, _⟩ := (by simpa only [has] using g)
    rfl
  · rename_i k _ _ _ hk
    cases h
    obtain ⟨l, rfl, _⟩ := (by simpa only [has] using g)
    cases k with
    | tup => exact (hk rfl).elim
    | lst => rfl
    | own => rfl
  · cases h
  · cases h
  · cases h
theorem tyU_ok : ∀ {ts : List T} {k : String} {u : T}, tyU ts = some k → u ∈ ts → tyN0 u = some k
  | t :: ts, k, u, h, m => by
    unfold tyU at h
    split at h
    · rw [List.mem_singleton.mp m]; exact h
    · split at h
      · rename_i e1 e2
        split at h
        · rename_i q
          cases h
          rcases List.mem_cons.mp m with rfl | m
          · exact e1
          · rw [q]; exact tyU_ok e2 m
        · cases h
      · cases h
  | [], _, _, _, m => by cases m
theorem tyN_ok {s : String} (h : tyN a = some s) (g : has Ω a d) : d.ty = some s := by
  obtain ⟨u, mu, hu⟩ := has_alts g
  exact tyN0_ok (tyU_ok h mu) hu
theorem isiT_ok {ty : Ty} (h : isiT ty a = some t) (ga : has Ω a d) : ∃ z, oIsi ty d = some z ∧ has Ω t z := by
  unfold isiT at h
  split at h
  · rename_i s e1
    cases h
    exact ⟨_, by simp only [oIsi, tyN_ok e1 ga], has_lit _⟩
  · split at h
    · cases h
      obtain ⟨p, rfl, g⟩ := (by simpa only [has] using ga)
      have g := g.ok
      cases p with
      | dict _ => simp [gdB] at g
      | _ => exact ⟨_, rfl, has_bool _⟩
    · cases h
theorem ints_sum {x y : Int} (h0 : 0 ≤ x) : ∀ {l : List PyData}, (∀ p ∈ l, ∃ i, p = .int i ∧ x ≤ i ∧ i ≤ y) → ∃ ns : List Int, intsOf l = some ns ∧ 0 ≤ ns.sum ∧ ns.sum ≤ l.length * y
  | [], _ => ⟨[], rfl, by simp, by simp⟩
  | p :: l, h => by
    obtain ⟨i, rfl, i1, i2⟩ := h p List.mem_cons_self
    obtain ⟨ns, e, a, b⟩ := ints_sum h0 (l := l) fun q hq => h q (List.mem_cons_of_mem _ hq)
    refine ⟨i :: ns, by simp [intsOf, e], by simp; omega, ?_⟩
    simp only [List.sum_cons, List.length_cons, Int.natCast_add, Int.add_mul]
    have : ((1 : Nat) : Int) * y = y := by simp
    omega
theorem sumT_ok (h : sumT a = some t) (ga : has Ω a d) : ∃ z, oSum d = some z ∧ has Ω t z := by
  unfold sumT at h
  split at h
  · rename_i k lo hi t1 e1
    split at h
    · cases h
    · rename_i hk
      split at h
      · rename_i x y e2
        split at h
        · rename_i h0
          cases h
          obtain ⟨l, rfl, l1, l2, l3⟩ := seqT_ok e1 ga
          obtain ⟨ns, q1, q2, q3⟩ := ints_sum (x := x) (y := y) h0.1 (l := l) fun p hp => by
            obtain ⟨i, z, u⟩ := rng_ok (l3 p hp) e2
            cases z
            exact ⟨i, rfl, u⟩
          refine ⟨DI ns.sum, ?_, has_mkI q2 ?_⟩
          · cases k with
            | tup => exact absurd rfl hk
            | lst => simp only [oSum, mkQ_seq, q1]
            | own => simp only [oSum, mkQ_seq, q1]
          · exact Int.le_trans q3 (Int.mul_le_mul_of_nonneg_right (by omega) h0.2)
        · cases h
      · cases h
  · cases h
theorem bools_ok : ∀ {l : List PyData}, (∀ p ∈ l, ∃ b, p = .bool b) → ∃ bs, boolsOf l = some bs
  | [], _ => ⟨[], rfl⟩
  | p :: l, h => by
    obtain ⟨i, rfl⟩ := h p List.mem_cons_self
    obtain ⟨ns, e⟩ := bools_ok (l := l) fun q hq => h q (List.mem_cons_of_mem _ hq)
    exact ⟨i :: ns, by simp [boolsOf, e]⟩
theorem allT_ok (h : allT a = some t) (ga : has Ω a d) : (∃ z, oAll d = some z ∧ has Ω t z) ∧ ∃ z, oAny d = some z ∧ has Ω t z := by
  unfold allT at h
  split at h
  · rename_i k lo hi t1 e1
    split at h
    · cases h
    · rename_i hk
      split at h
      · rename_i q
        cases h
        obtain ⟨l, rfl, l1, l2, l3⟩ := seqT_ok e1 ga
        obtain ⟨bs, e⟩ := bools_ok (l := l) fun p hp => by
          obtain ⟨b, z⟩ := isB_ok q (l3 p hp)
          cases z
          exact ⟨b, rfl⟩
        cases k with
        | tup => exact absurd rfl hk
        | lst => exact ⟨⟨DB (bs.all id), by simp only [oAll, mkQ_seq, e], has_bool _⟩, DB (bs.any id), by simp only [oAny, mkQ_seq, e], has_bool _⟩
        | own => exact ⟨⟨DB (bs.all id), by simp only [oAll, mkQ_seq, e], has_bool _⟩, DB (bs.any id), by simp only [oAny, mkQ_seq, e], has_bool _⟩
      · cases h
  · cases h
theorem hL1 {ds : List D} (h : hasL Ω [a] ds) : ∃ d, ds = [d] ∧ has Ω a d := by
  match ds, h with
  | [d], h => exact ⟨d, rfl, by unfold hasL at h; exact h.1⟩
  | [], h => simp [hasL] at h
  | _ :: _ :: _, h => simp [hasL] at h
theorem hL2 {ds : List D} (h : hasL Ω [a, b] ds) : ∃ d e, ds = [d, e] ∧ has Ω a d ∧ has Ω b e := by
  match ds, h with
  | d :: ds, h =>
    unfold hasL at h
    obtain ⟨e, rfl, q⟩ := hL1 h.2
    exact ⟨d, e, rfl, h.1, q⟩
  | [], h => simp [hasL] at h
theorem hL3 {ds : List D} (h : hasL Ω [a, b, c] ds) : ∃ d e f, ds = [d, e, f] ∧ has Ω a d ∧ has Ω b e ∧ has Ω c f := by
  match ds, h with
  | d :: ds, h =>
    unfold hasL at h
    obtain ⟨e, f, rfl, q⟩ := hL2 h.2
    exact ⟨d, e, f, rfl, h.1, q⟩
  | [], h => simp [hasL] at h
theorem opT_ok {o : Op} {ts : List T} {ds : List D} (h : opT o ts = some t) (g : hasL Ω ts ds) : ∃ z, opD o ds = some z ∧ has Ω t z := by
  unfold opT at h
  split at h
  case h_1 => obtain ⟨d, e, rfl, x, y⟩ := hL2 g; exact addT_ok h x y
  case h_2 => obtain ⟨d, e, rfl, x, y⟩ := hL2 g; exact subT_ok h x y
  case h_3 => obtain ⟨d, e, rfl, x, y⟩ := hL2 g; exact mulT_ok h x y
  case h_4 => obtain ⟨d, e, rfl, x, y⟩ := hL2 g; exact divT_ok h x y
  case h_5 => obtain ⟨d, e, rfl, x, y⟩ := hL2 g; exact modT_ok h x y
  case h_6 => obtain ⟨d, rfl, x⟩ := hL1 g; exact negT_ok h x
  case h_7 => obtain ⟨d, e, rfl, x, y⟩ := hL2 g; obtain ⟨i, j, rfl, rfl, q⟩ := ltT_ok h x y; exact ⟨_, rfl, q⟩
  case h_8 => obtain ⟨d, e, rfl, x, y⟩ := hL2 g; obtain ⟨i, j, rfl, rfl, q⟩ := leIT_ok h x y; exact ⟨_, rfl, q⟩
  case h_9 => obtain ⟨d, e, rfl, x, y⟩ := hL2 g; obtain ⟨i, j, rfl, rfl, q⟩ := ltT_ok h y x; exact ⟨_, rfl, q⟩
  case h_10 => obtain ⟨d, e, rfl, x, y⟩ := hL2 g; obtain ⟨i, j, rfl, rfl, q⟩ := leIT_ok h y x; exact ⟨_, rfl, q⟩
  case h_11 => obtain ⟨d, e, rfl, x, y⟩ := hL2 g; exact eqT_ok h x y
  case h_12 => obtain ⟨d, e, rfl, x, y⟩ := hL2 g; exact eqT_ok h x y
  case h_13 => obtain ⟨d, e, rfl, x, y⟩ := hL2 g; exact inT_ok h x y
  case h_14 => obtain ⟨d, e, rfl, x, y⟩ := hL2 g; exact inT_ok h x y
  case h_15 => obtain ⟨d, e, rfl, x, y⟩ := hL2 g; exact isT_ok h x y
  case h_16 => obtain ⟨d, e, rfl, x, y⟩ := hL2 g; exact isT_ok h x y
  case h_17 => obtain ⟨d, e, rfl, x, y⟩ := hL2 g; exact ixT_ok h x y
  case h_18 => obtain ⟨d, rfl, x⟩ := hL1 g; exact slT_ok h x
  case h_19 =>
    obtain ⟨d, e, rfl, x, y⟩ := hL2 g
    split at h
    · rename_i e1
      obtain ⟨i, rfl, _⟩ := rng_ok y e1
      exact slT_ok h x
    · cases h
  case h_20 =>
    obtain ⟨d, e, rfl, x, y⟩ := hL2 g
    split at h
    · rename_i e1
      obtain ⟨i, rfl, _⟩ := rng_ok y e1
      exact slT_ok h x
    · cases h
  case h_21 =>
    obtain ⟨d, e, f, rfl, x, y, z⟩ := hL3 g
    split at h
    · rename_i e1 e2
      obtain ⟨i, rfl, _⟩ := rng_ok y e1
      obtain ⟨j, rfl, _⟩ := rng_ok z e2
      exact slT_ok h x
    · cases h
  case h_22 => obtain ⟨d, rfl, x⟩ := hL1 g; exact lenT_ok h x
  case h_23 => obtain ⟨d, rfl, x⟩ := hL1 g; exact absT_ok h x
  case h_24 => obtain ⟨d, rfl, x⟩ := hL1 g; exact intT_ok h x
  case h_25 => obtain ⟨d, rfl, x⟩ := hL1 g; exact reprT_ok h x
  case h_26 => obtain ⟨d, rfl, x⟩ := hL1 g; exact listT_ok h x
  case h_27 => obtain ⟨d, rfl, x⟩ := hL1 g; exact tupleT_ok h x
  case h_28 => obtain ⟨d, rfl, x⟩ := hL1 g; exact sumT_ok h x
  case h_29 => obtain ⟨d, rfl, x⟩ := hL1 g; exact (allT_ok h x).1
  case h_30 => obtain ⟨d, rfl, x⟩ := hL1 g; exact (allT_ok h x).2
  case h_31 => obtain ⟨d, rfl, x⟩ := hL1 g; exact revT_ok h x
  case h_32 =>
    obtain ⟨d, rfl, x⟩ := hL1 g
    obtain ⟨i, j, e1, rfl, q, r⟩ := rngT_ok h (has_lit (Ω := Ω) (.int 0)) x
    cases e1
    exact ⟨mkQ .own (rgL 0 j), by simp only [opD, un1, oRg1, q, guardO_true, mkQ], r⟩
  case h_33 =>
    obtain ⟨d, e, rfl, x, y⟩ := hL2 g
    obtain ⟨i, j, rfl, rfl, q, r⟩ := rngT_ok h x y
    exact ⟨mkQ .own (rgL i j), by simp only [opD, bi2, oRg2, q, guardO_true, mkQ], r⟩
  case h_34 =>
    obtain ⟨d, rfl, x⟩ := hL1 g
    obtain ⟨i, j, e1, rfl, q, r⟩ := rngT_ok h (has_lit (Ω := Ω) (.int 0)) x
    cases e1
    exact ⟨mkQ .tup (rgL 0 j), by simp only [opD, un1, oRg1, q, guardO_true, mkQ], r⟩
  case h_35 =>
    obtain ⟨d, e, rfl, x, y⟩ := hL2 g
    obtain ⟨i, j, rfl, rfl, q, r⟩ := rngT_ok h x y
    exact ⟨mkQ .tup (rgL i j), by simp only [opD, bi2, oRg2, q, guardO_true, mkQ], r⟩
  case h_36 => obtain ⟨d, rfl, x⟩ := hL1 g; exact isiT_ok h x
  case h_37 => cases h
end Ab
/-! X5: operations on symbolic values. -/
namespace Ab
open PySem PySem.Spec L2
open Vs hiding Env
open PyProof.Rows hiding St
def push (C : List CE) (t : T) : S × List CE := ((opn C.length t).1, C ++ plainC (opn C.length t).2)
mutual
def ofD : D → Option S
  | .sh p => some (nrm p)
  | .ls ds => match ofDs ds with
    | some l => some (.ls l)
    | none => none
  | _ => none
def ofDs : List D → Option (List S)
  | [] => some []
  | d :: ds => match ofD d, ofDs ds with
    | some s, some l => some (s :: l)
    | _, _ => none
end
/-- a name for something with items, told by its items -/
def expS (C : List CE) (s : S) : S × List CE := match s with
  | .v n => match C[n]? with
    | some c => match c.t with
      | .tup ts => push C (.tup ts)
      | .ls ts => push C (.ls ts)
      | .fl ts => push C (.fl ts)
      | _ => (s, C)
    | none => (s, C)
  | _ => (s, C)
def expL (C : List CE) : List S → List S × List CE
  | [] => ([], C)
  | s :: l => ((expS C s).1 :: (expL (expS C s).2 l).1, (expL (expS C s).2 l).2)
def items : S → Option (List S)
  | .tup l => some l
  | .ls l => some l
  | .fl l => some l
  | _ => none
def shL (C : List CE) (l : List S) : Bool := match tySs C l with
  | some ts => shTs ts
  | none => false
def cutS (xs : List S) (lo hi : Option Int) : List S := (xs.drop (HT.sIx xs.length 0 lo)).take (HT.sIx xs.length xs.length hi - HT.sIx xs.length 0 lo)
def slX (C : List CE) (a : S) (lo hi : Option Int) : Option S := match a with
  | .tup l => if shL C l = true then some (.tup (cutS l lo hi)) else none
  | .ls l => if shL C l = true then some (.ls (cutS l lo hi)) else none
  | .fl l => some (.ls (cutS l lo hi))
  | _ => none
def ixX (C : List CE) (a : S) (i : Int) : Option S := match items a with
  | some l => match atI l i with
    | some s => match tyS C s with
      | some t => if shT t = true then some s else none
      | none => none
    | none => none
  | none => none
def sameX (C : List CE) (neg : Bool) (a b : S) : Option S := if sEq a b = true then match tyS C a with
    | some t => match dm t with
      | some (x, _) => if x ≤ 60 then some (.lit (.bool (!neg))) else none
      | none => none
    | none => none
  else none
def addX (C : List CE) (a b : S) : Option S := match a, b with
  | .tup l, .tup m => if shL C l = true ∧ shL C m = true ∧ l.length + m.length ≤ 1000000 then some (.tup (l ++ m)) else none
  | .ls l, .ls m => if shL C l = true ∧ shL C m = true ∧ l.length + m.length ≤ 1000000 then some (.ls (l ++ m)) else none
  | _, _ => none
def mulX (C : List CE) (a : S) (k : Int) : Option S := match a with
  | .tup l => if shL C l = true ∧ 0 ≤ k ∧ k ≤ 100 ∧ l.length * k.toNat ≤ 200 ∧ l.length ≤ 200 then some (.tup (List.replicate k.toNat l).flatten) else none
  | .ls l => if shL C l = true ∧ 0 ≤ k ∧ k ≤ 100 ∧ l.length * k.toNat ≤ 100 then some (.ls (List.replicate k.toNat l).flatten) else none
  | _ => none
def listX (C : List CE) (a : S) : Option S := match a with
  | .tup l => if shL C l = true then some (.ls l) else none
  | .ls l => if shL C l = true then some (.ls l) else none
  | .fl l => some (.ls l)
  | _ => none
def tupleX (C : List CE) (a : S) : Option S := match a with
  | .tup l => if shL C l = true then some (.tup l) else none
  | .ls l => if shL C l = true then some (.tup l) else none
  | .fl l => some (.tup l)
  | _ => none
def revX (C : List CE) (a : S) : Option S := match a with
  | .tup l => if shL C l = true then some (.tup l.reverse) else none
  | .ls l => if shL C l = true then some (.ls l.reverse) else none
  | .fl l => some (.ls l.reverse)
  | _ => none
def opX (C : List CE) : Op → List S → Option S
  | .ix, [a, .lit (.int i)] => ixX C a i
  | .len, [a] => match items a with
    | some l => some (.lit (.int l.length))
    | none => none
  | .add, [a, b] => addX C a b
  | .mul, [a, .lit (.int k)] => mulX C a k
  | .list, [a] => listX C a
  | .tuple, [a] => tupleX C a
  | .rev, [a] => revX C a
  | .sl, [a] => slX C a none none
  | .slL, [a, .lit (.int i)] => slX C a (some i) none
  | .slH, [a, .lit (.int i)] => slX C a none (some i)
  | .slLH, [a, .lit (.int i), .lit (.int j)] => slX C a (some i) (some j)
  | .eq, [a, b] => sameX C false a b
  | .ne, [a, b] => sameX C true a b
  | _, _ => none
/-- what is made of some, remembered -/
def pushF (C : List CE) (t : T) (f : Fn) (ss : List S) : S × List CE := match t with
  | .lit p => (nrm p, C)
  | t => match findO f ss C 0 with
    | some n => (.v n, C)
    | none => (.v C.length, C ++ [⟨t, some (f, ss)⟩])
def isStr : T → Bool
  | .tup _ => true
  | .ls _ => true
  | .fl _ => true
  | _ => false
/-- a known list sorted: by its type -/
def sortC (ss : List S) : Option T := match dens [] ss with
  | some [d] => match d.seq with
    | some (.lst, l) => if (allAlike l && sortableB l && decide (PyData.depthAll l ≤ 60)) = true then (match seqT (.fl (l.map .lit)) with
      | some (.lst, _, _, e) => some (.vec .own l.length l.length e)
      | _ => none) else none
    | _ => none
  | _ => none
def opS1 (C : List CE) (o : Op) (ss : List S) : Option (S × List CE) := match opX C o ss with
  | some s => some (s, C)
  | none => match if o = .sorted then sortC ss else none with
   | some t => some (push C t)
   | none => match if o = .repr then none else dens [] ss with
    | some ds => match opD o ds with
      | some d => match ofD d with
        | some s => some (s, C)
        | none => none
      | none => none
    | none => match tySs C ss with
      | some ts => match opT o ts with
        | some t => if isStr t = true then some (push C t) else some (pushF C t (.op o) ss)
        | none => none
      | none => none
def opS (C : List CE) (o : Op) (ss : List S) : Option (S × List CE) := if o = .repr then opS1 C o ss else opS1 (expL C ss).2 o (expL C ss).1
/-! ### right -/
variable {iv : Iv} {ν : List D} {C : List CE}
theorem push_ok {t : T} {d : D} (h : satC iv ν C) (g : has iv.Ω t d) : ∃ μ, satC iv (ν ++ μ) (push C t).2 ∧ den (ν ++ μ) (push C t).1 = some d := by
  obtain ⟨μ, a, b⟩ := opn_ok (n := C.length) g
  exact ⟨μ, h.app a, b ν h.len⟩
mutual
theorem ofD_ok : ∀ {d : D} {s : S}, ofD d = some s → den ν s = some d
  | .sh p, s, h => by
    simp only [ofD, Option.some.injEq] at h
    subst h
    exact nrm_ok
  | .ls ds, s, h => by
    unfold ofD at h
    split at h
    · rename_i l e
      cases h
      simp only [den, ofDs_ok e]
    · cases h
  | .tp _, s, h => by simp [ofD] at h
  | .dk _ _, s, h => by simp [ofD] at h
  | .ob _ _ _, s, h => by simp [ofD] at h
  | .fn _, s, h => by simp [ofD] at h
theorem ofDs_ok : ∀ {ds : List D} {l : List S}, ofDs ds = some l → dens ν l = some ds
  | [], l, h => by simp only [ofDs, Option.some.injEq] at h; subst h; rfl
  | d :: ds, l, h => by
    unfold ofDs at h
    split at h
    · rename_i e1 e2
      cases h
      exact dens_mk (ofD_ok e1) (ofDs_ok e2)
    · cases h
end
theorem den_nil {s : S} {d : D} (h : den [] s = some d) : den ν s = some d := by
  have := den_app (μ := ν) h
  simpa using this
theorem dens_nil {s : List S} {d : List D} (h : dens [] s = some d) : dens ν s = some d := by
  have := dens_app (μ := ν) h
  simpa using this
theorem expS_ok {s : S} {d : D} (h : satC iv ν C) (g : den ν s = some d) : ∃ μ, satC iv (ν ++ μ) (expS C s).2 ∧ den (ν ++ μ) (expS C s).1 = some d := by
  unfold expS
  have same : ∃ μ, satC iv (ν ++ μ) C ∧ den (ν ++ μ) s = some d := ⟨[], by simpa using h, by simpa using g⟩
  split
  · rename_i n
    split
    · rename_i c e
      obtain ⟨d', a, b, _⟩ := h.get n c e
      have : d' = d := by
        have g : ν[n]? = some d := g
        rw [g] at a; cases a; rfl
      subst this
      split
      · rename_i et
        rw [et] at b
        exact push_ok h b
      · rename_i et
        rw [et] at b
        exact push_ok h b
      · rename_i et
        rw [et] at b
        exact push_ok h b
      · exact same
    · exact same
  · exact same
theorem expL_ok : ∀ {ss : List S} {ds : List D} {ν : List D} {C : List CE}, satC iv ν C → dens ν ss = some ds → ∃ μ, satC iv (ν ++ μ) (expL C ss).2 ∧ dens (ν ++ μ) (expL C ss).1 = some ds
  | [], ds, ν, C, h, g => ⟨[], by simpa [expL] using h, by simpa [expL] using g⟩
  | s :: l, ds, ν, C, h, g => by
    obtain ⟨d, ds', rfl, a, b⟩ := dens_cons g
    obtain ⟨μ, x, y⟩ := expS_ok h a
    obtain ⟨μ', x', y'⟩ := expL_ok (ss := l) x (dens_app b)
    refine ⟨μ ++ μ', ?_, ?_⟩
    · rw [← List.append_assoc]; simpa only [expL] using x'
    · rw [← List.append_assoc]
      simp only [expL]
      exact dens_mk (den_app y) y'
theorem shL_ok {l : List S} {ds : List D} (h : satC iv ν C) (g : dens ν l = some ds) (e : shL C l = true) : ∃ m : List PyData, ds = m.map .sh := by
  unfold shL at e
  split at e
  · rename_i ts q
    obtain ⟨ds', a, b⟩ := tySs_ok h q
    rw [g] at a
    cases a
    exact hasL_sh b e
  · cases e
theorem den_tup {l : List S} {d : D} (h : den ν (.tup l) = some d) : ∃ ds, dens ν l = some ds ∧ d = mkTup ds := by
  unfold den at h
  split at h
  · rename_i ds e
    cases h
    exact ⟨ds, e, rfl⟩
  · cases h
theorem den_ls {l : List S} {d : D} (h : den ν (.ls l) = some d) : ∃ ds, dens ν l = some ds ∧ d = .ls ds := by
  unfold den at h
  split at h
  · rename_i ds e
    cases h
    exact ⟨ds, e, rfl⟩
  · cases h
theorem den_fl {l : List S} {d : D} (h : den ν (.fl l) = some d) : ∃ m : List PyData, dens ν l = some (m.map .sh) ∧ d = .sh (.list m) := by
  unfold den at h
  split at h
  · rename_i ds e
    split at h
    · rename_i m e2
      cases h
      rw [unsh_eq e2] at e
      exact ⟨m, e, rfl⟩
    · cases h
  · cases h
theorem tup_den {l : List S} {m : List PyData} (h : dens ν l = some (m.map .sh)) : den ν (.tup l) = some (mkQ .tup m) := by
  unfold den
  rw [h]
  simp only [mkTup_map, mkQ]
theorem ls_den {l : List S} {m : List PyData} (h : dens ν l = some (m.map .sh)) : den ν (.ls l) = some (mkQ .own m) := by
  unfold den
  rw [h]
  rfl
/-- a shared sequence by its items -/
theorem seq_den {a : S} {d : D} {l : List S} (H : satC iv ν C) (h : den ν a = some d) (e : (∃ l, a = .fl l ∨ (a = .tup l ∧ shL C l = true) ∨ (a = .ls l ∧ shL C l = true))) (hi : items a = some l) : ∃ k m, d = mkQ k m ∧ dens ν l = some (m.map .sh) ∧ (a = .tup l ∧ k = .tup ∨ a = .ls l ∧ k = .own ∨ a = .fl l ∧ k = .lst) := by
  obtain ⟨l', e⟩ := e
  rcases e with rfl | ⟨rfl, s⟩ | ⟨rfl, s⟩
  · cases hi
    obtain ⟨m, x, rfl⟩ := den_fl h
    exact ⟨.lst, m, rfl, x, .inr (.inr ⟨rfl, rfl⟩)⟩
  · cases hi
    obtain ⟨ds, x, rfl⟩ := den_tup h
    obtain ⟨m, rfl⟩ := shL_ok H x s
    exact ⟨.tup, m, mkTup_map m, x, .inl ⟨rfl, rfl⟩⟩
  · cases hi
    obtain ⟨ds, x, rfl⟩ := den_ls h
    obtain ⟨m, rfl⟩ := shL_ok H x s
    exact ⟨.own, m, rfl, x, .inr (.inl ⟨rfl, rfl⟩)⟩
theorem map_take {m : List PyData} {n : Nat} : (m.map D.sh).take n = (m.take n).map .sh := List.map_take.symm
theorem map_drop {m : List PyData} {n : Nat} : (m.map D.sh).drop n = (m.drop n).map .sh := List.map_drop.symm
theorem cutS_ok {l : List S} {m : List PyData} {x y : Option Int} (h : dens ν l = some (m.map .sh)) : dens ν (cutS l x y) = some ((cutL m x y).map .sh) := by
  have e := dens_len h
  rw [List.length_map] at e
  unfold cutS cutL
  rw [← map_take, ← map_drop, e]
  exact dens_take _ (dens_drop _ h)
theorem slX_ok {a s : S} {d : D} {x y : Option Int} (H : satC iv ν C) (h : den ν a = some d) (e : slX C a x y = some s) : ∃ z, oSl x y d = some z ∧ den ν s = some z := by
  unfold slX at e
  split at e
  · split at e
    · rename_i q
      cases e
      obtain ⟨k, m, rfl, g, (⟨_, rfl⟩ | ⟨z, _⟩ | ⟨z, _⟩)⟩ := seq_den H h ⟨_, .inr (.inl ⟨rfl, q⟩)⟩ rfl
      · exact ⟨_, sl_mkQ, tup_den (cutS_ok g)⟩
      · cases z
      · cases z
    · cases e
  · split at e
    · rename_i q
      cases e
      obtain ⟨k, m, rfl, g, (⟨z, _⟩ | ⟨_, rfl⟩ | ⟨z, _⟩)⟩ := seq_den H h ⟨_, .inr (.inr ⟨rfl, q⟩)⟩ rfl
      · cases z
      · exact ⟨_, sl_mkQ, ls_den (cutS_ok g)⟩
      · cases z
    · cases e
  · cases e
    obtain ⟨k, m, rfl, g, (⟨z, _⟩ | ⟨z, _⟩ | ⟨_, rfl⟩)⟩ := seq_den H h ⟨_, .inl rfl⟩ rfl
    · cases z
    · cases z
    · exact ⟨_, sl_mkQ, ls_den (cutS_ok g)⟩
  · cases e
theorem dens_atI {l : List S} {ds : List D} {i : Int} {s : S} (h : dens ν l = some ds) (e : atI l i = some s) : ∃ d, atI ds i = some d ∧ den ν s = some d := by
  unfold atI at e ⊢
  rw [dens_len h]
  cases q : ixN l.length i with
  | none => rw [q] at e; cases e
  | some j =>
    rw [q] at e
    exact dens_get h e
theorem ixX_ok {a s : S} {d : D} {i : Int} (H : satC iv ν C) (h : den ν a = some d) (e : ixX C a i = some s) : ∃ z, oIx d (.sh (.int i)) = some z ∧ den ν s = some z := by
  unfold ixX at e
  split at e
  · rename_i l hi
    split at e
    · rename_i s' hs
      split at e
      · rename_i t ht
        split at e
        · rename_i q
          cases e
          obtain ⟨x, y, z⟩ := tyS_ok H ht
          obtain ⟨p, rfl⟩ := has_sh z q
          unfold items at hi
          split at hi
          · cases hi
            obtain ⟨ds, g, rfl⟩ := den_tup h
            obtain ⟨d', g1, g2⟩ := dens_atI g hs
            rw [y] at g2; cases g2
            refine ⟨_, ?_, y⟩
            unfold mkTup
            cases u : unsh ds with
            | none => simp [oIx, g1, shOnly]
            | some m =>
              have := unsh_eq u
              subst this
              rw [atI_map] at g1
              obtain ⟨p', e1, e2⟩ := Option.map_eq_some_iff.mp g1
              cases e2
              simp [oIx, e1]
          · cases hi
            obtain ⟨ds, g, rfl⟩ := den_ls h
            obtain ⟨d', g1, g2⟩ := dens_atI g hs
            rw [y] at g2; cases g2
            exact ⟨_, by simp [oIx, g1, shOnly], y⟩
          · cases hi
            obtain ⟨m, g, rfl⟩ := den_fl h
            obtain ⟨d', g1, g2⟩ := dens_atI g hs
            rw [y] at g2; cases g2
            rw [atI_map] at g1
            obtain ⟨p', e1, e2⟩ := Option.map_eq_some_iff.mp g1
            cases e2
            exact ⟨_, by simp [oIx, e1], y⟩
          · cases hi
        · cases e
      · cases e
    · cases e
  · cases e
theorem sameX_ok {neg : Bool} {a b s : S} {d e : D} (H : satC iv ν C) (h : den ν a = some d) (g : den ν b = some e) (q : sameX C neg a b = some s) : ∃ z, oEq neg d e = some z ∧ den ν s = some z := by
  unfold sameX at q
  split at q
  · rename_i r
    have := sEq_eq r
    subst this
    rw [h] at g
    cases g
    split at q
    · rename_i t ht
      split at q
      · rename_i x y hm
        split at q
        · rename_i hx
          cases q
          obtain ⟨d', u, v⟩ := tyS_ok H ht
          rw [h] at u; cases u
          obtain ⟨p, hp, gp⟩ := has_dm v hm
          refine ⟨_, ?_, rfl⟩
          have s1 := gp.shaped (by omega)
          have s2 := PySem.SeqAt.eqv_refl p (gd_lay gp.ok)
          simp only [oEq, hp, s1, Bool.and_self, guardO_true, s2]
          cases neg <;> rfl
        · cases q
      · cases q
    · cases q
  · cases q
theorem addX_ok {a b s : S} {d e : D} (H : satC iv ν C) (h : den ν a = some d) (g : den ν b = some e) (q : addX C a b = some s) : ∃ z, oAdd d e = some z ∧ den ν s = some z := by
  unfold addX at q
  split at q
  · split at q
    · rename_i r
      cases q
      obtain ⟨k, m, rfl, x, (⟨_, rfl⟩ | ⟨z, _⟩ | ⟨z, _⟩)⟩ := seq_den H h ⟨_, .inr (.inl ⟨rfl, r.1⟩)⟩ rfl
      · obtain ⟨k, m', rfl, x', (⟨_, rfl⟩ | ⟨z, _⟩ | ⟨z, _⟩)⟩ := seq_den H g ⟨_, .inr (.inl ⟨rfl, r.2.1⟩)⟩ rfl
        · have l1 := dens_len x
          have l2 := dens_len x'
          simp at l1 l2
          refine ⟨_, oAdd_tups (by omega), tup_den ?_⟩
          rw [List.map_append]
          exact dens_append x x'
        · cases z
        · cases z
      · cases z
      · cases z
    · cases q
  · split at q
    · rename_i r
      cases q
      obtain ⟨k, m, rfl, x, (⟨z, _⟩ | ⟨_, rfl⟩ | ⟨z, _⟩)⟩ := seq_den H h ⟨_, .inr (.inr ⟨rfl, r.1⟩)⟩ rfl
      · cases z
      · obtain ⟨k, m', rfl, x', (⟨z, _⟩ | ⟨_, rfl⟩ | ⟨z, _⟩)⟩ := seq_den H g ⟨_, .inr (.inr ⟨rfl, r.2.1⟩)⟩ rfl
        · cases z
        · have l1 := dens_len x
          have l2 := dens_len x'
          simp at l1 l2
          refine ⟨_, oAdd_lss (by omega), ls_den ?_⟩
          rw [List.map_append]
          exact dens_append x x'
        · cases z
      · cases z
    · cases q
  · cases q
theorem dens_rep {l : List S} {ds : List D} (h : dens ν l = some ds) : ∀ n : Nat, dens ν (List.replicate n l).flatten = some (List.replicate n ds).flatten
  | 0 => rfl
  | n + 1 => by
    rw [List.replicate_succ, List.replicate_succ, List.flatten_cons, List.flatten_cons]
    exact dens_append h (dens_rep h n)
theorem map_rep {m : List PyData} {n : Nat} : (List.replicate n (m.map D.sh)).flatten = ((List.replicate n m).flatten).map .sh := by
  rw [List.map_flatten, List.map_replicate]
theorem mulX_ok {a s : S} {d : D} {i : Int} (H : satC iv ν C) (h : den ν a = some d) (q : mulX C a i = some s) : ∃ z, oMul d (.sh (.int i)) = some z ∧ den ν s = some z := by
  unfold mulX at q
  split at q
  · rename_i l
    split at q
    · rename_i r
      cases q
      obtain ⟨k, m, rfl, x, (⟨_, rfl⟩ | ⟨z, _⟩ | ⟨z, _⟩)⟩ := seq_den H h ⟨_, .inr (.inl ⟨rfl, r.1⟩)⟩ rfl
      · have y := dens_rep x i.toNat
        rw [map_rep] at y
        refine ⟨_, ?_, tup_den y⟩
        have l1 := dens_len x
        rw [List.length_map] at l1
        simp only [mkQ, oMul, decide_eq_true (by omega : -1000 ≤ i), decide_eq_true (by omega : i ≤ 1000), decide_eq_true (by omega : m.length ≤ 1000), Bool.and_self, guardO_true]
      · cases z
      · cases z
    · cases q
  · split at q
    · rename_i r
      cases q
      obtain ⟨k, m, rfl, x, (⟨z, _⟩ | ⟨_, rfl⟩ | ⟨z, _⟩)⟩ := seq_den H h ⟨_, .inr (.inr ⟨rfl, r.1⟩)⟩ rfl
      · cases z
      · have y := dens_rep x i.toNat
        rw [map_rep] at y
        refine ⟨_, ?_, ls_den y⟩
        have l1 := dens_len x
        rw [List.length_map] at l1
        have sz : sizeLine = 16777216 := by decide
        have le : m.length * i.toNat ≤ sizeLine := by rw [l1]; omega
        simp only [mkQ, oMul, unsh_map, decide_eq_true (by omega : i < 16777216), decide_eq_true (by omega : -16777216 < i), decide_eq_true le, Bool.and_self, guardO_true]
      · cases z
    · cases q
  · cases q
theorem list_mkQ {k : QK} {l : List PyData} : oList (mkQ k l) = some (mkQ .own l) := by simp only [oList, mkQ_seq]; rfl
theorem tuple_mkQ {k : QK} {l : List PyData} : oTuple (mkQ k l) = some (mkQ .tup l) := by simp only [oTuple, mkQ_seq]; rfl
theorem rev_mkQ {k : QK} {l : List PyData} : oRev (mkQ k l) = some (mkQ (slK k) l.reverse) := by cases k <;> (simp only [oRev, mkQ_seq]; rfl)
theorem listX_ok {a s : S} {d : D} (H : satC iv ν C) (h : den ν a = some d) (q : listX C a = some s) : ∃ z, oList d = some z ∧ den ν s = some z := by
  unfold listX at q
  split at q
  · split at q
    · rename_i r
      cases q
      obtain ⟨k, m, rfl, x, _⟩ := seq_den H h ⟨_, .inr (.inl ⟨rfl, r⟩)⟩ rfl
      exact ⟨_, list_mkQ, ls_den x⟩
    · cases q
  · split at q
    · rename_i r
      cases q
      obtain ⟨k, m, rfl, x, _⟩ := seq_den H h ⟨_, .inr (.inr ⟨rfl, r⟩)⟩ rfl
      exact ⟨_, list_mkQ, ls_den x⟩
    · cases q
  · cases q
    obtain ⟨k, m, rfl, x, _⟩ := seq_den H h ⟨_, .inl rfl⟩ rfl
    exact ⟨_, list_mkQ, ls_den x⟩
  · cases q
theorem tupleX_ok {a s : S} {d : D} (H : satC iv ν C) (h : den ν a = some d) (q : tupleX C a = some s) : ∃ z, oTuple d = some z ∧ den ν s = some z := by
  unfold tupleX at q
  split at q
  · split at q
    · rename_i r
      cases q
      obtain ⟨k, m, rfl, x, _⟩ := seq_den H h ⟨_, .inr (.inl ⟨rfl, r⟩)⟩ rfl
      exact ⟨_, tuple_mkQ, tup_den x⟩
    · cases q
  · split at q
    · rename_i r
      cases q
      obtain ⟨k, m, rfl, x, _⟩ := seq_den H h ⟨_, .inr (.inr ⟨rfl, r⟩)⟩ rfl
      exact ⟨_, tuple_mkQ, tup_den x⟩
    · cases q
  · cases q
    obtain ⟨k, m, rfl, x, _⟩ := seq_den H h ⟨_, .inl rfl⟩ rfl
    exact ⟨_, tuple_mkQ, tup_den x⟩
  · cases q
theorem dens_rev' {l : List S} {m : List PyData} (x : dens ν l = some (m.map .sh)) : dens ν l.reverse = some (m.reverse.map .sh) := by
  rw [List.map_reverse]
  exact dens_rev x
theorem revX_ok {a s : S} {d : D} (H : satC iv ν C) (h : den ν a = some d) (q : revX C a = some s) : ∃ z, oRev d = some z ∧ den ν s = some z := by
  unfold revX at q
  split at q
  · split at q
    · rename_i r
      cases q
      obtain ⟨k, m, rfl, x, (⟨_, rfl⟩ | ⟨z, _⟩ | ⟨z, _⟩)⟩ := seq_den H h ⟨_, .inr (.inl ⟨rfl, r⟩)⟩ rfl
      · exact ⟨_, rev_mkQ, tup_den (dens_rev' x)⟩
      · cases z
      · cases z
    · cases q
  · split at q
    · rename_i r
      cases q
      obtain ⟨k, m, rfl, x, (⟨z, _⟩ | ⟨_, rfl⟩ | ⟨z, _⟩)⟩ := seq_den H h ⟨_, .inr (.inr ⟨rfl, r⟩)⟩ rfl
      · cases z
      · exact ⟨_, rev_mkQ, ls_den (dens_rev' x)⟩
      · cases z
    · cases q
  · cases q
    obtain ⟨k, m, rfl, x, (⟨z, _⟩ | ⟨z, _⟩ | ⟨_, rfl⟩)⟩ := seq_den H h ⟨_, .inl rfl⟩ rfl
    · cases z
    · cases z
    · exact ⟨_, rev_mkQ, ls_den (dens_rev' x)⟩
  · cases q
theorem d1 {a : S} {ds : List D} (h : dens ν [a] = some ds) : ∃ d, ds = [d] ∧ den ν a = some d := by
  obtain ⟨d, l, rfl, x, y⟩ := dens_cons h
  cases y
  exact ⟨d, rfl, x⟩
theorem d2 {a b : S} {ds : List D} (h : dens ν [a, b] = some ds) : ∃ d e, ds = [d, e] ∧ den ν a = some d ∧ den ν b = some e := by
  obtain ⟨d, l, rfl, x, y⟩ := dens_cons h
  obtain ⟨e, rfl, z⟩ := d1 y
  exact ⟨d, e, rfl, x, z⟩
theorem opX_ok {o : Op} {ss : List S} {s : S} {ds : List D} (H : satC iv ν C) (h : dens ν ss = some ds) (q : opX C o ss = some s) : ∃ z, opD o ds = some z ∧ den ν s = some z := by
  unfold opX at q
  split at q
  · obtain ⟨d, e, rfl, x, y⟩ := d2 h; cases y; exact ixX_ok H x q
  · obtain ⟨d, rfl, x⟩ := d1 h
    split at q
    · rename_i a l hi
      cases q
      unfold items at hi
      split at hi
      · cases hi
        obtain ⟨ds, g, rfl⟩ := den_tup x
        exact ⟨_, mkTup_len ds, by rw [dens_len g]; rfl⟩
      · cases hi
        obtain ⟨ds, g, rfl⟩ := den_ls x
        exact ⟨_, rfl, by rw [dens_len g]; rfl⟩
      · cases hi
        obtain ⟨m, g, rfl⟩ := den_fl x
        have := dens_len g
        rw [List.length_map] at this
        exact ⟨_, rfl, by rw [this]; rfl⟩
      · cases hi
    · cases q
  · obtain ⟨d, e, rfl, x, y⟩ := d2 h; exact addX_ok H x y q
  · obtain ⟨d, e, rfl, x, y⟩ := d2 h; cases y; exact mulX_ok H x q
  · obtain ⟨d, rfl, x⟩ := d1 h; exact listX_ok H x q
  · obtain ⟨d, rfl, x⟩ := d1 h; exact tupleX_ok H x q
  · obtain ⟨d, rfl, x⟩ := d1 h; exact revX_ok H x q
  · obtain ⟨d, rfl, x⟩ := d1 h; exact slX_ok H x q
  · obtain ⟨d, e, rfl, x, y⟩ := d2 h; cases y; exact slX_ok H x q
  · obtain ⟨d, e, rfl, x, y⟩ := d2 h; cases y; exact slX_ok H x q
  · obtain ⟨d, l, rfl, x, y⟩ := dens_cons h
    obtain ⟨e, f, rfl, z, w⟩ := d2 y
    cases z; cases w
    exact slX_ok H x q
  · obtain ⟨d, e, rfl, x, y⟩ := d2 h; exact sameX_ok H x y q
  · obtain ⟨d, e, rfl, x, y⟩ := d2 h; exact sameX_ok H x y q
  · cases q
theorem pushF_ok {t : T} {f : Fn} {ss : List S} {ds : List D} {d : D} (H : satC iv ν C) (h : dens ν ss = some ds) (e : fnD iv f ds = some d) (g : has iv.Ω t d) : ∃ μ, satC iv (ν ++ μ) (pushF C t f ss).2 ∧ den (ν ++ μ) (pushF C t f ss).1 = some d := by
  unfold pushF
  split
  · rename_i p
    have g : d = .sh p := by simpa only [has] using g
    subst g
    exact ⟨[], by simpa using H, nrm_ok⟩
  · split
    · rename_i n q
      obtain ⟨c, a, b, _⟩ := findO_ok q
      obtain ⟨d', x, _, y⟩ := H.get n c (by simpa using a)
      obtain ⟨ds', u, v⟩ := y f ss b
      rw [h] at u; cases u
      rw [e] at v; cases v
      exact ⟨[], by simpa using H, by simpa [den] using x⟩
    · exact ⟨[d], H.one g h e, by rw [← H.len]; simp [den]⟩
theorem sortC_ok {Ω : Pi} {ss : List S} {ds : List D} {t : T} (h : dens ν ss = some ds) (e : sortC ss = some t) : ∃ z, opD .sorted ds = some z ∧ has Ω t z := by
  unfold sortC at e
  split at e
  · rename_i d ed
    have := dens_nil (ν := ν) ed
    rw [h] at this
    cases this
    split at e
    · rename_i l el
      split at e
      · rename_i q
        split at e
        · rename_i e1
          cases e
          have g : has Ω (.fl (l.map .lit)) (.sh (.list l)) := by
            unfold has
            exact ⟨l, rfl, hasL_lit l⟩
          obtain ⟨l', e2, l1, l2, l3⟩ := seqT_ok e1 g
          cases e2
          refine ⟨mkQ .own (l.mergeSort (PySem.W.dataLe false id)), ?_, has_vec (by simp) (by simp) fun p hp => l3 p ?_⟩
          · show oSorted d = _
            simp only [oSorted, el, q, guardO_true, mkQ]
          · exact (List.mergeSort_perm l _).mem_iff.mp hp
        · cases e
      · cases e
    · cases e
  · cases e
theorem opS1_ok {o : Op} {ss : List S} {s : S} {ds : List D} {C' : List CE} (H : satC iv ν C) (h : dens ν ss = some ds) (q : opS1 C o ss = some (s, C')) : ∃ μ z, opD o ds = some z ∧ satC iv (ν ++ μ) C' ∧ den (ν ++ μ) s = some z := by
  unfold opS1 at q
  split at q
  · rename_i e
    cases q
    obtain ⟨z, a, b⟩ := opX_ok H h e
    exact ⟨[], z, a, by simpa using H, by simpa using b⟩
  · split at q
    · rename_i t et
      split at et
      · rename_i eo
        subst eo
        cases q
        obtain ⟨z, u, v⟩ := sortC_ok (Ω := iv.Ω) h et
        obtain ⟨μ, x, y⟩ := push_ok H v
        exact ⟨μ, z, u, x, y⟩
      · cases et
    split at q
    · rename_i ds' e
      split at e
      · cases e
      · have := dens_nil (ν := ν) e
        rw [h] at this
        cases this
        split at q
        · rename_i d ed
          split at q
          · rename_i eo
            cases q
            exact ⟨[], d, ed, by simpa using H, by simpa using ofD_ok (ν := ν) eo⟩
          · cases q
        · cases q
    · split at q
      · rename_i ts et
        obtain ⟨ds', a, b⟩ := tySs_ok H et
        rw [h] at a; cases a
        split at q
        · rename_i t eo
          obtain ⟨z, u, v⟩ := opT_ok eo b
          split at q
          · cases q
            obtain ⟨μ, x, y⟩ := push_ok H v
            exact ⟨μ, z, u, x, y⟩
          · have q := Option.some.inj q
            obtain ⟨μ, x, y⟩ := pushF_ok H h (f := .op o) u v
            rw [q] at x y
            exact ⟨μ, z, u, x, y⟩
        · cases q
      · cases q
theorem opS_ok {o : Op} {ss : List S} {s : S} {ds : List D} {C' : List CE} (H : satC iv ν C) (h : dens ν ss = some ds) (q : opS C o ss = some (s, C')) : ∃ μ z, opD o ds = some z ∧ satC iv (ν ++ μ) C' ∧ den (ν ++ μ) s = some z := by
  unfold opS at q
  split at q
  · exact opS1_ok H h q
  · obtain ⟨μ, a, b⟩ := expL_ok H h
    obtain ⟨μ', z, x, y, w⟩ := opS1_ok a b q
    rw [List.append_assoc] at y w
    exact ⟨μ ++ μ', z, x, y, w⟩
end Ab
/-! X6: states that lie within others; states put together. -/
namespace Ab
open PySem PySem.Spec L2
open Vs hiding Env
open PyProof.Rows hiding St
mutual
def inst (p : Nat) (σ : List S) : S → Option S
  | .v n => if n < p then some (.v n) else σ[n - p]?
  | .lit q => some (.lit q)
  | .tup l => match insts p σ l with
    | some l => some (.tup l)
    | none => none
  | .ls l => match insts p σ l with
    | some l => some (.ls l)
    | none => none
  | .fl l => match insts p σ l with
    | some l => some (.fl l)
    | none => none
def insts (p : Nat) (σ : List S) : List S → Option (List S)
  | [] => some []
  | s :: l => match inst p σ s, insts p σ l with
    | some s, some l => some (s :: l)
    | _, _ => none
end
mutual
def bel (p : Nat) : S → Bool
  | .v n => decide (n < p)
  | .lit _ => true
  | .tup l => bels p l
  | .ls l => bels p l
  | .fl l => bels p l
def bels (p : Nat) : List S → Bool
  | [] => true
  | s :: l => bel p s && bels p l
end
section
variable {p : Nat} {ν ds : List D} {σ : List S}
theorem take_get {n : Nat} (h : n < p) (hp : p ≤ ν.length) : (ν.take p ++ ds)[n]? = ν[n]? := by
  rw [List.getElem?_append_left (by simp; omega), List.getElem?_take, if_pos h]
mutual
theorem inst_ok (hp : p ≤ ν.length) (hs : dens ν σ = some ds) : ∀ {s s' : S} {d : D}, inst p σ s = some s' → den ν s' = some d → den (ν.take p ++ ds) s = some d
  | .v n, s', d, h, g => by
    unfold inst at h
    split at h
    · rename_i q
      cases h
      simp only [den] at g ⊢
      rw [take_get q hp]
      exact g
    · rename_i q
      obtain ⟨d', a, b⟩ := dens_get hs h
      rw [g] at b; cases b
      simp only [den]
      rw [List.getElem?_append_right (by simp; omega), List.length_take, Nat.min_eq_left hp]
      exact a
  | .lit q, s', d, h, g => by
    simp only [inst, Option.some.injEq] at h
    subst h
    exact g
  | .tup l, s', d, h, g => by
    unfold inst at h
    split at h
    · rename_i l' e
      cases h
      obtain ⟨es, a, rfl⟩ := den_tup g
      simp only [den, insts_ok hp hs e a]
    · cases h
  | .ls l, s', d, h, g => by
    unfold inst at h
    split at h
    · rename_i l' e
      cases h
      obtain ⟨es, a, rfl⟩ := den_ls g
      simp only [den, insts_ok hp hs e a]
    · cases h
  | .fl l, s', d, h, g => by
    unfold inst at h
    split at h
    · rename_i l' e
      cases h
      obtain ⟨es, a, rfl⟩ := den_fl g
      simp only [den, insts_ok hp hs e a, unsh_map]
    · cases h
theorem insts_ok (hp : p ≤ ν.length) (hs : dens ν σ = some ds) : ∀ {l l' : List S} {es : List D}, insts p σ l = some l' → dens ν l' = some es → dens (ν.take p ++ ds) l = some es
  | [], l', es, h, g => by
    simp only [insts, Option.some.injEq] at h
    subst h
    exact g
  | s :: l, l', es, h, g => by
    unfold insts at h
    split at h
    · rename_i e1 e2
      cases h
      obtain ⟨d, es', rfl, a, b⟩ := dens_cons g
      exact dens_mk (inst_ok hp hs e1 a) (insts_ok hp hs e2 b)
    · cases h
end
end
section
variable {p : Nat} {ν ν' : List D} (hp : p ≤ ν.length) (e : ν'.take p = ν.take p)
include hp e
mutual
theorem den_bel : ∀ {s : S} {d : D}, bel p s = true → den ν s = some d → den ν' s = some d
  | .v n, d, h, g => by
    have h : n < p := by simpa [bel] using h
    simp only [den] at g ⊢
    have a : (ν'.take p)[n]? = (ν.take p)[n]? := by rw [e]
    rw [List.getElem?_take, List.getElem?_take, if_pos h, if_pos h] at a
    rw [a]; exact g
  | .lit _, d, h, g => g
  | .tup l, d, h, g => by
    obtain ⟨es, a, rfl⟩ := den_tup g
    simp only [den, dens_bel (l := l) (by simpa [bel] using h) a]
  | .ls l, d, h, g => by
    obtain ⟨es, a, rfl⟩ := den_ls g
    simp only [den, dens_bel (l := l) (by simpa [bel] using h) a]
  | .fl l, d, h, g => by
    obtain ⟨es, a, rfl⟩ := den_fl g
    simp only [den, dens_bel (l := l) (by simpa [bel] using h) a, unsh_map]
theorem dens_bel : ∀ {l : List S} {ds : List D}, bels p l = true → dens ν l = some ds → dens ν' l = some ds
  | [], ds, h, g => g
  | s :: l, ds, h, g => by
    have h : bel p s = true ∧ bels p l = true := by simpa [bels] using h
    obtain ⟨d, es', rfl, a, b⟩ := dens_cons g
    exact dens_mk (den_bel h.1 a) (dens_bel h.2 b)
end
end
/-! ### within -/
def subC0 (p : Nat) : List CE → List CE → Nat → Bool
  | _, _, 0 => true
  | c1 :: C1, c2 :: C2, k + 1 => leT c2.t c1.t && (match c2.o with
    | none => true
    | some (f, ss) => match c1.o with
      | some (g, ts) => decide (f = g) && sEqs ss ts && bels p ss
      | none => false) && subC0 p C1 C2 k
  | _, _, _ => false
def subC1 (C1 : List CE) : List S → List CE → Bool
  | [], [] => true
  | s :: σ, c :: C2 => (match tyS C1 s with
    | some t => leT c.t t
    | none => false) && (match c.o with
    | none => true
    | some _ => false) && subC1 C1 σ C2
  | _, _ => false
def subA (p : Nat) (σ : List S) : List Sl → List Sl → Bool
  | [], [] => true
  | a1 :: A1, a2 :: A2 => (match a2 with
    | .top => true
    | .un => match a1 with
      | .un => true
      | _ => false
    | .val s2 => match a1 with
      | .val s1 => match inst p σ s2 with
        | some s => sEq s s1
        | none => false
      | _ => false) && subA p σ A1 A2
  | _, _ => false
def sub (p : Nat) (st1 st2 : Stt) (σ : List S) : Bool := decide (p ≤ st1.C.length) && decide (p ≤ st2.C.length) && subC0 p st1.C st2.C p && subC1 st1.C σ (st2.C.drop p) && subA p σ st1.A st2.A
section
variable {iv : Iv}
theorem subC0_ok {p : Nat} : ∀ {C1 C2 : List CE} {k i : Nat} {c2 : CE}, subC0 p C1 C2 k = true → i < k → C2[i]? = some c2 → ∃ c1, C1[i]? = some c1 ∧ leT c2.t c1.t = true ∧ ∀ f ss, c2.o = some (f, ss) → c1.o = some (f, ss) ∧ bels p ss = true
  | c1 :: C1, c :: C2, k + 1, i, c2, h, hi, e => by
    unfold subC0 at h
    simp only [Bool.and_eq_true] at h
    obtain ⟨⟨h1, h2⟩, h3⟩ := h
    cases i with
    | zero =>
      simp at e
      subst e
      refine ⟨c1, rfl, h1, fun f ss q => ?_⟩
      rw [q] at h2
      split at h2
      · rename_i z; cases z
      · rename_i z
        cases z
        split at h2
        · rename_i g
          simp only [Bool.and_eq_true, decide_eq_true_eq] at h2
          obtain ⟨⟨rfl, a⟩, b⟩ := h2
          rw [sEqs_eq a] at b ⊢
          exact ⟨g, b⟩
        · cases h2
    | succ i => exact subC0_ok (i := i) h3 (by omega) (by simpa using e)
  | [], [], _ + 1, _, _, h, _, _ => by simp [subC0] at h
  | [], _ :: _, _ + 1, _, _, h, _, _ => by simp [subC0] at h
  | _ :: _, [], _ + 1, _, _, h, _, _ => by simp [subC0] at h
  | _, _, 0, _, _, _, hi, _ => absurd hi (Nat.not_lt_zero _)
theorem subC1_ok {C1 : List CE} {ν : List D} (H : satC iv ν C1) : ∀ {σ : List S} {C2 : List CE}, subC1 C1 σ C2 = true → ∃ ds, dens ν σ = some ds ∧ ds.length = C2.length ∧ ∀ (i : Nat) (c : CE), C2[i]? = some c → c.o = none ∧ ∃ d, ds[i]? = some d ∧ has iv.Ω c.t d
  | [], [], _ => ⟨[], rfl, rfl, fun _ _ e => by simp at e⟩
  | s :: σ, c :: C2, h => by
    unfold subC1 at h
    simp only [Bool.and_eq_true] at h
    obtain ⟨⟨h1, h2⟩, h3⟩ := h
    obtain ⟨ds, a, l, b⟩ := subC1_ok H h3
    split at h1
    · rename_i t et
      obtain ⟨d, x, y⟩ := tyS_ok H et
      refine ⟨d :: ds, dens_mk x a, by simp [l], fun i c' e => ?_⟩
      cases i with
      | zero =>
        simp at e
        subst e
        refine ⟨?_, d, rfl, leT_ok h1 y⟩
        split at h2
        · assumption
        · cases h2
      | succ i => simpa using b i c' (by simpa using e)
    · cases h1
  | [], _ :: _, h => by simp [subC1] at h
  | _ :: _, [], h => by simp [subC1] at h
theorem subA_ok {p : Nat} {σ : List S} {ν ds : List D} (hp : p ≤ ν.length) (hs : dens ν σ = some ds) : ∀ {A1 A2 : List Sl} {ρ : Vs.Env}, subA p σ A1 A2 = true → satA ν A1 ρ → satA (ν.take p ++ ds) A2 ρ
  | [], [], [], _, _ => trivial
  | a1 :: A1, a2 :: A2, x :: ρ, h, g => by
    unfold subA at h
    rw [Bool.and_eq_true] at h
    refine ⟨?_, subA_ok hp hs h.2 g.2⟩
    have h1 := h.1
    have g1 := g.1
    cases a2 with
    | top => trivial
    | un =>
      cases a1 with
      | un => exact g1
      | top => cases h1
      | val _ => cases h1
    | val s2 =>
      cases a1 with
      | un => cases h1
      | top => cases h1
      | val s1 =>
        obtain ⟨d, rfl, q⟩ := g1
        dsimp only at h1
        split at h1
        · rename_i s e
          have := sEq_eq h1
          subst this
          exact ⟨d, rfl, inst_ok hp hs e q⟩
        · cases h1
  | [], _ :: _, _, h, _ => by simp [subA] at h
  | _ :: _, [], _, h, _ => by simp [subA] at h
  | [], [], _ :: _, _, g => g.elim
  | _ :: _, _ :: _, [], _, g => g.elim
/-- what stands in st stands in g, too, the first p the same -/
def RepP (iv : Iv) (p : Nat) (st g : Stt) : Prop := ∀ ν ρ, Sat iv ν ρ st → p ≤ ν.length → ∃ ν', ν'.take p = ν.take p ∧ p ≤ ν'.length ∧ Sat iv ν' ρ g
theorem RepP.refl {p : Nat} {st : Stt} : RepP iv p st st := fun ν ρ h hp => ⟨ν, rfl, hp, h⟩
theorem RepP.trans {p : Nat} {a b c : Stt} (h : RepP iv p a b) (g : RepP iv p b c) : RepP iv p a c := fun ν ρ s hp => by
  obtain ⟨ν', e, l, s'⟩ := h ν ρ s hp
  obtain ⟨ν2, e2, l2, s2⟩ := g ν' ρ s' l
  exact ⟨ν2, e2.trans e, l2, s2⟩
theorem sub_ok {p : Nat} {st1 st2 : Stt} {σ : List S} (h : sub p st1 st2 σ = true) : RepP iv p st1 st2 := fun ν ρ s hp => by
  unfold sub at h
  simp only [Bool.and_eq_true, decide_eq_true_eq] at h
  obtain ⟨⟨⟨⟨h1, h2⟩, h3⟩, h4⟩, h5⟩ := h
  obtain ⟨ds, a, l, b⟩ := subC1_ok s.C h4
  have hl : (ν.take p ++ ds).length = p + ds.length := by simp; omega
  have e : (ν.take p ++ ds).take p = ν.take p := by
    rw [List.take_append_of_le_length (by simp; omega), List.take_take, Nat.min_self]
  refine ⟨ν.take p ++ ds, e, by omega, ⟨⟨by rw [hl, l, List.length_drop]; omega, fun n c q => ?_⟩, subA_ok hp a h5 s.A⟩⟩
  by_cases hn : n < p
  · obtain ⟨c1, x, y, z⟩ := subC0_ok h3 hn q
    obtain ⟨d, u, v, w⟩ := s.C.get n c1 x
    refine ⟨d, by rw [take_get hn hp]; exact u, leT_ok y v, fun f ss o => ?_⟩
    obtain ⟨o1, o2⟩ := z f ss o
    obtain ⟨es, m1, m2⟩ := w f ss o1
    exact ⟨es, dens_bel hp e o2 m1, m2⟩
  · have q' : (st2.C.drop p)[n - p]? = some c := by
      rw [List.getElem?_drop, show p + (n - p) = n by omega]
      exact q
    obtain ⟨o, d, x, y⟩ := b (n - p) c q'
    refine ⟨d, ?_, y, fun f ss z => by rw [o] at z; cases z⟩
    rw [List.getElem?_append_right (by simp; omega), List.length_take, Nat.min_eq_left hp]
    exact x
end
/-! ### put together: a guess, looked at -/
structure Acc where
  ts : List T
  s1 : List S
  s2 : List S
def Acc.new (p : Nat) (C1 C2 : List CE) (a b : S) (z : Acc) : Option (S × Acc) := match tyS C1 a, tyS C2 b with
  | some t, some u => some (.v (p + z.ts.length), ⟨z.ts ++ [lub t u], z.s1 ++ [a], z.s2 ++ [b]⟩)
  | _, _ => none
mutual
def au (p : Nat) (C1 C2 : List CE) (a b : S) (z : Acc) : Option (S × Acc) := match a with
  | .tup xs => match b with
    | .tup ys => if xs.length = ys.length then match aus p C1 C2 xs ys z with
      | some (l, z) => some (.tup l, z)
      | none => none
      else Acc.new p C1 C2 a b z
    | _ => Acc.new p C1 C2 a b z
  | .ls xs => match b with
    | .ls ys => if xs.length = ys.length then match aus p C1 C2 xs ys z with
      | some (l, z) => some (.ls l, z)
      | none => none
      else Acc.new p C1 C2 a b z
    | _ => Acc.new p C1 C2 a b z
  | .fl xs => match b with
    | .fl ys => if xs.length = ys.length then match aus p C1 C2 xs ys z with
      | some (l, z) => some (.fl l, z)
      | none => none
      else Acc.new p C1 C2 a b z
    | _ => Acc.new p C1 C2 a b z
  | .lit q => if sEq a b = true then some (a, z) else Acc.new p C1 C2 a b z
  | .v n => if (sEq a b && decide (n < p)) = true then some (a, z) else Acc.new p C1 C2 a b z
def aus (p : Nat) (C1 C2 : List CE) (as bs : List S) (z : Acc) : Option (List S × Acc) := match as with
  | [] => some ([], z)
  | a :: as => match bs with
    | [] => none
    | b :: bs => match au p C1 C2 a b z with
      | some (s, z) => match aus p C1 C2 as bs z with
        | some (l, z) => some (s :: l, z)
        | none => none
      | none => none
end
def auA (p : Nat) (C1 C2 : List CE) : List Sl → List Sl → Acc → Option (List Sl × Acc)
  | [], [], z => some ([], z)
  | .un :: as, .un :: bs, z => match auA p C1 C2 as bs z with
    | some (l, z) => some (.un :: l, z)
    | none => none
  | .val a :: as, .val b :: bs, z => match au p C1 C2 a b z with
    | some (s, z) => match auA p C1 C2 as bs z with
      | some (l, z) => some (.val s :: l, z)
      | none => none
    | none => none
  | _ :: as, _ :: bs, z => match auA p C1 C2 as bs z with
    | some (l, z) => some (.top :: l, z)
    | none => none
  | _, _, _ => none
def baseC : Nat → List CE → List CE → List CE
  | 0, _, _ => []
  | k + 1, c1 :: C1, c2 :: C2 => ⟨if leT c1.t c2.t = true then c1.t else lub c1.t c2.t, match c1.o, c2.o with
    | some (f, ss), some (g, ts) => if (decide (f = g) && sEqs ss ts) = true then some (f, ss) else none
    | _, _ => none⟩ :: baseC k C1 C2
  | _, _, _ => []
def auSt (p : Nat) (g st : Stt) : Option (Stt × List S × List S) := match auA p g.C st.C g.A st.A ⟨[], [], []⟩ with
  | some (A, z) => some (⟨baseC p g.C st.C ++ plainC z.ts, A⟩, z.s1, z.s2)
  | none => none
def mrg (p : Nat) (g st : Stt) : Option Stt := match auSt p g st with
  | some (m, s1, s2) => if (sub p g m s1 && sub p st m s2) = true then some m else none
  | none => none
/-- st lies within g -/
def within (p : Nat) (st g : Stt) : Bool := match auSt p g st with
  | some (_, _, s2) => sub p st g s2
  | none => false
mutual
/-- of one shape -/
def like : S → S → Bool
  | .lit p, .lit q => pEq p q
  | .v _, .v _ => true
  | .tup a, .tup b => likes a b
  | .ls a, .ls b => likes a b
  | .fl a, .fl b => likes a b
  | _, _ => false
def likes : List S → List S → Bool
  | [], [] => true
  | a :: as, b :: bs => like a b && likes as bs
  | _, _ => false
end
def compat (keep : List Nat) (g st : Stt) : Bool := keep.all fun i => match g.A[i]?, st.A[i]? with
  | some (.val a), some (.val b) => like a b
  | some .un, some .un => true
  | some .top, some .top => true
  | none, none => true
  | _, _ => false
def ins (p : Nat) (keep : List Nat) (st : Stt) : List Stt → List Stt
  | [] => [st]
  | g :: gs => match if compat keep g st = true then mrg p g st else none with
    | some m => m :: gs
    | none => g :: ins p keep st gs
def mergeAll (p : Nat) (keep : List Nat) : List Stt → List Stt → List Stt
  | acc, [] => acc
  | acc, st :: r => mergeAll p keep (ins p keep st acc) r
/-- names that are no longer looked at -/
def fgtA (live : List Nat) : List Sl → Nat → List Sl
  | [], _ => []
  | a :: A, k => (if live.contains k = true then a else .top) :: fgtA live A (k + 1)
def fgt (live : List Nat) (st : Stt) : Stt := ⟨st.C, fgtA live st.A 0⟩
section
variable {iv : Iv} {p : Nat}
theorem mrg_ok {g st m : Stt} (h : mrg p g st = some m) : RepP iv p g m ∧ RepP iv p st m := by
  unfold mrg at h
  split at h
  · split at h
    · rename_i q
      cases h
      rw [Bool.and_eq_true] at q
      exact ⟨sub_ok q.1, sub_ok q.2⟩
    · cases h
  · cases h
theorem within_ok {g st : Stt} (h : within p st g = true) : RepP iv p st g := by
  unfold within at h
  split at h
  · exact sub_ok h
  · cases h
theorem ins_ok {keep : List Nat} {st : Stt} : ∀ {gs : List Stt}, (∃ g ∈ ins p keep st gs, RepP iv p st g) ∧ ∀ g ∈ gs, ∃ g' ∈ ins p keep st gs, RepP iv p g g'
  | [] => ⟨⟨st, List.mem_singleton.mpr rfl, .refl⟩, fun g h => by cases h⟩
  | g :: gs => by
    unfold ins
    split
    · rename_i m e
      split at e
      · obtain ⟨a, b⟩ := mrg_ok (iv := iv) e
        refine ⟨⟨m, List.mem_cons_self, b⟩, fun g' h => ?_⟩
        rcases List.mem_cons.mp h with rfl | h
        · exact ⟨m, List.mem_cons_self, a⟩
        · exact ⟨g', List.mem_cons_of_mem _ h, .refl⟩
      · cases e
    · obtain ⟨⟨x, hx, rx⟩, r⟩ := ins_ok (keep := keep) (st := st) (gs := gs)
      refine ⟨⟨x, List.mem_cons_of_mem _ hx, rx⟩, fun g' h => ?_⟩
      rcases List.mem_cons.mp h with rfl | h
      · exact ⟨g', List.mem_cons_self, .refl⟩
      · obtain ⟨y, hy, ry⟩ := r g' h
        exact ⟨y, List.mem_cons_of_mem _ hy, ry⟩
theorem mergeAll_ok {keep : List Nat} : ∀ {sts acc : List Stt} {st : Stt}, (st ∈ sts ∨ st ∈ acc) → ∃ g ∈ mergeAll p keep acc sts, RepP iv p st g
  | [], acc, st, h => by
    rcases h with h | h
    · cases h
    · exact ⟨st, h, .refl⟩
  | s :: sts, acc, st, h => by
    unfold mergeAll
    have lift : ∀ x, x ∈ ins p keep s acc → RepP iv p st x → ∃ g ∈ mergeAll p keep (ins p keep s acc) sts, RepP iv p st g := fun x hx r => by
      obtain ⟨g, hg, r'⟩ := mergeAll_ok (keep := keep) (sts := sts) (acc := ins p keep s acc) (.inr hx)
      exact ⟨g, hg, r.trans r'⟩
    rcases h with h | h
    · rcases List.mem_cons.mp h with rfl | h
      · obtain ⟨x, hx, r⟩ := (ins_ok (iv := iv) (p := p) (keep := keep) (st := st) (gs := acc)).1
        exact lift x hx r
      · exact mergeAll_ok (.inl h)
    · obtain ⟨x, hx, r⟩ := (ins_ok (iv := iv) (p := p) (keep := keep) (st := s) (gs := acc)).2 st h
      exact lift x hx r
theorem fgtA_ok {live : List Nat} {ν : List D} : ∀ {A : List Sl} {ρ : Vs.Env} {k : Nat}, satA ν A ρ → satA ν (fgtA live A k) ρ
  | [], [], _, _ => trivial
  | a :: A, x :: ρ, k, h => by
    refine ⟨?_, fgtA_ok h.2⟩
    split
    · exact h.1
    · trivial
  | [], _ :: _, _, h => h.elim
  | _ :: _, [], _, h => h.elim
theorem fgt_ok {live : List Nat} {st : Stt} : RepP iv p st (fgt live st) := fun ν ρ h hp => ⟨ν, rfl, hp, ⟨h.C, fgtA_ok h.A⟩⟩
end
end Ab
/-! X7: ends, loops. -/
namespace Ab
open PySem PySem.Spec L2
open Vs hiding Env
open PyProof.Rows hiding St
def bnd {α β : Type} : List α → (α → Option (List β)) → Option (List β)
  | [], _ => some []
  | a :: l, f => match f a with
    | none => none
    | some x => match bnd l f with
      | none => none
      | some y => some (x ++ y)
theorem bnd_ok {α β : Type} {f : α → Option (List β)} : ∀ {l : List α} {r : List β} {a : α}, bnd l f = some r → a ∈ l → ∃ x, f a = some x ∧ ∀ y ∈ x, y ∈ r
  | b :: l, r, a, h, m => by
    unfold bnd at h
    split at h
    · cases h
    · rename_i x e
      split at h
      · cases h
      · rename_i y e2
        cases h
        rcases List.mem_cons.mp m with rfl | m
        · exact ⟨x, e, fun z hz => List.mem_append_left _ hz⟩
        · obtain ⟨x', a', b'⟩ := bnd_ok e2 m
          exact ⟨x', a', fun z hz => List.mem_append_right _ (b' z hz)⟩
  | [], _, _, _, m => by cases m
inductive O where
  | nx (st : Stt)
  | br (st : Stt)
  | ct (st : Stt)
  | rt (s : S) (st : Stt)
def holds (iv : Iv) (ν : List D) : O → Out → Prop
  | .nx st, .nx ρ => Sat iv ν ρ st
  | .br st, .br ρ => Sat iv ν ρ st
  | .ct st, .ct ρ => Sat iv ν ρ st
  | .rt s st, .rt d ρ => Sat iv ν ρ st ∧ den ν s = some d
  | _, _ => False
def PostO (iv : Iv) (p : Nat) (ν : List D) (outs : List O) (out : Out) : Prop := ∃ o ∈ outs, ∃ ν', ν'.take p = ν.take p ∧ p ≤ ν'.length ∧ holds iv ν' o out
section
variable {iv : Iv} {p : Nat} {ν : List D}
theorem PostO.mono {a b : List O} {out : Out} (h : PostO iv p ν a out) (m : ∀ o ∈ a, o ∈ b) : PostO iv p ν b out := by
  obtain ⟨o, x, r⟩ := h
  exact ⟨o, m o x, r⟩
theorem PostO.chain {ν' : List D} {a : List O} {out : Out} (h : PostO iv p ν' a out) (e : ν'.take p = ν.take p) : PostO iv p ν a out := by
  obtain ⟨o, x, ν2, e2, l, r⟩ := h
  exact ⟨o, x, ν2, e2.trans e, l, r⟩
theorem take_le {q : Nat} {ν' : List D} (h : p ≤ q) (e : ν'.take q = ν.take q) : ν'.take p = ν.take p := by
  have := congrArg (List.take p) e
  rwa [List.take_take, List.take_take, Nat.min_eq_left h] at this
theorem PostO.down {q : Nat} {a : List O} {out : Out} (h : PostO iv q ν a out) (l : p ≤ q) : PostO iv p ν a out := by
  obtain ⟨o, x, ν2, e2, l2, r⟩ := h
  exact ⟨o, x, ν2, take_le l e2, Nat.le_trans l l2, r⟩
end
/-- a walk along some items -/
def cl (cs : PyData → SF) : List PyData → SF
  | [], ρ => .nx ρ
  | q :: qs, ρ => match cs q ρ with
    | .nx ρ' => cl cs qs ρ'
    | .ct ρ' => cl cs qs ρ'
    | .br ρ' => .nx ρ'
    | o => o
def conts : List O → List Stt
  | [] => []
  | .nx st :: r => st :: conts r
  | .ct st :: r => st :: conts r
  | _ :: r => conts r
def stops : List O → List O
  | [] => []
  | .br st :: r => .nx st :: stops r
  | .rt s st :: r => .rt s st :: stops r
  | _ :: r => stops r
theorem conts_nx : ∀ {l : List O} {st : Stt}, .nx st ∈ l → st ∈ conts l
  | o :: l, st, h => by
    rcases List.mem_cons.mp h with rfl | h
    · exact List.mem_cons_self
    · have := conts_nx h
      cases o <;> simp [conts, this]
  | [], _, h => by cases h
theorem conts_ct : ∀ {l : List O} {st : Stt}, .ct st ∈ l → st ∈ conts l
  | o :: l, st, h => by
    rcases List.mem_cons.mp h with rfl | h
    · exact List.mem_cons_self
    · have := conts_ct h
      cases o <;> simp [conts, this]
  | [], _, h => by cases h
theorem stops_br : ∀ {l : List O} {st : Stt}, .br st ∈ l → .nx st ∈ stops l
  | o :: l, st, h => by
    rcases List.mem_cons.mp h with rfl | h
    · exact List.mem_cons_self
    · have := stops_br h
      cases o <;> simp [stops, this]
  | [], _, h => by cases h
theorem stops_rt : ∀ {l : List O} {s : S} {st : Stt}, .rt s st ∈ l → .rt s st ∈ stops l
  | o :: l, s, st, h => by
    rcases List.mem_cons.mp h with rfl | h
    · exact List.mem_cons_self
    · have := stops_rt h
      cases o <;> simp [stops, this]
  | [], _, _, h => by cases h
def nexts (p : Nat) (keep live : List Nat) (outs : List O) : List Stt := mergeAll p keep [] ((conts outs).map (fgt live))
def loopE (step : S → Stt → Option (List O)) (p : Nat) (keep live : List Nat) : List S → Nat → List Stt → Option (List O)
  | [], _, sts => some (sts.map .nx)
  | e :: es, lo, sts => match bnd sts (step e) with
    | none => none
    | some outs => match loopE step p keep live es (lo - 1) (nexts p keep live outs) with
      | none => none
      | some r => some ((if lo = 0 then sts.map .nx else []) ++ (stops outs ++ r))
def loopU (step : Stt → Option (List O)) (p : Nat) (keep live : List Nat) : Nat → Nat → List Stt → Option (List O)
  | 0, _, sts => some (sts.map .nx)
  | n + 1, lo, sts => match bnd sts step with
    | none => none
    | some outs => if (nexts p keep live outs).all (fun s => sts.any (within p s)) = true then some (sts.map .nx ++ stops outs)
      else match loopU step p keep live n (lo - 1) (nexts p keep live outs) with
        | none => none
        | some r => some ((if lo = 0 then sts.map .nx else []) ++ (stops outs ++ r))
section
variable {iv : Iv} {p : Nat} {keep live : List Nat} {cs : PyData → SF}
theorem nexts_ok {outs : List O} {st : Stt} (h : st ∈ conts outs) : ∃ g ∈ nexts p keep live outs, RepP iv p st g := by
  obtain ⟨g, m, r⟩ := mergeAll_ok (iv := iv) (p := p) (keep := keep) (sts := (conts outs).map (fgt live)) (acc := []) (.inl (List.mem_map_of_mem h))
  exact ⟨g, m, fgt_ok.trans r⟩
/-- one turn: it goes on, or it ends -/
theorem turn {ν : List D} {ρ : Vs.Env} {q : PyData} {outs : List O} {R : List O} {qs : List PyData} (h : PostO iv p ν outs (cs q ρ)) (hs : ∀ o ∈ stops outs, o ∈ R)
    (go : ∀ st ν' ρ', st ∈ conts outs → ν'.take p = ν.take p → p ≤ ν'.length → Sat iv ν' ρ' st → PostO iv p ν' R (cl cs qs ρ')) : PostO iv p ν R (cl cs (q :: qs) ρ) := by
  obtain ⟨o, m, ν', e, l, g⟩ := h
  unfold cl
  cases ec : cs q ρ with
  | nx ρ' =>
    rw [ec] at g
    cases o <;> first | exact g.elim | skip
    exact (go _ ν' ρ' (conts_nx m) e l g).chain e
  | ct ρ' =>
    rw [ec] at g
    cases o <;> first | exact g.elim | skip
    exact (go _ ν' ρ' (conts_ct m) e l g).chain e
  | br ρ' =>
    rw [ec] at g
    cases o <;> first | exact g.elim | skip
    exact ⟨_, hs _ (stops_br m), ν', e, l, g⟩
  | rt d ρ' =>
    rw [ec] at g
    cases o <;> first | exact g.elim | skip
    exact ⟨_, hs _ (stops_rt m), ν', e, l, g⟩
  | ex x ρ' => rw [ec] at g; cases o <;> exact g.elim
  | no => rw [ec] at g; cases o <;> exact g.elim
theorem nx_post {ν : List D} {ρ : Vs.Env} {st : Stt} {R : List O} (h : Sat iv ν ρ st) (hp : p ≤ ν.length) (m : .nx st ∈ R) : PostO iv p ν R (.nx ρ) := ⟨_, m, ν, rfl, hp, h⟩
theorem loopE_ok {step : S → Stt → Option (List O)} (hstep : ∀ e q st ν ρ outs, den (ν.take p) e = some (.sh q) → Sat iv ν ρ st → p ≤ ν.length → step e st = some outs → PostO iv p ν outs (cs q ρ)) :
    ∀ {es : List S} {lo : Nat} {sts : List Stt} {R : List O} {qs : List PyData} {st : Stt} {ν : List D} {ρ : Vs.Env}, loopE step p keep live es lo sts = some R → st ∈ sts → Sat iv ν ρ st → p ≤ ν.length → lo ≤ qs.length → qs.length ≤ es.length →
    (∀ (i : Nat) (q : PyData), qs[i]? = some q → ∃ e, es[i]? = some e ∧ den (ν.take p) e = some (.sh q)) → PostO iv p ν R (cl cs qs ρ)
  | [], lo, sts, R, qs, st, ν, ρ, h, m, s, hp, _, hl, _ => by
    simp only [loopE, Option.some.injEq] at h
    subst h
    have : qs = [] := List.length_eq_zero_iff.mp (by simpa using hl)
    subst this
    exact nx_post s hp (List.mem_map_of_mem m)
  | e :: es, lo, sts, R, qs, st, ν, ρ, h, m, s, hp, hlo, hl, he => by
    unfold loopE at h
    split at h
    · cases h
    · rename_i outs eb
      split at h
      · cases h
      · rename_i r er
        cases h
        cases qs with
        | nil =>
          have : lo = 0 := by simpa using hlo
          rw [if_pos this]
          exact nx_post s hp (List.mem_append_left _ (List.mem_map_of_mem m))
        | cons q qs =>
          obtain ⟨x, ex, sx⟩ := bnd_ok eb m
          obtain ⟨e', e1, e2⟩ := he 0 q rfl
          simp at e1
          subst e1
          refine turn ((hstep e q st ν ρ x e2 s hp ex).mono sx) (fun o ho => List.mem_append_right _ (List.mem_append_left _ ho)) fun st' ν' ρ' ms et l s' => ?_
          obtain ⟨g, mg, rg⟩ := nexts_ok (iv := iv) (p := p) (keep := keep) (live := live) ms
          obtain ⟨ν2, t2, l2, s2⟩ := rg ν' ρ' s' l
          refine (PostO.chain ?_ t2).mono fun o ho => List.mem_append_right _ (List.mem_append_right _ ho)
          refine loopE_ok hstep er mg s2 l2 ?_ (by simpa using hl) fun i q' hq => ?_
          · simp at hlo; omega
          · obtain ⟨e', a, b⟩ := he (i + 1) q' (by simpa using hq)
            exact ⟨e', by simpa using a, by rw [t2, et]; exact b⟩
theorem closed_ok {step : Stt → Option (List O)} {t : T} (hstep : ∀ q st ν ρ outs, has iv.Ω t (.sh q) → Sat iv ν ρ st → p ≤ ν.length → step st = some outs → PostO iv p ν outs (cs q ρ)) {sts : List Stt} {outs : List O} (eb : bnd sts step = some outs) (hw : (nexts p keep live outs).all (fun s => sts.any (within p s)) = true) :
    ∀ {qs : List PyData} {st : Stt} {ν : List D} {ρ : Vs.Env}, st ∈ sts → Sat iv ν ρ st → p ≤ ν.length → (∀ q ∈ qs, has iv.Ω t (.sh q)) → PostO iv p ν (sts.map .nx ++ stops outs) (cl cs qs ρ)
  | [], st, ν, ρ, m, s, hp, _ => nx_post s hp (List.mem_append_left _ (List.mem_map_of_mem m))
  | q :: qs, st, ν, ρ, m, s, hp, ht => by
    obtain ⟨x, ex, sx⟩ := bnd_ok eb m
    refine turn ((hstep q st ν ρ x (ht q List.mem_cons_self) s hp ex).mono sx) (fun o ho => List.mem_append_right _ ho) fun st' ν' ρ' ms et l s' => ?_
    obtain ⟨g, mg, rg⟩ := nexts_ok (iv := iv) (p := p) (keep := keep) (live := live) ms
    obtain ⟨ν2, t2, l2, s2⟩ := rg ν' ρ' s' l
    have hg := List.all_eq_true.mp hw g mg
    obtain ⟨u, mu, wu⟩ := List.any_eq_true.mp hg
    obtain ⟨ν3, t3, l3, s3⟩ := within_ok (iv := iv) wu ν2 ρ' s2 l2
    exact (closed_ok hstep eb hw mu s3 l3 fun q hq => ht q (List.mem_cons_of_mem _ hq)).chain (t3.trans t2)
theorem loopU_ok {step : Stt → Option (List O)} {t : T} (hstep : ∀ q st ν ρ outs, has iv.Ω t (.sh q) → Sat iv ν ρ st → p ≤ ν.length → step st = some outs → PostO iv p ν outs (cs q ρ)) :
    ∀ {n lo : Nat} {sts : List Stt} {R : List O} {qs : List PyData} {st : Stt} {ν : List D} {ρ : Vs.Env}, loopU step p keep live n lo sts = some R → st ∈ sts → Sat iv ν ρ st → p ≤ ν.length → lo ≤ qs.length → qs.length ≤ n → (∀ q ∈ qs, has iv.Ω t (.sh q)) → PostO iv p ν R (cl cs qs ρ)
  | 0, lo, sts, R, qs, st, ν, ρ, h, m, s, hp, _, hl, _ => by
    simp only [loopU, Option.some.injEq] at h
    subst h
    have : qs = [] := List.length_eq_zero_iff.mp (by simpa using hl)
    subst this
    exact nx_post s hp (List.mem_map_of_mem m)
  | n + 1, lo, sts, R, qs, st, ν, ρ, h, m, s, hp, hlo, hl, ht => by
    unfold loopU at h
    split at h
    · cases h
    · rename_i outs eb
      split at h
      · rename_i hw
        cases h
        exact closed_ok hstep eb hw m s hp ht
      · split at h
        · cases h
        · rename_i r er
          cases h
          cases qs with
          | nil =>
            have : lo = 0 := by simpa using hlo
            rw [if_pos this]
            exact nx_post s hp (List.mem_append_left _ (List.mem_map_of_mem m))
          | cons q qs =>
            obtain ⟨x, ex, sx⟩ := bnd_ok eb m
            refine turn ((hstep q st ν ρ x (ht q List.mem_cons_self) s hp ex).mono sx) (fun o ho => List.mem_append_right _ (List.mem_append_left _ ho)) fun st' ν' ρ' ms et l s' => ?_
            obtain ⟨g, mg, rg⟩ := nexts_ok (iv := iv) (p := p) (keep := keep) (live := live) ms
            obtain ⟨ν2, t2, l2, s2⟩ := rg ν' ρ' s' l
            refine (PostO.chain ?_ t2).mono fun o ho => List.mem_append_right _ (List.mem_append_right _ ho)
            exact loopU_ok hstep er mg s2 l2 (by simp at hlo; omega) (by simpa using hl) fun q hq => ht q (List.mem_cons_of_mem _ hq)
end
end Ab
/-! X8: expressions, done with symbolic values. -/
namespace Ab
open PySem PySem.Spec L2
open Vs hiding Env
open PyProof.Rows hiding St
structure Spec where
  io : List Bool
  ty : List T → Option (List (T × List T))
  pure : Option Nat
structure Cfg where
  con : Str → Option PyData
  fs : Str → Option Spec
  keep : List Nat
inductive Od where
  | s (s : S)
  | v (i : Nat)
def setT (C : List CE) (n : Nat) (t : T) : List CE := match C[n]? with
  | some c => C.set n ⟨t, c.o⟩
  | none => C
def splitB (s : S) (st : Stt) : Option (List (Bool × Stt)) := match s with
  | .lit (.bool b) => some [(b, st)]
  | .v n => match st.C[n]? with
    | some c => match c.t with
      | .lit (.bool b) => some [(b, st)]
      | .bool => some [(true, ⟨setT st.C n (.lit (.bool true)), st.A⟩), (false, ⟨setT st.C n (.lit (.bool false)), st.A⟩)]
      | _ => none
    | none => none
  | _ => none
/-- a name that is one of some tuples: each of these -/
def alt1 (n : Nat) (st : Stt) : List Stt := match st.C[n]? with
  | some c => match c.t with
    | .uni ts => if ts.all tupB = true then ts.map fun t => ⟨setT st.C n t, st.A⟩ else [st]
    | _ => [st]
  | none => [st]
def altV : List Nat → Stt → List Stt
  | [], st => [st]
  | n :: ns, st => (alt1 n st).flatMap (altV ns)
def varsS : List S → List Nat
  | [] => []
  | .v n :: l => n :: varsS l
  | _ :: l => varsS l
def altS (s : S) (st : Stt) : List Stt := match s with
  | .v n => alt1 n st
  | .tup l => altV (varsS l) st
  | _ => [st]
def altsT (t : T) : List T := if (alts t).all tupB = true then alts t else [t]
def rsv (A : List Sl) : List Od → Option (List S)
  | [] => some []
  | .s s :: l => match rsv A l with
    | some r => some (s :: r)
    | none => none
  | .v i :: l => match A[i]? with
    | some (.val s) => match rsv A l with
      | some r => some (s :: r)
      | none => none
    | _ => none
def odS : List Od → Option (List S)
  | [] => some []
  | .s s :: l => match odS l with
    | some r => some (s :: r)
    | none => none
  | .v _ :: _ => none
def argA (C : List CE) : List Bool → List Od → List Sl → Option (List T × List S × List Sl)
  | [], [], A => some ([], [], A)
  | false :: io, .s s :: os, A => match tyS C s, argA C io os A with
    | some t, some (ts, ss, A') => some (t :: ts, s :: ss, A')
    | _, _ => none
  | true :: io, .v i :: os, A => match A[i]? with
    | some (.val s) => match tyS C s, argA C io os (A.set i .un) with
      | some t, some (ts, ss, A') => some (t :: ts, s :: ss, A')
      | _, _ => none
    | _ => none
  | _, _, _ => none
def backA : List Bool → List Od → List S → List Sl → Option (List Sl)
  | [], [], [], A => some A
  | false :: io, _ :: os, outs, A => backA io os outs A
  | true :: io, .v i :: os, s :: outs, A => match A[i]? with
    | some .un => backA io os outs (A.set i (.val s))
    | _ => none
  | _, _, _, _ => none
def isShA (C : List CE) : Od → Bool
  | .s s => match tyS C s with
    | some t => shT t
    | none => false
  | .v _ => true
def arrA (C : List CE) (ks : List Str) (π : List Nat) (os : List Od) : Option (List Od) := match ks with
  | [] => some os
  | _ => if os.all (isShA C) = true then perm π os else none
def xcall (E : Cfg) (f : Str) (ks : List Str) (π : List Nat) (os : List Od) (st : Stt) : Option (List (S × Stt)) := match E.fs f with
  | none => none
  | some sp => match arrA st.C ks π os with
    | none => none
    | some os' => match argA st.C sp.io os' st.A with
      | none => none
      | some (ts, ss, A1) => match sp.ty ts with
        | none => none
        | some rs => match sp.pure with
          | some id => match rs with
            | [r] => match backA sp.io os' [] A1 with
              | some A2 => some [((pushF st.C r.1 (.id id) ss).1, ⟨(pushF st.C r.1 (.id id) ss).2, A2⟩)]
              | none => none
            | _ => none
          | none => bnd (rs.flatMap fun r => (altsT r.1).map fun t => (t, r.2)) fun r => match (opns st.C.length (r.1 :: r.2)).1 with
            | s :: outs => match backA sp.io os' outs A1 with
              | some A2 => some [(s, ⟨st.C ++ plainC (opns st.C.length (r.1 :: r.2)).2, A2⟩)]
              | none => none
            | [] => none
def appT (lo hi : Nat) (t u : T) : Option T := if hi + 1 < 1000000 then (if hi = 0 then some (.vec .own 1 1 u) else match joinT t u with
    | some w => some (.vec .own (lo + 1) (hi + 1) w)
    | none => none) else none
def appS (C : List CE) (l x : S) : Option (S × List CE) := match l with
  | .ls l => if l.length < 100 then some (.ls (l ++ [x]), C) else match tyS C (.ls l), tyS C x with
    | some t, some u => match seqT t with
      | some (.own, lo, hi, t) => if shT u = true then match appT lo hi t u with
        | some w => some (push C w)
        | none => none
        else none
      | _ => none
    | _, _ => none
  | .v n => match tyS C (.v n), tyS C x with
    | some t, some u => match seqT t with
      | some (.own, lo, hi, t) => if shT u = true then match appT lo hi t u with
        | some w => some (push C w)
        | none => none
        else none
      | _ => none
    | _, _ => none
  | _ => none
def extS (C : List CE) (l m : S) : Option (S × List CE) := match tyS C l, tyS C m with
  | some t, some u => match seqT t, seqT u with
    | some (.own, _, hi, _), some (.own, _, hi', _) => if hi + hi' ≤ 1000000 then (match addT t u with
      | some w => some (push C w)
      | none => none) else none
    | _, _ => none
  | _, _ => none
def extX (C : List CE) (l m : S) : Option (S × List CE) := match l, m with
  | .ls l, .ls m => if l.length + m.length ≤ 1000000 then some (.ls (l ++ m), C) else none
  | _, _ => extS C l m
def cntS (C : List CE) (l x : S) : Option (S × List CE) := match tyS C l, tyS C x with
  | some t, some u => match seqT t, dm t, dm u with
    | some (.own, _, hi, _), some (a, _), some (b, _) => if (decide (a ≤ 60) && decide (b ≤ 60) && shT u) = true then some (push C (mkI 0 hi)) else none
    | _, _, _ => none
  | _, _ => none
def moS (C : List CE) (m : Mo) (l : S) (as : List S) : Option (S × S × List CE) := match m with
  | .append => match as with
    | [x] => match appS C l x with
      | some (l', C') => some (l', .lit .none, C')
      | none => none
    | _ => none
  | .extend => match as with
    | [m] => match extX C l m with
      | some (l', C') => some (l', .lit .none, C')
      | none => none
    | _ => none
  | .pop => match as with
    | [] => match l with
      | .ls l => match l.getLast? with
        | some x => some (.ls l.dropLast, x, C)
        | none => none
      | _ => none
    | _ => none
  | .popAt => match as with
    | [.lit (.int i)] => match l with
      | .ls l => match ixN l.length i with
        | some j => match l[j]? with
          | some x => if l.length < 1000000 then some (.ls (l.eraseIdx j), x, C) else none
          | none => none
        | none => none
      | _ => none
    | _ => none
  | .insert => none
  | .cnt => match as with
    | [x] => match cntS C l x with
      | some (n, C') => some (l, n, C')
      | none => none
    | _ => none
  | .idx => none
mutual
def fzS (C : List CE) : S → Option (S × List CE)
  | .lit p => some (.lit p, C)
  | .v n => match C[n]? with
    | some c => if shT c.t = true then some (.v n, C) else match c.t with
      | .vec .own lo hi t => some (push C (.vec .lst lo hi t))
      | _ => none
    | none => none
  | .tup l => match fzsS C l with
    | some (l', C') => some (.tup l', C')
    | none => none
  | .ls l => match fzsS C l with
    | some (l', C') => some (.fl l', C')
    | none => none
  | .fl l => some (.fl l, C)
def fzsS (C : List CE) : List S → Option (List S × List CE)
  | [] => some ([], C)
  | s :: l => match fzS C s with
    | some (s', C') => match fzsS C' l with
      | some (l', C2) => some (s' :: l', C2)
      | none => none
    | none => none
end
/-! ### what is walked -/
inductive Els where
  | ex (lo : Nat) (es : List S)
  | un (lo hi : Nat) (t : T)
def intsS (a : Int) (n : Nat) : List S := (List.range n).map fun k => .lit (.int (a + (k : Nat)))
def enumS (i : Int) : List S → List S
  | [] => []
  | s :: l => .tup [.lit (.int i), s] :: enumS (i + 1) l
def zipS : List S → List S → List S
  | a :: l, b :: m => .tup [a, b] :: zipS l m
  | _, _ => []
/-- items of a sequence of shared things, told or by their type -/
def seqE (C : List CE) (s : S) : Option (QK × Els) := match s with
  | .tup l => if shL C l = true then some (.tup, .ex l.length l) else none
  | .ls l => if shL C l = true then some (.own, .ex l.length l) else none
  | .fl l => some (.lst, .ex l.length l)
  | s => match tyS C s with
    | some t => match seqT t with
      | some (k, lo, hi, u) => some (k, .un lo hi u)
      | none => none
    | none => none
def elems (C : List CE) (k : ItK) (ss : List S) : Option Els := match k with
  | .seq => match ss with
    | [s] => match seqE C s with
      | some (_, e) => some e
      | none => none
    | _ => none
  | .rng => match ss with
    | [s] => match tyS C s with
      | some t => match rng t with
        | some (x, y) => if -16777216 < x ∧ y < 16777216 then (if y ≤ 64 then some (.ex x.toNat (intsS 0 y.toNat)) else some (.un x.toNat y.toNat (.int 0 (y - 1)))) else none
        | none => none
      | none => none
    | _ => none
  | .rng2 => match ss with
    | [a, b] => match tyS C a, tyS C b with
      | some t, some u => match rng t, rng u with
        | some (x, y), some (z, w) => if (-16777216 < x ∧ y < 16777216) ∧ (-16777216 < z ∧ w < 16777216) then (if x = y ∧ w - x ≤ 64 then some (.ex (z - x).toNat (intsS x (w - x).toNat)) else some (.un (z - y).toNat (w - x).toNat (.int x (w - 1)))) else none
        | _, _ => none
      | _, _ => none
    | _ => none
  | .rev => match ss with
    | [s] => match seqE C s with
      | some (_, .ex lo es) => if lo = es.length then some (.ex lo es.reverse) else none
      | some (_, .un lo hi t) => some (.un lo hi t)
      | none => none
    | _ => none
  | .enum => match ss with
    | [s] => match seqE C s with
      | some (_, .ex lo es) => some (.ex lo (enumS 0 es))
      | some (_, .un lo hi t) => some (.un lo hi (.tup [.int 0 (hi - 1), t]))
      | none => none
    | _ => none
  | .zip => match ss with
    | [a, b] => match seqE C a, seqE C b with
      | some (k, .ex lo es), some (k', .ex lo' es') => if (k = .tup) = (k' = .tup) ∧ lo = es.length ∧ lo' = es'.length then some (.ex (min lo lo') (zipS es es')) else none
      | some (k, .un lo hi t), some (k', .un lo' hi' t') => if (k = .tup) = (k' = .tup) then some (.un (min lo lo') (min hi hi') (.tup [t, t'])) else none
      | _, _ => none
    | _ => none
def setAllA : List Nat → List S → List Sl → Option (List Sl)
  | [], [], A => some A
  | i :: is, s :: ss, A => if i < A.length then setAllA is ss (A.set i (.val s)) else none
  | _, _, _ => none
def bindA (t : Tg) (s : S) (st : Stt) : Option Stt := match t with
  | .nm i => if i < st.A.length then some ⟨st.C, st.A.set i (.val s)⟩ else none
  | .tp is => match (expS st.C s).1 with
    | .tup l => match setAllA is l st.A with
      | some A => some ⟨(expS st.C s).2, A⟩
      | none => none
    | _ => none
def wipeA (A : List Sl) : List Nat → List Sl
  | [] => A
  | i :: is => (wipeA A is).set i .un
def unlA : List (S × Option Nat) → List Sl → Option (List Sl)
  | [], A => some A
  | (_, none) :: r, A => unlA r A
  | (s, some i) :: r, A => match unlA r A with
    | some A' => match A'[i]? with
      | some .un => some (A'.set i (.val s))
      | _ => none
    | none => none
def bndO {α β : Type} (l : Option (List α)) (f : α → Option (List β)) : Option (List β) := match l with
  | none => none
  | some l => bnd l f
/-- an owned list -/
def seqO : T → Bool
  | .ls _ => true
  | .vec .own _ _ _ => true
  | _ => false
def lsB (C : List CE) (s : S) : Bool := match s with
  | .ls _ => true
  | s => match tyS C s with
    | some t => seqO t
    | none => false
/-- one turn of a comprehension: what is made stands behind the names -/
def lcStep (own : List Nat) (t : Tg) (test : Stt → Option (List (Bool × Stt))) (elt : Stt → Option (List (S × Stt))) (el : S) (st : Stt) : Option (List O) := bnd (altS el st) fun st => match st.A.getLast? with
  | some (.val acc) => match (if lsB st.C acc = true then bindA t el ⟨st.C, st.A.dropLast⟩ else none) with
    | none => none
    | some st1 => bndO (test st1) fun r => if r.1 = true then bndO (elt r.2) fun q => match appS q.2.C acc q.1 with
        | some (acc', C') => some [.nx ⟨C', wipeA q.2.A own ++ [.val acc']⟩]
        | none => none
      else some [.nx ⟨r.2.C, wipeA r.2.A own ++ [.val acc]⟩]
  | _ => none
def lcEnd (l : List (S × Option Nat)) : O → Option (List (S × Stt))
  | .nx st => match st.A.getLast? with
    | some (.val acc) => match unlA l st.A.dropLast with
      | some A => some [(acc, ⟨st.C, A⟩)]
      | none => none
    | _ => none
  | _ => none
def runEls (step : S → Stt → Option (List O)) (p : Nat) (keep live : List Nat) (els : Els) (st : Stt) : Option (List O) := match els with
  | .ex lo es => loopE step p keep live es lo [st]
  | .un lo hi t => loopU (fun st => step (push st.C t).1 ⟨(push st.C t).2, st.A⟩) p keep live hi lo [st]
def rngOk (C : List CE) (s : S) : Bool := match tyS C s with
  | some t => (rng t).isSome
  | none => false
/-- the bounds of a slice stand there as ints -/
def lhOk (C : List CE) : List Od → Bool
  | [_, .s a, .s b] => rngOk C a && rngOk C b
  | _ => false
def splitR (l : Option (List (S × Stt))) : Option (List (Bool × Stt)) := bndO l fun z => splitB z.1 z.2
def opR (o : Op) (l : Option (List (List Od × Stt))) : Option (List (S × Stt)) := bndO l fun r => if (decide (o = .slLH) && !lhOk r.2.C r.1) = true then none else match rsv r.2.A r.1 with
  | some ss => match opS r.2.C o ss with
    | some (s, C') => some [(s, ⟨C', r.2.A⟩)]
    | none => none
  | none => none
def rdR (i : Nat) (st : Stt) : Option (List (S × Stt)) := match st.A[i]? with
  | some (.val s) => match tyS st.C s with
    | some t => if shT t = true then some [(s, st)] else none
    | none => none
  | _ => none
def chnR (o o' : Op) (xa xb xc : Stt → Option (List (S × Stt))) (st : Stt) : Option (List (S × Stt)) := bndO (xa st) fun r => bndO (xb r.2) fun q => match opS q.2.C o [r.1, q.1] with
  | some (s, C') => bndO (splitB s ⟨C', q.2.A⟩) fun z => if z.1 = true then bndO (xc z.2) fun w => match opS w.2.C o' [q.1, w.1] with
      | some (s', C2) => some [(s', ⟨C2, w.2.A⟩)]
      | none => none
    else some [(.lit (.bool false), z.2)]
  | none => none
def callR (E : Cfg) (f : Str) (ks : List Str) (π : List Nat) (xa xb : Stt → Option (List (List Od × Stt))) (st : Stt) : Option (List (S × Stt)) := bndO (xa st) fun r => bndO (xb r.2) fun q => xcall E f ks π (r.1 ++ q.1) q.2
def dispR (mk : List S → S) (l : Option (List (List Od × Stt))) : Option (List (S × Stt)) := bndO l fun r => match odS r.1 with
  | some ss => if ss.length ≤ 1000 then some [(mk ss, r.2)] else none
  | none => none
def mutR (m : Mo) (i : Nat) (xa : Stt → Option (List (List Od × Stt))) (st : Stt) : Option (List (S × Stt)) := match st.A[i]? with
  | some (.val s0) => if lsB st.C s0 = true then bndO (xa st) fun r => match odS r.1, r.2.A[i]? with
      | some ss, some (.val s) => if lsB r.2.C s = true then match moS (expS r.2.C s).2 m (expS r.2.C s).1 ss with
        | some (s', x, C') => some [(x, ⟨C', r.2.A.set i (.val s')⟩)]
        | none => none
        else none
      | _, _ => none
    else none
  | _ => none
/-- what is gathered holds no more than hi -/
def capA (hi : Nat) (st : Stt) : Option Stt := match st.A.getLast? with
  | some (.val s) => match tyS st.C s with
    | some t => match seqT t with
      | some (.own, _, b, e) => some ⟨(push st.C (.vec .own 0 (if b = 0 then 0 else hi) e)).2, st.A.dropLast ++ [.val (push st.C (.vec .own 0 (if b = 0 then 0 else hi) e)).1]⟩
      | _ => none
    | none => none
  | _ => none
def capOs (hi : Nat) : List O → Option (List O)
  | [] => some []
  | .nx st :: r => match capA hi st, capOs hi r with
    | some st', some r' => some (.nx st' :: r')
    | _, _ => none
  | _ => none
def capR (hi : Nat) (l : Option (List O)) : Option (List O) := match l with
  | some os => capOs hi os
  | none => none
/-- a long walk of unknown length: what is gathered is bounded by the walk's length at once -/
def runElsW (step : S → Stt → Option (List O)) (p : Nat) (keep live : List Nat) (els : Els) (st : Stt) : Option (List O) := match els with
  | .ex lo es => runEls step p keep live (.ex lo es) st
  | .un lo hi t => if 40 < hi then loopU (fun st => capR hi (step (push st.C t).1 ⟨(push st.C t).2, st.A⟩)) p keep live hi lo [st] else runEls step p keep live (.un lo hi t) st
/-- what is gathered, at first -/
def acc0 (els : Els) (C : List CE) : S × List CE := match els with
  | .ex _ _ => (.ls [], C)
  | .un _ _ _ => push C (.vec .own 0 0 (.lit .none))
def lcR (E : Cfg) (own : List Nat) (t : Tg) (k : ItK) (xa : Stt → Option (List (List (S × Option Nat) × Stt))) (test : Stt → Option (List (Bool × Stt))) (elt : Stt → Option (List (S × Stt))) (st : Stt) : Option (List (S × Stt)) := bndO (xa st) fun r => match elems r.2.C k (r.1.map (·.1)) with
  | some els => bndO (runElsW (lcStep own t test elt) (acc0 els r.2.C).2.length E.keep (List.range (r.2.A.length + 1)) els ⟨(acc0 els r.2.C).2, wipeA r.2.A own ++ [.val (acc0 els r.2.C).1]⟩) fun o => lcEnd r.1 o
  | none => none
def fzR (l : Option (List (S × Stt))) : Option (List (S × Stt)) := bndO l fun r => match fzS r.2.C r.1 with
  | some (s, C') => some [(s, ⟨C', r.2.A⟩)]
  | none => none
mutual
def xe (E : Cfg) (e : Ex) (st : Stt) : Option (List (S × Stt)) := match e with
  | .lit d => some [(nrm d, st)]
  | .rd i => rdR i st
  | .mv i => match st.A[i]? with
    | some (.val s) => some [(s, ⟨st.C, st.A.set i .un⟩)]
    | _ => none
  | .vw _ _ => none
  | .gl x => match E.con x with
    | some d => some [(nrm d, st)]
    | none => none
  | .tup es => dispR .tup (xo E es st)
  | .lst es => dispR .ls (xo E es st)
  | .op o as => opR o (xo E as st)
  | .chn o o' a b c => chnR o o' (fun st => xe E a st) (fun st => xe E b st) (fun st => xe E c st) st
  | .bop k es => xb E k es st
  | .not a => bndO (splitR (xe E a st)) fun z => some [(.lit (.bool (!z.1)), z.2)]
  | .ite c a b => bndO (xt E c st) fun r => if r.1 = true then xe E a r.2 else xe E b r.2
  | .call f as bs ks π => callR E f ks π (fun st => xo E as st) (fun st => xo E bs st) st
  | .mut m i path as => match path with
    | [] => mutR m i (fun st => xo E as st) st
    | _ :: _ => none
  | .lc own t k as ifs e => lcR E own t k (fun st => xl E as st) (fun st => xif E ifs st) (fun st => xe E e st) st
  | .fz a => fzR (xe E a st)
  | .at _ _ => none
  | .dct _ _ => none
def xt (E : Cfg) (e : Ex) (st : Stt) : Option (List (Bool × Stt)) := match e with
  | .bop k es => xbt E k es st
  | .not a => bndO (xt E a st) fun r => some [(!r.1, r.2)]
  | .lit d => splitR (some [(nrm d, st)])
  | .rd i => splitR (rdR i st)
  | .op o as => splitR (opR o (xo E as st))
  | .chn o o' a b c => splitR (chnR o o' (fun st => xe E a st) (fun st => xe E b st) (fun st => xe E c st) st)
  | .call f as bs ks π => splitR (callR E f ks π (fun st => xo E as st) (fun st => xo E bs st) st)
  | _ => none
def xb (E : Cfg) (k : Bool) (es : List Ex) (st : Stt) : Option (List (S × Stt)) := match es with
  | [] => none
  | e :: es => match es with
    | [] => xe E e st
    | _ :: _ => bndO (splitR (xe E e st)) fun z => if z.1 = k then xb E k es z.2 else some [(.lit (.bool z.1), z.2)]
def xbt (E : Cfg) (k : Bool) (es : List Ex) (st : Stt) : Option (List (Bool × Stt)) := match es with
  | [] => none
  | e :: es => match es with
    | [] => xt E e st
    | _ :: _ => bndO (xt E e st) fun z => if z.1 = k then xbt E k es z.2 else some [(z.1, z.2)]
def xif (E : Cfg) (es : List Ex) (st : Stt) : Option (List (Bool × Stt)) := match es with
  | [] => some [(true, st)]
  | e :: es => match es with
    | [] => xt E e st
    | _ :: _ => none
def xo (E : Cfg) (es : List Ex) (st : Stt) : Option (List (List Od × Stt)) := match es with
  | [] => some [([], st)]
  | e :: es => match e with
    | .vw i path => match path with
      | [] => match st.A[i]? with
        | some (.val _) => bndO (xo E es st) fun r => some [(.v i :: r.1, r.2)]
        | _ => none
      | _ :: _ => none
    | _ => bndO (xe E e st) fun q => bndO (xo E es q.2) fun r => some [(.s q.1 :: r.1, r.2)]
def xl (E : Cfg) (es : List Ex) (st : Stt) : Option (List (List (S × Option Nat) × Stt)) := match es with
  | [] => some [([], st)]
  | e :: es => match e with
    | .vw i path => match path with
      | [] => match st.A[i]? with
        | some (.val s) => bndO (xl E es ⟨(expS st.C s).2, st.A.set i .un⟩) fun r => some [(((expS st.C s).1, some i) :: r.1, r.2)]
        | _ => none
      | _ :: _ => none
    | _ => bndO (xe E e st) fun q => bndO (xl E es ⟨(expS q.2.C q.1).2, q.2.A⟩) fun r => some [(((expS q.2.C q.1).1, none) :: r.1, r.2)]
end
end Ab
/-! X9: the pieces of expressions are right. -/
namespace Ab
open PySem PySem.Spec L2
open Vs hiding Env
open PyProof.Rows hiding St
def SpecOk (iv : Iv) (sp : Spec) (dn : Den) : Prop := sp.io = dn.io ∧ ∀ ts rs ds, sp.ty ts = some rs → hasL iv.Ω ts ds → ∃ r ∈ rs, ∃ d outs, dn.m ds = .ok d outs ∧ has iv.Ω r.1 d ∧ hasL iv.Ω r.2 outs ∧ ∀ id, sp.pure = some id → outs = [] ∧ iv.fi id ds = some d
structure TabOk (iv : Iv) (E : Cfg) (Γ : Gam) : Prop where
  con : ∀ x d, E.con x = some d → Γ.con x = some d
  fs : ∀ f sp, E.fs f = some sp → ∃ dn, Γ.fn f = some dn ∧ SpecOk iv sp dn
def PostG {α β : Type} (iv : Iv) (ν : List D) (rs : List (α × Stt)) (rel : List D → α → β → Prop) (r : Res (β × Vs.Env)) : Prop :=
  ∃ a st' μ b ρ', (a, st') ∈ rs ∧ r = .ok (b, ρ') ∧ Sat iv (ν ++ μ) ρ' st' ∧ rel (ν ++ μ) a b
def relE (ν : List D) (s : S) (d : D) : Prop := den ν s = some d
def relB (_ : List D) (a b : Bool) : Prop := a = b
def relO (ν : List D) : List Od → List Ov → Prop
  | [], [] => True
  | .s s :: l, .d d :: os => den ν s = some d ∧ relO ν l os
  | .v i :: l, .v j :: os => i = j ∧ relO ν l os
  | _, _ => False
def relL (ν : List D) : List (S × Option Nat) → List Ov → Prop
  | [], [] => True
  | (s, none) :: l, .d d :: os => den ν s = some d ∧ relL ν l os
  | (s, some i) :: l, .p j [] d :: os => i = j ∧ den ν s = some d ∧ relL ν l os
  | _, _ => False
section
variable {iv : Iv} {ν μ : List D}
theorem relO.app : ∀ {l : List Od} {os : List Ov}, relO ν l os → relO (ν ++ μ) l os
  | [], [], h => h
  | .s s :: l, .d d :: os, h => ⟨den_app h.1, relO.app h.2⟩
  | .v i :: l, .v j :: os, h => ⟨h.1, relO.app h.2⟩
  | [], _ :: _, h => h.elim
  | _ :: _, [], h => by rename_i o _; cases o <;> exact h.elim
  | .s _ :: _, .v _ :: _, h => h.elim
  | .s _ :: _, .p _ _ _ :: _, h => h.elim
  | .v _ :: _, .d _ :: _, h => h.elim
  | .v _ :: _, .p _ _ _ :: _, h => h.elim
theorem relL.app : ∀ {l : List (S × Option Nat)} {os : List Ov}, relL ν l os → relL (ν ++ μ) l os
  | [], [], h => h
  | (s, none) :: l, .d d :: os, h => ⟨den_app h.1, relL.app h.2⟩
  | (s, some i) :: l, .p j [] d :: os, h => ⟨h.1, den_app h.2.1, relL.app h.2.2⟩
  | [], _ :: _, h => h.elim
  | (_, none) :: _, [], h => h.elim
  | (_, some _) :: _, [], h => h.elim
  | (_, none) :: _, .v _ :: _, h => h.elim
  | (_, none) :: _, .p _ _ _ :: _, h => h.elim
  | (_, some _) :: _, .d _ :: _, h => h.elim
  | (_, some _) :: _, .v _ :: _, h => h.elim
  | (_, some _) :: _, .p _ (_ :: _) _ :: _, h => h.elim
theorem PostG.one {α β : Type} {rel : List D → α → β → Prop} {a : α} {b : β} {st : Stt} {ρ : Vs.Env} (h : Sat iv ν ρ st) (g : rel ν a b) : PostG iv ν [(a, st)] rel (.ok (b, ρ)) :=
  ⟨a, st, [], b, ρ, List.mem_singleton.mpr rfl, rfl, by simpa using h, by simpa using g⟩
theorem PostG.up {α β : Type} {rel : List D → α → β → Prop} {rs : List (α × Stt)} {r : Res (β × Vs.Env)} (h : PostG iv (ν ++ μ) rs rel r) : PostG iv ν rs rel r := by
  obtain ⟨a, st, μ', b, ρ, m, e, s, g⟩ := h
  rw [List.append_assoc] at s g
  exact ⟨a, st, μ ++ μ', b, ρ, m, e, s, g⟩
theorem PostG.mono {α β : Type} {rel : List D → α → β → Prop} {rs rs' : List (α × Stt)} {r : Res (β × Vs.Env)} (h : PostG iv ν rs rel r) (m : ∀ x ∈ rs, x ∈ rs') : PostG iv ν rs' rel r := by
  obtain ⟨a, st, μ', b, ρ, m', e, s, g⟩ := h
  exact ⟨a, st, μ', b, ρ, m _ m', e, s, g⟩
theorem bndO_some {α β : Type} {l : Option (List α)} {f : α → Option (List β)} {r : List β} (h : bndO l f = some r) : ∃ l', l = some l' ∧ bnd l' f = some r := by
  unfold bndO at h
  split at h
  · cases h
  · exact ⟨_, rfl, h⟩
theorem PostG.bind {α β γ δ : Type} {rel : List D → α → β → Prop} {rel' : List D → γ → δ → Prop} {rs : List (α × Stt)} {r : Res (β × Vs.Env)} {f : α × Stt → Option (List (γ × Stt))} {out : List (γ × Stt)} {k : β × Vs.Env → Res (δ × Vs.Env)} (h : PostG iv ν rs rel r) (e : bnd rs f = some out)
    (g : ∀ a st' μ b ρ' x, Sat iv (ν ++ μ) ρ' st' → rel (ν ++ μ) a b → f (a, st') = some x → PostG iv (ν ++ μ) x rel' (k (b, ρ'))) : PostG iv ν out rel' (r.bind k) := by
  obtain ⟨a, st, μ, b, ρ, m, rfl, s, q⟩ := h
  obtain ⟨x, ex, sx⟩ := bnd_ok e m
  exact ((g a st μ b ρ x s q ex).mono sx).up
/-- .. where what comes is told of the evaluator's own words -/
theorem PostG.bind' {α β γ δ : Type} {rel : List D → α → β → Prop} {rel' : List D → γ → δ → Prop} {rs : List (α × Stt)} {r : Res (β × Vs.Env)} {f : α × Stt → Option (List (γ × Stt))} {out : List (γ × Stt)} {z : Res (δ × Vs.Env)} (h : PostG iv ν rs rel r) (e : bnd rs f = some out)
    (g : ∀ a st' μ b ρ' x, r = .ok (b, ρ') → Sat iv (ν ++ μ) ρ' st' → rel (ν ++ μ) a b → f (a, st') = some x → PostG iv (ν ++ μ) x rel' z) : PostG iv ν out rel' z := by
  obtain ⟨a, st, μ, b, ρ, m, rfl, s, q⟩ := h
  obtain ⟨x, ex, sx⟩ := bnd_ok e m
  exact ((g a st μ b ρ x rfl s q ex).mono sx).up
theorem rsv_ok {ρ : Vs.Env} {A : List Sl} (h : satA ν A ρ) : ∀ {l : List Od} {os : List Ov} {ss : List S}, relO ν l os → rsv A l = some ss → ∃ ds, ovs os ρ = some ds ∧ dens ν ss = some ds ∧ unlock os ρ = some ρ
  | [], [], ss, _, e => by
    simp only [rsv, Option.some.injEq] at e
    subst e
    exact ⟨[], rfl, rfl, rfl⟩
  | .s s :: l, .d d :: os, ss, r, e => by
    unfold rsv at e
    split at e
    · rename_i ss' e'
      cases e
      obtain ⟨ds, a, b, c⟩ := rsv_ok h r.2 e'
      exact ⟨d :: ds, by simp [a], dens_mk r.1 b, by simpa using c⟩
    · cases e
  | .v i :: l, .v j :: os, ss, r, e => by
    obtain ⟨rfl, r⟩ := r
    unfold rsv at e
    split at e
    · rename_i s es
      split at e
      · rename_i ss' e'
        cases e
        obtain ⟨ds, a, b, c⟩ := rsv_ok h r e'
        obtain ⟨d, x, y⟩ := h.val es
        exact ⟨d :: ds, by simp [a, x], dens_mk y b, by simpa using c⟩
      · cases e
    · cases e
  | [], _ :: _, _, h, _ => h.elim
  | .s _ :: _, [], _, h, _ => h.elim
  | .v _ :: _, [], _, h, _ => h.elim
  | .s _ :: _, .v _ :: _, _, h, _ => h.elim
  | .s _ :: _, .p _ _ _ :: _, _, h, _ => h.elim
  | .v _ :: _, .d _ :: _, _, h, _ => h.elim
  | .v _ :: _, .p _ _ _ :: _, _, h, _ => h.elim
theorem odS_ok : ∀ {l : List Od} {os : List Ov} {ss : List S}, relO ν l os → odS l = some ss → ∃ ds, ods os = some ds ∧ dens ν ss = some ds
  | [], [], ss, _, e => by
    simp only [odS, Option.some.injEq] at e
    subst e
    exact ⟨[], rfl, rfl⟩
  | .s s :: l, .d d :: os, ss, r, e => by
    unfold odS at e
    split at e
    · rename_i ss' e'
      cases e
      obtain ⟨ds, a, b⟩ := odS_ok r.2 e'
      exact ⟨d :: ds, by simp [a], dens_mk r.1 b⟩
    · cases e
  | .v _ :: _, _, _, _, e => by simp [odS] at e
  | [], _ :: _, _, h, _ => h.elim
  | .s _ :: _, [], _, h, _ => h.elim
  | .s _ :: _, .v _ :: _, _, h, _ => h.elim
  | .s _ :: _, .p _ _ _ :: _, _, h, _ => h.elim
theorem setT_ok {C : List CE} {n : Nat} {t : T} {d : D} (h : satC iv ν C) (e : ν[n]? = some d) (g : has iv.Ω t d) : satC iv ν (setT C n t) := by
  unfold setT
  split
  · rename_i c ec
    refine ⟨by rw [List.length_set]; exact h.len, fun m c' e' => ?_⟩
    by_cases q : n = m
    · subst q
      have hl := (List.getElem?_eq_some_iff.mp ec).1
      rw [List.getElem?_set_self hl] at e'
      cases e'
      obtain ⟨d', a, b, o⟩ := h.get n c ec
      rw [e] at a; cases a
      exact ⟨d, e, g, o⟩
    · rw [List.getElem?_set_ne q] at e'
      exact h.get m c' e'
  · exact h
theorem alt1_ok {n : Nat} {st : Stt} {ρ : Vs.Env} (h : Sat iv ν ρ st) : ∃ st' ∈ alt1 n st, Sat iv ν ρ st' := by
  unfold alt1
  have same : ∃ st' ∈ [st], Sat iv ν ρ st' := ⟨st, List.mem_singleton.mpr rfl, h⟩
  split
  · rename_i c ec
    obtain ⟨d, a, b, _⟩ := h.C.get n c ec
    split
    · rename_i ts et
      split
      · rw [et] at b
        obtain ⟨t, mt, ht⟩ := hasA_mem (by simpa only [has] using b)
        exact ⟨_, List.mem_map_of_mem mt, setT_ok h.C a ht, h.A⟩
      · exact same
    · exact same
  · exact same
theorem altV_ok : ∀ {ns : List Nat} {st : Stt} {ρ : Vs.Env}, Sat iv ν ρ st → ∃ st' ∈ altV ns st, Sat iv ν ρ st'
  | [], st, ρ, h => ⟨st, List.mem_singleton.mpr rfl, h⟩
  | n :: ns, st, ρ, h => by
    obtain ⟨s1, m1, h1⟩ := alt1_ok (n := n) h
    obtain ⟨s2, m2, h2⟩ := altV_ok (ns := ns) h1
    exact ⟨s2, List.mem_flatMap.mpr ⟨s1, m1, m2⟩, h2⟩
theorem altS_ok {s : S} {st : Stt} {ρ : Vs.Env} (h : Sat iv ν ρ st) : ∃ st' ∈ altS s st, Sat iv ν ρ st' := by
  unfold altS
  split
  · exact alt1_ok h
  · exact altV_ok h
  · exact ⟨st, List.mem_singleton.mpr rfl, h⟩
theorem altsT_ok {t : T} {d : D} (h : has iv.Ω t d) : ∃ u ∈ altsT t, has iv.Ω u d := by
  unfold altsT
  split
  · exact has_alts h
  · exact ⟨t, List.mem_singleton.mpr rfl, h⟩
theorem splitB_ok {s : S} {st : Stt} {ρ : Vs.Env} {d : D} {l : List (Bool × Stt)} (h : Sat iv ν ρ st) (g : den ν s = some d) (e : splitB s st = some l) : ∃ b, d = .sh (.bool b) ∧ ∃ st', (b, st') ∈ l ∧ Sat iv ν ρ st' := by
  unfold splitB at e
  split at e
  · rename_i b
    cases e
    cases g
    exact ⟨b, rfl, st, List.mem_singleton.mpr rfl, h⟩
  · rename_i n
    split at e
    · rename_i c ec
      obtain ⟨d', a, b, _⟩ := h.C.get n c ec
      have g : ν[n]? = some d := g
      rw [g] at a; cases a
      split at e
      · rename_i b' et
        cases e
        rw [et] at b
        have b : d = .sh (.bool b') := by simpa only [has] using b
        exact ⟨b', b, st, List.mem_singleton.mpr rfl, h⟩
      · rename_i et
        cases e
        rw [et] at b
        obtain ⟨b', rfl⟩ := (by simpa only [has] using b)
        refine ⟨b', rfl, ⟨setT st.C n (.lit (.bool b')), st.A⟩, by cases b' <;> simp, setT_ok h.C g (has_lit _), h.A⟩
      · cases e
    · cases e
  · cases e
theorem fzs_map : ∀ l : List PyData, D.fzs (l.map .sh) = some l
  | [] => rfl
  | p :: l => by simp [D.fzs, D.fz, fzs_map l]
theorem fz_tup {ds : List D} {l : List PyData} (h : D.fzs ds = some l) : (mkTup ds).fz = some (.tuple l) := by
  unfold mkTup
  split
  · rename_i m e
    rw [unsh_eq e, fzs_map] at h
    cases h
    rfl
  · simp [D.fz, h]
mutual
theorem fzS_ok : ∀ {C C' : List CE} {ν : List D} {s s' : S} {d : D}, satC iv ν C → den ν s = some d → fzS C s = some (s', C') → ∃ μ p, satC iv (ν ++ μ) C' ∧ d.fz = some p ∧ den (ν ++ μ) s' = some (.sh p)
  | C, C', ν, .lit p, s', d, h, g, e => by
    simp only [fzS, Option.some.injEq, Prod.mk.injEq] at e
    obtain ⟨rfl, rfl⟩ := e
    cases g
    exact ⟨[], p, by simpa using h, rfl, rfl⟩
  | C, C', ν, .v n, s', d, h, g, e => by
    unfold fzS at e
    split at e
    · rename_i c ec
      obtain ⟨d', a, b, _⟩ := h.get n c ec
      have g' : ν[n]? = some d := g
      rw [g'] at a; cases a
      split at e
      · rename_i q
        cases e
        obtain ⟨p, rfl⟩ := has_sh b q
        exact ⟨[], p, by simpa using h, rfl, by simpa using g⟩
      · split at e
        · rename_i et
          cases e
          rw [et] at b
          obtain ⟨l, rfl, l1, l2, l3⟩ := (by simpa only [has] using b)
          obtain ⟨μ, x, y⟩ := push_ok h (has_vec (k := .lst) l1 l2 l3)
          exact ⟨μ, .list l, x, by simp [mkQ, D.fz, fzs_map], y⟩
        · cases e
    · cases e
  | C, C', ν, .tup l, s', d, h, g, e => by
    unfold fzS at e
    split at e
    · rename_i l' C2 e2
      cases e
      obtain ⟨ds, a, rfl⟩ := den_tup g
      obtain ⟨μ, m, x, y, z⟩ := fzsS_ok h a e2
      exact ⟨μ, .tuple m, x, fz_tup y, tup_den z⟩
    · cases e
  | C, C', ν, .ls l, s', d, h, g, e => by
    unfold fzS at e
    split at e
    · rename_i l' C2 e2
      cases e
      obtain ⟨ds, a, rfl⟩ := den_ls g
      obtain ⟨μ, m, x, y, z⟩ := fzsS_ok h a e2
      exact ⟨μ, .list m, x, by simp [D.fz, y], by simp only [den, z, unsh_map]⟩
    · cases e
  | C, C', ν, .fl l, s', d, h, g, e => by
    simp only [fzS, Option.some.injEq, Prod.mk.injEq] at e
    obtain ⟨rfl, rfl⟩ := e
    obtain ⟨m, a, rfl⟩ := den_fl g
    exact ⟨[], .list m, by simpa using h, rfl, by simpa using g⟩
theorem fzsS_ok : ∀ {C C' : List CE} {ν : List D} {l l' : List S} {ds : List D}, satC iv ν C → dens ν l = some ds → fzsS C l = some (l', C') → ∃ (μ : List D) (m : List PyData), satC iv (ν ++ μ) C' ∧ D.fzs ds = some m ∧ dens (ν ++ μ) l' = some (m.map .sh)
  | C, C', ν, [], l', ds, h, g, e => by
    simp only [fzsS, Option.some.injEq, Prod.mk.injEq] at e
    obtain ⟨rfl, rfl⟩ := e
    cases g
    exact ⟨[], [], by simpa using h, rfl, rfl⟩
  | C, C', ν, s :: l, l', ds, h, g, e => by
    unfold fzsS at e
    split at e
    · rename_i s2 C1 e1
      split at e
      · rename_i l2 C2 e2
        cases e
        obtain ⟨d, ds', rfl, a, b⟩ := dens_cons g
        obtain ⟨μ, p, x, y, z⟩ := fzS_ok h a e1
        obtain ⟨μ', m, x', y', z'⟩ := fzsS_ok x (dens_app b) e2
        rw [List.append_assoc] at x' z'
        refine ⟨μ ++ μ', p :: m, x', by simp [D.fzs, y, y'], dens_mk ?_ z'⟩
        rw [← List.append_assoc]
        exact den_app z
      · cases e
    · cases e
end
theorem appT_ok {lo hi : Nat} {t u w : T} {l : List PyData} {p : PyData} (h : appT lo hi t u = some w) (l1 : lo ≤ l.length) (l2 : l.length ≤ hi) (l3 : ∀ q ∈ l, has iv.Ω t (.sh q)) (g : has iv.Ω u (.sh p)) : l.length < 1000000 ∧ has iv.Ω w (mkQ .own (l ++ [p])) := by
  unfold appT at h
  split at h
  · refine ⟨by omega, ?_⟩
    split at h
    · cases h
      have : l = [] := List.length_eq_zero_iff.mp (by omega)
      subst this
      exact has_vec (by simp) (by simp) fun q hq => by
        have : q = p := by simpa using hq
        subst this; exact g
    · split at h
      · rename_i w' ew
        cases h
        refine has_vec (by simp; omega) (by simp; omega) fun q hq => ?_
        rcases List.mem_append.mp hq with hq | hq
        · exact joinT_l ew (l3 q hq)
        · have : q = p := by simpa using hq
          subst this
          exact joinT_r ew g
      · cases h
  · cases h
theorem appV_ok {C C' : List CE} {l x l' : S} {d e : D} {t u : T} {lo hi : Nat} {t1 w : T} (H : satC iv ν C) (hl : den ν l = some d) (hx : den ν x = some e) (e1 : tyS C l = some t) (e2 : tyS C x = some u) (e3 : seqT t = some (.own, lo, hi, t1)) (e4 : shT u = true) (e5 : appT lo hi t1 u = some w) :
    ∃ μ ds, d = .ls ds ∧ ds.length < 1000000 ∧ satC iv (ν ++ μ) (push C w).2 ∧ den (ν ++ μ) (push C w).1 = some (.ls (ds ++ [e])) := by
  obtain ⟨d', a, b⟩ := tyS_ok H e1
  rw [hl] at a; cases a
  obtain ⟨e', a', b'⟩ := tyS_ok H e2
  rw [hx] at a'; cases a'
  obtain ⟨m, rfl, l1, l2, l3⟩ := seqT_ok e3 b
  obtain ⟨p, rfl⟩ := has_sh b' e4
  obtain ⟨z1, z2⟩ := appT_ok e5 l1 l2 l3 b'
  obtain ⟨μ, x1, x2⟩ := push_ok H z2
  exact ⟨μ, m.map .sh, rfl, by simpa using z1, x1, by simpa [mkQ] using x2⟩
theorem appS_ok {C C' : List CE} {l x l' : S} {d e : D} (H : satC iv ν C) (hl : den ν l = some d) (hx : den ν x = some e) (h : appS C l x = some (l', C')) : ∃ μ ds, d = .ls ds ∧ ds.length < 1000000 ∧ satC iv (ν ++ μ) C' ∧ den (ν ++ μ) l' = some (.ls (ds ++ [e])) := by
  unfold appS at h
  split at h
  · rename_i l0
    split at h
    · rename_i q
      cases h
      obtain ⟨ds, a, rfl⟩ := den_ls hl
      have := dens_len a
      exact ⟨[], ds, rfl, by omega, by simpa using H, by simp only [List.append_nil, den, dens_append a (dens_mk (l := []) (ds := []) hx rfl)]⟩
    · split at h
      · rename_i t u e1 e2
        split at h
        · rename_i lo hi t1 e3
          split at h
          · rename_i e4
            split at h
            · rename_i w e5
              cases h
              exact appV_ok (C' := C) (l' := x) H hl hx e1 e2 e3 e4 e5
            · cases h
          · cases h
        · cases h
      · cases h
  · split at h
    · rename_i t u e1 e2
      split at h
      · rename_i lo hi t1 e3
        split at h
        · rename_i e4
          split at h
          · rename_i w e5
            cases h
            exact appV_ok (C' := C) (l' := x) H hl hx e1 e2 e3 e4 e5
          · cases h
        · cases h
      · cases h
    · cases h
  · cases h
theorem getLast_ok : ∀ {l : List S} {ds : List D} {x : S}, dens ν l = some ds → l.getLast? = some x → ∃ d, ds.getLast? = some d ∧ den ν x = some d ∧ dens ν l.dropLast = some ds.dropLast
  | [], _, _, _, e => by simp at e
  | [s], ds, x, h, e => by
    obtain ⟨d, rfl, a⟩ := d1 h
    simp at e; subst e
    exact ⟨d, rfl, a, rfl⟩
  | s :: s' :: l, ds, x, h, e => by
    obtain ⟨d, ds', rfl, a, b⟩ := dens_cons h
    obtain ⟨d', ds2, rfl, a', b'⟩ := dens_cons b
    obtain ⟨z, u, v, w⟩ := getLast_ok b (by simpa using e)
    exact ⟨z, by simpa using u, v, dens_mk a (by simpa using w)⟩
theorem erase_ok : ∀ {l : List S} {ds : List D} (j : Nat), dens ν l = some ds → dens ν (l.eraseIdx j) = some (ds.eraseIdx j)
  | [], ds, j, h => by cases h; rfl
  | s :: l, ds, 0, h => by
    obtain ⟨d, ds', rfl, a, b⟩ := dens_cons h
    exact b
  | s :: l, ds, j + 1, h => by
    obtain ⟨d, ds', rfl, a, b⟩ := dens_cons h
    exact dens_mk a (erase_ok j b)
theorem extS_ok {C C' : List CE} {l m l' : S} {d e : D} (H : satC iv ν C) (hl : den ν l = some d) (hm : den ν m = some e) (h : extS C l m = some (l', C')) : ∃ μ ds es, d = .ls ds ∧ e = .ls es ∧ ds.length + es.length ≤ 1000000 ∧ satC iv (ν ++ μ) C' ∧ den (ν ++ μ) l' = some (.ls (ds ++ es)) := by
  unfold extS at h
  split at h
  · rename_i t u e1 e2
    split at h
    · rename_i lo hi t1 lo' hi' t2 e3 e4
      split at h
      · rename_i hz
        split at h
        · rename_i w e5
          cases h
          obtain ⟨d', a, b⟩ := tyS_ok H e1
          rw [hl] at a; cases a
          obtain ⟨e', a', b'⟩ := tyS_ok H e2
          rw [hm] at a'; cases a'
          obtain ⟨x, rfl, l1, l2, _⟩ := seqT_ok e3 b
          obtain ⟨y, rfl, m1, m2, _⟩ := seqT_ok e4 b'
          obtain ⟨z, o, g⟩ := addT_ok e5 b b'
          have hz : x.length + y.length ≤ 1000000 := by omega
          have hs : x.length + y.length ≤ sizeLine := Nat.le_trans hz (by rw [sizeLine_eq]; decide)
          simp only [mkQ, oAdd, unsh_map, decide_eq_true hs, guardO_true, Option.some.injEq] at o
          subst o
          obtain ⟨μ, x1, x2⟩ := push_ok H g
          exact ⟨μ, x.map .sh, y.map .sh, rfl, rfl, by simpa using hz, x1, by rw [← List.map_append]; exact x2⟩
        · cases h
      · cases h
    · cases h
  · cases h
theorem extX_ok {C C' : List CE} {l m l' : S} {d e : D} (H : satC iv ν C) (hl : den ν l = some d) (hm : den ν m = some e) (h : extX C l m = some (l', C')) : ∃ μ ds es, d = .ls ds ∧ e = .ls es ∧ ds.length + es.length ≤ 1000000 ∧ satC iv (ν ++ μ) C' ∧ den (ν ++ μ) l' = some (.ls (ds ++ es)) := by
  unfold extX at h
  split at h
  · split at h
    · rename_i q
      cases h
      obtain ⟨ds, a, rfl⟩ := den_ls hl
      obtain ⟨es, b, rfl⟩ := den_ls hm
      have := dens_len a
      have := dens_len b
      exact ⟨[], ds, es, rfl, rfl, by omega, by simpa using H, by simp only [List.append_nil, den, dens_append a b]⟩
    · cases h
  · exact extS_ok H hl hm h
theorem cntS_ok {C C' : List CE} {l x n : S} {ds : List D} {e : D} (H : satC iv ν C) (hl : den ν l = some (.ls ds)) (hx : den ν x = some e) (h : cntS C l x = some (n, C')) : ∃ μ r, mo .cnt ds [e] = some (ds, r) ∧ satC iv (ν ++ μ) C' ∧ den (ν ++ μ) l = some (.ls ds) ∧ den (ν ++ μ) n = some r := by
  unfold cntS at h
  split at h
  · rename_i t u e1 e2
    split at h
    · rename_i lo hi t1 a a2 b b2 e3 e4 e5
      split at h
      · rename_i q
        simp only [Bool.and_eq_true, decide_eq_true_eq] at q
        cases h
        obtain ⟨d', x1, y1⟩ := tyS_ok H e1
        rw [hl] at x1; cases x1
        obtain ⟨e', x2, y2⟩ := tyS_ok H e2
        rw [hx] at x2; cases x2
        obtain ⟨m, em, l1, l2, _⟩ := seqT_ok e3 y1
        have em : ds = m.map .sh := by simpa [mkQ] using em
        subst em
        obtain ⟨p, rfl⟩ := has_sh y2 q.2
        obtain ⟨p', w1, g1⟩ := has_dm y1 e4
        obtain ⟨p2, w2, g2⟩ := has_dm y2 e5
        cases w2
        simp only [D.py, pys_map, Option.some.injEq] at w1
        subst w1
        have s1 := g1.shaped (by omega)
        have s2 := g2.shaped (by omega)
        have hc : m.countP (fun y => PyData.eqv y p) ≤ m.length := List.countP_le_length
        obtain ⟨μ, z1, z2⟩ := push_ok H (has_mkI (Ω := iv.Ω) (lo := 0) (hi := hi) (i := (m.countP (fun y => PyData.eqv y p) : Nat)) (by omega) (by omega))
        refine ⟨μ, _, ?_, z1, den_app hl, z2⟩
        simp only [mo, moCnt, unsh_map, s1, s2, Bool.and_self, if_true]
      · cases h
    · cases h
  · cases h
theorem moS_ok {C C' : List CE} {m : Mo} {l l' x : S} {as : List S} {ds es : List D} (H : satC iv ν C) (hl : den ν l = some (.ls ds)) (ha : dens ν as = some es) (h : moS C m l as = some (l', x, C')) : ∃ μ ds' r, mo m ds es = some (ds', r) ∧ satC iv (ν ++ μ) C' ∧ den (ν ++ μ) l' = some (.ls ds') ∧ den (ν ++ μ) x = some r := by
  unfold moS at h
  split at h
  · split at h
    · split at h
      · rename_i e
        cases h
        obtain ⟨d, rfl, a⟩ := d1 ha
        obtain ⟨μ, ds', e1, e2, e3, e4⟩ := appS_ok H hl a e
        cases e1
        exact ⟨μ, _, _, by simp only [mo, moAppend, if_pos e2], e3, e4, rfl⟩
      · cases h
    · cases h
  · split at h
    · split at h
      · rename_i e
        cases h
        obtain ⟨d, rfl, a⟩ := d1 ha
        obtain ⟨μ, ds', es', e1, e2, e3, e4, e5⟩ := extX_ok H hl a e
        cases e1
        subst e2
        exact ⟨μ, _, _, by simp only [mo, moExtend, if_pos e3], e4, e5, rfl⟩
      · cases h
    · cases h
  · split at h
    · split at h
      · split at h
        · rename_i e
          cases h
          cases ha
          obtain ⟨ds3, a3, e3⟩ := den_ls hl
          cases e3
          obtain ⟨d, u, v, w⟩ := getLast_ok a3 e
          exact ⟨[], _, _, by simp only [mo, moPop, u]; rfl, by simpa using H, by simp only [List.append_nil, den, w], by simpa using v⟩
        · cases h
      · cases h
    · cases h
  · split at h
    · split at h
      · split at h
        · rename_i j ej
          split at h
          · rename_i x' ex
            split at h
            · rename_i q
              cases h
              obtain ⟨d, rfl, a⟩ := d1 ha
              cases a
              obtain ⟨ds3, a3, e3⟩ := den_ls hl
              cases e3
              have hl := dens_len a3
              obtain ⟨d, u, v⟩ := dens_get a3 ex
              exact ⟨[], _, _, by simp only [mo, moPopAt, hl, ej, u, if_pos q]; rfl, by simpa using H, by simp only [List.append_nil, den, erase_ok j a3], by simpa using v⟩
            · cases h
          · cases h
        · cases h
      · cases h
    · cases h
  · cases h
  · split at h
    · split at h
      · rename_i e
        cases h
        obtain ⟨d, rfl, a⟩ := d1 ha
        obtain ⟨μ, r, e1, e2, e3, e4⟩ := cntS_ok H hl a e
        exact ⟨μ, ds, r, e1, e2, e3, e4⟩
      · cases h
    · cases h
  · cases h
end
end Ab
/-! X10: calls, what is walked, comprehensions. -/
namespace Ab
open PySem PySem.Spec L2
open Vs hiding Env
open PyProof.Rows hiding St
variable {iv : Iv} {ν μ : List D}
def callK (dn : Den) (ks : List Str) (π : List Nat) (q : List Ov × Vs.Env) : Res (D × Vs.Env) := match arr ks π q.1 with
  | some os => match argD dn.io os q.2 with
    | some (ds, ρ1) => match dn.m ds with
      | .ok r outs => match backD dn.io os outs ρ1 with
        | some ρ2 => .ok (r, ρ2)
        | none => .no
      | .ex x outs => match backD dn.io os outs ρ1 with
        | some ρ2 => .ex x ρ2
        | none => .no
      | .no => .no
    | none => .no
  | none => .no
theorem callD_eq {dn : Den} {ks : List Str} {ops : List Sop} {π : List Nat} {ρ : Vs.Env} : callD dn ks ops π ρ = (runO ops ρ).bind (callK dn ks π) := rfl
def relO1 (ν : List D) : Od → Ov → Prop
  | .s s, .d d => den ν s = some d
  | .v i, .v j => i = j
  | _, _ => False
theorem relO_cons {o : Od} {l : List Od} {os : List Ov} (h : relO ν (o :: l) os) : ∃ ov os', os = ov :: os' ∧ relO1 ν o ov ∧ relO ν l os' := by
  cases os with
  | nil => cases o <;> exact h.elim
  | cons ov os =>
    cases o <;> cases ov <;> first | exact ⟨_, _, rfl, h.1, h.2⟩ | exact h.elim
theorem relO_mk {o : Od} {l : List Od} {ov : Ov} {os : List Ov} (h : relO1 ν o ov) (g : relO ν l os) : relO ν (o :: l) (ov :: os) := by
  cases o <;> cases ov <;> first | exact ⟨h, g⟩ | exact h.elim
theorem relO_append : ∀ {l m : List Od} {os ps : List Ov}, relO ν l os → relO ν m ps → relO ν (l ++ m) (os ++ ps)
  | [], m, os, ps, h, g => by
    cases os with
    | nil => exact g
    | cons _ _ => exact h.elim
  | o :: l, m, os, ps, h, g => by
    obtain ⟨ov, os', rfl, a, b⟩ := relO_cons h
    exact relO_mk a (relO_append b g)
theorem relO_get : ∀ {l : List Od} {os : List Ov} {j : Nat} {o : Od}, relO ν l os → l[j]? = some o → ∃ ov, os[j]? = some ov ∧ relO1 ν o ov
  | o :: l, os, 0, _, h, e => by
    obtain ⟨ov, os', rfl, a, b⟩ := relO_cons h
    simp at e; subst e
    exact ⟨ov, rfl, a⟩
  | o :: l, os, j + 1, _, h, e => by
    obtain ⟨ov, os', rfl, a, b⟩ := relO_cons h
    exact relO_get (j := j) b (by simpa using e)
  | [], _, _, _, _, e => by simp at e
theorem perm_ok : ∀ {π : List Nat} {l l' : List Od} {os : List Ov}, relO ν l os → perm π l = some l' → ∃ os', perm π os = some os' ∧ relO ν l' os'
  | [], l, l', os, _, e => by
    simp only [perm, Option.some.injEq] at e
    subst e
    exact ⟨[], rfl, trivial⟩
  | j :: π, l, l', os, h, e => by
    unfold perm at e
    split at e
    · rename_i o r e1 e2
      cases e
      obtain ⟨ov, a, b⟩ := relO_get h e1
      obtain ⟨os', c, d⟩ := perm_ok h e2
      exact ⟨ov :: os', by simp only [perm, a, c], relO_mk b d⟩
    · cases e
theorem isSh_ok {C : List CE} (H : satC iv ν C) : ∀ {l : List Od} {os : List Ov}, relO ν l os → l.all (isShA C) = true → os.all Ov.isSh = true
  | [], os, h, _ => by
    cases os with
    | nil => rfl
    | cons _ _ => exact h.elim
  | o :: l, os, h, e => by
    obtain ⟨ov, os', rfl, a, b⟩ := relO_cons h
    simp only [List.all_cons, Bool.and_eq_true] at e ⊢
    refine ⟨?_, isSh_ok H b e.2⟩
    cases o with
    | s s =>
      cases ov with
      | d d =>
        have e1 := e.1
        cases et : tyS C s with
        | none => simp only [isShA, et] at e1; cases e1
        | some t =>
          simp only [isShA, et] at e1
          obtain ⟨d', x, y⟩ := tyS_ok H et
          have a : den ν s = some d := a
          rw [a] at x; cases x
          obtain ⟨p, rfl⟩ := has_sh y e1
          rfl
      | v _ => exact a.elim
      | p _ _ _ => exact a.elim
    | v i =>
      cases ov with
      | v _ => rfl
      | d _ => exact a.elim
      | p _ _ _ => exact a.elim
theorem arrA_ok {C : List CE} {ks : List Str} {π : List Nat} {l l' : List Od} {os : List Ov} (H : satC iv ν C) (h : relO ν l os) (e : arrA C ks π l = some l') : ∃ os', arr ks π os = some os' ∧ relO ν l' os' := by
  cases ks with
  | nil =>
    cases e
    exact ⟨os, rfl, h⟩
  | cons k ks =>
    have e : (if l.all (isShA C) = true then perm π l else none) = some l' := e
    split at e
    · rename_i q
      obtain ⟨os', a, b⟩ := perm_ok h e
      exact ⟨os', by simp only [arr, isSh_ok H h q, if_true, a], b⟩
    · cases e
theorem argA_ok {C : List CE} (H : satC iv ν C) : ∀ {io : List Bool} {l : List Od} {os : List Ov} {A A' : List Sl} {ρ : Vs.Env} {ts : List T} {ss : List S}, satA ν A ρ → relO ν l os → argA C io l A = some (ts, ss, A') → ∃ ds ρ', argD io os ρ = some (ds, ρ') ∧ hasL iv.Ω ts ds ∧ dens ν ss = some ds ∧ satA ν A' ρ'
  | [], [], os, A, A', ρ, ts, ss, hA, h, e => by
    simp only [argA, Option.some.injEq, Prod.mk.injEq] at e
    obtain ⟨rfl, rfl, rfl⟩ := e
    cases os with
    | nil => exact ⟨[], ρ, rfl, trivial, rfl, hA⟩
    | cons _ _ => exact h.elim
  | false :: io, .s s :: l, os, A, A', ρ, ts, ss, hA, h, e => by
    obtain ⟨ov, os', rfl, a, b⟩ := relO_cons h
    unfold argA at e
    split at e
    · rename_i t ts' ss' A2 e1 e2
      cases e
      obtain ⟨ds, ρ', x, y, z, w⟩ := argA_ok H hA b e2
      obtain ⟨d', u, v⟩ := tyS_ok H e1
      cases ov with
      | d d =>
        have a : den ν s = some d := a
        rw [a] at u; cases u
        exact ⟨_ :: ds, ρ', by simp only [argD_f, x], by unfold hasL; exact ⟨v, y⟩, dens_mk a z, w⟩
      | v _ => exact a.elim
      | p _ _ _ => exact a.elim
    · cases e
  | true :: io, .v i :: l, os, A, A', ρ, ts, ss, hA, h, e => by
    obtain ⟨ov, os', rfl, a, b⟩ := relO_cons h
    unfold argA at e
    split at e
    · rename_i s es
      split at e
      · rename_i t ts' ss' A2 e1 e2
        cases e
        obtain ⟨d, m1, m2⟩ := hA.val es
        obtain ⟨ds, ρ', x, y, z, w⟩ := argA_ok H (hA.set (a := .un) (x := none) i rfl) b e2
        obtain ⟨d', u, v⟩ := tyS_ok H e1
        rw [m2] at u; cases u
        cases ov with
        | v j =>
          have a : i = j := a
          subst a
          exact ⟨d :: ds, ρ', by simp only [argD_t, m1, x], by unfold hasL; exact ⟨v, y⟩, dens_mk m2 z, w⟩
        | d _ => exact a.elim
        | p _ _ _ => exact a.elim
      · cases e
    · cases e
  | [], _ :: _, _, _, _, _, _, _, _, _, e => by simp [argA] at e
  | _ :: _, [], _, _, _, _, _, _, _, _, e => by simp [argA] at e
  | true :: _, .s _ :: _, _, _, _, _, _, _, _, _, e => by simp [argA] at e
  | false :: _, .v _ :: _, _, _, _, _, _, _, _, _, e => by simp [argA] at e
theorem backA_ok : ∀ {io : List Bool} {l : List Od} {os : List Ov} {A A' : List Sl} {ρ : Vs.Env} {ss : List S} {ds : List D}, satA ν A ρ → relO ν l os → dens ν ss = some ds → backA io l ss A = some A' → ∃ ρ', backD io os ds ρ = some ρ' ∧ satA ν A' ρ'
  | [], [], os, A, A', ρ, ss, ds, hA, h, g, e => by
    cases ss with
    | nil =>
      simp only [backA, Option.some.injEq] at e
      subst e
      cases g
      cases os with
      | nil => exact ⟨ρ, rfl, hA⟩
      | cons _ _ => exact h.elim
    | cons _ _ => simp [backA] at e
  | false :: io, o :: l, os, A, A', ρ, ss, ds, hA, h, g, e => by
    obtain ⟨ov, os', rfl, a, b⟩ := relO_cons h
    have e : backA io l ss A = some A' := by unfold backA at e; exact e
    obtain ⟨ρ', x, y⟩ := backA_ok hA b g e
    exact ⟨ρ', by rw [backD_f]; exact x, y⟩
  | true :: io, .v i :: l, os, A, A', ρ, ss, ds, hA, h, g, e => by
    obtain ⟨ov, os', rfl, a, b⟩ := relO_cons h
    cases ss with
    | nil => simp [backA] at e
    | cons s ss =>
      obtain ⟨d, ds', rfl, g1, g2⟩ := dens_cons g
      unfold backA at e
      split at e
      · rename_i eu
        obtain ⟨ρ', x, y⟩ := backA_ok (hA.set (a := .val s) (x := some d) i ⟨d, rfl, g1⟩) b g2 e
        cases ov with
        | v j =>
          have a : i = j := a
          subst a
          exact ⟨ρ', by simp only [backD_t, hA.un eu, x], y⟩
        | d _ => exact a.elim
        | p _ _ _ => exact a.elim
      · cases e
  | [], _ :: _, _, _, _, _, _, _, _, _, _, e => by simp [backA] at e
  | _ :: _, [], _, _, _, _, ss, _, _, _, _, e => by cases ss <;> simp [backA] at e
  | true :: _, .s _ :: _, _, _, _, _, ss, _, _, _, _, e => by cases ss <;> simp [backA] at e
theorem xcall_ok {E : Cfg} {Γ : Gam} (TB : TabOk iv E Γ) {f : Str} {ks : List Str} {π : List Nat} {l : List Od} {os : List Ov} {st : Stt} {ρ : Vs.Env} {out : List (S × Stt)} (H : Sat iv ν ρ st) (h : relO ν l os) (e : xcall E f ks π l st = some out) :
    ∃ dn, Γ.fn f = some dn ∧ PostG iv ν out relE (callK dn ks π (os, ρ)) := by
  unfold xcall at e
  split at e
  · cases e
  · rename_i sp esp
    obtain ⟨dn, hf, hio, hsp⟩ := TB.fs f sp esp
    refine ⟨dn, hf, ?_⟩
    split at e
    · cases e
    · rename_i l' el
      obtain ⟨os', e1, r1⟩ := arrA_ok H.C h el
      split at e
      · cases e
      · rename_i ts ss A1 ea
        obtain ⟨ds, ρ1, x1, x2, x3, x4⟩ := argA_ok H.C H.A r1 ea
        rw [hio] at x1
        split at e
        · cases e
        · rename_i rs er
          obtain ⟨r, mr, d, outs, y1, y2, y3, y4⟩ := hsp ts rs ds er x2
          split at e
          · rename_i id hid
            obtain ⟨rfl, y5⟩ := y4 id hid
            split at e
            · rename_i r0
              have : r = r0 := by simpa using mr
              subst this
              split at e
              · rename_i A2 eb
                cases e
                obtain ⟨ρ2, z1, z2⟩ := backA_ok x4 r1 (ss := []) (ds := []) rfl eb
                rw [hio] at z1
                obtain ⟨μ, w1, w2⟩ := pushF_ok H.C x3 (f := .id id) y5 y2
                refine ⟨_, _, μ, d, ρ2, List.mem_singleton.mpr rfl, ?_, ⟨w1, z2.app⟩, w2⟩
                simp only [callK, e1, x1, y1, z1]
              · cases e
            · cases e
          · obtain ⟨u, mu, hu⟩ := altsT_ok y2
            obtain ⟨x, ex, sx⟩ := bnd_ok e (a := (u, r.2)) (List.mem_flatMap.mpr ⟨r, mr, List.mem_map_of_mem mu⟩)
            dsimp only at ex
            split at ex
            · rename_i s so eo
              split at ex
              · rename_i A2 eb
                cases ex
                have hh : hasL iv.Ω (u :: r.2) (d :: outs) := by unfold hasL; exact ⟨hu, y3⟩
                obtain ⟨μ, w1, w2⟩ := opns_ok (n := st.C.length) hh
                have w2 := w2 ν H.C.len
                rw [eo] at w2
                obtain ⟨d', outs', q, v1, v2⟩ := dens_cons w2
                cases q
                obtain ⟨ρ2, z1, z2⟩ := backA_ok (x4.app (μ := μ)) r1.app v2 eb
                rw [hio] at z1
                refine ⟨_, _, μ, d, ρ2, sx _ (List.mem_singleton.mpr rfl), ?_, ⟨H.C.app w1, z2⟩, v1⟩
                simp only [callK, e1, x1, y1, z1]
              · cases ex
            · cases ex
/-! ### what is walked -/
def ElsOk (iv : Iv) (ν : List D) (els : Els) (qs : List PyData) : Prop := match els with
  | .ex lo es => lo ≤ qs.length ∧ qs.length ≤ es.length ∧ ∀ (i : Nat) (q : PyData), qs[i]? = some q → ∃ e, es[i]? = some e ∧ den ν e = some (.sh q)
  | .un lo hi t => lo ≤ qs.length ∧ qs.length ≤ hi ∧ ∀ q ∈ qs, has iv.Ω t (.sh q)
theorem exact_els {l : List S} {m : List PyData} (h : dens ν l = some (m.map .sh)) : ElsOk iv ν (.ex l.length l) m := by
  have e := dens_len h
  rw [List.length_map] at e
  refine ⟨by omega, by omega, fun i q hq => ?_⟩
  have hi : i < l.length := by
    have := (List.getElem?_eq_some_iff.mp hq).1
    omega
  have el := List.getElem?_eq_getElem hi
  obtain ⟨d, a, b⟩ := dens_get h el
  rw [List.getElem?_map, hq] at a
  cases a
  exact ⟨_, el, b⟩
def kS : QK → SK
  | .tup => .tup
  | _ => .lst
theorem seqE_ok {C : List CE} {s : S} {d : D} {k : QK} {els : Els} (H : satC iv ν C) (h : den ν s = some d) (e : seqE C s = some (k, els)) : ∃ m, d.seq = some (kS k, m) ∧ ElsOk iv ν els m := by
  unfold seqE at e
  split at e
  · split at e
    · rename_i q
      cases e
      obtain ⟨ds, a, rfl⟩ := den_tup h
      obtain ⟨m, rfl⟩ := shL_ok H a q
      exact ⟨m, by rw [mkTup_map]; rfl, exact_els a⟩
    · cases e
  · split at e
    · rename_i q
      cases e
      obtain ⟨ds, a, rfl⟩ := den_ls h
      obtain ⟨m, rfl⟩ := shL_ok H a q
      exact ⟨m, by simp [D.seq, kS], exact_els a⟩
    · cases e
  · cases e
    obtain ⟨m, a, rfl⟩ := den_fl h
    exact ⟨m, rfl, exact_els a⟩
  · split at e
    · rename_i t et
      split at e
      · rename_i e2
        cases e
        obtain ⟨d', a, b⟩ := tyS_ok H et
        rw [h] at a; cases a
        obtain ⟨l, rfl, l1, l2, l3⟩ := seqT_ok e2 b
        refine ⟨l, ?_, l1, l2, l3⟩
        rw [mkQ_seq]
        cases k <;> rfl
      · cases e
    · cases e
theorem intsS_get {a : Int} {n i : Nat} (h : i < n) : (intsS a n)[i]? = some (.lit (.int (a + (i : Nat)))) := by
  unfold intsS
  simp [h]
theorem rngD_ex {a : Int} {n lo N : Nat} (h1 : lo ≤ n) (h2 : n ≤ N) : ElsOk iv ν (.ex lo (intsS a N)) (rngD a n) := by
  refine ⟨by rw [rng_len]; exact h1, by rw [rng_len]; simp [intsS]; exact h2, fun i q hq => ?_⟩
  have hi : i < n := by
    have := (List.getElem?_eq_some_iff.mp hq).1
    rwa [rng_len] at this
  rw [rng_get hi] at hq
  cases hq
  exact ⟨_, intsS_get (by omega), rfl⟩
theorem rngD_un {a lo' hi' : Int} {n lo hi : Nat} (h1 : lo ≤ n) (h2 : n ≤ hi) (h3 : lo' ≤ a) (h4 : a + n ≤ hi' + 1) : ElsOk iv ν (.un lo hi (.int lo' hi')) (rngD a n) := by
  refine ⟨by rw [rng_len]; exact h1, by rw [rng_len]; exact h2, fun q hq => ?_⟩
  obtain ⟨i, hi, e⟩ := List.getElem_of_mem hq
  rw [rng_len] at hi
  have := rng_get (lo := a) hi
  rw [List.getElem?_eq_getElem (by rw [rng_len]; exact hi), e] at this
  cases this
  unfold has
  exact ⟨_, rfl, by omega, by omega⟩
theorem enumS_get : ∀ {l : List S} {i : Int} {k : Nat} {s : S}, l[k]? = some s → (enumS i l)[k]? = some (.tup [.lit (.int (i + (k : Nat))), s])
  | _ :: l, i, 0, _, h => by simp at h; subst h; simp [enumS]
  | _ :: l, i, k + 1, s, h => by
    have := enumS_get (l := l) (i := i + 1) (k := k) (by simpa using h)
    simp only [enumS, List.getElem?_cons_succ, this]
    rw [show i + 1 + (k : Int) = i + ((k + 1 : Nat) : Int) by omega]
  | [], _, _, _, h => by simp at h
theorem enumS_len : ∀ {l : List S} {i : Int}, (enumS i l).length = l.length
  | [], _ => rfl
  | _ :: l, _ => congrArg (· + 1) enumS_len
theorem den_pair {a b : S} {p q : PyData} (h : den ν a = some (.sh p)) (g : den ν b = some (.sh q)) : den ν (.tup [a, b]) = some (.sh (.tuple [p, q])) := tup_den (m := [p, q]) (dens_mk h (dens_mk g rfl))
theorem zipS_get : ∀ {l m : List S} {k : Nat} {a b : S}, l[k]? = some a → m[k]? = some b → (zipS l m)[k]? = some (.tup [a, b])
  | _ :: l, _ :: m, 0, _, _, h, g => by simp at h g; subst h g; simp [zipS]
  | _ :: l, _ :: m, k + 1, a, b, h, g => by
    have := zipS_get (l := l) (m := m) (k := k) (by simpa using h) (by simpa using g)
    simpa only [zipS, List.getElem?_cons_succ] using this
  | [], _, _, _, _, h, _ => by simp at h
  | _ :: _, [], _, _, _, _, g => by simp at g
theorem zipS_len : ∀ {l m : List S}, (zipS l m).length = min l.length m.length
  | [], _ => by simp [zipS]
  | _ :: _, [] => by simp [zipS]
  | _ :: l, _ :: m => by
    have := zipS_len (l := l) (m := m)
    simp only [zipS, List.length_cons]
    omega
theorem zipD_at : ∀ {l m : List PyData} {k : Nat} {x : PyData}, (zipD l m)[k]? = some x → ∃ a b, l[k]? = some a ∧ m[k]? = some b ∧ x = .tuple [a, b]
  | a :: l, b :: m, 0, x, h => by simp [zipD] at h; subst h; exact ⟨a, b, rfl, rfl, rfl⟩
  | a :: l, b :: m, k + 1, x, h => by
    obtain ⟨a', b', h1, h2, h3⟩ := zipD_at (l := l) (m := m) (k := k) (by simpa [zipD] using h)
    exact ⟨a', b', by simpa using h1, by simpa using h2, h3⟩
  | [], _, _, _, h => by simp [zipD] at h
  | _ :: _, [], _, _, h => by simp [zipD] at h
theorem elems_ok {C : List CE} {k : ItK} {ss : List S} {ds : List D} {els : Els} (H : satC iv ν C) (h : dens ν ss = some ds) (e : elems C k ss = some els) : ∃ qs, itF k ds = some qs ∧ ElsOk iv ν els qs := by
  unfold elems at e
  cases k with
  | seq =>
    dsimp only at e
    split at e
    · obtain ⟨d, rfl, a⟩ := d1 h
      split at e
      · rename_i e1
        cases e
        obtain ⟨m, x, y⟩ := seqE_ok H a e1
        exact ⟨m, by simp only [itF, x], y⟩
      · cases e
    · cases e
  | rng =>
    dsimp only at e
    split at e
    · obtain ⟨d, rfl, a⟩ := d1 h
      split at e
      · rename_i t et
        obtain ⟨d', u, v⟩ := tyS_ok H et
        rw [a] at u; cases u
        split at e
        · rename_i x y er
          obtain ⟨i, rfl, i1, i2⟩ := rng_ok v er
          split at e
          · rename_i q
            have f : itF .rng [.sh (.int i)] = some (rngD 0 i.toNat) := by rw [itF_rngI, if_pos ⟨by omega, by omega⟩]
            refine ⟨_, f, ?_⟩
            split at e
            · cases e
              exact rngD_ex (by omega) (by omega)
            · cases e
              by_cases h0 : 0 ≤ i
              · exact rngD_un (by omega) (by omega) (by omega) (by omega)
              · have : i.toNat = 0 := by omega
                rw [this]
                exact ⟨by simp [rngD]; omega, by simp [rngD], fun q hq => by simp [rngD] at hq⟩
          · cases e
        · cases e
      · cases e
    · cases e
  | rng2 =>
    dsimp only at e
    split at e
    · obtain ⟨d, d', rfl, a, b⟩ := d2 h
      split at e
      · rename_i t u et eu
        obtain ⟨d', u1, v1⟩ := tyS_ok H et
        rw [a] at u1; cases u1
        obtain ⟨d', u2, v2⟩ := tyS_ok H eu
        rw [b] at u2; cases u2
        split at e
        · rename_i x y z w er es
          obtain ⟨i, rfl, i1, i2⟩ := rng_ok v1 er
          obtain ⟨j, rfl, j1, j2⟩ := rng_ok v2 es
          split at e
          · rename_i q
            have f : itF .rng2 [.sh (.int i), .sh (.int j)] = some (rngD i (j - i).toNat) := by
              show (if (i < 16777216 ∧ -16777216 < i) ∧ (j < 16777216 ∧ -16777216 < j) then some (rngD i (j - i).toNat) else none) = _
              rw [if_pos ⟨⟨by omega, by omega⟩, by omega, by omega⟩]
            refine ⟨_, f, ?_⟩
            split at e
            · rename_i q2
              cases e
              have : x = i := by omega
              subst this
              exact rngD_ex (by omega) (by omega)
            · cases e
              by_cases h0 : i ≤ j
              · exact rngD_un (by omega) (by omega) (by omega) (by omega)
              · have : (j - i).toNat = 0 := by omega
                rw [this]
                exact ⟨by simp [rngD]; omega, by simp [rngD], fun q hq => by simp [rngD] at hq⟩
          · cases e
        · cases e
      · cases e
    · cases e
  | rev =>
    dsimp only at e
    split at e
    · obtain ⟨d, rfl, a⟩ := d1 h
      split at e
      · rename_i e1
        split at e
        · rename_i eq
          cases e
          obtain ⟨m, x, y1, y2, y3⟩ := seqE_ok H a e1
          refine ⟨m.reverse, by simp only [itF, x], by rw [List.length_reverse]; exact y1, by rw [List.length_reverse, List.length_reverse]; exact y2, fun i q hq => ?_⟩
          have hi : i < m.length := by
            have := (List.getElem?_eq_some_iff.mp hq).1
            rwa [List.length_reverse] at this
          rw [List.getElem?_reverse hi] at hq
          obtain ⟨s, s1, s2⟩ := y3 _ q hq
          rename_i lo es
          have : es.length = m.length := by omega
          refine ⟨s, ?_, s2⟩
          rw [List.getElem?_reverse (by omega), this]
          exact s1
        · cases e
      · cases e
        rename_i e1
        obtain ⟨m, x, y1, y2, y3⟩ := seqE_ok H a e1
        exact ⟨m.reverse, by simp only [itF, x], by rw [List.length_reverse]; exact y1, by rw [List.length_reverse]; exact y2, fun q hq => y3 q (List.mem_reverse.mp hq)⟩
      · cases e
    · cases e
  | enum =>
    dsimp only at e
    split at e
    · obtain ⟨d, rfl, a⟩ := d1 h
      split at e
      · rename_i e1
        cases e
        obtain ⟨m, x, y1, y2, y3⟩ := seqE_ok H a e1
        refine ⟨enumD 0 m, by simp only [itF, x], by rw [enum_len]; exact y1, by rw [enum_len, enumS_len]; exact y2, fun i q hq => ?_⟩
        have hi : i < m.length := by
          have := (List.getElem?_eq_some_iff.mp hq).1
          rwa [enum_len] at this
        rw [enum_get (List.getElem?_eq_getElem hi)] at hq
        cases hq
        obtain ⟨s, s1, s2⟩ := y3 i m[i] (List.getElem?_eq_getElem hi)
        exact ⟨_, enumS_get s1, den_pair rfl s2⟩
      · rename_i e1
        cases e
        obtain ⟨m, x, y1, y2, y3⟩ := seqE_ok H a e1
        refine ⟨enumD 0 m, by simp only [itF, x], by rw [enum_len]; exact y1, by rw [enum_len]; exact y2, fun q hq => ?_⟩
        obtain ⟨i, hi, e⟩ := List.getElem_of_mem hq
        rw [enum_len] at hi
        have := enum_get (i := 0) (List.getElem?_eq_getElem hi)
        rw [List.getElem?_eq_getElem (by rw [enum_len]; exact hi), e] at this
        cases this
        unfold has
        refine ⟨[.sh (.int (0 + (i : Nat))), .sh m[i]], (mkTup_map [.int (0 + (i : Nat)), m[i]]).symm, ?_⟩
        unfold hasL
        refine ⟨?_, hasL_one (y3 _ (List.getElem_mem hi))⟩
        unfold has
        exact ⟨_, rfl, by omega, by omega⟩
      · cases e
    · cases e
  | zip =>
    dsimp only at e
    split at e
    · obtain ⟨d, d', rfl, a, b⟩ := d2 h
      have kk : ∀ {k k' : QK}, (k = .tup) = (k' = .tup) → kS k = kS k' := by
        intro k k' h
        cases k <;> cases k' <;> simp_all [kS]
      have f : ∀ {k k' : QK} {m m' : List PyData}, (k = .tup) = (k' = .tup) → d.seq = some (kS k, m) → d'.seq = some (kS k', m') → itF .zip [d, d'] = some (zipD m m') := by
        intro k k' m m' h1 h2 h3
        rw [← kk h1] at h3
        simp only [itF, h2, h3]
        cases k <;> rfl
      split at e
      · rename_i e1 e2
        split at e
        · rename_i q
          cases e
          obtain ⟨m, x, y1, y2, y3⟩ := seqE_ok H a e1
          obtain ⟨m', x', y1', y2', y3'⟩ := seqE_ok H b e2
          refine ⟨_, f q.1 x x', by rw [zip_len]; omega, by rw [zip_len, zipS_len]; omega, fun i q hq => ?_⟩
          obtain ⟨p1, p2, h1, h2, rfl⟩ := zipD_at hq
          obtain ⟨s, s1, s2⟩ := y3 i p1 h1
          obtain ⟨s', s1', s2'⟩ := y3' i p2 h2
          exact ⟨_, zipS_get s1 s1', den_pair s2 s2'⟩
        · cases e
      · rename_i e1 e2
        split at e
        · rename_i q
          cases e
          obtain ⟨m, x, y1, y2, y3⟩ := seqE_ok H a e1
          obtain ⟨m', x', y1', y2', y3'⟩ := seqE_ok H b e2
          refine ⟨_, f q x x', by rw [zip_len]; omega, by rw [zip_len]; omega, fun z hz => ?_⟩
          obtain ⟨i, hi, ez⟩ := List.getElem_of_mem hz
          have hq := List.getElem?_eq_getElem hi
          rw [ez] at hq
          obtain ⟨p1, p2, h1, h2, rfl⟩ := zipD_at hq
          unfold has
          refine ⟨[.sh p1, .sh p2], (mkTup_map [p1, p2]).symm, ?_⟩
          unfold hasL
          exact ⟨y3 _ (List.mem_of_getElem? h1), hasL_one (y3' _ (List.mem_of_getElem? h2))⟩
        · cases e
      · cases e
    · cases e
/-! ### targets -/
theorem satA.lt {A : List Sl} {ρ : Vs.Env} {i : Nat} (h : satA ν A ρ) (q : i < A.length) : i < ρ.length := by rw [h.len]; exact q
theorem setAllA_ok : ∀ {is : List Nat} {ss : List S} {A A' : List Sl} {ρ : Vs.Env} {ds : List D}, satA ν A ρ → dens ν ss = some ds → setAllA is ss A = some A' → ∃ ρ', setAll [] is ds ρ = some ρ' ∧ satA ν A' ρ'
  | [], ss, A, A', ρ, ds, h, g, e => by
    cases ss with
    | nil =>
      simp only [setAllA, Option.some.injEq] at e
      subst e
      cases g
      exact ⟨ρ, rfl, h⟩
    | cons _ _ => simp [setAllA] at e
  | i :: is, ss, A, A', ρ, ds, h, g, e => by
    cases ss with
    | nil => simp [setAllA] at e
    | cons s ss =>
      obtain ⟨d, ds', rfl, a, b⟩ := dens_cons g
      unfold setAllA at e
      split at e
      · rename_i q
        obtain ⟨ρ', x, y⟩ := setAllA_ok (h.set (a := .val s) (x := some d) i ⟨d, rfl, a⟩) b e
        exact ⟨ρ', by rw [setAll_cons, if_pos (h.lt q)]; exact x, y⟩
      · cases e
theorem bind_mk {is : List Nat} {ds : List D} {ρ : Vs.Env} : bindT [] (.tp is) (mkTup ds) ρ = setAll [] is ds ρ := by
  unfold mkTup
  split
  · rename_i l e
    rw [bindT_tps, unsh_eq e]
  · rfl
theorem bindA_ok {t : Tg} {s : S} {st st' : Stt} {ρ : Vs.Env} {d : D} (h : Sat iv ν ρ st) (g : den ν s = some d) (e : bindA t s st = some st') : ∃ μ ρ', bindT [] t d ρ = some ρ' ∧ Sat iv (ν ++ μ) ρ' st' := by
  unfold bindA at e
  cases t with
  | nm i =>
    dsimp only at e
    split at e
    · rename_i q
      cases e
      exact ⟨[], ρ.set i (some d), by rw [bindT_nm, if_pos (h.A.lt q)], by simpa using h.C, by simpa using h.A.set (a := .val s) (x := some d) i ⟨d, rfl, g⟩⟩
    · cases e
  | tp is =>
    dsimp only at e
    obtain ⟨μ, a, b⟩ := expS_ok h.C g
    split at e
    · rename_i l el
      rw [el] at b
      obtain ⟨ds, x, rfl⟩ := den_tup b
      split at e
      · rename_i A eA
        cases e
        obtain ⟨ρ', y, z⟩ := setAllA_ok h.A.app x eA
        exact ⟨μ, ρ', by rw [bind_mk]; exact y, a, z⟩
      · cases e
    · cases e
theorem wipeA_ok : ∀ {own : List Nat} {A : List Sl} {ρ : Vs.Env}, satA ν A ρ → satA ν (wipeA A own) (wipeE ρ own)
  | [], _, _, h => h
  | i :: is, A, ρ, h => (wipeA_ok (own := is) h).set (a := .un) (x := none) i rfl
theorem unlA_ok : ∀ {l : List (S × Option Nat)} {os : List Ov} {A A' : List Sl} {ρ : Vs.Env}, satA ν A ρ → relL ν l os → unlA l A = some A' → ∃ ρ', unlock os ρ = some ρ' ∧ satA ν A' ρ'
  | [], [], A, A', ρ, h, _, e => by
    simp only [unlA, Option.some.injEq] at e
    subst e
    exact ⟨ρ, rfl, h⟩
  | (s, none) :: l, .d d :: os, A, A', ρ, h, r, e => by
    obtain ⟨ρ', a, b⟩ := unlA_ok h r.2 (by unfold unlA at e; exact e)
    exact ⟨ρ', by rw [unlock_d]; exact a, b⟩
  | (s, some i) :: l, .p j [] d :: os, A, A', ρ, h, r, e => by
    obtain ⟨rfl, g, r⟩ := r
    unfold unlA at e
    split at e
    · rename_i A1 e1
      split at e
      · rename_i eu
        cases e
        obtain ⟨ρ', a, b⟩ := unlA_ok h r e1
        exact ⟨ρ'.set i (some d), by simp only [unlock_p, a, b.un eu], b.set (a := .val s) (x := some d) i ⟨d, rfl, g⟩⟩
      · cases e
    · cases e
  | [], _ :: _, _, _, _, _, h, _ => h.elim
  | (_, none) :: _, [], _, _, _, _, h, _ => h.elim
  | (_, some _) :: _, [], _, _, _, _, h, _ => h.elim
  | (_, none) :: _, .v _ :: _, _, _, _, _, h, _ => h.elim
  | (_, none) :: _, .p _ _ _ :: _, _, _, _, _, h, _ => h.elim
  | (_, some _) :: _, .d _ :: _, _, _, _, _, h, _ => h.elim
  | (_, some _) :: _, .v _ :: _, _, _, _, _, h, _ => h.elim
  | (_, some _) :: _, .p _ (_ :: _) _ :: _, _, _, _, _, h, _ => h.elim
theorem relL_ovs : ∀ {l : List (S × Option Nat)} {os : List Ov}, relL ν l os → ∃ ds, ovs os [] = some ds ∧ dens ν (l.map (·.1)) = some ds
  | [], [], _ => ⟨[], rfl, rfl⟩
  | (s, none) :: l, .d d :: os, r => by
    obtain ⟨ds, a, b⟩ := relL_ovs r.2
    exact ⟨d :: ds, by simp [a], dens_mk r.1 b⟩
  | (s, some i) :: l, .p j [] d :: os, r => by
    obtain ⟨ds, a, b⟩ := relL_ovs r.2.2
    exact ⟨d :: ds, by simp [a, getP], dens_mk r.2.1 b⟩
  | [], _ :: _, h => h.elim
  | (_, none) :: _, [], h => h.elim
  | (_, some _) :: _, [], h => h.elim
  | (_, none) :: _, .v _ :: _, h => h.elim
  | (_, none) :: _, .p _ _ _ :: _, h => h.elim
  | (_, some _) :: _, .d _ :: _, h => h.elim
  | (_, some _) :: _, .v _ :: _, h => h.elim
  | (_, some _) :: _, .p _ (_ :: _) _ :: _, h => h.elim
/-! ### loops over what is walked -/
theorem runEls_ok {step : S → Stt → Option (List O)} {cs : PyData → SF} {keep live : List Nat} {p : Nat} (hstep : ∀ e q st ν ρ outs, den ν e = some (.sh q) → Sat iv ν ρ st → p ≤ ν.length → step e st = some outs → PostO iv p ν outs (cs q ρ))
    {els : Els} {qs : List PyData} {st : Stt} {ρ : Vs.Env} {outs : List O} (h : ElsOk iv ν els qs) (s : Sat iv ν ρ st) (hp : p = ν.length) (e : runEls step p keep live els st = some outs) : PostO iv p ν outs (cl cs qs ρ) := by
  unfold runEls at e
  have tk : ν.take p = ν := by rw [hp]; exact List.take_length
  cases els with
  | ex lo es =>
    dsimp only at e
    refine loopE_ok (iv := iv) (fun e q st ν ρ outs hd hs hl he => hstep e q st ν ρ outs ?_ hs hl he) e (List.mem_singleton.mpr rfl) s (by omega) h.1 h.2.1 fun i q hq => by rw [tk]; exact h.2.2 i q hq
    have := den_app (μ := ν.drop p) hd
    rwa [List.take_append_drop] at this
  | un lo hi t =>
    dsimp only at e
    refine loopU_ok (iv := iv) (t := t) (fun q st ν ρ outs ht hs hl he => ?_) e (List.mem_singleton.mpr rfl) s (by omega) h.1 h.2.1 h.2.2
    obtain ⟨μ, a, b⟩ := push_ok hs.C ht
    have hl' : p ≤ (ν ++ μ).length := by simp; omega
    refine (hstep (push st.C t).1 q ⟨(push st.C t).2, st.A⟩ (ν ++ μ) ρ outs b ⟨a, hs.A.app⟩ hl' he).chain ?_
    rw [List.take_append_of_le_length hl]
theorem post_ext {p : Nat} {out : Out} {outs : List O} (h : PostO iv p ν outs out) (hp : p = ν.length) : ∃ o ∈ outs, ∃ μ, holds iv (ν ++ μ) o out := by
  obtain ⟨o, m, ν', e, l, g⟩ := h
  refine ⟨o, m, ν'.drop p, ?_⟩
  have : ν ++ ν'.drop p = ν' := by
    rw [hp, List.take_length, ← hp] at e
    rw [← e]
    exact List.take_append_drop _ _
  rwa [this]
/-! ### comprehensions -/
def lcC (own : List Nat) (t : Tg) (test : TF) (f : EF) : PyData → SF := fun q R => match R.getLast? with
  | some (some (.ls acc)) => match bindT [] t (.sh q) R.dropLast with
    | none => .no
    | some ρ1 => match test ρ1 with
      | .ok (true, ρ2) => match f ρ2 with
        | .ok (d, ρ3) => if acc.length < 1000000 then .nx (wipeE ρ3 own ++ [some (.ls (acc ++ [d]))]) else .no
        | _ => .no
      | .ok (false, ρ2) => .nx (wipeE ρ2 own ++ [some (.ls acc)])
      | _ => .no
  | _ => .no
theorem lcL_cl {own : List Nat} {t : Tg} {test : TF} {f : EF} : ∀ {qs : List PyData} {ρ : Vs.Env} {acc : List D}, cl (lcC own t test f) qs (ρ ++ [some (.ls acc)]) = match lcL own t test f qs ρ acc with
    | some z => .nx (z.2 ++ [some (.ls z.1)])
    | none => .no
  | [], ρ, acc => rfl
  | q :: qs, ρ, acc => by
    unfold cl lcL
    have g1 : (ρ ++ [some (D.ls acc)]).getLast? = some (some (D.ls acc)) := by simp
    have g2 : (ρ ++ [some (D.ls acc)]).dropLast = ρ := by simp
    simp only [lcC, g1, g2]
    cases bindT [] t (.sh q) ρ with
    | none => rfl
    | some ρ1 =>
      dsimp only
      cases e1 : test ρ1 with
      | no => rfl
      | ex x y => rfl
      | ok r =>
        obtain ⟨b, ρ2⟩ := r
        cases b with
        | false => exact lcL_cl
        | true =>
          dsimp only
          cases e2 : f ρ2 with
          | no => rfl
          | ex x y => rfl
          | ok r =>
            obtain ⟨d, ρ3⟩ := r
            dsimp only
            by_cases hl : acc.length < 1000000
            · rw [if_pos hl, if_pos hl]
              exact lcL_cl
            · rw [if_neg hl, if_neg hl]
theorem satA_last : ∀ {A : List Sl} {R : Vs.Env} {a : Sl}, satA ν A R → A.getLast? = some a → ∃ x, R = R.dropLast ++ [x] ∧ satS ν a x ∧ satA ν A.dropLast R.dropLast
  | [a], [x], _, h, e => by
    simp at e; subst e
    exact ⟨x, rfl, h.1, trivial⟩
  | a :: b :: A, x :: y :: R, c, h, e => by
    obtain ⟨z, e1, e2, e3⟩ := satA_last (A := b :: A) (R := y :: R) h.2 (by simpa using e)
    refine ⟨z, ?_, e2, h.1, e3⟩
    show x :: y :: R = (x :: (y :: R).dropLast) ++ [z]
    rw [List.cons_append, ← e1]
  | [], _, _, _, e => by simp at e
  | _ :: _, [], _, h, _ => h.elim
  | [_], _ :: _ :: _, _, h, _ => h.2.elim
  | _ :: _ :: _, [_], _, h, _ => h.2.elim
theorem satA_snoc : ∀ {A : List Sl} {ρ : Vs.Env} {a : Sl} {x : Option D}, satA ν A ρ → satS ν a x → satA ν (A ++ [a]) (ρ ++ [x])
  | [], [], _, _, _, g => ⟨g, trivial⟩
  | a :: A, x :: ρ, _, _, h, g => ⟨h.1, satA_snoc h.2 g⟩
  | [], _ :: _, _, _, h, _ => h.elim
  | _ :: _, [], _, _, h, _ => h.elim
def capF (hi : Nat) (o : Out) : Out := match o with
  | .nx R => match R.getLast? with
    | some (some (.ls acc)) => if acc.length ≤ hi then .nx R else .nx (R.dropLast ++ [some (.ls [])])
    | _ => .nx R
  | o => o
theorem capF_nx {hi : Nat} {ρ : Vs.Env} {acc : List D} (h : acc.length ≤ hi) : capF hi (.nx (ρ ++ [some (.ls acc)])) = .nx (ρ ++ [some (.ls acc)]) := by
  have g1 : (ρ ++ [some (D.ls acc)]).getLast? = some (some (D.ls acc)) := by simp
  simp only [capF, g1]
  rw [if_pos h]
theorem cl_cap {own : List Nat} {t : Tg} {test : TF} {f : EF} {hi : Nat} : ∀ {qs : List PyData} {ρ : Vs.Env} {acc : List D}, acc.length + qs.length ≤ hi → cl (fun q R => capF hi (lcC own t test f q R)) qs (ρ ++ [some (.ls acc)]) = cl (lcC own t test f) qs (ρ ++ [some (.ls acc)])
  | [], ρ, acc, _ => rfl
  | q :: qs, ρ, acc, h => by
    have h' : acc.length + qs.length + 1 ≤ hi := by simpa [Nat.add_assoc] using h
    unfold cl
    have g1 : (ρ ++ [some (D.ls acc)]).getLast? = some (some (D.ls acc)) := by simp
    have g2 : (ρ ++ [some (D.ls acc)]).dropLast = ρ := by simp
    simp only [lcC, g1, g2]
    cases bindT [] t (.sh q) ρ with
    | none => rfl
    | some ρ1 =>
      dsimp only
      cases e1 : test ρ1 with
      | no => rfl
      | ex x y => rfl
      | ok r =>
        obtain ⟨b, ρ2⟩ := r
        cases b with
        | false =>
          dsimp only
          rw [capF_nx (by omega)]
          exact cl_cap (by omega)
        | true =>
          dsimp only
          cases e2 : f ρ2 with
          | no => rfl
          | ex x y => rfl
          | ok r =>
            obtain ⟨d, ρ3⟩ := r
            dsimp only
            by_cases hl : acc.length < 1000000
            · rw [if_pos hl, capF_nx (by simp; omega)]
              exact cl_cap (by simp; omega)
            · rw [if_neg hl]
              rfl
theorem capOs_mem {hi : Nat} : ∀ {os os' : List O} {o : O}, capOs hi os = some os' → o ∈ os → ∃ st st', o = .nx st ∧ capA hi st = some st' ∧ .nx st' ∈ os'
  | .nx st :: r, os', o, h, m => by
    unfold capOs at h
    split at h
    · rename_i st' r' e1 e2
      cases h
      rcases List.mem_cons.mp m with rfl | m
      · exact ⟨st, st', rfl, e1, List.mem_cons_self⟩
      · obtain ⟨a, b, x, y, z⟩ := capOs_mem e2 m
        exact ⟨a, b, x, y, List.mem_cons_of_mem _ z⟩
    · cases h
  | .br _ :: _, _, _, h, _ => by simp [capOs] at h
  | .ct _ :: _, _, _, h, _ => by simp [capOs] at h
  | .rt _ _ :: _, _, _, h, _ => by simp [capOs] at h
theorem capOs_ok {hi p : Nat} {os os' : List O} {out : Out} (h : capOs hi os = some os') (g : PostO iv p ν os out) : PostO iv p ν os' (capF hi out) := by
  obtain ⟨o, m, ν', e, l, hh⟩ := g
  obtain ⟨st, st', rfl, ec, m'⟩ := capOs_mem h m
  cases out with
  | nx ρ =>
    have hs : Sat iv ν' ρ st := hh
    unfold capA at ec
    split at ec
    · rename_i s ea
      split at ec
      · rename_i t et
        split at ec
        · rename_i a b el es
          cases ec
          obtain ⟨x, w1, ⟨d, rfl, w2⟩, w3⟩ := satA_last hs.A ea
          obtain ⟨d', u1, u2⟩ := tyS_ok hs.C et
          rw [w2] at u1; cases u1
          obtain ⟨l', rfl, _, l4, l3⟩ := seqT_ok es u2
          have fin : ∀ m : List PyData, m.length ≤ (if b = 0 then 0 else hi) → (∀ q ∈ m, has iv.Ω el (.sh q)) → PostO iv p ν os' (.nx (ρ.dropLast ++ [some (.ls (m.map .sh))])) := fun m hm hq => by
            obtain ⟨μ, c1, c2⟩ := push_ok (t := .vec .own 0 (if b = 0 then 0 else hi) el) (d := .ls (m.map .sh)) hs.C (has_vec (k := .own) (Nat.zero_le _) hm hq)
            refine ⟨_, m', ν' ++ μ, ?_, by simp; omega, ?_⟩
            · rw [List.take_append_of_le_length l, e]
            · exact ⟨c1, satA_snoc w3.app ⟨_, rfl, c2⟩⟩
          rw [w1]
          have g1 : (ρ.dropLast ++ [some (mkQ .own l')]).getLast? = some (some (D.ls (l'.map .sh))) := by simp [mkQ]
          simp only [capF, g1]
          by_cases hl : (l'.map D.sh).length ≤ hi
          · rw [if_pos hl]
            refine fin l' ?_ l3
            have hl' : l'.length ≤ hi := by simpa using hl
            split <;> omega
          · rw [if_neg hl, List.dropLast_concat]
            exact fin [] (Nat.zero_le _) fun q hq => by cases hq
        · cases ec
      · cases ec
    · cases ec
  | _ => exact hh.elim
theorem runElsW_ok {step : S → Stt → Option (List O)} {own : List Nat} {tg : Tg} {tf : TF} {f : EF} {keep live : List Nat} {p : Nat} (hstep : ∀ e q st ν ρ outs, den ν e = some (.sh q) → Sat iv ν ρ st → p ≤ ν.length → step e st = some outs → PostO iv p ν outs (lcC own tg tf f q ρ))
    {els : Els} {qs : List PyData} {st : Stt} {ρ : Vs.Env} {outs : List O} (h : ElsOk iv ν els qs) (s : Sat iv ν (ρ ++ [some (.ls [])]) st) (hp : p = ν.length) (e : runElsW step p keep live els st = some outs) : PostO iv p ν outs (cl (lcC own tg tf f) qs (ρ ++ [some (.ls [])])) := by
  unfold runElsW at e
  cases els with
  | ex lo es => exact runEls_ok hstep h s hp e
  | un lo hi t =>
    dsimp only at e
    split at e
    · rw [← cl_cap (hi := hi) (by simpa using h.2.1)]
      refine loopU_ok (iv := iv) (cs := fun q R => capF hi (lcC own tg tf f q R)) (t := t) (fun q st ν ρ outs ht hs hl he => ?_) e (List.mem_singleton.mpr rfl) s (by omega) h.1 h.2.1 h.2.2
      unfold capR at he
      split at he
      · rename_i os eo
        obtain ⟨μ, a, b⟩ := push_ok hs.C ht
        have hl' : p ≤ (ν ++ μ).length := by simp; omega
        refine capOs_ok he ((hstep (push st.C t).1 q ⟨(push st.C t).2, st.A⟩ (ν ++ μ) ρ os b ⟨a, hs.A.app⟩ hl' eo).chain ?_)
        rw [List.take_append_of_le_length hl]
      · cases he
    · exact runEls_ok hstep h s hp e
theorem lsB_ok {C : List CE} {s : S} {d : D} (H : satC iv ν C) (h : den ν s = some d) (e : lsB C s = true) : ∃ ds, d = .ls ds := by
  unfold lsB at e
  split at e
  · obtain ⟨ds, _, rfl⟩ := den_ls h
    exact ⟨ds, rfl⟩
  · split at e
    · rename_i t et
      obtain ⟨d', a, b⟩ := tyS_ok H et
      rw [h] at a; cases a
      unfold seqO at e
      split at e
      · obtain ⟨ds, rfl, _⟩ := (by simpa only [has] using b)
        exact ⟨ds, rfl⟩
      · obtain ⟨l, rfl, _⟩ := (by simpa only [has] using b)
        exact ⟨_, rfl⟩
      · cases e
    · cases e
theorem lcStep_ok {own : List Nat} {t : Tg} {test : Stt → Option (List (Bool × Stt))} {elt : Stt → Option (List (S × Stt))} {tf : TF} {f : EF}
    (ht : ∀ {ν ρ st rs}, Sat iv ν ρ st → test st = some rs → PostG iv ν rs relB (tf ρ)) (hf : ∀ {ν ρ st rs}, Sat iv ν ρ st → elt st = some rs → PostG iv ν rs relE (f ρ)) {p : Nat} :
    ∀ e q st ν ρ outs, den ν e = some (.sh q) → Sat iv ν ρ st → p ≤ ν.length → lcStep own t test elt e st = some outs → PostO iv p ν outs (lcC own t tf f q ρ) := fun e q st ν ρ outs hd hs hl he => by
  unfold lcStep at he
  obtain ⟨stA, mA, hsA⟩ := altS_ok (s := e) hs
  obtain ⟨xA, heA, sxA⟩ := bnd_ok he mA
  refine PostO.mono ?_ sxA
  clear sxA mA he hs st
  revert heA hsA
  generalize stA = st, xA = outs'
  intro hs he
  split at he
  · rename_i acc ea
    obtain ⟨x, eR, ⟨da, rfl, hacc⟩, hA⟩ := satA_last hs.A ea
    split at he
    · cases he
    · rename_i st1 e1
      have ⟨hls, e1⟩ : lsB st.C acc = true ∧ bindA t e ⟨st.C, st.A.dropLast⟩ = some st1 := by
        split at e1
        · rename_i q; exact ⟨q, e1⟩
        · cases e1
      obtain ⟨dl, rfl⟩ := lsB_ok hs.C hacc hls
      obtain ⟨μ1, ρ1, b1, s1⟩ := bindA_ok (st := ⟨st.C, st.A.dropLast⟩) ⟨hs.C, hA⟩ hd e1
      obtain ⟨rs, e2, b2⟩ := bndO_some he
      obtain ⟨b, st2, μ2, b', ρ2, m2, q2, s2, rfl⟩ := ht s1 e2
      obtain ⟨x2, e3, sx2⟩ := bnd_ok b2 m2
      have ext : ∀ μ : List D, (ν ++ μ).take p = ν.take p := fun μ => List.take_append_of_le_length hl
      have gl : ρ.getLast? = some (some (.ls dl)) := by rw [eR]; simp
      cases b with
      | false =>
        simp only [Bool.false_eq_true, if_false] at e3
        cases e3
        refine ⟨_, sx2 _ (List.mem_singleton.mpr rfl), ν ++ μ1 ++ μ2, ?_, by simp; omega, ?_⟩
        · rw [List.append_assoc]; exact ext _
        · have : lcC own t tf f q ρ = .nx (wipeE ρ2 own ++ [some (.ls dl)]) := by
            simp only [lcC, gl, b1, q2]
          rw [this]
          exact ⟨s2.C, satA_snoc (wipeA_ok s2.A) ⟨_, rfl, den_app (den_app hacc)⟩⟩
      | true =>
        simp only [if_true] at e3
        obtain ⟨rs3, e4, b4⟩ := bndO_some e3
        obtain ⟨s, st3, μ3, d, ρ3, m3, q3, s3, hs3⟩ := hf s2 e4
        obtain ⟨x3, e5, sx3⟩ := bnd_ok b4 m3
        split at e5
        · rename_i acc' C' e6
          cases e5
          obtain ⟨μ4, ds, eds, hlen, hC, hacc'⟩ := appS_ok s3.C (den_app (den_app (den_app hacc))) hs3 e6
          cases eds
          refine ⟨_, sx2 _ (sx3 _ (List.mem_singleton.mpr rfl)), ν ++ μ1 ++ μ2 ++ μ3 ++ μ4, ?_, by simp; omega, ?_⟩
          · rw [List.append_assoc, List.append_assoc, List.append_assoc]; exact ext _
          · have : lcC own t tf f q ρ = .nx (wipeE ρ3 own ++ [some (.ls (dl ++ [d]))]) := by
              simp only [lcC, gl, b1, q2, q3, if_pos hlen]
            rw [this]
            exact ⟨hC, satA_snoc (wipeA_ok s3.A.app) ⟨_, rfl, hacc'⟩⟩
        · cases e5
  · cases he
end Ab
/-! X11: expressions are right. -/
namespace Ab
open PySem PySem.Spec L2
open Vs hiding Env
open PyProof.Rows hiding St
section
variable {iv : Iv} {ν μ : List D} {E : Cfg} {Γ : Gam}
theorem bindOk {α β : Type} {r : Res α} {k : α → Res β} {x : β} (h : r.bind k = .ok x) : ∃ a, r = .ok a ∧ k a = .ok x := by
  cases r with
  | ok a => exact ⟨a, rfl, h⟩
  | ex _ _ => cases h
  | no => cases h
theorem wrapO_ne {o : Op} (h : o ≠ .slLH) {l : List Sop} : wrapO o l = l := by
  cases o <;> first | rfl | exact absurd rfl h
theorem run_int {f : EF} {r : List Sop} {i : Int} {os : List Ov} {ρ ρ' : Vs.Env} (h : runO (.e f :: r) ρ = .ok (.d (.sh (.int i)) :: os, ρ')) : ∃ ρ1, f ρ = .ok (.sh (.int i), ρ1) ∧ runO r ρ1 = .ok (os, ρ') := by
  rw [runO_e] at h
  obtain ⟨⟨a, ρ1⟩, e1, e2⟩ := bindOk h
  obtain ⟨⟨b, ρ2⟩, e3, e4⟩ := bindOk e2
  cases e4
  exact ⟨ρ1, e1, e3⟩
theorem int_run {f : EF} {r : List Sop} {i : Int} {os : List Ov} {ρ ρ' ρ1 : Vs.Env} (h : f ρ = .ok (.sh (.int i), ρ1)) (g : runO r ρ1 = .ok (os, ρ')) : runO (.e (intE f) :: r) ρ = .ok (.d (.sh (.int i)) :: os, ρ') := by
  rw [runO_e]
  simp only [intE, h, bind_ok', g]
theorem run_e_of {s : Sop} {r : List Sop} {d : D} {os : List Ov} {ρ ρ' : Vs.Env} (h : runO (s :: r) ρ = .ok (.d d :: os, ρ')) : ∃ f, s = .e f := by
  cases s with
  | e f => exact ⟨f, rfl⟩
  | v i =>
    rw [runO_v'] at h
    split at h
    · obtain ⟨⟨a, a2⟩, e1, e2⟩ := bindOk h
      cases e2
    · cases h
  | p i path =>
    rw [runO_p'] at h
    split at h
    · split at h
      · obtain ⟨⟨a, a2⟩, e1, e2⟩ := bindOk h
        cases e2
      · cases h
    · cases h
theorem run_tail {s : Sop} {r : List Sop} {o : Ov} {os : List Ov} {ρ ρ' : Vs.Env} (h : runO (s :: r) ρ = .ok (o :: os, ρ')) : ∃ ρ1, runO r ρ1 = .ok (os, ρ') ∧ ∀ r', runO r' ρ1 = .ok (os, ρ') → runO (s :: r') ρ = .ok (o :: os, ρ') := by
  cases s with
  | e f =>
    rw [runO_e] at h
    obtain ⟨⟨a, a2⟩, e1, e2⟩ := bindOk h
    obtain ⟨⟨b, b2⟩, e3, e4⟩ := bindOk e2
    cases e4
    exact ⟨a2, e3, fun r' h' => by rw [runO_e, e1, bind_ok', h', bind_ok']⟩
  | v i =>
    rw [runO_v'] at h
    split at h
    · rename_i q
      obtain ⟨⟨a, a2⟩, e1, e2⟩ := bindOk h
      cases e2
      exact ⟨ρ, e1, fun r' h' => by rw [runO_v', q]; simp only [h', bind_ok']⟩
    · cases h
  | p i path =>
    rw [runO_p'] at h
    split at h
    · rename_i q
      split at h
      · rename_i q2
        obtain ⟨⟨a, a2⟩, e1, e2⟩ := bindOk h
        cases e2
        exact ⟨_, e1, fun r' h' => by rw [runO_p', q]; simp only [q2, h', bind_ok']⟩
      · cases h
    · cases h
theorem run_nil {s : List Sop} {ρ ρ' : Vs.Env} (h : runO s ρ = .ok ([], ρ')) : s = [] := by
  cases s with
  | nil => rfl
  | cons s r =>
    exfalso
    cases s with
    | e f =>
      rw [runO_e] at h
      obtain ⟨⟨a, a2⟩, e1, e2⟩ := bindOk h
      obtain ⟨⟨b, b2⟩, e3, e4⟩ := bindOk e2
      cases e4
    | v i =>
      rw [runO_v'] at h
      split at h
      · obtain ⟨⟨a, a2⟩, e1, e2⟩ := bindOk h
        cases e2
      · cases h
    | p i path =>
      rw [runO_p'] at h
      split at h
      · split at h
        · obtain ⟨⟨a, a2⟩, e1, e2⟩ := bindOk h
          cases e2
        · cases h
      · cases h
theorem run_lh {ops : List Sop} {o : Ov} {i j : Int} {ρ ρ' : Vs.Env} (h : runO ops ρ = .ok ([o, .d (.sh (.int i)), .d (.sh (.int j))], ρ')) : runO (wrapO .slLH ops) ρ = .ok ([o, .d (.sh (.int i)), .d (.sh (.int j))], ρ') := by
  match ops, h with
  | [], h => cases h
  | s :: ops, h =>
    obtain ⟨ρ1, h1, k1⟩ := run_tail h
    match ops, h1, k1 with
    | [], h1, _ => cases h1
    | s2 :: ops, h1, k1 =>
      obtain ⟨f, rfl⟩ := run_e_of h1
      obtain ⟨ρ2, h2, h3⟩ := run_int h1
      match ops, h3, k1 with
      | [], h3, _ => cases h3
      | s3 :: ops, h3, k1 =>
        obtain ⟨g, rfl⟩ := run_e_of h3
        obtain ⟨ρ3, h4, h5⟩ := run_int h3
        have := run_nil h5
        subst this
        exact k1 _ (int_run h2 (int_run h4 h5))
theorem lh_ok {C : List CE} {l : List Od} {os : List Ov} (H : satC iv ν C) (r : relO ν l os) (h : lhOk C l = true) : ∃ o i j, os = [o, .d (.sh (.int i)), .d (.sh (.int j))] := by
  have rg : ∀ {s : S} {d : D}, rngOk C s = true → den ν s = some d → ∃ i, d = .sh (.int i) := by
    intro s d h g
    unfold rngOk at h
    split at h
    · rename_i t et
      obtain ⟨d', a, b⟩ := tyS_ok H et
      rw [g] at a; cases a
      cases e : rng t with
      | none => rw [e] at h; cases h
      | some xy =>
        obtain ⟨i, rfl, _⟩ := rng_ok b e
        exact ⟨i, rfl⟩
    · cases h
  unfold lhOk at h
  split at h
  · rw [Bool.and_eq_true] at h
    obtain ⟨o, os1, rfl, _, r1⟩ := relO_cons r
    obtain ⟨o2, os2, rfl, a2, r2⟩ := relO_cons r1
    obtain ⟨o3, os3, rfl, a3, r3⟩ := relO_cons r2
    cases os3 with
    | cons _ _ => exact r3.elim
    | nil =>
      cases o2 with
      | d x =>
        cases o3 with
        | d y =>
          obtain ⟨i, rfl⟩ := rg h.1 a2
          obtain ⟨j, rfl⟩ := rg h.2 a3
          exact ⟨o, i, j, rfl⟩
        | v _ => exact a3.elim
        | p _ _ _ => exact a3.elim
      | v _ => exact a2.elim
      | p _ _ _ => exact a2.elim
  · cases h
theorem PostG.push {s : S} {d : D} {C' : List CE} {A : List Sl} {ρ : Vs.Env} (hC : satC iv (ν ++ μ) C') (hA : satA ν A ρ) (hd : den (ν ++ μ) s = some d) : PostG iv ν [(s, ⟨C', A⟩)] relE (.ok (d, ρ)) :=
  ⟨s, ⟨C', A⟩, μ, d, ρ, List.mem_singleton.mpr rfl, rfl, ⟨hC, hA.app⟩, hd⟩
theorem opR_ok {o : Op} {ops : List Sop} {l : Option (List (List Od × Stt))} {rs : List (S × Stt)} {ρ : Vs.Env} (h : ∀ l', l = some l' → PostG iv ν l' relO (runO ops ρ)) (e : opR o l = some rs) : PostG iv ν rs relE (opE (opD o) (wrapO o ops) ρ) := by
  obtain ⟨l', e1, e2⟩ := bndO_some e
  refine PostG.bind' (h l' e1) e2 fun a st' μ b ρ' x hr s r ex => ?_
  dsimp only at ex
  split at ex
  · cases ex
  · rename_i q
    have hw : runO (wrapO o ops) ρ = .ok (b, ρ') := by
      by_cases ho : o = .slLH
      · subst ho
        have : lhOk st'.C a = true := by
          cases z : lhOk st'.C a with
          | true => rfl
          | false => simp [z] at q
        obtain ⟨o, i, j, rfl⟩ := lh_ok s.C r this
        exact run_lh hr
      · rw [wrapO_ne ho]; exact hr
    split at ex
    · rename_i ss es
      obtain ⟨ds, x1, x2, x3⟩ := rsv_ok s.A r es
      split at ex
      · rename_i s' C' eo
        cases ex
        obtain ⟨μ', z, y1, y2, y3⟩ := opS_ok s.C x2 eo
        have : opE (opD o) (wrapO o ops) ρ = .ok (z, ρ') := by
          rw [opE_eq, hw, bind_ok']
          simp only [x1, y1, x3]
        rw [this]
        exact .push y2 s.A y3
      · cases ex
    · cases ex
theorem rdR_ok {i : Nat} {st : Stt} {rs : List (S × Stt)} {ρ : Vs.Env} (h : Sat iv ν ρ st) (e : rdR i st = some rs) : PostG iv ν rs relE (rdE i ρ) := by
  unfold rdR at e
  split at e
  · rename_i s es
    obtain ⟨d, a, b⟩ := h.A.val es
    split at e
    · rename_i t et
      split at e
      · rename_i q
        cases e
        obtain ⟨d', x, y⟩ := tyS_ok h.C et
        rw [b] at x; cases x
        obtain ⟨p, rfl⟩ := has_sh y q
        have : rdE i ρ = .ok (.sh p, ρ) := by simp only [rdE, a]
        rw [this]
        exact .one h b
      · cases e
    · cases e
  · cases e
theorem splitR_ok {l : Option (List (S × Stt))} {rs : List (Bool × Stt)} {f : EF} {ρ : Vs.Env} (h : ∀ l', l = some l' → PostG iv ν l' relE (f ρ)) (e : splitR l = some rs) : PostG iv ν rs relB (boolE f ρ) := by
  obtain ⟨l', e1, e2⟩ := bndO_some e
  refine PostG.bind (k := fun q => match q.1 with | .sh (.bool b) => Res.ok (b, q.2) | _ => .no) (h l' e1) e2 fun a st' μ b ρ' x s r ex => ?_
  obtain ⟨b', rfl, st2, m, s2⟩ := splitB_ok s r ex
  exact ⟨b', st2, [], b', ρ', m, rfl, by simpa using s2, rfl⟩
theorem dispR_ok {mkS : List S → S} {mk : List D → D} (hmk : ∀ {ν : List D} {ss ds}, dens ν ss = some ds → den ν (mkS ss) = some (mk ds)) {ops : List Sop} {l : Option (List (List Od × Stt))} {rs : List (S × Stt)} {ρ : Vs.Env} (h : ∀ l', l = some l' → PostG iv ν l' relO (runO ops ρ)) (e : dispR mkS l = some rs) : PostG iv ν rs relE (dispE mk ops ρ) := by
  obtain ⟨l', e1, e2⟩ := bndO_some e
  refine PostG.bind' (h l' e1) e2 fun a st' μ b ρ' x hr s r ex => ?_
  dsimp only at ex
  split at ex
  · rename_i ss es
    obtain ⟨ds, x1, x2⟩ := odS_ok r es
    split at ex
    · rename_i q
      cases ex
      have := dens_len x2
      have : dispE mk ops ρ = .ok (mk ds, ρ') := by
        rw [dispE_eq, hr, bind_ok']
        simp only [x1, if_pos (by omega : ds.length ≤ 1000)]
      rw [this]
      exact .one s (hmk x2)
    · cases ex
  · cases ex
theorem tup_mk {ν : List D} {ss : List S} {ds : List D} (h : dens ν ss = some ds) : den ν (.tup ss) = some (mkTup ds) := by simp only [den, h]
theorem ls_mk {ν : List D} {ss : List S} {ds : List D} (h : dens ν ss = some ds) : den ν (.ls ss) = some (.ls ds) := by simp only [den, h]
theorem fzR_ok {l : Option (List (S × Stt))} {rs : List (S × Stt)} {f : EF} {ρ : Vs.Env} (h : ∀ l', l = some l' → PostG iv ν l' relE (f ρ)) (e : fzR l = some rs) : PostG iv ν rs relE (fzE f ρ) := by
  obtain ⟨l', e1, e2⟩ := bndO_some e
  refine PostG.bind (k := fun q => match q.1.fz with | some d => Res.ok (D.sh d, q.2) | none => .no) (h l' e1) e2 fun a st' μ b ρ' x s r ex => ?_
  dsimp only at ex
  split at ex
  · rename_i s' C' ef
    cases ex
    obtain ⟨μ', p, x1, x2, x3⟩ := fzS_ok s.C r ef
    dsimp only
    rw [x2]
    exact .push x1 s.A x3
  · cases ex
theorem runO2 {f g : EF} {ρ : Vs.Env} : runO [.e f, .e g] ρ = (f ρ).bind fun p => (g p.2).bind fun q => .ok ([.d p.1, .d q.1], q.2) := by
  rw [runO_e]
  cases f ρ with
  | no => rfl
  | ex _ _ => rfl
  | ok a =>
    simp only [bind_ok']
    rw [runO_e]
    cases g a.2 with
    | no => rfl
    | ex _ _ => rfl
    | ok b => rfl
theorem chnR_ok {o o' : Op} {xa xb xc : Stt → Option (List (S × Stt))} {a b c : EF} {st : Stt} {rs : List (S × Stt)} {ρ : Vs.Env} (H : Sat iv ν ρ st)
    (ha : ∀ {ν ρ st rs}, Sat iv ν ρ st → xa st = some rs → PostG iv ν rs relE (a ρ)) (hb : ∀ {ν ρ st rs}, Sat iv ν ρ st → xb st = some rs → PostG iv ν rs relE (b ρ)) (hc : ∀ {ν ρ st rs}, Sat iv ν ρ st → xc st = some rs → PostG iv ν rs relE (c ρ))
    (e : chnR o o' xa xb xc st = some rs) : PostG iv ν rs relE (chnE (opD o) (opD o') a b c ρ) := by
  obtain ⟨l1, e1, e2⟩ := bndO_some e
  refine PostG.bind' (ha H e1) e2 fun s1 st1 μ1 d1 ρ1 x1 q1 h1 r1 f1 => ?_
  obtain ⟨l2, e3, e4⟩ := bndO_some f1
  refine PostG.bind' (hb h1 e3) e4 fun s2 st2 μ2 d2 ρ2 x2 q2 h2 r2 f2 => ?_
  dsimp only at f2
  split at f2
  · rename_i s C' eo
    have r1' : den (ν ++ μ1 ++ μ2) s1 = some d1 := den_app r1
    obtain ⟨μ3, z, y1, y2, y3⟩ := opS_ok h2.C (dens_mk r1' (dens_mk (l := []) (ds := []) r2 rfl)) eo
    obtain ⟨l3, e5, e6⟩ := bndO_some f2
    have h3 : Sat iv (ν ++ μ1 ++ μ2 ++ μ3) ρ2 ⟨C', st2.A⟩ := ⟨y2, h2.A.app⟩
    obtain ⟨bb, rfl, st3, m3, h4⟩ := splitB_ok h3 y3 e5
    obtain ⟨x3, f3, sx3⟩ := bnd_ok e6 m3
    have run : runO [.e a, .e b] ρ = .ok ([.d d1, .d d2], ρ2) := by
      rw [runO2, q1, bind_ok', q2, bind_ok']
    refine PostG.up (μ := μ3) (PostG.mono ?_ sx3)
    cases bb with
    | false =>
      simp only [Bool.false_eq_true, if_false] at f3
      cases f3
      have : chnE (opD o) (opD o') a b c ρ = .ok (DB false, ρ2) := by
        simp only [chnE, run, bind_ok', ods_d, ods_nil, y1]
      rw [this]
      exact .one h4 rfl
    | true =>
      simp only [if_true] at f3
      obtain ⟨l4, e7, e8⟩ := bndO_some f3
      refine PostG.bind' (hc h4 e7) e8 fun s4 st4 μ4 d4 ρ4 x4 q4 h5 r4 f4 => ?_
      dsimp only at f4
      split at f4
      · rename_i s' C2 eo2
        cases f4
        obtain ⟨μ5, z2, w1, w2, w3⟩ := opS_ok h5.C (dens_mk (den_app (den_app r2)) (dens_mk (l := []) (ds := []) r4 rfl)) eo2
        have : chnE (opD o) (opD o') a b c ρ = .ok (z2, ρ4) := by
          simp only [chnE, run, bind_ok', ods_d, ods_nil, y1, q4, w1]
        rw [this]
        exact .push w2 h5.A w3
      · cases f4
  · cases f2
theorem run_app : ∀ {p q : List Sop} {ρ : Vs.Env}, runO (p ++ q) ρ = (runO p ρ).bind fun a => (runO q a.2).bind fun b => .ok (a.1 ++ b.1, b.2)
  | [], q, ρ => by
    rw [List.nil_append, runO_nil, bind_ok']
    cases runO q ρ <;> rfl
  | .e f :: p, q, ρ => by
    rw [List.cons_append, runO_e, runO_e]
    cases f ρ with
    | no => rfl
    | ex _ _ => rfl
    | ok a =>
      simp only [bind_ok']
      rw [run_app]
      cases runO p a.2 with
      | no => rfl
      | ex _ _ => rfl
      | ok b =>
        simp only [bind_ok']
        cases runO q b.2 <;> rfl
  | .v i :: p, q, ρ => by
    rw [List.cons_append, runO_v', runO_v']
    split
    · rw [run_app]
      cases runO p ρ with
      | no => rfl
      | ex _ _ => rfl
      | ok b =>
        simp only [bind_ok']
        cases runO q b.2 <;> rfl
    · rfl
  | .p i path :: p, q, ρ => by
    rw [List.cons_append, runO_p', runO_p']
    split
    · split
      · rw [run_app]
        cases runO p (ρ.set i none) with
        | no => rfl
        | ex _ _ => rfl
        | ok b =>
          simp only [bind_ok']
          cases runO q b.2 <;> rfl
      · rfl
    · rfl
theorem callR_ok (TB : TabOk iv E Γ) {f : Str} {ks : List Str} {π : List Nat} {xa xb : Stt → Option (List (List Od × Stt))} {p q : List Sop} {st : Stt} {rs : List (S × Stt)} {ρ : Vs.Env} (H : Sat iv ν ρ st)
    (ha : ∀ {ν ρ st rs}, Sat iv ν ρ st → xa st = some rs → PostG iv ν rs relO (runO p ρ)) (hb : ∀ {ν ρ st rs}, Sat iv ν ρ st → xb st = some rs → PostG iv ν rs relO (runO q ρ))
    (e : callR E f ks π xa xb st = some rs) : PostG iv ν rs relE (callE (Γ.fn f) ks (p ++ q) π ρ) := by
  obtain ⟨l1, e1, e2⟩ := bndO_some e
  refine PostG.bind' (ha H e1) e2 fun s1 st1 μ1 d1 ρ1 x1 q1 h1 r1 f1 => ?_
  obtain ⟨l2, e3, e4⟩ := bndO_some f1
  refine PostG.bind' (hb h1 e3) e4 fun s2 st2 μ2 d2 ρ2 x2 q2 h2 r2 f2 => ?_
  obtain ⟨dn, hf, post⟩ := xcall_ok TB h2 (relO_append r1.app r2) f2
  have : callE (Γ.fn f) ks (p ++ q) π ρ = callK dn ks π (d1 ++ d2, ρ2) := by
    rw [hf]
    show callD dn ks (p ++ q) π ρ = _
    rw [Ab.callD_eq, run_app, q1, bind_ok', q2, bind_ok', bind_ok']
  rw [this]
  exact post
end
end Ab
/-! X12: expressions are right, all of them. -/
namespace Ab
open PySem PySem.Spec L2
open Vs hiding Env
open PyProof.Rows hiding St
section
variable {iv : Iv} {ν μ : List D} {E : Cfg} {Γ : Gam}
theorem mutR_ok {m : Mo} {i : Nat} {ops : List Sop} {xa : Stt → Option (List (List Od × Stt))} {st : Stt} {rs : List (S × Stt)} {ρ : Vs.Env} (H : Sat iv ν ρ st)
    (ha : ∀ {ν ρ st rs}, Sat iv ν ρ st → xa st = some rs → PostG iv ν rs relO (runO ops ρ)) (e : mutR m i xa st = some rs) : PostG iv ν rs relE (mutE m i [] ops ρ) := by
  unfold mutR at e
  split at e
  · rename_i s0 e0
    split at e
    · rename_i q0
      obtain ⟨d0, a0, b0⟩ := H.A.val e0
      obtain ⟨ds0, rfl⟩ := lsB_ok H.C b0 q0
      obtain ⟨l, e1, e2⟩ := bndO_some e
      refine PostG.bind' (ha H e1) e2 fun os st1 μ1 b ρ1 x hr h1 r1 f1 => ?_
      dsimp only at f1
      split at f1
      · rename_i ss s e3 e4
        split at f1
        · rename_i q1
          split at f1
          · rename_i s' y C' e5
            cases f1
            obtain ⟨d1, a1, b1⟩ := h1.A.val e4
            obtain ⟨ds1, rfl⟩ := lsB_ok h1.C b1 q1
            obtain ⟨es, x1, x2⟩ := odS_ok r1 e3
            obtain ⟨μ2, y1, y2⟩ := expS_ok h1.C b1
            obtain ⟨μ3, ds', r, z1, z2, z3, z4⟩ := moS_ok y1 y2 (dens_app x2) e5
            have : mutE m i [] ops ρ = .ok (r, ρ1.set i (some (.ls ds'))) := by
              simp only [mutE, a0, getP, hr, bind_ok', x1, a1, z1]
            rw [this]
            rw [List.append_assoc] at z2 z3 z4
            exact ⟨y, ⟨C', st1.A.set i (.val s')⟩, μ2 ++ μ3, r, _, List.mem_singleton.mpr rfl, rfl, ⟨z2, h1.A.app.set (a := .val s') (x := some (.ls ds')) i ⟨_, rfl, z3⟩⟩, z4⟩
          · cases f1
        · cases f1
      · cases f1
    · cases e
  · cases e
theorem ElsOk.app {els : Els} {qs : List PyData} (h : ElsOk iv ν els qs) : ElsOk iv (ν ++ μ) els qs := by
  cases els with
  | ex lo es => exact ⟨h.1, h.2.1, fun i q hq => let ⟨e, a, b⟩ := h.2.2 i q hq; ⟨e, a, den_app b⟩⟩
  | un lo hi t => exact h
theorem acc0_ok {els : Els} {C : List CE} (h : satC iv ν C) : ∃ μ, satC iv (ν ++ μ) (acc0 els C).2 ∧ den (ν ++ μ) (acc0 els C).1 = some (.ls []) := by
  cases els with
  | ex lo es => exact ⟨[], by simpa [acc0] using h, rfl⟩
  | un lo hi t =>
    obtain ⟨μ, a, b⟩ := push_ok (t := .vec .own 0 0 (.lit .none)) (d := .ls []) h (has_vec (k := .own) (l := []) (Nat.le_refl _) (Nat.le_refl _) (fun _ q => by cases q))
    exact ⟨μ, a, b⟩
theorem lcR_ok {own : List Nat} {t : Tg} {k : ItK} {ops : List Sop} {xa : Stt → Option (List (List (S × Option Nat) × Stt))} {test : Stt → Option (List (Bool × Stt))} {elt : Stt → Option (List (S × Stt))} {tf : TF} {f : EF} {st : Stt} {rs : List (S × Stt)} {ρ : Vs.Env} (H : Sat iv ν ρ st)
    (ha : ∀ {ν ρ st rs}, Sat iv ν ρ st → xa st = some rs → PostG iv ν rs relL (runO ops ρ)) (ht : ∀ {ν ρ st rs}, Sat iv ν ρ st → test st = some rs → PostG iv ν rs relB (tf ρ)) (hf : ∀ {ν ρ st rs}, Sat iv ν ρ st → elt st = some rs → PostG iv ν rs relE (f ρ))
    (e : lcR E own t k xa test elt st = some rs) : PostG iv ν rs relE (lcE own t k ops tf f ρ) := by
  obtain ⟨l, e1, e2⟩ := bndO_some e
  refine PostG.bind' (ha H e1) e2 fun os st1 μ1 b ρ1 x hr h1 r1 f1 => ?_
  dsimp only at f1
  split at f1
  · rename_i els ee
    obtain ⟨outs, e3, e4⟩ := bndO_some f1
    obtain ⟨ds, x1, x2⟩ := relL_ovs r1
    obtain ⟨qs, x3, x4⟩ := elems_ok h1.C x2 ee
    obtain ⟨μ0, c1, c2⟩ := acc0_ok (els := els) h1.C
    have s0 : Sat iv (ν ++ μ1 ++ μ0) (wipeE ρ1 own ++ [some (D.ls [])]) ⟨(acc0 els st1.C).2, wipeA st1.A own ++ [.val (acc0 els st1.C).1]⟩ := ⟨c1, satA_snoc (wipeA_ok h1.A.app) ⟨_, rfl, c2⟩⟩
    have post := runElsW_ok (iv := iv) (own := own) (tg := t) (tf := tf) (f := f) (fun e q st ν ρ outs a b c d => lcStep_ok ht hf e q st ν ρ outs a b c d) (x4.app (μ := μ0)) s0 c1.len.symm e3
    obtain ⟨o, mo, μ2', ho⟩ := post_ext post c1.len.symm
    rw [List.append_assoc] at ho
    obtain ⟨μ2, eμ⟩ : ∃ μ2, μ0 ++ μ2' = μ2 := ⟨_, rfl⟩
    rw [eμ] at ho
    obtain ⟨y, e5, sy⟩ := bnd_ok e4 mo
    rw [lcL_cl] at ho
    cases ez : lcL own t tf f qs (wipeE ρ1 own) [] with
    | none => rw [ez] at ho; cases o <;> exact ho.elim
    | some z =>
      rw [ez] at ho
      cases o with
      | br _ => exact ho.elim
      | ct _ => exact ho.elim
      | rt _ _ => exact ho.elim
      | nx st2 =>
        have e5 : (match st2.A.getLast? with
          | some (.val acc) => match unlA os st2.A.dropLast with
            | some A => some [(acc, (⟨st2.C, A⟩ : Stt))]
            | none => none
          | _ => none) = some y := e5
        split at e5
        · rename_i acc ea
          split at e5
          · rename_i A eA
            cases e5
            have ho : Sat iv (ν ++ μ1 ++ μ2) (z.2 ++ [some (D.ls z.1)]) st2 := ho
            obtain ⟨v, w1, ⟨dv, rfl, w2⟩, w3⟩ := satA_last ho.A ea
            have : dv = .ls z.1 := by
              have := congrArg List.getLast? w1
              simpa using this.symm
            subst this
            rw [List.dropLast_concat] at w3
            obtain ⟨ρ', u1, u2⟩ := unlA_ok w3 r1.app eA
            have : lcE own t k ops tf f ρ = .ok (.ls z.1, ρ') := lcE_run hr x1 x3 ez u1
            rw [this]
            exact ⟨acc, ⟨st2.C, A⟩, μ2, _, ρ', sy _ (List.mem_singleton.mpr rfl), rfl, ⟨ho.C, u2⟩, w2⟩
          · cases e5
        · cases e5
  · cases f1
theorem sops_ne {e : Ex} {es : List Ex} (h : ∀ i path, e = .vw i path → False) : sops Γ (e :: es) = .e (ev Γ e) :: sops Γ es := by
  cases e <;> first | rfl | exact (h _ _ rfl).elim
theorem lops_ne {e : Ex} {es : List Ex} (h : ∀ i path, e = .vw i path → False) : lops Γ (e :: es) = .e (ev Γ e) :: lops Γ es := by
  cases e <;> first | rfl | exact (h _ _ rfl).elim
variable (TB : TabOk iv E Γ)
include TB
mutual
theorem xe_ok : ∀ {e : Ex} {ν : List D} {ρ : Vs.Env} {st : Stt} {rs : List (S × Stt)}, Sat iv ν ρ st → xe E e st = some rs → PostG iv ν rs relE (ev Γ e ρ)
  | .lit d, ν, ρ, st, rs, H, h => by
    simp only [xe, Option.some.injEq] at h
    subst h
    rw [ev_lit]
    exact .one H nrm_ok
  | .rd i, ν, ρ, st, rs, H, h => by
    unfold xe at h
    exact rdR_ok H h
  | .mv i, ν, ρ, st, rs, H, h => by
    unfold xe at h
    split at h
    · rename_i s es
      cases h
      obtain ⟨d, a, b⟩ := H.A.val es
      have : ev Γ (.mv i) ρ = .ok (d, ρ.set i none) := by rw [ev_mv]; simp only [mvE, a]
      rw [this]
      exact .one ⟨H.C, H.A.set (a := .un) (x := none) i rfl⟩ b
    · cases h
  | .vw _ _, ν, ρ, st, rs, H, h => by simp [xe] at h
  | .gl x, ν, ρ, st, rs, H, h => by
    unfold xe at h
    split at h
    · rename_i d ed
      cases h
      have : ev Γ (.gl x) ρ = .ok (.sh d, ρ) := by
        show glE (Γ.con x) ρ = _
        rw [TB.con _ _ ed]; rfl
      rw [this]
      exact .one H nrm_ok
    · cases h
  | .tup es, ν, ρ, st, rs, H, h => by
    unfold xe at h
    rw [ev_tup]
    exact dispR_ok tup_mk (fun l' e => xo_ok H e) h
  | .lst es, ν, ρ, st, rs, H, h => by
    unfold xe at h
    rw [ev_lst]
    exact dispR_ok ls_mk (fun l' e => xo_ok H e) h
  | .op o as, ν, ρ, st, rs, H, h => by
    unfold xe at h
    rw [ev_op]
    exact opR_ok (fun l' e => xo_ok H e) h
  | .chn o o' a b c, ν, ρ, st, rs, H, h => by
    unfold xe at h
    rw [ev_chn]
    exact chnR_ok H (fun s e => xe_ok s e) (fun s e => xe_ok s e) (fun s e => xe_ok s e) h
  | .bop k es, ν, ρ, st, rs, H, h => by
    unfold xe at h
    rw [ev_bop]
    exact xb_ok H h
  | .not a, ν, ρ, st, rs, H, h => by
    unfold xe at h
    obtain ⟨l, e1, e2⟩ := bndO_some h
    have p := splitR_ok (f := ev Γ a) (fun l' e => xe_ok H e) e1
    have : ev Γ (.not a) ρ = (boolE (ev Γ a) ρ).bind fun q => .ok (DB (!q.1), q.2) := by
      rw [ev_not]
      show (ev Γ a ρ).bind _ = ((ev Γ a ρ).bind _).bind _
      cases ev Γ a ρ with
      | no => rfl
      | ex _ _ => rfl
      | ok r =>
        obtain ⟨d, ρ'⟩ := r
        simp only [bind_ok']
        split <;> rfl
    rw [this]
    refine PostG.bind p e2 fun a st' μ b ρ' x s r ex => ?_
    cases ex
    cases r
    exact .one s rfl
  | .ite c a b, ν, ρ, st, rs, H, h => by
    unfold xe at h
    rw [ev_ite]
    obtain ⟨l, e1, e2⟩ := bndO_some h
    refine PostG.bind (xt_ok H e1) e2 fun z st' μ b' ρ' x s r ex => ?_
    cases r
    dsimp only at ex ⊢
    split at ex
    · rename_i q
      rw [if_pos q]
      exact xe_ok s ex
    · rename_i q
      rw [if_neg q]
      exact xe_ok s ex
  | .call f as bs ks π, ν, ρ, st, rs, H, h => by
    unfold xe at h
    rw [ev_call]
    exact callR_ok TB H (fun s e => xo_ok s e) (fun s e => xo_ok s e) h
  | .mut m i path as, ν, ρ, st, rs, H, h => by
    unfold xe at h
    split at h
    · rw [ev_mut]
      exact mutR_ok H (fun s e => xo_ok s e) h
    · cases h
  | .lc own t k as ifs e, ν, ρ, st, rs, H, h => by
    unfold xe at h
    rw [ev_lc]
    exact lcR_ok H (fun s e => xl_ok s e) (fun s e => xif_ok s e) (fun s e => xe_ok s e) h
  | .fz a, ν, ρ, st, rs, H, h => by
    unfold xe at h
    rw [ev_fz]
    exact fzR_ok (fun l' e => xe_ok H e) h
  | .at _ _, ν, ρ, st, rs, H, h => by simp [xe] at h
  | .dct _ _, ν, ρ, st, rs, H, h => by simp [xe] at h
theorem xt_ok : ∀ {e : Ex} {ν : List D} {ρ : Vs.Env} {st : Stt} {rs : List (Bool × Stt)}, Sat iv ν ρ st → xt E e st = some rs → PostG iv ν rs relB (evT Γ e ρ)
  | .bop k es, ν, ρ, st, rs, H, h => by
    unfold xt at h
    rw [evT_bop]
    exact xbt_ok H h
  | .not a, ν, ρ, st, rs, H, h => by
    unfold xt at h
    rw [evT_not]
    obtain ⟨l, e1, e2⟩ := bndO_some h
    refine PostG.bind (xt_ok H e1) e2 fun z st' μ b' ρ' x s r ex => ?_
    cases r
    cases ex
    exact .one s rfl
  | .lit d, ν, ρ, st, rs, H, h => by
    unfold xt at h
    rw [evT_lit]
    refine splitR_ok (fun l' e => ?_) h
    cases e
    exact .one H nrm_ok
  | .rd i, ν, ρ, st, rs, H, h => by
    unfold xt at h
    rw [evT_rd]
    exact splitR_ok (fun l' e => rdR_ok H e) h
  | .op o as, ν, ρ, st, rs, H, h => by
    unfold xt at h
    rw [evT_op]
    exact splitR_ok (fun l' e => opR_ok (fun l' e => xo_ok H e) e) h
  | .chn o o' a b c, ν, ρ, st, rs, H, h => by
    unfold xt at h
    rw [evT_chn]
    exact splitR_ok (fun l' e => chnR_ok H (fun s e => xe_ok s e) (fun s e => xe_ok s e) (fun s e => xe_ok s e) e) h
  | .call f as bs ks π, ν, ρ, st, rs, H, h => by
    unfold xt at h
    rw [evT_call]
    exact splitR_ok (fun l' e => callR_ok TB H (fun s e => xo_ok s e) (fun s e => xo_ok s e) e) h
  | .mv _, ν, ρ, st, rs, H, h => by simp [xt] at h
  | .vw _ _, ν, ρ, st, rs, H, h => by simp [xt] at h
  | .gl _, ν, ρ, st, rs, H, h => by simp [xt] at h
  | .tup _, ν, ρ, st, rs, H, h => by simp [xt] at h
  | .lst _, ν, ρ, st, rs, H, h => by simp [xt] at h
  | .ite _ _ _, ν, ρ, st, rs, H, h => by simp [xt] at h
  | .mut _ _ _ _, ν, ρ, st, rs, H, h => by simp [xt] at h
  | .lc _ _ _ _ _ _, ν, ρ, st, rs, H, h => by simp [xt] at h
  | .fz _, ν, ρ, st, rs, H, h => by simp [xt] at h
  | .at _ _, ν, ρ, st, rs, H, h => by simp [xt] at h
  | .dct _ _, ν, ρ, st, rs, H, h => by simp [xt] at h
theorem xb_ok : ∀ {es : List Ex} {k : Bool} {ν : List D} {ρ : Vs.Env} {st : Stt} {rs : List (S × Stt)}, Sat iv ν ρ st → xb E k es st = some rs → PostG iv ν rs relE (bopE k (evs Γ es) ρ)
  | [], k, ν, ρ, st, rs, H, h => by simp [xb] at h
  | [e], k, ν, ρ, st, rs, H, h => by
    unfold xb at h
    exact xe_ok H h
  | e :: f :: r, k, ν, ρ, st, rs, H, h => by
    unfold xb at h
    obtain ⟨l, e1, e2⟩ := bndO_some h
    have p := splitR_ok (f := ev Γ e) (fun l' e => xe_ok H e) e1
    have : bopE k (evs Γ (e :: f :: r)) ρ = (boolE (ev Γ e) ρ).bind fun q => if q.1 = k then bopE k (evs Γ (f :: r)) q.2 else .ok (DB q.1, q.2) := by
      show (ev Γ e ρ).bind _ = ((ev Γ e ρ).bind _).bind _
      cases ev Γ e ρ with
      | no => rfl
      | ex _ _ => rfl
      | ok x =>
        obtain ⟨d, ρ'⟩ := x
        simp only [bind_ok']
        split <;> rfl
    rw [this]
    refine PostG.bind p e2 fun z st' μ b ρ' x s q ex => ?_
    cases q
    dsimp only at ex ⊢
    split at ex
    · rename_i q
      rw [if_pos q]
      exact xb_ok s ex
    · rename_i q
      rw [if_neg q]
      cases ex
      exact .one s rfl
theorem xbt_ok : ∀ {es : List Ex} {k : Bool} {ν : List D} {ρ : Vs.Env} {st : Stt} {rs : List (Bool × Stt)}, Sat iv ν ρ st → xbt E k es st = some rs → PostG iv ν rs relB (bopT k (evTs Γ es) ρ)
  | [], k, ν, ρ, st, rs, H, h => by simp [xbt] at h
  | [e], k, ν, ρ, st, rs, H, h => by
    unfold xbt at h
    exact xt_ok H h
  | e :: f :: r, k, ν, ρ, st, rs, H, h => by
    unfold xbt at h
    obtain ⟨l, e1, e2⟩ := bndO_some h
    have : bopT k (evTs Γ (e :: f :: r)) ρ = (evT Γ e ρ).bind fun q => if q.1 = k then bopT k (evTs Γ (f :: r)) q.2 else .ok (q.1, q.2) := rfl
    rw [this]
    refine PostG.bind (xt_ok H e1) e2 fun z st' μ b ρ' x s q ex => ?_
    cases q
    dsimp only at ex ⊢
    split at ex
    · rename_i q
      rw [if_pos q]
      exact xbt_ok s ex
    · rename_i q
      rw [if_neg q]
      cases ex
      exact .one s rfl
theorem xif_ok : ∀ {es : List Ex} {ν : List D} {ρ : Vs.Env} {st : Stt} {rs : List (Bool × Stt)}, Sat iv ν ρ st → xif E es st = some rs → PostG iv ν rs relB (ifT (evTs Γ es) ρ)
  | [], ν, ρ, st, rs, H, h => by
    simp only [xif, Option.some.injEq] at h
    subst h
    exact .one H rfl
  | [e], ν, ρ, st, rs, H, h => by
    unfold xif at h
    exact xt_ok H h
  | _ :: _ :: _, ν, ρ, st, rs, H, h => by simp [xif] at h
theorem xo_ok : ∀ {es : List Ex} {ν : List D} {ρ : Vs.Env} {st : Stt} {rs : List (List Od × Stt)}, Sat iv ν ρ st → xo E es st = some rs → PostG iv ν rs relO (runO (sops Γ es) ρ)
  | [], ν, ρ, st, rs, H, h => by
    simp only [xo, Option.some.injEq] at h
    subst h
    exact .one H trivial
  | e :: es, ν, ρ, st, rs, H, h => by
    unfold xo at h
    split at h
    · rename_i i path
      split at h
      · split at h
        · rename_i s es'
          obtain ⟨l, e1, e2⟩ := bndO_some h
          obtain ⟨d, a, b⟩ := H.A.val es'
          rw [sops_v, runO_v a]
          refine PostG.bind (xo_ok H e1) e2 fun z st' μ b ρ' x s q ex => ?_
          cases ex
          exact .one s ⟨rfl, q⟩
        · cases h
      · cases h
    · rename_i hn
      obtain ⟨l, e1, e2⟩ := bndO_some h
      rw [sops_ne fun i p q => hn i p q, runO_e]
      refine PostG.bind (xe_ok H e1) e2 fun z st' μ b ρ' x s q ex => ?_
      obtain ⟨l2, e3, e4⟩ := bndO_some ex
      refine PostG.bind (xo_ok s e3) e4 fun z2 st2 μ2 b2 ρ2 x2 s2 q2 ex2 => ?_
      cases ex2
      exact .one s2 ⟨den_app q, q2⟩
theorem xl_ok : ∀ {es : List Ex} {ν : List D} {ρ : Vs.Env} {st : Stt} {rs : List (List (S × Option Nat) × Stt)}, Sat iv ν ρ st → xl E es st = some rs → PostG iv ν rs relL (runO (lops Γ es) ρ)
  | [], ν, ρ, st, rs, H, h => by
    simp only [xl, Option.some.injEq] at h
    subst h
    exact .one H trivial
  | e :: es, ν, ρ, st, rs, H, h => by
    unfold xl at h
    split at h
    · rename_i i path
      split at h
      · split at h
        · rename_i s es'
          obtain ⟨l, e1, e2⟩ := bndO_some h
          obtain ⟨d, a, b⟩ := H.A.val es'
          rw [lops_v, runO_p a rfl]
          obtain ⟨μ1, y1, y2⟩ := expS_ok H.C b
          have s1 : Sat iv (ν ++ μ1) (ρ.set i none) ⟨(expS st.C s).2, st.A.set i .un⟩ := ⟨y1, (H.A.set (a := .un) (x := none) i rfl).app⟩
          refine PostG.up (μ := μ1) (PostG.bind (xl_ok s1 e1) e2 fun z st' μ b ρ' x s q ex => ?_)
          cases ex
          exact .one s ⟨rfl, den_app y2, q⟩
        · cases h
      · cases h
    · rename_i hn
      obtain ⟨l, e1, e2⟩ := bndO_some h
      rw [lops_ne fun i p q => hn i p q, runO_e]
      refine PostG.bind (xe_ok H e1) e2 fun z st' μ b ρ' x s q ex => ?_
      obtain ⟨l2, e3, e4⟩ := bndO_some ex
      obtain ⟨μ1, y1, y2⟩ := expS_ok s.C q
      have s1 : Sat iv (ν ++ μ ++ μ1) ρ' ⟨(expS st'.C z).2, st'.A⟩ := ⟨y1, s.A.app⟩
      refine PostG.up (μ := μ1) (PostG.bind (xl_ok s1 e3) e4 fun z2 st2 μ2 b2 ρ2 x2 s2 q2 ex2 => ?_)
      cases ex2
      exact .one s2 ⟨den_app y2, q2⟩
end
end
end Ab
/-! X13: statements, done with symbolic values. -/
namespace Ab
open PySem PySem.Spec L2
open Vs hiding Env
open PyProof.Rows hiding St
/-! ### names that are still looked at (a guess, nothing hangs on it) -/
mutual
def exN : Ex → List Nat
  | .lit _ => []
  | .rd i => [i]
  | .mv i => [i]
  | .vw i _ => [i]
  | .gl _ => []
  | .tup es => exsN es
  | .lst es => exsN es
  | .op _ as => exsN as
  | .chn _ _ a b c => exN a ++ (exN b ++ exN c)
  | .bop _ es => exsN es
  | .not a => exN a
  | .ite c a b => exN c ++ (exN a ++ exN b)
  | .call _ as bs _ _ => exsN as ++ exsN bs
  | .mut _ i _ as => i :: exsN as
  | .lc own _ _ as ifs e => exsN as ++ ((exsN ifs ++ exN e).filter fun i => !own.contains i)
  | .fz a => exN a
  | .at i _ => [i]
  | .dct _ es => exsN es
def exsN : List Ex → List Nat
  | [] => []
  | e :: es => exN e ++ exsN es
end
def lessN (a b : List Nat) : List Nat := a.filter fun i => !b.contains i
def addN (a b : List Nat) : List Nat := a ++ b.filter fun i => !a.contains i
mutual
def liveS (lp out : List Nat) : Sm → List Nat
  | .asg t e => addN (exN e) (lessN out t.sl)
  | .par is es => addN (exsN es) (lessN out is)
  | .put _ i _ k e => addN (i :: exN k ++ exN e) out
  | .ex e => addN (exN e) out
  | .ite c a b => addN (exN c) (addN (liveL lp out a) (liveL lp out b))
  | .whl c b => addN (exN c) (addN out (liveL (addN (exN c) out) (addN (exN c) out) b))
  | .lop t _ as b => addN (exsN as) (addN out (lessN (liveL out out b) t.sl))
  | .ret e => exN e
  | .retN => []
  | .pass => out
  | .brk => lp
  | .cnt => lp
  | .frz i => addN [i] out
  | .bor j i _ b => addN [i] (lessN (liveL lp out b) [j])
def liveL (lp out : List Nat) : List Sm → List Nat
  | [] => out
  | s :: r => liveS lp (liveL lp out r) s
end
structure Cfg2 extends Cfg where
  spl : List Nat
  most : Nat
def litOne (st : Stt) (i n : Nat) (t : T) : Stt := match t with
  | .lit p => ⟨setT st.C n (.lit p), st.A.set i (.val (nrm p))⟩
  | t => ⟨setT st.C n t, st.A⟩
def splitI (i : Nat) (st : Stt) : List Stt := match st.A[i]? with
  | some (.val (.v n)) => match st.C[n]? with
    | some c => match rng c.t with
      | some (x, y) => if y - x ≤ 12 then (List.range (y - x + 1).toNat).map fun k => ⟨setT st.C n (.lit (.int (x + (k : Nat)))), st.A.set i (.val (.lit (.int (x + (k : Nat)))))⟩ else [st]
      | none => match c.t with
        | .uni ts => ts.map (litOne st i n)
        | .bool => [litOne st i n (.lit (.bool true)), litOne st i n (.lit (.bool false))]
        | _ => [st]
    | none => [st]
  | _ => [st]
def splitAll : List Nat → List Stt → List Stt
  | [], sts => sts
  | i :: is, sts => splitAll is (sts.flatMap (splitI i))
def nxO : List O → List Stt
  | [] => []
  | .nx st :: r => st :: nxO r
  | _ :: r => nxO r
def otO : List O → List O
  | [] => []
  | .nx _ :: r => otO r
  | o :: r => o :: otO r
def putS (C : List CE) (s k x : S) : Option (S × List CE) := match s with
  | .ls l => match k with
    | .lit (.int n) => match ixN l.length n with
      | some j => some (.ls (l.set j x), C)
      | none => none
    | k => match tyS C k, tySs C l, tyS C x with
      | some tk, some ts, some tx => match rng tk with
        | some (a, b) => if -(ts.length : Int) ≤ a ∧ b < ts.length then match joinL ts tx with
          | some us => some (push C (.ls us))
          | none => none
          else none
        | none => none
      | _, _, _ => none
  | _ => none
where joinL : List T → T → Option (List T)
  | [], _ => some []
  | t :: ts, u => match joinT t u, joinL ts u with
    | some w, some ws => some (w :: ws)
    | _, _ => none
def endO (l : List (S × Option Nat)) : O → Option (List O)
  | .nx st => match unlA l st.A with
    | some A => some [.nx ⟨st.C, A⟩]
    | none => none
  | .rt s st => match unlA l st.A with
    | some A => some [.rt s ⟨st.C, A⟩]
    | none => none
  | _ => none
def locked : List (S × Option Nat) → List Nat
  | [] => []
  | (_, some i) :: r => i :: locked r
  | (_, none) :: r => locked r
def putR (i : Nat) (xk xv : Stt → Option (List (S × Stt))) (st : Stt) : Option (List O) := bndO (xv st) fun r => match r.2.A[i]? with
  | some (.val s) => if lsB r.2.C s = true then bndO (xk ⟨r.2.C, r.2.A.set i .un⟩) fun q => match tyS q.2.C q.1 with
      | some tk => if shT tk = true then match q.2.A[i]? with
          | some .un => match putS (expS q.2.C s).2 (expS q.2.C s).1 q.1 r.1 with
            | some (s', C') => some [.nx ⟨C', q.2.A.set i (.val s')⟩]
            | none => none
          | _ => none
        else none
      | none => none
    else none
  | _ => none
/-- what goes on behind a statement -/
def onward (E : Cfg2) (p : Nat) (live : List Nat) (sts : List Stt) : List Stt := splitAll E.spl ((fun l => if E.most < l.length then mergeAll p E.keep [] l else l) (sts.map (fgt live)))
def lopStep (t : Tg) (b : Stt → Option (List O)) (el : S) (st : Stt) : Option (List O) := bnd (altS el st) fun st => match bindA t el st with
  | some st1 => b st1
  | none => none
def lopR (E : Cfg2) (t : Tg) (k : ItK) (al live : List Nat) (xa : Stt → Option (List (List (S × Option Nat) × Stt))) (b : List Nat → Nat → Stt → Option (List O)) (st : Stt) : Option (List O) := bndO (xa st) fun r => match elems r.2.C k (r.1.map (·.1)) with
  | some els => bndO (runEls (lopStep t (b (locked r.1 ++ al) r.2.C.length)) r.2.C.length E.keep (locked r.1 ++ (al ++ live)) els r.2) fun o => endO r.1 o
  | none => none
mutual
def xs (E : Cfg2) (s : Sm) (p : Nat) (al lp out : List Nat) (st : Stt) : Option (List O) := match s with
  | .asg t e => bndO (xe E.toCfg e st) fun r => bnd (altS r.1 r.2) fun st => match bindA t r.1 st with
    | some st' => some [.nx st']
    | none => none
  | .par is es => bndO (xo E.toCfg es st) fun r => match odS r.1 with
    | some ss => match setAllA is ss r.2.A with
      | some A => some [.nx ⟨r.2.C, A⟩]
      | none => none
    | none => none
  | .put dk i path k e => match dk with
    | true => none
    | false => match path with
      | [] => putR i (fun st => xe E.toCfg k st) (fun st => xe E.toCfg e st) st
      | _ :: _ => none
  | .ex e => bndO (xe E.toCfg e st) fun r => some [.nx r.2]
  | .ite c a b => bndO (xt E.toCfg c st) fun r => if r.1 = true then xss E a p al lp out r.2 else xss E b p al lp out r.2
  | .whl _ _ => none
  | .lop t k as b => lopR E t k al (addN out (lessN (liveL out out b) t.sl)) (fun st => xl E.toCfg as st) (fun al p st => xss E b p al (addN out (lessN (liveL out out b) t.sl)) (addN out (lessN (liveL out out b) t.sl)) st) st
  | .ret e => bndO (xe E.toCfg e st) fun r => some [.rt r.1 r.2]
  | .retN => some [.rt (.lit .none) st]
  | .pass => some [.nx st]
  | .brk => some [.br st]
  | .cnt => some [.ct st]
  | .frz i => match st.A[i]? with
    | some (.val s) => match fzS st.C s with
      | some (s', C') => some [.nx ⟨C', st.A.set i (.val s')⟩]
      | none => none
    | _ => none
  | .bor _ _ _ _ => none
def xss (E : Cfg2) (ss : List Sm) (p : Nat) (al lp out : List Nat) (st : Stt) : Option (List O) := match ss with
  | [] => some [.nx st]
  | s :: r => match xs E s p al lp (liveL lp out r) st with
    | none => none
    | some outs => match bnd (onward E p (al ++ liveL lp out r) (nxO outs)) (fun st => xss E r p al lp out st) with
      | none => none
      | some more => some (otO outs ++ more)
end
def outsA : List Bool → List Sl → Option (List S)
  | [], _ => some []
  | true :: io, .val s :: A => match outsA io A with
    | some l => some (s :: l)
    | none => none
  | false :: io, _ :: A => outsA io A
  | _, _ => none
def resO (io : List Bool) : O → Option (List (T × List T))
  | .nx st => match outsA io st.A with
    | some ss => match tySs st.C ss with
      | some ts => some [(.lit .none, ts)]
      | none => none
    | none => none
  | .rt s st => match outsA io st.A with
    | some ss => match tyS st.C s, tySs st.C ss with
      | some t, some ts => some [(t, ts)]
      | _, _ => none
    | none => none
  | _ => none
def leR (b a : T × List T) : Bool := leT b.1 a.1 && leTs b.2 a.2
/-- results, each once -/
def once : List (T × List T) → List (T × List T) → List (T × List T)
  | acc, [] => acc
  | acc, r :: rs => once (if acc.any (fun b => leR b r) = true then acc else acc.filter (fun a => !leR r a) ++ [r]) rs
def startA (n : Nat) (ss : List S) : List Sl := ss.map .val ++ List.replicate (n - ss.length) .un
def runF (E : Cfg2) (n : Nat) (io : List Bool) (b : List Sm) (ts : List T) : Option (List (T × List T)) := if ts.length = io.length then match xss E b 0 (ioS io 0) [] [] ⟨plainC (opns 0 ts).2, startA n (opns 0 ts).1⟩ with
  | some outs => match bnd outs (resO io) with
    | some rs => some (once [] rs)
    | none => none
  | none => none
  else none
end Ab
/-! X14: statements are right. -/
namespace Ab
open PySem PySem.Spec L2
open Vs hiding Env
open PyProof.Rows hiding St
section
variable {iv : Iv} {ν μ : List D} {p : Nat}
theorem PostG.bindO {α β : Type} {rel : List D → α → β → Prop} {rs : List (α × Stt)} {r : Res (β × Vs.Env)} {f : α × Stt → Option (List O)} {outs : List O} {k : β × Vs.Env → Out} (h : PostG iv ν rs rel r) (e : bnd rs f = some outs) (hp : p ≤ ν.length)
    (g : ∀ a st' μ b ρ' x, r = .ok (b, ρ') → Sat iv (ν ++ μ) ρ' st' → rel (ν ++ μ) a b → f (a, st') = some x → PostO iv p (ν ++ μ) x (k (b, ρ'))) : PostO iv p ν outs (r.out k) := by
  obtain ⟨a, st, μ, b, ρ, m, rfl, s, q⟩ := h
  obtain ⟨x, ex, sx⟩ := bnd_ok e m
  refine ((g a st μ b ρ x rfl s q ex).mono sx).chain ?_
  exact List.take_append_of_le_length hp
theorem PostO.one {o : O} {out : Out} {μ : List D} (hp : p ≤ ν.length) (h : holds iv (ν ++ μ) o out) : PostO iv p ν [o] out :=
  ⟨o, List.mem_singleton.mpr rfl, ν ++ μ, List.take_append_of_le_length hp, by simp; omega, h⟩
theorem PostO.one0 {o : O} {out : Out} (hp : p ≤ ν.length) (h : holds iv ν o out) : PostO iv p ν [o] out :=
  ⟨o, List.mem_singleton.mpr rfl, ν, rfl, hp, h⟩
theorem satA.setA : ∀ {A : List Sl} {ρ : Vs.Env} {a : Sl} {x : Option D} (i : Nat), satA ν A ρ → ρ[i]? = some x → satS ν a x → satA ν (A.set i a) ρ
  | [], [], _, _, _, h, _, _ => h
  | a :: A, y :: ρ, _, _, 0, h, e, g => by simp at e; subst e; exact ⟨g, h.2⟩
  | a :: A, y :: ρ, _, _, i + 1, h, e, g => ⟨h.1, satA.setA i h.2 (by simpa using e) g⟩
  | [], _ :: _, _, _, _, h, _, _ => h.elim
  | _ :: _, [], _, _, _, h, _, _ => h.elim
theorem litOne_ok {i n : Nat} {t : T} {st : Stt} {ρ : Vs.Env} {d : D} (h : Sat iv ν ρ st) (a : ρ[i]? = some (some d)) (b : ν[n]? = some d) (ht : has iv.Ω t d) : Sat iv ν ρ (litOne st i n t) := by
  unfold litOne
  split
  · rename_i p
    have e : d = .sh p := by simpa only [has] using ht
    subst e
    exact ⟨setT_ok h.C b ht, h.A.setA i a ⟨_, rfl, nrm_ok⟩⟩
  · exact ⟨setT_ok h.C b ht, h.A⟩
theorem splitI_ok {i : Nat} {st : Stt} {ρ : Vs.Env} (h : Sat iv ν ρ st) : ∃ g ∈ splitI i st, Sat iv ν ρ g := by
  unfold splitI
  have same : ∃ g ∈ [st], Sat iv ν ρ g := ⟨st, List.mem_singleton.mpr rfl, h⟩
  split
  · rename_i n en
    split
    · rename_i c ec
      split
      · rename_i x y er
        split
        · obtain ⟨d, a, b⟩ := h.A.val en
          obtain ⟨d', u, v, _⟩ := h.C.get n c ec
          have b' : ν[n]? = some d := b
          rw [b'] at u; cases u
          obtain ⟨j, rfl, j1, j2⟩ := rng_ok v er
          have ej : x + ((j - x).toNat : Nat) = j := by omega
          refine ⟨_, List.mem_map.mpr ⟨(j - x).toNat, List.mem_range.mpr (by omega), rfl⟩, ?_, ?_⟩
          · rw [ej]
            exact setT_ok h.C b' (has_lit _)
          · rw [ej]
            exact h.A.setA i a ⟨_, rfl, rfl⟩
        · exact same
      · obtain ⟨d, a, b⟩ := h.A.val en
        obtain ⟨d', u, v, _⟩ := h.C.get n c ec
        have b' : ν[n]? = some d := b
        rw [b'] at u; cases u
        split
        · rename_i ts et
          rw [et] at v
          obtain ⟨t, mt, ht⟩ := hasA_mem (by simpa only [has] using v)
          exact ⟨_, List.mem_map_of_mem mt, litOne_ok h a b' ht⟩
        · rename_i et
          rw [et] at v
          obtain ⟨z, rfl⟩ := (by simpa only [has] using v)
          cases z with
          | true => exact ⟨_, List.mem_cons_self, litOne_ok h a b' (has_lit _)⟩
          | false => exact ⟨_, List.mem_cons_of_mem _ List.mem_cons_self, litOne_ok h a b' (has_lit _)⟩
        · exact same
    · exact same
  · exact same
theorem splitAll_ok : ∀ {is : List Nat} {sts : List Stt} {st : Stt} {ρ : Vs.Env}, st ∈ sts → Sat iv ν ρ st → ∃ g ∈ splitAll is sts, Sat iv ν ρ g
  | [], sts, st, ρ, m, h => ⟨st, m, h⟩
  | i :: is, sts, st, ρ, m, h => by
    obtain ⟨g, mg, hg⟩ := splitI_ok (i := i) h
    exact splitAll_ok (is := is) (sts := sts.flatMap (splitI i)) (List.mem_flatMap.mpr ⟨st, m, mg⟩) hg
theorem onward_ok {E : Cfg2} {live : List Nat} {sts : List Stt} {st : Stt} {ρ : Vs.Env} (m : st ∈ sts) (h : Sat iv ν ρ st) (hp : p ≤ ν.length) : ∃ g ∈ onward E p live sts, ∃ ν', ν'.take p = ν.take p ∧ p ≤ ν'.length ∧ Sat iv ν' ρ g := by
  unfold onward
  have m1 : fgt live st ∈ sts.map (fgt live) := List.mem_map_of_mem m
  obtain ⟨ν1, t1, l1, h1⟩ := fgt_ok (iv := iv) (p := p) (live := live) ν ρ h hp
  dsimp only
  split
  · obtain ⟨g, mg, rg⟩ := mergeAll_ok (iv := iv) (p := p) (keep := E.keep) (acc := []) (.inl m1)
    obtain ⟨ν2, t2, l2, h2⟩ := rg ν1 ρ h1 l1
    obtain ⟨g', mg', h3⟩ := splitAll_ok (is := E.spl) mg h2
    exact ⟨g', mg', ν2, t2.trans t1, l2, h3⟩
  · obtain ⟨g', mg', h3⟩ := splitAll_ok (is := E.spl) m1 h1
    exact ⟨g', mg', ν1, t1, l1, h3⟩
theorem nxO_mem : ∀ {l : List O} {st : Stt}, .nx st ∈ l → st ∈ nxO l
  | o :: l, st, h => by
    rcases List.mem_cons.mp h with rfl | h
    · exact List.mem_cons_self
    · have := nxO_mem h
      cases o <;> simp [nxO, this]
  | [], _, h => by cases h
theorem otO_mem : ∀ {l : List O} {o : O}, o ∈ l → (∀ st, o ≠ .nx st) → o ∈ otO l
  | x :: l, o, h, n => by
    rcases List.mem_cons.mp h with rfl | h
    · cases o with
      | nx st => exact absurd rfl (n st)
      | br _ => exact List.mem_cons_self
      | ct _ => exact List.mem_cons_self
      | rt _ _ => exact List.mem_cons_self
    · have := otO_mem h n
      cases x <;> simp [otO, this]
  | [], _, h, _ => by cases h
theorem joinL_ok : ∀ {ts : List T} {u : T} {us : List T} {ds : List D} {d : D} (j : Nat), putS.joinL ts u = some us → hasL iv.Ω ts ds → has iv.Ω u d → hasL iv.Ω us (ds.set j d)
  | [], u, us, ds, d, j, h, g, _ => by
    simp only [putS.joinL, Option.some.injEq] at h
    subst h
    cases ds with
    | nil => exact trivial
    | cons _ _ => simp [hasL] at g
  | t :: ts, u, us, ds, d, j, h, g, gd => by
    unfold putS.joinL at h
    split at h
    · rename_i w ws e1 e2
      cases h
      cases ds with
      | nil => simp [hasL] at g
      | cons x ds =>
        unfold hasL at g
        cases j with
        | zero =>
          have q := joinL_ok (d := d) ds.length e2 g.2 gd
          rw [List.set_eq_of_length_le (Nat.le_refl _)] at q
          show hasL iv.Ω (w :: ws) (d :: ds)
          unfold hasL
          exact ⟨joinT_r e1 gd, q⟩
        | succ j =>
          show hasL iv.Ω (w :: ws) (x :: ds.set j d)
          unfold hasL
          exact ⟨joinT_l e1 g.1, joinL_ok j e2 g.2 gd⟩
    · cases h
theorem dens_set : ∀ {l : List S} {ds : List D} {x : S} {d : D} (j : Nat), dens ν l = some ds → den ν x = some d → dens ν (l.set j x) = some (ds.set j d)
  | [], ds, x, d, j, h, _ => by cases h; rfl
  | s :: l, ds, x, d, 0, h, g => by
    obtain ⟨d', ds', rfl, a, b⟩ := dens_cons h
    exact dens_mk g b
  | s :: l, ds, x, d, j + 1, h, g => by
    obtain ⟨d', ds', rfl, a, b⟩ := dens_cons h
    exact dens_mk a (dens_set j b g)
theorem ixN_in {n : Nat} {i : Int} (h1 : -(n : Int) ≤ i) (h2 : i < n) : ∃ j, ixN n i = some j := by
  unfold ixN
  by_cases h0 : 0 ≤ i
  · exact ⟨_, by rw [if_pos h0, if_pos h2]⟩
  · exact ⟨_, by rw [if_neg h0, if_pos h1]⟩
theorem putS_ok {C C' : List CE} {s k x s' : S} {ds : List D} {kk : PyData} {d : D} (H : satC iv ν C) (h1 : den ν s = some (.ls ds)) (h2 : den ν k = some (.sh kk)) (h3 : den ν x = some d) (e : putS C s k x = some (s', C')) : ∃ μ ds', putD false (.ls ds) kk d = some (.ls ds') ∧ satC iv (ν ++ μ) C' ∧ den (ν ++ μ) s' = some (.ls ds') := by
  unfold putS at e
  split at e
  · rename_i l
    obtain ⟨ds2, a, e2⟩ := den_ls h1
    cases e2
    have hl := dens_len a
    split at e
    · rename_i n
      cases h2
      split at e
      · rename_i j ej
        cases e
        exact ⟨[], ds.set j d, by simp only [putD, hl, ej], by simpa using H, by simp only [List.append_nil, den, dens_set j a h3]⟩
      · cases e
    · split at e
      · rename_i tk ts tx e1 e2 e3
        split at e
        · rename_i x1 y1 er
          split at e
          · rename_i q
            split at e
            · rename_i us eu
              cases e
              obtain ⟨d', a1, b1⟩ := tyS_ok H e1
              rw [h2] at a1; cases a1
              obtain ⟨i, ei, i1, i2⟩ := rng_ok b1 er
              cases ei
              obtain ⟨ds2, a2, b2⟩ := tySs_ok H e2
              rw [a] at a2; cases a2
              obtain ⟨d', a3, b3⟩ := tyS_ok H e3
              rw [h3] at a3; cases a3
              have hts := hasL_len b2
              obtain ⟨j, ej⟩ := ixN_in (n := ds.length) (i := i) (by omega) (by omega)
              have hw : has iv.Ω (.ls us) (.ls (ds.set j d)) := by
                unfold has
                exact ⟨_, rfl, joinL_ok j eu b2 b3⟩
              obtain ⟨μ, x1, x2⟩ := push_ok H hw
              exact ⟨μ, ds.set j d, by simp only [putD, ej], x1, x2⟩
            · cases e
          · cases e
        · cases e
      · cases e
  · cases e
theorem endO_ok {l : List (S × Option Nat)} {os : List Ov} {o : O} {r : List O} {out : Out} {ν' : List D} (h : holds iv ν' o out) (r1 : relL ν' l os) (e : endO l o = some r) : ∃ o' ∈ r, holds iv ν' o' (out.back (unlock os)) := by
  unfold endO at e
  split at e
  · rename_i st
    split at e
    · rename_i A eA
      cases e
      cases out <;> first | exact h.elim | skip
      have h : Sat iv ν' _ st := h
      obtain ⟨ρ', a, b⟩ := unlA_ok h.A r1 eA
      refine ⟨_, List.mem_singleton.mpr rfl, ?_⟩
      simp only [Out.back, a]
      exact ⟨h.C, b⟩
    · cases e
  · rename_i s st
    split at e
    · rename_i A eA
      cases e
      cases out <;> first | exact h.elim | skip
      obtain ⟨h, hd⟩ : Sat iv ν' _ st ∧ den ν' s = some _ := h
      obtain ⟨ρ', a, b⟩ := unlA_ok h.A r1 eA
      refine ⟨_, List.mem_singleton.mpr rfl, ?_⟩
      simp only [Out.back, a]
      exact ⟨⟨h.C, b⟩, hd⟩
    · cases e
  · cases e
def lopC (t : Tg) (b : SF) (q : PyData) : SF := fun ρ => match bindT [] t (.sh q) ρ with
  | none => .no
  | some ρ1 => b ρ1
theorem lopStep_ok {t : Tg} {b : Stt → Option (List O)} {bf : SF} {e : S} {q : PyData} {st : Stt} {ρ : Vs.Env} {outs : List O} (hb : ∀ {ν ρ st outs}, Sat iv ν ρ st → p ≤ ν.length → b st = some outs → PostO iv p ν outs (bf ρ)) (hd : den ν e = some (.sh q)) (hs : Sat iv ν ρ st) (hl : p ≤ ν.length) (he : lopStep t b e st = some outs) : PostO iv p ν outs (lopC t bf q ρ) := by
  obtain ⟨stA, mA, hsA⟩ := altS_ok (s := e) hs
  obtain ⟨xA, heA, sxA⟩ := bnd_ok he mA
  refine PostO.mono ?_ sxA
  split at heA
  · rename_i st2 eb
    obtain ⟨μ', ρ', y1, y2⟩ := bindA_ok hsA hd eb
    simp only [lopC, y1]
    exact (hb y2 (by simp; omega) heA).chain (List.take_append_of_le_length hl)
  · cases heA
theorem lopL_cl {t : Tg} {b : SF} : ∀ {qs : List PyData} {ρ : Vs.Env}, lopL t b qs ρ = cl (lopC t b) qs ρ
  | [], ρ => rfl
  | q :: qs, ρ => by
    unfold lopL cl
    simp only [lopC]
    cases bindT [] t (.sh q) ρ with
    | none => rfl
    | some ρ1 =>
      dsimp only
      cases b ρ1 with
      | nx ρ2 => exact lopL_cl
      | ct ρ2 => exact lopL_cl
      | br _ => rfl
      | rt _ _ => rfl
      | ex _ _ => rfl
      | no => rfl
theorem lopR_ok {E : Cfg2} {t : Tg} {k : ItK} {al live : List Nat} {ops : List Sop} {xa : Stt → Option (List (List (S × Option Nat) × Stt))} {b : List Nat → Nat → Stt → Option (List O)} {bf : SF} {st : Stt} {outs : List O} {ρ : Vs.Env} (H : Sat iv ν ρ st) (hp : p ≤ ν.length)
    (ha : ∀ {ν ρ st rs}, Sat iv ν ρ st → xa st = some rs → PostG iv ν rs relL (runO ops ρ)) (hb : ∀ {al p ν ρ st outs}, Sat iv ν ρ st → p ≤ ν.length → b al p st = some outs → PostO iv p ν outs (bf ρ))
    (e : lopR E t k al live xa b st = some outs) : PostO iv p ν outs (lopF t k ops bf ρ) := by
  obtain ⟨l, e1, e2⟩ := bndO_some e
  rw [lopF_eq]
  refine PostG.bindO (ha H e1) e2 hp fun a st1 μ os ρ1 x hr h1 r1 f1 => ?_
  dsimp only at f1 ⊢
  split at f1
  · rename_i els ee
    obtain ⟨outs1, e3, e4⟩ := bndO_some f1
    obtain ⟨ds, x1, x2⟩ := relL_ovs r1
    obtain ⟨qs, x3, x4⟩ := elems_ok h1.C x2 ee
    have post := runEls_ok (iv := iv) (cs := lopC t bf) (p := st1.C.length) (fun e q st ν ρ outs hd hs hl he => lopStep_ok (fun s l e => hb s l e) hd hs hl he) x4 h1 h1.C.len.symm e3
    rw [← lopL_cl] at post
    obtain ⟨o, mo, μ2, ho⟩ := post_ext post h1.C.len.symm
    obtain ⟨y, e5, sy⟩ := bnd_ok e4 mo
    obtain ⟨o', mo', ho'⟩ := endO_ok ho r1.app e5
    simp only [x1, x3]
    exact ⟨o', sy _ mo', _, List.take_append_of_le_length (by simp; omega), by simp; omega, ho'⟩
  · cases f1
theorem putR_ok {i : Nat} {k f : EF} {xk xv : Stt → Option (List (S × Stt))} {st : Stt} {outs : List O} {ρ : Vs.Env} (H : Sat iv ν ρ st) (hp : p ≤ ν.length)
    (hk : ∀ {ν ρ st rs}, Sat iv ν ρ st → xk st = some rs → PostG iv ν rs relE (k ρ)) (hf : ∀ {ν ρ st rs}, Sat iv ν ρ st → xv st = some rs → PostG iv ν rs relE (f ρ))
    (e : putR i xk xv st = some outs) : PostO iv p ν outs (putF false i [] k f ρ) := by
  obtain ⟨l, e1, e2⟩ := bndO_some e
  show PostO iv p ν outs ((f ρ).out _)
  refine PostG.bindO (hf H e1) e2 hp fun v st1 μ dv ρ1 x hr h1 r1 f1 => ?_
  dsimp only at f1 ⊢
  split at f1
  · rename_i s es
    split at f1
    · rename_i q
      obtain ⟨d, a, b⟩ := h1.A.val es
      obtain ⟨ds, rfl⟩ := lsB_ok h1.C b q
      obtain ⟨l2, e3, e4⟩ := bndO_some f1
      have s1 : Sat iv (ν ++ μ) (ρ1.set i none) ⟨st1.C, st1.A.set i .un⟩ := ⟨h1.C, h1.A.set (a := .un) (x := none) i rfl⟩
      obtain ⟨kS, st2, μ2, dk, ρ2, m2, q2, h2, r2⟩ := hk s1 e3
      obtain ⟨y, e5, sy⟩ := bnd_ok e4 m2
      dsimp only at e5
      split at e5
      · rename_i tk et
        split at e5
        · rename_i qs
          obtain ⟨d', u, w⟩ := tyS_ok h2.C et
          rw [show den _ kS = some dk from r2] at u; cases u
          obtain ⟨kk, rfl⟩ := has_sh w qs
          split at e5
          · rename_i eu
            split at e5
            · rename_i s' C' ep
              cases e5
              obtain ⟨μ3, y1, y2⟩ := expS_ok h2.C (den_app (μ := μ2) b)
              obtain ⟨μ4, ds', z1, z2, z3⟩ := putS_ok y1 y2 (den_app r2) (den_app (den_app r1)) ep
              simp only [a, getP, q2, z1, h2.A.un eu, setP]
              refine (PostO.one (p := p) (ν := ν ++ μ) (μ := μ2 ++ (μ3 ++ μ4)) (by simp; omega) ?_).mono sy
              rw [← List.append_assoc, ← List.append_assoc]
              exact ⟨z2, h2.A.app.app.set (a := .val s') (x := some (.ls ds')) i ⟨_, rfl, z3⟩⟩
            · cases e5
          · cases e5
        · cases e5
      · cases e5
    · cases f1
  · cases f1
end
section
variable {iv : Iv} {E : Cfg2} {Γ : Gam} (TB : TabOk iv E.toCfg Γ)
include TB
mutual
theorem xs_ok : ∀ {s : Sm} {p : Nat} {al lp out : List Nat} {ν : List D} {ρ : Vs.Env} {st : Stt} {outs : List O}, Sat iv ν ρ st → p ≤ ν.length → xs E s p al lp out st = some outs → PostO iv p ν outs (go Γ s ρ)
  | .asg t e, p, al, lp, out, ν, ρ, st, outs, H, hp, h => by
    unfold xs at h
    obtain ⟨l, e1, e2⟩ := bndO_some h
    rw [go_asg]
    show PostO iv p ν outs ((ev Γ e ρ).out _)
    refine PostG.bindO (xe_ok TB H e1) e2 hp fun a st1 μ b ρ1 x hr h1 r1 f1 => ?_
    dsimp only at f1 ⊢
    obtain ⟨stA, mA, hsA⟩ := altS_ok (s := a) h1
    obtain ⟨xA, heA, sxA⟩ := bnd_ok f1 mA
    refine PostO.mono ?_ sxA
    split at heA
    · rename_i st2 eb
      cases heA
      obtain ⟨μ', ρ', y1, y2⟩ := bindA_ok hsA r1 eb
      rw [y1]
      exact .one (by simp; omega) y2
    · cases heA
  | .par is es, p, al, lp, out, ν, ρ, st, outs, H, hp, h => by
    unfold xs at h
    obtain ⟨l, e1, e2⟩ := bndO_some h
    rw [go_par]
    show PostO iv p ν outs ((runO (sops Γ es) ρ).out _)
    refine PostG.bindO (xo_ok TB H e1) e2 hp fun a st1 μ b ρ1 x hr h1 r1 f1 => ?_
    dsimp only at f1 ⊢
    split at f1
    · rename_i ss es'
      split at f1
      · rename_i A eA
        cases f1
        obtain ⟨ds, x1, x2⟩ := odS_ok r1 es'
        obtain ⟨ρ', y1, y2⟩ := setAllA_ok h1.A x2 eA
        simp only [x1, y1]
        exact .one0 (by simp; omega) ⟨h1.C, y2⟩
      · cases f1
    · cases f1
  | .put dk i path k e, p, al, lp, out, ν, ρ, st, outs, H, hp, h => by
    unfold xs at h
    split at h
    · cases h
    · split at h
      · rw [go_put]
        exact putR_ok H hp (fun s e => xe_ok TB s e) (fun s e => xe_ok TB s e) h
      · cases h
  | .ex e, p, al, lp, out, ν, ρ, st, outs, H, hp, h => by
    unfold xs at h
    obtain ⟨l, e1, e2⟩ := bndO_some h
    rw [go_ex]
    show PostO iv p ν outs ((ev Γ e ρ).out _)
    refine PostG.bindO (xe_ok TB H e1) e2 hp fun a st1 μ b ρ1 x hr h1 r1 f1 => ?_
    cases f1
    exact .one0 (by simp; omega) h1
  | .ite c a b, p, al, lp, out, ν, ρ, st, outs, H, hp, h => by
    unfold xs at h
    obtain ⟨l, e1, e2⟩ := bndO_some h
    rw [go_ite]
    show PostO iv p ν outs ((evT Γ c ρ).out _)
    refine PostG.bindO (xt_ok TB H e1) e2 hp fun z st1 μ b' ρ1 x hr h1 r1 f1 => ?_
    cases r1
    dsimp only at f1 ⊢
    split at f1
    · rename_i q
      rw [if_pos q]
      exact xss_ok h1 (by simp; omega) f1
    · rename_i q
      rw [if_neg q]
      exact xss_ok h1 (by simp; omega) f1
  | .whl _ _, p, al, lp, out, ν, ρ, st, outs, H, hp, h => by simp [xs] at h
  | .lop t k as b, p, al, lp, out, ν, ρ, st, outs, H, hp, h => by
    unfold xs at h
    rw [go_lop]
    exact lopR_ok H hp (fun s e => xl_ok TB s e) (fun s q e => xss_ok s q e) h
  | .ret e, p, al, lp, out, ν, ρ, st, outs, H, hp, h => by
    unfold xs at h
    obtain ⟨l, e1, e2⟩ := bndO_some h
    rw [go_ret]
    show PostO iv p ν outs ((ev Γ e ρ).out _)
    refine PostG.bindO (xe_ok TB H e1) e2 hp fun a st1 μ b ρ1 x hr h1 r1 f1 => ?_
    cases f1
    exact .one0 (by simp; omega) ⟨h1, r1⟩
  | .retN, p, al, lp, out, ν, ρ, st, outs, H, hp, h => by
    simp only [xs, Option.some.injEq] at h
    subst h
    exact .one0 hp ⟨H, rfl⟩
  | .pass, p, al, lp, out, ν, ρ, st, outs, H, hp, h => by
    simp only [xs, Option.some.injEq] at h
    subst h
    exact .one0 hp H
  | .brk, p, al, lp, out, ν, ρ, st, outs, H, hp, h => by
    simp only [xs, Option.some.injEq] at h
    subst h
    exact .one0 hp H
  | .cnt, p, al, lp, out, ν, ρ, st, outs, H, hp, h => by
    simp only [xs, Option.some.injEq] at h
    subst h
    exact .one0 hp H
  | .frz i, p, al, lp, out, ν, ρ, st, outs, H, hp, h => by
    unfold xs at h
    split at h
    · rename_i s es
      split at h
      · rename_i s' C' ef
        cases h
        obtain ⟨d, a, b⟩ := H.A.val es
        obtain ⟨μ, q, y1, y2, y3⟩ := fzS_ok H.C b ef
        rw [go_frz]
        simp only [frzF, a, y2]
        exact .one hp ⟨y1, H.A.app.set (a := .val s') (x := some (.sh q)) i ⟨_, rfl, y3⟩⟩
      · cases h
    · cases h
  | .bor _ _ _ _, p, al, lp, out, ν, ρ, st, outs, H, hp, h => by simp [xs] at h
theorem xss_ok : ∀ {ss : List Sm} {p : Nat} {al lp out : List Nat} {ν : List D} {ρ : Vs.Env} {st : Stt} {outs : List O}, Sat iv ν ρ st → p ≤ ν.length → xss E ss p al lp out st = some outs → PostO iv p ν outs (gos Γ ss ρ)
  | [], p, al, lp, out, ν, ρ, st, outs, H, hp, h => by
    simp only [xss, Option.some.injEq] at h
    subst h
    exact .one0 hp H
  | s :: r, p, al, lp, out, ν, ρ, st, outs, H, hp, h => by
    unfold xss at h
    split at h
    · cases h
    · rename_i outs1 e1
      split at h
      · cases h
      · rename_i more e2
        cases h
        obtain ⟨o, mo, ν1, t1, l1, ho⟩ := xs_ok H hp e1
        rw [gos_cons]
        cases eg : go Γ s ρ with
        | nx ρ1 =>
          rw [eg] at ho
          cases o <;> first | exact ho.elim | skip
          obtain ⟨g, mg, ν2, t2, l2, hg⟩ := onward_ok (E := E) (live := al ++ liveL lp out r) (nxO_mem mo) ho l1
          obtain ⟨x, ex, sx⟩ := bnd_ok e2 mg
          rw [seq_nx]
          exact ((xss_ok hg l2 ex).mono fun o q => List.mem_append_right _ (sx o q)).chain (t2.trans t1)
        | br ρ1 =>
          rw [eg] at ho
          cases o <;> first | exact ho.elim | skip
          exact ⟨_, List.mem_append_left _ (otO_mem mo fun st q => by cases q), ν1, t1, l1, ho⟩
        | ct ρ1 =>
          rw [eg] at ho
          cases o <;> first | exact ho.elim | skip
          exact ⟨_, List.mem_append_left _ (otO_mem mo fun st q => by cases q), ν1, t1, l1, ho⟩
        | rt d ρ1 =>
          rw [eg] at ho
          cases o <;> first | exact ho.elim | skip
          exact ⟨_, List.mem_append_left _ (otO_mem mo fun st q => by cases q), ν1, t1, l1, ho⟩
        | ex x ρ1 => rw [eg] at ho; cases o <;> exact ho.elim
        | no => rw [eg] at ho; cases o <;> exact ho.elim
end
end
end Ab
/-! X15: defs. -/
namespace Ab
open PySem PySem.Spec L2
open Vs hiding Env
open PyProof.Rows hiding St
section
variable {iv : Iv} {ν : List D}
def RR (iv : Iv) (r y : T × List T) : Prop := ∀ d outs, has iv.Ω y.1 d → hasL iv.Ω y.2 outs → has iv.Ω r.1 d ∧ hasL iv.Ω r.2 outs
theorem leR_ok {b a : T × List T} (h : leR b a = true) : RR iv b a := fun d outs x y => by
  unfold leR at h
  rw [Bool.and_eq_true] at h
  exact ⟨leT_ok h.1 x, leTs_ok h.2 y⟩
theorem once_ok : ∀ {rs acc : List (T × List T)} {y : T × List T}, (y ∈ rs ∨ ∃ b ∈ acc, RR iv b y) → ∃ r ∈ once acc rs, RR iv r y
  | [], acc, y, h => by
    rcases h with h | h
    · cases h
    · exact h
  | r :: rs, acc, y, h => by
    unfold once
    split
    · rename_i q
      rcases h with h | h
      · rcases List.mem_cons.mp h with rfl | h
        · obtain ⟨b, mb, hb⟩ := List.any_eq_true.mp q
          exact once_ok (.inr ⟨b, mb, leR_ok hb⟩)
        · exact once_ok (.inl h)
      · exact once_ok (.inr h)
    · rcases h with h | ⟨b, mb, hb⟩
      · rcases List.mem_cons.mp h with rfl | h
        · exact once_ok (.inr ⟨y, List.mem_append_right _ (List.mem_singleton.mpr rfl), fun _ _ a b => ⟨a, b⟩⟩)
        · exact once_ok (.inl h)
      · cases z : leR r b with
        | true =>
          refine once_ok (.inr ⟨r, List.mem_append_right _ (List.mem_singleton.mpr rfl), fun d outs x y => ?_⟩)
          obtain ⟨u, v⟩ := hb d outs x y
          exact leR_ok z d outs u v
        | false => exact once_ok (.inr ⟨b, List.mem_append_left _ (List.mem_filter.mpr ⟨mb, by simp [z]⟩), hb⟩)
theorem start_ok {n : Nat} : ∀ {ss : List S} {ds : List D}, dens ν ss = some ds → satA ν (startA n ss) (ds.map some ++ List.replicate (n - ds.length) none) := by
  have rep : ∀ k : Nat, satA ν (List.replicate k .un) (List.replicate k none) := fun k => by
    induction k with
    | zero => exact trivial
    | succ k ih => exact ⟨rfl, ih⟩
  have go : ∀ {ss : List S} {ds : List D} (k : Nat), dens ν ss = some ds → satA ν (ss.map .val ++ List.replicate k .un) (ds.map some ++ List.replicate k none) := by
    intro ss
    induction ss with
    | nil => intro ds k h; cases h; exact rep k
    | cons s l ih =>
      intro ds k h
      obtain ⟨d, ds', rfl, a, b⟩ := dens_cons h
      exact ⟨⟨d, rfl, a⟩, ih k b⟩
  intro ss ds h
  have e := dens_len h
  unfold startA
  rw [← e]
  exact go _ h
theorem outsA_ok : ∀ {io : List Bool} {A : List Sl} {ρ : Vs.Env} {ss : List S}, satA ν A ρ → outsA io A = some ss → ∃ ds, outsE io ρ = some ds ∧ dens ν ss = some ds
  | [], A, ρ, ss, _, e => by
    simp only [outsA, Option.some.injEq] at e
    subst e
    exact ⟨[], rfl, rfl⟩
  | true :: io, .val s :: A, ρ, ss, h, e => by
    cases ρ with
    | nil => exact h.elim
    | cons x ρ =>
      unfold outsA at e
      split at e
      · rename_i l el
        cases e
        obtain ⟨⟨d, rfl, a⟩, h2⟩ := h
        obtain ⟨ds, b, c⟩ := outsA_ok h2 el
        exact ⟨d :: ds, by simp only [outsE_t, b], dens_mk a c⟩
      · cases e
  | false :: io, a :: A, ρ, ss, h, e => by
    cases ρ with
    | nil => exact h.elim
    | cons x ρ =>
      have e : outsA io A = some ss := by cases a <;> exact e
      obtain ⟨ds, b, c⟩ := outsA_ok h.2 e
      exact ⟨ds, by rw [outsE_f]; exact b, c⟩
  | true :: _, .un :: _, _, _, _, e => by simp [outsA] at e
  | true :: _, .top :: _, _, _, _, e => by simp [outsA] at e
  | _ :: _, [], _, _, _, e => by simp [outsA] at e
theorem runF_ok {E : Cfg2} {Γ : Gam} (TB : TabOk iv E.toCfg Γ) (n : Nat) (io : List Bool) (b : List Sm) : SpecOk iv ⟨io, runF E n io b, none⟩ (denOf Γ n io b) := by
  refine ⟨rfl, fun ts rs ds h g => ?_⟩
  have h : runF E n io b ts = some rs := h
  unfold runF at h
  split at h
  · rename_i hl
    split at h
    · rename_i outs e1
      split at h
      · rename_i rs1 e2
        cases h
        obtain ⟨μ, x1, x2⟩ := opns_ok (n := 0) g
        have x2 := x2 [] rfl
        rw [List.nil_append] at x2
        have hC : satC iv μ (plainC (opns 0 ts).2) := by
          have : satC iv [] [] := ⟨rfl, fun n c e => by simp at e⟩
          simpa using this.app x1
        have hds : ds.length = io.length := by rw [← hasL_len g]; exact hl
        obtain ⟨o, mo, ν', _, _, ho⟩ := xss_ok TB (p := 0) ⟨hC, start_ok (n := n) x2⟩ (Nat.zero_le _) e1
        obtain ⟨y, e3, sy⟩ := bnd_ok e2 mo
        have fin : ∀ (z : T × List T) (d : D) (l : List D), z ∈ rs1 → has iv.Ω z.1 d → hasL iv.Ω z.2 l → (denOf Γ n io b).m ds = .ok d l → ∃ r ∈ once [] rs1, ∃ d outs, (denOf Γ n io b).m ds = .ok d outs ∧ has iv.Ω r.1 d ∧ hasL iv.Ω r.2 outs ∧ ∀ id, (none : Option Nat) = some id → outs = [] ∧ iv.fi id ds = some d := by
          intro z d l mz h1 h2 h3
          obtain ⟨r, mr, hr⟩ := once_ok (iv := iv) (rs := rs1) (acc := []) (.inl mz)
          obtain ⟨u, v⟩ := hr d l h1 h2
          exact ⟨r, mr, d, l, h3, u, v, fun id q => by cases q⟩
        unfold resO at e3
        split at e3
        · rename_i st
          split at e3
          · rename_i ss eo
            split at e3
            · rename_i ts' et
              cases e3
              cases eg : gos Γ b (ds.map some ++ List.replicate (n - ds.length) none) with
              | nx ρ =>
                rw [eg] at ho
                have ho : Sat iv ν' ρ st := ho
                obtain ⟨l, a1, a2⟩ := outsA_ok ho.A eo
                obtain ⟨l', b1, b2⟩ := tySs_ok ho.C et
                rw [a2] at b1; cases b1
                exact fin _ (.sh .none) l (sy _ (List.mem_singleton.mpr rfl)) (has_lit _) b2 (runD_nx hds rfl eg a1)
              | br _ => rw [eg] at ho; exact ho.elim
              | ct _ => rw [eg] at ho; exact ho.elim
              | rt _ _ => rw [eg] at ho; exact ho.elim
              | ex _ _ => rw [eg] at ho; exact ho.elim
              | no => rw [eg] at ho; exact ho.elim
            · cases e3
          · cases e3
        · rename_i s st
          split at e3
          · rename_i ss eo
            split at e3
            · rename_i t ts' e4 et
              cases e3
              cases eg : gos Γ b (ds.map some ++ List.replicate (n - ds.length) none) with
              | rt d ρ =>
                rw [eg] at ho
                obtain ⟨ho, hd⟩ : Sat iv ν' ρ st ∧ den ν' s = some d := ho
                obtain ⟨l, a1, a2⟩ := outsA_ok ho.A eo
                obtain ⟨l', b1, b2⟩ := tySs_ok ho.C et
                rw [a2] at b1; cases b1
                obtain ⟨d', c1, c2⟩ := tyS_ok ho.C e4
                rw [hd] at c1; cases c1
                exact fin _ d l (sy _ (List.mem_singleton.mpr rfl)) c2 b2 (runD_rt hds rfl eg a1)
              | br _ => rw [eg] at ho; exact ho.elim
              | ct _ => rw [eg] at ho; exact ho.elim
              | nx _ => rw [eg] at ho; exact ho.elim
              | ex _ _ => rw [eg] at ho; exact ho.elim
              | no => rw [eg] at ho; exact ho.elim
            · cases e3
          · cases e3
        · cases e3
      · cases h
    · cases h
  · cases h
end
end Ab
/-! X16: looks at a run. -/
namespace Ab
open PySem PySem.Spec L2
open Vs hiding Env
open PyProof.Rows hiding St
/-- how many ends the first k statements have -/
def runK (E : Cfg2) (n : Nat) (io : List Bool) (b : List Sm) (ts : List T) (k : Nat) : Option Nat := match xss E (b.take k) 0 (ioS io 0) [] (liveL [] [] (b.drop k)) ⟨plainC (opns 0 ts).2, startA n (opns 0 ts).1⟩ with
  | some outs => some outs.length
  | none => none
def okK (E : Cfg2) (n : Nat) (io : List Bool) (b : List Sm) (ts : List T) (k : Nat) : Bool := (runK E n io b ts k).isSome
/-- every result lies within -/
def resIs (o : Option (List (T × List T))) (t : T) (outs : List T) : Bool := match o with
  | some l => l.all fun r => leR (t, outs) r
  | none => false
def resLen (o : Option (List (T × List T))) : Nat := match o with
  | some l => l.length
  | none => 0
/-- a spec told by a table: each row looked at once -/
def tabSpec (io : List Bool) (l : List (List T × T × List T)) : Ab.Spec := ⟨io, fun ts => match l.find? (fun e => leTs e.1 ts) with
  | some e => some [(e.2.1, e.2.2)]
  | none => none, none⟩
theorem tab_ok {iv : Iv} {sp : Ab.Spec} {dn : Den} {l : List (List T × T × List T)} (h : SpecOk iv sp dn) (q : (l.all fun e => resIs (sp.ty e.1) e.2.1 e.2.2) = true) : SpecOk iv (tabSpec sp.io l) dn := by
  refine ⟨h.1, fun ts rs ds e g => ?_⟩
  unfold tabSpec at e
  dsimp only at e
  split at e
  · rename_i r er
    cases e
    have m := List.mem_of_find?_eq_some er
    have le : leTs r.1 ts = true := by
      have := List.find?_some er
      simpa using this
    have qr := List.all_eq_true.mp q r m
    unfold resIs at qr
    split at qr
    · rename_i rs2 e2
      obtain ⟨r2, m2, d, outs, x1, x2, x3, _⟩ := h.2 r.1 rs2 ds e2 (leTs_ok le g)
      have z := List.all_eq_true.mp qr r2 m2
      unfold leR at z
      rw [Bool.and_eq_true] at z
      exact ⟨_, List.mem_singleton.mpr rfl, d, outs, x1, leT_ok z.1 x2, leTs_ok z.2 x3, fun id q => by cases q⟩
    · cases qr
  · cases e
end Ab
/-! X17: loops that look for the first fault. -/
namespace Ab
open PySem PySem.Spec L2
open Vs hiding Env
open PyProof.Rows hiding St
def fstE (F : Int → PyData → Option D) : Int → List PyData → Option D
  | _, [] => none
  | i, x :: l => match F i x with
    | some d => some d
    | none => fstE F (i + 1) l
/-- behind a loop over enumerate that returns at the first fault -/
def EndE (r : Option D) (I : Vs.Env → Prop) (o : Out) : Prop := match r with
  | some d => ∃ ρ, o = .rt d ρ ∧ I ρ
  | none => ∃ ρ, o = .nx ρ ∧ I ρ
theorem enum_find {t : Tg} {b : SF} (F : Int → PyData → Option D) (I : Vs.Env → Prop) : ∀ (l : List PyData) (i : Int) (ρ : Vs.Env), I ρ → (∀ x ∈ l, ∀ i ρ, I ρ → ∃ ρ1, bindT [] t (.sh (.tuple [.int i, x])) ρ = some ρ1 ∧ EndE (F i x) I (b ρ1)) → EndE (fstE F i l) I (lopL t b (enumD i l) ρ)
  | [], i, ρ, h, _ => ⟨ρ, rfl, h⟩
  | x :: l, i, ρ, h, g => by
    obtain ⟨ρ1, e1, e2⟩ := g x List.mem_cons_self i ρ h
    unfold fstE
    simp only [enumD, lopL, e1]
    cases e : F i x with
    | some d =>
      rw [e] at e2
      obtain ⟨ρ2, e3, h3⟩ := e2
      simp only [e3]
      exact ⟨ρ2, rfl, h3⟩
    | none =>
      rw [e] at e2
      obtain ⟨ρ2, e3, h2⟩ := e2
      simp only [e3]
      exact enum_find F I l (i + 1) ρ2 h2 fun y hy => g y (List.mem_cons_of_mem _ hy)
theorem fstE_congr {F G : Int → PyData → Option D} : ∀ {l : List PyData} {i : Int}, (∀ x ∈ l, ∀ i, F i x = G i x) → fstE F i l = fstE G i l
  | [], _, _ => rfl
  | x :: l, i, h => by
    unfold fstE
    rw [h x List.mem_cons_self, fstE_congr fun y hy => h y (List.mem_cons_of_mem _ hy)]
/-- what holds of the first fault -/
theorem fstE_some {F : Int → PyData → Option D} {P : D → Prop} : ∀ {l : List PyData} {i : Int} {d : D}, fstE F i l = some d → (∀ x ∈ l, ∀ j d, i ≤ j → j < i + l.length → F j x = some d → P d) → P d
  | x :: l, i, d, h, g => by
    unfold fstE at h
    split at h
    · rename_i e
      cases h
      exact g x List.mem_cons_self i d (by omega) (by simp; omega) e
    · exact fstE_some h fun y hy j d j1 j2 e => g y (List.mem_cons_of_mem _ hy) j d (by omega) (by simp; omega) e
  | [], _, _, h, _ => by simp [fstE] at h
/-- an integer within bounds, no bool -/
def isN (p : PyData) (lo hi : Int) : Bool := match p with
  | .int i => decide (lo ≤ i) && decide (i ≤ hi)
  | _ => false
theorem truth_of {iv : Iv} {sp : Ab.Spec} {dn : Den} {ts us : List T} {ds : List D} {q : PyData} (h : SpecOk iv sp dn) (r : resIs (sp.ty ts) (.lit q) us = true) (g : hasL iv.Ω ts ds) : ∃ outs, dn.m ds = .ok (.sh q) outs := by
  unfold resIs at r
  split at r
  · rename_i rs e
    obtain ⟨r2, m2, d, outs, x1, x2, x3, _⟩ := h.2 ts rs ds e g
    have z := List.all_eq_true.mp r r2 m2
    unfold leR at z
    rw [Bool.and_eq_true] at z
    have x2 := leT_ok z.1 x2
    have x2 : d = .sh q := by simpa only [has] using x2
    exact ⟨outs, x2 ▸ x1⟩
  · cases r
def frD : FR → Option D
  | .ok d [] => some d
  | _ => none
section
variable {Γ : Gam} {ρ : Vs.Env}
@[simp] theorem chnE_eq {o o' : List D → Option D} {a b c : EF} : chnE o o' a b c ρ = (runO [.e a, .e b] ρ).bind fun q => match ods q.1 with
  | some [x, y] => match o [x, y] with
    | some (.sh (.bool true)) => (c q.2).bind fun z => match o' [y, z.1] with
      | some d => .ok (d, z.2)
      | none => .no
    | some (.sh (.bool false)) => .ok (DB false, q.2)
    | _ => .no
  | _ => .no := (rfl)
@[simp] theorem ev_gl {x : Str} : ev Γ (.gl x) ρ = glE (Γ.con x) ρ := (rfl)
@[simp] theorem glE_some {d : PyData} : glE (some d) ρ = .ok (.sh d, ρ) := (rfl)
end
end Ab
/-! XP: plain facts of operations on known values, for proofs by hand. -/
namespace Pl
open PySem PySem.Spec L2 Ab
open Vs hiding Env
open PyProof.Rows hiding St
/-! ### shaped, equal -/
theorem sh_gd {p : PyData} (h : gdB p = true) (d : p.depth ≤ 64) : SeqAt.shaped p = true := by
  simp [SeqAt.shaped, gd_lay h]; exact d
@[simp] theorem sh_int {i : Int} : SeqAt.shaped (.int i) = true := rfl
@[simp] theorem sh_bool {i : Bool} : SeqAt.shaped (.bool i) = true := rfl
@[simp] theorem sh_none : SeqAt.shaped .none = true := rfl
theorem oEq_sh {neg : Bool} {p q : PyData} (h : SeqAt.shaped p = true) (g : SeqAt.shaped q = true) : oEq neg (.sh p) (.sh q) = some (DB (neg != PyData.eqv p q)) := by
  simp only [oEq, D.py, h, g, Bool.and_self, guardO_true]
theorem eqvS {s t : Str} : PyData.eqv (.str s) (.str t) = decide (s = t) := by
  simp only [PyData.eqv]
  by_cases q : s = t
  · simp [q]
  · have : (s == t) = false := by simpa using q
    simp [q, this]
theorem eqvI {i j : Int} : PyData.eqv (.int i) (.int j) = decide (i = j) := by
  simp only [PyData.eqv]
  by_cases q : i = j
  · simp [q]
  · have : (i == j) = false := by simpa using q
    simp [q, this]
theorem eqv_tup {a b : List PyData} : PyData.eqv (.tuple a) (.tuple b) = PyData.eqvAll a b := by simp only [PyData.eqv]
theorem eqvAll_cons {a b : PyData} {l m : List PyData} : PyData.eqvAll (a :: l) (b :: m) = (PyData.eqv a b && PyData.eqvAll l m) := by simp only [PyData.eqvAll]
theorem eqvAll_len : ∀ {a b : List PyData}, a.length ≠ b.length → PyData.eqvAll a b = false
  | [], [], h => absurd rfl h
  | [], _ :: _, _ => by simp [PyData.eqvAll]
  | _ :: _, [], _ => by simp [PyData.eqvAll]
  | a :: l, b :: m, h => by rw [eqvAll_cons, eqvAll_len (by simpa using h), Bool.and_false]
mutual
theorem eqv_refl : ∀ {p : PyData}, gdB p = true → PyData.eqv p p = true
  | .none, _ => by simp [PyData.eqv]
  | .bool _, _ => by simp [PyData.eqv]
  | .int _, _ => by simp [PyData.eqv]
  | .str _, _ => by simp [PyData.eqv]
  | .list l, h => by simp only [PyData.eqv]; exact eqvAll_refl (by simpa [gdB] using h)
  | .tuple l, h => by simp only [PyData.eqv]; exact eqvAll_refl (by simpa [gdB] using h)
  | .dict _, h => by simp [gdB] at h
theorem eqvAll_refl : ∀ {l : List PyData}, gdBs l = true → PyData.eqvAll l l = true
  | [], _ => by simp [PyData.eqvAll]
  | a :: l, h => by
    have h : gdB a = true ∧ gdBs l = true := by simpa [gdBs] using h
    rw [eqvAll_cons, eqv_refl h.1, eqvAll_refl h.2]; rfl
end
theorem oEq_str {neg : Bool} {s t : Str} (h : gdB (.str s) = true) (g : gdB (.str t) = true) : oEq neg (.sh (.str s)) (.sh (.str t)) = some (DB (neg != decide (s = t))) := by
  rw [oEq_sh (sh_gd h (by simp [PyData.depth])) (sh_gd g (by simp [PyData.depth])), eqvS]
theorem oEq_int {neg : Bool} {i j : Int} : oEq neg (.sh (.int i)) (.sh (.int j)) = some (DB (neg != decide (i = j))) := by
  rw [oEq_sh rfl rfl, eqvI]
/-- x == (), x != () -/
theorem oEq_nil {neg : Bool} {l : List PyData} (h : SeqAt.shaped (.tuple l) = true) : oEq neg (.sh (.tuple l)) (.sh (.tuple [])) = some (DB (neg != l.isEmpty)) := by
  rw [oEq_sh h (by decide), eqv_tup]
  cases l <;> simp [PyData.eqvAll]
theorem gd_ints : ∀ l : List Int, (∀ i ∈ l, i.natAbs < 10 ^ 38) → gdBs (l.map .int) = true
  | [], _ => rfl
  | i :: l, h => by
    simp only [List.map_cons, gdBs, gdB, Bool.and_eq_true, decide_eq_true_eq]
    exact ⟨h i List.mem_cons_self, gd_ints l fun j hj => h j (List.mem_cons_of_mem _ hj)⟩
theorem ints_lay : ∀ l : List Int, PyData.canLayAll0 (l.map .int) = true
  | [] => rfl
  | _ :: l => by simp [PyData.canLayAll0, PyData.canLay0, ints_lay l]
theorem ints_dep : ∀ l : List Int, PyData.depthAll (l.map .int) = 0
  | [] => rfl
  | _ :: l => by simp [PyData.depthAll, PyData.depth, ints_dep l]
theorem sh_ints (l : List Int) : SeqAt.shaped (.tuple (l.map .int)) = true := by
  simp only [SeqAt.shaped, PyData.canLay0, PyData.depth, ints_lay, ints_dep]; decide
theorem sh_intsL (l : List Int) : SeqAt.shaped (.list (l.map .int)) = true := by
  simp only [SeqAt.shaped, PyData.canLay0, PyData.depth, ints_lay, ints_dep]; decide
@[simp] theorem opD_rev {a : D} : opD .rev [a] = oRev a := (rfl)
/-! ### items, slices -/
theorem atI0 {a : PyData} {l : List PyData} : atI (a :: l) 0 = some a := by simp [atI, ixN]
theorem atI1 {a b : PyData} {l : List PyData} : atI (a :: b :: l) 1 = some b := by
  have : (1 : Int) < (l.length : Int) + 1 + 1 := by omega
  simp [atI, ixN, this]
theorem atI2 {a b c : PyData} {l : List PyData} : atI (a :: b :: c :: l) 2 = some c := by
  have : (2 : Int) < (l.length : Int) + 1 + 1 + 1 := by omega
  simp [atI, ixN, this]
theorem atI3 {a b c d : PyData} {l : List PyData} : atI (a :: b :: c :: d :: l) 3 = some d := by
  have : (3 : Int) < (l.length : Int) + 1 + 1 + 1 + 1 := by omega
  simp [atI, ixN, this]
theorem at_of {l : List PyData} {i : Int} {x : PyData} (h0 : 0 ≤ i) (h : l[i.toNat]? = some x) : atI l i = some x := by
  have h1 := (List.getElem?_eq_some_iff.mp h).1
  unfold atI ixN
  rw [if_pos h0, if_pos (by omega)]
  exact h
theorem ix_neg {n : Nat} {i : Int} (h0 : i < 0) (h : 0 ≤ i + n) : ixN n i = some (i + n).toNat := by
  unfold ixN
  rw [if_neg (by omega), if_pos (by omega : -(n : Int) ≤ i)]
theorem at_last {l : List PyData} {x : PyData} : atI (l ++ [x]) (-1) = some x := by
  unfold atI
  have h3 : (-1 + ((l ++ [x]).length : Int)).toNat = l.length := by simp; omega
  rw [ix_neg (by omega) (by simp; omega), h3]
  simp
theorem sIx_neg {n d : Nat} {k : Int} (h : k < 0) : HT.sIx n d (some k) = (k + (n : Int)).toNat := by
  show (if k < 0 then (k + (n : Int)).toNat else min k.toNat n) = _
  rw [if_pos h]
theorem sIx_pos {n d : Nat} {k : Int} (h : 0 ≤ k) : HT.sIx n d (some k) = min k.toNat n := by
  show (if k < 0 then (k + (n : Int)).toNat else min k.toNat n) = _
  rw [if_neg (by omega)]
theorem cut_init {l : List PyData} {x : PyData} : cutL (l ++ [x]) none (some (-1)) = l := by
  unfold cutL
  rw [sIx_neg (by omega), HT.sIx_none]
  have h : (-1 + ((l ++ [x]).length : Int)).toNat = l.length := by simp; omega
  rw [h]
  simp
theorem cut_init0 : cutL [] none (some (-1)) = [] := by simp [cutL]
theorem cut_from {l : List PyData} {k : Int} (h : 0 ≤ k) : cutL l (some k) none = l.drop k.toNat := by
  unfold cutL
  rw [sIx_pos h, HT.sIx_none]
  by_cases h2 : k.toNat ≤ l.length
  · rw [Nat.min_eq_left h2]
    rw [List.take_of_length_le (by simp)]
  · rw [Nat.min_eq_right (by omega), List.drop_of_length_le (Nat.le_refl _), List.drop_of_length_le (by omega)]
    simp
theorem cut_back {l : List PyData} {k : Int} (h : k < 0) : cutL l (some k) none = l.drop (l.length - (-k).toNat) := by
  unfold cutL
  rw [sIx_neg h, HT.sIx_none]
  have : (k + (l.length : Int)).toNat = l.length - (-k).toNat := by omega
  rw [this, List.take_of_length_le (by simp)]
theorem cut_to {l : List PyData} {k : Int} (h : 0 ≤ k) : cutL l none (some k) = l.take k.toNat := cut_H h
theorem add_tup {a b : List PyData} (h : a.length + b.length ≤ 1000000) : oAdd (.sh (.tuple a)) (.sh (.tuple b)) = some (.sh (.tuple (a ++ b))) := oAdd_tups h
theorem drop_map {α β : Type} (f : α → β) (l : List α) (n : Nat) : (l.map f).drop n = (l.drop n).map f := by rw [List.map_drop]
/-! ### repr and its comparing -/
theorem oRepr_gd {d : D} {p : PyData} {a w : Nat} (e : d.py = some p) (h : Gd a w p) (h1 : a ≤ 60) (h2 : w ≤ 400000) : oRepr d = some (.sh (.str p.shown)) := Gd.repr e h h1 h2
theorem sh_shown {p : PyData} (h : gdB p = true) : SeqAt.shaped (.str p.shown) = true := by
  have := ok_iff.mpr (ok_shown h)
  simp [SeqAt.shaped, PyData.canLay0, PyData.depth, this]
theorem eq_shown {neg : Bool} {p q : PyData} (h : gdB p = true) (g : gdB q = true) : oEq neg (.sh (.str p.shown)) (.sh (.str q.shown)) = some (DB (neg != decide (p.shown = q.shown))) := by
  rw [oEq_sh (sh_shown h) (sh_shown g), eqvS]
/-- what is shown alike -/
theorem same_shown {p : PyData} (h : gdB p = true) : oEq true (.sh (.str p.shown)) (.sh (.str p.shown)) = some (DB false) := by
  rw [eq_shown h h]; simp
end Pl
/-! XB: the executor on a block of statements, from types of the slots to types of the slots. -/
namespace Ab
open PySem PySem.Spec L2
open Vs hiding Env
open PyProof.Rows hiding St
def opnO (n : Nat) : List (Option T) → List Sl × List T
  | [] => ([], [])
  | none :: r => (.top :: (opnO n r).1, (opnO n r).2)
  | some t :: r => (.val (opn n t).1 :: (opnO (n + (opn n t).2.length) r).1, (opn n t).2 ++ (opnO (n + (opn n t).2.length) r).2)
def hasO (Ω : Pi) : List (Option T) → Vs.Env → Prop
  | [], [] => True
  | none :: r, _ :: ρ => hasO Ω r ρ
  | some t :: r, x :: ρ => (∃ d, x = some d ∧ has Ω t d) ∧ hasO Ω r ρ
  | _, _ => False
def tyO (C : List CE) : List Sl → List (Option T)
  | [] => []
  | .val s :: r => tyS C s :: tyO C r
  | _ :: r => none :: tyO C r
def leO : List (Option T) → List (Option T) → Bool
  | [], [] => true
  | none :: a, _ :: b => leO a b
  | some t :: a, some u :: b => leT t u && leO a b
  | _, _ => false
/-- what may come behind a block: the slots' types; a value and the slots' types -/
inductive BR where
  | nx (l : List (Option T))
  | rt (t : T) (l : List (Option T))
def brO : O → Option BR
  | .nx st => some (.nx (tyO st.C st.A))
  | .rt s st => match tyS st.C s with
    | some t => some (.rt t (tyO st.C st.A))
    | none => none
  | _ => none
def brs : List O → Option (List BR)
  | [] => some []
  | o :: r => match brO o, brs r with
    | some x, some l => some (x :: l)
    | _, _ => none
def runB (E : Cfg2) (b : List Sm) (ts : List (Option T)) : Option (List BR) := match xss E b 0 [] [] (List.range ts.length) ⟨plainC (opnO 0 ts).2, (opnO 0 ts).1⟩ with
  | some outs => brs outs
  | none => none
/-- one of these lies above -/
def BR.le : BR → BR → Bool
  | .nx a, .nx b => leO a b
  | .rt t a, .rt u b => leT t u && leO a b
  | _, _ => false
def blkIs (E : Cfg2) (b : List Sm) (ts : List (Option T)) (rs : List BR) : Bool := match runB E b ts with
  | some l => l.all fun x => rs.any fun r => r.le x
  | none => false
def BR.of (Ω : Pi) : BR → Out → Prop
  | .nx l, .nx ρ => hasO Ω l ρ
  | .rt t l, .rt d ρ => has Ω t d ∧ hasO Ω l ρ
  | _, _ => False
section
variable {iv : Iv}
theorem opnO_ok : ∀ {ts : List (Option T)} {ρ : Vs.Env} {n : Nat}, hasO iv.Ω ts ρ → ∃ μ, hasL iv.Ω (opnO n ts).2 μ ∧ ∀ ν κ : List D, ν.length = n → satA (ν ++ μ ++ κ) (opnO n ts).1 ρ
  | [], [], n, _ => ⟨[], trivial, fun _ _ _ => trivial⟩
  | none :: r, x :: ρ, n, h => by
    obtain ⟨μ, a, b⟩ := opnO_ok (ts := r) (ρ := ρ) (n := n) h
    exact ⟨μ, a, fun ν κ e => ⟨trivial, b ν κ e⟩⟩
  | some t :: r, x :: ρ, n, h => by
    obtain ⟨⟨d, rfl, g⟩, h⟩ := h
    obtain ⟨μ1, a1, b1⟩ := opn_ok (n := n) g
    obtain ⟨μ2, a2, b2⟩ := opnO_ok (n := n + (opn n t).2.length) h
    have hl := hasL_len a1
    refine ⟨μ1 ++ μ2, hasL_app a1 a2, fun ν κ e => ⟨⟨d, rfl, ?_⟩, ?_⟩⟩
    · rw [← List.append_assoc, List.append_assoc]
      exact den_app (b1 ν e)
    · have := b2 (ν ++ μ1) κ (by rw [List.length_append, e, hl])
      rw [← List.append_assoc]
      exact this
  | [], _ :: _, _, h => h.elim
  | none :: _, [], _, h => h.elim
  | some _ :: _, [], _, h => h.elim
theorem tyO_ok {C : List CE} {ν : List D} (hC : satC iv ν C) : ∀ {A : List Sl} {ρ : Vs.Env}, satA ν A ρ → hasO iv.Ω (tyO C A) ρ
  | [], [], _ => trivial
  | .val s :: A, x :: ρ, h => by
    obtain ⟨⟨d, rfl, a⟩, h⟩ := h
    unfold tyO
    cases e : tyS C s with
    | none => exact tyO_ok hC h
    | some t =>
      obtain ⟨d', b, c⟩ := tyS_ok hC e
      rw [a] at b; cases b
      exact ⟨⟨d, rfl, c⟩, tyO_ok hC h⟩
  | .un :: A, x :: ρ, h => tyO_ok (A := A) (ρ := ρ) hC h.2
  | .top :: A, x :: ρ, h => tyO_ok (A := A) (ρ := ρ) hC h.2
  | [], _ :: _, h => h.elim
  | .val _ :: _, [], h => h.elim
  | .un :: _, [], h => h.elim
  | .top :: _, [], h => h.elim
theorem leO_ok {Ω : Pi} : ∀ {a b : List (Option T)} {ρ : Vs.Env}, leO a b = true → hasO Ω b ρ → hasO Ω a ρ
  | [], [], [], _, _ => trivial
  | none :: a, none :: b, x :: ρ, h, g => leO_ok (a := a) (b := b) h g
  | none :: a, some _ :: b, x :: ρ, h, g => leO_ok (a := a) (b := b) h g.2
  | some t :: a, some u :: b, x :: ρ, h, g => by
    unfold leO at h
    rw [Bool.and_eq_true] at h
    obtain ⟨⟨d, rfl, z⟩, g⟩ := g
    exact ⟨⟨d, rfl, leT_ok h.1 z⟩, leO_ok h.2 g⟩
  | some _ :: _, none :: _, _, h, _ => by simp [leO] at h
  | some _ :: _, [], _, h, _ => by simp [leO] at h
  | [], _ :: _, _, h, _ => by simp [leO] at h
  | none :: _, [], _, h, _ => by simp [leO] at h
  | none :: _, none :: _, [], _, g => g.elim
  | none :: _, some _ :: _, [], _, g => g.elim
  | some _ :: _, some _ :: _, [], _, g => g.elim
  | [], [], _ :: _, _, g => g.elim
theorem BR.le_ok {Ω : Pi} {a b : BR} {o : Out} (h : a.le b = true) (g : b.of Ω o) : a.of Ω o := by
  cases a <;> cases b <;> first | (simp [BR.le] at h; done) | skip
  · cases o <;> first | exact g.elim | exact leO_ok h g
  · cases o <;> first | exact g.elim | skip
    simp only [BR.le, Bool.and_eq_true] at h
    exact ⟨leT_ok h.1 g.1, leO_ok h.2 g.2⟩
theorem brs_ok : ∀ {outs : List O} {l : List BR}, brs outs = some l → ∀ o ∈ outs, ∃ r ∈ l, brO o = some r
  | [], _, _, _, m => by cases m
  | o :: outs, l, h, o', m => by
    unfold brs at h
    split at h
    · rename_i x l' e1 e2
      cases h
      rcases List.mem_cons.mp m with rfl | m
      · exact ⟨x, List.mem_cons_self, e1⟩
      · obtain ⟨r, a, b⟩ := brs_ok e2 o' m
        exact ⟨r, List.mem_cons_of_mem _ a, b⟩
    · cases h
variable {E : Cfg2} {Γ : Gam}
theorem runB_ok (TB : TabOk iv E.toCfg Γ) {b : List Sm} {ts : List (Option T)} {l : List BR} {ρ : Vs.Env} (h : runB E b ts = some l) (g : hasO iv.Ω ts ρ) : ∃ r ∈ l, r.of iv.Ω (gos Γ b ρ) := by
  unfold runB at h
  split at h
  · rename_i outs e
    obtain ⟨μ, x1, x2⟩ := opnO_ok (n := 0) g
    have x2 := x2 [] [] rfl
    rw [List.nil_append, List.append_nil] at x2
    have hC : satC iv μ (plainC (opnO 0 ts).2) := by
      have : satC iv [] [] := ⟨rfl, fun n c e => by simp at e⟩
      simpa using this.app x1
    obtain ⟨o, mo, ν', _, _, ho⟩ := xss_ok TB (p := 0) ⟨hC, x2⟩ (Nat.zero_le _) e
    obtain ⟨r, mr, er⟩ := brs_ok h o mo
    refine ⟨r, mr, ?_⟩
    cases o with
    | nx st =>
      cases er
      cases eg : gos Γ b ρ <;> rw [eg] at ho <;> first | exact ho.elim | exact tyO_ok ho.C ho.A
    | rt s st =>
      replace er : (match tyS st.C s with | some t => some (BR.rt t (tyO st.C st.A)) | none => none) = some r := er
      split at er
      · rename_i t et
        cases er
        cases eg : gos Γ b ρ <;> rw [eg] at ho <;> first | exact ho.elim | skip
        obtain ⟨ho, hd⟩ := ho
        obtain ⟨d', b1, b2⟩ := tyS_ok ho.C et
        rw [hd] at b1; cases b1
        exact ⟨b2, tyO_ok ho.C ho.A⟩
      · cases er
    | br st => cases er
    | ct st => cases er
  · cases h
/-- behind a block: one of these -/
theorem blk_ok (TB : TabOk iv E.toCfg Γ) {b : List Sm} {ts : List (Option T)} {rs : List BR} {ρ : Vs.Env} (h : blkIs E b ts rs = true) (g : hasO iv.Ω ts ρ) : ∃ r ∈ rs, r.of iv.Ω (gos Γ b ρ) := by
  unfold blkIs at h
  split at h
  · rename_i l e
    obtain ⟨x, mx, hx⟩ := runB_ok TB e g
    obtain ⟨r, mr, hr⟩ := List.any_eq_true.mp (List.all_eq_true.mp h x mx)
    exact ⟨r, mr, BR.le_ok hr hx⟩
  · cases h
theorem gos_append : ∀ {a b : List Sm} {ρ : Vs.Env}, gos Γ (a ++ b) ρ = (gos Γ a ρ).seq (gos Γ b)
  | [], b, ρ => rfl
  | s :: a, b, ρ => by
    rw [List.cons_append, gos_cons, gos_cons]
    cases go Γ s ρ with
    | nx ρ1 => rw [seq_nx, seq_nx]; exact gos_append
    | br _ => rfl
    | ct _ => rfl
    | rt _ _ => rfl
    | ex _ _ => rfl
    | no => rfl
end
end Ab
namespace T17
open PySem PySem.Spec L2 Vs
open PyProof.Rows hiding St
def top (i : Nat) : Stmt := PySem.Challenge.pw_markkeepers_k17_whole_classes_of_states.main.body.getD i (.Pass ⟨0, 0, 0, 0⟩)
def bl : List Str := ["len", "tuple", "zip", "abs", "int", "list", "range", "enumerate", "repr"]
def pats (f : Str) : List Pat := if f = "numbered" then [(1, [], [0])] else if f = "classes" then [(2, [], [0, 1]), (0, ["vector", "teller"], [1, 0])] else if f = "seen_at" then [(2, [], [0, 1]), (0, ["states", "vector"], [1, 0])] else if f = "_law_pot" then [(1, [], [0])] else if f = "_law_draw" then [(2, [], [0, 1])] else if f = "_law_pick" then [(2, [], [0, 1])] else if f = "_law_mixed" then [(2, [], [0, 1])] else if f = "_law_row" then [(3, [], [0, 1, 2])] else if f = "_law_teller" then [(4, [], [0, 1, 2, 3])] else if f = "_law_some_teller" then [(1, [], [0])] else if f = "_law_ahead" then [(3, [], [0, 1, 2])] else if f = "_law_numbers" then [(1, [], [0])] else if f = "_law_classes" then [(2, [], [0, 1])] else []
def con : Str → Option PyData := fun x => none
abbrev s_numbered : Stmt := top 1
def N_numbered : List Str := ["keys", "key", "known", "found"]
def P_numbered : List Str := ["keys"]
def io_numbered : List Bool := [false]
def b_numbered : List Sm := [
  .par [2, 3] [.dct [] [], .lst []],
  .lop (.nm 1) .seq [.rd 0] [.ite (.op .notin [.vw 1 [], .vw 2 []]) [.put true 2 [] (.rd 1) (.op .len [.vw 2 []])] [], .ex (.mut .append 3 [] [.op .ix [.vw 2 [], .vw 1 []]])],
  .ret (.op .tuple [.vw 3 []])]
def Γ_numbered : Gam := ⟨con, fun f => none⟩
def d_numbered : Den := denOf Γ_numbered 4 io_numbered b_numbered
theorem ok_numbered : mSs ⟨defScope s_numbered, N_numbered, bl, pats⟩ (fun _ => true) (ioS io_numbered 0) b_numbered (defBody s_numbered) = true := by decide +kernel
theorem sc_numbered : FnScope N_numbered P_numbered (defScope s_numbered) := ⟨rfl, rfl, rfl, by decide +kernel, rfl, by decide +kernel, by decide +kernel⟩
abbrev s_classes : Stmt := top 2
def N_classes : List Str := ["teller", "vector", "found", "last", "keys", "own", "line", "state"]
def P_classes : List Str := ["teller", "vector"]
def io_classes : List Bool := [false, false]
def b_classes : List Sm := [
  .asg (.tp [2, 3]) (.tup [.call "numbered" [.rd 1] [] [] [0], .lit .none]),
  .whl (.op .ne [.vw 2 [], .vw 3 []]) [.frz 2, .asg (.nm 3) (.rd 2), .asg (.nm 4) (.lc [5, 6] (.tp [5, 6]) .zip [.rd 3, .op .ix [.vw 0 [], .lit (.int 1)]] [] (.op .add [.tup [.rd 5], .op .tuple [.lc [7] (.nm 7) .seq [.rd 6] [] (.op .ix [.vw 3 [], .vw 7 []])]])), .frz 4, .asg (.nm 2) (.call "numbered" [.rd 4] [] [] [0])],
  .ret (.mv 2)]
def Γ_classes : Gam := ⟨con, fun f => if f = "numbered" then some d_numbered else none⟩
def d_classes : Den := denOf Γ_classes 8 io_classes b_classes
theorem ok_classes : mSs ⟨defScope s_classes, N_classes, bl, pats⟩ (fun _ => true) (ioS io_classes 0) b_classes (defBody s_classes) = true := by decide +kernel
theorem sc_classes : FnScope N_classes P_classes (defScope s_classes) := ⟨rfl, rfl, rfl, by decide +kernel, rfl, by decide +kernel, by decide +kernel⟩
abbrev s_seen_at : Stmt := top 3
def N_seen_at : List Str := ["vector", "states", "state"]
def P_seen_at : List Str := ["vector", "states"]
def io_seen_at : List Bool := [false, false]
def b_seen_at : List Sm := [
  .ret (.op .tuple [.lc [2] (.nm 2) .seq [.rd 1] [] (.op .ix [.vw 0 [], .vw 2 []])])]
def Γ_seen_at : Gam := ⟨con, fun f => none⟩
def d_seen_at : Den := denOf Γ_seen_at 3 io_seen_at b_seen_at
theorem ok_seen_at : mSs ⟨defScope s_seen_at, N_seen_at, bl, pats⟩ (fun _ => true) (ioS io_seen_at 0) b_seen_at (defBody s_seen_at) = true := by decide +kernel
theorem sc_seen_at : FnScope N_seen_at P_seen_at (defScope s_seen_at) := ⟨rfl, rfl, rfl, by decide +kernel, rfl, by decide +kernel, by decide +kernel⟩
abbrev s_law_pot : Stmt := top 5
def N_law_pot : List Str := ["script", "cell", "cells", "stirred"]
def P_law_pot : List Str := ["script"]
def io_law_pot : List Bool := [false]
def b_law_pot : List Sm := [
  .par [2, 3] [.lc [1] (.nm 1) .seq [.op .slH [.vw 0 [], .lit (.int 61)]] [] (.op .add [.op .mul [.lit (.int 2), .op .abs [.vw 1 []]], .op .int [.op .lt [.vw 1 [], .lit (.int 0)]]]), .op .add [.lit (.int 15914), .op .mul [.lit (.int 3), .op .len [.vw 0 []]]]],
  .frz 2,
  .lop (.nm 1) .seq [.rd 2] [.asg (.nm 3) (.op .mod [.op .int [.op .add [.op .add [.op .mul [.vw 3 [], .lit (.int 69069)], .vw 1 []], .lit (.int 13)]], .lit (.int 4294967291)])],
  .frz 2,
  .ret (.dct [.inr "great", .inr "stirred", .inr "turn"] [.lc [1] (.nm 1) .seq [.rd 2] [.op .ge [.vw 1 [], .op .pow [.lit (.int 10), .lit (.int 16)]]] (.rd 1), .rd 3, .lit (.int 0)])]
def Γ_law_pot : Gam := ⟨con, fun f => none⟩
def d_law_pot : Den := denOf Γ_law_pot 4 io_law_pot b_law_pot
theorem ok_law_pot : mSs ⟨defScope s_law_pot, N_law_pot, bl, pats⟩ (fun _ => true) (ioS io_law_pot 0) b_law_pot (defBody s_law_pot) = true := by decide +kernel
theorem sc_law_pot : FnScope N_law_pot P_law_pot (defScope s_law_pot) := ⟨rfl, rfl, rfl, by decide +kernel, rfl, by decide +kernel, by decide +kernel⟩
abbrev s_law_draw : Stmt := top 6
def N_law_draw : List Str := ["pot", "many", "great", "turn", "mixed", "cell"]
def P_law_draw : List Str := ["pot", "many"]
def io_law_draw : List Bool := [true, false]
def b_law_draw : List Sm := [
  .bor 2 0 [.key (.inr "great")] [.ite (.op .ne [.vw 2 [], .lst []]) [.asg (.nm 5) (.mut .popAt 2 [] [.lit (.int 0)]), .ite (.op .ge [.vw 5 [], .vw 1 []]) [.ex (.mut .insert 2 [] [.lit (.int 0), .op .fdiv [.vw 5 [], .vw 1 []]])] [], .ret (.op .mod [.op .int [.vw 5 []], .vw 1 []])] []],
  .put true 0 [] (.lit (.str "turn")) (.op .add [.at 0 [.key (.inr "turn")], .lit (.int 1)]),
  .asg (.nm 3) (.at 0 [.key (.inr "turn")]),
  .asg (.nm 4) (.op .mod [.op .int [.op .add [.op .add [.op .mul [.at 0 [.key (.inr "stirred")], .lit (.int 48271)], .op .mul [.op .mul [.vw 3 [], .vw 3 []], .lit (.int 17)]], .op .mul [.lit (.int 7919), .vw 3 []]]], .lit (.int 4294967279)]),
  .asg (.nm 4) (.op .mod [.op .int [.op .add [.op .mul [.vw 4 [], .lit (.int 69621)], .op .fdiv [.vw 4 [], .lit (.int 65536)]]], .lit (.int 4294967291)]),
  .put true 0 [] (.lit (.str "stirred")) (.rd 4),
  .ret (.op .mod [.op .int [.op .fdiv [.vw 4 [], .lit (.int 1024)]], .vw 1 []])]
def Γ_law_draw : Gam := ⟨con, fun f => none⟩
def d_law_draw : Den := denOf Γ_law_draw 6 io_law_draw b_law_draw
theorem ok_law_draw : mSs ⟨defScope s_law_draw, N_law_draw, bl, pats⟩ (fun _ => true) (ioS io_law_draw 0) b_law_draw (defBody s_law_draw) = true := by decide +kernel
theorem sc_law_draw : FnScope N_law_draw P_law_draw (defScope s_law_draw) := ⟨rfl, rfl, rfl, by decide +kernel, rfl, by decide +kernel, by decide +kernel⟩
abbrev s_law_pick : Stmt := top 7
def N_law_pick : List Str := ["pot", "row"]
def P_law_pick : List Str := ["pot", "row"]
def io_law_pick : List Bool := [true, false]
def b_law_pick : List Sm := [
  .ret (.op .ix [.vw 1 [], .call "_law_draw" [.vw 0 [], .op .len [.vw 1 []]] [] [] [0, 1]])]
def Γ_law_pick : Gam := ⟨con, fun f => if f = "_law_draw" then some d_law_draw else none⟩
def d_law_pick : Den := denOf Γ_law_pick 2 io_law_pick b_law_pick
theorem ok_law_pick : mSs ⟨defScope s_law_pick, N_law_pick, bl, pats⟩ (fun _ => true) (ioS io_law_pick 0) b_law_pick (defBody s_law_pick) = true := by decide +kernel
theorem sc_law_pick : FnScope N_law_pick P_law_pick (defScope s_law_pick) := ⟨rfl, rfl, rfl, by decide +kernel, rfl, by decide +kernel, by decide +kernel⟩
abbrev s_law_mixed : Stmt := top 8
def N_law_mixed : List Str := ["pot", "row", "turn", "left", "found"]
def P_law_mixed : List Str := ["pot", "row"]
def io_law_mixed : List Bool := [true, false]
def b_law_mixed : List Sm := [
  .par [3, 4] [.op .list [.vw 1 []], .lst []],
  .lop (.nm 2) .rng [.op .len [.vw 1 []]] [.ex (.mut .append 4 [] [.mut .popAt 3 [] [.fz (.call "_law_draw" [.vw 0 [], .op .len [.vw 3 []]] [] [] [0, 1])]])],
  .ret (.mv 4)]
def Γ_law_mixed : Gam := ⟨con, fun f => if f = "_law_draw" then some d_law_draw else none⟩
def d_law_mixed : Den := denOf Γ_law_mixed 5 io_law_mixed b_law_mixed
theorem ok_law_mixed : mSs ⟨defScope s_law_mixed, N_law_mixed, bl, pats⟩ (fun _ => true) (ioS io_law_mixed 0) b_law_mixed (defBody s_law_mixed) = true := by decide +kernel
theorem sc_law_mixed : FnScope N_law_mixed P_law_mixed (defScope s_law_mixed) := ⟨rfl, rfl, rfl, by decide +kernel, rfl, by decide +kernel, by decide +kernel⟩
abbrev s_law_row : Stmt := top 9
def N_law_row : List Str := ["pot", "kinds", "many", "turn"]
def P_law_row : List Str := ["pot", "kinds", "many"]
def io_law_row : List Bool := [true, false, false]
def b_law_row : List Sm := [
  .ret (.op .tuple [.lc [3] (.nm 3) .rng [.rd 2] [] (.fz (.call "_law_draw" [.vw 0 [], .rd 1] [] [] [0, 1]))])]
def Γ_law_row : Gam := ⟨con, fun f => if f = "_law_draw" then some d_law_draw else none⟩
def d_law_row : Den := denOf Γ_law_row 4 io_law_row b_law_row
theorem ok_law_row : mSs ⟨defScope s_law_row, N_law_row, bl, pats⟩ (fun _ => true) (ioS io_law_row 0) b_law_row (defBody s_law_row) = true := by decide +kernel
theorem sc_law_row : FnScope N_law_row P_law_row (defScope s_law_row) := ⟨rfl, rfl, rfl, by decide +kernel, rfl, by decide +kernel, by decide +kernel⟩
abbrev s_law_teller : Stmt := top 10
def N_law_teller : List Str := ["pot", "kinds", "many", "most", "rows", "state", "sort", "moves", "letter", "row"]
def P_law_teller : List Str := ["pot", "kinds", "many", "most"]
def io_law_teller : List Bool := [true, false, false, false]
def b_law_teller : List Sm := [
  .par [6, 7] [.call "_law_draw" [.vw 0 [], .lit (.int 4)] [] [] [0, 1], .lst []],
  .asg (.nm 4) (.ite (.op .eq [.vw 6 [], .lit (.int 2)]) (.lc [8] (.nm 8) .rng [.rd 1] [] (.fz (.call "_law_mixed" [.vw 0 [], .fz (.op .lrng [.vw 2 []])] [] [] [0, 1]))) (.lst [])),
  .lop (.nm 5) .rng [.rd 2] [.ite (.op .eq [.vw 6 [], .lit (.int 1)]) [.ex (.mut .append 7 [] [.op .tuple [.lc [8] (.nm 8) .rng [.rd 1] [] (.fz (.op .add [.vw 5 [], .call "_law_draw" [.vw 0 [], .op .sub [.vw 2 [], .vw 5 []]] [] [] [0, 1]]))]])] [.ite (.op .eq [.vw 6 [], .lit (.int 2)]) [.frz 4, .ex (.mut .append 7 [] [.op .tuple [.lc [9] (.nm 9) .seq [.rd 4] [] (.op .ix [.vw 9 [], .vw 5 []])]])] [.ex (.mut .append 7 [] [.fz (.call "_law_row" [.vw 0 [], .rd 2, .rd 1] [] [] [0, 1, 2])])]]],
  .ret (.tup [.rd 1, .op .tuple [.vw 7 []], .call "_law_row" [.vw 0 [], .rd 3, .rd 2] [] [] [0, 1, 2]])]
def Γ_law_teller : Gam := ⟨con, fun f => if f = "_law_draw" then some d_law_draw else if f = "_law_mixed" then some d_law_mixed else if f = "_law_row" then some d_law_row else none⟩
def d_law_teller : Den := denOf Γ_law_teller 10 io_law_teller b_law_teller
theorem ok_law_teller : mSs ⟨defScope s_law_teller, N_law_teller, bl, pats⟩ (fun _ => true) (ioS io_law_teller 0) b_law_teller (defBody s_law_teller) = true := by decide +kernel
theorem sc_law_teller : FnScope N_law_teller P_law_teller (defScope s_law_teller) := ⟨rfl, rfl, rfl, by decide +kernel, rfl, by decide +kernel, by decide +kernel⟩
abbrev s_law_some_teller : Stmt := top 11
def N_law_some_teller : List Str := ["pot", "kinds", "many"]
def P_law_some_teller : List Str := ["pot"]
def io_law_some_teller : List Bool := [true]
def b_law_some_teller : List Sm := [
  .par [1, 2] [.call "_law_pick" [.vw 0 [], .fz (.lst [.lit (.int 1), .lit (.int 2), .lit (.int 2), .lit (.int 2), .lit (.int 3)])] [] [] [0, 1], .call "_law_pick" [.vw 0 [], .fz (.lst [.lit (.int 1), .lit (.int 2), .lit (.int 2), .lit (.int 3), .lit (.int 3), .lit (.int 4)])] [] [] [0, 1]],
  .frz 1,
  .frz 2,
  .ret (.call "_law_teller" [.vw 0 [], .rd 1, .rd 2, .fz (.call "_law_pick" [.vw 0 [], .fz (.lst [.lit (.int 2), .lit (.int 2), .lit (.int 3), .lit (.int 10)])] [] [] [0, 1])] [] [] [0, 1, 2, 3])]
def Γ_law_some_teller : Gam := ⟨con, fun f => if f = "_law_pick" then some d_law_pick else if f = "_law_teller" then some d_law_teller else none⟩
def d_law_some_teller : Den := denOf Γ_law_some_teller 3 io_law_some_teller b_law_some_teller
theorem ok_law_some_teller : mSs ⟨defScope s_law_some_teller, N_law_some_teller, bl, pats⟩ (fun _ => true) (ioS io_law_some_teller 0) b_law_some_teller (defBody s_law_some_teller) = true := by decide +kernel
theorem sc_law_some_teller : FnScope N_law_some_teller P_law_some_teller (defScope s_law_some_teller) := ⟨rfl, rfl, rfl, by decide +kernel, rfl, by decide +kernel, by decide +kernel⟩
abbrev s_law_ahead : Stmt := top 12
def N_law_ahead : List Str := ["teller", "row", "vector", "letter", "item"]
def P_law_ahead : List Str := ["teller", "row", "vector"]
def io_law_ahead : List Bool := [false, false, false]
def b_law_ahead : List Sm := [
  .lop (.nm 3) .seq [.op .rev [.vw 1 []]] [.asg (.nm 2) (.op .tuple [.lc [4] (.nm 4) .seq [.op .ix [.vw 0 [], .lit (.int 1)]] [] (.op .ix [.vw 2 [], .op .ix [.vw 4 [], .vw 3 []]])])],
  .ret (.mv 2)]
def Γ_law_ahead : Gam := ⟨con, fun f => none⟩
def d_law_ahead : Den := denOf Γ_law_ahead 5 io_law_ahead b_law_ahead
theorem ok_law_ahead : mSs ⟨defScope s_law_ahead, N_law_ahead, bl, pats⟩ (fun _ => true) (ioS io_law_ahead 0) b_law_ahead (defBody s_law_ahead) = true := by decide +kernel
theorem sc_law_ahead : FnScope N_law_ahead P_law_ahead (defScope s_law_ahead) := ⟨rfl, rfl, rfl, by decide +kernel, rfl, by decide +kernel, by decide +kernel⟩
abbrev s_law_numbers : Stmt := top 13
def N_law_numbers : List Str := ["row", "item", "known", "found"]
def P_law_numbers : List Str := ["row"]
def io_law_numbers : List Bool := [false]
def b_law_numbers : List Sm := [
  .par [2, 3] [.dct [] [], .lst []],
  .lop (.nm 1) .seq [.rd 0] [.ite (.op .notin [.vw 1 [], .vw 2 []]) [.put true 2 [] (.rd 1) (.op .len [.vw 2 []])] [], .ex (.mut .append 3 [] [.op .ix [.vw 2 [], .vw 1 []]])],
  .ret (.mv 3)]
def Γ_law_numbers : Gam := ⟨con, fun f => none⟩
def d_law_numbers : Den := denOf Γ_law_numbers 4 io_law_numbers b_law_numbers
theorem ok_law_numbers : mSs ⟨defScope s_law_numbers, N_law_numbers, bl, pats⟩ (fun _ => true) (ioS io_law_numbers 0) b_law_numbers (defBody s_law_numbers) = true := by decide +kernel
theorem sc_law_numbers : FnScope N_law_numbers P_law_numbers (defScope s_law_numbers) := ⟨rfl, rfl, rfl, by decide +kernel, rfl, by decide +kernel, by decide +kernel⟩
abbrev s_law_classes : Stmt := top 14
def N_law_classes : List Str := ["teller", "vector", "own", "turn", "state", "row", "goal"]
def P_law_classes : List Str := ["teller", "vector"]
def io_law_classes : List Bool := [false, false]
def b_law_classes : List Sm := [
  .asg (.nm 2) (.call "_law_numbers" [.rd 1] [] [] [0]),
  .lop (.nm 3) .rng [.op .len [.vw 1 []]] [.asg (.nm 2) (.call "_law_numbers" [.fz (.lc [4, 5] (.tp [4, 5]) .enum [.op .ix [.vw 0 [], .lit (.int 1)]] [] (.tup [.op .ix [.vw 2 [], .vw 4 []], .op .tuple [.lc [6] (.nm 6) .seq [.rd 5] [] (.op .ix [.vw 2 [], .vw 6 []])]]))] [] [] [0])],
  .ret (.mv 2)]
def Γ_law_classes : Gam := ⟨con, fun f => if f = "_law_numbers" then some d_law_numbers else none⟩
def d_law_classes : Den := denOf Γ_law_classes 7 io_law_classes b_law_classes
theorem ok_law_classes : mSs ⟨defScope s_law_classes, N_law_classes, bl, pats⟩ (fun _ => true) (ioS io_law_classes 0) b_law_classes (defBody s_law_classes) = true := by decide +kernel
theorem sc_law_classes : FnScope N_law_classes P_law_classes (defScope s_law_classes) := ⟨rfl, rfl, rfl, by decide +kernel, rfl, by decide +kernel, by decide +kernel⟩
abbrev s_law : Stmt := top 15
def N_law : List Str := ["script", "pot", "turn", "teller", "vectors", "vector", "many", "kept", "due", "told", "states", "state"]
def P_law : List Str := ["script"]
def io_law : List Bool := [false]
def b_law : List Sm := [
  .asg (.nm 1) (.call "_law_pot" [.rd 0] [] [] [0]),
  .lop (.nm 2) .rng [.lit (.int 4)] [.asg (.nm 3) (.call "_law_some_teller" [.vw 1 []] [] [] [0]), .ite (.op .gt [.vw 2 [], .lit (.int 1)]) [.asg (.nm 3) (.call "_law_teller" [.vw 1 [], .fz (.op .add [.lit (.int 1), .call "_law_draw" [.vw 1 [], .lit (.int 3)] [] [] [0, 1]]), .fz (.call "_law_pick" [.vw 1 [], .fz (.lst [.lit (.int 5), .lit (.int 6), .lit (.int 8)])] [] [] [0, 1]), .lit (.int 3)] [] [] [0, 1, 2, 3])] [], .par [6, 7] [.op .len [.op .ix [.vw 3 [], .lit (.int 1)]], .op .repr [.vw 3 []]], .asg (.nm 4) (.lst [.op .ix [.vw 3 [], .lit (.int 2)], .op .mul [.tup [.call "_law_draw" [.vw 1 [], .lit (.int 10)] [] [] [0, 1]], .vw 6 []], .call "_law_row" [.vw 1 [], .lit (.int 2), .rd 6] [] [] [0, 1, 2], .call "_law_row" [.vw 1 [], .lit (.int 10), .rd 6] [] [] [0, 1, 2]]), .frz 3, .ex (.mut .append 4 [] [.fz (.call "_law_ahead" [.rd 3, .fz (.call "_law_row" [.vw 1 [], .op .ix [.vw 3 [], .lit (.int 0)], .fz (.op .add [.lit (.int 1), .call "_law_draw" [.vw 1 [], .lit (.int 4)] [] [] [0, 1]])] [] [] [0, 1, 2]), .op .ix [.vw 3 [], .lit (.int 2)]] [] [] [0, 1, 2])]), .frz 4, .lop (.nm 5) .seq [.rd 4] [.frz 3, .asg (.nm 8) (.op .tuple [.call "_law_classes" [.rd 3, .rd 5] [] [] [0, 1]]), .frz 3, .asg (.nm 9) (.lst [.call "classes" [.rd 3, .rd 5] [] [] [0, 1], .call "classes" [] [.rd 5, .rd 3] ["vector", "teller"] [1, 0], .call "classes" [.rd 3, .rd 5] [] [] [0, 1]]), .ite (.bop false [.op .ne [.op .repr [.vw 9 []], .op .repr [.op .mul [.lst [.rd 8], .lit (.int 3)]]], .op .ne [.op .repr [.vw 3 []], .vw 7 []]]) [.ret (.lit (.bool false))] [], .asg (.nm 10) (.call "_law_row" [.vw 1 [], .rd 6, .fz (.call "_law_draw" [.vw 1 [], .lit (.int 11)] [] [] [0, 1])] [] [] [0, 1, 2]), .frz 10, .asg (.nm 8) (.op .tuple [.lc [11] (.nm 11) .seq [.rd 10] [] (.op .ix [.vw 5 [], .vw 11 []])]), .frz 10, .ite (.op .ne [.op .repr [.lst [.call "seen_at" [.rd 5, .rd 10] [] [] [0, 1], .call "seen_at" [] [.rd 10, .rd 5] ["states", "vector"] [1, 0]]], .op .repr [.lst [.rd 8, .rd 8]]]) [.ret (.lit (.bool false))] []]],
  .ret (.lit (.bool true))]
def Γ_law : Gam := ⟨con, fun f => if f = "classes" then some d_classes else if f = "seen_at" then some d_seen_at else if f = "_law_pot" then some d_law_pot else if f = "_law_draw" then some d_law_draw else if f = "_law_pick" then some d_law_pick else if f = "_law_row" then some d_law_row else if f = "_law_teller" then some d_law_teller else if f = "_law_some_teller" then some d_law_some_teller else if f = "_law_ahead" then some d_law_ahead else if f = "_law_classes" then some d_law_classes else none⟩
def d_law : Den := denOf Γ_law 12 io_law b_law
theorem ok_law : mSs ⟨defScope s_law, N_law, bl, pats⟩ (fun _ => true) (ioS io_law 0) b_law (defBody s_law) = true := by decide +kernel
theorem sc_law : FnScope N_law P_law (defScope s_law) := ⟨rfl, rfl, rfl, by decide +kernel, rfl, by decide +kernel, by decide +kernel⟩
theorem bl_ok {mg : Str → Option Value} (z0 : mg "len" = none) (z1 : mg "tuple" = none) (z2 : mg "zip" = none) (z3 : mg "abs" = none) (z4 : mg "int" = none) (z5 : mg "list" = none) (z6 : mg "range" = none) (z7 : mg "enumerate" = none) (z8 : mg "repr" = none) : ∀ x, bl.contains x = true → mg x = none := by
  intro x h
  have h : x ∈ bl := by simpa using h
  simp only [bl, List.mem_cons, List.not_mem_nil, or_false] at h
  rcases h with rfl | rfl | rfl | rfl | rfl | rfl | rfl | rfl | rfl
  all_goals assumption
theorem pt_numbered : pats "numbered" = ([(1, [], [0])] : List Pat) := by decide +kernel
theorem bd_numbered {kV doc pm cdv ct : Value} {an : Option Addr} (us ws zs : List Value) (p : Pat) (hp : p ∈ pats "numbered") (h1 : us.length = p.1) (h2 : ws.length = p.2.1.length) (h3 : perm p.2.2 (us ++ ws) = some zs) :
    bindArgs (PySem.W.fnOf "numbered" "numbered" (defArgs s_numbered) (defBody s_numbered) (defScope s_numbered) .none kV doc pm an cdv ct) ⟨us, p.2.1.zip ws⟩ = pure (P_numbered.zip zs) := by
  rw [pt_numbered] at hp
  simp only [List.mem_cons, List.not_mem_nil, or_false] at hp
  rcases hp with rfl
  · obtain ⟨x0, rfl⟩ := len1 h1; obtain ⟨rfl⟩ := len0 h2; cases h3; rfl
theorem pt_classes : pats "classes" = ([(2, [], [0, 1]), (0, ["vector", "teller"], [1, 0])] : List Pat) := by decide +kernel
theorem bd_classes {kV doc pm cdv ct : Value} {an : Option Addr} (us ws zs : List Value) (p : Pat) (hp : p ∈ pats "classes") (h1 : us.length = p.1) (h2 : ws.length = p.2.1.length) (h3 : perm p.2.2 (us ++ ws) = some zs) :
    bindArgs (PySem.W.fnOf "classes" "classes" (defArgs s_classes) (defBody s_classes) (defScope s_classes) .none kV doc pm an cdv ct) ⟨us, p.2.1.zip ws⟩ = pure (P_classes.zip zs) := by
  rw [pt_classes] at hp
  simp only [List.mem_cons, List.not_mem_nil, or_false] at hp
  rcases hp with rfl | rfl
  · obtain ⟨x0, x1, rfl⟩ := len2 h1; obtain ⟨rfl⟩ := len0 h2; cases h3; rfl
  · obtain ⟨rfl⟩ := len0 h1; obtain ⟨y0, y1, rfl⟩ := len2 h2; cases h3; rfl
theorem pt_seen_at : pats "seen_at" = ([(2, [], [0, 1]), (0, ["states", "vector"], [1, 0])] : List Pat) := by decide +kernel
theorem bd_seen_at {kV doc pm cdv ct : Value} {an : Option Addr} (us ws zs : List Value) (p : Pat) (hp : p ∈ pats "seen_at") (h1 : us.length = p.1) (h2 : ws.length = p.2.1.length) (h3 : perm p.2.2 (us ++ ws) = some zs) :
    bindArgs (PySem.W.fnOf "seen_at" "seen_at" (defArgs s_seen_at) (defBody s_seen_at) (defScope s_seen_at) .none kV doc pm an cdv ct) ⟨us, p.2.1.zip ws⟩ = pure (P_seen_at.zip zs) := by
  rw [pt_seen_at] at hp
  simp only [List.mem_cons, List.not_mem_nil, or_false] at hp
  rcases hp with rfl | rfl
  · obtain ⟨x0, x1, rfl⟩ := len2 h1; obtain ⟨rfl⟩ := len0 h2; cases h3; rfl
  · obtain ⟨rfl⟩ := len0 h1; obtain ⟨y0, y1, rfl⟩ := len2 h2; cases h3; rfl
theorem pt_law_pot : pats "_law_pot" = ([(1, [], [0])] : List Pat) := by decide +kernel
theorem bd_law_pot {kV doc pm cdv ct : Value} {an : Option Addr} (us ws zs : List Value) (p : Pat) (hp : p ∈ pats "_law_pot") (h1 : us.length = p.1) (h2 : ws.length = p.2.1.length) (h3 : perm p.2.2 (us ++ ws) = some zs) :
    bindArgs (PySem.W.fnOf "_law_pot" "_law_pot" (defArgs s_law_pot) (defBody s_law_pot) (defScope s_law_pot) .none kV doc pm an cdv ct) ⟨us, p.2.1.zip ws⟩ = pure (P_law_pot.zip zs) := by
  rw [pt_law_pot] at hp
  simp only [List.mem_cons, List.not_mem_nil, or_false] at hp
  rcases hp with rfl
  · obtain ⟨x0, rfl⟩ := len1 h1; obtain ⟨rfl⟩ := len0 h2; cases h3; rfl
theorem pt_law_draw : pats "_law_draw" = ([(2, [], [0, 1])] : List Pat) := by decide +kernel
theorem bd_law_draw {kV doc pm cdv ct : Value} {an : Option Addr} (us ws zs : List Value) (p : Pat) (hp : p ∈ pats "_law_draw") (h1 : us.length = p.1) (h2 : ws.length = p.2.1.length) (h3 : perm p.2.2 (us ++ ws) = some zs) :
    bindArgs (PySem.W.fnOf "_law_draw" "_law_draw" (defArgs s_law_draw) (defBody s_law_draw) (defScope s_law_draw) .none kV doc pm an cdv ct) ⟨us, p.2.1.zip ws⟩ = pure (P_law_draw.zip zs) := by
  rw [pt_law_draw] at hp
  simp only [List.mem_cons, List.not_mem_nil, or_false] at hp
  rcases hp with rfl
  · obtain ⟨x0, x1, rfl⟩ := len2 h1; obtain ⟨rfl⟩ := len0 h2; cases h3; rfl
theorem pt_law_pick : pats "_law_pick" = ([(2, [], [0, 1])] : List Pat) := by decide +kernel
theorem bd_law_pick {kV doc pm cdv ct : Value} {an : Option Addr} (us ws zs : List Value) (p : Pat) (hp : p ∈ pats "_law_pick") (h1 : us.length = p.1) (h2 : ws.length = p.2.1.length) (h3 : perm p.2.2 (us ++ ws) = some zs) :
    bindArgs (PySem.W.fnOf "_law_pick" "_law_pick" (defArgs s_law_pick) (defBody s_law_pick) (defScope s_law_pick) .none kV doc pm an cdv ct) ⟨us, p.2.1.zip ws⟩ = pure (P_law_pick.zip zs) := by
  rw [pt_law_pick] at hp
  simp only [List.mem_cons, List.not_mem_nil, or_false] at hp
  rcases hp with rfl
  · obtain ⟨x0, x1, rfl⟩ := len2 h1; obtain ⟨rfl⟩ := len0 h2; cases h3; rfl
theorem pt_law_mixed : pats "_law_mixed" = ([(2, [], [0, 1])] : List Pat) := by decide +kernel
theorem bd_law_mixed {kV doc pm cdv ct : Value} {an : Option Addr} (us ws zs : List Value) (p : Pat) (hp : p ∈ pats "_law_mixed") (h1 : us.length = p.1) (h2 : ws.length = p.2.1.length) (h3 : perm p.2.2 (us ++ ws) = some zs) :
    bindArgs (PySem.W.fnOf "_law_mixed" "_law_mixed" (defArgs s_law_mixed) (defBody s_law_mixed) (defScope s_law_mixed) .none kV doc pm an cdv ct) ⟨us, p.2.1.zip ws⟩ = pure (P_law_mixed.zip zs) := by
  rw [pt_law_mixed] at hp
  simp only [List.mem_cons, List.not_mem_nil, or_false] at hp
  rcases hp with rfl
  · obtain ⟨x0, x1, rfl⟩ := len2 h1; obtain ⟨rfl⟩ := len0 h2; cases h3; rfl
theorem pt_law_row : pats "_law_row" = ([(3, [], [0, 1, 2])] : List Pat) := by decide +kernel
theorem bd_law_row {kV doc pm cdv ct : Value} {an : Option Addr} (us ws zs : List Value) (p : Pat) (hp : p ∈ pats "_law_row") (h1 : us.length = p.1) (h2 : ws.length = p.2.1.length) (h3 : perm p.2.2 (us ++ ws) = some zs) :
    bindArgs (PySem.W.fnOf "_law_row" "_law_row" (defArgs s_law_row) (defBody s_law_row) (defScope s_law_row) .none kV doc pm an cdv ct) ⟨us, p.2.1.zip ws⟩ = pure (P_law_row.zip zs) := by
  rw [pt_law_row] at hp
  simp only [List.mem_cons, List.not_mem_nil, or_false] at hp
  rcases hp with rfl
  · obtain ⟨x0, x1, x2, rfl⟩ := len3 h1; obtain ⟨rfl⟩ := len0 h2; cases h3; rfl
theorem pt_law_teller : pats "_law_teller" = ([(4, [], [0, 1, 2, 3])] : List Pat) := by decide +kernel
theorem bd_law_teller {kV doc pm cdv ct : Value} {an : Option Addr} (us ws zs : List Value) (p : Pat) (hp : p ∈ pats "_law_teller") (h1 : us.length = p.1) (h2 : ws.length = p.2.1.length) (h3 : perm p.2.2 (us ++ ws) = some zs) :
    bindArgs (PySem.W.fnOf "_law_teller" "_law_teller" (defArgs s_law_teller) (defBody s_law_teller) (defScope s_law_teller) .none kV doc pm an cdv ct) ⟨us, p.2.1.zip ws⟩ = pure (P_law_teller.zip zs) := by
  rw [pt_law_teller] at hp
  simp only [List.mem_cons, List.not_mem_nil, or_false] at hp
  rcases hp with rfl
  · obtain ⟨x0, x1, x2, x3, rfl⟩ := len4 h1; obtain ⟨rfl⟩ := len0 h2; cases h3; rfl
theorem pt_law_some_teller : pats "_law_some_teller" = ([(1, [], [0])] : List Pat) := by decide +kernel
theorem bd_law_some_teller {kV doc pm cdv ct : Value} {an : Option Addr} (us ws zs : List Value) (p : Pat) (hp : p ∈ pats "_law_some_teller") (h1 : us.length = p.1) (h2 : ws.length = p.2.1.length) (h3 : perm p.2.2 (us ++ ws) = some zs) :
    bindArgs (PySem.W.fnOf "_law_some_teller" "_law_some_teller" (defArgs s_law_some_teller) (defBody s_law_some_teller) (defScope s_law_some_teller) .none kV doc pm an cdv ct) ⟨us, p.2.1.zip ws⟩ = pure (P_law_some_teller.zip zs) := by
  rw [pt_law_some_teller] at hp
  simp only [List.mem_cons, List.not_mem_nil, or_false] at hp
  rcases hp with rfl
  · obtain ⟨x0, rfl⟩ := len1 h1; obtain ⟨rfl⟩ := len0 h2; cases h3; rfl
theorem pt_law_ahead : pats "_law_ahead" = ([(3, [], [0, 1, 2])] : List Pat) := by decide +kernel
theorem bd_law_ahead {kV doc pm cdv ct : Value} {an : Option Addr} (us ws zs : List Value) (p : Pat) (hp : p ∈ pats "_law_ahead") (h1 : us.length = p.1) (h2 : ws.length = p.2.1.length) (h3 : perm p.2.2 (us ++ ws) = some zs) :
    bindArgs (PySem.W.fnOf "_law_ahead" "_law_ahead" (defArgs s_law_ahead) (defBody s_law_ahead) (defScope s_law_ahead) .none kV doc pm an cdv ct) ⟨us, p.2.1.zip ws⟩ = pure (P_law_ahead.zip zs) := by
  rw [pt_law_ahead] at hp
  simp only [List.mem_cons, List.not_mem_nil, or_false] at hp
  rcases hp with rfl
  · obtain ⟨x0, x1, x2, rfl⟩ := len3 h1; obtain ⟨rfl⟩ := len0 h2; cases h3; rfl
theorem pt_law_numbers : pats "_law_numbers" = ([(1, [], [0])] : List Pat) := by decide +kernel
theorem bd_law_numbers {kV doc pm cdv ct : Value} {an : Option Addr} (us ws zs : List Value) (p : Pat) (hp : p ∈ pats "_law_numbers") (h1 : us.length = p.1) (h2 : ws.length = p.2.1.length) (h3 : perm p.2.2 (us ++ ws) = some zs) :
    bindArgs (PySem.W.fnOf "_law_numbers" "_law_numbers" (defArgs s_law_numbers) (defBody s_law_numbers) (defScope s_law_numbers) .none kV doc pm an cdv ct) ⟨us, p.2.1.zip ws⟩ = pure (P_law_numbers.zip zs) := by
  rw [pt_law_numbers] at hp
  simp only [List.mem_cons, List.not_mem_nil, or_false] at hp
  rcases hp with rfl
  · obtain ⟨x0, rfl⟩ := len1 h1; obtain ⟨rfl⟩ := len0 h2; cases h3; rfl
theorem pt_law_classes : pats "_law_classes" = ([(2, [], [0, 1])] : List Pat) := by decide +kernel
theorem bd_law_classes {kV doc pm cdv ct : Value} {an : Option Addr} (us ws zs : List Value) (p : Pat) (hp : p ∈ pats "_law_classes") (h1 : us.length = p.1) (h2 : ws.length = p.2.1.length) (h3 : perm p.2.2 (us ++ ws) = some zs) :
    bindArgs (PySem.W.fnOf "_law_classes" "_law_classes" (defArgs s_law_classes) (defBody s_law_classes) (defScope s_law_classes) .none kV doc pm an cdv ct) ⟨us, p.2.1.zip ws⟩ = pure (P_law_classes.zip zs) := by
  rw [pt_law_classes] at hp
  simp only [List.mem_cons, List.not_mem_nil, or_false] at hp
  rcases hp with rfl
  · obtain ⟨x0, x1, rfl⟩ := len2 h1; obtain ⟨rfl⟩ := len0 h2; cases h3; rfl
theorem ite_some {α : Type} {p : Prop} [Decidable p] {a b : Option α} {x : α} (h : (if p then a else b) = some x) : (p ∧ a = some x) ∨ (¬ p ∧ b = some x) := by
  by_cases q : p
  · rw [if_pos q] at h; exact .inl ⟨q, h⟩
  · rw [if_neg q] at h; exact .inr ⟨q, h⟩
set_option maxHeartbeats 0 in
theorem all_mk {l : PySem.W.OpenLaw} {w : World} {K : PySem.W.Frag} {h : Heap} {mg : Str → Option Value} {fa : Addr} (X : K.In h) (Gh : h.Ns mainGlobals mg) (hfa : mg "law" = some (.ref fa)) {f0 : Addr} {od0 an0 : Option Addr} {sl0 : Array (Option Value)} {oc0 kV0 dc0 pm0 cd0 ct0 : Value} {f1 : Addr} {od1 an1 : Option Addr} {sl1 : Array (Option Value)} {oc1 kV1 dc1 pm1 cd1 ct1 : Value} {f2 : Addr} {od2 an2 : Option Addr} {sl2 : Array (Option Value)} {oc2 kV2 dc2 pm2 cd2 ct2 : Value} {f3 : Addr} {od3 an3 : Option Addr} {sl3 : Array (Option Value)} {oc3 kV3 dc3 pm3 cd3 ct3 : Value} {f4 : Addr} {od4 an4 : Option Addr} {sl4 : Array (Option Value)} {oc4 kV4 dc4 pm4 cd4 ct4 : Value} {f5 : Addr} {od5 an5 : Option Addr} {sl5 : Array (Option Value)} {oc5 kV5 dc5 pm5 cd5 ct5 : Value} {f6 : Addr} {od6 an6 : Option Addr} {sl6 : Array (Option Value)} {oc6 kV6 dc6 pm6 cd6 ct6 : Value} {f7 : Addr} {od7 an7 : Option Addr} {sl7 : Array (Option Value)} {oc7 kV7 dc7 pm7 cd7 ct7 : Value} {f8 : Addr} {od8 an8 : Option Addr} {sl8 : Array (Option Value)} {oc8 kV8 dc8 pm8 cd8 ct8 : Value} {f9 : Addr} {od9 an9 : Option Addr} {sl9 : Array (Option Value)} {oc9 kV9 dc9 pm9 cd9 ct9 : Value} {f10 : Addr} {od10 an10 : Option Addr} {sl10 : Array (Option Value)} {oc10 kV10 dc10 pm10 cd10 ct10 : Value} {f11 : Addr} {od11 an11 : Option Addr} {sl11 : Array (Option Value)} {oc11 kV11 dc11 pm11 cd11 ct11 : Value} {f12 : Addr} {od12 an12 : Option Addr} {sl12 : Array (Option Value)} {oc12 kV12 dc12 pm12 cd12 ct12 : Value} {f13 : Addr} {od13 an13 : Option Addr} {sl13 : Array (Option Value)} {oc13 kV13 dc13 pm13 cd13 ct13 : Value}
    (a0 : PySem.W.nsIn K mainGlobals "numbered" = some (some (.ref f0))) (l0 : K.lookup f0 = some ⟨oc0, od0, .func (PySem.W.fnOf "numbered" "numbered" (defArgs s_numbered) (defBody s_numbered) (defScope s_numbered) .none kV0 dc0 pm0 an0 cd0 ct0), sl0⟩) (c0 : PySem.W.codeIn K cd0 "numbered" = true) (k0 : PySem.W.keepIn K (.ref f0) = true)
    (a1 : PySem.W.nsIn K mainGlobals "classes" = some (some (.ref f1))) (l1 : K.lookup f1 = some ⟨oc1, od1, .func (PySem.W.fnOf "classes" "classes" (defArgs s_classes) (defBody s_classes) (defScope s_classes) .none kV1 dc1 pm1 an1 cd1 ct1), sl1⟩) (c1 : PySem.W.codeIn K cd1 "classes" = true) (k1 : PySem.W.keepIn K (.ref f1) = true)
    (a2 : PySem.W.nsIn K mainGlobals "seen_at" = some (some (.ref f2))) (l2 : K.lookup f2 = some ⟨oc2, od2, .func (PySem.W.fnOf "seen_at" "seen_at" (defArgs s_seen_at) (defBody s_seen_at) (defScope s_seen_at) .none kV2 dc2 pm2 an2 cd2 ct2), sl2⟩) (c2 : PySem.W.codeIn K cd2 "seen_at" = true) (k2 : PySem.W.keepIn K (.ref f2) = true)
    (a3 : PySem.W.nsIn K mainGlobals "_law_pot" = some (some (.ref f3))) (l3 : K.lookup f3 = some ⟨oc3, od3, .func (PySem.W.fnOf "_law_pot" "_law_pot" (defArgs s_law_pot) (defBody s_law_pot) (defScope s_law_pot) .none kV3 dc3 pm3 an3 cd3 ct3), sl3⟩) (c3 : PySem.W.codeIn K cd3 "_law_pot" = true) (k3 : PySem.W.keepIn K (.ref f3) = true)
    (a4 : PySem.W.nsIn K mainGlobals "_law_draw" = some (some (.ref f4))) (l4 : K.lookup f4 = some ⟨oc4, od4, .func (PySem.W.fnOf "_law_draw" "_law_draw" (defArgs s_law_draw) (defBody s_law_draw) (defScope s_law_draw) .none kV4 dc4 pm4 an4 cd4 ct4), sl4⟩) (c4 : PySem.W.codeIn K cd4 "_law_draw" = true) (k4 : PySem.W.keepIn K (.ref f4) = true)
    (a5 : PySem.W.nsIn K mainGlobals "_law_pick" = some (some (.ref f5))) (l5 : K.lookup f5 = some ⟨oc5, od5, .func (PySem.W.fnOf "_law_pick" "_law_pick" (defArgs s_law_pick) (defBody s_law_pick) (defScope s_law_pick) .none kV5 dc5 pm5 an5 cd5 ct5), sl5⟩) (c5 : PySem.W.codeIn K cd5 "_law_pick" = true) (k5 : PySem.W.keepIn K (.ref f5) = true)
    (a6 : PySem.W.nsIn K mainGlobals "_law_mixed" = some (some (.ref f6))) (l6 : K.lookup f6 = some ⟨oc6, od6, .func (PySem.W.fnOf "_law_mixed" "_law_mixed" (defArgs s_law_mixed) (defBody s_law_mixed) (defScope s_law_mixed) .none kV6 dc6 pm6 an6 cd6 ct6), sl6⟩) (c6 : PySem.W.codeIn K cd6 "_law_mixed" = true) (k6 : PySem.W.keepIn K (.ref f6) = true)
    (a7 : PySem.W.nsIn K mainGlobals "_law_row" = some (some (.ref f7))) (l7 : K.lookup f7 = some ⟨oc7, od7, .func (PySem.W.fnOf "_law_row" "_law_row" (defArgs s_law_row) (defBody s_law_row) (defScope s_law_row) .none kV7 dc7 pm7 an7 cd7 ct7), sl7⟩) (c7 : PySem.W.codeIn K cd7 "_law_row" = true) (k7 : PySem.W.keepIn K (.ref f7) = true)
    (a8 : PySem.W.nsIn K mainGlobals "_law_teller" = some (some (.ref f8))) (l8 : K.lookup f8 = some ⟨oc8, od8, .func (PySem.W.fnOf "_law_teller" "_law_teller" (defArgs s_law_teller) (defBody s_law_teller) (defScope s_law_teller) .none kV8 dc8 pm8 an8 cd8 ct8), sl8⟩) (c8 : PySem.W.codeIn K cd8 "_law_teller" = true) (k8 : PySem.W.keepIn K (.ref f8) = true)
    (a9 : PySem.W.nsIn K mainGlobals "_law_some_teller" = some (some (.ref f9))) (l9 : K.lookup f9 = some ⟨oc9, od9, .func (PySem.W.fnOf "_law_some_teller" "_law_some_teller" (defArgs s_law_some_teller) (defBody s_law_some_teller) (defScope s_law_some_teller) .none kV9 dc9 pm9 an9 cd9 ct9), sl9⟩) (c9 : PySem.W.codeIn K cd9 "_law_some_teller" = true) (k9 : PySem.W.keepIn K (.ref f9) = true)
    (a10 : PySem.W.nsIn K mainGlobals "_law_ahead" = some (some (.ref f10))) (l10 : K.lookup f10 = some ⟨oc10, od10, .func (PySem.W.fnOf "_law_ahead" "_law_ahead" (defArgs s_law_ahead) (defBody s_law_ahead) (defScope s_law_ahead) .none kV10 dc10 pm10 an10 cd10 ct10), sl10⟩) (c10 : PySem.W.codeIn K cd10 "_law_ahead" = true) (k10 : PySem.W.keepIn K (.ref f10) = true)
    (a11 : PySem.W.nsIn K mainGlobals "_law_numbers" = some (some (.ref f11))) (l11 : K.lookup f11 = some ⟨oc11, od11, .func (PySem.W.fnOf "_law_numbers" "_law_numbers" (defArgs s_law_numbers) (defBody s_law_numbers) (defScope s_law_numbers) .none kV11 dc11 pm11 an11 cd11 ct11), sl11⟩) (c11 : PySem.W.codeIn K cd11 "_law_numbers" = true) (k11 : PySem.W.keepIn K (.ref f11) = true)
    (a12 : PySem.W.nsIn K mainGlobals "_law_classes" = some (some (.ref f12))) (l12 : K.lookup f12 = some ⟨oc12, od12, .func (PySem.W.fnOf "_law_classes" "_law_classes" (defArgs s_law_classes) (defBody s_law_classes) (defScope s_law_classes) .none kV12 dc12 pm12 an12 cd12 ct12), sl12⟩) (c12 : PySem.W.codeIn K cd12 "_law_classes" = true) (k12 : PySem.W.keepIn K (.ref f12) = true)
    (a13 : PySem.W.nsIn K mainGlobals "law" = some (some (.ref f13))) (l13 : K.lookup f13 = some ⟨oc13, od13, .func (PySem.W.fnOf "law" "law" (defArgs s_law) (defBody s_law) (defScope s_law) .none kV13 dc13 pm13 an13 cd13 ct13), sl13⟩) (c13 : PySem.W.codeIn K cd13 "law" = true) (k13 : PySem.W.keepIn K (.ref f13) = true)
    (z0 : PySem.W.nsIn K mainGlobals "len" = some none)
    (z1 : PySem.W.nsIn K mainGlobals "tuple" = some none)
    (z2 : PySem.W.nsIn K mainGlobals "zip" = some none)
    (z3 : PySem.W.nsIn K mainGlobals "abs" = some none)
    (z4 : PySem.W.nsIn K mainGlobals "int" = some none)
    (z5 : PySem.W.nsIn K mainGlobals "list" = some none)
    (z6 : PySem.W.nsIn K mainGlobals "range" = some none)
    (z7 : PySem.W.nsIn K mainGlobals "enumerate" = some none)
    (z8 : PySem.W.nsIn K mainGlobals "repr" = some none)
    : ∃ fd : FuncData, (∀ (s : Shared) (v : Value), BindsTo s fd ⟨[v], []⟩ [("script", v)]) ∧ ∀ base : Heap, K.In base → base.Ns mainGlobals mg → FnG l.prog w K mg base 5 fa fd ["script"] (spD ⟨K, fun _ => none, w⟩ d_law) := by
  have e := hfa.symm.trans (PySem.W.mg_of X Gh a13)
  cases e
  have zz := bl_ok (PySem.W.mg_none_of X Gh z0) (PySem.W.mg_none_of X Gh z1) (PySem.W.mg_none_of X Gh z2) (PySem.W.mg_none_of X Gh z3) (PySem.W.mg_none_of X Gh z4) (PySem.W.mg_none_of X Gh z5) (PySem.W.mg_none_of X Gh z6) (PySem.W.mg_none_of X Gh z7) (PySem.W.mg_none_of X Gh z8)
  have cc : ∀ x p, con x = some p → ∃ u v, mg x = some u ∧ RelV v u ∧ ∀ H, DpF K H v p := by
    intro x p e
    cases e
  refine ⟨PySem.W.fnOf "law" "law" (defArgs s_law) (defBody s_law) (defScope s_law) .none kV13 dc13 pm13 an13 cd13 ct13, fun s v => .of_eq rfl, fun base _ _ => ?_⟩
  have M0 : Mo0 l.prog w K mg base ⟨K, fun _ => none, w⟩ 0 Γ_numbered bl pats := by
    refine ⟨rfl, rfl, cc, fun f dn e => ?_, zz⟩
    cases e
  have F0 : FnM l.prog w K mg base ⟨K, fun _ => none, w⟩ 1 "numbered" d_numbered (pats "numbered") := fnM_of (PySem.W.mg_of X Gh a0) l0 c0 k0 sc_numbered M0 io_numbered rfl b_numbered ok_numbered fun _ us ws zs p q0 q1 q2 q3 => bd_numbered us ws zs p q0 q1 q2 q3
  have M1 : Mo0 l.prog w K mg base ⟨K, fun _ => none, w⟩ 1 Γ_classes bl pats := by
    refine ⟨rfl, rfl, cc, fun f dn e => ?_, zz⟩
    replace e : (if f = "numbered" then some d_numbered else none) = some dn := e
    rcases ite_some e with ⟨q, e⟩ | ⟨_, e⟩
    · subst q; cases e; exact F0.mono (by decide)
    cases e
  have F1 : FnM l.prog w K mg base ⟨K, fun _ => none, w⟩ 2 "classes" d_classes (pats "classes") := fnM_of (PySem.W.mg_of X Gh a1) l1 c1 k1 sc_classes M1 io_classes rfl b_classes ok_classes fun _ us ws zs p q0 q1 q2 q3 => bd_classes us ws zs p q0 q1 q2 q3
  have M2 : Mo0 l.prog w K mg base ⟨K, fun _ => none, w⟩ 0 Γ_seen_at bl pats := by
    refine ⟨rfl, rfl, cc, fun f dn e => ?_, zz⟩
    cases e
  have F2 : FnM l.prog w K mg base ⟨K, fun _ => none, w⟩ 1 "seen_at" d_seen_at (pats "seen_at") := fnM_of (PySem.W.mg_of X Gh a2) l2 c2 k2 sc_seen_at M2 io_seen_at rfl b_seen_at ok_seen_at fun _ us ws zs p q0 q1 q2 q3 => bd_seen_at us ws zs p q0 q1 q2 q3
  have M3 : Mo0 l.prog w K mg base ⟨K, fun _ => none, w⟩ 0 Γ_law_pot bl pats := by
    refine ⟨rfl, rfl, cc, fun f dn e => ?_, zz⟩
    cases e
  have F3 : FnM l.prog w K mg base ⟨K, fun _ => none, w⟩ 1 "_law_pot" d_law_pot (pats "_law_pot") := fnM_of (PySem.W.mg_of X Gh a3) l3 c3 k3 sc_law_pot M3 io_law_pot rfl b_law_pot ok_law_pot fun _ us ws zs p q0 q1 q2 q3 => bd_law_pot us ws zs p q0 q1 q2 q3
  have M4 : Mo0 l.prog w K mg base ⟨K, fun _ => none, w⟩ 0 Γ_law_draw bl pats := by
    refine ⟨rfl, rfl, cc, fun f dn e => ?_, zz⟩
    cases e
  have F4 : FnM l.prog w K mg base ⟨K, fun _ => none, w⟩ 1 "_law_draw" d_law_draw (pats "_law_draw") := fnM_of (PySem.W.mg_of X Gh a4) l4 c4 k4 sc_law_draw M4 io_law_draw rfl b_law_draw ok_law_draw fun _ us ws zs p q0 q1 q2 q3 => bd_law_draw us ws zs p q0 q1 q2 q3
  have M5 : Mo0 l.prog w K mg base ⟨K, fun _ => none, w⟩ 1 Γ_law_pick bl pats := by
    refine ⟨rfl, rfl, cc, fun f dn e => ?_, zz⟩
    replace e : (if f = "_law_draw" then some d_law_draw else none) = some dn := e
    rcases ite_some e with ⟨q, e⟩ | ⟨_, e⟩
    · subst q; cases e; exact F4.mono (by decide)
    cases e
  have F5 : FnM l.prog w K mg base ⟨K, fun _ => none, w⟩ 2 "_law_pick" d_law_pick (pats "_law_pick") := fnM_of (PySem.W.mg_of X Gh a5) l5 c5 k5 sc_law_pick M5 io_law_pick rfl b_law_pick ok_law_pick fun _ us ws zs p q0 q1 q2 q3 => bd_law_pick us ws zs p q0 q1 q2 q3
  have M6 : Mo0 l.prog w K mg base ⟨K, fun _ => none, w⟩ 1 Γ_law_mixed bl pats := by
    refine ⟨rfl, rfl, cc, fun f dn e => ?_, zz⟩
    replace e : (if f = "_law_draw" then some d_law_draw else none) = some dn := e
    rcases ite_some e with ⟨q, e⟩ | ⟨_, e⟩
    · subst q; cases e; exact F4.mono (by decide)
    cases e
  have F6 : FnM l.prog w K mg base ⟨K, fun _ => none, w⟩ 2 "_law_mixed" d_law_mixed (pats "_law_mixed") := fnM_of (PySem.W.mg_of X Gh a6) l6 c6 k6 sc_law_mixed M6 io_law_mixed rfl b_law_mixed ok_law_mixed fun _ us ws zs p q0 q1 q2 q3 => bd_law_mixed us ws zs p q0 q1 q2 q3
  have M7 : Mo0 l.prog w K mg base ⟨K, fun _ => none, w⟩ 1 Γ_law_row bl pats := by
    refine ⟨rfl, rfl, cc, fun f dn e => ?_, zz⟩
    replace e : (if f = "_law_draw" then some d_law_draw else none) = some dn := e
    rcases ite_some e with ⟨q, e⟩ | ⟨_, e⟩
    · subst q; cases e; exact F4.mono (by decide)
    cases e
  have F7 : FnM l.prog w K mg base ⟨K, fun _ => none, w⟩ 2 "_law_row" d_law_row (pats "_law_row") := fnM_of (PySem.W.mg_of X Gh a7) l7 c7 k7 sc_law_row M7 io_law_row rfl b_law_row ok_law_row fun _ us ws zs p q0 q1 q2 q3 => bd_law_row us ws zs p q0 q1 q2 q3
  have M8 : Mo0 l.prog w K mg base ⟨K, fun _ => none, w⟩ 2 Γ_law_teller bl pats := by
    refine ⟨rfl, rfl, cc, fun f dn e => ?_, zz⟩
    replace e : (if f = "_law_draw" then some d_law_draw else if f = "_law_mixed" then some d_law_mixed else if f = "_law_row" then some d_law_row else none) = some dn := e
    rcases ite_some e with ⟨q, e⟩ | ⟨_, e⟩
    · subst q; cases e; exact F4.mono (by decide)
    rcases ite_some e with ⟨q, e⟩ | ⟨_, e⟩
    · subst q; cases e; exact F6.mono (by decide)
    rcases ite_some e with ⟨q, e⟩ | ⟨_, e⟩
    · subst q; cases e; exact F7.mono (by decide)
    cases e
  have F8 : FnM l.prog w K mg base ⟨K, fun _ => none, w⟩ 3 "_law_teller" d_law_teller (pats "_law_teller") := fnM_of (PySem.W.mg_of X Gh a8) l8 c8 k8 sc_law_teller M8 io_law_teller rfl b_law_teller ok_law_teller fun _ us ws zs p q0 q1 q2 q3 => bd_law_teller us ws zs p q0 q1 q2 q3
  have M9 : Mo0 l.prog w K mg base ⟨K, fun _ => none, w⟩ 3 Γ_law_some_teller bl pats := by
    refine ⟨rfl, rfl, cc, fun f dn e => ?_, zz⟩
    replace e : (if f = "_law_pick" then some d_law_pick else if f = "_law_teller" then some d_law_teller else none) = some dn := e
    rcases ite_some e with ⟨q, e⟩ | ⟨_, e⟩
    · subst q; cases e; exact F5.mono (by decide)
    rcases ite_some e with ⟨q, e⟩ | ⟨_, e⟩
    · subst q; cases e; exact F8.mono (by decide)
    cases e
  have F9 : FnM l.prog w K mg base ⟨K, fun _ => none, w⟩ 4 "_law_some_teller" d_law_some_teller (pats "_law_some_teller") := fnM_of (PySem.W.mg_of X Gh a9) l9 c9 k9 sc_law_some_teller M9 io_law_some_teller rfl b_law_some_teller ok_law_some_teller fun _ us ws zs p q0 q1 q2 q3 => bd_law_some_teller us ws zs p q0 q1 q2 q3
  have M10 : Mo0 l.prog w K mg base ⟨K, fun _ => none, w⟩ 0 Γ_law_ahead bl pats := by
    refine ⟨rfl, rfl, cc, fun f dn e => ?_, zz⟩
    cases e
  have F10 : FnM l.prog w K mg base ⟨K, fun _ => none, w⟩ 1 "_law_ahead" d_law_ahead (pats "_law_ahead") := fnM_of (PySem.W.mg_of X Gh a10) l10 c10 k10 sc_law_ahead M10 io_law_ahead rfl b_law_ahead ok_law_ahead fun _ us ws zs p q0 q1 q2 q3 => bd_law_ahead us ws zs p q0 q1 q2 q3
  have M11 : Mo0 l.prog w K mg base ⟨K, fun _ => none, w⟩ 0 Γ_law_numbers bl pats := by
    refine ⟨rfl, rfl, cc, fun f dn e => ?_, zz⟩
    cases e
  have F11 : FnM l.prog w K mg base ⟨K, fun _ => none, w⟩ 1 "_law_numbers" d_law_numbers (pats "_law_numbers") := fnM_of (PySem.W.mg_of X Gh a11) l11 c11 k11 sc_law_numbers M11 io_law_numbers rfl b_law_numbers ok_law_numbers fun _ us ws zs p q0 q1 q2 q3 => bd_law_numbers us ws zs p q0 q1 q2 q3
  have M12 : Mo0 l.prog w K mg base ⟨K, fun _ => none, w⟩ 1 Γ_law_classes bl pats := by
    refine ⟨rfl, rfl, cc, fun f dn e => ?_, zz⟩
    replace e : (if f = "_law_numbers" then some d_law_numbers else none) = some dn := e
    rcases ite_some e with ⟨q, e⟩ | ⟨_, e⟩
    · subst q; cases e; exact F11.mono (by decide)
    cases e
  have F12 : FnM l.prog w K mg base ⟨K, fun _ => none, w⟩ 2 "_law_classes" d_law_classes (pats "_law_classes") := fnM_of (PySem.W.mg_of X Gh a12) l12 c12 k12 sc_law_classes M12 io_law_classes rfl b_law_classes ok_law_classes fun _ us ws zs p q0 q1 q2 q3 => bd_law_classes us ws zs p q0 q1 q2 q3
  have M13 : Mo0 l.prog w K mg base ⟨K, fun _ => none, w⟩ 4 Γ_law bl pats := by
    refine ⟨rfl, rfl, cc, fun f dn e => ?_, zz⟩
    replace e : (if f = "classes" then some d_classes else if f = "seen_at" then some d_seen_at else if f = "_law_pot" then some d_law_pot else if f = "_law_draw" then some d_law_draw else if f = "_law_pick" then some d_law_pick else if f = "_law_row" then some d_law_row else if f = "_law_teller" then some d_law_teller else if f = "_law_some_teller" then some d_law_some_teller else if f = "_law_ahead" then some d_law_ahead else if f = "_law_classes" then some d_law_classes else none) = some dn := e
    rcases ite_some e with ⟨q, e⟩ | ⟨_, e⟩
    · subst q; cases e; exact F1.mono (by decide)
    rcases ite_some e with ⟨q, e⟩ | ⟨_, e⟩
    · subst q; cases e; exact F2.mono (by decide)
    rcases ite_some e with ⟨q, e⟩ | ⟨_, e⟩
    · subst q; cases e; exact F3.mono (by decide)
    rcases ite_some e with ⟨q, e⟩ | ⟨_, e⟩
    · subst q; cases e; exact F4.mono (by decide)
    rcases ite_some e with ⟨q, e⟩ | ⟨_, e⟩
    · subst q; cases e; exact F5.mono (by decide)
    rcases ite_some e with ⟨q, e⟩ | ⟨_, e⟩
    · subst q; cases e; exact F7.mono (by decide)
    rcases ite_some e with ⟨q, e⟩ | ⟨_, e⟩
    · subst q; cases e; exact F8.mono (by decide)
    rcases ite_some e with ⟨q, e⟩ | ⟨_, e⟩
    · subst q; cases e; exact F9.mono (by decide)
    rcases ite_some e with ⟨q, e⟩ | ⟨_, e⟩
    · subst q; cases e; exact F10.mono (by decide)
    rcases ite_some e with ⟨q, e⟩ | ⟨_, e⟩
    · subst q; cases e; exact F12.mono (by decide)
    cases e
  exact fnG_of l13 c13 sc_law M13 io_law rfl b_law ok_law
theorem walk {l : PySem.W.OpenLaw} {q : Program} {loose : List Str} {XP : (Str → Option Value) → Heap → Prop} {YP : World → Heap → Prop} {d : DefRec} {K : Params → PySem.W.Frag} (truth : ∀ ns : List Int, ns.length ≤ 63 → ∃ outs, d_law.m [.sh (.list (ns.map .int))] = .ok (.sh (.bool true)) outs)
    (hn : l.most = some 63) (hdf : d.params.defaults = []) (hY : ∀ (w : World) (h : Heap), YP w h → (K w.params).In h)
    (F : ∀ (w : World) (mg : Str → Option Value) (fa : Addr) (h : Heap), (K w.params).In h → h.Ns mainGlobals mg → mg d.name = some (.ref fa) →
      ∃ fd : FuncData, (∀ (s : Shared) (u : Value), BindsTo s fd ⟨[u], []⟩ [("script", u)]) ∧ ∀ base : Heap, (K w.params).In base → base.Ns mainGlobals mg → FnG l.prog w (K w.params) mg base 5 fa fd ["script"] (spD ⟨K w.params, fun _ => none, w⟩ d_law)) :
    PySem.W.WalkO q loose XP YP l.row.toRowW d [] (fun f vs => PySem.call f vs) :=
  law_end (n := 63) (k := 5) (x := "script") (cl := fun _ _ => none) (dn := fun _ => d_law) hn (by decide) hdf ⟨rfl, by decide, by decide⟩ hY F (fun _ => rfl) fun _ ns h => truth ns h
end T17
namespace T17
open PySem PySem.Spec L2 Ab
open Vs hiding Env
open PyProof.Rows hiding St
/-! the rill: a dict of far cells, a number, a count -/
theorem gs_ : (Str.ofString "great" = Str.ofString "stirred") = False := by simp; decide +kernel
theorem gt_ : (Str.ofString "great" = Str.ofString "turn") = False := by simp; decide +kernel
theorem st_ : (Str.ofString "stirred" = Str.ofString "turn") = False := by simp; decide +kernel
def potD (gs : List Int) (st tn : Int) : D := .dk [.inr "great", .inr "stirred", .inr "turn"] [.ls ((gs.map PyData.int).map .sh), .sh (.int st), .sh (.int tn)]
def mixN (st t : Int) : Int := ((st * 48271 + t * t * 17 + 7919 * t) % 4294967279 * 69621 + (st * 48271 + t * t * 17 + 7919 * t) % 4294967279 / 65536) % 4294967291
theorem draw_nil {st tn m : Int} (h1 : 0 < m) (ht : (tn + 1).natAbs < 18446744073709551616) : d_law_draw.m [potD [] st tn, .sh (.int m)] = .ok (.sh (.int (mixN st (tn + 1) / 1024 % m))) [potD [] (mixN st (tn + 1)) (tn + 1)] := by
  unfold d_law_draw denOf runD
  simp [wrapO, io_law_draw, b_law_draw, potD, getP, setP, dkGet, dkSet, hasK, dkPut, putD, gs_, gt_, st_, oEq, small64b, ht, h1, mixN]
theorem draw_big {g : Int} {gs : List Int} {st tn m : Int} (h1 : 0 < m) (h2 : m < 1073741824) (hl : gs.length + 1 < 1000000) (hl' : gs.length < 1000000) (hg : m ≤ g) : d_law_draw.m [potD (g :: gs) st tn, .sh (.int m)] = .ok (.sh (.int (g % m))) [potD (g / m :: gs) st tn] := by
  unfold d_law_draw denOf runD
  have hz : (0 : Int) < (gs.length : Int) + 1 := by omega
  simp [wrapO, io_law_draw, b_law_draw, potD, getP, setP, dkGet, dkSet, hasK, dkPut, putD, gs_, gt_, st_, oEq, small64b, h1, h2, mo, moPopAt, moInsert, ixN, hz, hl, hg, hl']
theorem draw_small {g : Int} {gs : List Int} {st tn m : Int} (h1 : 0 < m) (h2 : m < 1073741824) (hl : gs.length + 1 < 1000000) (hg : ¬ m ≤ g) : d_law_draw.m [potD (g :: gs) st tn, .sh (.int m)] = .ok (.sh (.int (g % m))) [potD gs st tn] := by
  unfold d_law_draw denOf runD
  have hz : (0 : Int) < (gs.length : Int) + 1 := by omega
  simp [wrapO, io_law_draw, b_law_draw, potD, getP, setP, dkGet, dkSet, hasK, dkPut, putD, gs_, gt_, st_, oEq, small64b, h1, h2, mo, moPopAt, moInsert, ixN, hz, hl, hg]
theorem draw_ok {gs : List Int} {st tn m : Int} (h1 : 0 < m) (h2 : m < 1073741824) (hl : gs.length ≤ 63) (t0 : 0 ≤ tn) (t1 : tn ≤ 1000000) :
    ∃ (r : Int) (gs' : List Int) (st' tn' : Int), d_law_draw.m [potD gs st tn, .sh (.int m)] = .ok (.sh (.int r)) [potD gs' st' tn'] ∧ 0 ≤ r ∧ r < m ∧ gs'.length ≤ 63 ∧ 0 ≤ tn' ∧ tn' ≤ tn + 1 := by
  cases gs with
  | nil => exact ⟨_, _, _, _, draw_nil h1 (by omega), Int.emod_nonneg _ (by omega), Int.emod_lt_of_pos _ h1, by simp, by omega, by omega⟩
  | cons g gs =>
    have hl' : gs.length + 1 ≤ 63 := by simpa using hl
    by_cases hg : m ≤ g
    · exact ⟨_, _, _, _, draw_big h1 h2 (by omega) (by omega) hg, Int.emod_nonneg _ (by omega), Int.emod_lt_of_pos _ h1, by simpa using hl', t0, by omega⟩
    · exact ⟨_, _, _, _, draw_small h1 h2 (by omega) hg, Int.emod_nonneg _ (by omega), Int.emod_lt_of_pos _ h1, by omega, t0, by omega⟩
/-! the rill made of the script -/
def cellI (i : Int) : Int := 2 * (if i < 0 then -i else i) + (if i < 0 then 1 else 0)
def cellD : PyData → D
  | .int i => .sh (.int (cellI i))
  | _ => .sh .none
theorem e_cells (x : D) (cs : List Int) (hl : cs.length ≤ 63) : lcL [1] (Tg.nm 1) (ifT []) (ev Γ_law_pot (Ex.op Op.add [Ex.op Op.mul [Ex.lit (PyData.int 2), Ex.op Op.abs [Ex.vw 1 []]], Ex.op Op.int [Ex.op Op.lt [Ex.vw 1 [], Ex.lit (PyData.int 0)]]]))
      (cs.map .int) [some x, none, none, none] [] = some (((cs.map cellI).map PyData.int).map .sh, [some x, none, none, none]) := by
  rw [lcL_map cellD]
  · simp only [List.map_map]; rfl
  · intro p hp
    obtain ⟨i, _, rfl⟩ := List.mem_map.mp hp
    refine ⟨[some x, some (.sh (.int i)), none, none], by simp, by simp, ?_, by simp⟩
    simp [wrapO, small64b, cellD, cellI]
  · simp; omega
def bigB : PyData → Bool
  | .int i => decide ((10 : Int) ^ 16 ≤ i)
  | _ => false
theorem e_great (x : D) (y z : Option D) (cs : List Int) (hl : cs.length ≤ 63) : lcL [1] (Tg.nm 1) (ifT [evT Γ_law_pot (Ex.op Op.ge [Ex.vw 1 [], Ex.op Op.pow [Ex.lit (PyData.int 10), Ex.lit (PyData.int 16)]])]) (ev Γ_law_pot (Ex.rd 1))
      (cs.map .int) [some x, none, y, z] [] = some (((cs.filter fun i => decide ((10 : Int) ^ 16 ≤ i)).map PyData.int).map .sh, [some x, none, y, z]) := by
  rw [lcL_filter bigB .sh]
  · simp only [List.nil_append, List.filter_map]; rfl
  · intro p hp
    obtain ⟨i, _, rfl⟩ := List.mem_map.mp hp
    refine ⟨[some x, some (.sh (.int i)), y, z], by simp, ?_, by simp, by simp⟩
    simp [wrapO, small64b, bigB, powOk]
  · simp; omega
theorem pot_ok (ns : List Int) (hn : ns.length ≤ 63) : ∃ gs st, gs.length ≤ 63 ∧ d_law_pot.m [.sh (.list (ns.map .int))] = .ok (potD gs st 0) [] := by
  unfold d_law_pot denOf runD
  obtain ⟨cs, hcs, hl⟩ : ∃ cs : List Int, cutL (ns.map PyData.int) none (some 61) = cs.map .int ∧ cs.length ≤ 63 := ⟨ns.take 61, by rw [cut_H (by decide)]; simp, by simp; omega⟩
  have e1 := e_cells (.sh (.list (ns.map .int))) cs hl
  obtain ⟨es, hes, hl2⟩ : ∃ es, cs.map cellI = es ∧ es.length ≤ 63 := ⟨_, rfl, by simpa using hl⟩
  rw [hes] at e1
  obtain ⟨ρ, e2, c, st, rfl⟩ := lopL_run (t := .nm 1) (b := gos Γ_law_pot [Sm.asg (Tg.nm 3) (Ex.op Op.mod [Ex.op Op.int [Ex.op Op.add [Ex.op Op.add [Ex.op Op.mul [Ex.vw 3 [], Ex.lit (PyData.int 69069)], Ex.vw 1 []], Ex.lit (PyData.int 13)]], Ex.lit (PyData.int 4294967291)])])
    (fun _ ρ => ∃ (c : Option D) (st : Int), ρ = [some (.sh (.list (ns.map .int))), c, some (.sh (.list (es.map .int))), some (.sh (.int st))]) (es.map .int) 0
    [some (.sh (.list (ns.map .int))), none, some (.sh (.list (es.map .int))), some (.sh (.int (15914 + 3 * (ns.length : Int))))] ⟨none, _, rfl⟩ (by
      rintro i p ρ hp ⟨c, st, rfl⟩
      rw [List.getElem?_map] at hp
      obtain ⟨k, _, rfl⟩ := Option.map_eq_some_iff.mp hp
      refine ⟨[some (.sh (.list (ns.map .int))), some (.sh (.int k)), some (.sh (.list (es.map .int))), some (.sh (.int st))], [some (.sh (.list (ns.map .int))), some (.sh (.int k)), some (.sh (.list (es.map .int))), some (.sh (.int ((st * 69069 + k + 13) % 4294967291)))], by simp, .inl (by simp [wrapO, small64b]), ⟨_, _, rfl⟩⟩)
  have e3 := e_great (.sh (.list (ns.map .int))) (some (.sh (.list (es.map .int)))) (some (.sh (.int st))) es hl2
  refine ⟨es.filter fun i => decide ((10 : Int) ^ 16 ≤ i), st, Nat.le_trans (List.length_filter_le _ _) (by omega), ?_⟩
  simp [-List.map_map, wrapO, io_law_pot, b_law_pot, hcs, e1, lopF_eq, lcE_eq, e2, e3, small64b, potD, gs_, gt_, st_]
/-! what is opaque: the rill with at most so many draws; the script -/
def Om : Pi where
  p k n d := (k = 0 ∧ ∃ gs st tn, gs.length ≤ 63 ∧ 0 ≤ tn ∧ tn ≤ (n : Int) ∧ d = potD gs st tn) ∨ (k = 100 ∧ ∃ ns : List Int, ns.length ≤ 63 ∧ d = .sh (.list (ns.map .int)))
  mono := fun h q => by
    rcases h with ⟨rfl, gs, st, tn, a, b, c, e⟩ | h
    · exact .inl ⟨rfl, gs, st, tn, a, b, by omega, e⟩
    · exact .inr h
  sh := fun h q => by
    rcases h with ⟨rfl, _⟩ | ⟨_, ns, _, rfl⟩
    · omega
    · exact ⟨_, rfl⟩
def sp_law_pot : Ab.Spec := ⟨io_law_pot, fun ts => match ts with
  | [.pr k _] => if k = 100 then some [(.pr 0 0, [])] else none
  | _ => none, none⟩
def sp_law_draw : Ab.Spec := ⟨io_law_draw, fun ts => match ts with
  | [.pr k n, t] => if k = 0 ∧ n < 100000 then match rng t with
    | some (x, y) => if 1 ≤ x ∧ y < 1073741824 then some [(mkI 0 (y - 1), [.pr 0 (n + 1)])] else none
    | none => none
    else none
  | _ => none, none⟩
theorem so_law_pot {fi : Nat → List D → Option D} : SpecOk ⟨Om, fi⟩ sp_law_pot d_law_pot := by
  refine ⟨rfl, fun ts rs ds h g => ?_⟩
  unfold sp_law_pot at h
  dsimp only at h
  split at h
  · split at h
    · rename_i q
      subst q
      cases h
      obtain ⟨d, rfl, x⟩ := hL1 g
      unfold has at x
      change Om.p 100 _ d at x
      rcases x with ⟨h0, _⟩ | ⟨_, ns, hn, rfl⟩
      · omega
      · obtain ⟨gs, mx, hg, e⟩ := pot_ok ns hn
        refine ⟨_, List.mem_singleton.mpr rfl, _, _, e, ?_, trivial, fun id q => by cases q⟩
        unfold has
        exact .inl ⟨rfl, gs, mx, 0, hg, by omega, by omega, rfl⟩
    · cases h
  · cases h
theorem so_law_draw {fi : Nat → List D → Option D} : SpecOk ⟨Om, fi⟩ sp_law_draw d_law_draw := by
  refine ⟨rfl, fun ts rs ds h g => ?_⟩
  unfold sp_law_draw at h
  dsimp only at h
  split at h
  · rename_i k n t
    split at h
    · rename_i q
      obtain ⟨rfl, hn⟩ := q
      split at h
      · rename_i lo y er
        split at h
        · rename_i hy
          cases h
          obtain ⟨d, e, rfl, x, x2⟩ := hL2 g
          obtain ⟨m, rfl, m1, m2⟩ := rng_ok x2 er
          have x' : Om.p 0 n d := by simpa only [has] using x
          rcases x' with ⟨_, gs, st, tn, hl, t0, t1, rfl⟩ | ⟨h0, _⟩
          · obtain ⟨r, gs', st', tn', e, r0, r1, k1, k2, k3⟩ := draw_ok (gs := gs) (st := st) (tn := tn) (m := m) (by omega) (by omega) hl t0 (by omega)
            refine ⟨_, List.mem_singleton.mpr rfl, _, _, e, has_mkI r0 (by omega), hasL_one ?_, fun id q => by cases q⟩
            unfold has
            exact .inl ⟨rfl, gs', st', tn', k1, k2, by omega, rfl⟩
          · omega
        · cases h
      · cases h
    · cases h
  · cases h
end T17
namespace T17
/-! ### numbers by first rows, plain -/
section
variable {K L : Type} [DecidableEq K] [DecidableEq L]
def idx (k : K) : List K → Option Nat
  | [] => none
  | x :: r => if x = k then some 0 else (idx k r).map (· + 1)
theorem idx_none {k : K} : ∀ {l : List K}, idx k l = none ↔ k ∉ l
  | [] => by simp [idx]
  | x :: r => by
    unfold idx
    by_cases h : x = k
    · simp [h]
    · rw [if_neg h]
      simp only [Option.map_eq_none_iff, idx_none (l := r), List.mem_cons, not_or]
      exact ⟨fun z => ⟨fun e => h e.symm, z⟩, fun z => z.2⟩
theorem idx_some {k : K} : ∀ {l : List K} {i : Nat}, idx k l = some i → l[i]? = some k ∧ i < l.length
  | [], i, h => by cases h
  | x :: r, i, h => by
    unfold idx at h
    by_cases e : x = k
    · rw [if_pos e] at h; cases h; simp [e]
    · rw [if_neg e] at h
      obtain ⟨j, hj, rfl⟩ := Option.map_eq_some_iff.mp h
      obtain ⟨a, b⟩ := idx_some hj
      exact ⟨by simpa using a, by simp; omega⟩
theorem idx_app {k : K} (t : List K) : ∀ {l : List K} {i : Nat}, idx k l = some i → idx k (l ++ t) = some i
  | [], i, h => by cases h
  | x :: r, i, h => by
    unfold idx at h
    rw [List.cons_append]
    unfold idx
    by_cases e : x = k
    · rw [if_pos e] at h ⊢; exact h
    · rw [if_neg e] at h ⊢
      obtain ⟨j, hj, rfl⟩ := Option.map_eq_some_iff.mp h
      rw [idx_app t hj]; rfl
theorem idx_snoc {k : K} : ∀ {l : List K}, idx k l = none → idx k (l ++ [k]) = some l.length
  | [], _ => by simp [idx]
  | x :: r, h => by
    unfold idx at h
    rw [List.cons_append]
    unfold idx
    by_cases e : x = k
    · rw [if_pos e] at h; cases h
    · rw [if_neg e] at h ⊢
      rw [idx_snoc (Option.map_eq_none_iff.mp h)]; rfl
def numG : List K → List K → List Nat
  | _, [] => []
  | kn, k :: r => match idx k kn with
    | some i => i :: numG kn r
    | none => kn.length :: numG (kn ++ [k]) r
def cntG : List K → List K → Nat
  | kn, [] => kn.length
  | kn, k :: r => match idx k kn with
    | some _ => cntG kn r
    | none => cntG (kn ++ [k]) r
def num (l : List K) : List Nat := numG [] l
def cnt (l : List K) : Nat := cntG [] l
theorem numG_len : ∀ (l kn : List K), (numG kn l).length = l.length
  | [], _ => rfl
  | k :: r, kn => by
    unfold numG
    cases idx k kn with
    | some i => simp [numG_len r kn]
    | none => simp [numG_len r _]
theorem num_len (l : List K) : (num l).length = l.length := numG_len l []
theorem cntG_le : ∀ (l kn : List K), cntG kn l ≤ kn.length + l.length
  | [], kn => by simp [cntG]
  | k :: r, kn => by
    unfold cntG
    cases idx k kn with
    | some i => have := cntG_le r kn; simp only [List.length_cons]; omega
    | none => have := cntG_le r (kn ++ [k]); simp only [List.length_cons, List.length_append, List.length_nil] at *; omega
theorem cnt_le (l : List K) : cnt l ≤ l.length := by have := cntG_le l []; simpa [cnt] using this
theorem gap (g : L → K) (e : Nat) : ∀ (b : List L) (knA : List K) (knB : List L), (∀ y ∈ knB, g y ∈ knA) → knA.length + e ≤ knB.length → cntG knA (b.map g) + e ≤ cntG knB b
  | [], knA, knB, _, hl => hl
  | y :: b, knA, knB, hs, hl => by
    rw [List.map_cons]
    unfold cntG
    cases hB : idx y knB with
    | some i =>
      have : g y ∈ knA := hs y (List.mem_of_getElem? (idx_some hB).1)
      cases hA : idx (g y) knA with
      | none => exact absurd this (idx_none.mp hA)
      | some j => exact gap g e b knA knB hs hl
    | none =>
      cases hA : idx (g y) knA with
      | some j =>
        refine gap g e b knA (knB ++ [y]) (fun z hz => ?_) (by simp; omega)
        rcases List.mem_append.mp hz with hz | hz
        · exact hs z hz
        · cases List.mem_singleton.mp hz
          exact List.mem_of_getElem? (idx_some hA).1
      | none =>
        refine gap g e b (knA ++ [g y]) (knB ++ [y]) (fun z hz => ?_) (by simp; omega)
        rcases List.mem_append.mp hz with hz | hz
        · exact List.mem_append_left _ (hs z hz)
        · cases List.mem_singleton.mp hz
          exact List.mem_append_right _ (by simp)
theorem idx_map (g : L → K) {y : L} : ∀ {kn : List L}, (∀ z ∈ kn, g z = g y → z = y) → idx (g y) (kn.map g) = idx y kn
  | [], _ => rfl
  | x :: r, h => by
    rw [List.map_cons]
    unfold idx
    by_cases e : x = y
    · rw [if_pos e, if_pos (by rw [e])]
    · rw [if_neg e, if_neg (fun z => e (h x (by simp) z)), idx_map g fun z hz => h z (List.mem_cons_of_mem _ hz)]
theorem aligned (g : L → K) : ∀ (b kn : List L), (∀ z ∈ kn, ∀ y ∈ kn, g z = g y → z = y) → cntG (kn.map g) (b.map g) = cntG kn b → numG (kn.map g) (b.map g) = numG kn b
  | [], kn, _, _ => rfl
  | y :: b, kn, hi, hc => by
    rw [List.map_cons] at hc ⊢
    unfold cntG at hc
    unfold numG
    cases hB : idx y kn with
    | some i =>
      have hy : y ∈ kn := List.mem_of_getElem? (idx_some hB).1
      have hA : idx (g y) (kn.map g) = some i := by rw [idx_map g fun z hz => hi z hz y hy]; exact hB
      rw [hA, hB] at hc
      rw [hA]
      simp only at hc ⊢
      rw [aligned g b kn hi hc]
    | none =>
      cases hA : idx (g y) (kn.map g) with
      | some j =>
        rw [hA, hB] at hc
        simp only at hc
        have := gap g 1 b (kn.map g) (kn ++ [y]) (fun z hz => by
          rcases List.mem_append.mp hz with hz | hz
          · exact List.mem_map.mpr ⟨z, hz, rfl⟩
          · cases List.mem_singleton.mp hz
            exact List.mem_of_getElem? (idx_some hA).1) (by simp)
        omega
      | none =>
        rw [hA, hB] at hc
        simp only at hc ⊢
        have em : (kn ++ [y]).map g = kn.map g ++ [g y] := by simp
        rw [← em] at hc ⊢
        have hn := idx_none.mp hA
        rw [aligned g b (kn ++ [y]) (fun z hz w hw e => ?_) hc]
        · simp
        · rcases List.mem_append.mp hz with hz | hz
          · rcases List.mem_append.mp hw with hw | hw
            · exact hi z hz w hw e
            · cases List.mem_singleton.mp hw
              exact absurd (List.mem_map.mpr ⟨z, hz, e⟩) hn
          · cases List.mem_singleton.mp hz
            rcases List.mem_append.mp hw with hw | hw
            · exact absurd (List.mem_map.mpr ⟨w, hw, e.symm⟩) hn
            · exact (List.mem_singleton.mp hw).symm
/-- finer rows with no more classes are numbered alike -/
theorem num_map (g : L → K) {b : List L} (h : cnt b ≤ cnt (b.map g)) : num (b.map g) = num b := by
  have h1 := gap g 0 b [] [] (fun _ h => nomatch h) (by simp)
  exact aligned g b [] (fun _ h => nomatch h) (by unfold cnt at h; simp only [List.map_nil]; omega)
theorem cnt_map_le (g : L → K) (b : List L) : cnt (b.map g) ≤ cnt b := by
  have h1 := gap g 0 b [] [] (fun _ h => nomatch h) (by simp)
  simpa [cnt] using h1
/-- one to one: numbered alike, as many -/
theorem inj_cnt (g : L → K) : ∀ (b kn : List L), (∀ z y, (z ∈ kn ∨ z ∈ b) → (y ∈ kn ∨ y ∈ b) → g z = g y → z = y) → cntG (kn.map g) (b.map g) = cntG kn b
  | [], kn, _ => by simp [cntG]
  | y :: b, kn, hi => by
    rw [List.map_cons]
    unfold cntG
    rw [idx_map g fun z hz e => hi z y (.inl hz) (.inr (by simp)) e]
    cases idx y kn with
    | some i => exact inj_cnt g b kn fun z w h1 h2 => hi z w (h1.imp id (List.mem_cons_of_mem _)) (h2.imp id (List.mem_cons_of_mem _))
    | none =>
      have em : (kn ++ [y]).map g = kn.map g ++ [g y] := by simp
      have mm : ∀ z, (z ∈ kn ++ [y] ∨ z ∈ b) → (z ∈ kn ∨ z ∈ y :: b) := fun z h => by
        rcases h with h | h
        · rcases List.mem_append.mp h with h | h
          · exact .inl h
          · exact .inr (by cases List.mem_singleton.mp h; simp)
        · exact .inr (List.mem_cons_of_mem _ h)
      simp only
      rw [← em]
      exact inj_cnt g b (kn ++ [y]) fun z w h1 h2 => hi z w (mm z h1) (mm w h2)
theorem cnt_inj {g : L → K} {b : List L} (hi : ∀ z ∈ b, ∀ y ∈ b, g z = g y → z = y) : cnt (b.map g) = cnt b := by
  have := inj_cnt g b [] fun z y h1 h2 => hi z (h1.elim (fun q => nomatch q) id) y (h2.elim (fun q => nomatch q) id)
  simpa [cnt] using this
theorem num_inj {g : L → K} {b : List L} (hi : ∀ z ∈ b, ∀ y ∈ b, g z = g y → z = y) : num (b.map g) = num b := num_map g (by rw [cnt_inj hi]; exact Nat.le_refl _)
/-- the numbers as a map -/
def finG : List K → List K → List K
  | kn, [] => kn
  | kn, k :: r => match idx k kn with
    | some _ => finG kn r
    | none => finG (kn ++ [k]) r
theorem fin_idx : ∀ (l kn : List K) {k : K} {i : Nat}, idx k kn = some i → idx k (finG kn l) = some i
  | [], kn, k, i, h => h
  | x :: r, kn, k, i, h => by
    unfold finG
    cases e : idx x kn with
    | some j => exact fin_idx r kn h
    | none => exact fin_idx r _ (idx_app [x] h)
theorem num_as : ∀ (l kn : List K), (∀ k ∈ l, (idx k (finG kn l)).isSome = true) ∧ numG kn l = l.map fun k => (idx k (finG kn l)).getD 0
  | [], kn => ⟨(fun _ h => nomatch h), rfl⟩
  | x :: r, kn => by
    unfold finG numG
    cases e : idx x kn with
    | some i =>
      obtain ⟨a, b⟩ := num_as r kn
      have h := fin_idx r kn e
      refine ⟨fun k hk => ?_, ?_⟩
      · rcases List.mem_cons.mp hk with rfl | hk
        · simp only [h]; rfl
        · exact a k hk
      · simp only [List.map_cons, h, b]; rfl
    | none =>
      obtain ⟨a, b⟩ := num_as r (kn ++ [x])
      have h := fin_idx r (kn ++ [x]) (idx_snoc e)
      refine ⟨fun k hk => ?_, ?_⟩
      · rcases List.mem_cons.mp hk with rfl | hk
        · simp only [h]; rfl
        · exact a k hk
      · simp only [List.map_cons, h, b]; rfl
theorem num_is (l : List K) : ∃ h : K → Nat, (∀ z ∈ l, ∀ y ∈ l, h z = h y → z = y) ∧ num l = l.map h := by
  obtain ⟨a, b⟩ := num_as l []
  refine ⟨fun k => (idx k (finG [] l)).getD 0, fun z hz y hy e => ?_, b⟩
  obtain ⟨i, hi⟩ := Option.isSome_iff_exists.mp (a z hz)
  obtain ⟨j, hj⟩ := Option.isSome_iff_exists.mp (a y hy)
  simp only [hi, hj, Option.getD_some] at e
  subst e
  have := (idx_some hi).1.symm.trans (idx_some hj).1
  exact Option.some.inj this
theorem num_num (l : List K) : num (num l) = num l := by
  obtain ⟨h, hi, e⟩ := num_is l
  have := num_inj (g := h) hi
  rw [← e] at this
  exact this
theorem cnt_num (l : List K) : cnt (num l) = cnt l := by
  obtain ⟨h, hi, e⟩ := num_is l
  have := cnt_inj (g := h) hi
  rw [← e] at this
  exact this
/-- every number is below how many classes there are -/
theorem numG_lt : ∀ (l kn : List K), kn.length ≤ cntG kn l ∧ ∀ i ∈ numG kn l, i < cntG kn l
  | [], kn => ⟨(by simp [cntG]), fun _ h => nomatch h⟩
  | x :: r, kn => by
    unfold cntG numG
    cases e : idx x kn with
    | some i =>
      obtain ⟨a, b⟩ := numG_lt r kn
      refine ⟨a, fun j hj => ?_⟩
      rcases List.mem_cons.mp hj with rfl | hj
      · have := (idx_some e).2; simp only; omega
      · exact b j hj
    | none =>
      obtain ⟨a, b⟩ := numG_lt r (kn ++ [x])
      simp only [List.length_append, List.length_cons, List.length_nil] at a
      refine ⟨(by simp only; omega), fun j hj => ?_⟩
      rcases List.mem_cons.mp hj with rfl | hj
      · simp only; omega
      · exact b j hj
theorem num_lt {l : List K} {i : Nat} (h : i ∈ num l) : i < l.length := Nat.lt_of_lt_of_le ((numG_lt l []).2 i h) (cnt_le l)
end
/-! ### classes, again and again -/
/-- a teller's rows: of each state, to which it leads -/
def keyL (rows : List (List Nat)) (f : List Nat) : List (Nat × List Nat) := (f.zip rows).map fun p => (p.1, p.2.map fun s => f.getD s 0)
def stepC (rows : List (List Nat)) (f : List Nat) : List Nat := num (keyL rows f)
theorem keyL_len {rows : List (List Nat)} {f : List Nat} (h : f.length = rows.length) : (keyL rows f).length = f.length := by
  simp [keyL, h]
theorem step_len {rows : List (List Nat)} {f : List Nat} (h : f.length = rows.length) : (stepC rows f).length = f.length := by
  unfold stepC
  rw [num_len, keyL_len h]
theorem keyL_fst {rows : List (List Nat)} {f : List Nat} (h : f.length = rows.length) : (keyL rows f).map (·.1) = f := by
  unfold keyL
  rw [List.map_map]
  show (f.zip rows).map (fun p => p.1) = f
  exact List.map_fst_zip (by omega)
/-- as many classes, or the same ones -/
theorem step_or {rows : List (List Nat)} {f : List Nat} (h : f.length = rows.length) (hf : num f = f) : stepC rows f = f ∨ cnt f < cnt (stepC rows f) := by
  unfold stepC
  rw [cnt_num]
  by_cases hc : cnt (keyL rows f) ≤ cnt f
  · left
    have := num_map (b := keyL rows f) (·.1) (by rw [keyL_fst h]; exact hc)
    rw [keyL_fst h, hf] at this
    exact this.symm
  · right; omega
def itC (rows : List (List Nat)) (f : List Nat) : Nat → List Nat
  | 0 => f
  | j + 1 => stepC rows (itC rows f j)
theorem itC_len {rows : List (List Nat)} {f : List Nat} (h : f.length = rows.length) : ∀ j, (itC rows f j).length = f.length
  | 0 => rfl
  | j + 1 => by
    unfold itC
    rw [step_len (by rw [itC_len h j]; exact h), itC_len h j]
theorem itC_num {rows : List (List Nat)} {f : List Nat} (hf : num f = f) : ∀ j, num (itC rows f j) = itC rows f j
  | 0 => hf
  | j + 1 => num_num _
theorem itC_grow {rows : List (List Nat)} {f : List Nat} (h : f.length = rows.length) (hf : num f = f) : ∀ j, (∃ i, i < j ∧ itC rows f (i + 1) = itC rows f i) ∨ j ≤ cnt (itC rows f j)
  | 0 => .inr (Nat.zero_le _)
  | j + 1 => by
    rcases itC_grow h hf j with ⟨i, hi, e⟩ | hj
    · exact .inl ⟨i, by omega, e⟩
    · rcases step_or (by rw [itC_len h j]; exact h) (itC_num hf j) with e | e
      · exact .inl ⟨j, by omega, e⟩
      · right
        show j + 1 ≤ cnt (stepC rows (itC rows f j))
        omega
theorem itC_stay {rows : List (List Nat)} {f : List Nat} {i : Nat} (e : itC rows f (i + 1) = itC rows f i) : ∀ k, itC rows f (i + k) = itC rows f i
  | 0 => rfl
  | k + 1 => by
    show stepC rows (itC rows f (i + k)) = _
    rw [itC_stay e k]
    exact e
/-- behind as many rounds as there are states nothing changes -/
theorem itC_fix {rows : List (List Nat)} {f : List Nat} (h : f.length = rows.length) (hf : num f = f) : itC rows f (f.length + 1) = itC rows f f.length := by
  rcases itC_grow h hf (f.length + 1) with ⟨i, hi, e⟩ | hj
  · have h1 := itC_stay e (f.length + 1 - i)
    have h2 := itC_stay e (f.length - i)
    rw [show i + (f.length + 1 - i) = f.length + 1 by omega] at h1
    rw [show i + (f.length - i) = f.length by omega] at h2
    rw [h1, h2]
  · have := cnt_le (itC rows f (f.length + 1))
    rw [itC_len h] at this
    omega
/-- where two rounds are alike, all further ones are -/
theorem itC_end {rows : List (List Nat)} {f : List Nat} (h : f.length = rows.length) (hf : num f = f) {i : Nat} (hi : i ≤ f.length) (e : itC rows f (i + 1) = itC rows f i) : itC rows f (i + 1) = itC rows f f.length := by
  have := itC_stay e (f.length - i)
  rw [show i + (f.length - i) = f.length by omega] at this
  rw [this, e]
end T17
namespace T17
open PySem PySem.Spec L2 Ab Pl
open Vs hiding Env
open PyProof.Rows hiding St
/-! ### numbering, by the program and by the law -/
/-- keys of one kind, and the dict of such keys, each with its number -/
structure KF (K : Type) [DecidableEq K] where
  κ : K → PyData
  dct : List K → D
  nil : dct [] = .dk [] []
  isin : ∀ kn k, oIn true (.sh (κ k)) (dct kn) = some (DB (idx k kn).isNone)
  put : ∀ kn k, kn.Nodup → kn.length < 1000 → idx k kn = none → putD true (dct kn) (κ k) (.sh (.int (kn.length : Nat))) = some (dct (kn ++ [k]))
  at' : ∀ kn k (i : Nat), idx k kn = some i → oIx (dct kn) (.sh (κ k)) = some (.sh (.int i))
  len : ∀ kn, oLen (dct kn) = some (.sh (.int (kn.length : Nat)))
abbrev nI (i : Nat) : PyData := .int (i : Nat)
section
variable {K : Type} [DecidableEq K] (F : KF K)
abbrev bodyN : List Sm := [.ite (.op .notin [.vw 1 [], .vw 2 []]) [.put true 2 [] (.rd 1) (.op .len [.vw 2 []])] [], .ex (.mut .append 3 [] [.op .ix [.vw 2 [], .vw 1 []]])]
theorem step_old {Γ : Gam} {a : D} {kn : List K} {k : K} {fd : List PyData} {i : Nat} (h : idx k kn = some i) (hl : fd.length < 1000000) : gos Γ bodyN [some a, some (.sh (F.κ k)), some (F.dct kn), some (.ls (fd.map .sh))] = .nx [some a, some (.sh (F.κ k)), some (F.dct kn), some (.ls ((fd ++ [nI i]).map .sh))] := by
  have h1 := F.isin kn k
  rw [h] at h1
  have h2 := F.at' kn k i h
  have ao := append_ok (l := fd) (x := nI i) hl
  simp [-List.map_append, wrapO, getP, h1, h2, ao]
theorem step_new {Γ : Gam} {a : D} {kn : List K} {k : K} {fd : List PyData} (h : idx k kn = none) (hn : kn.Nodup) (hk : kn.length < 1000) (hl : fd.length < 1000000) : gos Γ bodyN [some a, some (.sh (F.κ k)), some (F.dct kn), some (.ls (fd.map .sh))] = .nx [some a, some (.sh (F.κ k)), some (F.dct (kn ++ [k])), some (.ls ((fd ++ [nI kn.length]).map .sh))] := by
  have h1 := F.isin kn k
  rw [h] at h1
  have h2 := F.at' (kn ++ [k]) k _ (idx_snoc h)
  have h3 := F.put kn k hn hk h
  have h4 := F.len kn
  have ao := append_ok (l := fd) (x := nI kn.length) hl
  simp [-List.map_append, wrapO, getP, setP, h1, h2, h3, h4, ao]
theorem lop_num {Γ : Gam} {a : D} : ∀ (l kn : List K) (fd : List PyData) (c : Option D), kn.Nodup → kn.length + l.length ≤ 1000 → fd.length + l.length ≤ 1000 →
    ∃ c' kn', lopL (.nm 1) (gos Γ bodyN) (l.map F.κ) [some a, c, some (F.dct kn), some (.ls (fd.map .sh))] = .nx [some a, c', some (F.dct kn'), some (.ls ((fd ++ (numG kn l).map nI).map .sh))]
  | [], kn, fd, c, _, _, _ => ⟨c, kn, by simp [lopL, numG]⟩
  | k :: l, kn, fd, c, hn, h1, h2 => by
    simp only [List.length_cons] at h1 h2
    have hb : bindT [] (.nm 1) (.sh (F.κ k)) [some a, c, some (F.dct kn), some (.ls (fd.map .sh))] = some [some a, some (.sh (F.κ k)), some (F.dct kn), some (.ls (fd.map .sh))] := by simp
    rw [List.map_cons]
    unfold lopL numG
    rw [hb]
    dsimp only
    cases e : idx k kn with
    | some i =>
      rw [step_old F e (by omega)]
      dsimp only
      obtain ⟨c', kn', q⟩ := lop_num l kn (fd ++ [nI i]) (some (.sh (F.κ k))) hn (by omega) (by simp; omega)
      refine ⟨c', kn', ?_⟩
      rw [q]
      simp
    | none =>
      rw [step_new F e hn (by omega) (by omega)]
      dsimp only
      obtain ⟨c', kn', q⟩ := lop_num l (kn ++ [k]) (fd ++ [nI kn.length]) (some (.sh (F.κ k))) (List.nodup_append.mpr ⟨hn, (by simp), fun a ha b hb e' => by rw [List.mem_singleton] at hb; subst hb; subst e'; exact idx_none.mp e ha⟩) (by simp; omega) (by simp; omega)
      refine ⟨c', kn', ?_⟩
      rw [q]
      simp
theorem seq_tup (l : List PyData) : (D.sh (.tuple l)).seq = some (.tup, l) := rfl
theorem seq_lst (l : List PyData) : (D.sh (.list l)).seq = some (.lst, l) := rfl
theorem seq_own (l : List PyData) : (D.ls (l.map .sh)).seq = some (.lst, l) := by simp [D.seq]
theorem m_numbered {l : List K} {p : PyData} {k : SK} (hp : (D.sh p).seq = some (k, l.map F.κ)) (hl : l.length ≤ 1000) : d_numbered.m [.sh p] = .ok (.sh (.tuple ((num l).map nI))) [] := by
  obtain ⟨c', kn', q⟩ := lop_num (Γ := Γ_numbered) F (a := .sh p) l [] [] none List.nodup_nil (by simpa using hl) (by simpa using hl)
  rw [F.nil] at q
  simp only [List.map_nil, List.nil_append] at q
  have e1 : runO ([Sop.e (ev Γ_numbered (.rd 0))]) [some (.sh p), none, some (.dk [] []), some (.ls [])] = .ok ([.d (.sh p)], [some (.sh p), none, some (.dk [] []), some (.ls [])]) := by simp
  have hit : itF .seq [.sh p] = some (l.map F.κ) := by
    show (match (D.sh p).seq with | some (_, l) => some l | none => none) = _
    rw [hp]
  have eL := lopF_run (k := .seq) (ops := [Sop.e (ev Γ_numbered (.rd 0))]) (os := [.d (.sh p)]) (ds := [.sh p]) e1 (by simp [ovs]) (ρ3 := [some (.sh p), c', some (F.dct kn'), some (.ls ((List.map nI (numG [] l)).map .sh))]) hit q (by simp [-List.map_map, unlock])
  have ho : oTuple (.ls ((List.map nI (num l)).map .sh)) = some (.sh (.tuple ((num l).map nI))) := by
    unfold oTuple
    rw [seq_own]
  have ho' : oTuple (.ls ((List.map nI (numG [] l)).map .sh)) = some (.sh (.tuple ((num l).map nI))) := ho
  unfold d_numbered denOf runD
  simp [-List.map_map, wrapO, io_numbered, b_numbered, eL, ho']
/-- the law's own, a list -/
theorem m_lnumbers {l : List K} {p : PyData} {k : SK} (hp : (D.sh p).seq = some (k, l.map F.κ)) (hl : l.length ≤ 1000) : d_law_numbers.m [.sh p] = .ok (.ls (((num l).map nI).map .sh)) [] := by
  obtain ⟨c', kn', q⟩ := lop_num (Γ := Γ_law_numbers) F (a := .sh p) l [] [] none List.nodup_nil (by simpa using hl) (by simpa using hl)
  rw [F.nil] at q
  simp only [List.map_nil, List.nil_append] at q
  have e1 : runO ([Sop.e (ev Γ_law_numbers (.rd 0))]) [some (.sh p), none, some (.dk [] []), some (.ls [])] = .ok ([.d (.sh p)], [some (.sh p), none, some (.dk [] []), some (.ls [])]) := by simp
  have hit : itF .seq [.sh p] = some (l.map F.κ) := by
    show (match (D.sh p).seq with | some (_, l) => some l | none => none) = _
    rw [hp]
  have eL := lopF_run (k := .seq) (ops := [Sop.e (ev Γ_law_numbers (.rd 0))]) (os := [.d (.sh p)]) (ds := [.sh p]) e1 (by simp [ovs]) (ρ3 := [some (.sh p), c', some (F.dct kn'), some (.ls ((List.map nI (numG [] l)).map .sh))]) hit q (by simp [-List.map_map, unlock])
  unfold d_law_numbers denOf runD
  simp [-List.map_map, wrapO, io_law_numbers, b_law_numbers, eL, num]
end
/-! ### the kinds of keys: numbers, tuples -/
theorem inl_any (k : Int) : ∀ kn : List Int, ((kn.map (Sum.inl : Int → L2.Key)).any fun q => decide (q = .inl k)) = (idx k kn).isSome
  | [] => rfl
  | x :: r => by
    rw [List.map_cons, List.any_cons, inl_any k r]
    show _ = (if x = k then some 0 else (idx k r).map (· + 1)).isSome
    by_cases h : x = k
    · rw [if_pos h, h]; simp
    · rw [if_neg h]
      have : decide ((Sum.inl x : L2.Key) = .inl k) = false := by simp [h]
      rw [this]
      cases idx k r <;> rfl
def valsD (a n : Nat) : List D := (List.range n).map fun i => .sh (nI (a + i))
theorem valsD_succ (a n : Nat) : valsD a (n + 1) = .sh (nI a) :: valsD (a + 1) n := by
  unfold valsD
  rw [List.range_succ_eq_map]
  simp only [List.map_cons, List.map_map, Nat.add_zero]
  congr 1
  refine List.map_congr_left fun i _ => ?_
  simp only [Function.comp_apply, nI]
  congr 2
  omega
theorem valsD_snoc (a n : Nat) : valsD a (n + 1) = valsD a n ++ [.sh (nI (a + n))] := by
  unfold valsD
  rw [List.range_succ]
  simp
theorem valsD_len (a n : Nat) : (valsD a n).length = n := by simp [valsD]
theorem dk_get (k : Int) : ∀ (kn : List Int) (a i : Nat), idx k kn = some i → dkGet (kn.map Sum.inl) (valsD a kn.length) (.inl k) = some (.sh (nI (a + i)))
  | [], a, i, h => by cases h
  | x :: r, a, i, h => by
    unfold idx at h
    rw [List.length_cons, valsD_succ, List.map_cons]
    unfold dkGet
    by_cases e : x = k
    · rw [if_pos e] at h; cases h
      rw [if_pos (by rw [e])]; rfl
    · rw [if_neg e] at h
      obtain ⟨j, hj, rfl⟩ := Option.map_eq_some_iff.mp h
      rw [if_neg (by simp [e]), dk_get k r (a + 1) j hj, show a + 1 + j = a + (j + 1) by omega]
theorem inl_nodup : ∀ {kn : List Int}, kn.Nodup → (kn.map (Sum.inl : Int → L2.Key)).Nodup := fun h => by
  rw [List.Nodup, List.pairwise_map]
  exact List.Pairwise.imp (fun h e => h (Sum.inl.inj e)) h
theorem dkSet_not (k : L2.Key) : True := trivial
def intF : KF Int where
  κ := .int
  dct kn := .dk (kn.map Sum.inl) (valsD 0 kn.length)
  nil := rfl
  isin kn k := by
    have h : dIn true (.sh (.int k)) (.dk (kn.map Sum.inl) (valsD 0 kn.length)) = some (DB (true != (kn.map (Sum.inl : Int → L2.Key)).any fun q => decide (q = .inl k))) := rfl
    have h2 : oIn true (.sh (.int k)) (.dk (kn.map Sum.inl) (valsD 0 kn.length)) = dIn true (.sh (.int k)) (.dk (kn.map Sum.inl) (valsD 0 kn.length)) := rfl
    rw [h2, h, inl_any]
    cases idx k kn <;> rfl
  put kn k hn hl h := by
    have hh : hasK (kn.map Sum.inl) (.inl k) = false := by
      unfold hasK
      rw [inl_any, h]; rfl
    show dkPut (kn.map Sum.inl) (valsD 0 kn.length) (.inl k) (.sh (nI kn.length)) = _
    unfold dkPut
    rw [if_pos ⟨inl_nodup hn, by rw [List.length_map]; omega⟩, hh, if_neg (by decide)]
    simp only [List.map_append, List.map_cons, List.map_nil, List.length_append, List.length_cons, List.length_nil, Nat.zero_add, valsD_snoc]
  at' kn k i h := by
    have h1 : oIx (.dk (kn.map Sum.inl) (valsD 0 kn.length)) (.sh (.int k)) = shOnly (dkGet (kn.map Sum.inl) (valsD 0 kn.length) (.inl k)) := rfl
    rw [h1, dk_get k kn 0 i h]
    simp [shOnly]
  len kn := by
    show some (DI (kn.map Sum.inl).length) = _
    rw [List.length_map]
/-! tuples: the keys told apart by what they are -/
section
variable {K : Type} [DecidableEq K] (κ : K → PyData) (nk : K → NestedKey) (hk : ∀ k, tkey (κ k) = some (nk k)) (hi : ∀ a b, nk a = nk b → a = b)
include hk hi
theorem dd_get (k : K) : ∀ (kn : List K) (a : Nat), ddGet (kn.map κ) (valsD a kn.length) (nk k) = (idx k kn).map fun i => .sh (nI (a + i))
  | [], a => rfl
  | x :: r, a => by
    rw [List.length_cons, valsD_succ, List.map_cons]
    show (if tkey (κ x) = some (nk k) then some (D.sh (nI a)) else ddGet (r.map κ) (valsD (a + 1) r.length) (nk k)) = (if x = k then some 0 else (idx k r).map (· + 1)).map _
    rw [hk x]
    by_cases e : x = k
    · rw [if_pos e, if_pos (by rw [e])]; rfl
    · rw [if_neg e, if_neg (fun z => e (hi _ _ (Option.some.inj z))), dd_get k r (a + 1), Option.map_map]
      congr 1
      funext i
      simp only [Function.comp_apply, nI]
      congr 3
      omega
theorem dd_put (k : K) (d : D) : ∀ (kn : List K) (ds : List D), ds.length = kn.length → idx k kn = none → ddPut (kn.map κ) ds (κ k) (nk k) d = ((kn ++ [k]).map κ, ds ++ [d])
  | [], ds, hl, h => by
    have : ds = [] := List.eq_nil_of_length_eq_zero hl
    subst this
    rfl
  | x :: r, [], hl, h => by cases hl
  | x :: r, e :: ds, hl, h => by
    have h' : (if x = k then some 0 else (idx k r).map (· + 1)) = none := h
    by_cases ex : x = k
    · rw [if_pos ex] at h'; cases h'
    · rw [if_neg ex] at h'
      rw [List.map_cons]
      unfold ddPut
      rw [hk x, if_neg (fun z => ex (hi _ _ (Option.some.inj z))), dd_put k d r ds (by simpa using hl) (Option.map_eq_none_iff.mp h')]
      rfl
end
def tupD {K : Type} (κ : K → PyData) : List K → D
  | [] => .dk [] []
  | k :: r => .dd ((k :: r).map κ) (valsD 0 (r.length + 1))
def tupF {K : Type} [DecidableEq K] (κ : K → PyData) (nk : K → NestedKey) (hk : ∀ k, tkey (κ k) = some (nk k)) (hi : ∀ a b, nk a = nk b → a = b) (ht : ∀ k, ∃ l, κ k = .tuple l) : KF K where
  κ := κ
  dct := tupD κ
  nil := rfl
  isin kn k := by
    obtain ⟨l, el⟩ := ht k
    cases kn with
    | nil =>
      have h2 : oIn true (.sh (κ k)) (.dk [] []) = dIn true (.sh (κ k)) (.dk [] []) := rfl
      show oIn true (.sh (κ k)) (.dk [] []) = _
      rw [h2]
      have e := hk k
      rw [el] at e ⊢
      show (match tkey (.tuple l), ([] : List L2.Key) with | some _, [] => some (DB true) | _, _ => none) = _
      rw [e]
      rfl
    | cons x r =>
      have h2 : oIn true (.sh (κ k)) (tupD κ (x :: r)) = dIn true (.sh (κ k)) (tupD κ (x :: r)) := rfl
      rw [h2]
      show (match tkey (κ k) with | some k' => some (DB (true != (ddGet ((x :: r).map κ) (valsD 0 (r.length + 1)) k').isSome)) | none => none) = _
      rw [hk k]
      have := dd_get κ nk hk hi k (x :: r) 0
      simp only [List.length_cons] at this
      simp only
      rw [this]
      cases idx k (x :: r) <;> rfl
  put kn k hn hl h := by
    obtain ⟨l, el⟩ := ht k
    cases kn with
    | nil =>
      show putD true (.dk [] []) (κ k) (.sh (nI 0)) = some (.dd [κ k] (valsD 0 1))
      have e := hk k
      rw [el] at e ⊢
      show ddStore [] [] (.tuple l) (.sh (nI 0)) = _
      unfold ddStore
      rw [e]
      rfl
    | cons x r =>
      have p := dd_put κ nk hk hi k (.sh (nI (r.length + 1))) (x :: r) (valsD 0 (r.length + 1)) (valsD_len _ _) h
      show ddStore ((x :: r).map κ) (valsD 0 (r.length + 1)) (κ k) (.sh (nI (r.length + 1))) = _
      unfold ddStore
      rw [hk k]
      simp only [List.length_cons] at hl
      simp only
      rw [if_pos (by simp only [List.length_map, List.length_cons]; omega), p]
      show some (D.dd _ _) = some (D.dd _ _)
      congr 2
      show _ = valsD 0 ((r ++ [k]).length + 1)
      have e : (r ++ [k]).length + 1 = r.length + 1 + 1 := by simp
      rw [e, valsD_snoc 0 (r.length + 1), Nat.zero_add]
  at' kn k i h := by
    cases kn with
    | nil => cases h
    | cons x r =>
      show (match tkey (κ k) with | some k' => shOnly (ddGet ((x :: r).map κ) (valsD 0 (r.length + 1)) k') | none => none) = _
      rw [hk k]
      have := dd_get κ nk hk hi k (x :: r) 0
      simp only [List.length_cons] at this
      simp only
      rw [this, h]
      simp [shOnly]
  len kn := by
    cases kn with
    | nil => rfl
    | cons x r =>
      show some (DI ((x :: r).map κ).length) = _
      rw [List.length_map]
/-- numbers in a flat tuple; a number and a tuple of numbers -/
def flatK (p : Nat × List Nat) : PyData := .tuple (nI p.1 :: p.2.map nI)
def nestK (p : Nat × List Nat) : PyData := .tuple [nI p.1, .tuple (p.2.map nI)]
def nkN (i : Nat) : NestedKey := .num (i : Nat)
theorem nkDs_nI : ∀ l : List Nat, nkDs (l.map nI) = some (l.map nkN)
  | [] => rfl
  | i :: l => by
    rw [List.map_cons]
    unfold nkDs
    rw [nkDs_nI l]
    rfl
theorem nkN_inj : ∀ {a b : List Nat}, a.map nkN = b.map nkN → a = b
  | [], [], _ => rfl
  | [], _ :: _, h => by simp at h
  | _ :: _, [], h => by simp at h
  | x :: a, y :: b, h => by
    simp only [List.map_cons, List.cons.injEq] at h
    obtain ⟨h1, h2⟩ := h
    rw [nkN_inj h2]
    unfold nkN at h1
    injection h1 with h1
    congr 1
    omega
theorem dep_nkN : ∀ l : List Nat, NestedKey.depthAll (l.map nkN) = 0
  | [] => by simp [NestedKey.depthAll]
  | i :: l => by simp [NestedKey.depthAll, dep_nkN l, nkN, NestedKey.depth]
def flatN (p : Nat × List Nat) : NestedKey := .tup (nkN p.1 :: p.2.map nkN)
def nestN (p : Nat × List Nat) : NestedKey := .tup [nkN p.1, .tup (p.2.map nkN)]
theorem flat_key (p : Nat × List Nat) : tkey (flatK p) = some (flatN p) := by
  unfold tkey flatK flatN
  have := nkDs_nI (p.1 :: p.2)
  simp only [List.map_cons] at this
  have d := dep_nkN (p.1 :: p.2)
  simp only [List.map_cons] at d
  simp only [nkD, this]
  rw [if_pos (by simp [NestedKey.depth, d])]
theorem nest_key (p : Nat × List Nat) : tkey (nestK p) = some (nestN p) := by
  unfold tkey nestK nestN
  have h := nkDs_nI p.2
  have d := dep_nkN p.2
  simp only [nkD, nkDs, h]
  rw [if_pos (by simp [NestedKey.depth, NestedKey.depthAll, d, nkN])]
  rfl
def flatF : KF (Nat × List Nat) := tupF flatK flatN flat_key (fun a b h => by
  unfold flatN at h
  injection h with h
  have := nkN_inj (a := a.1 :: a.2) (b := b.1 :: b.2) (by simpa using h)
  injection this with h1 h2
  exact Prod.ext h1 h2) fun k => ⟨_, rfl⟩
def nestF : KF (Nat × List Nat) := tupF nestK nestN nest_key (fun a b h => by
  unfold nestN at h
  injection h with h
  injection h with h1 h2
  injection h2 with h2 _
  injection h2 with h2
  have e1 := nkN_inj (a := [a.1]) (b := [b.1]) (by simpa using h1)
  injection e1 with e1 _
  exact Prod.ext e1 (nkN_inj h2)) fun k => ⟨_, rfl⟩
end T17
namespace T17
open PySem PySem.Spec L2 Ab Pl
open Vs hiding Env
open PyProof.Rows hiding St
/-! ### the program's classes -/
def rowD (r : List Nat) : PyData := .tuple (r.map nI)
def tupN (l : List Nat) : PyData := .tuple (l.map nI)
def telD (k : Int) (rows : List (List Nat)) (td : List PyData) : PyData := .tuple [.int k, .tuple (rows.map rowD), .tuple td]
structure TelOk (rows : List (List Nat)) : Prop where
  le : rows.length ≤ 8
  row : ∀ r ∈ rows, r.length ≤ 3 ∧ ∀ s ∈ r, s < rows.length
def look (f : List Nat) : PyData → PyData
  | .int i => nI (f.getD i.toNat 0)
  | x => x
theorem get_nI {f : List Nat} {s : Nat} (h : s < f.length) : (f.map nI)[s]? = some (nI (f.getD s 0)) := by
  rw [List.getElem?_map, List.getElem?_eq_getElem h]
  simp [List.getD_eq_getElem?_getD, List.getElem?_eq_getElem h]
theorem at_nI {f : List Nat} {s : Nat} (h : s < f.length) : atI (f.map nI) (s : Int) = some (nI (f.getD s 0)) := at_of (by omega) (by rw [Int.toNat_natCast]; exact get_nI h)
theorem ix_tup {f : List Nat} {s : Nat} (h : s < f.length) : oIx (.sh (tupN f)) (.sh (nI s)) = some (.sh (nI (f.getD s 0))) := by
  show (atI (f.map nI) (s : Int)).map D.sh = _
  rw [at_nI h]; rfl
theorem ix_own {f : List Nat} {s : Nat} (h : s < f.length) : oIx (.ls ((f.map nI).map .sh)) (.sh (nI s)) = some (.sh (nI (f.getD s 0))) := by
  show shOnly (atI ((f.map nI).map .sh) (s : Int)) = _
  rw [Ab.atI_map, at_nI h]; rfl
theorem ix_rows {k : Int} {rows : List (List Nat)} {td : List PyData} : oIx (.sh (telD k rows td)) (.sh (.int 1)) = some (.sh (.tuple (rows.map rowD))) := by
  show (atI [PyData.int k, .tuple (rows.map rowD), .tuple td] 1).map D.sh = _
  rw [atI1]; rfl
theorem look_nI (f : List Nat) (s : Nat) : look f (nI s) = nI (f.getD s 0) := by simp [look]
abbrev envC (t v f la ke ow li st : Option D) : Vs.Env := [t, v, f, la, ke, ow, li, st]
theorem c_inner {t v fo ke ow li : Option D} {f r : List Nat} (hr : ∀ s ∈ r, s < f.length) (hl : r.length ≤ 3) :
    lcL [7] (.nm 7) (ifT []) (ev Γ_classes (.op .ix [.vw 3 [], .vw 7 []])) (r.map nI) (envC t v fo (some (.sh (tupN f))) ke ow li none) [] = some (((r.map fun s => f.getD s 0).map nI).map .sh, envC t v fo (some (.sh (tupN f))) ke ow li none) := by
  rw [lcL_map fun p => .sh (look f p)]
  · simp [List.map_map, Function.comp_def, look_nI]
  · intro p hp
    obtain ⟨s, hs, rfl⟩ := List.mem_map.mp hp
    have q := ix_tup (hr s hs)
    refine ⟨envC t v fo (some (.sh (tupN f))) ke ow li (some (.sh (nI s))), by simp, by simp, ?_, by simp⟩
    simp [wrapO, q, look_nI]
  · simp; omega
theorem c_elem {t v fo ke : Option D} {a : Nat} {f r : List Nat} (hr : ∀ s ∈ r, s < f.length) (hl : r.length ≤ 3) :
    ev Γ_classes (.op .add [.tup [.rd 5], .op .tuple [.lc [7] (.nm 7) .seq [.rd 6] [] (.op .ix [.vw 3 [], .vw 7 []])]]) (envC t v fo (some (.sh (tupN f))) ke (some (.sh (nI a))) (some (.sh (rowD r))) none) =
      .ok (.sh (flatK (a, r.map fun s => f.getD s 0)), envC t v fo (some (.sh (tupN f))) ke (some (.sh (nI a))) (some (.sh (rowD r))) none) := by
  have h1 := c_inner (t := t) (v := v) (fo := fo) (ke := ke) (ow := some (.sh (nI a))) (li := some (.sh (rowD r))) hr hl
  have h2 : lcE [7] (.nm 7) .seq [Sop.e (ev Γ_classes (.rd 6))] (ifT []) (ev Γ_classes (.op .ix [.vw 3 [], .vw 7 []])) (envC t v fo (some (.sh (tupN f))) ke (some (.sh (nI a))) (some (.sh (rowD r))) none) = .ok (.ls (((r.map fun s => f.getD s 0).map nI).map .sh), envC t v fo (some (.sh (tupN f))) ke (some (.sh (nI a))) (some (.sh (rowD r))) none) :=
    lcE_run (ρ1 := envC t v fo (some (.sh (tupN f))) ke (some (.sh (nI a))) (some (.sh (rowD r))) none) (ρ2 := envC t v fo (some (.sh (tupN f))) ke (some (.sh (nI a))) (some (.sh (rowD r))) none) (os := [.d (.sh (rowD r))]) (ds := [.sh (rowD r)]) (by simp) (by simp [ovs]) (show itF .seq [.sh (.tuple (r.map nI))] = some (r.map nI) from rfl) h1 (by simp [unlock])
  have h3 : oTuple (.ls (((r.map fun s => f.getD s 0).map nI).map .sh)) = some (.sh (.tuple ((r.map fun s => f.getD s 0).map nI))) := by
    unfold oTuple
    rw [seq_own]
  have h4 : mkTup [.sh (nI a)] = .sh (.tuple [nI a]) := rfl
  have h5 : oAdd (.sh (.tuple [nI a])) (.sh (.tuple ((r.map fun s => f.getD s 0).map nI))) = some (.sh (flatK (a, r.map fun s => f.getD s 0))) := add_tup (by simp; omega)
  simp [-List.map_map, -List.getD_eq_getElem?_getD, wrapO, h2, h3, h4, h5]
theorem zip_rows : ∀ (f : List Nat) (rows : List (List Nat)), zipD (f.map nI) (rows.map rowD) = (f.zip rows).map fun p => .tuple [nI p.1, rowD p.2]
  | [], _ => by simp [zipD]
  | _ :: _, [] => by simp [zipD]
  | a :: f, r :: rows => by
    rw [List.map_cons, List.map_cons, List.zip_cons_cons, List.map_cons]
    unfold zipD
    rw [zip_rows f rows]
def pairK (f : List Nat) : PyData → D
  | .tuple [.int a, .tuple l] => .sh (.tuple (.int a :: l.map (look f)))
  | _ => .sh .none
theorem c_outer {t v fo ke : Option D} {f g : List Nat} {rows : List (List Nat)} (hr : ∀ r ∈ rows, r.length ≤ 3 ∧ ∀ s ∈ r, s < f.length) (hl : rows.length ≤ 8) :
    lcL [5, 6] (.tp [5, 6]) (ifT []) (ev Γ_classes (.op .add [.tup [.rd 5], .op .tuple [.lc [7] (.nm 7) .seq [.rd 6] [] (.op .ix [.vw 3 [], .vw 7 []])]])) (zipD (f.map nI) (rows.map rowD)) (envC t v fo (some (.sh (tupN f))) ke none none none) [] =
      some (((keyL rows f).map flatK).map .sh, envC t v fo (some (.sh (tupN f))) ke none none none) := by
  rw [zip_rows, lcL_map (pairK f)]
  · congr 2
    unfold keyL
    rw [List.map_map, List.map_map, List.map_map]
    refine List.map_congr_left fun p _ => ?_
    simp only [Function.comp_apply, pairK, rowD, nI, flatK, List.map_map]
    congr 3
  · intro p hp
    obtain ⟨⟨a, r⟩, hm, rfl⟩ := List.mem_map.mp hp
    have hr2 := hr r (List.of_mem_zip hm).2
    have q := c_elem (t := t) (v := v) (fo := fo) (ke := ke) (a := a) (f := f) hr2.2 hr2.1
    refine ⟨envC t v fo (some (.sh (tupN f))) ke (some (.sh (nI a))) (some (.sh (rowD r))) none, by simp, by simp, ?_, by simp⟩
    rw [q]
    simp only [pairK, rowD, nI, flatK, List.map_map]
    congr 3
  · simp; omega
theorem eqvN : ∀ {f g : List Nat}, PyData.eqvAll (f.map nI) (g.map nI) = decide (f = g)
  | [], [] => by simp [PyData.eqvAll]
  | [], _ :: _ => by simp [PyData.eqvAll]
  | _ :: _, [] => by simp [PyData.eqvAll]
  | a :: f, b :: g => by
    rw [List.map_cons, List.map_cons, eqvAll_cons, eqvI, eqvN]
    by_cases h : a = b
    · by_cases h2 : f = g
      · simp [h, h2]
      · simp [h, h2]
    · have : ¬ ((a : Int) = b) := by omega
      simp [h, this]
theorem sh_tupN (f : List Nat) : SeqAt.shaped (tupN f) = true := by
  have := sh_ints (f.map fun i : Nat => (i : Int))
  rw [List.map_map] at this
  exact this
theorem ne_tup {f g : List Nat} : oEq true (.sh (tupN f)) (.sh (tupN g)) = some (DB (!decide (f = g))) := by
  rw [oEq_sh (sh_tupN f) (sh_tupN g)]
  unfold tupN
  rw [eqv_tup, eqvN]
  simp
theorem ne_none {f : List Nat} : oEq true (.sh (tupN f)) (.sh .none) = some (DB true) := by
  rw [oEq_sh (sh_tupN f) sh_none]
  unfold tupN
  simp [PyData.eqv]
def lastD (f : Nat → List Nat) : Nat → D
  | 0 => .sh .none
  | j + 1 => .sh (tupN (f j))
theorem fn_num : Γ_classes.fn (Str.ofString "numbered") = some d_numbered := by simp [Γ_classes]
theorem io_num : d_numbered.io = [false] := rfl
abbrev bodyC : List Sm := [.frz 2, .asg (.nm 3) (.rd 2), .asg (.nm 4) (.lc [5, 6] (.tp [5, 6]) .zip [.rd 3, .op .ix [.vw 0 [], .lit (.int 1)]] [] (.op .add [.tup [.rd 5], .op .tuple [.lc [7] (.nm 7) .seq [.rd 6] [] (.op .ix [.vw 3 [], .vw 7 []])]])), .frz 4, .asg (.nm 2) (.call "numbered" [.rd 4] [] [] [0])]
theorem fz_ls (l : List PyData) : D.fz (.ls (l.map .sh)) = some (.list l) := by
  have : ∀ l : List PyData, D.fzs (l.map .sh) = some l := by
    intro l
    induction l with
    | nil => rfl
    | cons a l ih => simp [D.fzs, D.fz, ih]
  simp [D.fz, this]
theorem c_step {k : Int} {rows : List (List Nat)} {td : List PyData} {v la ke : Option D} {f : List Nat} (ok : TelOk rows) (hf : f.length = rows.length) :
    gos Γ_classes bodyC (envC (some (.sh (telD k rows td))) v (some (.sh (tupN f))) la ke none none none) = .nx (envC (some (.sh (telD k rows td))) v (some (.sh (tupN (stepC rows f)))) (some (.sh (tupN f))) (some (.sh (.list ((keyL rows f).map flatK)))) none none none) := by
  have h1 := c_outer (t := some (.sh (telD k rows td))) (v := v) (fo := some (.sh (tupN f))) (ke := ke) (f := f) (g := f) (rows := rows) (fun r hr => by rw [hf]; exact ok.row r hr) ok.le
  have ir := ix_rows (k := k) (rows := rows) (td := td)
  have hz : itF .zip [.sh (tupN f), .sh (.tuple (rows.map rowD))] = some (zipD (f.map nI) (rows.map rowD)) := rfl
  have h2 : lcE [5, 6] (.tp [5, 6]) .zip [Sop.e (ev Γ_classes (.rd 3)), Sop.e (ev Γ_classes (.op .ix [.vw 0 [], .lit (.int 1)]))] (ifT []) (ev Γ_classes (.op .add [.tup [.rd 5], .op .tuple [.lc [7] (.nm 7) .seq [.rd 6] [] (.op .ix [.vw 3 [], .vw 7 []])]]))
      (envC (some (.sh (telD k rows td))) v (some (.sh (tupN f))) (some (.sh (tupN f))) ke none none none) = .ok (.ls (((keyL rows f).map flatK).map .sh), envC (some (.sh (telD k rows td))) v (some (.sh (tupN f))) (some (.sh (tupN f))) ke none none none) :=
    lcE_run (ρ1 := envC (some (.sh (telD k rows td))) v (some (.sh (tupN f))) (some (.sh (tupN f))) ke none none none) (ρ2 := envC (some (.sh (telD k rows td))) v (some (.sh (tupN f))) (some (.sh (tupN f))) ke none none none) (os := [.d (.sh (tupN f)), .d (.sh (.tuple (rows.map rowD)))]) (ds := [.sh (tupN f), .sh (.tuple (rows.map rowD))]) (by simp [wrapO, ir]) (by simp [ovs]) hz h1 (by simp [unlock])
  have hk : (keyL rows f).length ≤ 1000 := by rw [keyL_len hf, hf]; have := ok.le; omega
  have m := m_numbered flatF (p := .list ((keyL rows f).map flatK)) (seq_lst _) hk
  have m' : d_numbered.m [.sh (.list ((keyL rows f).map flatK))] = .ok (.sh (tupN (stepC rows f))) [] := m
  refine gos_step (ρ1 := envC (some (.sh (telD k rows td))) v (some (.sh (tupN f))) la ke none none none) (by simp [D.fz]) ?_
  refine gos_step (ρ1 := envC (some (.sh (telD k rows td))) v (some (.sh (tupN f))) (some (.sh (tupN f))) ke none none none) (by simp) ?_
  refine gos_step (ρ1 := envC (some (.sh (telD k rows td))) v (some (.sh (tupN f))) (some (.sh (tupN f))) (some (.ls (((keyL rows f).map flatK).map .sh))) none none none) (by simp [-List.map_map, wrapO, h2]) ?_
  refine gos_step (ρ1 := envC (some (.sh (telD k rows td))) v (some (.sh (tupN f))) (some (.sh (tupN f))) (some (.sh (.list ((keyL rows f).map flatK)))) none none none) (by simp [-List.map_map, fz_ls]) ?_
  refine gos_step (ρ1 := envC (some (.sh (telD k rows td))) v (some (.sh (tupN (stepC rows f)))) (some (.sh (tupN f))) (some (.sh (.list ((keyL rows f).map flatK)))) none none none) (by simp [-List.map_map, fn_num, io_num, m']) rfl
end T17
namespace T17
open PySem PySem.Spec L2 Ab Pl
open Vs hiding Env
open PyProof.Rows hiding St
def vecD (v : List Int) : PyData := .tuple (v.map .int)
section
variable {k : Int} {rows : List (List Nat)} {td : List PyData} {v : List Int}
abbrev stC (T vv : Option D) (F : Nat → List Nat) (j : Nat) (ke : Option D) : Vs.Env := envC T vv (some (.sh (tupN (F j)))) (some (lastD F j)) ke none none none
theorem c_test0 {T vv ke : Option D} {F : Nat → List Nat} : evT Γ_classes (.op .ne [.vw 2 [], .vw 3 []]) (stC T vv F 0 ke) = .ok (true, stC T vv F 0 ke) := by
  have h := ne_none (f := F 0)
  simp [wrapO, lastD, h]
theorem c_test1 {T vv ke : Option D} {F : Nat → List Nat} {j : Nat} : evT Γ_classes (.op .ne [.vw 2 [], .vw 3 []]) (stC T vv F (j + 1) ke) = .ok (!decide (F (j + 1) = F j), stC T vv F (j + 1) ke) := by
  have h := ne_tup (f := F (j + 1)) (g := F j)
  simp [wrapO, lastD, h]
theorem c_loop {vv : Option D} (ok : TelOk rows) (hv : v.length = rows.length) : ∃ la ke, whL (evT Γ_classes (.op .ne [.vw 2 [], .vw 3 []])) (gos Γ_classes bodyC) fuel (envC (some (.sh (telD k rows td))) vv (some (.sh (tupN (num v)))) (some (.sh .none)) none none none none) =
    .nx (envC (some (.sh (telD k rows td))) vv (some (.sh (tupN (itC rows (num v) v.length)))) la ke none none none) := by
  have hf : (num v).length = rows.length := by rw [num_len]; exact hv
  have hfv : (num v).length = v.length := num_len v
  have hl : ∀ j, (itC rows (num v) j).length = rows.length := fun j => by rw [itC_len hf]; exact hf
  have hn := num_num v
  have step : ∀ j ke, gos Γ_classes bodyC (stC (some (.sh (telD k rows td))) vv (itC rows (num v)) j ke) = .nx (stC (some (.sh (telD k rows td))) vv (itC rows (num v)) (j + 1) (some (.sh (.list ((keyL rows (itC rows (num v) j)).map flatK))))) := fun j ke => c_step ok (hl j)
  obtain ⟨ρ, e, q⟩ := whL_run (c := evT Γ_classes (.op .ne [.vw 2 [], .vw 3 []])) (b := gos Γ_classes bodyC)
    (fun m ρ => (m = 0 ∧ ∃ j ke, j ≤ v.length ∧ itC rows (num v) (j + 1) = itC rows (num v) j ∧ ρ = stC (some (.sh (telD k rows td))) vv (itC rows (num v)) (j + 1) ke) ∨
      (∃ j ke, j + m = v.length + 2 ∧ 0 < m ∧ ρ = stC (some (.sh (telD k rows td))) vv (itC rows (num v)) j ke)) (by
      rintro m ρ (⟨rfl, j, ke, hj, e, rfl⟩ | ⟨j, ke, hj, hm, rfl⟩)
      · left
        refine ⟨_, ?_, .inl ⟨rfl, j, ke, hj, e, rfl⟩⟩
        rw [c_test1, decide_eq_true e]; rfl
      · cases j with
        | zero => exact .inr ⟨_, _, m - 1, c_test0, .inl (step 0 ke), by omega, .inr ⟨1, _, by omega, by omega, rfl⟩⟩
        | succ j =>
          by_cases e : itC rows (num v) (j + 1) = itC rows (num v) j
          · left
            refine ⟨_, ?_, .inl ⟨rfl, j, ke, by omega, e, rfl⟩⟩
            rw [c_test1, decide_eq_true e]; rfl
          · right
            have hj2 : j ≠ v.length := fun h => e (by rw [h, ← hfv]; exact itC_fix hf hn)
            refine ⟨stC (some (.sh (telD k rows td))) vv (itC rows (num v)) (j + 1) ke, _, m - 1, ?_, .inl (step (j + 1) ke), by omega, .inr ⟨j + 2, _, by omega, by omega, rfl⟩⟩
            rw [c_test1, decide_eq_false e]; rfl) fuel (v.length + 2) (envC (some (.sh (telD k rows td))) vv (some (.sh (tupN (num v)))) (some (.sh .none)) none none none none) (.inr ⟨0, none, by omega, by omega, rfl⟩) (by have := ok.le; unfold fuel; omega)
  rcases q with ⟨_, j, ke, hj, e2, rfl⟩ | ⟨j, _, _, h, _⟩
  · have := itC_end hf hn (by rw [hfv]; exact hj) e2
    rw [hfv] at this
    unfold stC at e
    rw [this] at e
    exact ⟨_, _, e⟩
  · omega
theorem m_classes0 : d_classes.m = runD 8 io_classes (gos Γ_classes b_classes) := rfl
theorem m_lclasses0 : d_law_classes.m = runD 7 io_law_classes (gos Γ_law_classes b_law_classes) := rfl
theorem m_classes (ok : TelOk rows) (hv : v.length = rows.length) : d_classes.m [.sh (telD k rows td), .sh (vecD v)] = .ok (.sh (tupN (itC rows (num v) v.length))) [] := by
  have hl : v.length ≤ 1000 := by have := ok.le; omega
  have m := m_numbered intF (p := vecD v) (l := v) (seq_tup _) hl
  have m' : d_numbered.m [.sh (vecD v)] = .ok (.sh (tupN (num v))) [] := m
  obtain ⟨la, ke, e⟩ := c_loop (k := k) (td := td) (vv := some (.sh (vecD v))) ok hv
  have hm : mkTup [.sh (tupN (num v)), .sh .none] = .sh (.tuple [tupN (num v), .none]) := rfl
  rw [m_classes0]
  refine runD_rt (ρ0 := envC (some (.sh (telD k rows td))) (some (.sh (vecD v))) none none none none none none) (ρ := envC (some (.sh (telD k rows td))) (some (.sh (vecD v))) none la ke none none none) rfl rfl ?_ rfl
  refine gos_step (ρ1 := envC (some (.sh (telD k rows td))) (some (.sh (vecD v))) (some (.sh (tupN (num v)))) (some (.sh .none)) none none none none) (by simp [fn_num, io_num, m', hm]) ?_
  refine gos_step (ρ1 := envC (some (.sh (telD k rows td))) (some (.sh (vecD v))) (some (.sh (tupN (itC rows (num v) v.length)))) la ke none none none) (by rw [go_whl]; exact e) ?_
  exact gos_last (by simp)
/-! ### the law's own classes -/
abbrev envL (t v f tu st ro go : Option D) : Vs.Env := [t, v, f, tu, st, ro, go]
abbrev ownN (l : List Nat) : D := .ls ((l.map nI).map .sh)
theorem l_inner {t vv tu st ro : Option D} {f r : List Nat} (hr : ∀ s ∈ r, s < f.length) (hl : r.length ≤ 3) :
    lcL [6] (.nm 6) (ifT []) (ev Γ_law_classes (.op .ix [.vw 2 [], .vw 6 []])) (r.map nI) (envL t vv (some (ownN f)) tu st ro none) [] = some (((r.map fun s => f.getD s 0).map nI).map .sh, envL t vv (some (ownN f)) tu st ro none) := by
  rw [lcL_map fun p => .sh (look f p)]
  · simp [List.map_map, Function.comp_def, look_nI]
  · intro p hp
    obtain ⟨s, hs, rfl⟩ := List.mem_map.mp hp
    have q := ix_own (hr s hs)
    refine ⟨envL t vv (some (ownN f)) tu st ro (some (.sh (nI s))), by simp, by simp, ?_, by simp⟩
    simp [-List.map_map, wrapO, q, look_nI]
  · simp; omega
theorem l_elem {t vv tu : Option D} {i : Nat} {f r : List Nat} (hi : i < f.length) (hr : ∀ s ∈ r, s < f.length) (hl : r.length ≤ 3) :
    ev Γ_law_classes (.tup [.op .ix [.vw 2 [], .vw 4 []], .op .tuple [.lc [6] (.nm 6) .seq [.rd 5] [] (.op .ix [.vw 2 [], .vw 6 []])]]) (envL t vv (some (ownN f)) tu (some (.sh (nI i))) (some (.sh (rowD r))) none) =
      .ok (.sh (nestK (f.getD i 0, r.map fun s => f.getD s 0)), envL t vv (some (ownN f)) tu (some (.sh (nI i))) (some (.sh (rowD r))) none) := by
  have h1 := l_inner (t := t) (vv := vv) (tu := tu) (st := some (.sh (nI i))) (ro := some (.sh (rowD r))) hr hl
  have h2 : lcE [6] (.nm 6) .seq [Sop.e (ev Γ_law_classes (.rd 5))] (ifT []) (ev Γ_law_classes (.op .ix [.vw 2 [], .vw 6 []])) (envL t vv (some (ownN f)) tu (some (.sh (nI i))) (some (.sh (rowD r))) none) = .ok (.ls (((r.map fun s => f.getD s 0).map nI).map .sh), envL t vv (some (ownN f)) tu (some (.sh (nI i))) (some (.sh (rowD r))) none) :=
    lcE_run (ρ1 := envL t vv (some (ownN f)) tu (some (.sh (nI i))) (some (.sh (rowD r))) none) (ρ2 := envL t vv (some (ownN f)) tu (some (.sh (nI i))) (some (.sh (rowD r))) none) (os := [.d (.sh (rowD r))]) (ds := [.sh (rowD r)]) (by simp) (by simp [ovs]) (show itF .seq [.sh (.tuple (r.map nI))] = some (r.map nI) from rfl) h1 (by simp [unlock])
  have h3 : oTuple (.ls (((r.map fun s => f.getD s 0).map nI).map .sh)) = some (.sh (.tuple ((r.map fun s => f.getD s 0).map nI))) := by
    unfold oTuple
    rw [seq_own]
  have h4 : mkTup [.sh (nI (f.getD i 0)), .sh (.tuple ((r.map fun s => f.getD s 0).map nI))] = .sh (nestK (f.getD i 0, r.map fun s => f.getD s 0)) := rfl
  have h5 := ix_own hi
  simp [-List.map_map, -List.getD_eq_getElem?_getD, wrapO, h2, h3, h4, h5]
theorem enum_mem : ∀ {rows : List (List Nat)} {a : Nat} {p : PyData}, p ∈ enumD (a : Int) (rows.map rowD) → ∃ i r, a ≤ i ∧ i < a + rows.length ∧ r ∈ rows ∧ p = .tuple [nI i, rowD r]
  | [], a, p, h => by simp [enumD] at h
  | r :: rows, a, p, h => by
    rw [List.map_cons] at h
    unfold enumD at h
    rcases List.mem_cons.mp h with rfl | h
    · exact ⟨a, r, Nat.le_refl _, by simp, by simp, rfl⟩
    · obtain ⟨i, r', h1, h2, h3, h4⟩ := enum_mem (a := a + 1) h
      exact ⟨i, r', by omega, by simp only [List.length_cons]; omega, List.mem_cons_of_mem _ h3, h4⟩
def pairN (f : List Nat) : PyData → D
  | .tuple [.int a, .tuple l] => .sh (.tuple [nI (f.getD a.toNat 0), .tuple (l.map (look f))])
  | _ => .sh .none
theorem enum_map : ∀ (rows : List (List Nat)) (f1 f2 f : List Nat), f2.length = rows.length → f = f1 ++ f2 → (enumD (f1.length : Int) (rows.map rowD)).map (pairN f) = ((f2.zip rows).map fun p => nestK (p.1, p.2.map fun s => f.getD s 0)).map .sh
  | [], f1, f2, f, h, e => by simp [enumD]
  | r :: rows, f1, [], f, h, e => by simp at h
  | r :: rows, f1, a :: f2, f, h, e => by
    rw [List.map_cons, List.zip_cons_cons, List.map_cons, List.map_cons]
    unfold enumD
    rw [List.map_cons]
    have ih := enum_map rows (f1 ++ [a]) f2 f (by simpa using h) (by rw [e]; simp)
    rw [show (((f1 ++ [a]).length : Nat) : Int) = (f1.length : Int) + 1 by simp] at ih
    rw [ih]
    congr 1
    have ha : f.getD f1.length 0 = a := by rw [e]; simp
    simp only [pairN, rowD, nestK, Int.toNat_natCast, ha, List.map_map]
    congr 3
theorem enum_len : ∀ (a : Int) (l : List PyData), (enumD a l).length = l.length
  | _, [] => rfl
  | a, p :: l => by simp [enumD, enum_len (a + 1) l]
theorem l_outer {t vv tu : Option D} {f : List Nat} (hf : f.length = rows.length) (ok : TelOk rows) :
    lcL [4, 5] (.tp [4, 5]) (ifT []) (ev Γ_law_classes (.tup [.op .ix [.vw 2 [], .vw 4 []], .op .tuple [.lc [6] (.nm 6) .seq [.rd 5] [] (.op .ix [.vw 2 [], .vw 6 []])]])) (enumD 0 (rows.map rowD)) (envL t vv (some (ownN f)) tu none none none) [] =
      some (((keyL rows f).map nestK).map .sh, envL t vv (some (ownN f)) tu none none none) := by
  rw [lcL_map (pairN f)]
  · congr 2
    have := enum_map rows [] f f hf rfl
    rw [show ((([] : List Nat).length : Nat) : Int) = 0 from rfl] at this
    rw [this]
    unfold keyL
    simp only [List.map_map]
    rfl
  · intro p hp
    obtain ⟨i, r, _, h2, h3, rfl⟩ := enum_mem (a := 0) hp
    have hr2 := ok.row r h3
    have q := l_elem (t := t) (vv := vv) (tu := tu) (i := i) (f := f) (by omega) (fun s hs => by rw [hf]; exact hr2.2 s hs) hr2.1
    refine ⟨envL t vv (some (ownN f)) tu (some (.sh (nI i))) (some (.sh (rowD r))) none, by simp, by simp, ?_, by simp⟩
    rw [q]
    simp only [pairN, rowD, nI, nestK, List.map_map, Int.toNat_natCast]
    congr 3
  · rw [enum_len, List.length_map]; have := ok.le; omega
theorem fn_lnum : Γ_law_classes.fn (Str.ofString "_law_numbers") = some d_law_numbers := by simp [Γ_law_classes]
theorem io_lnum : d_law_numbers.io = [false] := rfl
abbrev bodyL : List Sm := [.asg (.nm 2) (.call "_law_numbers" [.fz (.lc [4, 5] (.tp [4, 5]) .enum [.op .ix [.vw 0 [], .lit (.int 1)]] [] (.tup [.op .ix [.vw 2 [], .vw 4 []], .op .tuple [.lc [6] (.nm 6) .seq [.rd 5] [] (.op .ix [.vw 2 [], .vw 6 []])]]))] [] [] [0])]
theorem l_step {vv tu : Option D} {f : List Nat} (ok : TelOk rows) (hf : f.length = rows.length) :
    gos Γ_law_classes bodyL (envL (some (.sh (telD k rows td))) vv (some (ownN f)) tu none none none) = .nx (envL (some (.sh (telD k rows td))) vv (some (ownN (stepC rows f))) tu none none none) := by
  have h1 := l_outer (t := some (.sh (telD k rows td))) (vv := vv) (tu := tu) hf ok
  have ir := ix_rows (k := k) (rows := rows) (td := td)
  have h2 : lcE [4, 5] (.tp [4, 5]) .enum [Sop.e (ev Γ_law_classes (.op .ix [.vw 0 [], .lit (.int 1)]))] (ifT []) (ev Γ_law_classes (.tup [.op .ix [.vw 2 [], .vw 4 []], .op .tuple [.lc [6] (.nm 6) .seq [.rd 5] [] (.op .ix [.vw 2 [], .vw 6 []])]]))
      (envL (some (.sh (telD k rows td))) vv (some (ownN f)) tu none none none) = .ok (.ls (((keyL rows f).map nestK).map .sh), envL (some (.sh (telD k rows td))) vv (some (ownN f)) tu none none none) :=
    lcE_run (ρ1 := envL (some (.sh (telD k rows td))) vv (some (ownN f)) tu none none none) (ρ2 := envL (some (.sh (telD k rows td))) vv (some (ownN f)) tu none none none) (os := [.d (.sh (.tuple (rows.map rowD)))]) (ds := [.sh (.tuple (rows.map rowD))]) (by simp [wrapO, ir]) (by simp [ovs]) (show itF .enum [.sh (.tuple (rows.map rowD))] = some (enumD 0 (rows.map rowD)) from rfl) h1 (by simp [unlock])
  have hk : (keyL rows f).length ≤ 1000 := by rw [keyL_len hf, hf]; have := ok.le; omega
  have m := m_lnumbers nestF (p := .list ((keyL rows f).map nestK)) (seq_lst _) hk
  have m' : d_law_numbers.m [.sh (.list ((keyL rows f).map nestK))] = .ok (ownN (stepC rows f)) [] := m
  refine gos_step (ρ1 := envL (some (.sh (telD k rows td))) vv (some (ownN (stepC rows f))) tu none none none) (by simp [-List.map_map, wrapO, fzE_eq, h2, fz_ls, fn_lnum, io_lnum, m']) rfl
theorem m_lclasses (ok : TelOk rows) (hv : v.length = rows.length) : d_law_classes.m [.sh (telD k rows td), .sh (vecD v)] = .ok (ownN (itC rows (num v) v.length)) [] := by
  have hl : v.length ≤ 1000 := by have := ok.le; omega
  have hf : (num v).length = rows.length := by rw [num_len]; exact hv
  have m := m_lnumbers intF (p := vecD v) (l := v) (seq_tup _) hl
  have m' : d_law_numbers.m [.sh (vecD v)] = .ok (ownN (num v)) [] := m
  obtain ⟨ρ, e, tu, rfl⟩ := lopL_run (t := .nm 3) (b := gos Γ_law_classes bodyL) (fun i ρ => ∃ tu, ρ = envL (some (.sh (telD k rows td))) (some (.sh (vecD v))) (some (ownN (itC rows (num v) i))) tu none none none) (rngD 0 v.length) 0
    (envL (some (.sh (telD k rows td))) (some (.sh (vecD v))) (some (ownN (num v))) none none none none) ⟨none, rfl⟩ (by
      rintro i p ρ hp ⟨tu, rfl⟩
      rw [Nat.zero_add]
      exact ⟨envL (some (.sh (telD k rows td))) (some (.sh (vecD v))) (some (ownN (itC rows (num v) i))) (some (.sh p)) none none none, _, by simp, .inl (l_step ok (by rw [itC_len hf]; exact hf)), some (.sh p), rfl⟩)
  have hrl : (rngD 0 v.length).length = v.length := by simp [rngD]
  rw [hrl, Nat.zero_add] at e
  have ol : oLen (.sh (vecD v)) = some (.sh (.int (v.length : Nat))) := by
    show some (DI (v.map PyData.int).length) = _
    rw [List.length_map]
  have eL : lopF (.nm 3) .rng [Sop.e (ev Γ_law_classes (.op .len [.vw 1 []]))] (gos Γ_law_classes bodyL) (envL (some (.sh (telD k rows td))) (some (.sh (vecD v))) (some (ownN (num v))) none none none none) = .nx (envL (some (.sh (telD k rows td))) (some (.sh (vecD v))) (some (ownN (itC rows (num v) v.length))) tu none none none) :=
    lopF_run (ρ1 := envL (some (.sh (telD k rows td))) (some (.sh (vecD v))) (some (ownN (num v))) none none none none) (os := [.d (.sh (.int (v.length : Nat)))]) (ds := [.sh (.int (v.length : Nat))]) (by simp [wrapO, ol]) (by simp [ovs]) (itF_rngN (by omega)) e (by simp [unlock])
  rw [m_lclasses0]
  refine runD_rt (ρ0 := envL (some (.sh (telD k rows td))) (some (.sh (vecD v))) none none none none none) (ρ := envL (some (.sh (telD k rows td))) (some (.sh (vecD v))) none tu none none none) rfl rfl ?_ rfl
  refine gos_step (ρ1 := envL (some (.sh (telD k rows td))) (some (.sh (vecD v))) (some (ownN (num v))) none none none none) (by simp [fn_lnum, io_lnum, m']) ?_
  refine gos_step (ρ1 := envL (some (.sh (telD k rows td))) (some (.sh (vecD v))) (some (ownN (itC rows (num v) v.length))) tu none none none) (by rw [go_lop]; exact eL) ?_
  exact gos_last (by simp)
end
end T17
namespace T17
open PySem PySem.Spec L2 Ab Pl
open Vs hiding Env
open PyProof.Rows hiding St
/-! ### draws by hand; items in a drawn order -/
def PotP (n : Nat) (d : D) : Prop := ∃ gs st tn, gs.length ≤ 63 ∧ 0 ≤ tn ∧ tn ≤ (n : Int) ∧ d = potD gs st tn
theorem PotP.mono {n m : Nat} {d : D} (h : PotP n d) (q : n ≤ m) : PotP m d := by
  obtain ⟨gs, st, tn, a, b, c, e⟩ := h
  exact ⟨gs, st, tn, a, b, by omega, e⟩
theorem PotP.has {n : Nat} {d : D} (h : PotP n d) : has Om (.pr 0 n) d := by
  unfold Ab.has
  exact .inl ⟨rfl, h⟩
theorem PotP.of {n : Nat} {d : D} (h : Ab.has Om (.pr 0 n) d) : PotP n d := by
  unfold Ab.has at h
  rcases h with ⟨_, h⟩ | ⟨h, _⟩
  · exact h
  · omega
theorem draw_P {n : Nat} {d : D} {m : Int} (h : PotP n d) (hn : n ≤ 100000) (h1 : 0 < m) (h2 : m < 1073741824) : ∃ (r : Int) (d' : D), d_law_draw.m [d, .sh (.int m)] = .ok (.sh (.int r)) [d'] ∧ 0 ≤ r ∧ r < m ∧ PotP (n + 1) d' := by
  obtain ⟨gs, st, tn, a, b, c, rfl⟩ := h
  obtain ⟨r, gs', st', tn', e, r0, r1, k1, k2, k3⟩ := draw_ok (gs := gs) (st := st) h1 h2 a b (by omega)
  exact ⟨r, _, e, r0, r1, gs', st', tn', k1, k2, by omega, rfl⟩
theorem io_draw : d_law_draw.io = [true, false] := rfl
theorem fn_md : Γ_law_mixed.fn (Str.ofString "_law_draw") = some d_law_draw := by simp [Γ_law_mixed]
abbrev mixedB : List Sm := [.ex (.mut .append 4 [] [.mut .popAt 3 [] [.fz (.call "_law_draw" [.vw 0 [], .op .len [.vw 3 []]] [] [] [0, 1])]])]
theorem mixed_step {left found : List PyData} {pt pt' it : D} {tu : Option D} {r : Int} {y : PyData} (e : d_law_draw.m [pt, .sh (.int left.length)] = .ok (.sh (.int r)) [pt'])
    (po : mo .popAt (left.map .sh) [.sh (.int r)] = some ((left.eraseIdx r.toNat).map .sh, .sh y)) (ao : mo .append (found.map .sh) [.sh y] = some ((found ++ [y]).map .sh, .sh .none)) :
    gos Γ_law_mixed mixedB [some pt, some it, tu, some (.ls (left.map .sh)), some (.ls (found.map .sh))] = .nx [some pt', some it, tu, some (.ls ((left.eraseIdx r.toNat).map .sh)), some (.ls ((found ++ [y]).map .sh))] := by
  simp [-List.map_map, wrapO, getP, fzE_eq, D.fz, fn_md, io_draw, e, po, ao]
theorem m_mixed0 : d_law_mixed.m = runD 5 io_law_mixed (gos Γ_law_mixed b_law_mixed) := rfl
theorem m_mixed {n : Nat} {d : D} {qk : QK} {l : List PyData} (h : PotP n d) (hl : l.length ≤ 1000) (hn : n + l.length ≤ 90000) : ∃ (found : List PyData) (d' : D), d_law_mixed.m [d, mkQ qk l] = .ok (.ls (found.map .sh)) [d'] ∧ found.length = l.length ∧ (∀ p ∈ found, p ∈ l) ∧ PotP (n + l.length) d' := by
  obtain ⟨ρ, e, d', tu, left, found, rfl, y1, y2, y3, y4, y5⟩ := lopL_run (t := .nm 2) (b := gos Γ_law_mixed mixedB)
    (fun i ρ => ∃ (d' : D) (tu : Option D) (left found : List PyData), ρ = [some d', some (mkQ qk l), tu, some (.ls (left.map .sh)), some (.ls (found.map .sh))] ∧ PotP (n + i) d' ∧ left.length + i = l.length ∧ found.length = i ∧ (∀ p ∈ left, p ∈ l) ∧ ∀ p ∈ found, p ∈ l)
    (rngD 0 l.length) 0 [some d, some (mkQ qk l), none, some (.ls (l.map .sh)), some (.ls (([] : List PyData).map .sh))] ⟨d, none, l, [], rfl, h, rfl, rfl, (fun _ h => h), fun _ h => nomatch h⟩ (by
      rintro i p ρ hp ⟨d', tu, left, found, rfl, p1, p2, p3, p4, p5⟩
      rw [Nat.zero_add] at p1 p2 p3
      have hi : i < l.length := by
        have := (List.getElem?_eq_some_iff.mp hp).1
        simpa [rngD] using this
      obtain ⟨r, pt2, o1, o2, o3, o4⟩ := draw_P (m := left.length) p1 (by omega) (by omega) (by omega)
      have hr2 : r.toNat < left.length := by omega
      have po := popAt_ok (l := left) (r := r) (x := left[r.toNat]) o2 o3 (List.getElem?_eq_getElem hr2) (by omega)
      have ao := append_ok (l := found) (x := left[r.toNat]) (by omega)
      refine ⟨[some d', some (mkQ qk l), some (.sh p), some (.ls (left.map .sh)), some (.ls (found.map .sh))], _, by simp [-List.map_map], .inl (mixed_step o1 po ao), pt2, some (.sh p), _, _, rfl, o4.mono (by omega), ?_, ?_, fun p hp => p4 p (mem_erase hp), fun p hp => ?_⟩
      · have := len_erase hr2
        omega
      · simp; omega
      · rcases List.mem_append.mp hp with hp | hp
        · exact p5 p hp
        · cases List.mem_singleton.mp hp
          exact p4 _ (List.getElem_mem hr2))
  have hrl : (rngD 0 l.length).length = l.length := by simp [rngD]
  rw [Nat.zero_add, hrl] at y1 y2 y3
  refine ⟨found, d', ?_, y3, y5, y1⟩
  have h1 : oList (mkQ qk l) = some (.ls (l.map .sh)) := by simp [oList, mkQ_seq]
  have h2 : oLen (mkQ qk l) = some (.sh (.int (l.length : Nat))) := by cases qk <;> simp [mkQ, oLen]
  have eL : lopF (.nm 2) .rng [Sop.e (ev Γ_law_mixed (.op .len [.vw 1 []]))] (gos Γ_law_mixed mixedB) [some d, some (mkQ qk l), none, some (.ls (l.map .sh)), some (.ls (([] : List PyData).map .sh))] = .nx [some d', some (mkQ qk l), tu, some (.ls (left.map .sh)), some (.ls (found.map .sh))] :=
    lopF_run (ρ1 := [some d, some (mkQ qk l), none, some (.ls (l.map .sh)), some (.ls (([] : List PyData).map .sh))]) (os := [.d (.sh (.int (l.length : Nat)))]) (ds := [.sh (.int (l.length : Nat))]) (by simp [-List.map_map, wrapO, h2]) (by simp [ovs]) (itF_rngN (by omega)) e (by simp [unlock])
  rw [m_mixed0]
  refine runD_rt (ρ0 := [some d, some (mkQ qk l), none, none, none]) (ρ := [some d', some (mkQ qk l), tu, some (.ls (left.map .sh)), none]) rfl rfl ?_ rfl
  refine gos_step (ρ1 := [some d, some (mkQ qk l), none, some (.ls (l.map .sh)), some (.ls (([] : List PyData).map .sh))]) (by simp [-List.map_map, wrapO, h1]) ?_
  refine gos_step (ρ1 := [some d', some (mkQ qk l), tu, some (.ls (left.map .sh)), some (.ls (found.map .sh))]) (by rw [go_lop]; exact eL) ?_
  exact gos_last (by simp)
def sp_law_mixed : Ab.Spec := ⟨io_law_mixed, fun ts => match ts with
  | [.pr k n, t] => if k = 0 ∧ n < 80000 then match seqT t with
    | some (_, lo, hi, e) => if hi < 1000 then some [(.vec .own lo hi e, [.pr 0 (n + hi)])] else none
    | none => none
    else none
  | _ => none, none⟩
theorem so_law_mixed {fi : Nat → List D → Option D} : SpecOk ⟨Om, fi⟩ sp_law_mixed d_law_mixed := by
  refine ⟨rfl, fun ts rs ds h g => ?_⟩
  unfold sp_law_mixed at h
  dsimp only at h
  split at h
  · rename_i k n t
    split at h
    · rename_i q
      obtain ⟨rfl, hn⟩ := q
      split at h
      · rename_i qk lo hi e es
        split at h
        · rename_i hh
          cases h
          obtain ⟨pt, it, rfl, x, x2⟩ := hL2 g
          obtain ⟨l, rfl, l1, l2, l3⟩ := seqT_ok es x2
          obtain ⟨found, d', m, f1, f2, f3⟩ := m_mixed (qk := qk) (PotP.of x) (l := l) (by omega) (by omega)
          exact ⟨_, List.mem_singleton.mpr rfl, _, _, m, has_vec (k := .own) (by omega) (by omega) (fun p hp => l3 p (f2 p hp)), hasL_one (f3.mono (by omega)).has, fun id q => by cases q⟩
        · cases h
      · cases h
    · cases h
  · cases h
end T17
namespace T17
open PySem PySem.Spec L2 Ab
open Vs hiding Env
open PyProof.Rows hiding St
variable {fi : Nat → List D → Option D}
def E_law_pick : Cfg2 := ⟨⟨con, fun f => if f = "_law_draw" then some sp_law_draw else none, []⟩, [], 6⟩
theorem tb_law_pick : TabOk ⟨Om, fi⟩ E_law_pick.toCfg Γ_law_pick := by
  refine ⟨fun _ _ h => h, fun f sp h => ?_⟩
  change (if f = "_law_draw" then some sp_law_draw else none) = some sp at h
  show ∃ dn, (if f = "_law_draw" then some d_law_draw else none) = some dn ∧ SpecOk ⟨Om, fi⟩ sp dn
  rcases ite_some h with ⟨q, h⟩ | ⟨q, h⟩
  · rw [if_pos q]; cases h; exact ⟨_, rfl, so_law_draw⟩
  rw [if_neg q]
  cases h
def sp_law_pick : Ab.Spec := ⟨io_law_pick, runF E_law_pick 2 io_law_pick b_law_pick, none⟩
theorem so_law_pick : SpecOk ⟨Om, fi⟩ sp_law_pick d_law_pick := runF_ok tb_law_pick 2 io_law_pick b_law_pick
def E_law_row : Cfg2 := ⟨⟨con, fun f => if f = "_law_draw" then some sp_law_draw else none, []⟩, [], 6⟩
theorem tb_law_row : TabOk ⟨Om, fi⟩ E_law_row.toCfg Γ_law_row := by
  refine ⟨fun _ _ h => h, fun f sp h => ?_⟩
  change (if f = "_law_draw" then some sp_law_draw else none) = some sp at h
  show ∃ dn, (if f = "_law_draw" then some d_law_draw else none) = some dn ∧ SpecOk ⟨Om, fi⟩ sp dn
  rcases ite_some h with ⟨q, h⟩ | ⟨q, h⟩
  · rw [if_pos q]; cases h; exact ⟨_, rfl, so_law_draw⟩
  rw [if_neg q]
  cases h
def sp_law_row : Ab.Spec := ⟨io_law_row, runF E_law_row 4 io_law_row b_law_row, none⟩
theorem so_law_row : SpecOk ⟨Om, fi⟩ sp_law_row d_law_row := runF_ok tb_law_row 4 io_law_row b_law_row
def E_law_teller : Cfg2 := ⟨⟨con, fun f => if f = "_law_draw" then some sp_law_draw else if f = "_law_mixed" then some sp_law_mixed else if f = "_law_row" then some sp_law_row else none, []⟩, [], 6⟩
theorem tb_law_teller : TabOk ⟨Om, fi⟩ E_law_teller.toCfg Γ_law_teller := by
  refine ⟨fun _ _ h => h, fun f sp h => ?_⟩
  change (if f = "_law_draw" then some sp_law_draw else if f = "_law_mixed" then some sp_law_mixed else if f = "_law_row" then some sp_law_row else none) = some sp at h
  show ∃ dn, (if f = "_law_draw" then some d_law_draw else if f = "_law_mixed" then some d_law_mixed else if f = "_law_row" then some d_law_row else none) = some dn ∧ SpecOk ⟨Om, fi⟩ sp dn
  rcases ite_some h with ⟨q, h⟩ | ⟨q, h⟩
  · rw [if_pos q]; cases h; exact ⟨_, rfl, so_law_draw⟩
  rw [if_neg q]
  rcases ite_some h with ⟨q, h⟩ | ⟨q, h⟩
  · rw [if_pos q]; cases h; exact ⟨_, rfl, so_law_mixed⟩
  rw [if_neg q]
  rcases ite_some h with ⟨q, h⟩ | ⟨q, h⟩
  · rw [if_pos q]; cases h; exact ⟨_, rfl, so_law_row⟩
  rw [if_neg q]
  cases h
def sp_law_teller : Ab.Spec := ⟨io_law_teller, runF E_law_teller 10 io_law_teller b_law_teller, none⟩
theorem so_law_teller : SpecOk ⟨Om, fi⟩ sp_law_teller d_law_teller := runF_ok tb_law_teller 10 io_law_teller b_law_teller
def E_law_some_teller : Cfg2 := ⟨⟨con, fun f => if f = "_law_pick" then some sp_law_pick else if f = "_law_teller" then some sp_law_teller else none, []⟩, [1, 2], 6⟩
theorem tb_law_some_teller : TabOk ⟨Om, fi⟩ E_law_some_teller.toCfg Γ_law_some_teller := by
  refine ⟨fun _ _ h => h, fun f sp h => ?_⟩
  change (if f = "_law_pick" then some sp_law_pick else if f = "_law_teller" then some sp_law_teller else none) = some sp at h
  show ∃ dn, (if f = "_law_pick" then some d_law_pick else if f = "_law_teller" then some d_law_teller else none) = some dn ∧ SpecOk ⟨Om, fi⟩ sp dn
  rcases ite_some h with ⟨q, h⟩ | ⟨q, h⟩
  · rw [if_pos q]; cases h; exact ⟨_, rfl, so_law_pick⟩
  rw [if_neg q]
  rcases ite_some h with ⟨q, h⟩ | ⟨q, h⟩
  · rw [if_pos q]; cases h; exact ⟨_, rfl, so_law_teller⟩
  rw [if_neg q]
  cases h
def sp_law_some_teller : Ab.Spec := ⟨io_law_some_teller, runF E_law_some_teller 3 io_law_some_teller b_law_some_teller, none⟩
theorem so_law_some_teller : SpecOk ⟨Om, fi⟩ sp_law_some_teller d_law_some_teller := runF_ok tb_law_some_teller 3 io_law_some_teller b_law_some_teller
def E_law_ahead : Cfg2 := ⟨⟨con, fun f => none, []⟩, [], 6⟩
theorem tb_law_ahead : TabOk ⟨Om, fi⟩ E_law_ahead.toCfg Γ_law_ahead := by
  refine ⟨fun _ _ h => h, fun f sp h => ?_⟩
  cases h
def sp_law_ahead : Ab.Spec := ⟨io_law_ahead, runF E_law_ahead 5 io_law_ahead b_law_ahead, none⟩
theorem so_law_ahead : SpecOk ⟨Om, fi⟩ sp_law_ahead d_law_ahead := runF_ok tb_law_ahead 5 io_law_ahead b_law_ahead
end T17
namespace T17
open PySem PySem.Spec L2 Ab Pl
open Vs hiding Env
open PyProof.Rows hiding St
def rowT (k n : Nat) : T := .vec .tup k k (.int 0 (n - 1 : Nat))
def telT (k n : Nat) : T := .tup [.lit (.int k), .vec .tup n n (rowT k n), .vec .tup n n (.int 0 9)]
def telU (ks ns : List Nat) : List T := ks.flatMap fun k => ns.map fun n => telT k n
theorem some0 : resIs (sp_law_some_teller.ty [.pr 0 0]) (.uni (telU [1, 2, 3] [1, 2, 3, 4])) [.pr 0 300] = true := by decide +kernel
theorem some1 : resIs (sp_law_some_teller.ty [.pr 0 5000]) (.uni (telU [1, 2, 3] [1, 2, 3, 4])) [.pr 0 5300] = true := by decide +kernel
theorem some2 : resIs (sp_law_some_teller.ty [.pr 0 10000]) (.uni (telU [1, 2, 3] [1, 2, 3, 4])) [.pr 0 10300] = true := by decide +kernel
theorem some3 : resIs (sp_law_some_teller.ty [.pr 0 15000]) (.uni (telU [1, 2, 3] [1, 2, 3, 4])) [.pr 0 15300] = true := by decide +kernel
theorem tel2_15 : resIs (sp_law_teller.ty [.pr 0 10400, .lit (.int 1), .lit (.int 5), .lit (.int 3)]) (telT 1 5) [.pr 0 10800] = true := by decide +kernel
theorem tel2_16 : resIs (sp_law_teller.ty [.pr 0 10400, .lit (.int 1), .lit (.int 6), .lit (.int 3)]) (telT 1 6) [.pr 0 10800] = true := by decide +kernel
theorem tel2_18 : resIs (sp_law_teller.ty [.pr 0 10400, .lit (.int 1), .lit (.int 8), .lit (.int 3)]) (telT 1 8) [.pr 0 10800] = true := by decide +kernel
theorem tel2_25 : resIs (sp_law_teller.ty [.pr 0 10400, .lit (.int 2), .lit (.int 5), .lit (.int 3)]) (telT 2 5) [.pr 0 10800] = true := by decide +kernel
theorem tel2_26 : resIs (sp_law_teller.ty [.pr 0 10400, .lit (.int 2), .lit (.int 6), .lit (.int 3)]) (telT 2 6) [.pr 0 10800] = true := by decide +kernel
theorem tel2_28 : resIs (sp_law_teller.ty [.pr 0 10400, .lit (.int 2), .lit (.int 8), .lit (.int 3)]) (telT 2 8) [.pr 0 10800] = true := by decide +kernel
theorem tel2_35 : resIs (sp_law_teller.ty [.pr 0 10400, .lit (.int 3), .lit (.int 5), .lit (.int 3)]) (telT 3 5) [.pr 0 10800] = true := by decide +kernel
theorem tel2_36 : resIs (sp_law_teller.ty [.pr 0 10400, .lit (.int 3), .lit (.int 6), .lit (.int 3)]) (telT 3 6) [.pr 0 10800] = true := by decide +kernel
theorem tel2_38 : resIs (sp_law_teller.ty [.pr 0 10400, .lit (.int 3), .lit (.int 8), .lit (.int 3)]) (telT 3 8) [.pr 0 10800] = true := by decide +kernel
theorem tel2 {k n : Nat} (hk : k = 1 ∨ k = 2 ∨ k = 3) (hn : n = 5 ∨ n = 6 ∨ n = 8) : resIs (sp_law_teller.ty [.pr 0 10400, .lit (.int k), .lit (.int n), .lit (.int 3)]) (telT k n) [.pr 0 10800] = true := by
  rcases hk with rfl | rfl | rfl <;> rcases hn with rfl | rfl | rfl
  · exact tel2_15
  · exact tel2_16
  · exact tel2_18
  · exact tel2_25
  · exact tel2_26
  · exact tel2_28
  · exact tel2_35
  · exact tel2_36
  · exact tel2_38
theorem tel3_15 : resIs (sp_law_teller.ty [.pr 0 15400, .lit (.int 1), .lit (.int 5), .lit (.int 3)]) (telT 1 5) [.pr 0 15800] = true := by decide +kernel
theorem tel3_16 : resIs (sp_law_teller.ty [.pr 0 15400, .lit (.int 1), .lit (.int 6), .lit (.int 3)]) (telT 1 6) [.pr 0 15800] = true := by decide +kernel
theorem tel3_18 : resIs (sp_law_teller.ty [.pr 0 15400, .lit (.int 1), .lit (.int 8), .lit (.int 3)]) (telT 1 8) [.pr 0 15800] = true := by decide +kernel
theorem tel3_25 : resIs (sp_law_teller.ty [.pr 0 15400, .lit (.int 2), .lit (.int 5), .lit (.int 3)]) (telT 2 5) [.pr 0 15800] = true := by decide +kernel
theorem tel3_26 : resIs (sp_law_teller.ty [.pr 0 15400, .lit (.int 2), .lit (.int 6), .lit (.int 3)]) (telT 2 6) [.pr 0 15800] = true := by decide +kernel
theorem tel3_28 : resIs (sp_law_teller.ty [.pr 0 15400, .lit (.int 2), .lit (.int 8), .lit (.int 3)]) (telT 2 8) [.pr 0 15800] = true := by decide +kernel
theorem tel3_35 : resIs (sp_law_teller.ty [.pr 0 15400, .lit (.int 3), .lit (.int 5), .lit (.int 3)]) (telT 3 5) [.pr 0 15800] = true := by decide +kernel
theorem tel3_36 : resIs (sp_law_teller.ty [.pr 0 15400, .lit (.int 3), .lit (.int 6), .lit (.int 3)]) (telT 3 6) [.pr 0 15800] = true := by decide +kernel
theorem tel3_38 : resIs (sp_law_teller.ty [.pr 0 15400, .lit (.int 3), .lit (.int 8), .lit (.int 3)]) (telT 3 8) [.pr 0 15800] = true := by decide +kernel
theorem tel3 {k n : Nat} (hk : k = 1 ∨ k = 2 ∨ k = 3) (hn : n = 5 ∨ n = 6 ∨ n = 8) : resIs (sp_law_teller.ty [.pr 0 15400, .lit (.int k), .lit (.int n), .lit (.int 3)]) (telT k n) [.pr 0 15800] = true := by
  rcases hk with rfl | rfl | rfl <;> rcases hn with rfl | rfl | rfl
  · exact tel3_15
  · exact tel3_16
  · exact tel3_18
  · exact tel3_25
  · exact tel3_26
  · exact tel3_28
  · exact tel3_35
  · exact tel3_36
  · exact tel3_38
theorem ahd_11 : resIs (sp_law_ahead.ty [telT 1 1, .vec .tup 1 4 (.int 0 0), .vec .tup 1 1 (.int 0 9)]) (.vec .tup 1 1 (.int 0 9)) [] = true := by decide +kernel
theorem ahd_12 : resIs (sp_law_ahead.ty [telT 1 2, .vec .tup 1 4 (.int 0 0), .vec .tup 2 2 (.int 0 9)]) (.vec .tup 2 2 (.int 0 9)) [] = true := by decide +kernel
theorem ahd_13 : resIs (sp_law_ahead.ty [telT 1 3, .vec .tup 1 4 (.int 0 0), .vec .tup 3 3 (.int 0 9)]) (.vec .tup 3 3 (.int 0 9)) [] = true := by decide +kernel
theorem ahd_14 : resIs (sp_law_ahead.ty [telT 1 4, .vec .tup 1 4 (.int 0 0), .vec .tup 4 4 (.int 0 9)]) (.vec .tup 4 4 (.int 0 9)) [] = true := by decide +kernel
theorem ahd_15 : resIs (sp_law_ahead.ty [telT 1 5, .vec .tup 1 4 (.int 0 0), .vec .tup 5 5 (.int 0 9)]) (.vec .tup 5 5 (.int 0 9)) [] = true := by decide +kernel
theorem ahd_16 : resIs (sp_law_ahead.ty [telT 1 6, .vec .tup 1 4 (.int 0 0), .vec .tup 6 6 (.int 0 9)]) (.vec .tup 6 6 (.int 0 9)) [] = true := by decide +kernel
theorem ahd_17 : resIs (sp_law_ahead.ty [telT 1 7, .vec .tup 1 4 (.int 0 0), .vec .tup 7 7 (.int 0 9)]) (.vec .tup 7 7 (.int 0 9)) [] = true := by decide +kernel
theorem ahd_18 : resIs (sp_law_ahead.ty [telT 1 8, .vec .tup 1 4 (.int 0 0), .vec .tup 8 8 (.int 0 9)]) (.vec .tup 8 8 (.int 0 9)) [] = true := by decide +kernel
theorem ahd_21 : resIs (sp_law_ahead.ty [telT 2 1, .vec .tup 1 4 (.int 0 1), .vec .tup 1 1 (.int 0 9)]) (.vec .tup 1 1 (.int 0 9)) [] = true := by decide +kernel
theorem ahd_22 : resIs (sp_law_ahead.ty [telT 2 2, .vec .tup 1 4 (.int 0 1), .vec .tup 2 2 (.int 0 9)]) (.vec .tup 2 2 (.int 0 9)) [] = true := by decide +kernel
theorem ahd_23 : resIs (sp_law_ahead.ty [telT 2 3, .vec .tup 1 4 (.int 0 1), .vec .tup 3 3 (.int 0 9)]) (.vec .tup 3 3 (.int 0 9)) [] = true := by decide +kernel
theorem ahd_24 : resIs (sp_law_ahead.ty [telT 2 4, .vec .tup 1 4 (.int 0 1), .vec .tup 4 4 (.int 0 9)]) (.vec .tup 4 4 (.int 0 9)) [] = true := by decide +kernel
theorem ahd_25 : resIs (sp_law_ahead.ty [telT 2 5, .vec .tup 1 4 (.int 0 1), .vec .tup 5 5 (.int 0 9)]) (.vec .tup 5 5 (.int 0 9)) [] = true := by decide +kernel
theorem ahd_26 : resIs (sp_law_ahead.ty [telT 2 6, .vec .tup 1 4 (.int 0 1), .vec .tup 6 6 (.int 0 9)]) (.vec .tup 6 6 (.int 0 9)) [] = true := by decide +kernel
theorem ahd_27 : resIs (sp_law_ahead.ty [telT 2 7, .vec .tup 1 4 (.int 0 1), .vec .tup 7 7 (.int 0 9)]) (.vec .tup 7 7 (.int 0 9)) [] = true := by decide +kernel
theorem ahd_28 : resIs (sp_law_ahead.ty [telT 2 8, .vec .tup 1 4 (.int 0 1), .vec .tup 8 8 (.int 0 9)]) (.vec .tup 8 8 (.int 0 9)) [] = true := by decide +kernel
theorem ahd_31 : resIs (sp_law_ahead.ty [telT 3 1, .vec .tup 1 4 (.int 0 2), .vec .tup 1 1 (.int 0 9)]) (.vec .tup 1 1 (.int 0 9)) [] = true := by decide +kernel
theorem ahd_32 : resIs (sp_law_ahead.ty [telT 3 2, .vec .tup 1 4 (.int 0 2), .vec .tup 2 2 (.int 0 9)]) (.vec .tup 2 2 (.int 0 9)) [] = true := by decide +kernel
theorem ahd_33 : resIs (sp_law_ahead.ty [telT 3 3, .vec .tup 1 4 (.int 0 2), .vec .tup 3 3 (.int 0 9)]) (.vec .tup 3 3 (.int 0 9)) [] = true := by decide +kernel
theorem ahd_34 : resIs (sp_law_ahead.ty [telT 3 4, .vec .tup 1 4 (.int 0 2), .vec .tup 4 4 (.int 0 9)]) (.vec .tup 4 4 (.int 0 9)) [] = true := by decide +kernel
theorem ahd_35 : resIs (sp_law_ahead.ty [telT 3 5, .vec .tup 1 4 (.int 0 2), .vec .tup 5 5 (.int 0 9)]) (.vec .tup 5 5 (.int 0 9)) [] = true := by decide +kernel
theorem ahd_36 : resIs (sp_law_ahead.ty [telT 3 6, .vec .tup 1 4 (.int 0 2), .vec .tup 6 6 (.int 0 9)]) (.vec .tup 6 6 (.int 0 9)) [] = true := by decide +kernel
theorem ahd_37 : resIs (sp_law_ahead.ty [telT 3 7, .vec .tup 1 4 (.int 0 2), .vec .tup 7 7 (.int 0 9)]) (.vec .tup 7 7 (.int 0 9)) [] = true := by decide +kernel
theorem ahd_38 : resIs (sp_law_ahead.ty [telT 3 8, .vec .tup 1 4 (.int 0 2), .vec .tup 8 8 (.int 0 9)]) (.vec .tup 8 8 (.int 0 9)) [] = true := by decide +kernel
theorem ahd {k n : Nat} (hk : k = 1 ∨ k = 2 ∨ k = 3) (hn : n = 1 ∨ n = 2 ∨ n = 3 ∨ n = 4 ∨ n = 5 ∨ n = 6 ∨ n = 7 ∨ n = 8) : resIs (sp_law_ahead.ty [telT k n, .vec .tup 1 4 (.int 0 (k - 1 : Nat)), .vec .tup n n (.int 0 9)]) (.vec .tup n n (.int 0 9)) [] = true := by
  rcases hk with rfl | rfl | rfl <;> rcases hn with rfl | rfl | rfl | rfl | rfl | rfl | rfl | rfl
  · exact ahd_11
  · exact ahd_12
  · exact ahd_13
  · exact ahd_14
  · exact ahd_15
  · exact ahd_16
  · exact ahd_17
  · exact ahd_18
  · exact ahd_21
  · exact ahd_22
  · exact ahd_23
  · exact ahd_24
  · exact ahd_25
  · exact ahd_26
  · exact ahd_27
  · exact ahd_28
  · exact ahd_31
  · exact ahd_32
  · exact ahd_33
  · exact ahd_34
  · exact ahd_35
  · exact ahd_36
  · exact ahd_37
  · exact ahd_38
end T17
namespace T17
open PySem PySem.Spec L2 Ab Pl
open Vs hiding Env
open PyProof.Rows hiding St
theorem fn_law_classes : Γ_law.fn (Str.ofString "classes") = some d_classes := by
  unfold Γ_law; dsimp only; rw [if_pos rfl]
theorem fn_law_seen_at : Γ_law.fn (Str.ofString "seen_at") = some d_seen_at := by
  unfold Γ_law; dsimp only; rw [if_neg (by decide +kernel), if_pos rfl]
theorem fn_law_law_pot : Γ_law.fn (Str.ofString "_law_pot") = some d_law_pot := by
  unfold Γ_law; dsimp only; rw [if_neg (by decide +kernel), if_neg (by decide +kernel), if_pos rfl]
theorem fn_law_law_draw : Γ_law.fn (Str.ofString "_law_draw") = some d_law_draw := by
  unfold Γ_law; dsimp only; rw [if_neg (by decide +kernel), if_neg (by decide +kernel), if_neg (by decide +kernel), if_pos rfl]
theorem fn_law_law_pick : Γ_law.fn (Str.ofString "_law_pick") = some d_law_pick := by
  unfold Γ_law; dsimp only; rw [if_neg (by decide +kernel), if_neg (by decide +kernel), if_neg (by decide +kernel), if_neg (by decide +kernel), if_pos rfl]
theorem fn_law_law_row : Γ_law.fn (Str.ofString "_law_row") = some d_law_row := by
  unfold Γ_law; dsimp only; rw [if_neg (by decide +kernel), if_neg (by decide +kernel), if_neg (by decide +kernel), if_neg (by decide +kernel), if_neg (by decide +kernel), if_pos rfl]
theorem fn_law_law_teller : Γ_law.fn (Str.ofString "_law_teller") = some d_law_teller := by
  unfold Γ_law; dsimp only; rw [if_neg (by decide +kernel), if_neg (by decide +kernel), if_neg (by decide +kernel), if_neg (by decide +kernel), if_neg (by decide +kernel), if_neg (by decide +kernel), if_pos rfl]
theorem fn_law_law_some_teller : Γ_law.fn (Str.ofString "_law_some_teller") = some d_law_some_teller := by
  unfold Γ_law; dsimp only; rw [if_neg (by decide +kernel), if_neg (by decide +kernel), if_neg (by decide +kernel), if_neg (by decide +kernel), if_neg (by decide +kernel), if_neg (by decide +kernel), if_neg (by decide +kernel), if_pos rfl]
theorem fn_law_law_ahead : Γ_law.fn (Str.ofString "_law_ahead") = some d_law_ahead := by
  unfold Γ_law; dsimp only; rw [if_neg (by decide +kernel), if_neg (by decide +kernel), if_neg (by decide +kernel), if_neg (by decide +kernel), if_neg (by decide +kernel), if_neg (by decide +kernel), if_neg (by decide +kernel), if_neg (by decide +kernel), if_pos rfl]
theorem fn_law_law_classes : Γ_law.fn (Str.ofString "_law_classes") = some d_law_classes := by
  unfold Γ_law; dsimp only; rw [if_neg (by decide +kernel), if_neg (by decide +kernel), if_neg (by decide +kernel), if_neg (by decide +kernel), if_neg (by decide +kernel), if_neg (by decide +kernel), if_neg (by decide +kernel), if_neg (by decide +kernel), if_neg (by decide +kernel), if_pos rfl]
theorem io__classes : d_classes.io = [false, false] := rfl
theorem io__seen_at : d_seen_at.io = [false, false] := rfl
theorem io__law_pot : d_law_pot.io = [false] := rfl
theorem io__law_draw : d_law_draw.io = [true, false] := rfl
theorem io__law_pick : d_law_pick.io = [true, false] := rfl
theorem io__law_row : d_law_row.io = [true, false, false] := rfl
theorem io__law_teller : d_law_teller.io = [true, false, false, false] := rfl
theorem io__law_some_teller : d_law_some_teller.io = [true] := rfl
theorem io__law_ahead : d_law_ahead.io = [false, false, false] := rfl
theorem io__law_classes : d_law_classes.io = [false, false] := rfl
/-! ### what the law's own helpers give -/
theorem res_of {iv : Iv} {sp : Ab.Spec} {dn : Den} {ts us : List T} {ds : List D} {t : T} (h : SpecOk iv sp dn) (r : resIs (sp.ty ts) t us = true) (g : hasL iv.Ω ts ds) : ∃ d outs, dn.m ds = .ok d outs ∧ has iv.Ω t d ∧ hasL iv.Ω us outs := by
  unfold resIs at r
  split at r
  · rename_i rs e
    obtain ⟨r2, m2, d, outs, x1, x2, x3, _⟩ := h.2 ts rs ds e g
    have z := List.all_eq_true.mp r r2 m2
    unfold leR at z
    rw [Bool.and_eq_true] at z
    exact ⟨d, outs, x1, leT_ok z.1 x2, leTs_ok z.2 x3⟩
  · cases r
abbrev iv0 : Iv := ⟨Om, fun _ _ => none⟩
theorem telU_of {ks ns : List Nat} {d : D} (h : hasA Om (telU ks ns) d) : ∃ k n, k ∈ ks ∧ n ∈ ns ∧ has Om (telT k n) d := by
  obtain ⟨t, mt, ht⟩ := hasA_mem h
  unfold telU at mt
  obtain ⟨k, hk, mt⟩ := List.mem_flatMap.mp mt
  obtain ⟨n, hn, rfl⟩ := List.mem_map.mp mt
  exact ⟨k, n, hk, hn, ht⟩
/-- a teller of k letters and n states -/
def Tel (k n : Nat) (d : D) : Prop := (1 ≤ k ∧ k ≤ 3) ∧ (1 ≤ n ∧ n ≤ 8) ∧ has Om (telT k n) d
theorem some_P {i : Nat} {d : D} (hi : i < 4) (h : PotP (i * 5000) d) : ∃ t d' k n, d_law_some_teller.m [d] = .ok t [d'] ∧ PotP (i * 5000 + 300) d' ∧ Tel k n t := by
  have fin : ∀ (a b c : Nat), PotP a d → resIs (sp_law_some_teller.ty [.pr 0 a]) (.uni (telU [1, 2, 3] [1, 2, 3, 4])) [.pr 0 b] = true → b ≤ c → ∃ t d' k n, d_law_some_teller.m [d] = .ok t [d'] ∧ PotP c d' ∧ Tel k n t := fun a b c h q hc => by
    obtain ⟨t, outs, m, x, y⟩ := res_of (so_law_some_teller (fi := fun _ _ => none)) q (hasL_one h.has)
    obtain ⟨d', rfl, z⟩ := hL1 y
    unfold has at x
    obtain ⟨k, n, hk, hn, ht⟩ := telU_of x
    have hk : k = 1 ∨ k = 2 ∨ k = 3 := by simpa using hk
    have hn : n = 1 ∨ n = 2 ∨ n = 3 ∨ n = 4 := by simpa using hn
    exact ⟨t, d', k, n, m, (PotP.of z).mono hc, ⟨by omega, by omega⟩, ⟨by omega, by omega⟩, ht⟩
  have hi : i = 0 ∨ i = 1 ∨ i = 2 ∨ i = 3 := by omega
  rcases hi with e | e | e | e
  · exact fin 0 300 _ (h.mono (by omega)) some0 (by omega)
  · exact fin 5000 5300 _ (h.mono (by omega)) some1 (by omega)
  · exact fin 10000 10300 _ (h.mono (by omega)) some2 (by omega)
  · exact fin 15000 15300 _ (h.mono (by omega)) some3 (by omega)
theorem tel_P {i : Nat} {d : D} {k n : Int} (hi : i < 4) (hi2 : 2 ≤ i) (h : PotP (i * 5000 + 400) d) (hk : 1 ≤ k ∧ k ≤ 3) (hn : n = 5 ∨ n = 6 ∨ n = 8) : ∃ t d' k' n', d_law_teller.m [d, .sh (.int k), .sh (.int n), .sh (.int 3)] = .ok t [d'] ∧ PotP (i * 5000 + 800) d' ∧ Tel k' n' t := by
  obtain ⟨kk, rfl⟩ : ∃ kk : Nat, k = (kk : Nat) := ⟨k.toNat, by omega⟩
  obtain ⟨nn, rfl⟩ : ∃ nn : Nat, n = (nn : Nat) := ⟨n.toNat, by omega⟩
  have hk' : kk = 1 ∨ kk = 2 ∨ kk = 3 := by omega
  have hn' : nn = 5 ∨ nn = 6 ∨ nn = 8 := by omega
  have fin : ∀ (a b c : Nat), PotP a d → resIs (sp_law_teller.ty [.pr 0 a, .lit (.int (kk : Nat)), .lit (.int (nn : Nat)), .lit (.int 3)]) (telT kk nn) [.pr 0 b] = true → b ≤ c → ∃ t d' k' n', d_law_teller.m [d, .sh (.int (kk : Nat)), .sh (.int (nn : Nat)), .sh (.int 3)] = .ok t [d'] ∧ PotP c d' ∧ Tel k' n' t := fun a b c h q hc => by
    obtain ⟨t, outs, m, x, y⟩ := res_of (so_law_teller (fi := fun _ _ => none)) q (ds := [d, .sh (.int (kk : Nat)), .sh (.int (nn : Nat)), .sh (.int 3)]) (by
      unfold hasL
      refine ⟨h.has, ?_⟩
      unfold hasL
      refine ⟨has_lit _, ?_⟩
      unfold hasL
      exact ⟨has_lit _, hasL_one (has_lit _)⟩)
    obtain ⟨d', rfl, z⟩ := hL1 y
    exact ⟨t, d', kk, nn, m, (PotP.of z).mono hc, ⟨by omega, by omega⟩, ⟨by omega, by omega⟩, x⟩
  have hi : i = 2 ∨ i = 3 := by omega
  rcases hi with e | e
  · exact fin 10400 10800 _ (h.mono (by omega)) (tel2 hk' hn') (by omega)
  · exact fin 15400 15800 _ (h.mono (by omega)) (tel3 hk' hn') (by omega)
end T17
namespace T17
open PySem PySem.Spec L2 Ab Pl
open Vs hiding Env
open PyProof.Rows hiding St
/-! ### values of the types, as data; draws -/
theorem list_of {α : Type} {f : α → PyData} {P : α → Prop} : ∀ {l : List PyData}, (∀ p ∈ l, ∃ a, p = f a ∧ P a) → ∃ as : List α, l = as.map f ∧ ∀ a ∈ as, P a
  | [], _ => ⟨[], rfl, fun _ h => nomatch h⟩
  | p :: l, h => by
    obtain ⟨a, rfl, q⟩ := h p List.mem_cons_self
    obtain ⟨as, rfl, r⟩ := list_of (f := f) (P := P) fun p hp => h p (List.mem_cons_of_mem _ hp)
    exact ⟨a :: as, rfl, fun b hb => by
      rcases List.mem_cons.mp hb with rfl | hb
      · exact q
      · exact r b hb⟩
theorem vec_of {a b : Nat} {lo hi : Int} {d : D} (h : has Om (.vec .tup a b (.int lo hi)) d) : ∃ v : List Int, d = .sh (vecD v) ∧ (a ≤ v.length ∧ v.length ≤ b) ∧ ∀ x ∈ v, lo ≤ x ∧ x ≤ hi := by
  unfold has at h
  obtain ⟨l, rfl, h1, h2, h3⟩ := h
  obtain ⟨as, rfl, q⟩ := list_of (f := PyData.int) (P := fun x => lo ≤ x ∧ x ≤ hi) fun p hp => by
    have z := h3 p hp
    unfold has at z
    obtain ⟨i, e, z1, z2⟩ := z
    cases e
    exact ⟨i, rfl, z1, z2⟩
  exact ⟨as, rfl, ⟨by simpa using h1, by simpa using h2⟩, q⟩
theorem vec_has {a b : Nat} {lo hi : Int} {v : List Int} (h1 : a ≤ v.length) (h2 : v.length ≤ b) (h3 : ∀ x ∈ v, lo ≤ x ∧ x ≤ hi) : has Om (.vec .tup a b (.int lo hi)) (.sh (vecD v)) := by
  refine has_vec (k := .tup) (by simpa using h1) (by simpa using h2) fun p hp => ?_
  obtain ⟨i, hi, rfl⟩ := List.mem_map.mp hp
  unfold has
  exact ⟨i, rfl, h3 i hi⟩
theorem hL_cons {t : T} {ts : List T} {ds : List D} (h : hasL Om (t :: ts) ds) : ∃ d ds', ds = d :: ds' ∧ has Om t d ∧ hasL Om ts ds' := by
  cases ds with
  | nil => simp [hasL] at h
  | cons d ds => unfold hasL at h; exact ⟨d, ds, rfl, h.1, h.2⟩
theorem tel_of {k n : Nat} {t : D} (h : Tel k n t) : ∃ (rows : List (List Nat)) (v0 : List Int), t = .sh (telD k rows (v0.map .int)) ∧ TelOk rows ∧ rows.length = n ∧ v0.length = n ∧ ∀ x ∈ v0, (0 : Int) ≤ x ∧ x ≤ 9 := by
  obtain ⟨hk, hn, h⟩ := h
  unfold telT has at h
  obtain ⟨ds, rfl, h⟩ := h
  obtain ⟨a, ds1, rfl, ga, h1⟩ := hL_cons h
  obtain ⟨b, ds2, rfl, gb, h2⟩ := hL_cons h1
  obtain ⟨c, rfl, gc⟩ := hL1 h2
  have ga : a = .sh (.int k) := by simpa only [has] using ga
  subst ga
  obtain ⟨v0, rfl, l0, b0⟩ := vec_of gc
  unfold has at gb
  obtain ⟨l, rfl, l1, l2, l3⟩ := gb
  obtain ⟨rows, rfl, q⟩ := list_of (f := rowD) (P := fun r => r.length ≤ 3 ∧ ∀ s ∈ r, s < n) (l := l) fun p hp => by
    have z := l3 p hp
    unfold rowT at z
    obtain ⟨v, e, lv, bv⟩ := vec_of z
    cases e
    refine ⟨v.map Int.toNat, ?_, by simp; omega, fun s hs => ?_⟩
    · unfold vecD rowD
      rw [List.map_map]
      congr 1
      refine List.map_congr_left fun i hi => ?_
      have := bv i hi
      show PyData.int i = .int (i.toNat : Nat)
      congr 1
      omega
    · obtain ⟨i, hi, rfl⟩ := List.mem_map.mp hs
      have := bv i hi
      omega
  have hl : rows.length = n := by simp only [List.length_map] at l1 l2; omega
  refine ⟨rows, v0, rfl, ⟨by omega, fun r hr => ?_⟩, hl, by omega, b0⟩
  rw [hl]
  exact q r hr
theorem fn_pd : Γ_law_pick.fn (Str.ofString "_law_draw") = some d_law_draw := by simp [Γ_law_pick]
theorem pick_P {n : Nat} {d : D} {items : List PyData} (h : PotP n d) (hn : n ≤ 90000) (h1 : items ≠ []) (h2 : items.length < 1000000) : ∃ (x : PyData) (d' : D), x ∈ items ∧ d_law_pick.m [d, .sh (.list items)] = .ok (.sh x) [d'] ∧ PotP (n + 1) d' := by
  have hl : 0 < items.length := List.length_pos_iff.mpr h1
  obtain ⟨r, d', e, r0, r1, p⟩ := draw_P (m := items.length) h (by omega) (by omega) (by omega)
  have hr : r.toNat < items.length := by omega
  have at' : atI items r = some items[r.toNat] := at_of r0 (List.getElem?_eq_getElem hr)
  refine ⟨items[r.toNat], d', List.getElem_mem hr, ?_, p⟩
  unfold d_law_pick denOf runD
  simp [wrapO, io_law_pick, b_law_pick, fn_pd, io_draw, e, oIx, at']
theorem fn_rd : Γ_law_row.fn (Str.ofString "_law_draw") = some d_law_draw := by simp [Γ_law_row]
theorem m_row0 : d_law_row.m = runD 4 io_law_row (gos Γ_law_row b_law_row) := rfl
theorem oTup_ls (l : List PyData) : oTuple (.ls (l.map .sh)) = some (.sh (.tuple l)) := by
  unfold oTuple
  rw [seq_own]
theorem row_P {n q : Nat} {d : D} {m : Int} (h : PotP n d) (h1 : 1 ≤ m) (h2 : m ≤ 100) (hq : q ≤ 100) (hn : n + q ≤ 90000) : ∃ (v : List Int) (d' : D), d_law_row.m [d, .sh (.int m), .sh (.int (q : Nat))] = .ok (.sh (vecD v)) [d'] ∧ v.length = q ∧ (∀ x ∈ v, 0 ≤ x ∧ x < m) ∧ PotP (n + q) d' := by
  obtain ⟨acc, ρ, e, d', v, rfl, rfl, v1, v2, v3⟩ := lcL_inv (own := [3]) (t := .nm 3) (test := ifT []) (f := ev Γ_law_row (.fz (.call "_law_draw" [.vw 0 [], .rd 1] [] [] [0, 1])))
    (fun i ρ acc => ∃ (d' : D) (v : List Int), ρ = [some d', some (.sh (.int m)), some (.sh (.int (q : Nat))), none] ∧ acc = (v.map PyData.int).map .sh ∧ v.length = i ∧ (∀ x ∈ v, 0 ≤ x ∧ x < m) ∧ PotP (n + i) d') (rngD 0 q) 0 [some d, some (.sh (.int m)), some (.sh (.int (q : Nat))), none] [] ⟨d, [], rfl, rfl, rfl, (fun _ h => nomatch h), h⟩ (by
      rintro i p ρ acc hp ⟨d', v, rfl, rfl, v1, v2, v3⟩
      have hi : i < q := by
        have := (List.getElem?_eq_some_iff.mp hp).1
        simpa [rngD] using this
      rw [Nat.zero_add] at v1 v3
      obtain ⟨r, d2, e2, r0, r1, p2⟩ := draw_P (m := m) v3 (by omega) (by omega) (by omega)
      refine ⟨by simp; omega, [some d', some (.sh (.int m)), some (.sh (.int (q : Nat))), some (.sh p)], by simp, .inl ⟨_, .sh (.int r), [some d2, some (.sh (.int m)), some (.sh (.int (q : Nat))), some (.sh p)], ifT_nil, by simp [fzE_eq, D.fz, fn_rd, io_draw, e2], d2, v ++ [r], by simp, by simp, by simp; omega, ?_, by rw [Nat.zero_add]; exact p2.mono (by omega)⟩⟩
      intro z hz
      rcases List.mem_append.mp hz with hz | hz
      · exact v2 z hz
      · rw [List.mem_singleton] at hz; subst hz; exact ⟨r0, r1⟩)
  have hrl : (rngD 0 q).length = q := by simp [rngD]
  rw [hrl, Nat.zero_add] at v1 v3
  refine ⟨v, d', ?_, v1, v2, v3⟩
  have l := lcE_run (own := [3]) (t := .nm 3) (k := .rng) (ops := [Sop.e (ev Γ_law_row (.rd 2))]) (test := ifT []) (f := ev Γ_law_row (.fz (.call "_law_draw" [.vw 0 [], .rd 1] [] [] [0, 1]))) (ρ := [some d, some (.sh (.int m)), some (.sh (.int (q : Nat))), none]) (ρ1 := [some d, some (.sh (.int m)), some (.sh (.int (q : Nat))), none]) (ρ3 := [some d', some (.sh (.int m)), some (.sh (.int (q : Nat))), none]) (os := [.d (.sh (.int (q : Nat)))]) (ds := [.sh (.int (q : Nat))]) (by simp) (by simp [ovs]) (itF_rngN (by omega)) e (by simp [unlock])
  rw [m_row0]
  refine runD_rt (ρ0 := [some d, some (.sh (.int m)), some (.sh (.int (q : Nat))), none]) (ρ := [some d', some (.sh (.int m)), some (.sh (.int (q : Nat))), none]) rfl rfl ?_ rfl
  exact gos_last (by simp [-List.map_map, wrapO, l, oTup_ls, vecD])
theorem ahead_P {k n : Nat} {t : D} {L v : List Int} (h : Tel k n t) (hL : 1 ≤ L.length ∧ L.length ≤ 4) (hl : ∀ x ∈ L, 0 ≤ x ∧ x < (k : Int)) (hv : v.length = n) (hb : ∀ x ∈ v, 0 ≤ x ∧ x ≤ 9) :
    ∃ v' : List Int, d_law_ahead.m [t, .sh (vecD L), .sh (vecD v)] = .ok (.sh (vecD v')) [] ∧ v'.length = n ∧ ∀ x ∈ v', (0 : Int) ≤ x ∧ x ≤ 9 := by
  obtain ⟨hk, hn, ht⟩ := h
  have q := ahd (k := k) (n := n) (by omega) (by omega)
  obtain ⟨x, outs, m, y, z⟩ := res_of (so_law_ahead (fi := fun _ _ => none)) q (ds := [t, .sh (vecD L), .sh (vecD v)]) (by
    unfold hasL
    refine ⟨ht, ?_⟩
    unfold hasL
    refine ⟨vec_has hL.1 hL.2 fun x hx => ?_, hasL_one (vec_has (by omega) (by omega) hb)⟩
    have := hl x hx
    omega)
  obtain ⟨v', rfl, l', b'⟩ := vec_of y
  have : outs = [] := by
    cases outs with
    | nil => rfl
    | cons _ _ => simp [hasL] at z
  subst this
  exact ⟨v', m, by omega, b'⟩
theorem m_seen0 : d_seen_at.m = runD 3 io_seen_at (gos Γ_seen_at b_seen_at) := rfl
def atV (v : List Int) : PyData → PyData
  | .int i => .int (v.getD i.toNat 0)
  | x => x
theorem at_vec {v : List Int} {i : Int} (h0 : 0 ≤ i) (h1 : i < v.length) : oIx (.sh (vecD v)) (.sh (.int i)) = some (.sh (.int (v.getD i.toNat 0))) := by
  have hi : i.toNat < v.length := by omega
  show (atI (v.map PyData.int) i).map D.sh = _
  rw [at_of h0 (x := .int (v.getD i.toNat 0)) (by rw [List.getElem?_map, List.getElem?_eq_getElem hi]; simp [List.getD_eq_getElem?_getD, List.getElem?_eq_getElem hi])]
  rfl
def seenD (v L : List Int) : PyData := .tuple (L.map fun i => .int (v.getD i.toNat 0))
theorem m_seen {v L : List Int} (h : ∀ x ∈ L, 0 ≤ x ∧ x < (v.length : Int)) (hl : L.length ≤ 1000) : d_seen_at.m [.sh (vecD v), .sh (vecD L)] = .ok (.sh (seenD v L)) [] := by
  have e : lcL [2] (.nm 2) (ifT []) (ev Γ_seen_at (.op .ix [.vw 0 [], .vw 2 []])) (L.map .int) [some (.sh (vecD v)), some (.sh (vecD L)), none] [] = some ((L.map fun i => .int (v.getD i.toNat 0)).map .sh, [some (.sh (vecD v)), some (.sh (vecD L)), none]) := by
    rw [lcL_map fun p => .sh (atV v p)]
    · simp [List.map_map, Function.comp_def, atV]
    · intro p hp
      obtain ⟨i, hi, rfl⟩ := List.mem_map.mp hp
      have q := at_vec (h i hi).1 (h i hi).2
      refine ⟨[some (.sh (vecD v)), some (.sh (vecD L)), some (.sh (.int i))], by simp, by simp, ?_, by simp⟩
      simp [-List.getD_eq_getElem?_getD, wrapO, q, atV]
    · simp; omega
  have l := lcE_run (own := [2]) (t := .nm 2) (k := .seq) (ops := [Sop.e (ev Γ_seen_at (.rd 1))]) (test := ifT []) (f := ev Γ_seen_at (.op .ix [.vw 0 [], .vw 2 []])) (ρ := [some (.sh (vecD v)), some (.sh (vecD L)), none]) (ρ1 := [some (.sh (vecD v)), some (.sh (vecD L)), none]) (ρ2 := [some (.sh (vecD v)), some (.sh (vecD L)), none]) (ρ3 := [some (.sh (vecD v)), some (.sh (vecD L)), none]) (os := [.d (.sh (vecD L))]) (ds := [.sh (vecD L)]) (by simp) (by simp [ovs]) (show itF .seq [.sh (.tuple (L.map .int))] = some (L.map .int) from rfl) e (by simp [unlock])
  rw [m_seen0]
  refine runD_rt (ρ0 := [some (.sh (vecD v)), some (.sh (vecD L)), none]) (ρ := [some (.sh (vecD v)), some (.sh (vecD L)), none]) rfl rfl ?_ rfl
  exact gos_last (by simp [-List.map_map, -List.getD_eq_getElem?_getD, wrapO, l, oTup_ls, seenD])
end T17
namespace T17
open PySem PySem.Spec L2 Ab Pl
open Vs hiding Env
open PyProof.Rows hiding St
/-! ### the law's body -/
abbrev envW (x0 x1 x2 x3 x4 x5 x6 x7 x8 x9 x10 x11 : Option D) : Vs.Env := [x0, x1, x2, x3, x4, x5, x6, x7, x8, x9, x10, x11]
abbrev I1 : Sm := .asg (.nm 8) (.op .tuple [.call "_law_classes" [.rd 3, .rd 5] [] [] [0, 1]])
abbrev I3 : Sm := .asg (.nm 9) (.lst [.call "classes" [.rd 3, .rd 5] [] [] [0, 1], .call "classes" [] [.rd 5, .rd 3] ["vector", "teller"] [1, 0], .call "classes" [.rd 3, .rd 5] [] [] [0, 1]])
abbrev I4 : Sm := .ite (.bop false [.op .ne [.op .repr [.vw 9 []], .op .repr [.op .mul [.lst [.rd 8], .lit (.int 3)]]], .op .ne [.op .repr [.vw 3 []], .vw 7 []]]) [.ret (.lit (.bool false))] []
abbrev I5 : Sm := .asg (.nm 10) (.call "_law_row" [.vw 1 [], .rd 6, .fz (.call "_law_draw" [.vw 1 [], .lit (.int 11)] [] [] [0, 1])] [] [] [0, 1, 2])
abbrev I7 : Sm := .asg (.nm 8) (.op .tuple [.lc [11] (.nm 11) .seq [.rd 10] [] (.op .ix [.vw 5 [], .vw 11 []])])
abbrev I9 : Sm := .ite (.op .ne [.op .repr [.lst [.call "seen_at" [.rd 5, .rd 10] [] [] [0, 1], .call "seen_at" [] [.rd 10, .rd 5] ["states", "vector"] [1, 0]]], .op .repr [.lst [.rd 8, .rd 8]]]) [.ret (.lit (.bool false))] []
abbrev innerB : List Sm := [.frz 3, I1, .frz 3, I3, I4, I5, .frz 10, I7, .frz 10, I9]
abbrev O0 : Sm := .asg (.nm 3) (.call "_law_some_teller" [.vw 1 []] [] [] [0])
abbrev O1b : Sm := .asg (.nm 3) (.call "_law_teller" [.vw 1 [], .fz (.op .add [.lit (.int 1), .call "_law_draw" [.vw 1 [], .lit (.int 3)] [] [] [0, 1]]), .fz (.call "_law_pick" [.vw 1 [], .fz (.lst [.lit (.int 5), .lit (.int 6), .lit (.int 8)])] [] [] [0, 1]), .lit (.int 3)] [] [] [0, 1, 2, 3])
abbrev O1 : Sm := .ite (.op .gt [.vw 2 [], .lit (.int 1)]) [O1b] []
abbrev O2 : Sm := .par [6, 7] [.op .len [.op .ix [.vw 3 [], .lit (.int 1)]], .op .repr [.vw 3 []]]
abbrev O3 : Sm := .asg (.nm 4) (.lst [.op .ix [.vw 3 [], .lit (.int 2)], .op .mul [.tup [.call "_law_draw" [.vw 1 [], .lit (.int 10)] [] [] [0, 1]], .vw 6 []], .call "_law_row" [.vw 1 [], .lit (.int 2), .rd 6] [] [] [0, 1, 2], .call "_law_row" [.vw 1 [], .lit (.int 10), .rd 6] [] [] [0, 1, 2]])
abbrev O5 : Sm := .ex (.mut .append 4 [] [.fz (.call "_law_ahead" [.rd 3, .fz (.call "_law_row" [.vw 1 [], .op .ix [.vw 3 [], .lit (.int 0)], .fz (.op .add [.lit (.int 1), .call "_law_draw" [.vw 1 [], .lit (.int 4)] [] [] [0, 1]])] [] [] [0, 1, 2]), .op .ix [.vw 3 [], .lit (.int 2)]] [] [] [0, 1, 2])])
abbrev outerB : List Sm := [O0, O1, O2, O3, .frz 3, O5, .frz 4, .lop (.nm 5) .seq [.rd 4] innerB]
theorem law_split : b_law = [.asg (.nm 1) (.call "_law_pot" [.rd 0] [] [] [0]), .lop (.nm 2) .rng [.lit (.int 4)] outerB, .ret (.lit (.bool true))] := rfl
theorem m_law0 : d_law.m = runD 12 io_law (gos Γ_law b_law) := rfl
theorem repr_has {t : T} {x : D} {a w : Nat} (h : has Om t x) (e : dm t = some (a, w)) (h1 : a ≤ 60) (h2 : w ≤ 400000) : ∃ s : Str, oRepr x = some (.sh (.str s)) ∧ oEq true (.sh (.str s)) (.sh (.str s)) = some (DB false) := by
  obtain ⟨p, e1, g⟩ := has_dm h e
  exact ⟨p.shown, oRepr_gd e1 g h1 h2, same_shown g.ok⟩
theorem frz_no {i : Nat} {p : PyData} {ρ : Vs.Env} (h : ρ[i]? = some (some (.sh p))) : go Γ_law (.frz i) ρ = .nx ρ := by
  show frzF i ρ = _
  unfold frzF
  rw [h]
  simp only [D.fz]
  congr 1
  exact List.ext_getElem? fun j => by
    rw [List.getElem?_set]
    split
    · rename_i e
      subst e
      split
      · exact h.symm
      · rename_i n
        rw [List.getElem?_eq_none (by omega)] at h
        cases h
    · rfl
section
variable {x0 x1 x2 x3 x4 x5 x6 x7 x8 x9 x10 x11 : Option D}
theorem i1 {t w : PyData} {C : List Nat} (m : d_law_classes.m [.sh t, .sh w] = .ok (ownN C) []) : go Γ_law I1 (envW x0 x1 x2 (some (.sh t)) x4 (some (.sh w)) x6 x7 x8 x9 x10 x11) = .nx (envW x0 x1 x2 (some (.sh t)) x4 (some (.sh w)) x6 x7 (some (.sh (tupN C))) x9 x10 x11) := by
  have h : oTuple (ownN C) = some (.sh (tupN C)) := oTup_ls _
  simp [-List.map_map, wrapO, fn_law_law_classes, io__law_classes, m, h]
theorem i3 {t w c : PyData} (m : d_classes.m [.sh t, .sh w] = .ok (.sh c) []) : go Γ_law I3 (envW x0 x1 x2 (some (.sh t)) x4 (some (.sh w)) x6 x7 x8 x9 x10 x11) = .nx (envW x0 x1 x2 (some (.sh t)) x4 (some (.sh w)) x6 x7 x8 (some (.ls [.sh c, .sh c, .sh c])) x10 x11) := by
  simp [wrapO, fn_law_classes, io__classes, m, arr, perm, Ov.isSh]
theorem mul3 (c : PyData) : oMul (.ls [.sh c]) (.sh (.int 3)) = some (.ls [.sh c, .sh c, .sh c]) := by
  simp [oMul, unsh, guardO, sizeLine_eq, List.replicate]
theorem i4 {t c : PyData} {S K : Str} (r9 : oRepr (.ls [.sh c, .sh c, .sh c]) = some (.sh (.str S))) (e9 : oEq true (.sh (.str S)) (.sh (.str S)) = some (DB false)) (rt : oRepr (.sh t) = some (.sh (.str K))) (ek : oEq true (.sh (.str K)) (.sh (.str K)) = some (DB false)) :
    go Γ_law I4 (envW x0 x1 x2 (some (.sh t)) x4 x5 x6 (some (.sh (.str K))) (some (.sh c)) (some (.ls [.sh c, .sh c, .sh c])) x10 x11) = .nx (envW x0 x1 x2 (some (.sh t)) x4 x5 x6 (some (.sh (.str K))) (some (.sh c)) (some (.ls [.sh c, .sh c, .sh c])) x10 x11) := by
  simp [wrapO, r9, e9, rt, ek, mul3]
theorem i5 {d d1 d2 : D} {n q : Int} {L : PyData} (e1 : d_law_draw.m [d, .sh (.int 11)] = .ok (.sh (.int q)) [d1]) (e2 : d_law_row.m [d1, .sh (.int n), .sh (.int q)] = .ok (.sh L) [d2]) :
    go Γ_law I5 (envW x0 (some d) x2 x3 x4 x5 (some (.sh (.int n))) x7 x8 x9 x10 x11) = .nx (envW x0 (some d2) x2 x3 x4 x5 (some (.sh (.int n))) x7 x8 x9 (some (.sh L)) x11) := by
  simp [fzE_eq, D.fz, wrapO, fn_law_law_row, fn_law_law_draw, io__law_row, io__law_draw, e1, e2]
theorem i7 {v L : List Int} (h : ∀ x ∈ L, 0 ≤ x ∧ x < (v.length : Int)) (hl : L.length ≤ 1000) :
    go Γ_law I7 (envW x0 x1 x2 x3 x4 (some (.sh (vecD v))) x6 x7 x8 x9 (some (.sh (vecD L))) x11) = .nx (envW x0 x1 x2 x3 x4 (some (.sh (vecD v))) x6 x7 (some (.sh (seenD v L))) x9 (some (.sh (vecD L))) none) := by
  have e : lcL [11] (.nm 11) (ifT []) (ev Γ_law (.op .ix [.vw 5 [], .vw 11 []])) (L.map .int) (envW x0 x1 x2 x3 x4 (some (.sh (vecD v))) x6 x7 x8 x9 (some (.sh (vecD L))) none) [] = some ((L.map fun i => .int (v.getD i.toNat 0)).map .sh, envW x0 x1 x2 x3 x4 (some (.sh (vecD v))) x6 x7 x8 x9 (some (.sh (vecD L))) none) := by
    rw [lcL_map fun p => .sh (atV v p)]
    · simp [List.map_map, Function.comp_def, atV]
    · intro p hp
      obtain ⟨i, hi, rfl⟩ := List.mem_map.mp hp
      have q := at_vec (h i hi).1 (h i hi).2
      refine ⟨envW x0 x1 x2 x3 x4 (some (.sh (vecD v))) x6 x7 x8 x9 (some (.sh (vecD L))) (some (.sh (.int i))), by simp, by simp, ?_, by simp⟩
      simp [-List.getD_eq_getElem?_getD, wrapO, q, atV]
    · simp; omega
  have l := lcE_run (own := [11]) (t := .nm 11) (k := .seq) (ops := [Sop.e (ev Γ_law (.rd 10))]) (test := ifT []) (f := ev Γ_law (.op .ix [.vw 5 [], .vw 11 []])) (ρ := envW x0 x1 x2 x3 x4 (some (.sh (vecD v))) x6 x7 x8 x9 (some (.sh (vecD L))) x11) (ρ1 := envW x0 x1 x2 x3 x4 (some (.sh (vecD v))) x6 x7 x8 x9 (some (.sh (vecD L))) x11) (ρ2 := envW x0 x1 x2 x3 x4 (some (.sh (vecD v))) x6 x7 x8 x9 (some (.sh (vecD L))) none) (ρ3 := envW x0 x1 x2 x3 x4 (some (.sh (vecD v))) x6 x7 x8 x9 (some (.sh (vecD L))) none) (os := [.d (.sh (vecD L))]) (ds := [.sh (vecD L)]) (by simp) (by simp [ovs]) (show itF .seq [.sh (.tuple (L.map .int))] = some (L.map .int) from rfl) e (by simp [unlock])
  simp [-List.map_map, -List.getD_eq_getElem?_getD, wrapO, l, oTup_ls, seenD]
theorem i9 {w L s : PyData} {S : Str} (m : d_seen_at.m [.sh w, .sh L] = .ok (.sh s) []) (r : oRepr (.ls [.sh s, .sh s]) = some (.sh (.str S))) (e : oEq true (.sh (.str S)) (.sh (.str S)) = some (DB false)) :
    go Γ_law I9 (envW x0 x1 x2 x3 x4 (some (.sh w)) x6 x7 (some (.sh s)) x9 (some (.sh L)) x11) = .nx (envW x0 x1 x2 x3 x4 (some (.sh w)) x6 x7 (some (.sh s)) x9 (some (.sh L)) x11) := by
  simp [wrapO, fn_law_seen_at, io__seen_at, m, arr, perm, Ov.isSh, r, e]
theorem tupN_has {C : List Nat} (h : C.length ≤ 8) (q : ∀ i ∈ C, i < 8) : has Om (.vec .tup 0 8 (.int 0 8)) (.sh (tupN C)) := by
  have := vec_has (a := 0) (b := 8) (lo := 0) (hi := 8) (v := C.map fun i : Nat => (i : Int)) (by omega) (by simpa using h) (fun x hx => by
    obtain ⟨i, hi, rfl⟩ := List.mem_map.mp hx
    have := q i hi
    omega)
  unfold vecD at this
  rw [List.map_map] at this
  exact this
theorem ls3_has {t : T} {c : PyData} (h : has Om t (.sh c)) : has Om (.vec .own 0 3 t) (.ls [.sh c, .sh c, .sh c]) := by
  refine has_vec (k := .own) (l := [c, c, c]) (by simp) (by simp) fun p hp => ?_
  simp only [List.mem_cons, List.not_mem_nil, or_false, or_self] at hp
  subst hp
  exact h
theorem ls2_has {t : T} {c : PyData} (h : has Om t (.sh c)) : has Om (.vec .own 0 3 t) (.ls [.sh c, .sh c]) := by
  refine has_vec (k := .own) (l := [c, c]) (by simp) (by simp) fun p hp => ?_
  simp only [List.mem_cons, List.not_mem_nil, or_false, or_self] at hp
  subst hp
  exact h
theorem itC_lt {rows : List (List Nat)} {v : List Int} (h : v.length = rows.length) : ∀ j, ∀ i ∈ itC rows (num v) j, i < v.length := fun j => by
  have hf : (num v).length = rows.length := by rw [num_len]; exact h
  intro i hi
  cases j with
  | zero => exact num_lt hi
  | succ j =>
    have hl : (itC rows (num v) j).length = rows.length := by rw [itC_len hf]; exact hf
    have := num_lt (l := keyL rows (itC rows (num v) j)) hi
    rw [keyL_len hl, hl] at this
    omega
theorem inner_ok {n : Nat} {d : D} {k : Int} {rows : List (List Nat)} {td : List PyData} {v : List Int} {K : Str} (h : PotP n d) (hn : n ≤ 70000) (ok : TelOk rows) (hr1 : 1 ≤ rows.length) (hv : v.length = rows.length) (hb : ∀ x ∈ v, 0 ≤ x ∧ x ≤ 9) (rt : oRepr (.sh (telD k rows td)) = some (.sh (.str K))) (ek : oEq true (.sh (.str K)) (.sh (.str K)) = some (DB false)) :
    ∃ d' y8 y9 y10, gos Γ_law innerB (envW x0 (some d) x2 (some (.sh (telD k rows td))) x4 (some (.sh (vecD v))) (some (.sh (.int (rows.length : Nat)))) (some (.sh (.str K))) x8 x9 x10 x11) =
      .nx (envW x0 (some d') x2 (some (.sh (telD k rows td))) x4 (some (.sh (vecD v))) (some (.sh (.int (rows.length : Nat)))) (some (.sh (.str K))) y8 y9 y10 none) ∧ PotP (n + 20) d' := by
  have hle := ok.le
  have mC := m_classes (k := k) (td := td) ok hv
  have mL := m_lclasses (k := k) (td := td) ok hv
  have hf : (num v).length = rows.length := by rw [num_len]; exact hv
  generalize ht : telD k rows td = t at mC mL rt ⊢
  have cl : (itC rows (num v) v.length).length ≤ 8 := by rw [itC_len hf, hf]; exact hle
  have clt : ∀ i ∈ itC rows (num v) v.length, i < 8 := fun i hi => by have := itC_lt hv _ i hi; omega
  generalize itC rows (num v) v.length = C at mC mL cl clt
  have hC := tupN_has cl clt
  obtain ⟨S, r9, e9⟩ := repr_has (ls3_has hC) (show dm (.vec .own 0 3 (.vec .tup 0 8 (.int 0 8))) = some _ from rfl) (by decide) (by decide)
  obtain ⟨q, d1, e1, q0, q1, p1⟩ := draw_P (m := 11) h (by omega) (by omega) (by omega)
  obtain ⟨qn, rfl⟩ : ∃ qn : Nat, q = (qn : Nat) := ⟨q.toNat, by omega⟩
  obtain ⟨L, d2, e2, l1, l2, p2⟩ := row_P (m := rows.length) (q := qn) p1 (by omega) (by omega) (by omega) (by omega)
  have hL : ∀ x ∈ L, 0 ≤ x ∧ x < (v.length : Int) := fun x hx => by rw [hv]; exact l2 x hx
  have ms := m_seen hL (by omega)
  have hs : has Om (.vec .tup 0 10 (.int 0 9)) (.sh (seenD v L)) := by
    refine has_vec (k := .tup) (by omega) (by simp; omega) fun p hp => ?_
    obtain ⟨i, hi, rfl⟩ := List.mem_map.mp hp
    have := hL i hi
    have hi2 : i.toNat < v.length := by omega
    unfold has
    refine ⟨_, rfl, ?_⟩
    rw [List.getD_eq_getElem?_getD, List.getElem?_eq_getElem hi2]
    exact hb _ (List.getElem_mem hi2)
  obtain ⟨S2, r10, e10⟩ := repr_has (ls2_has hs) (show dm (.vec .own 0 3 (.vec .tup 0 10 (.int 0 9))) = some _ from rfl) (by decide) (by decide)
  refine ⟨d2, some (.sh (seenD v L)), some (.ls [.sh (tupN C), .sh (tupN C), .sh (tupN C)]), some (.sh (vecD L)), ?_, p2.mono (by omega)⟩
  refine gos_step (frz_no (i := 3) (p := t) rfl) ?_
  refine gos_step (i1 mL) ?_
  refine gos_step (frz_no (i := 3) (p := t) rfl) ?_
  refine gos_step (i3 mC) ?_
  refine gos_step (i4 r9 e9 rt ek) ?_
  refine gos_step (i5 e1 e2) ?_
  refine gos_step (frz_no (i := 10) (p := vecD L) rfl) ?_
  refine gos_step (i7 hL (by omega)) ?_
  refine gos_step (frz_no (i := 10) (p := vecD L) rfl) ?_
  exact gos_step (i9 ms r10 e10) rfl
end
end T17
namespace T17
open PySem PySem.Spec L2 Ab Pl
open Vs hiding Env
open PyProof.Rows hiding St
/-! ### the law: four turns -/
section
variable {x0 x1 x2 x3 x4 x5 x6 x7 x8 x9 x10 x11 : Option D}
theorem o0 {d d' t : D} (m : d_law_some_teller.m [d] = .ok t [d']) : go Γ_law O0 (envW x0 (some d) x2 x3 x4 x5 x6 x7 x8 x9 x10 x11) = .nx (envW x0 (some d') x2 (some t) x4 x5 x6 x7 x8 x9 x10 x11) := by
  simp [fn_law_law_some_teller, io__law_some_teller, m]
theorem o1b {d d1 d2 d3 t : D} {r n : Int} (e1 : d_law_draw.m [d, .sh (.int 3)] = .ok (.sh (.int r)) [d1]) (e2 : d_law_pick.m [d1, .sh (.list [.int 5, .int 6, .int 8])] = .ok (.sh (.int n)) [d2]) (e3 : d_law_teller.m [d2, .sh (.int (1 + r)), .sh (.int n), .sh (.int 3)] = .ok t [d3]) :
    go Γ_law O1b (envW x0 (some d) x2 x3 x4 x5 x6 x7 x8 x9 x10 x11) = .nx (envW x0 (some d3) x2 (some t) x4 x5 x6 x7 x8 x9 x10 x11) := by
  have fz : (D.ls [.sh (.int 5), .sh (.int 6), .sh (.int 8)]).fz = some (.list [.int 5, .int 6, .int 8]) := rfl
  simp [fzE_eq, D.fz, D.fzs, wrapO, fn_law_law_draw, fn_law_law_pick, fn_law_law_teller, io__law_draw, io__law_pick, io__law_teller, e1, e2, e3]
theorem o1_no {i : Nat} (hi : i < 2) : go Γ_law O1 (envW x0 x1 (some (.sh (.int (i : Nat)))) x3 x4 x5 x6 x7 x8 x9 x10 x11) = .nx (envW x0 x1 (some (.sh (.int (i : Nat)))) x3 x4 x5 x6 x7 x8 x9 x10 x11) := by
  have h : decide ((1 : Int) < (i : Nat)) = false := decide_eq_false (by omega)
  have ct : evT Γ_law (.op .gt [.vw 2 [], .lit (.int 1)]) (envW x0 x1 (some (.sh (.int (i : Nat)))) x3 x4 x5 x6 x7 x8 x9 x10 x11) = .ok (false, envW x0 x1 (some (.sh (.int (i : Nat)))) x3 x4 x5 x6 x7 x8 x9 x10 x11) := by
    have o : oCmpI (fun i j => decide (j < i)) (.sh (.int (i : Nat))) (.sh (.int 1)) = some (DB false) := by
      simp only [oCmpI, h]
    simp [wrapO, o]
  rw [go_ite]
  simp only [Vs.iteF, ct, out_ok]
  simp
theorem o1_yes {i : Nat} {y1 y3 : Option D} (hi : 2 ≤ i) (e : go Γ_law O1b (envW x0 x1 (some (.sh (.int (i : Nat)))) x3 x4 x5 x6 x7 x8 x9 x10 x11) = .nx (envW x0 y1 (some (.sh (.int (i : Nat)))) y3 x4 x5 x6 x7 x8 x9 x10 x11)) :
    go Γ_law O1 (envW x0 x1 (some (.sh (.int (i : Nat)))) x3 x4 x5 x6 x7 x8 x9 x10 x11) = .nx (envW x0 y1 (some (.sh (.int (i : Nat)))) y3 x4 x5 x6 x7 x8 x9 x10 x11) := by
  have h : decide ((1 : Int) < (i : Nat)) = true := decide_eq_true (by omega)
  have ct : evT Γ_law (.op .gt [.vw 2 [], .lit (.int 1)]) (envW x0 x1 (some (.sh (.int (i : Nat)))) x3 x4 x5 x6 x7 x8 x9 x10 x11) = .ok (true, envW x0 x1 (some (.sh (.int (i : Nat)))) x3 x4 x5 x6 x7 x8 x9 x10 x11) := by
    have o : oCmpI (fun i j => decide (j < i)) (.sh (.int (i : Nat))) (.sh (.int 1)) = some (DB true) := by
      simp only [oCmpI, h]
    simp [wrapO, o]
  rw [go_ite]
  simp only [Vs.iteF, ct, out_ok, if_pos]
  exact gos_step e rfl
theorem o2 {t R : PyData} {n : Int} {K : Str} (h1 : oIx (.sh t) (.sh (.int 1)) = some (.sh R)) (hl : oLen (.sh R) = some (.sh (.int n))) (rt : oRepr (.sh t) = some (.sh (.str K))) :
    go Γ_law O2 (envW x0 x1 x2 (some (.sh t)) x4 x5 x6 x7 x8 x9 x10 x11) = .nx (envW x0 x1 x2 (some (.sh t)) x4 x5 (some (.sh (.int n))) (some (.sh (.str K))) x8 x9 x10 x11) := by
  simp [wrapO, h1, hl, rt]
theorem o3 {d d1 d2 d3 : D} {t v0 v1 v2 v3 : PyData} {r n : Int} (h2 : oIx (.sh t) (.sh (.int 2)) = some (.sh v0)) (e1 : d_law_draw.m [d, .sh (.int 10)] = .ok (.sh (.int r)) [d1]) (em : oMul (.sh (.tuple [.int r])) (.sh (.int n)) = some (.sh v1))
    (e2 : d_law_row.m [d1, .sh (.int 2), .sh (.int n)] = .ok (.sh v2) [d2]) (e3 : d_law_row.m [d2, .sh (.int 10), .sh (.int n)] = .ok (.sh v3) [d3]) :
    go Γ_law O3 (envW x0 (some d) x2 (some (.sh t)) x4 x5 (some (.sh (.int n))) x7 x8 x9 x10 x11) = .nx (envW x0 (some d3) x2 (some (.sh t)) (some (.ls [.sh v0, .sh v1, .sh v2, .sh v3])) x5 (some (.sh (.int n))) x7 x8 x9 x10 x11) := by
  have hm : mkTup [.sh (.int r)] = .sh (.tuple [.int r]) := rfl
  simp [wrapO, h2, fn_law_law_draw, fn_law_law_row, io__law_draw, io__law_row, e1, e2, e3, hm, em]
theorem o5 {d d1 d2 : D} {t k v0 v1 v2 v3 v4 L : PyData} {r : Int} (h0 : oIx (.sh t) (.sh (.int 0)) = some (.sh k)) (h2 : oIx (.sh t) (.sh (.int 2)) = some (.sh v0)) (e1 : d_law_draw.m [d, .sh (.int 4)] = .ok (.sh (.int r)) [d1])
    (e2 : d_law_row.m [d1, .sh k, .sh (.int (1 + r))] = .ok (.sh L) [d2]) (e3 : d_law_ahead.m [.sh t, .sh L, .sh v0] = .ok (.sh v4) []) :
    go Γ_law O5 (envW x0 (some d) x2 (some (.sh t)) (some (.ls [.sh v0, .sh v1, .sh v2, .sh v3])) x5 x6 x7 x8 x9 x10 x11) = .nx (envW x0 (some d2) x2 (some (.sh t)) (some (.ls [.sh v0, .sh v1, .sh v2, .sh v3, .sh v4])) x5 x6 x7 x8 x9 x10 x11) := by
  simp [fzE_eq, D.fz, wrapO, getP, h0, h2, fn_law_law_draw, fn_law_law_row, fn_law_law_ahead, io__law_draw, io__law_row, io__law_ahead, e1, e2, e3, mo, moAppend]
theorem o6 {v0 v1 v2 v3 v4 : PyData} : go Γ_law (.frz 4) (envW x0 x1 x2 x3 (some (.ls [.sh v0, .sh v1, .sh v2, .sh v3, .sh v4])) x5 x6 x7 x8 x9 x10 x11) = .nx (envW x0 x1 x2 x3 (some (.sh (.list [v0, v1, v2, v3, v4]))) x5 x6 x7 x8 x9 x10 x11) := by
  simp [D.fz, D.fzs]
theorem mulT {r : Int} {n : Nat} (h : n ≤ 8) : oMul (.sh (.tuple [.int r])) (.sh (.int (n : Nat))) = some (.sh (vecD (List.replicate n r))) := by
  have e : (List.replicate ((n : Nat) : Int).toNat [PyData.int r]).flatten = (List.replicate n r).map .int := by
    rw [Int.toNat_natCast]
    clear h
    induction n with
    | zero => rfl
    | succ n ih => rw [List.replicate_succ, List.replicate_succ, List.flatten_cons, ih]; rfl
  show guardO (decide (-1000 ≤ ((n : Nat) : Int)) && decide (((n : Nat) : Int) ≤ 1000) && decide ([PyData.int r].length ≤ 1000)) (DT _) = _
  rw [e, decide_eq_true (by omega), decide_eq_true (by omega), decide_eq_true (by simp)]
  rfl
/-- all vectors of a teller -/
theorem o7 {n : Nat} {d : D} {k : Int} {rows : List (List Nat)} {td : List PyData} {vs : List (List Int)} {K : Str} (h : PotP n d) (hn : n ≤ 60000) (hvs : vs.length ≤ 5) (ok : TelOk rows) (hr1 : 1 ≤ rows.length) (hv : ∀ v ∈ vs, v.length = rows.length ∧ ∀ x ∈ v, (0 : Int) ≤ x ∧ x ≤ 9) (rt : oRepr (.sh (telD k rows td)) = some (.sh (.str K))) (ek : oEq true (.sh (.str K)) (.sh (.str K)) = some (DB false)) :
    ∃ d' y5 y8 y9 y10 y11, go Γ_law (.lop (.nm 5) .seq [.rd 4] innerB) (envW x0 (some d) x2 (some (.sh (telD k rows td))) (some (.sh (.list (vs.map vecD)))) x5 (some (.sh (.int (rows.length : Nat)))) (some (.sh (.str K))) x8 x9 x10 x11) =
      .nx (envW x0 (some d') x2 (some (.sh (telD k rows td))) (some (.sh (.list (vs.map vecD)))) y5 (some (.sh (.int (rows.length : Nat)))) (some (.sh (.str K))) y8 y9 y10 y11) ∧ PotP (n + 100) d' := by
  obtain ⟨ρ, e, d', y5, y8, y9, y10, y11, rfl, p⟩ := lopL_run (t := .nm 5) (b := gos Γ_law innerB)
    (fun i ρ => ∃ d' y5 y8 y9 y10 y11, ρ = envW x0 (some d') x2 (some (.sh (telD k rows td))) (some (.sh (.list (vs.map vecD)))) y5 (some (.sh (.int (rows.length : Nat)))) (some (.sh (.str K))) y8 y9 y10 y11 ∧ PotP (n + 20 * i) d') (vs.map vecD) 0
    (envW x0 (some d) x2 (some (.sh (telD k rows td))) (some (.sh (.list (vs.map vecD)))) x5 (some (.sh (.int (rows.length : Nat)))) (some (.sh (.str K))) x8 x9 x10 x11) ⟨d, x5, x8, x9, x10, x11, rfl, h⟩ (by
      rintro i p ρ hp ⟨d', y5, y8, y9, y10, y11, rfl, q⟩
      rw [List.getElem?_map] at hp
      obtain ⟨v, hv', rfl⟩ := Option.map_eq_some_iff.mp hp
      have hi : i < vs.length := (List.getElem?_eq_some_iff.mp hv').1
      have hm := hv v (List.mem_of_getElem? hv')
      rw [Nat.zero_add] at q
      obtain ⟨d2, z8, z9, z10, e, p2⟩ := inner_ok (x0 := x0) (x2 := x2) (x4 := some (.sh (.list (vs.map vecD)))) (x8 := y8) (x9 := y9) (x10 := y10) (x11 := y11) q (by omega) ok hr1 hm.1 hm.2 rt ek
      exact ⟨envW x0 (some d') x2 (some (.sh (telD k rows td))) (some (.sh (.list (vs.map vecD)))) (some (.sh (vecD v))) (some (.sh (.int (rows.length : Nat)))) (some (.sh (.str K))) y8 y9 y10 y11, _, by simp, .inl e, d2, _, _, _, _, _, rfl, p2.mono (by omega)⟩)
  rw [Nat.zero_add, List.length_map] at p
  refine ⟨d', y5, y8, y9, y10, y11, ?_, p.mono (by omega)⟩
  rw [go_lop]
  exact lopF_run (ρ1 := envW x0 (some d) x2 (some (.sh (telD k rows td))) (some (.sh (.list (vs.map vecD)))) x5 (some (.sh (.int (rows.length : Nat)))) (some (.sh (.str K))) x8 x9 x10 x11) (os := [.d (.sh (.list (vs.map vecD)))]) (ds := [.sh (.list (vs.map vecD))]) (by simp) rfl (show itF .seq [.sh (.list (vs.map vecD))] = some (vs.map vecD) from rfl) e rfl
/-- behind the choice of a teller -/
theorem rest_ok {n : Nat} {d : D} {k m : Nat} {t : D} (h : PotP n d) (hn : n ≤ 50000) (ht : Tel k m t) : ∃ d' y4 y5 y6 y7 y8 y9 y10 y11, gos Γ_law [O2, O3, .frz 3, O5, .frz 4, .lop (.nm 5) .seq [.rd 4] innerB] (envW x0 (some d) x2 (some t) x4 x5 x6 x7 x8 x9 x10 x11) =
    .nx (envW x0 (some d') x2 (some t) y4 y5 y6 y7 y8 y9 y10 y11) ∧ PotP (n + 200) d' := by
  obtain ⟨rows, v0, et, ok, hl, l0, b0⟩ := tel_of ht
  obtain ⟨hk, hm, hT⟩ := id ht
  obtain ⟨K, rt, ek⟩ := repr_has (t := .tup [.int 0 9, .vec .tup 0 8 (.vec .tup 0 3 (.int 0 9)), .vec .tup 0 8 (.int 0 9)]) (x := t) (leT_ok (by
    have hk' : k = 1 ∨ k = 2 ∨ k = 3 := by omega
    have hm' : m = 1 ∨ m = 2 ∨ m = 3 ∨ m = 4 ∨ m = 5 ∨ m = 6 ∨ m = 7 ∨ m = 8 := by omega
    rcases hk' with rfl | rfl | rfl <;> rcases hm' with rfl | rfl | rfl | rfl | rfl | rfl | rfl | rfl <;> decide +kernel) hT) (show dm _ = some _ from rfl) (by decide) (by decide)
  have mm : ok.le = ok.le := rfl
  have hle := ok.le
  have h0 : oIx (.sh (telD k rows (v0.map .int))) (.sh (.int 0)) = some (.sh (.int k)) := by
    show (atI [PyData.int k, .tuple (rows.map rowD), .tuple (v0.map .int)] 0).map D.sh = _
    rw [atI0]; rfl
  have h1 : oIx (.sh (telD k rows (v0.map .int))) (.sh (.int 1)) = some (.sh (.tuple (rows.map rowD))) := ix_rows
  have h2 : oIx (.sh (telD k rows (v0.map .int))) (.sh (.int 2)) = some (.sh (vecD v0)) := by
    show (atI [PyData.int k, .tuple (rows.map rowD), .tuple (v0.map .int)] 2).map D.sh = _
    rw [atI2]; rfl
  have h3 : oLen (.sh (.tuple (rows.map rowD))) = some (.sh (.int (rows.length : Nat))) := by
    show some (DI (rows.map rowD).length) = _
    rw [List.length_map]
  obtain ⟨r, d1, e1, r0, r1, p1⟩ := draw_P (m := 10) h (by omega) (by omega) (by omega)
  obtain ⟨v2, d2, e2, l2, b2, p2⟩ := row_P (m := 2) (q := rows.length) p1 (by omega) (by omega) (by omega) (by omega)
  obtain ⟨v3, d3, e3, l3, b3, p3⟩ := row_P (m := 10) (q := rows.length) p2 (by omega) (by omega) (by omega) (by omega)
  obtain ⟨s, d4, e4, s0, s1, p4⟩ := draw_P (m := 4) p3 (by omega) (by omega) (by omega)
  obtain ⟨sn, hs⟩ : ∃ sn : Nat, 1 + s = (sn : Nat) := ⟨(1 + s).toNat, by omega⟩
  obtain ⟨L, d5, e5, l5, b5, p5⟩ := row_P (m := k) (q := sn) p4 (by omega) (by omega) (by omega) (by omega)
  obtain ⟨v4, e6, l4, b4⟩ := ahead_P ht (L := L) (v := v0) (by omega) b5 l0 b0
  rw [← hs] at e5
  obtain ⟨d6, y5, y8, y9, y10, y11, e7, p7⟩ := o7 (x0 := x0) (x2 := x2) (x5 := x5) (x8 := x8) (x9 := x9) (x10 := x10) (x11 := x11) (k := k) (td := v0.map .int) (vs := [v0, List.replicate rows.length r, v2, v3, v4]) p5 (by omega) (by simp) ok (by omega) (fun v hv => by
    simp only [List.mem_cons, List.not_mem_nil, or_false] at hv
    rcases hv with rfl | rfl | rfl | rfl | rfl
    · exact ⟨by omega, b0⟩
    · refine ⟨by simp, fun x hx => ?_⟩
      have := List.eq_of_mem_replicate hx
      omega
    · exact ⟨by omega, fun x hx => by have := b2 x hx; omega⟩
    · exact ⟨by omega, fun x hx => by have := b3 x hx; omega⟩
    · exact ⟨by omega, b4⟩) (by rw [← et]; exact rt) ek
  rw [et] at rt e6 ⊢
  generalize telD k rows (v0.map .int) = tt at h0 h1 h2 rt e6 e7 ⊢
  refine ⟨d6, some (.sh (.list ([v0, List.replicate rows.length r, v2, v3, v4].map vecD))), y5, some (.sh (.int (rows.length : Nat))), some (.sh (.str K)), y8, y9, y10, y11, ?_, p7.mono (by omega)⟩
  refine gos_step (o2 h1 h3 rt) ?_
  refine gos_step (o3 h2 e1 (mulT (by omega)) e2 e3) ?_
  refine gos_step (frz_no (i := 3) (p := tt) rfl) ?_
  refine gos_step (o5 h0 h2 e4 e5 e6) ?_
  refine gos_step o6 ?_
  exact gos_step e7 rfl
theorem turn_ok {i : Nat} {d : D} (hi : i < 4) (h : PotP (i * 5000) d) : ∃ d' y3 y4 y5 y6 y7 y8 y9 y10 y11, gos Γ_law outerB (envW x0 (some d) (some (.sh (.int (i : Nat)))) x3 x4 x5 x6 x7 x8 x9 x10 x11) =
    .nx (envW x0 (some d') (some (.sh (.int (i : Nat)))) y3 y4 y5 y6 y7 y8 y9 y10 y11) ∧ PotP ((i + 1) * 5000) d' := by
  obtain ⟨t, d1, k, n, e1, p1, ht⟩ := some_P hi h
  by_cases h2 : i < 2
  · obtain ⟨d', y4, y5, y6, y7, y8, y9, y10, y11, e, p⟩ := rest_ok (x0 := x0) (x2 := some (.sh (.int (i : Nat)))) (x4 := x4) (x5 := x5) (x6 := x6) (x7 := x7) (x8 := x8) (x9 := x9) (x10 := x10) (x11 := x11) p1 (by omega) ht
    exact ⟨d', some t, y4, y5, y6, y7, y8, y9, y10, y11, gos_step (o0 e1) (gos_step (o1_no h2) e), p.mono (by omega)⟩
  · obtain ⟨r, d2, e2, r0, r1, p2⟩ := draw_P (m := 3) p1 (by omega) (by omega) (by omega)
    obtain ⟨x, d3, mx, e3, p3⟩ := pick_P (items := [.int 5, .int 6, .int 8]) p2 (by omega) (by simp) (by simp)
    obtain ⟨m, rfl, m0⟩ : ∃ m : Int, x = .int m ∧ (m = 5 ∨ m = 6 ∨ m = 8) := by
      simp only [List.mem_cons, List.not_mem_nil, or_false] at mx
      rcases mx with rfl | rfl | rfl
      · exact ⟨5, rfl, by omega⟩
      · exact ⟨6, rfl, by omega⟩
      · exact ⟨8, rfl, by omega⟩
    obtain ⟨t2, d4, k2, n2, e4, p4, ht2⟩ := tel_P hi (by omega) (p3.mono (by omega)) (k := 1 + r) (n := m) ⟨by omega, by omega⟩ m0
    obtain ⟨d', y4, y5, y6, y7, y8, y9, y10, y11, e, p⟩ := rest_ok (x0 := x0) (x2 := some (.sh (.int (i : Nat)))) (x4 := x4) (x5 := x5) (x6 := x6) (x7 := x7) (x8 := x8) (x9 := x9) (x10 := x10) (x11 := x11) p4 (by omega) ht2
    exact ⟨d', some t2, y4, y5, y6, y7, y8, y9, y10, y11, gos_step (o0 e1) (gos_step (o1_yes (by omega) (o1b e2 e3 e4)) e), p.mono (by omega)⟩
end
theorem rng_get {n i : Nat} (h : i < n) : (rngD 0 n)[i]? = some (.int (i : Nat)) := by
  unfold rngD
  rw [List.getElem?_map, List.getElem?_range h]
  simp
theorem truth (ns : List Int) (hn : ns.length ≤ 63) : ∃ outs, d_law.m [.sh (.list (ns.map .int))] = .ok (.sh (.bool true)) outs := by
  obtain ⟨gs, st, hg, e⟩ := pot_ok ns hn
  have p0 : PotP 0 (potD gs st 0) := ⟨gs, st, 0, hg, by omega, by omega, rfl⟩
  generalize potD gs st 0 = d0 at e p0
  obtain ⟨ρ, el, d', y2, y3, y4, y5, y6, y7, y8, y9, y10, y11, rfl, p⟩ := lopL_run (t := .nm 2) (b := gos Γ_law outerB)
    (fun i ρ => ∃ d' y2 y3 y4 y5 y6 y7 y8 y9 y10 y11, ρ = envW (some (.sh (.list (ns.map .int)))) (some d') y2 y3 y4 y5 y6 y7 y8 y9 y10 y11 ∧ PotP (i * 5000) d') (rngD 0 4) 0 (envW (some (.sh (.list (ns.map .int)))) (some d0) none none none none none none none none none none) ⟨d0, none, none, none, none, none, none, none, none, none, none, rfl, p0⟩ (by
      rintro i p ρ hp ⟨d', y2, y3, y4, y5, y6, y7, y8, y9, y10, y11, rfl, q⟩
      have hi : i < 4 := by
        have := (List.getElem?_eq_some_iff.mp hp).1
        simpa [rngD] using this
      rw [rng_get hi] at hp
      cases hp
      rw [Nat.zero_add] at q
      obtain ⟨d2, z3, z4, z5, z6, z7, z8, z9, z10, z11, e, p2⟩ := turn_ok (x0 := some (.sh (.list (ns.map .int)))) (x3 := y3) (x4 := y4) (x5 := y5) (x6 := y6) (x7 := y7) (x8 := y8) (x9 := y9) (x10 := y10) (x11 := y11) hi q
      exact ⟨envW (some (.sh (.list (ns.map .int)))) (some d') (some (.sh (.int (i : Nat)))) y3 y4 y5 y6 y7 y8 y9 y10 y11, _, by simp, .inl e, d2, _, _, _, _, _, _, _, _, _, _, rfl, by rw [Nat.zero_add]; exact p2⟩)
  have s1 : go Γ_law (.asg (.nm 1) (.call "_law_pot" [.rd 0] [] [] [0])) (envW (some (.sh (.list (ns.map .int)))) none none none none none none none none none none none) =
      .nx (envW (some (.sh (.list (ns.map .int)))) (some d0) none none none none none none none none none none) := by
    simp [wrapO, fn_law_law_pot, io__law_pot, e]
  have s2 : go Γ_law (.lop (.nm 2) .rng [.lit (.int 4)] outerB) (envW (some (.sh (.list (ns.map .int)))) (some d0) none none none none none none none none none none) =
      .nx (envW (some (.sh (.list (ns.map .int)))) (some d') y2 y3 y4 y5 y6 y7 y8 y9 y10 y11) := by
    rw [go_lop]
    exact lopF_run (os := [.d (.sh (.int 4))]) (by simp) rfl (itF_rngN (n := 4) (by omega)) el rfl
  have g : gos Γ_law b_law (envW (some (.sh (.list (ns.map .int)))) none none none none none none none none none none none) = .rt (.sh (.bool true)) (envW (some (.sh (.list (ns.map .int)))) (some d') y2 y3 y4 y5 y6 y7 y8 y9 y10 y11) := by
    rw [law_split]
    exact gos_step s1 (gos_step s2 (gos_last (by simp)))
  rw [m_law0]
  exact ⟨[], runD_rt rfl rfl g rfl⟩
end T17
open PySem PySem.W PyProof.Rows in
set_option maxRecDepth 100000 in
set_option maxHeartbeats 0 in
theorem PySem.Challenge.cw_markkeepers_k17_whole_classes_of_states_holds : PySem.Challenge.rw_markkeepers_k17_whole_classes_of_states.Holds := by
  w_on; o_law; k_head; (case hw => w_witness2)
  k_fill
  refine T17.walk (l := PySem.Challenge.rw_markkeepers_k17_whole_classes_of_states) T17.truth rfl rfl (fun w h Y => PySem.W.kIn_of Y) ?F
  case F =>
    intro w mg fa h KX G hmg
    refine' T17.all_mk KX G hmg ?a0 ?l0 ?c0 ?k0 ?a1 ?l1 ?c1 ?k1 ?a2 ?l2 ?c2 ?k2 ?a3 ?l3 ?c3 ?k3 ?a4 ?l4 ?c4 ?k4 ?a5 ?l5 ?c5 ?k5 ?a6 ?l6 ?c6 ?k6 ?a7 ?l7 ?c7 ?k7 ?a8 ?l8 ?c8 ?k8 ?a9 ?l9 ?c9 ?k9 ?a10 ?l10 ?c10 ?k10 ?a11 ?l11 ?c11 ?k11 ?a12 ?l12 ?c12 ?k12 ?a13 ?l13 ?c13 ?k13 ?z0 ?z1 ?z2 ?z3 ?z4 ?z5 ?z6 ?z7 ?z8
    (case a0 => k_is)
    (case l0 => k_is)
    (case c0 => k_is)
    (case k0 => k_is)
    (case a1 => k_is)
    (case l1 => k_is)
    (case c1 => k_is)
    (case k1 => k_is)
    (case a2 => k_is)
    (case l2 => k_is)
    (case c2 => k_is)
    (case k2 => k_is)
    (case a3 => k_is)
    (case l3 => k_is)
    (case c3 => k_is)
    (case k3 => k_is)
    (case a4 => k_is)
    (case l4 => k_is)
    (case c4 => k_is)
    (case k4 => k_is)
    (case a5 => k_is)
    (case l5 => k_is)
    (case c5 => k_is)
    (case k5 => k_is)
    (case a6 => k_is)
    (case l6 => k_is)
    (case c6 => k_is)
    (case k6 => k_is)
    (case a7 => k_is)
    (case l7 => k_is)
    (case c7 => k_is)
    (case k7 => k_is)
    (case a8 => k_is)
    (case l8 => k_is)
    (case c8 => k_is)
    (case k8 => k_is)
    (case a9 => k_is)
    (case l9 => k_is)
    (case c9 => k_is)
    (case k9 => k_is)
    (case a10 => k_is)
    (case l10 => k_is)
    (case c10 => k_is)
    (case k10 => k_is)
    (case a11 => k_is)
    (case l11 => k_is)
    (case c11 => k_is)
    (case k11 => k_is)
    (case a12 => k_is)
    (case l12 => k_is)
    (case c12 => k_is)
    (case k12 => k_is)
    (case a13 => k_is)
    (case l13 => k_is)
    (case c13 => k_is)
    (case k13 => k_is)
    (case z0 => k_is)
    (case z1 => k_is)
    (case z2 => k_is)
    (case z3 => k_is)
    (case z4 => k_is)
    (case z5 => k_is)
    (case z6 => k_is)
    (case z7 => k_is)
    (case z8 => k_is)
