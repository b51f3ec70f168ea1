import PyProof.Rows.All
import Wide.All
import OpenK.AllK
import Wide.FinOn
import PyProof.ExcInit
import PyProof.ExcClass3
import PyProof.ExcBaseAll.Exception
import PyProof.InstStoreFacts
import Lean
import PySem.Challenge.RW_ok0153_01
open PySem PySem.W PySem.Calls PyProof.Rows
set_option maxRecDepth 100000
set_option maxHeartbeats 4000000
set_option tactic.hygienic false
set_option linter.all false
namespace Mine
theorem nTF {C : Prop} (h : true = false) : C := by cases h
theorem nFT {C : Prop} (h : false = true) : C := by cases h
section
-- a value without its token
noncomputable def er : ∀ uu : Value, Value
  | .int i _ => .int i 0
  | .float b _ => .float b 0
  | .str s _ => .str s 0
  | .bytes b _ => .bytes b 0
  | v => v

theorem ex0_3 {P0 P1 P2 : Prop} {G : Prop} (h : P0 ∧ P1 ∧ P2) (k : ∀ uu : P0, ∀ uu : P1, ∀ uu : P2, G) : G := by
  obtain ⟨x0, x1, x2⟩ := h
  exact k x0 x1 x2
theorem ex0_4 {P0 P1 P2 P3 : Prop} {G : Prop} (h : P0 ∧ P1 ∧ P2 ∧ P3) (k : ∀ uu : P0, ∀ uu : P1, ∀ uu : P2, ∀ uu : P3, G) : G := by
  obtain ⟨x0, x1, x2, x3⟩ := h
  exact k x0 x1 x2 x3
theorem ex0_5 {P0 P1 P2 P3 P4 : Prop} {G : Prop} (h : P0 ∧ P1 ∧ P2 ∧ P3 ∧ P4) (k : ∀ uu : P0, ∀ uu : P1, ∀ uu : P2, ∀ uu : P3, ∀ uu : P4, G) : G := by
  obtain ⟨x0, x1, x2, x3, x4⟩ := h
  exact k x0 x1 x2 x3 x4
theorem ex0_6 {P0 P1 P2 P3 P4 P5 : Prop} {G : Prop} (h : P0 ∧ P1 ∧ P2 ∧ P3 ∧ P4 ∧ P5) (k : ∀ uu : P0, ∀ uu : P1, ∀ uu : P2, ∀ uu : P3, ∀ uu : P4, ∀ uu : P5, G) : G := by
  obtain ⟨x0, x1, x2, x3, x4, x5⟩ := h
  exact k x0 x1 x2 x3 x4 x5
theorem ex1_2 {α0 : Sort _} {P0 P1 : ∀ uu : α0, Prop} {G : Prop} (h : ∃ a0, P0 a0 ∧ P1 a0) (k : ∀ a0, ∀ uu : P0 a0, ∀ uu : P1 a0, G) : G := by
  obtain ⟨a0, x0, x1⟩ := h
  exact k a0 x0 x1
theorem ex1_3 {α0 : Sort _} {P0 P1 P2 : ∀ uu : α0, Prop} {G : Prop} (h : ∃ a0, P0 a0 ∧ P1 a0 ∧ P2 a0) (k : ∀ a0, ∀ uu : P0 a0, ∀ uu : P1 a0, ∀ uu : P2 a0, G) : G := by
  obtain ⟨a0, x0, x1, x2⟩ := h
  exact k a0 x0 x1 x2
theorem ex1_4 {α0 : Sort _} {P0 P1 P2 P3 : ∀ uu : α0, Prop} {G : Prop} (h : ∃ a0, P0 a0 ∧ P1 a0 ∧ P2 a0 ∧ P3 a0) (k : ∀ a0, ∀ uu : P0 a0, ∀ uu : P1 a0, ∀ uu : P2 a0, ∀ uu : P3 a0, G) : G := by
  obtain ⟨a0, x0, x1, x2, x3⟩ := h
  exact k a0 x0 x1 x2 x3
theorem ex1_5 {α0 : Sort _} {P0 P1 P2 P3 P4 : ∀ uu : α0, Prop} {G : Prop} (h : ∃ a0, P0 a0 ∧ P1 a0 ∧ P2 a0 ∧ P3 a0 ∧ P4 a0) (k : ∀ a0, ∀ uu : P0 a0, ∀ uu : P1 a0, ∀ uu : P2 a0, ∀ uu : P3 a0, ∀ uu : P4 a0, G) : G := by
  obtain ⟨a0, x0, x1, x2, x3, x4⟩ := h
  exact k a0 x0 x1 x2 x3 x4
theorem ex1_6 {α0 : Sort _} {P0 P1 P2 P3 P4 P5 : ∀ uu : α0, Prop} {G : Prop} (h : ∃ a0, P0 a0 ∧ P1 a0 ∧ P2 a0 ∧ P3 a0 ∧ P4 a0 ∧ P5 a0) (k : ∀ a0, ∀ uu : P0 a0, ∀ uu : P1 a0, ∀ uu : P2 a0, ∀ uu : P3 a0, ∀ uu : P4 a0, ∀ uu : P5 a0, G) : G := by
  obtain ⟨a0, x0, x1, x2, x3, x4, x5⟩ := h
  exact k a0 x0 x1 x2 x3 x4 x5
theorem ex1_9 {α0 : Sort _} {P0 P1 P2 P3 P4 P5 P6 P7 P8 : ∀ uu : α0, Prop} {G : Prop} (h : ∃ a0, P0 a0 ∧ P1 a0 ∧ P2 a0 ∧ P3 a0 ∧ P4 a0 ∧ P5 a0 ∧ P6 a0 ∧ P7 a0 ∧ P8 a0) (k : ∀ a0, ∀ uu : P0 a0, ∀ uu : P1 a0, ∀ uu : P2 a0, ∀ uu : P3 a0, ∀ uu : P4 a0, ∀ uu : P5 a0, ∀ uu : P6 a0, ∀ uu : P7 a0, ∀ uu : P8 a0, G) : G := by
  obtain ⟨a0, x0, x1, x2, x3, x4, x5, x6, x7, x8⟩ := h
  exact k a0 x0 x1 x2 x3 x4 x5 x6 x7 x8
theorem ex2_1 {α0 : Sort _} {α1 : Sort _} {P0 : ∀ uu : α0, ∀ uu : α1, Prop} {G : Prop} (h : ∃ a0 a1, P0 a0 a1) (k : ∀ a0 a1, ∀ uu : P0 a0 a1, G) : G := by
  obtain ⟨a0, a1, x0⟩ := h
  exact k a0 a1 x0
theorem ex2_2 {α0 : Sort _} {α1 : Sort _} {P0 P1 : ∀ uu : α0, ∀ uu : α1, Prop} {G : Prop} (h : ∃ a0 a1, P0 a0 a1 ∧ P1 a0 a1) (k : ∀ a0 a1, ∀ uu : P0 a0 a1, ∀ uu : P1 a0 a1, G) : G := by
  obtain ⟨a0, a1, x0, x1⟩ := h
  exact k a0 a1 x0 x1
theorem ex2_3 {α0 : Sort _} {α1 : Sort _} {P0 P1 P2 : ∀ uu : α0, ∀ uu : α1, Prop} {G : Prop} (h : ∃ a0 a1, P0 a0 a1 ∧ P1 a0 a1 ∧ P2 a0 a1) (k : ∀ a0 a1, ∀ uu : P0 a0 a1, ∀ uu : P1 a0 a1, ∀ uu : P2 a0 a1, G) : G := by
  obtain ⟨a0, a1, x0, x1, x2⟩ := h
  exact k a0 a1 x0 x1 x2
theorem ex2_4 {α0 : Sort _} {α1 : Sort _} {P0 P1 P2 P3 : ∀ uu : α0, ∀ uu : α1, Prop} {G : Prop} (h : ∃ a0 a1, P0 a0 a1 ∧ P1 a0 a1 ∧ P2 a0 a1 ∧ P3 a0 a1) (k : ∀ a0 a1, ∀ uu : P0 a0 a1, ∀ uu : P1 a0 a1, ∀ uu : P2 a0 a1, ∀ uu : P3 a0 a1, G) : G := by
  obtain ⟨a0, a1, x0, x1, x2, x3⟩ := h
  exact k a0 a1 x0 x1 x2 x3
theorem ex2_5 {α0 : Sort _} {α1 : Sort _} {P0 P1 P2 P3 P4 : ∀ uu : α0, ∀ uu : α1, Prop} {G : Prop} (h : ∃ a0 a1, P0 a0 a1 ∧ P1 a0 a1 ∧ P2 a0 a1 ∧ P3 a0 a1 ∧ P4 a0 a1) (k : ∀ a0 a1, ∀ uu : P0 a0 a1, ∀ uu : P1 a0 a1, ∀ uu : P2 a0 a1, ∀ uu : P3 a0 a1, ∀ uu : P4 a0 a1, G) : G := by
  obtain ⟨a0, a1, x0, x1, x2, x3, x4⟩ := h
  exact k a0 a1 x0 x1 x2 x3 x4
theorem ex3_2 {α0 : Sort _} {α1 : Sort _} {α2 : Sort _} {P0 P1 : ∀ uu : α0, ∀ uu : α1, ∀ uu : α2, Prop} {G : Prop} (h : ∃ a0 a1 a2, P0 a0 a1 a2 ∧ P1 a0 a1 a2) (k : ∀ a0 a1 a2, ∀ uu : P0 a0 a1 a2, ∀ uu : P1 a0 a1 a2, G) : G := by
  obtain ⟨a0, a1, a2, x0, x1⟩ := h
  exact k a0 a1 a2 x0 x1
theorem ex3_3 {α0 : Sort _} {α1 : Sort _} {α2 : Sort _} {P0 P1 P2 : ∀ uu : α0, ∀ uu : α1, ∀ uu : α2, Prop} {G : Prop} (h : ∃ a0 a1 a2, P0 a0 a1 a2 ∧ P1 a0 a1 a2 ∧ P2 a0 a1 a2) (k : ∀ a0 a1 a2, ∀ uu : P0 a0 a1 a2, ∀ uu : P1 a0 a1 a2, ∀ uu : P2 a0 a1 a2, G) : G := by
  obtain ⟨a0, a1, a2, x0, x1, x2⟩ := h
  exact k a0 a1 a2 x0 x1 x2
theorem ex3_4 {α0 : Sort _} {α1 : Sort _} {α2 : Sort _} {P0 P1 P2 P3 : ∀ uu : α0, ∀ uu : α1, ∀ uu : α2, Prop} {G : Prop} (h : ∃ a0 a1 a2, P0 a0 a1 a2 ∧ P1 a0 a1 a2 ∧ P2 a0 a1 a2 ∧ P3 a0 a1 a2) (k : ∀ a0 a1 a2, ∀ uu : P0 a0 a1 a2, ∀ uu : P1 a0 a1 a2, ∀ uu : P2 a0 a1 a2, ∀ uu : P3 a0 a1 a2, G) : G := by
  obtain ⟨a0, a1, a2, x0, x1, x2, x3⟩ := h
  exact k a0 a1 a2 x0 x1 x2 x3
theorem ex3_5 {α0 : Sort _} {α1 : Sort _} {α2 : Sort _} {P0 P1 P2 P3 P4 : ∀ uu : α0, ∀ uu : α1, ∀ uu : α2, Prop} {G : Prop} (h : ∃ a0 a1 a2, P0 a0 a1 a2 ∧ P1 a0 a1 a2 ∧ P2 a0 a1 a2 ∧ P3 a0 a1 a2 ∧ P4 a0 a1 a2) (k : ∀ a0 a1 a2, ∀ uu : P0 a0 a1 a2, ∀ uu : P1 a0 a1 a2, ∀ uu : P2 a0 a1 a2, ∀ uu : P3 a0 a1 a2, ∀ uu : P4 a0 a1 a2, G) : G := by
  obtain ⟨a0, a1, a2, x0, x1, x2, x3, x4⟩ := h
  exact k a0 a1 a2 x0 x1 x2 x3 x4
theorem ex3_6 {α0 : Sort _} {α1 : Sort _} {α2 : Sort _} {P0 P1 P2 P3 P4 P5 : ∀ uu : α0, ∀ uu : α1, ∀ uu : α2, Prop} {G : Prop} (h : ∃ a0 a1 a2, P0 a0 a1 a2 ∧ P1 a0 a1 a2 ∧ P2 a0 a1 a2 ∧ P3 a0 a1 a2 ∧ P4 a0 a1 a2 ∧ P5 a0 a1 a2) (k : ∀ a0 a1 a2, ∀ uu : P0 a0 a1 a2, ∀ uu : P1 a0 a1 a2, ∀ uu : P2 a0 a1 a2, ∀ uu : P3 a0 a1 a2, ∀ uu : P4 a0 a1 a2, ∀ uu : P5 a0 a1 a2, G) : G := by
  obtain ⟨a0, a1, a2, x0, x1, x2, x3, x4, x5⟩ := h
  exact k a0 a1 a2 x0 x1 x2 x3 x4 x5
theorem ex4_3 {α0 : Sort _} {α1 : Sort _} {α2 : Sort _} {α3 : Sort _} {P0 P1 P2 : ∀ uu : α0, ∀ uu : α1, ∀ uu : α2, ∀ uu : α3, Prop} {G : Prop} (h : ∃ a0 a1 a2 a3, P0 a0 a1 a2 a3 ∧ P1 a0 a1 a2 a3 ∧ P2 a0 a1 a2 a3) (k : ∀ a0 a1 a2 a3, ∀ uu : P0 a0 a1 a2 a3, ∀ uu : P1 a0 a1 a2 a3, ∀ uu : P2 a0 a1 a2 a3, G) : G := by
  obtain ⟨a0, a1, a2, a3, x0, x1, x2⟩ := h
  exact k a0 a1 a2 a3 x0 x1 x2
theorem ex4_4 {α0 : Sort _} {α1 : Sort _} {α2 : Sort _} {α3 : Sort _} {P0 P1 P2 P3 : ∀ uu : α0, ∀ uu : α1, ∀ uu : α2, ∀ uu : α3, Prop} {G : Prop} (h : ∃ a0 a1 a2 a3, P0 a0 a1 a2 a3 ∧ P1 a0 a1 a2 a3 ∧ P2 a0 a1 a2 a3 ∧ P3 a0 a1 a2 a3) (k : ∀ a0 a1 a2 a3, ∀ uu : P0 a0 a1 a2 a3, ∀ uu : P1 a0 a1 a2 a3, ∀ uu : P2 a0 a1 a2 a3, ∀ uu : P3 a0 a1 a2 a3, G) : G := by
  obtain ⟨a0, a1, a2, a3, x0, x1, x2, x3⟩ := h
  exact k a0 a1 a2 a3 x0 x1 x2 x3
theorem ex6_6 {α0 : Sort _} {α1 : Sort _} {α2 : Sort _} {α3 : Sort _} {α4 : Sort _} {α5 : Sort _} {P0 P1 P2 P3 P4 P5 : ∀ uu : α0, ∀ uu : α1, ∀ uu : α2, ∀ uu : α3, ∀ uu : α4, ∀ uu : α5, Prop} {G : Prop} (h : ∃ a0 a1 a2 a3 a4 a5, P0 a0 a1 a2 a3 a4 a5 ∧ P1 a0 a1 a2 a3 a4 a5 ∧ P2 a0 a1 a2 a3 a4 a5 ∧ P3 a0 a1 a2 a3 a4 a5 ∧ P4 a0 a1 a2 a3 a4 a5 ∧ P5 a0 a1 a2 a3 a4 a5) (k : ∀ a0 a1 a2 a3 a4 a5, ∀ uu : P0 a0 a1 a2 a3 a4 a5, ∀ uu : P1 a0 a1 a2 a3 a4 a5, ∀ uu : P2 a0 a1 a2 a3 a4 a5, ∀ uu : P3 a0 a1 a2 a3 a4 a5, ∀ uu : P4 a0 a1 a2 a3 a4 a5, ∀ uu : P5 a0 a1 a2 a3 a4 a5, G) : G := by
  obtain ⟨a0, a1, a2, a3, a4, a5, x0, x1, x2, x3, x4, x5⟩ := h
  exact k a0 a1 a2 a3 a4 a5 x0 x1 x2 x3 x4 x5
theorem nos {β : Type} {x : Option β} {o : β} (h : x = none) (e : x = some o) : False := by rw [h] at e; cases e
theorem nosA {β : Type} {f : ∀ uu : Addr, Option β} {a b : Addr} {o : β} (h : f a = none) (e : f b = some o) : b ≠ a := fun q => nos h (q ▸ e)
theorem nil_at {α : Type} {i : Nat} {a : α} (h : ([] : List α)[i]? = some a) : False := by
  rw [List.getElem?_nil] at h; cases h
theorem hide3 {α β γ : Type} (P : ∀ uu : α, ∀ uu : β, ∀ uu : γ, Prop) {G : Prop} (k : ∀ I : ∀ uu : α, ∀ uu : β, ∀ uu : γ, Prop, ∀ uu : (∀ {a b c}, ∀ uu : P a b c, I a b c), ∀ uu : (∀ {a b c}, ∀ uu : I a b c, P a b c), G) : G := k P id id
theorem er_int {V : Value} {i : Int} (h : er V = .int i 0) : ∃ t, V = .int i t := by
  cases V <;> simp [er] at h
  subst h; exact ⟨_, rfl⟩
theorem er_str {V : Value} {x : Str} (h : er V = .str x 0) : ∃ t, V = .str x t := by
  cases V <;> simp [er] at h
  subst h; exact ⟨_, rfl⟩
noncomputable def tk : ∀ uu : Value, Bool
  | .int _ _ => true
  | .float _ _ => true
  | .str _ _ => true
  | .bytes _ _ => true
  | _ => false
theorem er_id {V : Value} (h : tk (er V) = false) : V = er V := by
  cases V <;> first | rfl | exact Bool.noConfusion h
theorem er_ref {V : Value} {a : Addr} (h : er V = .ref a) : V = .ref a := (er_id (by rw [h]; rfl)).trans h
theorem er_none {V : Value} (h : er V = .none) : V = .none := (er_id (by rw [h]; rfl)).trans h
theorem er_bool {V : Value} {b : Bool} (h : er V = .bool b) : V = .bool b := (er_id (by rw [h]; rfl)).trans h
theorem er_type {V : Value} {n : String} (h : er V = .type n) : V = .type n := (er_id (by rw [h]; rfl)).trans h
theorem er_builtin {V : Value} {n : String} (h : er V = .builtin n) : V = .builtin n := (er_id (by rw [h]; rfl)).trans h

noncomputable abbrev DH := ∀ uu : Addr, Option Obj
noncomputable def Sub (D : DH) (h : Heap) : Prop := ∀ a o, ∀ uu : D a = some o, h.get? a = some o
noncomputable def Le (D D' : DH) : Prop := ∀ a o, ∀ uu : D a = some o, D' a = some o
noncomputable def Dj (D X : DH) : Prop := ∀ a o, ∀ uu : D a = some o, X a = none
noncomputable def put (D : DH) (a : Addr) (o : Obj) : DH := fun b => if b = a then some o else D b
noncomputable def BaseIn (Hb : Heap) (X : DH) : Prop := ∀ b o, ∀ uu : Hb.get? b = some o, X b = some o

theorem Le.refl (D : DH) : Le D D := fun uu uu h => h
theorem Le.trans {D D' D'' : DH} (a : Le D D') (b : Le D' D'') : Le D D'' := fun x o h => b x o (a x o h)
theorem Sub.le {D D' : DH} {h : Heap} (a : Le D D') (b : Sub D' h) : Sub D h := fun x o e => b x o (a x o e)
theorem Dj.le {D D' X : DH} (a : Le D D') (b : Dj D' X) : Dj D X := fun x o e => b x o (a x o e)
theorem Le.none {D D' : DH} {a : Addr} (k : Le D D') (h : D' a = none) : D a = none := by
  cases q : D a with
  | none => rfl
  | some o => have := k a o q; rw [h] at this; cases this
theorem put_self (D : DH) (a : Addr) (o : Obj) : put D a o a = some o := by simp [put]
theorem put_ne {D : DH} {a b : Addr} {o : Obj} (h : b ≠ a) : put D a o b = D b := by simp [put, h]
theorem le_put {D : DH} {a : Addr} {o : Obj} (h : D a = none) : Le D (put D a o) := fun b ob e => by
  have : b ≠ a := nosA (h) e
  rw [put_ne this]; exact e
theorem Sub.none_size {D : DH} {h : Heap} (b : Sub D h) : D h.objs.size = none := by
  cases e : D h.objs.size with
  | none => rfl
  | some o => exact absurd (Heap.lt_size (b _ _ e)) (Nat.lt_irrefl _)
theorem Sub.push {D : DH} {h : Heap} (b : Sub D h) (o : Obj) : Sub D (h.push o) := fun a x e => Heap.get?_push_of_some _ (b a x e)
theorem Sub.put_push {D : DH} {h : Heap} (b : Sub D h) (o : Obj) (hf : o.isFreed = false) : Sub (put D h.objs.size o) (h.push o) := fun a x e => by
  by_cases q : a = h.objs.size
  · subst q; rw [put_self] at e; obtain rfl := (Option.some.inj e).symm; exact Heap.get?_push_size _ hf
  · rw [put_ne q] at e; exact Heap.get?_push_of_some _ (b a x e)
theorem Dj.put {D X : DH} {a : Addr} {o : Obj} (d : Dj D X) (h : X a = none) : Dj (put D a o) X := fun b ob e => by
  by_cases q : b = a
  · subst q; exact h
  · rw [put_ne q] at e; exact d b ob e

-- frames on the stack, each with its namespace in X
inductive FrOk (Hb : Heap) (X : DH) (env : Env) : Prop
  | mk : ∀ L o, ∀ uu : env.scope.kind ≠ .module, ∀ uu : env.frame = some L, ∀ uu : Hb.get? L = none, ∀ uu : X L = some o, ∀ uu : (∀ vs, o.data ≠ .fields vs), FrOk Hb X env
noncomputable def FrL (Hb : Heap) (X : DH) (l : List Env) : Prop := ∀ env, ∀ uu : env ∈ l, FrOk Hb X env
theorem FrOk.le {Hb : Heap} {X X' : DH} (k : Le X X') {env : Env} (h : FrOk Hb X env) : FrOk Hb X' env := by
  cases h with | mk L o a b c d e => exact ⟨L, o, a, b, c, k _ _ d, e⟩
theorem FrL.le {Hb : Heap} {X X' : DH} (k : Le X X') {l : List Env} (h : FrL Hb X l) : FrL Hb X' l := fun env he => (h env he).le k
theorem FrL.cons {Hb : Heap} {X : DH} {env : Env} {l : List Env} (a : FrOk Hb X env) (r : FrL Hb X l) : FrL Hb X (env :: l) := List.forall_mem_cons.mpr ⟨a, r⟩
theorem FrL.nil {Hb : Heap} {X : DH} : FrL Hb X [] := fun uu h => (List.not_mem_nil h).elim

structure Ok (Hb : Heap) (n : Nat) (A : Around) (X : DH) : Prop where
  hh : A.handled = none
  dep : A.depth + 3 * n ≤ 990
  uni : A.units + 10 * n ≤ 9000
  frs : ∃ l, A.frames = some l ∧ FrL Hb X l
theorem Ok.le {Hb : Heap} {n : Nat} {A : Around} {X X' : DH} (k : Le X X') (o : Ok Hb n A X) : Ok Hb n A X' :=
  ⟨o.hh, o.dep, o.uni, let ⟨l, a, b⟩ := o.frs; ⟨l, a, b.le k⟩⟩

structure EnvOk (Hb : Heap) (sc : Scope) (env : Env) : Prop where
  se : env.scope = sc
  kf : sc.kind = .function
  gl : env.globals = mainGlobals
  bi : env.builtins = builtinsNs
  above : Hb.get? env.locals = none

noncomputable def FrameH (env : Env) (ρ : List (Str × Value)) (h : Heap) : Prop :=
  ∃ m, h.Ns env.locals m ∧ ∀ x v, ∀ uu : ρ.lookup x = some v,
    (env.kindOf x = some .local ∧ ∃ V, m x = some V ∧ er V = v) ∨
    ((env.kindOf x = some .cell ∨ env.kindOf x = some .free) ∧ ∃ c V, env.cells.lookup x = some c ∧ h.IsCell c (some V) ∧ er V = v)

-- what stands in X holds a frame
noncomputable def FrameX (env : Env) (ρ : List (Str × Value)) (X : DH) : Prop := ∀ h, ∀ uu : Sub X h, FrameH env ρ h

structure After (s : Shared) (X D' : DH) (s' : Shared) : Prop where
  eq : ∃ h' tk, s' = { s with heap := h', toks := tk }
  d : Sub D' s'.heap
  x : Sub X s'.heap
  j : Dj D' X
theorem After.refl {s : Shared} {X D : DH} (d : Sub D s.heap) (x : Sub X s.heap) (j : Dj D X) : After s X D s := ⟨⟨s.heap, s.toks, rfl⟩, d, x, j⟩
theorem After.trans {s s' s'' : Shared} {X D' D'' : DH} (a : After s X D' s') (b : After s' X D'' s'') : After s X D'' s'' := by
  refine ex2_1 (a.eq) fun h' tk eR2 => ?_
  obtain rfl := eR2
  refine ex2_1 (b.eq) fun h'' tk' eR2 => ?_
  obtain rfl := eR2
  exact ⟨⟨h'', tk', rfl⟩, b.d, b.x, b.j⟩
theorem After.tok {s : Shared} {X D : DH} (d : Sub D s.heap) (x : Sub X s.heap) (j : Dj D X) (k : Nat) : After s X D { s with toks := k } := ⟨⟨s.heap, k, rfl⟩, d, x, j⟩

-- where a step ends
inductive Post (Q : ∀ uu : DH, Prop) (s : Shared) (X : DH) (s' : Shared) : Prop
  | mk : ∀ D', ∀ uu : Q D', ∀ uu : After s X D' s', Post Q s X s'
theorem Post.imp {Q Q' : ∀ uu : DH, Prop} {s s' : Shared} {X : DH} (p : Post Q s X s') (k : ∀ D', ∀ uu : Q D', Q' D') : Post Q' s X s' := let ⟨D', q, t⟩ := p; ⟨D', k _ q, t⟩
theorem Post.step {Q : ∀ uu : DH, Prop} {s s' s'' : Shared} {X D : DH} (p : Post Q s' X s'') (a : After s X D s') : Post Q s X s'' := let ⟨D', q, t⟩ := p; ⟨D', q, a.trans t⟩
-- a call's end
inductive CPost (Q : ∀ uu : Value, ∀ uu : DH, Prop) (s : Shared) (X : DH) (r : Result) (s' : Shared) : Prop
  | mk : ∀ V D', ∀ uu : r = .ok (.ret V), ∀ uu : Q (er V) D', ∀ uu : After s X D' s', CPost Q s X r s'
theorem CPost.imp {Q Q' : ∀ uu : Value, ∀ uu : DH, Prop} {s s' : Shared} {X : DH} {r : Result} (p : CPost Q s X r s') (k : ∀ v D', ∀ uu : Q v D', Q' v D') : CPost Q' s X r s' := let ⟨V, D', e, q, t⟩ := p; ⟨V, D', e, k _ _ q, t⟩

section
variable (prog : Program) (w : World) (Hb : Heap)

-- a call, from any place
noncomputable def TC (n : Nat) (f : Value) (args : List Value) (D : DH) (Q : ∀ uu : Value, ∀ uu : DH, Prop) : Prop :=
  ∀ (A : Around) (s : Shared) (X : DH) (Vs : List Value), ∀ uu : Ok Hb n A X, ∀ uu : Sub D s.heap, ∀ uu : Sub X s.heap, ∀ uu : Dj D X, ∀ uu : BaseIn Hb X, ∀ uu : Vs.map er = args,
    codeAny (model prog w) A (.call f ⟨Vs, []⟩) (CPost Q s X) s

-- an expression
noncomputable def TE (n : Nat) (sc : Scope) (e : Expr) (ρ : List (Str × Value)) (D : DH) (Q : ∀ uu : Value, ∀ uu : DH, Prop) : Prop :=
  ∀ (A : Around) (s : Shared) (X : DH) (env : Env), ∀ uu : EnvOk Hb sc env, ∀ uu : Ok Hb n A X, ∀ uu : Sub D s.heap, ∀ uu : Sub X s.heap, ∀ uu : Dj D X, ∀ uu : BaseIn Hb X, ∀ uu : FrameX env ρ X,
    wpAny (model prog w) A (eval e env) (fun V s' => Post (Q (er V)) s X s') (fun uu uu => False) s

-- a test
noncomputable def TB (n : Nat) (sc : Scope) (e : Expr) (ρ : List (Str × Value)) (D : DH) (Q : ∀ uu : Bool, ∀ uu : DH, Prop) : Prop :=
  ∀ (A : Around) (s : Shared) (X : DH) (env : Env), ∀ uu : EnvOk Hb sc env, ∀ uu : Ok Hb n A X, ∀ uu : Sub D s.heap, ∀ uu : Sub X s.heap, ∀ uu : Dj D X, ∀ uu : BaseIn Hb X, ∀ uu : FrameX env ρ X,
    wpAny (model prog w) A (isTrue e env (eval e env)) (fun b s' => Post (Q b) s X s') (fun uu uu => False) s

-- expressions, one behind the other
noncomputable def TEs (n : Nat) (sc : Scope) (es : List Expr) (ρ : List (Str × Value)) (D : DH) (Q : ∀ uu : List Value, ∀ uu : DH, Prop) : Prop :=
  ∀ (A : Around) (s : Shared) (X : DH) (env : Env) (pos : Pos), ∀ uu : EnvOk Hb sc env, ∀ uu : Ok Hb n A X, ∀ uu : Sub D s.heap, ∀ uu : Sub X s.heap, ∀ uu : Dj D X, ∀ uu : BaseIn Hb X, ∀ uu : FrameX env ρ X,
    wpAny (model prog w) A (spliced (backTo pos (starEach es env))) (fun Vs s' => Post (Q (Vs.map er)) s X s') (fun uu uu => False) s
end

section
variable {prog : Program} {w : World} {Hb : Heap} {n : Nat} {sc : Scope} {ρ : List (Str × Value)} {D : DH}

theorem TE.mono {e : Expr} {Q Q' : ∀ uu : Value, ∀ uu : DH, Prop} (h : TE prog w Hb n sc e ρ D Q) (k : ∀ v D', ∀ uu : Q v D', Q' v D') : TE prog w Hb n sc e ρ D Q' :=
  fun A s X env a b c d e' f g => wpAny_mono (h A s X env a b c d e' f g) (fun uu uu p => p.imp (k _)) fun uu uu x => x
theorem TC.abs {f : Value} {args : List Value} {Q : ∀ uu : Value, ∀ uu : DH, Prop} (h : ∀ Q' : ∀ uu : Value, ∀ uu : DH, Prop, ∀ uu : (∀ v D', ∀ uu : Q v D', Q' v D'), TC prog w Hb n f args D Q') : TC prog w Hb n f args D Q := h Q fun uu uu x => x
theorem TC.mono {f : Value} {args : List Value} {Q Q' : ∀ uu : Value, ∀ uu : DH, Prop} (h : TC prog w Hb n f args D Q) (k : ∀ v D', ∀ uu : Q v D', Q' v D') : TC prog w Hb n f args D Q' :=
  fun A s X Vs a b c d e f => codeAny_mono (h A s X Vs a b c d e f) (fun uu uu p => p.imp k)

-- run an expression, and go on
theorem TE.seq {e : Expr} {A : Around} {s : Shared} {X : DH} {env : Env} {Q : ∀ uu : Value, ∀ uu : DH, Prop} {R : ∀ uu : Value, ∀ uu : Shared, Prop} {E : ∀ uu : Value, ∀ uu : Shared, Prop}
    (h : TE prog w Hb n sc e ρ D Q) (a : EnvOk Hb sc env) (b : Ok Hb n A X) (c : Sub D s.heap) (d : Sub X s.heap) (j : Dj D X) (bi : BaseIn Hb X) (g : FrameX env ρ X)
    (k : ∀ V D' s', ∀ uu : Q (er V) D', ∀ uu : After s X D' s', R V s') : wpAny (model prog w) A (eval e env) R E s :=
  wpAny_mono (h A s X env a b c d j bi g) (fun V s' ⟨D', q, r⟩ => k V D' s' q r) fun uu uu x => x.elim

-- and then r
noncomputable def Nx (prog : Program) (w : World) (Hb : Heap) (n : Nat) (sc : Scope) (r : Expr) (ρ : List (Str × Value)) (R : ∀ uu : Value, ∀ uu : Value, ∀ uu : DH, Prop) (x : Value) (D : DH) : Prop := TE prog w Hb n sc r ρ D (R x)
theorem Nx.mono {r : Expr} {R : ∀ uu : Value, ∀ uu : Value, ∀ uu : DH, Prop} {x : Value} {Q' : ∀ uu : Value, ∀ uu : DH, Prop} (h : Nx prog w Hb n sc r ρ R x D) (k : ∀ v D', ∀ uu : R x v D', Q' v D') : TE prog w Hb n sc r ρ D Q' := TE.mono h k
theorem TE_int {i : Int} {kk pos} {Q : ∀ uu : Value, ∀ uu : DH, Prop} (h : Q (.int i 0) D) : TE prog w Hb n sc (.Constant (.int i) kk pos) ρ D Q :=
  fun uu uu uu uu uu uu c d j uu uu => wpAny_Constant_int ⟨D, h, .tok c d j _⟩
theorem TE_none {kk pos} {Q : ∀ uu : Value, ∀ uu : DH, Prop} (h : Q .none D) : TE prog w Hb n sc (.Constant .none kk pos) ρ D Q :=
  fun uu uu uu uu uu uu c d j uu uu => wpAny_Constant_none ⟨D, h, .refl c d j⟩
theorem TE_bool {b : Bool} {kk pos} {Q : ∀ uu : Value, ∀ uu : DH, Prop} (h : Q (.bool b) D) : TE prog w Hb n sc (.Constant (.bool b) kk pos) ρ D Q :=
  fun uu uu uu uu uu uu c d j uu uu => wpAny_Constant_bool ⟨D, h, .refl c d j⟩
theorem TE_str {x : Str} {kk pos} {Q : ∀ uu : Value, ∀ uu : DH, Prop} (h : Q (.str x 0) D) : TE prog w Hb n sc (.Constant (.str x) kk pos) ρ D Q :=
  fun uu uu uu uu uu uu c d j uu uu => wpAny_Constant_str ⟨D, h, .tok c d j _⟩

theorem TE_name {x : Str} {pos : Pos} {v : Value} {Q : ∀ uu : Value, ∀ uu : DH, Prop} (hv : ρ.lookup x = some v) (h : Q v D)
    (hd : (x == ("__debug__" : Str)) = false := by decide) (hn : (x == ("__classdict__" : Str)) = false := by decide) : TE prog w Hb n sc (.Name x pos) ρ D Q := by
  intro A s X env a b c d j bi g
  have hk : env.scope.kind = .function := by rw [a.se]; exact a.kf
  refine ex1_2 (g s.heap d) fun m hm q => ?_
  rcases q x v hv with ⟨k, V, e, r⟩ | ⟨k, cc, V, e1, e2, r⟩
  · exact wpAny_Name (wpAny_loadName_local hk k hm e ⟨D, r ▸ h, .refl c d j⟩) hd
  · rcases k with k | k
    · exact wpAny_Name (wpAny_loadName_cell hk k e1 e2 ⟨D, r ▸ h, .refl c d j⟩) hd
    · exact wpAny_Name (wpAny_loadName_free hk k e1 e2 ⟨D, r ▸ h, .refl c d j⟩ hn) hd

end
end

section
section
variable {prog : Program} {w : World} {Hb : Heap} {n : Nat} {sc : Scope} {ρ : List (Str × Value)} {D : DH}

theorem two_nd {op : Operator} {l r : Expr} {pos : Pos} {Q : ∀ uu : Value, ∀ uu : DH, Prop}
    (h : TE prog w Hb n sc l ρ D (fun x D₁ => TE prog w Hb n sc r ρ D₁ (fun y D₂ => ∀ V U, ∀ uu : er V = x, ∀ uu : er U = y, ∀ A s X, ∀ uu : A.handled = none, ∀ uu : Sub D₂ s.heap, ∀ uu : Sub X s.heap, ∀ uu : Dj D₂ X,
      wpAny (model prog w) A (binaryOp op V U) (fun R s' => Post (Q (er R)) s X s') (fun uu uu => False) s))) :
    TE prog w Hb n sc (.BinOp l op r pos) ρ D Q := by
  intro A s X env a b c d j bi g
  refine wpAny_BinOp (TE.seq h a b c d j bi g fun V D₁ s₁ q t => ?_)
  refine TE.seq q a b t.d t.x t.j bi g fun U D₂ s₂ q' t' => ?_
  refine wpAny_mono (q' V U rfl rfl A s₂ X b.hh t'.d t'.x t'.j) (fun uu uu p => p.step (t.trans t')) fun uu uu x => x

inductive AddR (Q : ∀ uu : Value, ∀ uu : DH, Prop) (x y : Value) (D₂ : DH) : Prop
  | mk : ∀ a b, ∀ uu : x = .int a 0, ∀ uu : y = .int b 0, ∀ uu : Q (.int (a + b) 0) D₂, AddR Q x y D₂
theorem TE_add {l r : Expr} {pos : Pos} {Q : ∀ uu : Value, ∀ uu : DH, Prop}
    (h : TE prog w Hb n sc l ρ D (Nx prog w Hb n sc r ρ (AddR Q))) :
    TE prog w Hb n sc (.BinOp l .Add r pos) ρ D Q := by
  refine two_nd (h.mono fun x D₁ q => q.mono fun y D₂ hq1 V U h1 h2 A s X hh d x j => ?_)
  obtain ⟨a, b, e1, e2, k⟩ := hq1
  subst e1 e2
  obtain ⟨t, rfl⟩ := er_int h1
  obtain ⟨u, rfl⟩ := er_int h2
  exact add_int ⟨D₂, k, .tok d x j _⟩
inductive SubR (Q : ∀ uu : Value, ∀ uu : DH, Prop) (x y : Value) (D₂ : DH) : Prop
  | mk : ∀ a b, ∀ uu : x = .int a 0, ∀ uu : y = .int b 0, ∀ uu : Q (.int (a - b) 0) D₂, SubR Q x y D₂
theorem TE_sub {l r : Expr} {pos : Pos} {Q : ∀ uu : Value, ∀ uu : DH, Prop}
    (h : TE prog w Hb n sc l ρ D (Nx prog w Hb n sc r ρ (SubR Q))) :
    TE prog w Hb n sc (.BinOp l .Sub r pos) ρ D Q := by
  refine two_nd (h.mono fun x D₁ q => q.mono fun y D₂ hq2 V U h1 h2 A s X hh d x j => ?_)
  obtain ⟨a, b, e1, e2, k⟩ := hq2
  subst e1 e2
  obtain ⟨t, rfl⟩ := er_int h1
  obtain ⟨u, rfl⟩ := er_int h2
  exact sub_int ⟨D₂, k, .tok d x j _⟩
inductive MulR (Q : ∀ uu : Value, ∀ uu : DH, Prop) (x y : Value) (D₂ : DH) : Prop
  | mk : ∀ a b, ∀ uu : x = .int a 0, ∀ uu : y = .int b 0, ∀ uu : (a.natAbs < 2 ^ 64 ∨ b.natAbs < 2 ^ 64), ∀ uu : Q (.int (a * b) 0) D₂, MulR Q x y D₂
theorem TE_mul {l r : Expr} {pos : Pos} {Q : ∀ uu : Value, ∀ uu : DH, Prop}
    (h : TE prog w Hb n sc l ρ D (Nx prog w Hb n sc r ρ (MulR Q))) :
    TE prog w Hb n sc (.BinOp l .Mult r pos) ρ D Q := by
  refine two_nd (h.mono fun x D₁ q => q.mono fun y D₂ hq3 V U h1 h2 A s X hh d x j => ?_)
  obtain ⟨a, b, e1, e2, hs, k⟩ := hq3
  subst e1 e2
  obtain ⟨t, rfl⟩ := er_int h1
  obtain ⟨u, rfl⟩ := er_int h2
  have hm : IntMulOk a b := hs.elim (fun q => .of_left (intBits_le q)) fun q => .of_right (intBits_le q)
  exact PyProof.Rows.mul_int ⟨D₂, k, .tok d x j _⟩ hm
theorem log2_lt {b : Int} (h : b < 2 ^ 62) (h0 : 0 < b) : b.natAbs.log2 < 9000 := by
  have hn : b.natAbs < 2 ^ 62 := by omega
  exact Nat.lt_of_lt_of_le ((Nat.log2_lt (by (clear hn h; omega))).mpr hn) (by decide)
inductive DivR (Q : ∀ uu : Value, ∀ uu : DH, Prop) (x y : Value) (D₂ : DH) : Prop
  | mk : ∀ a b, ∀ uu : x = .int a 0, ∀ uu : y = .int b 0, ∀ uu : 0 < b, ∀ uu : b < 2 ^ 62, ∀ uu : Q (.int (a / b) 0) D₂, DivR Q x y D₂
theorem TE_div {l r : Expr} {pos : Pos} {Q : ∀ uu : Value, ∀ uu : DH, Prop}
    (h : TE prog w Hb n sc l ρ D (Nx prog w Hb n sc r ρ (DivR Q))) :
    TE prog w Hb n sc (.BinOp l .FloorDiv r pos) ρ D Q := by
  refine two_nd (h.mono fun x D₁ q => q.mono fun y D₂ hq4 V U h1 h2 A s X hh d x j => ?_)
  obtain ⟨a, b, e1, e2, h0, hb, k⟩ := hq4
  subst e1 e2
  obtain ⟨t, rfl⟩ := er_int h1
  obtain ⟨u, rfl⟩ := er_int h2
  have e : a.fdiv b = a / b := Int.fdiv_eq_ediv_of_nonneg a (by lia)
  refine floordiv_int (by lia) ?_ (.inl (PyProof.noPylong_of_log2 (log2_lt hb h0)))
  rw [e]
  exact ⟨D₂, k, .tok d x j _⟩
inductive ModR (Q : ∀ uu : Value, ∀ uu : DH, Prop) (x y : Value) (D₂ : DH) : Prop
  | mk : ∀ a b, ∀ uu : x = .int a 0, ∀ uu : y = .int b 0, ∀ uu : 0 < b, ∀ uu : Q (.int (a % b) 0) D₂, ModR Q x y D₂
theorem TE_mod {l r : Expr} {pos : Pos} {Q : ∀ uu : Value, ∀ uu : DH, Prop}
    (h : TE prog w Hb n sc l ρ D (Nx prog w Hb n sc r ρ (ModR Q))) :
    TE prog w Hb n sc (.BinOp l .Mod r pos) ρ D Q := by
  refine two_nd (h.mono fun x D₁ q => q.mono fun y D₂ hq5 V U h1 h2 A s X hh d x j => ?_)
  obtain ⟨a, b, e1, e2, h0, k⟩ := hq5
  subst e1 e2
  obtain ⟨t, rfl⟩ := er_int h1
  obtain ⟨u, rfl⟩ := er_int h2
  have e : a.fmod b = a % b := Int.fmod_eq_emod_of_nonneg a (by lia)
  refine PyProof.Rows.mod_int' (by lia) ?_
  rw [e]
  exact ⟨D₂, k, .tok d x j _⟩
inductive ShrR (Q : ∀ uu : Value, ∀ uu : DH, Prop) (x y : Value) (D₂ : DH) : Prop
  | mk : ∀ a b, ∀ uu : x = .int a 0, ∀ uu : y = .int b 0, ∀ uu : 0 ≤ b, ∀ uu : Q (.int (a / 2 ^ b.toNat) 0) D₂, ShrR Q x y D₂
theorem TE_shr {l r : Expr} {pos : Pos} {Q : ∀ uu : Value, ∀ uu : DH, Prop}
    (h : TE prog w Hb n sc l ρ D (Nx prog w Hb n sc r ρ (ShrR Q))) :
    TE prog w Hb n sc (.BinOp l .RShift r pos) ρ D Q := by
  refine two_nd (h.mono fun x D₁ q => q.mono fun y D₂ hq6 V U h1 h2 A s X hh d x j => ?_)
  obtain ⟨a, b, e1, e2, h0, k⟩ := hq6
  subst e1 e2
  obtain ⟨t, rfl⟩ := er_int h1
  obtain ⟨u, rfl⟩ := er_int h2
  have e : a.fdiv (2 ^ b.toNat) = a / 2 ^ b.toNat := Int.fdiv_eq_ediv_of_nonneg a (Int.le_of_lt (Int.pow_pos (by decide)))
  refine rshift_int h0 ?_
  rw [e]
  exact ⟨D₂, k, .tok d x j _⟩
inductive ShlR (Q : ∀ uu : Value, ∀ uu : DH, Prop) (x y : Value) (D₂ : DH) : Prop
  | mk : ∀ a b, ∀ uu : x = .int a 0, ∀ uu : y = .int b 0, ∀ uu : 0 ≤ b, ∀ uu : b ≤ 1000, ∀ uu : a.natAbs < 2 ^ 64, ∀ uu : Q (.int (a * 2 ^ b.toNat) 0) D₂, ShlR Q x y D₂
theorem TE_shl {l r : Expr} {pos : Pos} {Q : ∀ uu : Value, ∀ uu : DH, Prop}
    (h : TE prog w Hb n sc l ρ D (Nx prog w Hb n sc r ρ (ShlR Q))) :
    TE prog w Hb n sc (.BinOp l .LShift r pos) ρ D Q := by
  refine two_nd (h.mono fun x D₁ q => q.mono fun y D₂ hq7 V U h1 h2 A s X hh d x j => ?_)
  obtain ⟨a, b, e1, e2, h0, hb, ha, k⟩ := hq7
  subst e1 e2
  obtain ⟨t, rfl⟩ := er_int h1
  obtain ⟨u, rfl⟩ := er_int h2
  exact lshift_int_small h0 (by lia) ha ⟨D₂, k, .tok d x j _⟩
inductive PowR (Q : ∀ uu : Value, ∀ uu : DH, Prop) (x y : Value) (D₂ : DH) : Prop
  | mk : ∀ a b, ∀ uu : x = .int a 0, ∀ uu : y = .int b 0, ∀ uu : 0 ≤ b, ∀ uu : b ≤ 1000, ∀ uu : a.natAbs < 2 ^ 64, ∀ uu : Q (.int (a ^ b.toNat) 0) D₂, PowR Q x y D₂
theorem TE_pow {l r : Expr} {pos : Pos} {Q : ∀ uu : Value, ∀ uu : DH, Prop}
    (h : TE prog w Hb n sc l ρ D (Nx prog w Hb n sc r ρ (PowR Q))) :
    TE prog w Hb n sc (.BinOp l .Pow r pos) ρ D Q := by
  refine two_nd (h.mono fun x D₁ q => q.mono fun y D₂ hq8 V U h1 h2 A s X hh d x j => ?_)
  obtain ⟨a, b, e1, e2, h0, hb, ha, k⟩ := hq8
  subst e1 e2
  obtain ⟨t, rfl⟩ := er_int h1
  obtain ⟨u, rfl⟩ := er_int h2
  exact pow_int_small h0 (by lia) ha ⟨D₂, k, .tok d x j _⟩
inductive NegR (Q : ∀ uu : Value, ∀ uu : DH, Prop) (x : Value) (D₁ : DH) : Prop
  | mk : ∀ a, ∀ uu : x = .int a 0, ∀ uu : Q (.int (-a) 0) D₁, NegR Q x D₁
theorem TE_neg {l : Expr} {pos : Pos} {Q : ∀ uu : Value, ∀ uu : DH, Prop}
    (h : TE prog w Hb n sc l ρ D (NegR Q)) :
    TE prog w Hb n sc (.UnaryOp .USub l pos) ρ D Q := by
  intro A s X env a b c d j bi g
  refine wpAny_UnaryOp (TE.seq h a b c d j bi g fun V D₁ s₁ hq9 t => ?_)
  obtain ⟨i, e, q⟩ := hq9
  obtain ⟨u, rfl⟩ := er_int e
  exact PyProof.Rows.neg_int ⟨D₁, q, t.trans (.tok t.d t.x t.j _)⟩

structure IfxR (prog : Program) (w : World) (Hb : Heap) (n : Nat) (sc : Scope) (x y : Expr) (ρ : List (Str × Value)) (Q : ∀ uu : Value, ∀ uu : DH, Prop) (b : Bool) (D₁ : DH) : Prop where mk ::
  h1 : (∀ uu : b = true, TE prog w Hb n sc x ρ D₁ Q)
  h2 : (∀ uu : b = false, TE prog w Hb n sc y ρ D₁ Q)
-- an if-expression
theorem TE_ifexp {t x y : Expr} {pos : Pos} {Q : ∀ uu : Value, ∀ uu : DH, Prop}
    (h : TB prog w Hb n sc t ρ D (IfxR prog w Hb n sc x y ρ Q)) :
    TE prog w Hb n sc (.IfExp t x y pos) ρ D Q := by
  intro A s X env a b c d j bi g
  refine wpAny_IfExp (wpAny_mono (h A s X env a b c d j bi g) (fun bb s₁ hq10 => ?_) fun uu uu x => x.elim)
  obtain ⟨D₁, q, t₁⟩ := hq10
  cases bb
  · exact wpAny_mono (q.2 rfl A s₁ X env a b t₁.d t₁.x t₁.j bi g) (fun uu uu p => p.step t₁) fun uu uu x => x
  · exact wpAny_mono (q.1 rfl A s₁ X env a b t₁.d t₁.x t₁.j bi g) (fun uu uu p => p.step t₁) fun uu uu x => x


noncomputable def NotR (Q : ∀ uu : Bool, ∀ uu : DH, Prop) (b : Bool) (D₁ : DH) : Prop := Q (!b) D₁
theorem TB_not {e : Expr} {pos : Pos} {Q : ∀ uu : Bool, ∀ uu : DH, Prop} (h : TB prog w Hb n sc e ρ D (NotR Q)) : TB prog w Hb n sc (.UnaryOp .Not e pos) ρ D Q :=
  fun A s X env a b c d j bi g => wpAny_isTrue_Not (h A s X env a b c d j bi g)

inductive ValR (Q : ∀ uu : Bool, ∀ uu : DH, Prop) (x : Value) (D₁ : DH) : Prop
  | mk : ∀ b, ∀ uu : x = .bool b, ∀ uu : Q b D₁, ValR Q x D₁
-- a test by its value
theorem TB_val {e : Expr} {Q : ∀ uu : Bool, ∀ uu : DH, Prop} (h : TE prog w Hb n sc e ρ D (ValR Q))
    (he : ∀ env whole, isTrue e env whole = (do let v ← whole; standAt e.pos; holding [v] (truthy v)) := by intro _ _; rfl) : TB prog w Hb n sc e ρ D Q := by
  intro A s X env a b c d j bi g
  refine wpAny_isTrue_value (TE.seq h a b c d j bi g fun V D₁ s₁ hq11 t => ?_) (he env _)
  obtain ⟨bb, e, q⟩ := hq11
  obtain rfl := er_bool e
  exact wpAny_truthy_bool ⟨D₁, q, t⟩

noncomputable def TAll (prog : Program) (w : World) (Hb : Heap) (n : Nat) (sc : Scope) (op : BoolOp) (es : List Expr) (ρ : List (Str × Value)) (D : DH) (Q : ∀ uu : Bool, ∀ uu : DH, Prop) : Prop :=
  ∀ (A : Around) (s : Shared) (X : DH) (env : Env), ∀ uu : EnvOk Hb sc env, ∀ uu : Ok Hb n A X, ∀ uu : Sub D s.heap, ∀ uu : Sub X s.heap, ∀ uu : Dj D X, ∀ uu : BaseIn Hb X, ∀ uu : FrameX env ρ X,
    wpAny (model prog w) A (allTrue op es env) (fun b s' => Post (Q b) s X s') (fun uu uu => False) s
theorem TB_bool {op : BoolOp} {es : List Expr} {pos : Pos} {Q : ∀ uu : Bool, ∀ uu : DH, Prop} (h : TAll prog w Hb n sc op es ρ D Q) : TB prog w Hb n sc (.BoolOp op es pos) ρ D Q :=
  fun A s X env a b c d j bi g => wpAny_isTrue_BoolOp (h A s X env a b c d j bi g)
theorem TAll_and_nil {Q : ∀ uu : Bool, ∀ uu : DH, Prop} (h : Q true D) : TAll prog w Hb n sc .And [] ρ D Q := fun uu uu uu uu uu uu c d j uu uu => wpAny_allTrue_And_nil ⟨D, h, .refl c d j⟩
theorem TAll_or_nil {Q : ∀ uu : Bool, ∀ uu : DH, Prop} (h : Q false D) : TAll prog w Hb n sc .Or [] ρ D Q := fun uu uu uu uu uu uu c d j uu uu => wpAny_allTrue_Or_nil ⟨D, h, .refl c d j⟩
structure AndR (prog : Program) (w : World) (Hb : Heap) (n : Nat) (sc : Scope) (es : List Expr) (ρ : List (Str × Value)) (Q : ∀ uu : Bool, ∀ uu : DH, Prop) (b : Bool) (D₁ : DH) : Prop where mk ::
  h1 : (∀ uu : b = true, TAll prog w Hb n sc .And es ρ D₁ Q)
  h2 : (∀ uu : b = false, Q false D₁)
theorem TAll_and {e : Expr} {es : List Expr} {Q : ∀ uu : Bool, ∀ uu : DH, Prop} (h : TB prog w Hb n sc e ρ D (AndR prog w Hb n sc es ρ Q)) :
    TAll prog w Hb n sc .And (e :: es) ρ D Q := by
  intro A s X env a b c d j bi g
  refine wpAny_allTrue_And_cons (wpAny_mono (h A s X env a b c d j bi g) (fun bb s₁ hq12 => ?_) fun uu uu x => x.elim)
  obtain ⟨D₁, q, t₁⟩ := hq12
  cases bb
  · exact ⟨D₁, q.2 rfl, t₁⟩
  · exact wpAny_mono (q.1 rfl A s₁ X env a b t₁.d t₁.x t₁.j bi g) (fun uu uu p => p.step t₁) fun uu uu x => x
structure OrR (prog : Program) (w : World) (Hb : Heap) (n : Nat) (sc : Scope) (es : List Expr) (ρ : List (Str × Value)) (Q : ∀ uu : Bool, ∀ uu : DH, Prop) (b : Bool) (D₁ : DH) : Prop where mk ::
  h1 : (∀ uu : b = false, TAll prog w Hb n sc .Or es ρ D₁ Q)
  h2 : (∀ uu : b = true, Q true D₁)
theorem TAll_or {e : Expr} {es : List Expr} {Q : ∀ uu : Bool, ∀ uu : DH, Prop} (h : TB prog w Hb n sc e ρ D (OrR prog w Hb n sc es ρ Q)) :
    TAll prog w Hb n sc .Or (e :: es) ρ D Q := by
  intro A s X env a b c d j bi g
  refine wpAny_allTrue_Or_cons (wpAny_mono (h A s X env a b c d j bi g) (fun bb s₁ hq13 => ?_) fun uu uu x => x.elim)
  obtain ⟨D₁, q, t₁⟩ := hq13
  cases bb
  · exact wpAny_mono (q.1 rfl A s₁ X env a b t₁.d t₁.x t₁.j bi g) (fun uu uu p => p.step t₁) fun uu uu x => x
  · exact ⟨D₁, q.2 rfl, t₁⟩

-- one comparison, as a test; what the operator gives is told apart
theorem TB_cmp {op : CmpOp} {l r : Expr} {pos : Pos} {Q : ∀ uu : Bool, ∀ uu : DH, Prop}
    (h : TE prog w Hb n sc l ρ D (fun x D₁ => TE prog w Hb n sc r ρ D₁ (fun y D₂ => ∀ V U, ∀ uu : er V = x, ∀ uu : er U = y, ∀ A s X, ∀ uu : Ok Hb n A X, ∀ uu : Sub D₂ s.heap, ∀ uu : Sub X s.heap, ∀ uu : Dj D₂ X,
      wpAny (model prog w) A (compareOp op V U) (fun R s' => ∃ b D', R = .bool b ∧ Q b D' ∧ After s X D' s') (fun uu uu => False) s)))
    (hm : behindInMarks op r = false := by with_unfolding_all rfl) :
    TB prog w Hb n sc (.Compare l [op] [r] pos) ρ D Q := by
  intro A s X env a b c d j bi g
  refine wpAny_isTrue_Compare1 (TE.seq h a b c d j bi g fun V D₁ s₁ q t => ?_) hm
  refine TE.seq q a b t.d t.x t.j bi g fun U D₂ s₂ q' t' => ?_
  refine wpAny_mono (q' V U rfl rfl A s₂ X b t'.d t'.x t'.j) (fun R s' hq14 => ?_) fun uu uu x => x.elim
  refine ex2_3 (hq14) fun bb D' eR2 k z => ?_
  try clear hq14
  obtain rfl := eR2
  exact wpAny_truthy_bool ⟨D', k, (t.trans t').trans z⟩

theorem bim_set {op : CmpOp} (h : (op == .In || op == .NotIn) = false) (elts : List Expr) (k : Nat) {p : Pos} : behindInMarks op (.Set elts k p) = false := by
  show (_ && (op == .In || op == .NotIn) && _) = false
  rw [h, Bool.and_false, Bool.false_and]
theorem bim {op : CmpOp} (r : Expr) (h : (op == .In || op == .NotIn) = false) : behindInMarks op r = false := by
  cases r with
  | Set elts k p => exact bim_set h elts k
  | _ => rfl
theorem TB_int {op : CmpOp} {l r : Expr} {pos : Pos} {Q : ∀ uu : Bool, ∀ uu : DH, Prop} {f : ∀ uu : Int, ∀ uu : Int, Bool}
    (hop : ∀ {A : Around} {s : Shared} {E : ∀ uu : Value, ∀ uu : Shared, Prop} {x y : Int} {t u : Tok} {R : ∀ uu : Value, ∀ uu : Shared, Prop}, ∀ uu : R (.bool (f x y)) s, wpAny (model prog w) A (compareOp op (.int x t) (.int y u)) R E s)
    (h : TE prog w Hb n sc l ρ D (fun x D₁ => TE prog w Hb n sc r ρ D₁ (fun y D₂ => ∃ a b, x = .int a 0 ∧ y = .int b 0 ∧ (∀ uu : f a b = true, Q true D₂) ∧ (∀ uu : f a b = false, Q false D₂))))
    (hm : behindInMarks op r = false) :
    TB prog w Hb n sc (.Compare l [op] [r] pos) ρ D Q := by
  refine TB_cmp (h.mono fun x D₁ q => q.mono fun y D₂ hq15 V U h1 h2 A s X hh d x j => ?_) hm
  refine ex2_4 (hq15) fun a b e1 e2 k1 k2 => ?_
  try clear hq15
  subst e1 e2
  obtain ⟨t, rfl⟩ := er_int h1
  obtain ⟨u, rfl⟩ := er_int h2
  refine hop ⟨_, D₂, rfl, ?_, .refl d x j⟩
  cases e : f a b
  · exact k2 e
  · exact k1 e
inductive LtR (Q : ∀ uu : Bool, ∀ uu : DH, Prop) (x y : Value) (D₂ : DH) : Prop
  | mk : ∀ a b, ∀ uu : x = .int a 0, ∀ uu : y = .int b 0, ∀ uu : (∀ uu : a < b, Q true D₂), ∀ uu : (∀ uu : ¬ a < b, Q false D₂), LtR Q x y D₂
theorem TB_lt {l r : Expr} {pos : Pos} {Q : ∀ uu : Bool, ∀ uu : DH, Prop}
    (h : TE prog w Hb n sc l ρ D (Nx prog w Hb n sc r ρ (LtR Q))) : TB prog w Hb n sc (.Compare l [.Lt] [r] pos) ρ D Q :=
  TB_int (f := fun a b => decide (a < b)) (fun h => lt_int h) (h.mono fun uu uu q => q.mono fun _ _ ⟨a, b, e1, e2, k1, k2⟩ => ⟨a, b, e1, e2, fun z => k1 (of_decide_eq_true z), fun z => k2 (of_decide_eq_false z)⟩) (bim _ rfl)
inductive GtR (Q : ∀ uu : Bool, ∀ uu : DH, Prop) (x y : Value) (D₂ : DH) : Prop
  | mk : ∀ a b, ∀ uu : x = .int a 0, ∀ uu : y = .int b 0, ∀ uu : (∀ uu : b < a, Q true D₂), ∀ uu : (∀ uu : ¬ b < a, Q false D₂), GtR Q x y D₂
theorem TB_gt {l r : Expr} {pos : Pos} {Q : ∀ uu : Bool, ∀ uu : DH, Prop}
    (h : TE prog w Hb n sc l ρ D (Nx prog w Hb n sc r ρ (GtR Q))) : TB prog w Hb n sc (.Compare l [.Gt] [r] pos) ρ D Q :=
  TB_int (f := fun a b => decide (b < a)) (fun h => gt_int h) (h.mono fun uu uu q => q.mono fun _ _ ⟨a, b, e1, e2, k1, k2⟩ => ⟨a, b, e1, e2, fun z => k1 (of_decide_eq_true z), fun z => k2 (of_decide_eq_false z)⟩) (bim _ rfl)
inductive LeR (Q : ∀ uu : Bool, ∀ uu : DH, Prop) (x y : Value) (D₂ : DH) : Prop
  | mk : ∀ a b, ∀ uu : x = .int a 0, ∀ uu : y = .int b 0, ∀ uu : (∀ uu : a ≤ b, Q true D₂), ∀ uu : (∀ uu : ¬ a ≤ b, Q false D₂), LeR Q x y D₂
theorem TB_le {l r : Expr} {pos : Pos} {Q : ∀ uu : Bool, ∀ uu : DH, Prop}
    (h : TE prog w Hb n sc l ρ D (Nx prog w Hb n sc r ρ (LeR Q))) : TB prog w Hb n sc (.Compare l [.LtE] [r] pos) ρ D Q :=
  TB_int (f := fun a b => decide (a ≤ b)) (fun h => PyProof.Rows.le_int h) (h.mono fun uu uu q => q.mono fun _ _ ⟨a, b, e1, e2, k1, k2⟩ => ⟨a, b, e1, e2, fun z => k1 (of_decide_eq_true z), fun z => k2 (of_decide_eq_false z)⟩) (bim _ rfl)
inductive GeR (Q : ∀ uu : Bool, ∀ uu : DH, Prop) (x y : Value) (D₂ : DH) : Prop
  | mk : ∀ a b, ∀ uu : x = .int a 0, ∀ uu : y = .int b 0, ∀ uu : (∀ uu : b ≤ a, Q true D₂), ∀ uu : (∀ uu : ¬ b ≤ a, Q false D₂), GeR Q x y D₂
theorem TB_ge {l r : Expr} {pos : Pos} {Q : ∀ uu : Bool, ∀ uu : DH, Prop}
    (h : TE prog w Hb n sc l ρ D (Nx prog w Hb n sc r ρ (GeR Q))) : TB prog w Hb n sc (.Compare l [.GtE] [r] pos) ρ D Q :=
  TB_int (f := fun a b => decide (b ≤ a)) (fun h => PyProof.Rows.ge_int h) (h.mono fun uu uu q => q.mono fun _ _ ⟨a, b, e1, e2, k1, k2⟩ => ⟨a, b, e1, e2, fun z => k1 (of_decide_eq_true z), fun z => k2 (of_decide_eq_false z)⟩) (bim _ rfl)
inductive EqR (Q : ∀ uu : Bool, ∀ uu : DH, Prop) (x y : Value) (D₂ : DH) : Prop
  | mk : ∀ a b, ∀ uu : x = .int a 0, ∀ uu : y = .int b 0, ∀ uu : (∀ uu : a = b, Q true D₂), ∀ uu : (∀ uu : ¬ a = b, Q false D₂), EqR Q x y D₂
theorem TB_eq {l r : Expr} {pos : Pos} {Q : ∀ uu : Bool, ∀ uu : DH, Prop}
    (h : TE prog w Hb n sc l ρ D (Nx prog w Hb n sc r ρ (EqR Q))) : TB prog w Hb n sc (.Compare l [.Eq] [r] pos) ρ D Q :=
  TB_int (f := fun a b => a == b) (fun h => eq_int h) (h.mono fun uu uu q => q.mono fun _ _ ⟨a, b, e1, e2, k1, k2⟩ => ⟨a, b, e1, e2, fun z => k1 (by simpa using z), fun z => k2 (by simpa using z)⟩) (bim _ rfl)
inductive NeR (Q : ∀ uu : Bool, ∀ uu : DH, Prop) (x y : Value) (D₂ : DH) : Prop
  | mk : ∀ a b, ∀ uu : x = .int a 0, ∀ uu : y = .int b 0, ∀ uu : (∀ uu : ¬ a = b, Q true D₂), ∀ uu : (∀ uu : a = b, Q false D₂), NeR Q x y D₂
theorem TB_ne {l r : Expr} {pos : Pos} {Q : ∀ uu : Bool, ∀ uu : DH, Prop}
    (h : TE prog w Hb n sc l ρ D (Nx prog w Hb n sc r ρ (NeR Q))) : TB prog w Hb n sc (.Compare l [.NotEq] [r] pos) ρ D Q :=
  TB_int (f := fun a b => a != b) (fun h => ne_int h) (h.mono fun uu uu q => q.mono fun _ _ ⟨a, b, e1, e2, k1, k2⟩ => ⟨a, b, e1, e2, fun z => k1 (by simpa using z), fun z => k2 (by simpa using z)⟩) (bim _ rfl)

-- lists of expressions
theorem TEs_nil {Q : ∀ uu : List Value, ∀ uu : DH, Prop} (h : Q [] D) : TEs prog w Hb n sc [] ρ D Q :=
  fun uu uu uu uu uu uu uu c d j uu uu => wpAny_pure ⟨D, h, .refl c d j⟩
noncomputable abbrev ConsR (Q : ∀ uu : List Value, ∀ uu : DH, Prop) (x : Value) (xs : List Value) (D : DH) : Prop := Q (x :: xs) D
noncomputable def NxS (prog : Program) (w : World) (Hb : Heap) (n : Nat) (sc : Scope) (es : List Expr) (ρ : List (Str × Value)) (Q : ∀ uu : List Value, ∀ uu : DH, Prop) (x : Value) (D : DH) : Prop := TEs prog w Hb n sc es ρ D (ConsR Q x)
theorem TEs_cons {e : Expr} {es : List Expr} {Q : ∀ uu : List Value, ∀ uu : DH, Prop} (h : TE prog w Hb n sc e ρ D (NxS prog w Hb n sc es ρ Q))
    (he : ∀ env, starEach (e :: es) env = (false, eval e env) :: starEach es env := by intro _; rfl) : TEs prog w Hb n sc (e :: es) ρ D Q := by
  intro A s X env pos a b c d j bi g
  refine wpAny_items_cons (TE.seq h a b c d j bi g fun V D₁ s₁ q t => ?_) (he env)
  exact wpAny_mono (q A s₁ X env pos a b t.d t.x t.j bi g) (fun uu uu p => p.step t) fun uu uu x => x
end
end

section
noncomputable def erF : ∀ uu : Flow, Flow
  | .ret v => .ret (er v)
  | f => f

noncomputable abbrev fAddrs (env : Env) : List Addr := env.locals :: env.cells.map (·.2)
noncomputable def FOff (env : Env) (D X : DH) : Prop := ∀ a, ∀ uu : a ∈ fAddrs env, D a = none ∧ X a = none
structure FrameS (env : Env) (ρ : List (Str × Value)) (h : Heap) : Prop where
  fh : FrameH env ρ h
  cells : ∀ p, ∀ uu : p ∈ env.cells, ∃ v, h.IsCell p.2 v
  nd : (fAddrs env).Nodup
  has : ∀ x, ∀ uu : env.kindOf x = some .cell, ∃ c, env.cells.lookup x = some c

structure OkS (Hb : Heap) (n : Nat) (A : Around) (X : DH) (env : Env) : Prop where
  hh : A.handled = none
  dep : A.depth + 3 * n ≤ 990
  uni : A.units + 10 * n ≤ 9000
  frs : ∃ l, A.frames = some (env :: l) ∧ FrL Hb X l
  fr : env.frame = some env.locals

structure Cx (Hb : Heap) (n : Nat) (sc : Scope) (ρ : List (Str × Value)) (D : DH) (A : Around) (s : Shared) (X : DH) (env : Env) : Prop where
  e : EnvOk Hb sc env
  ok : OkS Hb n A X env
  d : Sub D s.heap
  x : Sub X s.heap
  j : Dj D X
  b : BaseIn Hb X
  f : FrameS env ρ s.heap
  o : FOff env D X

noncomputable def XF (env : Env) (h : Heap) (X : DH) : DH := fun a => if a ∈ fAddrs env then h.get? a else X a

theorem inj_nodup : ∀ (l : List (Str × Addr)) (p q : Str × Addr), ∀ uu : (l.map (·.2)).Nodup, ∀ uu : p ∈ l, ∀ uu : q ∈ l, ∀ uu : p.2 = q.2, p = q
  | [], _, _, _, hp, _, _ => (nomatch hp)
  | r :: l, p, q, nd, hp, hq, e => by
      rw [List.map_cons, List.nodup_cons] at nd
      rcases List.mem_cons.mp hp with h1 | h1
      · rcases List.mem_cons.mp hq with h2 | h2
        · rw [h1, h2]
        · subst h1; exact absurd (e ▸ List.mem_map_of_mem h2) nd.1
      · rcases List.mem_cons.mp hq with h2 | h2
        · subst h2; exact absurd (e ▸ List.mem_map_of_mem h1) nd.1
        · exact inj_nodup l p q nd.2 h1 h2 e

theorem mem_of_lookup {x : Str} {c : Addr} : ∀ {l : List (Str × Addr)}, ∀ uu : l.lookup x = some c, (x, c) ∈ l
  | [], h => by cases h
  | (y, d) :: r, h => by
    rw [List.lookup_cons] at h
    split at h
    · rename_i q; rw [beq_iff_eq] at q; subst q; obtain rfl := (Option.some.inj h).symm; exact .head _
    · exact .tail _ (mem_of_lookup h)

section
variable {prog : Program} {w : World} {Hb : Heap} {n : Nat} {sc : Scope} {ρ : List (Str × Value)} {D : DH} {A : Around} {s : Shared} {X : DH} {env : Env}

theorem FrameS.obj (f : FrameS env ρ s.heap) {a : Addr} (h : a ∈ fAddrs env) : ∃ o, s.heap.get? a = some o := by
  rcases List.mem_cons.mp h with rfl | h
  · refine ex1_2 (f.fh) fun m hN1 uu => ?_
    obtain ⟨o, _, _, ho, _⟩ := hN1
    exact ⟨o, ho⟩
  · refine ex1_2 (List.mem_map.mp h) fun p hp eR2 => ?_
    obtain rfl := eR2
    refine ex2_2 (f.cells p hp) fun v o ho uu => ?_
    exact ⟨o, ho⟩

theorem Cx.leX (c : Cx Hb n sc ρ D A s X env) : Le X (XF env s.heap X) := fun a o h => by
  have : a ∉ fAddrs env := fun q => by have := (c.o a q).2; rw [this] at h; cases h
  rw [XF, if_neg this]; exact h
theorem Cx.subXF (c : Cx Hb n sc ρ D A s X env) : Sub (XF env s.heap X) s.heap := fun a o h => by
  unfold XF at h
  split at h
  · exact h
  · exact c.x a o h
theorem Cx.dj (c : Cx Hb n sc ρ D A s X env) : Dj D (XF env s.heap X) := fun a o h => by
  have : a ∉ fAddrs env := fun q => by have := (c.o a q).1; rw [this] at h; cases h
  rw [XF, if_neg this]; exact c.j a o h
theorem Cx.okE (c : Cx Hb n sc ρ D A s X env) : Ok Hb n A (XF env s.heap X) := by
  refine ⟨c.ok.hh, c.ok.dep, c.ok.uni, ?_⟩
  refine ex1_2 (c.ok.frs) fun l hl fl => ?_
  obtain ⟨o, ho⟩ := c.f.obj (a := env.locals) (.head _)
  refine ex1_2 (c.f.fh) fun m hN1 uu => ?_
  obtain ⟨oL, es, ep, hL, hd, _⟩ := hN1
  rw [ho] at hL; cases hL
  refine ⟨_, hl, .cons ⟨env.locals, o, by rw [c.e.se, c.e.kf]; decide, c.ok.fr, c.e.above, ?_, by rw [hd]; intro vs h; cases h⟩ (fl.le c.leX)⟩
  rw [XF, if_pos (.head _)]; exact ho
theorem Cx.base (c : Cx Hb n sc ρ D A s X env) : BaseIn Hb (XF env s.heap X) := fun b o h => c.leX b o (c.b b o h)
theorem FrameS.of {h h' : Heap} (f : FrameS env ρ h) (k : ∀ a, ∀ uu : a ∈ fAddrs env, ∀ o, ∀ uu : h.get? a = some o, h'.get? a = some o) : FrameS env ρ h' := by
  refine ⟨?_, fun p hp => ?_, f.nd, f.has⟩
  · refine ex1_2 (f.fh) fun m hm q => ?_
    refine ⟨m, hm.at' (k _ (.head _)), fun x v e => ?_⟩
    rcases q x v e with z | ⟨kk, cc, V, e1, ⟨o, e2, e2'⟩, r⟩
    · exact .inl z
    · exact .inr ⟨kk, cc, V, e1, ⟨o, k _ (.tail _ (List.mem_map_of_mem (mem_of_lookup e1))) _ e2, e2'⟩, r⟩
  · refine ex2_2 (f.cells p hp) fun v o ho hv => ?_
    exact ⟨v, o, k _ (.tail _ (List.mem_map_of_mem hp)) _ ho, hv⟩
theorem Cx.frameX (c : Cx Hb n sc ρ D A s X env) : FrameX env ρ (XF env s.heap X) := fun h' hs =>
  (FrameS.of c.f fun a ha o ho => hs a o (by rw [XF, if_pos ha]; exact ho)).fh

theorem Cx.after {D' : DH} {s' : Shared} (c : Cx Hb n sc ρ D A s X env) (t : After s (XF env s.heap X) D' s') : After s X D' s' ∧ FrameS env ρ s'.heap ∧ FOff env D' X := by
  have hd : ∀ a, ∀ uu : a ∈ fAddrs env, D' a = none := fun a ha => by
    obtain ⟨o, ho⟩ := c.f.obj ha
    cases q : D' a with
    | none => rfl
    | some o' => have := t.j a o' q; rw [XF, if_pos ha, ho] at this; cases this
  refine ⟨⟨t.eq, t.d, t.x.le c.leX, fun a o h => ?_⟩, FrameS.of c.f fun a ha o ho => t.x a o (by rw [XF, if_pos ha]; exact ho), fun a ha => ⟨hd a ha, (c.o a ha).2⟩⟩
  have : a ∉ fAddrs env := fun q => nos (hd a q) h
  have z := t.j a o h
  rwa [XF, if_neg this] at z
theorem Cx.next {ρ' : List (Str × Value)} {D' : DH} {s' : Shared} (c : Cx Hb n sc ρ D A s X env) (t : After s X D' s') (f : FrameS env ρ' s'.heap) (o : FOff env D' X) : Cx Hb n sc ρ' D' A s' X env :=
  ⟨c.e, c.ok, t.d, t.x, t.j, c.b, f, o⟩

theorem Cx.expr {e : Expr} {Q : ∀ uu : Value, ∀ uu : DH, Prop} {R : ∀ uu : Value, ∀ uu : Shared, Prop} {E : ∀ uu : Value, ∀ uu : Shared, Prop} (c : Cx Hb n sc ρ D A s X env) (h : TE prog w Hb n sc e ρ D Q)
    (k : ∀ V D' s', ∀ uu : Q (er V) D', ∀ uu : After s X D' s', ∀ uu : Cx Hb n sc ρ D' A s' X env, R V s') : wpAny (model prog w) A (eval e env) R E s :=
  TE.seq h c.e c.okE c.d c.subXF c.dj c.base c.frameX fun V D' s' q t => let ⟨a, f, o⟩ := c.after t; k V D' s' q a (c.next a f o)
theorem Cx.test {e : Expr} {Q : ∀ uu : Bool, ∀ uu : DH, Prop} {R : ∀ uu : Bool, ∀ uu : Shared, Prop} {E : ∀ uu : Value, ∀ uu : Shared, Prop} (c : Cx Hb n sc ρ D A s X env) (h : TB prog w Hb n sc e ρ D Q)
    (k : ∀ b D' s', ∀ uu : Q b D', ∀ uu : After s X D' s', ∀ uu : Cx Hb n sc ρ D' A s' X env, R b s') : wpAny (model prog w) A (isTrue e env (eval e env)) R E s :=
  wpAny_mono (h A s _ env c.e c.okE c.d c.subXF c.dj c.base c.frameX) (fun b s' ⟨D', q, t⟩ => let ⟨a, f, o⟩ := c.after t; k b D' s' q a (c.next a f o)) fun uu uu x => x.elim
end

section
variable (prog : Program) (w : World) (Hb : Heap)
inductive SPost (s : Shared) (X : DH) (env : Env) (Q : ∀ uu : Flow, ∀ uu : List (Str × Value), ∀ uu : DH, Prop) (f : Flow) (s' : Shared) : Prop
  | mk : ∀ ρ' D', ∀ uu : Q (erF f) ρ' D', ∀ uu : After s X D' s', ∀ uu : FrameS env ρ' s'.heap, ∀ uu : FOff env D' X, SPost s X env Q f s'
-- a statement
noncomputable def T1 (n : Nat) (sc : Scope) (st : Stmt) (ρ : List (Str × Value)) (D : DH) (Q : ∀ uu : Flow, ∀ uu : List (Str × Value), ∀ uu : DH, Prop) : Prop :=
  ∀ (A : Around) (s : Shared) (X : DH) (env : Env), ∀ uu : Cx Hb n sc ρ D A s X env, wpAny (model prog w) A (exec st env) (SPost s X env Q) (fun uu uu => False) s
-- statements
noncomputable def TS (n : Nat) (sc : Scope) (sts : List Stmt) (ρ : List (Str × Value)) (D : DH) (Q : ∀ uu : Flow, ∀ uu : List (Str × Value), ∀ uu : DH, Prop) : Prop :=
  ∀ (A : Around) (s : Shared) (X : DH) (env : Env), ∀ uu : Cx Hb n sc ρ D A s X env, wpAny (model prog w) A (execs sts env) (SPost s X env Q) (fun uu uu => False) s
end

section
variable {prog : Program} {w : World} {Hb : Heap} {n : Nat} {sc : Scope} {ρ : List (Str × Value)} {D : DH} {Q : ∀ uu : Flow, ∀ uu : List (Str × Value), ∀ uu : DH, Prop}

theorem SPost.step {s s' : Shared} {X : DH} {env : Env} {D' : DH} {f : Flow} {s'' : Shared} (a : After s X D' s') (p : SPost s' X env Q f s'') : SPost s X env Q f s'' :=
  let ⟨ρ', D'', q, t, r, u⟩ := p; ⟨ρ', D'', q, a.trans t, r, u⟩

theorem TS_nil (h : Q .next ρ D) : TS prog w Hb n sc [] ρ D Q := fun uu uu uu uu c => wpAny_execs_nil ⟨ρ, D, h, .refl c.d c.x c.j, c.f, c.o⟩
noncomputable def SeqR (prog : Program) (w : World) (Hb : Heap) (n : Nat) (sc : Scope) (sts : List Stmt) (Q : ∀ uu : Flow, ∀ uu : List (Str × Value), ∀ uu : DH, Prop) (f : Flow) (ρ' : List (Str × Value)) (D' : DH) : Prop := match f with | .next => TS prog w Hb n sc sts ρ' D' Q | f => Q f ρ' D'
theorem TS_cons {st : Stmt} {sts : List Stmt} (h : T1 prog w Hb n sc st ρ D (SeqR prog w Hb n sc sts Q)) : TS prog w Hb n sc (st :: sts) ρ D Q := by
  intro A s X env c
  refine wpAny_execs_cons (wpAny_mono (h A s X env c) (fun f s' p => ?_) fun uu uu x => x)
  obtain ⟨ρ', D', q, a, f', o⟩ := p
  cases f with
  | next => exact wpAny_mono (q A s' X env (c.next a f' o)) (fun uu uu z => z.step a) fun uu uu x => x
  | brk => exact ⟨ρ', D', q, a, f', o⟩
  | cont => exact ⟨ρ', D', q, a, f', o⟩
  | ret v => exact ⟨ρ', D', q, a, f', o⟩

theorem TS.abs {st : List Stmt} (h : ∀ Q' : ∀ uu : Flow, ∀ uu : List (Str × Value), ∀ uu : DH, Prop, ∀ uu : (∀ f ρ' D', ∀ uu : Q f ρ' D', Q' f ρ' D'), TS prog w Hb n sc st ρ D Q') : TS prog w Hb n sc st ρ D Q := h Q fun uu uu uu x => x

-- fewer names
noncomputable def RLe (ρ ρ' : List (Str × Value)) : Prop := ∀ x v, ∀ uu : ρ.lookup x = some v, ρ'.lookup x = some v
theorem RLe.refl (ρ : List (Str × Value)) : RLe ρ ρ := fun uu uu h => h
theorem RLe.nil {ρ : List (Str × Value)} : RLe [] ρ := fun uu uu h => by cases h
theorem RLe.cons {x : Str} {v : Value} {ρ ρ' : List (Str × Value)} (h : ρ'.lookup x = some v) (k : RLe ρ ρ') : RLe ((x, v) :: ρ) ρ' := fun y u e => by
  rw [List.lookup_cons] at e
  split at e
  · rename_i q; rw [beq_iff_eq] at q; subst q; obtain rfl := (Option.some.inj e).symm; exact h
  · exact k y u e
theorem FrameH.le {ρ ρ' : List (Str × Value)} {env : Env} {h : Heap} (k : RLe ρ ρ') (f : FrameH env ρ' h) : FrameH env ρ h := let ⟨m, a, b⟩ := f; ⟨m, a, fun x v e => b x v (k x v e)⟩
theorem FrameS.le {ρ ρ' : List (Str × Value)} {env : Env} {h : Heap} (k : RLe ρ ρ') (f : FrameS env ρ' h) : FrameS env ρ h := ⟨f.fh.le k, f.cells, f.nd, f.has⟩
theorem Cx.le {ρ ρ' : List (Str × Value)} {D : DH} {A : Around} {s : Shared} {X : DH} {env : Env} (k : RLe ρ ρ') (c : Cx Hb n sc ρ' D A s X env) : Cx Hb n sc ρ D A s X env := ⟨c.e, c.ok, c.d, c.x, c.j, c.b, c.f.le k, c.o⟩
theorem Cx.leD {D' : DH} {A : Around} {s : Shared} {X : DH} {env : Env} (k : Le D D') (c : Cx Hb n sc ρ D' A s X env) : Cx Hb n sc ρ D A s X env :=
  ⟨c.e, c.ok, c.d.le k, c.x, c.j.le k, c.b, c.f, fun a ha => ⟨k.none (c.o a ha).1, (c.o a ha).2⟩⟩

-- a name is bound
theorem look_cons {β : Type} {x y : Str} {u v : β} {l : List (Str × β)} (e : ((x, u) :: l).lookup y = some v) : (y = x ∧ u = v) ∨ (y ≠ x ∧ l.lookup y = some v) := by
  rw [List.lookup_cons] at e
  by_cases h : y = x
  · subst h; rw [beq_self_eq_true] at e; exact .inl ⟨rfl, Option.some.inj e⟩
  · rw [beq_eq_false_iff_ne.mpr h] at e; exact .inr ⟨h, e⟩
theorem Cx.store {A : Around} {s : Shared} {X : DH} {env : Env} {x : Str} {V : Value} {R : ∀ uu : Unit, ∀ uu : Shared, Prop} {E : ∀ uu : Value, ∀ uu : Shared, Prop} (c : Cx Hb n sc ρ D A s X env)
    (hx : sc.names.lookup x = some .local ∨ sc.names.lookup x = some .cell) (k : ∀ s', ∀ uu : After s X D s', ∀ uu : Cx Hb n sc ((x, er V) :: ρ) D A s' X env, R () s') :
    wpAny (model prog w) A (storeName env x V) R E s := by
  have hkf : env.scope.kind = .function := by rw [c.e.se]; exact c.e.kf
  refine ex1_2 (c.f.fh) fun m hm q => ?_
  have nL : env.locals ∉ env.cells.map (·.2) := (List.nodup_cons.mp c.f.nd).1
  have kept : ∀ {h' : Heap} {a : Addr}, ∀ uu : Heap.SameBut a s.heap h', ∀ uu : a ∈ fAddrs env, Sub D h' ∧ Sub X h' := fun {h' a} hs ha =>
    ⟨fun b o e => (hs.2 b (nosA ((c.o _ ha).1) e)).trans (c.d b o e), fun b o e => (hs.2 b (nosA ((c.o _ ha).2) e)).trans (c.x b o e)⟩
  rcases hx with hx | hx
  · have hk : env.kindOf x = some .local := by show env.scope.names.lookup x = _; rw [c.e.se]; exact hx
    refine wpAny_storeName_local hk hm (fun h' hn hs => ?_) (by rw [hkf]; rfl)
    obtain ⟨kd, kx⟩ := kept hs (.head _)
    refine k _ ⟨⟨h', _, rfl⟩, kd, kx, c.j⟩ ⟨c.e, c.ok, kd, kx, c.j, c.b, ⟨⟨_, hn, fun y v e => ?_⟩, fun p hp => ?_, c.f.nd, c.f.has⟩, c.o⟩
    · rcases look_cons e with ⟨rfl, rfl⟩ | ⟨hy, e⟩
      · exact .inl ⟨hk, V, if_pos rfl, rfl⟩
      · rcases q y v e with ⟨k1, U, e1, r⟩ | ⟨k1, cc, U, e1, e2, r⟩
        · exact .inl ⟨k1, U, (if_neg hy).trans e1, r⟩
        · refine .inr ⟨k1, cc, U, e1, e2.sameBut hs (fun z => nL ?_), r⟩
          rw [← z]; exact List.mem_map_of_mem (mem_of_lookup e1)
    · obtain ⟨v, hv⟩ := c.f.cells p hp
      exact ⟨v, hv.sameBut hs fun z => nL (z ▸ List.mem_map_of_mem hp)⟩
  · have hk : env.kindOf x = some .cell := by show env.scope.names.lookup x = _; rw [c.e.se]; exact hx
    obtain ⟨cc, hc⟩ := c.f.has x hk
    have hmem := mem_of_lookup hc
    obtain ⟨v₀, hv₀⟩ := c.f.cells _ hmem
    refine wpAny_storeName_cell hkf hk hc hv₀ fun h' hv hs => ?_
    have hin : cc ∈ env.cells.map (·.2) := List.mem_map_of_mem (f := Prod.snd) hmem
    obtain ⟨kd, kx⟩ := kept hs (.tail _ hin)
    refine k _ ⟨⟨h', s.toks, rfl⟩, kd, kx, c.j⟩ ⟨c.e, c.ok, kd, kx, c.j, c.b, ⟨⟨m, hm.sameBut hs (fun z => nL (z ▸ hin)), fun y v e => ?_⟩, fun p hp => ?_, c.f.nd, c.f.has⟩, c.o⟩
    · rcases look_cons e with ⟨rfl, rfl⟩ | ⟨hy, e⟩
      · exact .inr ⟨.inl hk, cc, V, hc, hv, rfl⟩
      · rcases q y v e with ⟨k1, U, e1, r⟩ | ⟨k1, c2, U, e1, e2, r⟩
        · exact .inl ⟨k1, U, e1, r⟩
        · refine .inr ⟨k1, c2, U, e1, e2.sameBut hs (fun z => ?_), r⟩
          obtain rfl := z.symm
          have ndc := (List.nodup_cons.mp c.f.nd).2
          have m2 := mem_of_lookup e1
          exact hy (congrArg Prod.fst (inj_nodup _ _ _ ndc m2 hmem rfl))
    · by_cases hp2 : p.2 = cc
      · exact ⟨_, hp2 ▸ hv⟩
      · obtain ⟨v, hv⟩ := c.f.cells p hp
        exact ⟨v, hv.sameBut hs hp2⟩

noncomputable def AsgR (x : Str) (ρ : List (Str × Value)) (Q : ∀ uu : Flow, ∀ uu : List (Str × Value), ∀ uu : DH, Prop) (v : Value) (D' : DH) : Prop := Q .next ((x, v) :: ρ) D'
theorem T1_assign {x : Str} {value : Expr} {p pos : Pos} (hx : sc.names.lookup x = some .local ∨ sc.names.lookup x = some .cell)
    (h : TE prog w Hb n sc value ρ D (AsgR x ρ Q)) (hs : ∀ env, swapsWith value (some (.Name x p)) pos.line env = pure false := by intro _; rfl) :
    T1 prog w Hb n sc (.Assign [.Name x p] value pos) ρ D Q := by
  intro A s X env c
  refine wpAny_Assign_Name (c.expr h fun V D' s' q a c' => ?_) (hs env)
  exact c'.store hx fun s'' a' c'' => ⟨_, D', q, a.trans a', c''.f, c''.o⟩
noncomputable def ExR (ρ : List (Str × Value)) (Q : ∀ uu : Flow, ∀ uu : List (Str × Value), ∀ uu : DH, Prop) (_a : Value) (D' : DH) : Prop := Q .next ρ D'
theorem T1_expr {e : Expr} {pos : Pos} (h : TE prog w Hb n sc e ρ D (ExR ρ Q)) (hi : sc.kind = .function := by rfl) (hs : ∀ env, swapsWith e none pos.line env = pure false := by intro _; rfl) : T1 prog w Hb n sc (.Expr e pos) ρ D Q := by
  intro A s X env c
  have hint : interactive env = false := by unfold interactive; rw [c.e.se, hi]; rfl
  refine wpAny_Expr_any (c.expr h fun V D' s' q a c' => ?_) hint (hs env)
  exact ⟨ρ, D', q, a, c'.f, c'.o⟩
structure IfR (prog : Program) (w : World) (Hb : Heap) (n : Nat) (sc : Scope) (b o : List Stmt) (ρ : List (Str × Value)) (Q : ∀ uu : Flow, ∀ uu : List (Str × Value), ∀ uu : DH, Prop) (v : Bool) (D' : DH) : Prop where mk ::
  h1 : (∀ uu : v = true, TS prog w Hb n sc b ρ D' Q)
  h2 : (∀ uu : v = false, TS prog w Hb n sc o ρ D' Q)
theorem T1_if {t : Expr} {b o : List Stmt} {pos : Pos} (h : TB prog w Hb n sc t ρ D (IfR prog w Hb n sc b o ρ Q)) : T1 prog w Hb n sc (.If t b o pos) ρ D Q := by
  intro A s X env c
  refine wpAny_If (c.test h fun v D' s' q a c' => ?_)
  cases v
  · exact wpAny_mono (q.2 rfl A s' X env c') (fun uu uu z => z.step a) fun uu uu x => x
  · exact wpAny_mono (q.1 rfl A s' X env c') (fun uu uu z => z.step a) fun uu uu x => x
noncomputable def RetR (ρ : List (Str × Value)) (Q : ∀ uu : Flow, ∀ uu : List (Str × Value), ∀ uu : DH, Prop) (v : Value) (D' : DH) : Prop := Q (.ret v) ρ D'
theorem T1_ret {e : Expr} {pos : Pos} (h : TE prog w Hb n sc e ρ D (RetR ρ Q)) : T1 prog w Hb n sc (.Return (some e) pos) ρ D Q := by
  intro A s X env c
  refine wpAny_Return_some (c.expr h fun V D' s' q a c' => ?_)
  exact ⟨ρ, D', q, a, c'.f, c'.o⟩
inductive AugR (x : Str) (i : Int) (ρ : List (Str × Value)) (Q : ∀ uu : Flow, ∀ uu : List (Str × Value), ∀ uu : DH, Prop) (v : Value) (D' : DH) : Prop
  | mk : ∀ k, ∀ uu : v = .int k 0, ∀ uu : Q .next ((x, .int (i + k) 0) :: ρ) D', AugR x i ρ Q v D'
-- x += y on ints
theorem T1_aug {x : Str} {e : Expr} {p pos : Pos} {i : Int} (hx : sc.names.lookup x = some .local ∨ sc.names.lookup x = some .cell) (hv : ρ.lookup x = some (.int i 0))
    (h : TE prog w Hb n sc e ρ D (AugR x i ρ Q)) : T1 prog w Hb n sc (.AugAssign (.Name x p) .Add e pos) ρ D Q := by
  intro A s X env c
  have hk : env.scope.kind = .function := by rw [c.e.se]; exact c.e.kf
  refine ex1_2 (c.f.fh) fun m hm q => ?_
  have go : ∀ {V : Value}, ∀ uu : er V = .int i 0, wpAny (model prog w) A (eval e env) (fun v s₂ => wpAny (model prog w) A (inplaceOp .Add V v) (fun r s₃ => wpAny (model prog w) A (storeName env x r) (fun uu => SPost s X env Q .next) (fun uu uu => False) s₃) (fun uu uu => False) s₂) (fun uu uu => False) s := by
    intro V hV
    obtain ⟨t, rfl⟩ := er_int hV
    refine c.expr h fun U D' s' hq1 a c' => ?_
    obtain ⟨k, hk, q⟩ := hq1
    obtain ⟨u, rfl⟩ := er_int hk
    refine wpAny_iadd_int ?_
    have c2 : Cx Hb n sc ρ D' A { s' with toks := s'.toks + 1 } X env := ⟨c'.e, c'.ok, c'.d, c'.x, c'.j, c'.b, c'.f, c'.o⟩
    refine c2.store hx fun s'' a' c'' => ⟨_, D', q, (a.trans (.tok c'.d c'.x c'.j _)).trans a', c''.f, c''.o⟩
  rcases q x _ hv with ⟨k, V, e1, r⟩ | ⟨k, cc, V, e1, e2, r⟩
  · exact wpAny_AugAssign_Name (wpAny_loadName_local hk k hm e1 (go r))
  · rcases k with k | k
    · exact wpAny_AugAssign_Name (wpAny_loadName_cell hk k e1 e2 (go r))
    · exfalso
      have : env.kindOf x = sc.names.lookup x := by show env.scope.names.lookup x = _; rw [c.e.se]
      rw [this] at k
      rcases hx with q | q <;> rw [q] at k <;> cases k
end
end

section
-- a def's object
inductive FnAt (g : Option Obj) (code : ∀ uu : Value, ∀ uu : Str, Prop) (scope : Scope) (body : List Stmt) (ns : List Str) : Prop
  | mk : ∀ oc od osl name qual params kV doc pm an cdv ct, ∀ uu : g = some ⟨oc, od, .func (fnOf name qual params body scope .none kV doc pm an cdv ct), osl⟩, ∀ uu : code cdv qual,
    (∀ Vs : List Value, ∀ uu : Vs.length = ns.length, bindArgs (fnOf name qual params body scope .none kV doc pm an cdv ct) ⟨Vs, []⟩ = pure (ns.zip Vs)) → FnAt g code scope body ns
-- a def of the text, as the heap behind the top holds it
structure Fn (Hb : Heap) (f : Addr) (scope : Scope) (body : List Stmt) (ns : List Str) : Prop where
  here : FnAt (Hb.get? f) Hb.CodeRec scope body ns
  nd : ns.Nodup
  kind : (ns.all fun x => scope.names.lookup x == some .local || scope.names.lookup x == some .cell) = true
  cn : ((cellsFrom 0 scope.names []).map (·.1)).Nodup
  kf : scope.kind = .function
  co : scope.isCoroutine = false
  gen : scope.isGenerator = false
  nl : Hb.NoLimit

section
theorem bindL_skip {kind : ∀ uu : Str, Option NameKind} {x : Str} : ∀ (bs : List (Str × Value)) (m : ∀ uu : Str, Option Value), ∀ uu : (∀ p, ∀ uu : p ∈ bs, p.1 ≠ x), bindL kind bs m x = m x
  | [], _, _ => rfl
  | (y, v) :: r, m, h => by
    have hy : x ≠ y := fun q => h (y, v) (.head _) q.symm
    rw [bindL, bindL_skip r _ (fun p hp => h p (.tail _ hp))]
    split
    · simp [hy]
    · rfl
theorem bindC_skip {kind : ∀ uu : Str, Option NameKind} {x : Str} : ∀ (bs : List (Str × Value)) (m : ∀ uu : Str, Option Value), ∀ uu : (∀ p, ∀ uu : p ∈ bs, p.1 ≠ x), bindC kind bs m x = m x
  | [], _, _ => rfl
  | (y, v) :: r, m, h => by
    have hy : x ≠ y := fun q => h (y, v) (.head _) q.symm
    rw [bindC, bindC_skip r _ (fun p hp => h p (.tail _ hp))]
    split
    · rfl
    · simp [hy]
theorem bindL_at {kind : ∀ uu : Str, Option NameKind} {x : Str} {v : Value} (hk : kind x = some .local) : ∀ (bs : List (Str × Value)) (m : ∀ uu : Str, Option Value), ∀ uu : (bs.map (·.1)).Nodup, ∀ uu : (x, v) ∈ bs, bindL kind bs m x = some v
  | (y, u) :: r, m, nd, h => by
    rw [List.map_cons, List.nodup_cons] at nd
    rcases List.mem_cons.mp h with e | h
    · cases e
      rw [bindL, bindL_skip r _ (fun p hp q => nd.1 (List.mem_map.mpr ⟨p, hp, q⟩)), if_pos hk]; simp
    · rw [bindL]; exact bindL_at hk r _ nd.2 h
theorem bindC_at {kind : ∀ uu : Str, Option NameKind} {x : Str} {v : Value} (hk : kind x ≠ some .local) : ∀ (bs : List (Str × Value)) (m : ∀ uu : Str, Option Value), ∀ uu : (bs.map (·.1)).Nodup, ∀ uu : (x, v) ∈ bs, bindC kind bs m x = some v
  | (y, u) :: r, m, nd, h => by
    rw [List.map_cons, List.nodup_cons] at nd
    rcases List.mem_cons.mp h with e | h
    · cases e
      rw [bindC, bindC_skip r _ (fun p hp q => nd.1 (List.mem_map.mpr ⟨p, hp, q⟩)), if_neg hk]; simp
    · rw [bindC]; exact bindC_at hk r _ nd.2 h
theorem zip_names : ∀ (ns : List Str) (vs : List Value), ∀ uu : ns.length = vs.length, (ns.zip vs).map (·.1) = ns
  | [], [], _ => rfl
  | a :: r, b :: q, h => by simp only [List.zip_cons_cons, List.map_cons]; rw [zip_names r q (by simpa using h)]
  | [], _ :: _, h => by simp at h
  | _ :: _, [], h => by simp at h
theorem zip_er : ∀ (ns : List Str) (Vs : List Value) (x : Str) (v : Value), ∀ uu : (ns.zip (Vs.map er)).lookup x = some v, ∃ V, (x, V) ∈ ns.zip Vs ∧ er V = v
  | [], _, _, _, h => by simp at h
  | _ :: _, [], _, _, h => by simp at h
  | a :: r, b :: q, x, v, h => by
    simp only [List.map_cons, List.zip_cons_cons, List.lookup_cons] at h ⊢
    split at h
    · rename_i e; rw [beq_iff_eq] at e; subst e; obtain rfl := (Option.some.inj h).symm; exact ⟨b, .head _, rfl⟩
    · obtain ⟨V, h1, h2⟩ := zip_er r q x v h; exact ⟨V, .tail _ h1, h2⟩
end

section
variable {prog : Program} {w : World} {Hb : Heap} {n : Nat} {ρ : List (Str × Value)} {D : DH}

noncomputable def DefR (Q : ∀ uu : Value, ∀ uu : DH, Prop) (fl : Flow) (_ρ : List (Str × Value)) (D' : DH) : Prop := Q (match fl with | .ret v => v | _ => .none) D'
theorem call_open {f : Addr} {scope : Scope} {body : List Stmt} {ns : List Str} {args : List Value} (F : Fn Hb f scope body ns) (hl : args.length = ns.length) {A : Around} {s : Shared} {X : DH} {Vs : List Value} {R : ∀ uu : Result, ∀ uu : Shared, Prop}
    (ok : Ok Hb (n + 1) A X) (hd : Sub D s.heap) (hx : Sub X s.heap) (hj : Dj D X) (hb : BaseIn Hb X) (hv : Vs.map er = args)
    (h : ∀ (env : Env) (s₁ : Shared), ∀ uu : After s X D s₁, ∀ uu : (∀ l, ∀ uu : A.frames = some l, (A.deeper env).frames = some (env :: l)), ∀ uu : Cx Hb n scope (ns.zip args) D (A.deeper env) s₁ X env,
      wpAny (model prog w) (A.deeper env) (execs body env) (fun fl s' => R (.ok (.ret (match fl with | .ret v => v | _ => .none))) s') (fun e s' => wpAny (model prog w) (A.deeper env) (leaving env e) (fun uu s'' => R (.error e) s'') (fun e' s'' => R (.error e') s'') s') s₁) :
    codeAny (model prog w) A (.call (.ref f) ⟨Vs, []⟩) R s := by
  obtain ⟨oc, od, osl, name, qual, params, kV, doc, pm, an, cdv, ct, hf, hcd, hbind⟩ := F.here
  subst hv
  have hlen : Vs.length = ns.length := by simpa using hl
  have keep : ∀ b o, ∀ uu : Hb.get? b = some o, s.heap.get? b = some o := fun b o e => hx _ _ (hb _ _ e)
  have hnames : (ns.zip Vs).map (·.1) = ns := zip_names _ _ hlen.symm
  have kinds : ∀ x, ∀ uu : x ∈ ns.zip Vs, scope.names.lookup x.1 = some .local ∨ scope.names.lookup x.1 = some .cell := fun x hx' => by
    have hm : x.1 ∈ ns := hnames ▸ List.mem_map_of_mem hx'
    have := List.all_eq_true.mp F.kind _ hm
    simpa using this
  refine codeAny_call_cells (fd := fnOf name qual params body scope .none kV doc pm an cdv ct) (body := body) (by have := ok.dep; show A.depth < 1000; lia) (keep _ _ hf) rfl (F.nl.keeps keep) (hcd.keeps keep) rfl (hbind Vs hlen) rfl
    (fun x hx' => ?_) (fun s₁ ic => ?_) F.co F.gen F.kf
  · rcases kinds x hx' with q | q
    · exact .inl q
    · exact .inr ⟨q, cellsFrom_some _ _ _ (.inl q)⟩
  · refine ex2_1 (ic.toInCall.same) fun h₁ tk eR2 => ?_
    obtain rfl := eR2
    have ndz : ((ns.zip Vs).map (·.1)).Nodup := by rw [hnames]; exact F.nd
    let fd := fnOf name qual params body scope .none kV doc pm an cdv ct
    have ndc : ((cellsFrom (s.heap.objs.size + 1) scope.names []).map (·.1)).Nodup := cellsFrom_names scope.names 0 (s.heap.objs.size + 1) [] [] rfl ▸ F.cn
    have look : ∀ {x : Str} {c : Addr}, ∀ uu : (x, c) ∈ cellsFrom (s.heap.objs.size + 1) scope.names [], (cellsFrom (s.heap.objs.size + 1) scope.names []).lookup x = some c := fun h => lookup_of_mem_nodup ndc h
    have up : ∀ a, ∀ uu : a ∈ fAddrs (callEnvC fd s.heap.objs.size f), s.heap.objs.size ≤ a := fun a ha => by
      rcases List.mem_cons.mp ha with rfl | ha
      · exact Nat.le_refl _
      · refine ex1_2 (List.mem_map.mp ha) fun p hp eR2 => ?_
        obtain rfl := eR2
        exact Nat.le_of_lt (ic.above p.1 p.2 hp)
    have off : ∀ {Z : DH}, ∀ uu : Sub Z s.heap, ∀ a, ∀ uu : s.heap.objs.size ≤ a, Z a = none := fun {Z} hz a ha => by
      cases q : Z a with
      | none => rfl
      | some o => exact absurd (Heap.lt_size (hz a o q)) (Nat.not_lt.mpr ha)
    have kd : Sub D h₁ := fun a o e => ic.toInCall.keep a o (hd a o e)
    have kx : Sub X h₁ := fun a o e => ic.toInCall.keep a o (hx a o e)
    have c : Cx Hb n scope (ns.zip (Vs.map er)) D (A.deeper (callEnvC fd s.heap.objs.size f)) { s with heap := h₁, toks := tk } X (callEnvC fd s.heap.objs.size f) := by
      refine ⟨⟨rfl, F.kf, rfl, rfl, ?_⟩, ⟨ok.hh, ?_, ?_, ?_, rfl⟩, kd, kx, hj, hb, ⟨⟨_, ic.toInCall.ns, fun x v e => ?_⟩, fun p hp => ⟨_, ic.cell p.1 p.2 (look hp)⟩, ?_, fun x e => ?_⟩, fun a ha => ⟨off hd a (up a ha), off hx a (up a ha)⟩⟩
      · cases q : Hb.get? s.heap.objs.size with
        | none => exact q
        | some o => exact absurd (Heap.lt_size (keep _ _ q)) (Nat.lt_irrefl _)
      · have := ok.dep; show A.depth + 1 + 3 * n ≤ 990; lia
      · have := ok.uni; show A.units + 3 + 10 * n ≤ 9000; lia
      · refine ex1_2 (ok.frs) fun l e r => ?_
        exact ⟨l, by show A.frames.map _ = _; rw [e]; rfl, r⟩
      · refine ex1_2 (zip_er ns Vs x v e) fun V hm hV => ?_
        rcases kinds _ hm with q | q
        · exact .inl ⟨q, V, bindL_at q _ _ ndz hm, hV⟩
        · obtain ⟨cc, hc⟩ := Option.isSome_iff_exists.mp (cellsFrom_some scope.names (s.heap.objs.size + 1) [] (.inl q))
          refine .inr ⟨.inl q, cc, V, hc, ?_, hV⟩
          have z := ic.cell x cc hc
          have hk : (callEnvC fd s.heap.objs.size f).kindOf x ≠ some .local := by show scope.names.lookup x ≠ _; rw [q]; decide
          rwa [bindC_at hk _ _ ndz hm] at z
      · refine List.nodup_cons.mpr ⟨fun hm => ?_, ?_⟩
        · refine ex1_2 (List.mem_map.mp hm) fun p hp e => ?_
          exact absurd (ic.above p.1 p.2 hp) (by rw [e]; exact Nat.lt_irrefl _)
        · exact List.pairwise_map.mpr ic.apart
      · exact Option.isSome_iff_exists.mp (cellsFrom_some scope.names (s.heap.objs.size + 1) [] (.inl e))
    exact h _ _ ⟨⟨h₁, tk, rfl⟩, kd, kx, hj⟩ (fun l e => by show A.frames.map _ = _; rw [e]; rfl) c
theorem TC_def {f : Addr} {scope : Scope} {body : List Stmt} {ns : List Str} {args : List Value} {Q : ∀ uu : Value, ∀ uu : DH, Prop} (F : Fn Hb f scope body ns) (hl : args.length = ns.length)
    (h : TS prog w Hb n scope body (ns.zip args) D (DefR Q)) : TC prog w Hb (n + 1) (.ref f) args D Q := by
  intro A s X Vs ok hd hx hj hb hv
  refine call_open F hl ok hd hx hj hb hv fun env s₁ t uu c => ?_
  refine wpAny_mono (h _ _ X _ c) (fun fl s' hq1 => ?_) fun uu uu x => x.elim
  obtain ⟨ρ', D', q, t', _, _⟩ := hq1
  have t' := t.trans t'
  cases fl <;> exact ⟨_, D', rfl, q, t'⟩

-- what a name of the text's top holds
inductive GV (Hb : Heap) (x : Str) (v : Value) : Prop
  | mk : ∀ mg, ∀ uu : Hb.Ns mainGlobals mg, ∀ uu : (mg x = some v ∨ (mg x = none ∧ ∃ mb, Hb.Ns builtinsNs mb ∧ mb x = some v)), GV Hb x v
-- who keeps the arguments of a call
inductive Kp (prog : Program) (w : World) (Hb : Heap) (f : Value) : Prop
  | mk : ∀ k, ∀ uu : (k = Keeper.frame ∨ k = Keeper.machine ∨ k = Keeper.boundFrame), ∀ uu : Looks (model prog w) Hb (keeperOf f) k, Kp prog w Hb f
theorem kp_builtin {id : String} : Kp prog w Hb (.builtin id) := ⟨.machine, .inr (.inl rfl), Looks.of_pure rfl⟩
theorem kp_type {id : String} : Kp prog w Hb (.type id) := ⟨.machine, .inr (.inl rfl), Looks.of_pure rfl⟩

theorem TE_gname {sc : Scope} {x : Str} {pos : Pos} {v : Value} {Q : ∀ uu : Value, ∀ uu : DH, Prop} (hx : sc.names.lookup x = some .globalImplicit) (g : GV Hb x v) (h : Q (er v) D)
    (hd : (x == ("__debug__" : Str)) = false := by decide) : TE prog w Hb n sc (.Name x pos) ρ D Q := by
  intro A s X env a b c d j bi fx
  have hk : env.scope.kind = .function := by rw [a.se]; exact a.kf
  have hx' : env.kindOf x = some .globalImplicit := by show env.scope.names.lookup x = _; rw [a.se]; exact hx
  have keep : ∀ b o, ∀ uu : Hb.get? b = some o, s.heap.get? b = some o := fun b o e => d _ _ (bi _ _ e)
  obtain ⟨mg, hg, q⟩ := g
  have hg' : s.heap.Ns env.globals mg := by rw [a.gl]; exact hg.keeps keep
  rcases q with q | ⟨q, mb, hb, q'⟩
  · exact Name_function_global hk hx' (loadGlobal_global hg' q ⟨D, h, .refl c d j⟩) hd
  · exact Name_function_global hk hx' (loadGlobal_builtin hg' q (by rw [a.bi]; exact hb.keeps keep) q' ⟨D, h, .refl c d j⟩) hd

-- a value that is no number and no text: it has no token
noncomputable def Plain (f : Value) : Prop := ∀ V, ∀ uu : er V = f, V = f
theorem plain_ref {a : Addr} : Plain (.ref a) := fun uu h => er_ref h
theorem plain_builtin {a : String} : Plain (.builtin a) := fun uu h => er_builtin h
theorem plain_type {a : String} : Plain (.type a) := fun uu h => er_type h

theorem callWith_go {A : Around} {s : Shared} {X : DH} {env : Env} {sc : Scope} {f : Value} {first : List Value} {args : List Expr} {pos : Pos} {R : ∀ uu : Value, ∀ uu : Shared, Prop} {E : ∀ uu : Value, ∀ uu : Shared, Prop}
    {Q : ∀ uu : List Value, ∀ uu : DH, Prop} (kp : Kp prog w Hb f) (a : EnvOk Hb sc env) (b : Ok Hb n A X) (c : Sub D s.heap) (d : Sub X s.heap) (j : Dj D X) (bi : BaseIn Hb X) (g : FrameX env ρ X)
    (hp : ((backTo pos (starEach args env)).any (·.1)) = false) (h : TEs prog w Hb n sc args ρ D Q)
    (k : ∀ Vs D' s', ∀ uu : Q (Vs.map er) D', ∀ uu : After s X D' s', wpAny (model prog w) A (call f (first ++ Vs)) R E s') :
    wpAny (model prog w) A (callWith pos f first (backTo pos (starEach args env)) []) R E s := by
  refine callWith_of (P := fun h => ∀ b o, ∀ uu : Hb.get? b = some o, h.get? b = some o) (by rw [hp]; rfl) (fun hh P => ?_) ?_
  · obtain ⟨kk, h1, h2⟩ := kp
    exact ⟨kk, h1, h2.keeps P⟩
  · have body := h A s X env pos a b c d j bi g
    have fin : ∀ Vs s', ∀ uu : (Post (Q (Vs.map er)) s X s'), (∀ b o, ∀ uu : Hb.get? b = some o, s'.heap.get? b = some o) ∧ wpAny (model prog w) A (call f (first ++ Vs) []) R E s' := fun Vs s' ⟨D', q, t⟩ =>
      ⟨fun b o e => t.x _ _ (bi _ _ e), k Vs D' s' q t⟩
    generalize hb : backTo pos (starEach args env) = bs at hp body
    cases bs with
    | nil => exact fun Γ p hΓ => evalArgs_nil3 (fin [] s (body Γ p hΓ)) Γ p hΓ
    | cons y ys =>
      obtain ⟨y1, y2⟩ := y
      have hy : y1 = false := by
        rw [List.any_cons, Bool.or_eq_false_iff] at hp
        exact hp.1
      subst hy
      exact evalArgs_plain (wpAny_mono body (fun Vs s' z => fin Vs s' z) fun uu uu x => x.elim)

noncomputable abbrev CallR (prog : Program) (w : World) (Hb : Heap) (n : Nat) (f : Value) (Q : ∀ uu : Value, ∀ uu : DH, Prop) (vs : List Value) (D₂ : DH) : Prop := TC prog w Hb n f vs D₂ Q
structure CalleeR (prog : Program) (w : World) (Hb : Heap) (n : Nat) (sc : Scope) (args : List Expr) (ρ : List (Str × Value)) (Q : ∀ uu : Value, ∀ uu : DH, Prop) (f : Value) (D₁ : DH) : Prop where mk ::
  h1 : Plain f
  h2 : Kp prog w Hb f
  h3 : TEs prog w Hb n sc args ρ D₁ (CallR prog w Hb n f Q)
theorem TE_call {sc : Scope} {fe : Expr} {args : List Expr} {pos : Pos} {Q : ∀ uu : Value, ∀ uu : DH, Prop}
    (h : TE prog w Hb n sc fe ρ D (CalleeR prog w Hb n sc args ρ Q))
    (hc : ∀ env, eval (.Call fe args [] pos) env = (do callWith pos (← eval fe env) [] (backTo pos (starEach args env)) (backToKw pos (keywordEach [] env))) := by intro _; rfl)
    (hp : ∀ env, ((backTo pos (starEach args env)).any (·.1)) = false := by intro _; rfl) :
    TE prog w Hb n sc (.Call fe args [] pos) ρ D Q := by
  intro A s X env a b c d j bi g
  rw [hc]
  refine wpAny_bind (TE.seq h a b c d j bi g fun V D₁ s₁ hq2 t => ?_)
  obtain ⟨pl, kp, q⟩ := hq2
  have e := pl V rfl
  rw [← e] at kp
  refine callWith_go kp a b t.d t.x t.j bi g (hp env) q fun Vs D₂ s₂ q' t' => ?_
  have z := q' A s₂ X Vs b t'.d t'.x t'.j bi rfl
  rw [← e] at z
  refine wpAny_call (codeAny_mono z fun r s' p => ?_)
  obtain ⟨V', D', hr, k, z'⟩ := p
  subst hr
  exact ⟨D', k, (t.trans t').trans z'⟩
end
end

section
noncomputable abbrev lstO (vs : List Value) (n : Nat) : Obj := { cls := .type "list", data := .seq vs.toArray n }
noncomputable abbrev tupO (vs : List Value) (n : Nat) : Obj := { cls := .type "tuple", data := .seq vs.toArray n }
-- D holds a list there, of these values
inductive IsL (D : DH) (a : Addr) (us : List Value) : Prop
  | mk : ∀ vs n, ∀ uu : D a = some (lstO vs n), ∀ uu : vs.map er = us, IsL D a us
theorem IsL.off {D : DH} {f b : Addr} {us : List Value} (h : IsL D b us) (hf : D f = none) : f ≠ b := by
  obtain ⟨vs, m, z, _⟩ := h
  exact (nosA hf z).symm
inductive IsT (D : DH) (a : Addr) (us : List Value) : Prop
  | mk : ∀ vs n, ∀ uu : D a = some (tupO vs n), ∀ uu : vs.map er = us, IsT D a us
noncomputable def IsS (D : DH) (a : Addr) (us : List Value) : Prop := IsL D a us ∨ IsT D a us
inductive Flds : ∀ uu : List DictEntry, ∀ uu : List (Str × Value), Prop
  | nil : Flds [] []
  | cons {h : Int} {x : Str} {t : Tok} {V : Value} {es : List DictEntry} {fs : List (Str × Value)} : ∀ uu : Flds es fs, Flds (⟨h, .str x t, V⟩ :: es) ((x, er V) :: fs)
-- an object of a class of the text: its object, its dict's place, its attributes
inductive IsI (D : DH) (a C d : Addr) (fs : List (Str × Value)) : Prop
  | mk : ∀ uu : D a = some (instObj C d), ∀ es n, ∀ uu : D d = some (dictOf es n), ∀ uu : Flds es fs, IsI D a C d fs
inductive Inst (D : DH) (a C : Addr) (fs : List (Str × Value)) : Prop
  | mk : ∀ d, ∀ uu : IsI D a C d fs, Inst D a C fs

theorem IsL.le {D D' : DH} {a : Addr} {us : List Value} (k : Le D D') (h : IsL D a us) : IsL D' a us := let ⟨vs, n, e, r⟩ := h; ⟨vs, n, k _ _ e, r⟩
theorem IsT.le {D D' : DH} {a : Addr} {us : List Value} (k : Le D D') (h : IsT D a us) : IsT D' a us := let ⟨vs, n, e, r⟩ := h; ⟨vs, n, k _ _ e, r⟩
theorem IsI.le {D D' : DH} {a C d : Addr} {fs : List (Str × Value)} (k : Le D D') (h : IsI D a C d fs) : IsI D' a C d fs := let ⟨e, es, n, e', r⟩ := h; ⟨k _ _ e, es, n, k _ _ e', r⟩
theorem Inst.le {D D' : DH} {a C : Addr} {fs : List (Str × Value)} (k : Le D D') (h : Inst D a C fs) : Inst D' a C fs := let ⟨d, e⟩ := h; ⟨d, e.le k⟩

set_option tactic.hygienic true in
theorem Flds.get {es : List DictEntry} {fs : List (Str × Value)} (h : Flds es fs) {x : Str} {u : Value} (e : fs.lookup x = some u) : ∃ V, getL x es = some (some V) ∧ er V = u := by
  induction h with
  | nil => cases e
  | cons k ih =>
    rename_i hh y t V es fs
    rw [List.lookup_cons] at e
    by_cases q : x = y
    · subst q
      simp only [beq_self_eq_true] at e
      obtain rfl := (Option.some.inj e).symm
      exact ⟨V, by simp [getL, Value.isStr], rfl⟩
    · have hb : (x == y) = false := by simpa using q
      simp only [hb] at e
      refine ex1_2 (ih e) fun W h1 h2 => ?_
      refine ⟨W, ?_, h2⟩
      have hn : Value.isStr (.str y t) x = false := by simp [Value.isStr]; exact fun z => q z.symm
      unfold getL at h1 ⊢
      simp only [List.find?_cons, hn]
      split at h1
      · rename_i e' he; rw [he]; exact h1
      · split at h1 <;> cases h1
set_option tactic.hygienic true in
theorem Flds.none {es : List DictEntry} {fs : List (Str × Value)} (h : Flds es fs) {x : Str} (e : fs.lookup x = Option.none) : getL x es = some Option.none ∧ (es.any (·.key.isStr x)) = false := by
  induction h with
  | nil => exact ⟨rfl, rfl⟩
  | cons k ih =>
    rename_i hh y t V es fs
    rw [List.lookup_cons] at e
    by_cases q : x = y
    · subst q
      simp only [beq_self_eq_true] at e
      cases e
    · have hb : (x == y) = false := by simpa using q
      simp only [hb] at e
      obtain ⟨h1, h2⟩ := ih e
      have hn : Value.isStr (.str y t) x = false := by simp [Value.isStr]; exact fun z => q z.symm
      refine ⟨?_, by simp [List.any_cons, hn, h2]⟩
      unfold getL at h1 ⊢
      simp only [List.find?_cons, hn]
      split at h1
      · cases h1
      · split at h1
        · cases h1
        · rename_i hf hr
          rw [hf]
          have : (List.any (⟨hh, .str y t, V⟩ :: es) fun x => x.refKey) = false := by
            rw [List.any_cons]; simp only [Bool.not_eq_true] at hr; rw [hr]; rfl
          simp only [this, Bool.false_eq_true, if_false]
theorem Flds.len {es : List DictEntry} {fs : List (Str × Value)} (h : Flds es fs) : es.length = fs.length := by
  induction h with
  | nil => rfl
  | cons _ ih => simp [ih]
set_option tactic.hygienic true in
theorem Flds.put {es : List DictEntry} {fs : List (Str × Value)} (h : Flds es fs) {x : Str} {V : Value} {hh : Int} {t : Tok} (e : fs.lookup x = Option.none) : Flds (putL x hh (.str x t) V es) (fs ++ [(x, er V)]) := by
  induction h with
  | nil => exact .cons .nil
  | cons k ih =>
    rename_i h2 y t2 V2 es fs
    rw [List.lookup_cons] at e
    by_cases q : x = y
    · subst q
      simp only [beq_self_eq_true] at e
      cases e
    · have hb : (x == y) = false := by simpa using q
      simp only [hb] at e
      have hn : Value.isStr (.str y t2) x = false := by simp [Value.isStr]; exact fun z => q z.symm
      unfold putL
      simp only [hn, Bool.false_eq_true, if_false]
      exact .cons (ih e)

theorem handedIn_er {V : Value} : handedIn (er V) = handedIn V := by cases V <;> rfl

section
variable {prog : Program} {w : World} {Hb : Heap} {K : Frag} {n : Nat} {sc : Scope} {ρ : List (Str × Value)} {D : DH}

theorem IsI.at {s : Shared} {a C d : Addr} {fs : List (Str × Value)} (h : Sub D s.heap) (i : IsI D a C d fs) : ∃ es n, PySem.W.InstAt s.heap a (instObj C d) C (some (dictOf es n)) ∧ Flds es fs ∧ s.heap.get? d = some (dictOf es n) := by
  obtain ⟨e, es, n, e', r⟩ := i
  exact ⟨es, n, ⟨h _ _ e, rfl, rfl, h _ _ e'⟩, r, h _ _ e'⟩

theorem inKeep {s : Shared} {X : DH} (kin : K.In Hb) (b : BaseIn Hb X) (x : Sub X s.heap) : K.In s.heap := fun a o e => x _ _ (b _ _ (kin a o e))

inductive AttrR (K : Frag) (name : Str) (Q : ∀ uu : Value, ∀ uu : DH, Prop) (ov : Value) (D₁ : DH) : Prop
  | mk : ∀ a C fs v, ∀ uu : ov = .ref a, ∀ uu : Inst D₁ a C fs, ∀ uu : plainGet K C name = true, ∀ uu : hasDictIn K C = true, ∀ uu : findIn K (.ref C) name = some none, ∀ uu : fs.lookup name = some v, ∀ uu : handedIn v = true, ∀ uu : Q v D₁, AttrR K name Q ov D₁
-- o.name
theorem TE_attr {o : Expr} {name : Str} {pos : Pos} {Q : ∀ uu : Value, ∀ uu : DH, Prop} (kin : K.In Hb)
    (h : TE prog w Hb n sc o ρ D (AttrR K name Q))
    (he : ∀ env, eval (.Attribute o name pos) env = (do
      let v ← eval o env
      standAt pos.atName
      let r ← holding [v] (getAttr v name true)
      letTemporaryGo o v r
      pure r) := by intro _; rfl) : TE prog w Hb n sc (.Attribute o name pos) ρ D Q := by
  intro A s X env a b c d j bi g
  refine Attribute_any_ (TE.seq h a b c d j bi g fun V D₁ s₁ hq1 t => ?_) (he env)
  obtain ⟨x, C, fs, v, e, i, h1, h2, h3, h4, h5, q⟩ := hq1
  obtain rfl := er_ref e
  obtain ⟨dd, i⟩ := i
  refine ex2_3 (i.at t.d) fun es m I F uu => ?_
  refine ex1_2 (F.get h4) fun W g1 g2 => ?_
  have X₀ : K.In s₁.heap := inKeep kin bi t.x
  refine get_value X₀ I (plainGet_of h1).1 (findObj_own h2 h3 rfl g1) (by rw [← handedIn_er, g2]; exact h5) ⟨D₁, g2 ▸ q, t.trans (.tok t.d t.x t.j _)⟩

noncomputable abbrev MCallR (prog : Program) (w : World) (Hb : Heap) (n : Nat) (f a : Addr) (Q : ∀ uu : Value, ∀ uu : DH, Prop) (vs : List Value) (D₂ : DH) : Prop := TC prog w Hb n (.ref f) (.ref a :: vs) D₂ Q
inductive MethR (prog : Program) (w : World) (Hb : Heap) (n : Nat) (sc : Scope) (K : Frag) (name : Str) (args : List Expr) (ρ : List (Str × Value)) (Q : ∀ uu : Value, ∀ uu : DH, Prop) (ov : Value) (D₁ : DH) : Prop
  | mk : ∀ a C fs f, ∀ uu : ov = .ref a, ∀ uu : Inst D₁ a C fs, ∀ uu : plainGet K C name = true, ∀ uu : findIn K (.ref C) name = some (some (.ref f)), ∀ uu : isFn K (.ref f) = true, ∀ uu : keepIn K (.ref f) = true, ∀ uu : fs.lookup name = none, ∀ uu : TEs prog w Hb n sc args ρ D₁ (MCallR prog w Hb n f a Q), MethR prog w Hb n sc K name args ρ Q ov D₁
-- o.name(args): a method of the text's
theorem TE_meth {o : Expr} {name : Str} {apos pos : Pos} {args : List Expr} {pl : ∀ uu : Env, Sem Bool} {Q : ∀ uu : Value, ∀ uu : DH, Prop} (kin : K.In Hb)
    (h : TE prog w Hb n sc o ρ D (MethR prog w Hb n sc K name args ρ Q))
    (he : ∀ env, eval (.Call (.Attribute o name apos) args [] pos) env = (do
      let ov ← eval o env
      standAt apos.atName
      let (f, first) ← holding [ov] (getMethod ov name (pl env))
      callWith pos f first (backTo pos (starEach args env)) (backToKw pos (keywordEach [] env))) := by intro _; rfl)
    (hp : ∀ env, ((backTo pos (starEach args env)).any (·.1)) = false := by intro _; rfl) :
    TE prog w Hb n sc (.Call (.Attribute o name apos) args [] pos) ρ D Q := by
  intro A s X env a b c d j bi g
  refine methodCall_KW (pl := pl env) (kws := []) (TE.seq h a b c d j bi g fun V D₁ s₁ hq2 t => ?_) (he env)
  obtain ⟨x, C, fs, f, e, i, h1, h2, h3, hkp, h4, q⟩ := hq2
  obtain rfl := er_ref e
  obtain ⟨dd, i⟩ := i
  refine ex2_3 (i.at t.d) fun es m I F uu => ?_
  have X₀ : K.In s₁.heap := inKeep kin bi t.x
  refine method_fn X₀ I (plainGet_of h1).1 (plainGet_of h1).2 h2 (beq_iff_eq.mp h3) (by show (lookIn name (dictOf es m)).map _ = _; rw [lookIn_dict, (F.none h4).1]; rfl) ?_
  have kp : Kp prog w Hb (.ref f) := by
    refine ex1_2 (looks_keep (M := model prog w) hkp kin) fun k e1 e2 => ?_
    exact ⟨k, e1.elim .inl fun z => .inr (.inl z), e2⟩
  refine callWith_go kp a b t.d t.x t.j bi g (hp env) q fun Vs D₂ s₂ q' t' => ?_
  have z := q' A s₂ X (.ref x :: Vs) b t'.d t'.x t'.j bi rfl
  refine wpAny_call (codeAny_mono z fun r s' p => ?_)
  obtain ⟨V', D', hr, k, z'⟩ := p
  subst hr
  exact ⟨D', k, (t.trans t').trans z'⟩

structure ListR (Q : ∀ uu : Value, ∀ uu : DH, Prop) (vs : List Value) (D₁ : DH) : Prop where mk ::
  h1 : vs.length ≤ sizeLine
  h2 : ∀ a D₂, ∀ uu : D₁ a = none, ∀ uu : Le D₁ D₂, ∀ uu : IsL D₂ a vs, ∀ uu : (∃ o, D₂ = put D₁ a o), Q (.ref a) D₂
-- a list display, a tuple display
theorem TE_list {es : List Expr} {pos : Pos} {Q : ∀ uu : Value, ∀ uu : DH, Prop}
    (h : TEs prog w Hb n sc es ρ D (ListR Q)) : TE prog w Hb n sc (.List es pos) ρ D Q := by
  intro A s X env a b c d j bi g
  refine wpAny_List_spliced (wpAny_mono (h A s X env pos a b c d j bi g) (fun Vs s₁ hq3 => ?_) fun uu uu x => x.elim)
  obtain ⟨D₁, ⟨hz, q⟩, t⟩ := hq3
  have h0 : D₁ s₁.heap.objs.size = none := t.d.none_size
  refine ⟨by simpa using hz, put D₁ s₁.heap.objs.size (lstO Vs 0), q _ _ h0 (le_put h0) ⟨Vs, 0, put_self .., rfl⟩ ⟨_, rfl⟩, t.trans ⟨⟨_, _, rfl⟩, t.d.put_push _ rfl, t.x.push _, t.j.put t.x.none_size⟩⟩
structure TupR (Q : ∀ uu : Value, ∀ uu : DH, Prop) (vs : List Value) (D₁ : DH) : Prop where mk ::
  h1 : vs.length ≤ sizeLine
  h2 : ∀ a D₂, ∀ uu : D₁ a = none, ∀ uu : Le D₁ D₂, ∀ uu : IsT D₂ a vs, ∀ uu : (∃ o, D₂ = put D₁ a o), Q (.ref a) D₂
theorem TE_tuple {es : List Expr} {k : Nat} {pos : Pos} {Q : ∀ uu : Value, ∀ uu : DH, Prop}
    (h : TEs prog w Hb n sc es ρ D (TupR Q)) : TE prog w Hb n sc (.Tuple es k pos) ρ D Q := by
  intro A s X env a b c d j bi g
  refine wpAny_Tuple_spliced (wpAny_mono (h A s X env pos a b c d j bi g) (fun Vs s₁ hq4 => ?_) fun uu uu x => x.elim)
  obtain ⟨D₁, ⟨hz, q⟩, t⟩ := hq4
  have h0 : D₁ s₁.heap.objs.size = none := t.d.none_size
  refine ⟨by simpa using hz, put D₁ s₁.heap.objs.size (tupO Vs 0), q _ _ h0 (le_put h0) ⟨Vs, 0, put_self .., rfl⟩ ⟨_, rfl⟩, t.trans ⟨⟨_, _, rfl⟩, t.d.put_push _ rfl, t.x.push _, t.j.put t.x.none_size⟩⟩

theorem map_er_get {vs : List Value} {us : List Value} {k : Nat} {u : Value} (e : vs.map er = us) (h : us[k]? = some u) : ∃ V, vs[k]? = some V ∧ er V = u := by
  subst e
  rw [List.getElem?_map] at h
  cases q : vs[k]? with
  | none => rw [q] at h; cases h
  | some V => rw [q] at h; obtain rfl := (Option.some.inj h).symm; exact ⟨V, rfl, rfl⟩

theorem seqIndex_nat {k : Int} {m : Nat} (h0 : 0 ≤ k) (h : k.toNat < m) : seqIndex? k m = some k.toNat := by
  unfold seqIndex?
  dsimp only
  have h1 : ¬ k < 0 := by lia
  simp only [h1, if_false]
  rw [if_pos (by simp; (and_intros <;> omega))]
inductive ItemR (Q : ∀ uu : Value, ∀ uu : DH, Prop) (ov iv : Value) (D₂ : DH) : Prop
  | mk : ∀ a us k u, ∀ uu : ov = .ref a, ∀ uu : IsS D₂ a us, ∀ uu : iv = .int k 0, ∀ uu : 0 ≤ k, ∀ uu : k < 2 ^ 62, ∀ uu : us[k.toNat]? = some u, ∀ uu : Q u D₂, ItemR Q ov iv D₂
-- xs[k] of a list or a tuple
theorem TE_item {o i : Expr} {pos : Pos} {Q : ∀ uu : Value, ∀ uu : DH, Prop}
    (h : TE prog w Hb n sc o ρ D (Nx prog w Hb n sc i ρ (ItemR Q)))
    (hs : ∀ o' i', subscripted i false o' i' = operate [o', i'] (getItem o' i') := by intro _ _; rfl) : TE prog w Hb n sc (.Subscript o i pos) ρ D Q := by
  intro A s X env a b c d j bi g
  refine Subscript_ (TE.seq h a b c d j bi g fun V D₁ s₁ q t => ?_)
  refine TE.seq q a b t.d t.x t.j bi g fun U D₂ s₂ hq5 t' => ?_
  obtain ⟨l, us, k, u, e1, hl, e2, h0, hk, hu, q'⟩ := hq5
  obtain rfl := er_ref e1
  obtain ⟨tk, qY14⟩ := er_int e2
  obtain rfl := qY14.symm
  rcases hl with ⟨vs, m, hD, hm⟩ | ⟨vs, m, hD, hm⟩
  · refine ex1_2 (map_er_get hm hu) fun W g1 g2 => ?_
    have hL : s₂.heap.IsList l vs.toArray := ⟨_, t'.d _ _ hD, rfl, m, rfl⟩
    exact tail_any hL.typeIs slot_list_getitem.lookup (wpAny_getItem_list hL h0 (by lia) (by simpa using g1) ⟨D₂, g2 ▸ q', t.trans t'⟩) (hs _ _)
  · refine ex1_2 (map_er_get hm hu) fun W g1 g2 => ?_
    have hL : IsTup s₂.heap l vs.toArray := ⟨_, t'.d _ _ hD, rfl, m, rfl⟩
    have hlt : k.toNat < vs.length := by
      rcases Nat.lt_or_ge k.toNat vs.length with z | z
      · exact z
      · rw [List.getElem?_eq_none z] at g1; cases g1
    refine item_tupleT hL (by lia) (by lia) (j := k.toNat) ?_ g1 ⟨D₂, g2 ▸ q', t.trans t'⟩ (hs _ _)
    exact seqIndex_nat h0 hlt
inductive ItemNR (Q : ∀ uu : Value, ∀ uu : DH, Prop) (ov iv : Value) (D₂ : DH) : Prop
  | mk : ∀ a us k u, ∀ uu : ov = .ref a, ∀ uu : IsL D₂ a us, ∀ uu : iv = .int k 0, ∀ uu : k < 0, ∀ uu : -(us.length : Int) ≤ k, ∀ uu : -(2 ^ 62) ≤ k, ∀ uu : us[(k + us.length).toNat]? = some u, ∀ uu : Q u D₂, ItemNR Q ov iv D₂
-- xs[-1]
theorem TE_itemN {o i : Expr} {pos : Pos} {Q : ∀ uu : Value, ∀ uu : DH, Prop}
    (h : TE prog w Hb n sc o ρ D (Nx prog w Hb n sc i ρ (ItemNR Q)))
    (hs : ∀ o' i', subscripted i false o' i' = operate [o', i'] (getItem o' i') := by intro _ _; rfl) : TE prog w Hb n sc (.Subscript o i pos) ρ D Q := by
  intro A s X env a b c d j bi g
  refine Subscript_ (TE.seq h a b c d j bi g fun V D₁ s₁ q t => ?_)
  refine TE.seq q a b t.d t.x t.j bi g fun U D₂ s₂ hq6 t' => ?_
  obtain ⟨l, us, k, u, e1, ⟨vs, m, hD, hm⟩, e2, h0, hk, hk', hu, q'⟩ := hq6
  obtain rfl := er_ref e1
  obtain ⟨tk, rfl⟩ := er_int e2
  refine ex1_2 (map_er_get hm hu) fun W g1 g2 => ?_
  have hlen : vs.length = us.length := by rw [← hm]; simp
  have hL : s₂.heap.IsList l vs.toArray := ⟨_, t'.d _ _ hD, rfl, m, rfl⟩
  exact tail_any hL.typeIs slot_list_getitem.lookup (wpAny_getItem_list_neg hL h0 (by simpa [hlen] using hk) (by lia) (by simpa [hlen] using g1) ⟨D₂, g2 ▸ q', t.trans t'⟩) (hs _ _)
end
end

section
section
variable (prog : Program) (w : World) (Hb : Heap)
-- a call, as an expression makes it
noncomputable def TCl (n : Nat) (f : Value) (args : List Value) (D : DH) (Q : ∀ uu : Value, ∀ uu : DH, Prop) : Prop :=
  ∀ (A : Around) (s : Shared) (X : DH) (Vs : List Value), ∀ uu : Ok Hb n A X, ∀ uu : Sub D s.heap, ∀ uu : Sub X s.heap, ∀ uu : Dj D X, ∀ uu : BaseIn Hb X, ∀ uu : Vs.map er = args,
    wpAny (model prog w) A (call f Vs) (fun V s' => Post (Q (er V)) s X s') (fun uu uu => False) s
end

section
variable {prog : Program} {w : World} {Hb : Heap} {K : Frag} {n : Nat} {sc : Scope} {ρ : List (Str × Value)} {D : DH}


noncomputable abbrev CallLR (prog : Program) (w : World) (Hb : Heap) (n : Nat) (f : Value) (Q : ∀ uu : Value, ∀ uu : DH, Prop) (vs : List Value) (D₂ : DH) : Prop := TCl prog w Hb n f vs D₂ Q
structure CalleeLR (prog : Program) (w : World) (Hb : Heap) (n : Nat) (sc : Scope) (args : List Expr) (ρ : List (Str × Value)) (Q : ∀ uu : Value, ∀ uu : DH, Prop) (f : Value) (D₁ : DH) : Prop where mk ::
  h1 : Plain f
  h2 : Kp prog w Hb f
  h3 : TEs prog w Hb n sc args ρ D₁ (CallLR prog w Hb n f Q)
theorem TE_callL {fe : Expr} {args : List Expr} {pos : Pos} {Q : ∀ uu : Value, ∀ uu : DH, Prop}
    (h : TE prog w Hb n sc fe ρ D (CalleeLR prog w Hb n sc args ρ Q))
    (hc : ∀ env, eval (.Call fe args [] pos) env = (do callWith pos (← eval fe env) [] (backTo pos (starEach args env)) (backToKw pos (keywordEach [] env))) := by intro _; rfl)
    (hp : ∀ env, ((backTo pos (starEach args env)).any (·.1)) = false := by intro _; rfl) :
    TE prog w Hb n sc (.Call fe args [] pos) ρ D Q := by
  intro A s X env a b c d j bi g
  rw [hc]
  refine wpAny_bind (TE.seq h a b c d j bi g fun V D₁ s₁ hq1 t => ?_)
  obtain ⟨pl, kp, q⟩ := hq1
  have e := pl V rfl
  rw [← e] at kp
  refine callWith_go kp a b t.d t.x t.j bi g (hp env) q fun Vs D₂ s₂ q' t' => ?_
  have z := q' A s₂ X Vs b t'.d t'.x t'.j bi rfl
  rw [← e] at z
  exact wpAny_mono z (fun uu uu p => p.step (t.trans t')) fun uu uu x => x

theorem After.keep {s : Shared} {X D : DH} {h' : Heap} {k : Nat} (d : Sub D s.heap) (x : Sub X s.heap) (j : Dj D X) (hk : ∀ b o, ∀ uu : s.heap.get? b = some o, h'.get? b = some o) : After s X D { s with heap := h', toks := k } :=
  ⟨⟨h', k, rfl⟩, fun a o e => hk _ _ (d a o e), fun a o e => hk _ _ (x a o e), j⟩
theorem After.push {s : Shared} {X D : DH} {k : Nat} (d : Sub D s.heap) (x : Sub X s.heap) (j : Dj D X) (o : Obj) (hf : o.isFreed = false) : After s X (put D s.heap.objs.size o) { s with heap := s.heap.push o, toks := k } :=
  ⟨⟨_, k, rfl⟩, d.put_push _ hf, x.push _, j.put x.none_size⟩

theorem er_cons {Vs : List Value} {a : Value} {r : List Value} (h : Vs.map er = a :: r) : ∃ V Us, Vs = V :: Us ∧ er V = a ∧ Us.map er = r := by
  cases Vs with
  | nil => cases h
  | cons V Us => injection h with h1 h2; exact ⟨V, Us, rfl, h1, h2⟩
theorem one_arg {Vs : List Value} {a : Value} (h : Vs.map er = [a]) : ∃ V, Vs = [V] ∧ er V = a := by
  obtain ⟨V, Us, rfl, e, h⟩ := er_cons h
  obtain rfl := List.map_eq_nil_iff.mp h
  exact ⟨V, rfl, e⟩
theorem two_args {Vs : List Value} {a b : Value} (h : Vs.map er = [a, b]) : ∃ V U, Vs = [V, U] ∧ er V = a ∧ er U = b := by
  obtain ⟨V, Us, rfl, e, h⟩ := er_cons h
  obtain ⟨U, rfl, e2⟩ := one_arg h
  exact ⟨V, U, rfl, e, e2⟩
theorem three_args {Vs : List Value} {a b c : Value} (h : Vs.map er = [a, b, c]) : ∃ V U W, Vs = [V, U, W] ∧ er V = a ∧ er U = b ∧ er W = c := by
  obtain ⟨V, Us, rfl, e, h⟩ := er_cons h
  obtain ⟨U, W, rfl, e2, e3⟩ := two_args h
  exact ⟨V, U, W, rfl, e, e2, e3⟩

theorem TC_len {a : Addr} {us : List Value} {Q : ∀ uu : Value, ∀ uu : DH, Prop} (hl : IsS D a us) (hz : us.length < 2 ^ 62) (q : Q (.int us.length 0) D) : TCl prog w Hb n (.builtin "len") [.ref a] D Q := by
  intro A s X Vs ok d x j bi e0
  refine ex1_2 (one_arg e0) fun V eR1 e => ?_
  obtain rfl := eR1
  obtain rfl := er_ref e
  have hn : ∀ vs : List Value, ∀ uu : vs.map er = us, vs.toArray.size = us.length := fun vs h => by rw [← h]; simp
  rcases hl with ⟨vs, m, hD, hm⟩ | ⟨vs, m, hD, hm⟩
  · have hL : s.heap.IsList a vs.toArray := ⟨_, d _ _ hD, rfl, m, rfl⟩
    refine len_list hL (by rw [hn vs hm]; (exact Int.ofNat_le.mpr (by lia))) ⟨D, ?_, .tok d x j _⟩
    rw [hn vs hm]; exact q
  · have hL : IsTup s.heap a vs.toArray := ⟨_, d _ _ hD, rfl, m, rfl⟩
    refine PyProof.Rows.len_tuple hL (by rw [hn vs hm]; lia) ⟨D, ?_, .tok d x j _⟩
    rw [hn vs hm]; exact q
theorem TC_max2 {a b : Int} {Q : ∀ uu : Value, ∀ uu : DH, Prop} (q : Q (.int (if b > a then b else a) 0) D) : TCl prog w Hb n (.builtin "max") [.int a 0, .int b 0] D Q := by
  intro A s X Vs ok d x j bi e
  refine ex2_3 (two_args e) fun V U eR2 e1 e2 => ?_
  obtain rfl := eR2
  obtain ⟨t, rfl⟩ := er_int e1
  obtain ⟨u, rfl⟩ := er_int e2
  refine max_two_ints ok.hh fun h' tk hk => ⟨D, ?_, .keep d x j hk⟩
  split <;> rename_i c
  · rw [if_pos c] at q; exact q
  · rw [if_neg c] at q; exact q
theorem TC_min2 {a b : Int} {Q : ∀ uu : Value, ∀ uu : DH, Prop} (q : Q (.int (if b < a then b else a) 0) D) : TCl prog w Hb n (.builtin "min") [.int a 0, .int b 0] D Q := by
  intro A s X Vs ok d x j bi e
  refine ex2_3 (two_args e) fun V U eR2 e1 e2 => ?_
  obtain rfl := eR2
  obtain ⟨t, rfl⟩ := er_int e1
  obtain ⟨u, rfl⟩ := er_int e2
  refine min_two_ints ok.hh fun h' tk hk => ⟨D, ?_, .keep d x j hk⟩
  split <;> rename_i c
  · rw [if_pos c] at q; exact q
  · rw [if_neg c] at q; exact q

noncomputable abbrev intL (ns : List Int) : List Value := ns.map fun i => .int i 0
theorem ints_are {vs : List Value} : ∀ {ns : List Int}, ∀ uu : vs.map er = intL ns, IntsAre vs ns := by
  induction vs with
  | nil => intro ns h; cases ns <;> simp at h; exact .nil
  | cons v r ih =>
    intro ns h
    cases ns with
    | nil => simp at h
    | cons k ks =>
      simp only [List.map_cons, List.cons.injEq] at h
      obtain ⟨t, rfl⟩ := er_int h.1
      exact .cons k t (ih h.2)
theorem TC_maxL {a : Addr} {ns : List Int} {Q : ∀ uu : Value, ∀ uu : DH, Prop} (hl : IsL D a (intL ns)) (hne : ns ≠ []) (q : ∀ M, ∀ uu : M ∈ ns, ∀ uu : (∀ x, ∀ uu : x ∈ ns, x ≤ M), Q (.int M 0) D) : TCl prog w Hb n (.builtin "max") [.ref a] D Q := by
  intro A s X Vs ok d x j bi e0
  refine ex1_2 (one_arg e0) fun V eR1 e => ?_
  obtain rfl := eR1
  obtain rfl := er_ref e
  obtain ⟨vs, m, hD, hm⟩ := hl
  have hi := ints_are hm
  have hL : s.heap.IsList a vs.toArray := ⟨_, d _ _ hD, rfl, m, rfl⟩
  obtain ⟨xs, e⟩ := hi.allInts.items
  have hns : ns = xs.toList.map (·.1) := by rw [← hi.numsOf, ← nums_intItems, ← e]
  have hsz : 0 < xs.size := by
    have h3 : 0 < ns.length := List.length_pos_iff.mpr hne
    rw [hns, List.length_map, Array.length_toList] at h3; exact h3
  rw [e] at hL
  refine max_intList ok.hh hL hsz fun v h' tk hv hk => ?_
  obtain ⟨t, rfl⟩ := intItems_at hv
  obtain ⟨h1, h2⟩ := argBest_gt (numAt xs) (xs.size - 1)
  refine ⟨D, q _ ?_ fun b hb => ?_, .keep d x j hk⟩
  · rw [hns, numAt_eq]; exact getD_mem (by rw [List.length_map, Array.length_toList]; omega)
  · rw [hns] at hb
    refine ex1_2 (mem_getD hb) fun i hi' eR2 => ?_
    obtain rfl := eR2
    rw [List.length_map, Array.length_toList] at hi'
    rw [← numAt_eq]; exact h2 i (by lia)

-- a range object
inductive IsR (D : DH) (r : Addr) (a b c : Int) : Prop
  | mk : ∀ t u v, ∀ uu : D r = some { cls := .type "range", data := .fields #[.int a t, .int b u, .int c v] }, IsR D r a b c
theorem TC_range1 {b : Int} {Q : ∀ uu : Value, ∀ uu : DH, Prop} (q : ∀ r o, ∀ uu : D r = none, ∀ uu : IsR (put D r o) r 0 b 1, Q (.ref r) (put D r o)) : TCl prog w Hb n (.type "range") [.int b 0] D Q := by
  intro A s X Vs ok d x j bi e0
  refine ex1_2 (one_arg e0) fun V eR1 e => ?_
  obtain rfl := eR1
  obtain ⟨t, rfl⟩ := er_int e
  refine call_range_1 ⟨_, q _ _ d.none_size ⟨_, _, _, put_self ..⟩, .push d x j _ rfl⟩
theorem TC_range2 {a b : Int} {Q : ∀ uu : Value, ∀ uu : DH, Prop} (q : ∀ r o, ∀ uu : D r = none, ∀ uu : IsR (put D r o) r a b 1, Q (.ref r) (put D r o)) : TCl prog w Hb n (.type "range") [.int a 0, .int b 0] D Q := by
  intro A s X Vs ok d x j bi e
  refine ex2_3 (two_args e) fun V U eR2 e1 e2 => ?_
  obtain rfl := eR2
  obtain ⟨t, rfl⟩ := er_int e1
  obtain ⟨u, rfl⟩ := er_int e2
  refine call_range_2 ⟨_, q _ _ d.none_size ⟨_, _, _, put_self ..⟩, .push d x j _ rfl⟩
theorem TC_range3 {a b c : Int} {Q : ∀ uu : Value, ∀ uu : DH, Prop} (hc : c ≠ 0) (hc2 : c.natAbs < 1073741824) (q : ∀ r o, ∀ uu : D r = none, ∀ uu : IsR (put D r o) r a b c, Q (.ref r) (put D r o)) : TCl prog w Hb n (.type "range") [.int a 0, .int b 0, .int c 0] D Q := by
  intro A s X Vs ok d x j bi e
  refine ex3_4 (three_args e) fun V U W eR3 e1 e2 e3 => ?_
  obtain rfl := eR3
  obtain ⟨t, rfl⟩ := er_int e1
  obtain ⟨u, rfl⟩ := er_int e2
  obtain ⟨v, rfl⟩ := er_int e3
  refine call_range_3 hc ⟨_, q _ _ d.none_size ⟨_, _, _, put_self ..⟩, .push d x j _ rfl⟩ (.inl (PyProof.noPylong_small hc2))
-- list(xs)
theorem TC_list {a : Addr} {us : List Value} {Q : ∀ uu : Value, ∀ uu : DH, Prop} (hl : IsS D a us) (hz : us.length ≤ sizeLine) (q : ∀ r o, ∀ uu : D r = none, ∀ uu : IsL (put D r o) r us, Q (.ref r) (put D r o)) : TCl prog w Hb n (.type "list") [.ref a] D Q := by
  intro A s X Vs ok d x j bi e0
  refine ex1_2 (one_arg e0) fun V eR1 e => ?_
  obtain rfl := eR1
  obtain rfl := er_ref e
  have fin : ∀ (vs : List Value) (T : String) (o : Obj) (m : Nat), ∀ uu : (T = "list" ∨ T = "tuple"), ∀ uu : s.heap.get? a = some o, ∀ uu : o.cls = .type T, ∀ uu : o.data = .seq vs.toArray m, ∀ uu : vs.map er = us,
      wpAny (model prog w) A (call (.type "list") [.ref a]) (fun V s' => Post (Q (er V)) s X s') (fun uu uu => False) s := fun vs T o m hT ho hc hd hm => by
    have hn : vs.length = us.length := by rw [← hm]; simp
    refine call_list_seq a hT ho hc hd (fun h' c' hk hs => ?_) (by simpa [hn] using hz)
    refine ⟨put D s.heap.objs.size (lstO vs c'), q _ _ d.none_size ⟨vs, c', put_self .., hm⟩, ⟨⟨h', s.toks, rfl⟩, fun b ob e => ?_, fun b ob e => hk _ _ (x b ob e), j.put x.none_size⟩⟩
    by_cases z : b = s.heap.objs.size
    · subst z; rw [put_self] at e; obtain rfl := (Option.some.inj e).symm; exact hs
    · rw [put_ne z] at e; exact hk _ _ (d b ob e)
  rcases hl with ⟨vs, m, hD, hm⟩ | ⟨vs, m, hD, hm⟩
  · exact fin vs "list" _ m (.inl rfl) (d _ _ hD) rfl rfl hm
  · exact fin vs "tuple" _ m (.inr rfl) (d _ _ hD) rfl rfl hm
-- tuple(xs)
theorem TC_tuple {a : Addr} {us : List Value} {Q : ∀ uu : Value, ∀ uu : DH, Prop} (hl : IsL D a us) (hz : us.length ≤ sizeLine) (q : ∀ r o, ∀ uu : D r = none, ∀ uu : IsT (put D r o) r us, Q (.ref r) (put D r o)) : TCl prog w Hb n (.type "tuple") [.ref a] D Q := by
  intro A s X Vs ok d x j bi e0
  refine ex1_2 (one_arg e0) fun V eR1 e => ?_
  obtain rfl := eR1
  obtain rfl := er_ref e
  obtain ⟨vs, m, hD, hm⟩ := hl
  have hL : s.heap.IsList a vs.toArray := ⟨_, d _ _ hD, rfl, m, rfl⟩
  have hn : vs.length = us.length := by rw [← hm]; simp
  refine call_tuple_list hL (fun h' hk => ?_) (by simpa [hn] using hz)
  have d' : Sub D h' := fun a o e => hk _ _ (d a o e)
  have x' : Sub X h' := fun a o e => hk _ _ (x a o e)
  exact ⟨put D h'.objs.size (tupO vs 0), q _ _ d'.none_size ⟨vs, 0, put_self .., hm⟩, ⟨⟨_, s.toks, rfl⟩, d'.put_push _ rfl, x'.push _, j.put x'.none_size⟩⟩

theorem upd_after {s : Shared} {X : DH} {a : Addr} {f : ∀ uu : Obj, Obj} {o o' : Obj} {k : Nat} (d : Sub D s.heap) (x : Sub X s.heap) (j : Dj D X) (hD : D a = some o) (hf : f o = o') (hfr : o'.isFreed = false) :
    After s X (put D a o') { s with heap := s.heap.update a f, toks := k } := by
  have hs : Heap.SameBut a s.heap (s.heap.update a f) := Heap.SameBut.update ..
  refine ⟨⟨_, k, rfl⟩, fun b ob e => ?_, fun b ob e => ?_, j.put (j _ _ hD)⟩
  · by_cases z : b = a
    · subst z; rw [put_self] at e; obtain rfl := (Option.some.inj e).symm
      exact hf ▸ Heap.get?_update_self f (d _ _ hD) (by rw [hf]; exact hfr)
    · rw [put_ne z] at e; exact (hs.2 b z).trans (d b ob e)
  · have z : b ≠ a := nosA (j _ _ hD) e
    exact (hs.2 b z).trans (x b ob e)

-- xs.append(v), xs.extend(ys): the built-in
theorem wp_append {A : Around} {s : Shared} {X : DH} {l : Addr} {vs : List Value} {m : Nat} {V : Value} {Q : ∀ uu : Value, ∀ uu : DH, Prop} (hl : D l = some (lstO vs m)) (hz : vs.length ≤ sizeLine) (d : Sub D s.heap) (x : Sub X s.heap) (j : Dj D X)
    (q : ∀ m', Q .none (put D l (lstO (vs ++ [V]) m'))) :
    wpAny (model prog w) A (call (.builtin "list.append") [.ref l, V]) (fun V s' => Post (Q (er V)) s X s') (fun uu uu => False) s := by
  refine wpAny_list_append_plain ⟨m, d _ _ hl⟩ (fun h' hp hs => ?_) (by simpa using hz)
  obtain ⟨m', hp⟩ := hp
  refine ⟨_, q m', ⟨⟨h', s.toks, rfl⟩, fun b ob e => ?_, fun b ob e => ?_, j.put (j _ _ hl)⟩⟩
  · by_cases z : b = l
    · subst z; rw [put_self] at e; obtain rfl := (Option.some.inj e).symm; simpa using hp
    · rw [put_ne z] at e; exact (hs.2 b z).trans (d b ob e)
  · have z : b ≠ l := nosA (j _ _ hl) e
    exact (hs.2 b z).trans (x b ob e)

inductive App2 (l : Addr) (Q : ∀ uu : Value, ∀ uu : DH, Prop) (v : Value) (D₂ : DH) : Prop
  | mk : ∀ us, ∀ uu : IsL D₂ l us, ∀ uu : us.length ≤ sizeLine, ∀ uu : (∀ o', ∀ uu : IsL (put D₂ l o') l (us ++ [v]), Q .none (put D₂ l o')), App2 l Q v D₂
inductive AppR (prog : Program) (w : World) (Hb : Heap) (n : Nat) (sc : Scope) (e : Expr) (ρ : List (Str × Value)) (Q : ∀ uu : Value, ∀ uu : DH, Prop) (ov : Value) (D₁ : DH) : Prop
  | mk : ∀ l us', ∀ uu : ov = .ref l, ∀ uu : IsL D₁ l us', ∀ uu : TE prog w Hb n sc e ρ D₁ (App2 l Q), AppR prog w Hb n sc e ρ Q ov D₁
theorem TE_append {o e : Expr} {apos pos : Pos} {Q : ∀ uu : Value, ∀ uu : DH, Prop} {pl : ∀ uu : Env, Sem Bool}
    (h : TE prog w Hb n sc o ρ D (AppR prog w Hb n sc e ρ Q))
    (he : ∀ env, eval (.Call (.Attribute o "append" apos) [e] [] pos) env = (do
      let ov ← eval o env
      standAt apos.atName
      let (f, first) ← holding [ov] (getMethod ov "append" (pl env))
      callWith pos f first (backTo pos (starEach [e] env)) (backToKw pos (keywordEach [] env))) := by intro _; rfl)
    (hp : ∀ env, ((backTo pos (starEach [e] env)).any (·.1)) = false := by intro _; rfl)
    (hse : ∀ env, starEach [e] env = (false, eval e env) :: starEach [] env := by intro _; rfl) :
    TE prog w Hb n sc (.Call (.Attribute o "append" apos) [e] [] pos) ρ D Q := by
  intro A s X env a b c d j bi g
  refine methodCall_KW (pl := pl env) (kws := []) (TE.seq h a b c d j bi g fun V D₁ s₁ hq2 t => ?_) (he env)
  obtain ⟨l, us', e1, ⟨vs', m', hD', hm'⟩, q⟩ := hq2
  obtain rfl := er_ref e1
  refine getMethod_builtin ⟨_, t.d _ _ hD', rfl⟩ PySem.F.plainAttrs_list PySem.F.slot_list_append PySem.F.type_list_append (fun a e => by cases e; exact ⟨_, t.d _ _ hD', rfl⟩) ?_
  have hTs : TEs prog w Hb n sc [e] ρ D₁ (fun vs D₂ => ∃ v, vs = [v] ∧ App2 l Q v D₂) :=
    TEs_cons (q.mono fun v D₂ z => TEs_nil ⟨v, rfl, z⟩) hse
  refine callWith_go kp_builtin a b t.d t.x t.j bi g (hp env) hTs fun Vs D₂ s₂ hq3 t' => ?_
  obtain ⟨v, hv, us, ⟨vs, m, hD, hm⟩, hz, q'⟩ := hq3
  refine ex1_2 (one_arg hv) fun U eR1 hU => ?_
  obtain rfl := eR1
  have hn : vs.length = us.length := by rw [← hm]; simp
  refine wpAny_mono (wp_append (Q := Q) hD (by lia) t'.d t'.x t'.j fun m' => q' _ ⟨vs ++ [U], m', put_self .., by rw [List.map_append, hm]; simp [hU]⟩) (fun uu uu p => p.step (t.trans t')) fun uu uu x => x

inductive Ext2 (l : Addr) (Q : ∀ uu : Value, ∀ uu : DH, Prop) (v : Value) (D₂ : DH) : Prop
  | mk : ∀ b us ws, ∀ uu : v = .ref b, ∀ uu : IsL D₂ b ws, ∀ uu : IsL D₂ l us, ∀ uu : us.length + ws.length ≤ sizeLine, ∀ uu : (∀ o', ∀ uu : IsL (put D₂ l o') l (us ++ ws), Q .none (put D₂ l o')), Ext2 l Q v D₂
inductive ExtR (prog : Program) (w : World) (Hb : Heap) (n : Nat) (sc : Scope) (e : Expr) (ρ : List (Str × Value)) (Q : ∀ uu : Value, ∀ uu : DH, Prop) (ov : Value) (D₁ : DH) : Prop
  | mk : ∀ l us', ∀ uu : ov = .ref l, ∀ uu : IsL D₁ l us', ∀ uu : TE prog w Hb n sc e ρ D₁ (Ext2 l Q), ExtR prog w Hb n sc e ρ Q ov D₁
theorem TE_extend {o e : Expr} {apos pos : Pos} {Q : ∀ uu : Value, ∀ uu : DH, Prop} {pl : ∀ uu : Env, Sem Bool}
    (h : TE prog w Hb n sc o ρ D (ExtR prog w Hb n sc e ρ Q))
    (he : ∀ env, eval (.Call (.Attribute o "extend" apos) [e] [] pos) env = (do
      let ov ← eval o env
      standAt apos.atName
      let (f, first) ← holding [ov] (getMethod ov "extend" (pl env))
      callWith pos f first (backTo pos (starEach [e] env)) (backToKw pos (keywordEach [] env))) := by intro _; rfl)
    (hp : ∀ env, ((backTo pos (starEach [e] env)).any (·.1)) = false := by intro _; rfl)
    (hse : ∀ env, starEach [e] env = (false, eval e env) :: starEach [] env := by intro _; rfl) :
    TE prog w Hb n sc (.Call (.Attribute o "extend" apos) [e] [] pos) ρ D Q := by
  intro A s X env a b c d j bi g
  refine methodCall_KW (pl := pl env) (kws := []) (TE.seq h a b c d j bi g fun V D₁ s₁ hq4 t => ?_) (he env)
  obtain ⟨l, us', e1, ⟨vs', m', hD', hm'⟩, q⟩ := hq4
  obtain rfl := er_ref e1
  refine getMethod_builtin ⟨_, t.d _ _ hD', rfl⟩ PySem.F.plainAttrs_list PySem.F.slot_list_extend PySem.F.type_list_extend (fun a e => by cases e; exact ⟨_, t.d _ _ hD', rfl⟩) ?_
  have hTs : TEs prog w Hb n sc [e] ρ D₁ (fun vs D₂ => ∃ v, vs = [v] ∧ Ext2 l Q v D₂) :=
    TEs_cons (q.mono fun v D₂ z => TEs_nil ⟨v, rfl, z⟩) hse
  refine callWith_go kp_builtin a b t.d t.x t.j bi g (hp env) hTs fun Vs D₂ s₂ hq5 t' => ?_
  obtain ⟨v, hv, bb, us, ws, e2, ⟨vs2, m2, hD2, hm2⟩, ⟨vs, m, hD, hm⟩, hz, q'⟩ := hq5
  refine ex1_2 (one_arg hv) fun U eR1 hU => ?_
  obtain rfl := eR1
  subst e2
  obtain rfl := er_ref hU
  have hn : vs.length = us.length := by rw [← hm]; simp
  have hn2 : vs2.length = ws.length := by rw [← hm2]; simp
  have hz' : vs.toArray.size + vs2.toArray.size ≤ sizeLine := by simp; lia
  refine call_meets PySem.F.slot_list_extend ⟨_, t'.d _ _ hD, rfl⟩ PySem.F.entry_list_extend (PySem.F.args_list_extend_2 _ _) (AutoSeq1.list_extend_list_list_0 l vs.toArray m bb vs2.toArray m2 (extend_door hz') (Nat.le_trans (Nat.le_add_right _ _) hz') (Nat.le_trans hz' (Nat.le_succ _))) ⟨t'.d _ _ hD, t'.d _ _ hD2, ?_⟩
  have e : vs.toArray ++ vs2.toArray = (vs ++ vs2).toArray := by simp
  refine ⟨_, q' (lstO (vs ++ vs2) (if (vs.toArray ++ vs2.toArray).size == vs.toArray.size then m else m + 1)) ⟨_, _, put_self .., by rw [List.map_append, hm, hm2]⟩, (t.trans t').trans (upd_after t'.d t'.x t'.j hD (by rw [mapSeq_app, e]) rfl)⟩
end
end

section
section
variable {prog : Program} {w : World} {Hb : Heap} {K : Frag} {n : Nat} {sc : Scope} {ρ : List (Str × Value)} {D : DH}

theorem Ok.make {A : Around} {X : DH} (ok : Ok Hb (n + 1) A X) (C : Addr) (vals : List Value) : Ok Hb n (A.under (.builtin "type.__call__" ⟨.ref C :: vals, []⟩)) X := by
  refine ⟨ok.hh, ?_, ?_, ?_⟩
  · have := ok.dep; rw [depth_under_make]; lia
  · have := ok.uni; show A.units + _ + _ ≤ _
    have e : (Code.builtin "type.__call__" ⟨.ref C :: vals, []⟩).cUnits = 1 := rfl
    lia
  · refine ex1_2 (ok.frs) fun l e r => ?_
    exact ⟨l, by rw [← e]; rfl, r⟩

-- a class with an __init__ of the text's
theorem TC_new {C fI : Addr} {args : List Value} {Q : ∀ uu : Value, ∀ uu : DH, Prop} (kin : K.In Hb) (hm : makesIn K C = true) (hi : findIn K (.ref C) "__init__" = some (some (.ref fI))) (hf : typeIn K (.ref fI) = some (.type "function"))
    (h : ∀ x d, ∀ uu : D x = none, ∀ uu : D d = none, ∀ uu : x ≠ d, TC prog w Hb n (.ref fI) (.ref x :: args) (put (put D d emptyDict) x (instObj C d)) (fun r D' => r = .none ∧ Q (.ref x) D')) : TC prog w Hb (n + 1) (.ref C) args D Q := by
  intro A s X Vs ok d x j bi e
  obtain ⟨hh, g, dr, t, os⟩ := s
  have X₀ : K.In hh := fun a o e => x _ _ (bi _ _ (kin a o e))
  refine make_core (makes_of X₀ hm) (looks_findIn X₀ hi) (fun self => bind_fn X₀ self hf) (.inl rfl) ?_
  have h0 : D hh.objs.size = none := d.none_size
  have d1 : Sub (put D hh.objs.size emptyDict) (hh.push emptyDict) := d.put_push _ rfl
  have x1 : Sub X (hh.push emptyDict) := x.push _
  have sz : (hh.push emptyDict).objs.size = hh.objs.size + 1 := Heap.size_push ..
  have h1 : (put D hh.objs.size emptyDict) (hh.objs.size + 1) = none := by rw [← sz]; exact d1.none_size
  have hD1 : D (hh.objs.size + 1) = none := by rw [put_ne (Nat.succ_ne_self _)] at h1; exact h1
  have d2 : Sub (put (put D hh.objs.size emptyDict) (hh.objs.size + 1) (instObj C hh.objs.size)) ((hh.push emptyDict).push (instObj C hh.objs.size)) := by rw [← sz]; exact d1.put_push _ rfl
  have x2 : Sub X ((hh.push emptyDict).push (instObj C hh.objs.size)) := x1.push _
  have j1 : Dj (put D hh.objs.size emptyDict) X := j.put x.none_size
  have j2 : Dj (put (put D hh.objs.size emptyDict) (hh.objs.size + 1) (instObj C hh.objs.size)) X := j1.put (by rw [← sz]; exact x1.none_size)
  have z := h (hh.objs.size + 1) hh.objs.size hD1 h0 (Nat.succ_ne_self _) _ ⟨(hh.push emptyDict).push (instObj C hh.objs.size), g, dr, t, os⟩ X (.ref (hh.objs.size + 1) :: Vs) (ok.make C Vs) d2 x2 j2 bi (by rw [List.map_cons, e]; rfl)
  refine codeAny_mono z fun r s' hq1 => ?_
  obtain ⟨V, D', rfl, ⟨hv, q⟩, t'⟩ := hq1
  exact ⟨er_none hv, .ref (hh.objs.size + 1), D', rfl, q, After.trans (D' := put (put D hh.objs.size emptyDict) (hh.objs.size + 1) (instObj C hh.objs.size)) ⟨⟨_, t, rfl⟩, d2, x2, j2⟩ t'⟩

-- a class without an __init__
theorem TC_new0 {C : Addr} {Q : ∀ uu : Value, ∀ uu : DH, Prop} (kin : K.In Hb) (hm : makesIn K C = true) (hi : findIn K (.ref C) "__init__" = some (some (.builtin "object.__init__")))
    (h : ∀ x d, ∀ uu : D x = none, ∀ uu : D d = none, ∀ uu : x ≠ d, Q (.ref x) (put (put D d emptyDict) x (instObj C d))) : TC prog w Hb (n + 1) (.ref C) [] D Q := by
  intro A s X Vs ok d x j bi e
  have hV : Vs = [] := by simpa using e
  obtain rfl := hV.symm
  obtain ⟨hh, g, dr, t, os⟩ := s
  have X₀ : K.In hh := fun a o e => x _ _ (bi _ _ (kin a o e))
  have Y := makes_of (M := model prog w) X₀ hm
  refine make_core Y (looks_findIn X₀ hi) (fun self => Looks.of_pure (oi_bind self)) (.inr ⟨rfl, rfl⟩) ?_
  have h0 : D hh.objs.size = none := d.none_size
  have d1 : Sub (put D hh.objs.size emptyDict) (hh.push emptyDict) := d.put_push _ rfl
  have x1 : Sub X (hh.push emptyDict) := x.push _
  have sz : (hh.push emptyDict).objs.size = hh.objs.size + 1 := Heap.size_push ..
  have h1 : (put D hh.objs.size emptyDict) (hh.objs.size + 1) = none := by rw [← sz]; exact d1.none_size
  have hD1 : D (hh.objs.size + 1) = none := by rw [put_ne (Nat.succ_ne_self _)] at h1; exact h1
  have d2 : Sub (put (put D hh.objs.size emptyDict) (hh.objs.size + 1) (instObj C hh.objs.size)) ((hh.push emptyDict).push (instObj C hh.objs.size)) := by rw [← sz]; exact d1.put_push _ rfl
  have x2 : Sub X ((hh.push emptyDict).push (instObj C hh.objs.size)) := x1.push _
  have j1 : Dj (put D hh.objs.size emptyDict) X := j.put x.none_size
  have j2 : Dj (put (put D hh.objs.size emptyDict) (hh.objs.size + 1) (instObj C hh.objs.size)) X := j1.put (by rw [← sz]; exact x1.none_size)
  have hx : ((hh.push emptyDict).push (instObj C hh.objs.size)).get? (hh.objs.size + 1) = some (instObj C hh.objs.size) := by rw [← sz]; exact Heap.get?_push_size _ rfl
  have t1 : Looks (model prog w) ((hh.push emptyDict).push (instObj C hh.objs.size)) (typeOf (.ref (hh.objs.size + 1))) (.ref C) := (Looks.ld hx).andThen .now
  have t2 : Looks (model prog w) ((hh.push emptyDict).push (instObj C hh.objs.size)) (isInstance (.ref (hh.objs.size + 1)) (.type "object")) true := t1.andThen (Y.top.keeps fun b o e => Heap.get?_push_of_some _ (Heap.get?_push_of_some _ e))
  refine codeAny_call_builtin oi_plain entry_oi (@check_slot (model prog w) _ _ _ "object.__init__" "object" "__init__" (.ref (hh.objs.size + 1)) [] [] _ oi_kind oi_split t2 (oi_args (.ref (hh.objs.size + 1))) ?_)
  rw [oi_run]
  exact wpAny_pure (And.intro rfl ⟨.ref (hh.objs.size + 1), _, rfl, h _ _ hD1 h0 (Nat.succ_ne_self _), ⟨⟨_, t, rfl⟩, d2, x2, j2⟩⟩)

-- x.name = v: the built-in way
set_option tactic.hygienic true in
theorem wp_setattr {A : Around} {s : Shared} {C a dd m : Nat} {es : List DictEntry} {name : Str} {V : Value} {R : ∀ uu : Unit, ∀ uu : Shared, Prop} {E : ∀ uu : Value, ∀ uu : Shared, Prop} (X₀ : K.In s.heap)
    (hx : s.heap.get? a = some (instObj C dd)) (hdd : s.heap.get? dd = some (dictOf es m))
    (hs : findIn K (.ref C) "__setattr__" = some (some (.builtin "object.__setattr__"))) (hp : plainOver K C = true) (ht : takerIn K C name = some none) (hh : hasDictIn K C = true)
    (hl : (getL name es).isSome = true) (hz : es.length ≤ 1000)
    (q : R () { s with heap := s.heap.update dd (Obj.putName name (PyData.keyHash w.params name) (.str name (s.toks + 1)) V), toks := s.toks + 2 }) :
    wpAny (model prog w) A (setAttr (.ref a) name V) R E s := by
  have I : PySem.W.InstAt s.heap a (instObj C dd) C (some (dictOf es m)) := ⟨hx, rfl, rfl, hdd⟩
  refine set_plain X₀ I hs (osa_open (s := { s with toks := s.toks + 1 }) X₀ I hp ht fun b => ?_)
  refine ex1_2 (any_some hh) fun cd hc hd' => ?_
  refine wpAny_bind (wpAny_pure (wpAny_bind (wpAny_bind (wpAny_loadPart hx (wpAny_bind ((looks_clsIn X₀ hc) _ _ _ _ (fun uu uu e => e) ?_))))))
  rw [hd']
  refine wpAny_pure (a := some dd) (wpAny_bind (wpAny_pure (wpAny_bind ?_)))
  unfold nsSet
  refine wpAny_bind (wpAny_bind (wpAny_askSetting (wpAny_pure (wpAny_bind (wpAny_mkText (wpAny_bind (wpAny_loadPart hdd ?_)))))))
  dsimp only
  have c : aRefKeyMayBeTheName name es.toArray = false := by
    rw [aRefKeyMayBeTheName_at, ← Array.any_toList, ← Array.any_toList]
    unfold getL at hl
    split at hl
    · rename_i en he
      rw [List.any_eq_true.mpr ⟨en, List.mem_of_find?_eq_some he, List.find?_some he⟩]; rfl
    · split at hl
      · cases hl
      · rename_i z; rw [Bool.not_eq_true] at z; rw [z, Bool.and_false]
  rw [c]
  refine wpAny_updatePart hdd ?_
  have hn : (s.heap.update dd (Obj.putName name (PyData.keyHash w.params name) (.str name (s.toks + 1)) V)).get? dd = some (dictOf (putL name (PyData.keyHash w.params name) (.str name (s.toks + 1)) V es) (putN name es m)) := by
    rw [Heap.get?_update_self _ hdd (by rw [putName_dict]; rfl), putName_dict]
  have hlen : (putL name (PyData.keyHash w.params name) (.str name (s.toks + 1)) V es).length ≤ es.length + 1 := by
    clear hn c q hl hz hdd I
    induction es with
    | nil => exact Nat.le_refl _
    | cons e r ih => unfold putL; split <;> simp_all
  refine wpAny_bind (wpAny_lookBehind hn (by exact pastItsLine_dict (by rw [List.size_toArray, sizeLine_eq]; lia)) ?_)
  exact wpAny_pure q

inductive SetAR (K : Frag) (name : Str) (ρ : List (Str × Value)) (Q : ∀ uu : Flow, ∀ uu : List (Str × Value), ∀ uu : DH, Prop) (v ov : Value) (D₂ : DH) : Prop
  | mk : ∀ a C d fs, ∀ uu : ov = .ref a, ∀ uu : IsI D₂ a C d fs, ∀ uu : a ≠ d, ∀ uu : findIn K (.ref C) "__setattr__" = some (some (.builtin "object.__setattr__")), ∀ uu : plainOver K C = true, ∀ uu : takerIn K C name = some none, ∀ uu : hasDictIn K C = true, ∀ uu : fs.lookup name = none, ∀ uu : fs.length ≤ 100, ∀ uu : (∀ o', ∀ uu : IsI (put D₂ d o') a C d (fs ++ [(name, v)]), Q .next ρ (put D₂ d o')), SetAR K name ρ Q v ov D₂
theorem T1_setattr {o value : Expr} {name : Str} {p pos : Pos} {Q : ∀ uu : Flow, ∀ uu : List (Str × Value), ∀ uu : DH, Prop} (kin : K.In Hb)
    (h : TE prog w Hb n sc value ρ D (Nx prog w Hb n sc o ρ (SetAR K name ρ Q)))
    (hs : ∀ env, swapsWith value (some (.Attribute o name p)) pos.line env = pure false := by intro _; rfl) :
    T1 prog w Hb n sc (.Assign [.Attribute o name p] value pos) ρ D Q := by
  intro A s X env c
  refine plainObj_wpAny_Assign_Attribute (c.expr h fun V D₁ s₁ q t c₁ => ?_) (hs env)
  refine c₁.expr q fun U D₂ s₂ hq2 t' c₂ => ?_
  obtain ⟨a, C, d, fs, e, ⟨hI, es, m, hd, F⟩, hne, h1, h2, h3, h4, h5, h6, q'⟩ := hq2
  obtain rfl := er_ref e
  have X₀ : K.In s₂.heap := inKeep kin c₂.b c₂.x
  refine wp_setattr X₀ (c₂.d _ _ hI) (c₂.d _ _ hd) h1 h2 h3 h4 (by rw [(F.none h5).1]; rfl) (by rw [F.len]; (exact Nat.le_trans (by assumption) (by decide))) ?_
  have t'' := upd_after (k := s₂.toks + 2) (f := Obj.putName name (PyData.keyHash w.params name) (.str name (s₂.toks + 1)) V) c₂.d c₂.x c₂.j hd (putName_dict _ _ _ _ _ _) rfl
  have hput := F.put (V := V) (hh := PyData.keyHash w.params name) (t := s₂.toks + 1) h5
  refine ⟨ρ, _, q' _ ⟨by rw [put_ne hne]; exact hI, _, _, put_self .., hput⟩, (t.trans t').trans t'', ?_, ?_⟩
  · exact FrameS.of c₂.f fun b hb o ho => ((Heap.SameBut.update s₂.heap d _).2 b (fun z => nosA ((c₂.o b hb).1) hd z.symm)).trans ho
  · exact fun b hb => ⟨by rw [put_ne (fun z => nosA ((c₂.o b hb).1) hd z.symm)]; exact (c₂.o b hb).1, (c₂.o b hb).2⟩

-- after a step that changes one object of D
theorem Cx.upd {A : Around} {s s' : Shared} {X : DH} {env : Env} {a : Addr} {o o' : Obj} (c : Cx Hb n sc ρ D A s X env) (hD : D a = some o) (t : After s X (put D a o') s') (hs : Heap.SameBut a s.heap s'.heap) : Cx Hb n sc ρ (put D a o') A s' X env := by
  have ne : ∀ b, ∀ uu : b ∈ fAddrs env, b ≠ a := fun b hb z => by subst z; have := (c.o b hb).1; rw [hD] at this; cases this
  exact c.next t (FrameS.of c.f fun b hb o ho => (hs.2 b (ne b hb)).trans ho) fun b hb => ⟨by rw [put_ne (ne b hb)]; exact (c.o b hb).1, (c.o b hb).2⟩

theorem wp_setitem {A : Around} {s : Shared} {l : Addr} {vs : List Value} {m : Nat} {k : Int} {t : Tok} {v : Value} {R : ∀ uu : Unit, ∀ uu : Shared, Prop} {E : ∀ uu : Value, ∀ uu : Shared, Prop} (hl : s.heap.get? l = some (lstO vs m)) (h0 : 0 ≤ k) (hfit : k < 2 ^ 63) (hn : k < vs.length)
    (q : ∀ h', ∀ uu : h'.get? l = some (lstO (vs.set k.toNat v) m), ∀ uu : Heap.SameBut l s.heap h', R () { s with heap := h' }) :
    wpAny (model prog w) A (setItem (.ref l) (.int k t) v) R E s := by
  have hL : s.heap.IsList l vs.toArray := ⟨_, hl, rfl, m, rfl⟩
  unfold setItem
  try with_reducible refine wpAny_holding ?_
  first | refine wpAny_bind (wpAny_pure ?_) | skip
  refine wpAny_bind (wpAny_sequenceKey hL.typeIs (by decide) ?_)
  refine wpAny_bind (wpAny_callSpecial?_slot (name := Str.ofString "__setitem__") hL.typeIs slot_list_setitem (wpAny_call_entry slot_list_setitem hL.typeIs entry_list_setitem ?_ (args_list_setitem _ _ _)))
  show wpAny _ _ (Builtin.List.listSubscript? (.int k t) >>= _) _ _ s
  refine wpAny_bind (wpAny_listSubscript_int (fitsIndex_of h0 hfit) ?_)
  clear hfit
  obtain ⟨i, rfl⟩ := Int.eq_ofNat_of_zero_le h0
  have hi : i < vs.length := by lia
  have hx : vs.toArray[i]? = some vs[i] := by simp [hi]
  show wpAny _ _ ((seqItemAt l i >>= fun r => pure (r.map (i, ·))) >>= _) _ _ s
  refine wpAny_bind (wpAny_bind (wpAny_seqItemAt hl rfl (wpAny_pure ?_)))
  rw [hx]
  show wpAny _ _ (setSeqItemAt l i v >>= _) _ _ s
  have e : Obj.mapSeq (·.setIfInBounds i v) (lstO vs m) = lstO (vs.set i v) m := by simp [Obj.mapSeq, lstO]
  have fin : (s.heap.update l (Obj.mapSeq (·.setIfInBounds i v))).get? l = some (lstO (vs.set i v) m) := by rw [Heap.get?_update_self _ hl (by rw [e]; rfl), e]
  refine wpAny_bind (wpAny_setSeqItemAt hl rfl ?_)
  first
    | exact wpAny_bind (wpAny_pure (wpAny_pure ⟨.none, rfl, wpAny_pure (q _ (by simpa using fin) (Heap.SameBut.update ..))⟩))
    | exact wpAny_pure ⟨.none, rfl, wpAny_pure (q _ (by simpa using fin) (Heap.SameBut.update ..))⟩

inductive SetI2 (ρ : List (Str × Value)) (Q : ∀ uu : Flow, ∀ uu : List (Str × Value), ∀ uu : DH, Prop) (v ov iv : Value) (D₃ : DH) : Prop
  | mk : ∀ a us k, ∀ uu : ov = .ref a, ∀ uu : iv = .int k 0, ∀ uu : IsL D₃ a us, ∀ uu : 0 ≤ k, ∀ uu : k < us.length, ∀ uu : k < 2 ^ 62, ∀ uu : (∀ o', ∀ uu : IsL (put D₃ a o') a (us.set k.toNat v), Q .next ρ (put D₃ a o')), SetI2 ρ Q v ov iv D₃
noncomputable def SetIR (prog : Program) (w : World) (Hb : Heap) (n : Nat) (sc : Scope) (i : Expr) (ρ : List (Str × Value)) (Q : ∀ uu : Flow, ∀ uu : List (Str × Value), ∀ uu : DH, Prop) (v ov : Value) (D₂ : DH) : Prop := TE prog w Hb n sc i ρ D₂ (SetI2 ρ Q v ov)
-- xs[k] = v on a list
theorem T1_setitem {o i value : Expr} {p pos : Pos} {Q : ∀ uu : Flow, ∀ uu : List (Str × Value), ∀ uu : DH, Prop}
    (h : TE prog w Hb n sc value ρ D (Nx prog w Hb n sc o ρ (SetIR prog w Hb n sc i ρ Q)))
    (hs : ∀ env, swapsWith value (some (.Subscript o i p)) pos.line env = pure false := by intro _; rfl) :
    T1 prog w Hb n sc (.Assign [.Subscript o i p] value pos) ρ D Q := by
  intro A s X env c
  refine wpAny_Assign_Subscript (c.expr h fun V D₁ s₁ q t c₁ => ?_) (hs env)
  refine c₁.expr q fun U D₂ s₂ q' t' c₂ => ?_
  refine c₂.expr q' fun I D₃ s₃ hq3 t'' c₃ => ?_
  obtain ⟨a, us, k, e1, e2, ⟨vs, m, hD, hm⟩, h0, hk, hz, q''⟩ := hq3
  obtain rfl := er_ref e1
  obtain ⟨tk, rfl⟩ := er_int e2
  have hn : vs.length = us.length := by rw [← hm]; simp
  refine wp_setitem (c₃.d _ _ hD) h0 (by lia) (by lia) fun h' hg hss => ?_
  have t3 : After s₃ X (put D₃ a (lstO (vs.set k.toNat V) m)) { s₃ with heap := h' } := by
    refine ⟨⟨h', s₃.toks, rfl⟩, fun b ob e => ?_, fun b ob e => ?_, c₃.j.put (c₃.j _ _ hD)⟩
    · by_cases z : b = a
      · subst z; rw [put_self] at e; obtain rfl := (Option.some.inj e).symm; exact hg
      · rw [put_ne z] at e; exact (hss.2 b z).trans (c₃.d b ob e)
    · have z : b ≠ a := nosA (c₃.j _ _ hD) e
      exact (hss.2 b z).trans (c₃.x b ob e)
  have c4 := c₃.upd hD t3 hss
  exact ⟨ρ, _, q'' _ ⟨_, m, put_self .., by rw [List.map_set, hm]⟩, ((t.trans t').trans t'').trans t3, c4.f, c4.o⟩
end
end

section
noncomputable def XP (fp : List Addr) (h : Heap) (X : DH) : DH := fun a => if a ∈ fp then h.get? a else X a

section
variable {prog : Program} {w : World} {Hb : Heap} {K : Frag} {n : Nat} {sc : Scope} {ρ : List (Str × Value)} {D : DH}

theorem lt_off {h : Heap} {X : DH} (x : Sub X h) {b : Addr} (e : h.get? b = none) : X b = none := by
  cases q : X b with
  | none => rfl
  | some o => rw [x b o q] at e; cases e

theorem le_XP {fp : List Addr} {h : Heap} {X : DH} (off : ∀ b, ∀ uu : b ∈ fp, X b = none) : Le X (XP fp h X) := fun a o e => by
  have : a ∉ fp := fun q => nos (off a q) e
  rw [XP, if_neg this]; exact e
theorem Cx.apart {A : Around} {s : Shared} {X : DH} {env : Env} {fp : List Addr} (c : Cx Hb n sc ρ D A s X env) (off : ∀ b, ∀ uu : b ∈ fp, D b = none ∧ X b = none ∧ b ∉ fAddrs env) : Cx Hb n sc ρ D A s (XP fp s.heap X) env := by
  have le : Le X (XP fp s.heap X) := le_XP fun b hb => (off b hb).2.1
  refine ⟨c.e, ⟨c.ok.hh, c.ok.dep, c.ok.uni, ?_, c.ok.fr⟩, c.d, fun a o e => ?_, fun a o e => ?_, fun b o e => le _ _ (c.b b o e), c.f, fun a ha => ⟨(c.o a ha).1, ?_⟩⟩
  · refine ex1_2 (c.ok.frs) fun l e r => ?_
    exact ⟨l, e, r.le le⟩
  · unfold XP at e
    split at e
    · exact e
    · exact c.x a o e
  · unfold XP
    rw [if_neg (fun q => nos ((off a q).1) e)]; exact c.j a o e
  · unfold XP
    rw [if_neg (fun q => (off a q).2.2 ha)]; exact (c.o a ha).2

noncomputable def TurnR (Inv : ∀ uu : Nat, ∀ uu : List (Str × Value), ∀ uu : DH, Prop) (Q : ∀ uu : Flow, ∀ uu : List (Str × Value), ∀ uu : DH, Prop) (i : Nat) (f : Flow) (ρ' : List (Str × Value)) (D' : DH) : Prop := match f with
  | .next | .cont => ∃ ρ'', RLe ρ'' ρ' ∧ Inv (i + 1) ρ'' D'
  | .brk => Q .next ρ' D'
  | .ret v => Q (.ret v) ρ' D'
inductive LSt (Hb : Heap) (n : Nat) (sc : Scope) (A : Around) (s : Shared) (X : DH) (env : Env) (fp : List Addr) (N : Nat) (St : ∀ uu : Nat, ∀ uu : Heap, Prop) (Inv : ∀ uu : Nat, ∀ uu : List (Str × Value), ∀ uu : DH, Prop) (k : Nat) (s' : Shared) : Prop
  | mk : ∀ (i : Nat) (ρ' : List (Str × Value)) (D' : DH), ∀ uu : k = N + 1 - i, ∀ uu : i ≤ N, ∀ uu : After s X D' s', ∀ uu : Cx Hb n sc ρ' D' A s' X env, ∀ uu : (∀ b, ∀ uu : b ∈ fp, D' b = none ∧ X b = none ∧ b ∉ fAddrs env), ∀ uu : St i s'.heap, ∀ uu : Inv i ρ' D', LSt Hb n sc A s X env fp N St Inv k s'
noncomputable def LPost (s : Shared) (X : DH) (env : Env) (Q : ∀ uu : Flow, ∀ uu : List (Str × Value), ∀ uu : DH, Prop) (E : ∀ uu : Value, ∀ uu : Shared, Prop) (r : Result) (s' : Shared) : Prop := match r with | .ok f => SPost s X env Q f s' | .error e => E e s'
-- a for loop over what a walk yields
theorem loop_go {A : Around} {s : Shared} {X : DH} {env : Env} {x : Str} {px : Pos} {body : List Stmt} {I : Addr} {fp wr : List Addr} {N : Nat} {P : ∀ uu : Nat, ∀ uu : Value, Prop} {St : ∀ uu : Nat, ∀ uu : Heap, Prop}
    {Q : ∀ uu : Flow, ∀ uu : List (Str × Value), ∀ uu : DH, Prop} (Inv : ∀ uu : Nat, ∀ uu : List (Str × Value), ∀ uu : DH, Prop) (W : Walks prog w A I fp wr N P St) (hfp : ∀ i h, ∀ uu : St i h, ∀ b, ∀ uu : b ∈ fp, ∃ o, h.get? b = some o)
    (hx : sc.names.lookup x = some .local ∨ sc.names.lookup x = some .cell) (c : Cx Hb n sc ρ D A s X env) (off : ∀ b, ∀ uu : b ∈ fp, D b = none ∧ X b = none ∧ b ∉ fAddrs env) (st : St 0 s.heap) (inv : Inv 0 ρ D)
    (turn : ∀ i V ρ D, ∀ uu : i < N, ∀ uu : P i V, ∀ uu : Inv i ρ D, TS prog w Hb n sc body ((x, er V) :: ρ) D (TurnR Inv Q i))
    (done : ∀ ρ D, ∀ uu : Inv N ρ D, Q .next ρ D) {E : ∀ uu : Value, ∀ uu : Shared, Prop} :
    codeAny (model prog w) A (.forLoop (.Name x px) (.ref I) body [] env) (LPost s X env Q E) s := by
  refine codeAny_forLoop (LSt Hb n sc A s X env fp N St Inv) ?_ (N + 1)
    ⟨0, ρ, D, rfl, Nat.zero_le _, .refl c.d c.x c.j, c, off, st, inv⟩
  intro k s' hst
  obtain ⟨i, ρ', D', rfl, hi, t, c', off', st', inv'⟩ := hst
  -- what a step of the walk keeps
  have step : ∀ (h' : Heap) (tk : Nat), ∀ uu : (∀ b o, ∀ uu : b ∉ wr, ∀ uu : s'.heap.get? b = some o, h'.get? b = some o), After s' X D' { s' with heap := h', toks := tk } ∧ Cx Hb n sc ρ' D' A { s' with heap := h', toks := tk } X env := by
    intro h' tk hk
    have kd : Sub D' h' := fun b o e => hk b o (fun m => nos ((off' b (W.sub b m)).1) e) (c'.d b o e)
    have kx : Sub X h' := fun b o e => hk b o (fun m => nos ((off' b (W.sub b m)).2.1) e) (c'.x b o e)
    have ta : After s' X D' { s' with heap := h', toks := tk } := ⟨⟨h', tk, rfl⟩, kd, kx, c'.j⟩
    exact ⟨ta, c'.next ta (FrameS.of c'.f fun b hb o ho => hk b o (fun m => (off' b (W.sub b m)).2.2 hb) ho) c'.o⟩
  by_cases hlt : i < N
  · refine W.item i s' _ _ hlt st' fun V h₁ tk₁ hP st₁ hk₁ => ?_
    obtain ⟨t₁, c₁⟩ := step h₁ tk₁ hk₁
    have c₁' := c₁.apart off'
    have ex : ∀ b, ∀ uu : b ∈ fp, ∃ o, h₁.get? b = some o := hfp _ _ st₁
    have le : Le X (XP fp h₁ X) := le_XP fun b hb => (off' b hb).2.1
    have at' : ∀ b, ∀ uu : b ∈ fp, ∀ o, ∀ uu : h₁.get? b = some o, XP fp h₁ X b = some o := fun b hb o e => by rw [XP, if_pos hb]; exact e
    refine wpAny_assign_Name (c₁'.store hx fun s₂ t₂ c₂ => ?_)
    have st₂ : St (i + 1) s₂.heap := W.frame _ _ _ st₁ fun b hb o e => t₂.x b o (at' b hb o e)
    refine wpAny_mono (turn i V ρ' D' hlt hP inv' A s₂ _ env c₂) (fun f s₃ p => ?_) fun uu uu z => z.elim
    obtain ⟨ρ₃, D₃, q, t₃, f₃, o₃⟩ := p
    have tX : After s X D₃ s₃ := by
      have u := t₂.trans t₃
      exact (t.trans t₁).trans ⟨u.eq, u.d, u.x.le le, fun a o e => le.none (u.j a o e)⟩
    have oX : FOff env D₃ X := fun a ha => ⟨(o₃ a ha).1, le.none (o₃ a ha).2⟩
    have off₃ : ∀ b, ∀ uu : b ∈ fp, D₃ b = none ∧ X b = none ∧ b ∉ fAddrs env := fun b hb => by
      refine ⟨?_, (off' b hb).2⟩
      obtain ⟨o, e⟩ := ex b hb
      cases q : D₃ b with
      | none => rfl
      | some o' => exact absurd (t₃.j b o' q) (by rw [at' b hb o e]; exact fun z => nomatch z)
    have st₃ : St (i + 1) s₃.heap := W.frame _ _ _ st₂ fun b hb o e => by
      obtain ⟨o', e'⟩ := ex b hb
      have e2 := t₂.x b o' (at' b hb o' e')
      rw [e] at e2; obtain rfl := (Option.some.inj e2).symm
      exact t₃.x b _ (at' b hb _ e')
    have again : ∀ uu : (∃ ρ'', RLe ρ'' ρ₃ ∧ Inv (i + 1) ρ'' D₃), ∃ m, m < N + 1 - i ∧ LSt Hb n sc A s X env fp N St Inv m s₃ := fun h => by
      obtain ⟨ρ'', k, iv⟩ := h
      exact ⟨N + 1 - (i + 1), by lia, i + 1, ρ'', D₃, rfl, hlt, tX, ⟨c.e, c.ok, tX.d, tX.x, tX.j, c.b, f₃.le k, oX⟩, off₃, st₃, iv⟩
    cases f with
    | next => exact again q
    | cont => exact again q
    | brk => exact ⟨ρ₃, D₃, q, tX, f₃, oX⟩
    | ret v => exact ⟨ρ₃, D₃, q, tX, f₃, oX⟩
  · have hin : i = N := by lia
    obtain rfl := hin.symm
    refine W.done s' _ _ st' fun h₁ tk₁ hk₁ => wpAny_execs_nil ?_
    obtain ⟨t₁, c₁⟩ := step h₁ tk₁ hk₁
    exact ⟨ρ', D', done _ _ inv', t.trans t₁, c₁.f, c₁.o⟩

theorem range_fp {I : Addr} {a c : Int} {N : Nat} : ∀ i h, ∀ uu : (fun (i : Nat) h => IsRangeIter h I (a + (i : Nat) * c) ((N : Int) - (i : Nat)) c) i h, ∀ b, ∀ uu : b ∈ [I], ∃ o, h.get? b = some o := fun i h e b hb => by
  rw [List.mem_singleton.mp hb]; exact ⟨_, e⟩

inductive ForR (prog : Program) (w : World) (Hb : Heap) (n : Nat) (sc : Scope) (x : Str) (body : List Stmt) (Inv : ∀ uu : Nat, ∀ uu : List (Str × Value), ∀ uu : DH, Prop) (ρ : List (Str × Value)) (Q : ∀ uu : Flow, ∀ uu : List (Str × Value), ∀ uu : DH, Prop) (v : Value) (D' : DH) : Prop
  | mk : ∀ r a b c D₁ ρ₁, ∀ N : Nat, ∀ uu : v = .ref r, ∀ uu : IsR D' r a b c, ∀ uu : Builtin.Range.small a b c = true, ∀ uu : Builtin.Range.rangeSize a b c = (N : Int), ∀ uu : Le D₁ D', ∀ uu : RLe ρ₁ ρ, ∀ uu : Inv 0 ρ₁ D₁, ∀ uu : (∀ (i : Nat) ρ D, ∀ uu : i < N, ∀ uu : Inv i ρ D, TS prog w Hb n sc body ((x, .int (a + i * c) 0) :: ρ) D (TurnR Inv Q i)), ∀ uu : (∀ ρ D, ∀ uu : Inv N ρ D, Q .next ρ D), ForR prog w Hb n sc x body Inv ρ Q v D'
-- for x in range(..)
theorem T1_for_range {x : Str} {px pos : Pos} {iter : Expr} {body : List Stmt} {Q : ∀ uu : Flow, ∀ uu : List (Str × Value), ∀ uu : DH, Prop} (Inv : ∀ uu : Nat, ∀ uu : List (Str × Value), ∀ uu : DH, Prop)
    (hx : sc.names.lookup x = some .local ∨ sc.names.lookup x = some .cell)
    (h : TE prog w Hb n sc iter ρ D (ForR prog w Hb n sc x body Inv ρ Q))
    (hs : ∀ env x, foldedSetIterable iter env x = pure x := by intro _ _; rfl) : T1 prog w Hb n sc (.For (.Name x px) iter body [] pos) ρ D Q := by
  intro A s X env c
  refine wpAny_For (c.expr h fun V D' s₁ hq1 t₁ c₁ => ?_) (hs env)
  obtain ⟨r, a, b, cc, D₁, ρ₁, N, e, ⟨t, u, v, hr⟩, hsm, hN, le, rle, inv, turn, done⟩ := hq1
  obtain rfl := er_ref e
  refine wpAny_pyIter_range (c₁.d _ _ hr) hsm ?_
  have c₂ := (c₁.le rle).leD le
  have t₂ : After s₁ X D₁ { s₁ with heap := s₁.heap.push { cls := .type "range_iterator", data := .fields #[rawInt a, rawInt (Builtin.Range.rangeSize a b cc), rawInt cc] } } := ⟨⟨_, s₁.toks, rfl⟩, c₂.d.push _, c₂.x.push _, c₂.j⟩
  have c₃ : Cx Hb n sc ρ₁ D₁ A { s₁ with heap := s₁.heap.push { cls := .type "range_iterator", data := .fields #[rawInt a, rawInt (Builtin.Range.rangeSize a b cc), rawInt cc] } } X env :=
    c₂.next t₂ (FrameS.of c₂.f fun b hb o ho => Heap.get?_push_of_some _ ho) c₂.o
  have hnone : s₁.heap.get? s₁.heap.objs.size = none := by
    cases q : s₁.heap.get? s₁.heap.objs.size with
    | none => rfl
    | some o => exact absurd (Heap.lt_size q) (Nat.lt_irrefl _)
  have go := loop_go (px := px) (body := body) (Q := Q) Inv (Walks.range (prog := prog) (w := w) c.ok.hh s₁.heap.objs.size a cc N) (range_fp (a := a) (c := cc) (N := N)) hx c₃
    (fun b hb => by
      rw [List.mem_singleton.mp hb]
      refine ⟨lt_off c₂.d hnone, lt_off c₂.x hnone, fun hm => ?_⟩
      obtain ⟨o, ho⟩ := c₂.f.obj hm
      rw [hnone] at ho; cases ho)
    (by show IsRangeIter _ _ _ _ _; rw [hN]; simpa using Heap.get?_push_size _ rfl) inv
    (fun i V ρ D hi hP iv => by
      obtain ⟨t, rfl⟩ := hP
      exact turn i ρ D hi iv) done (E := fun e s' => cameBackBy (model prog w) A env (fun uu uu => False) e s')
  refine codeAny_mono go fun r s' z => ?_
  cases r with
  | ok f => exact (z.step t₂).step t₁
  | error e => exact z

inductive ForS (prog : Program) (w : World) (Hb : Heap) (n : Nat) (sc : Scope) (x : Str) (body : List Stmt) (Inv : ∀ uu : Nat, ∀ uu : List (Str × Value), ∀ uu : DH, Prop) (ρ : List (Str × Value)) (Q : ∀ uu : Flow, ∀ uu : List (Str × Value), ∀ uu : DH, Prop) (v : Value) (D' : DH) : Prop
  | mk : ∀ r us D₁ ρ₁, ∀ uu : v = .ref r, ∀ uu : IsS D' r us, ∀ uu : Le D₁ D', ∀ uu : D₁ r = none, ∀ uu : RLe ρ₁ ρ, ∀ uu : Inv 0 ρ₁ D₁, ∀ uu : (∀ i u ρ D, ∀ uu : us[i]? = some u, ∀ uu : Inv i ρ D, TS prog w Hb n sc body ((x, u) :: ρ) D (TurnR Inv Q i)), ∀ uu : (∀ ρ D, ∀ uu : Inv us.length ρ D, Q .next ρ D), ForS prog w Hb n sc x body Inv ρ Q v D'
-- for x in a list or a tuple of the loop's own
theorem T1_for_seq {x : Str} {px pos : Pos} {iter : Expr} {body : List Stmt} {Q : ∀ uu : Flow, ∀ uu : List (Str × Value), ∀ uu : DH, Prop} (Inv : ∀ uu : Nat, ∀ uu : List (Str × Value), ∀ uu : DH, Prop)
    (hx : sc.names.lookup x = some .local ∨ sc.names.lookup x = some .cell)
    (h : TE prog w Hb n sc iter ρ D (ForS prog w Hb n sc x body Inv ρ Q))
    (hs : ∀ env x, foldedSetIterable iter env x = pure x := by intro _ _; rfl) : T1 prog w Hb n sc (.For (.Name x px) iter body [] pos) ρ D Q := by
  intro A s X env c
  refine wpAny_For (c.expr h fun V D' s₁ hq2 t₁ c₁ => ?_) (hs env)
  obtain ⟨r, us, D₁, ρ₁, e, hS, le, hr0, rle, inv, turn, done⟩ := hq2
  obtain rfl := er_ref e
  have c₂ := (c₁.le rle).leD le
  have hnone : s₁.heap.get? s₁.heap.objs.size = none := by
    cases q : s₁.heap.get? s₁.heap.objs.size with
    | none => rfl
    | some o => exact absurd (Heap.lt_size q) (Nat.lt_irrefl _)
  have both : ∀ (o : Obj) (vs : List Value) (St : ∀ uu : Nat, ∀ uu : Heap, Prop) (ob : Obj), ∀ uu : D' r = some ob, ∀ uu : vs.map er = us, ∀ uu : o.isFreed = false, ∀ uu : Walks prog w A s₁.heap.objs.size [s₁.heap.objs.size, r] [s₁.heap.objs.size] vs.toArray.size (fun i v => vs.toArray[i]? = some v) St,
      (∀ i h, ∀ uu : St i h, ∀ b, ∀ uu : b ∈ [s₁.heap.objs.size, r], ∃ o, h.get? b = some o) → ∀ uu : St 0 (s₁.heap.push o),
      codeAny (model prog w) A (.forLoop (.Name x px) (.ref s₁.heap.objs.size) body [] env) (fun r s' => match r with | .ok f => SPost s X env Q f s' | .error e => cameBackBy (model prog w) A env (fun uu uu => False) e s') { s₁ with heap := s₁.heap.push o } := by
    intro o vs St ob hob hm hf W hfp hst
    have hlen : vs.toArray.size = us.length := by rw [← hm]; simp
    have t₂ : After s₁ X D₁ { s₁ with heap := s₁.heap.push o } := ⟨⟨_, s₁.toks, rfl⟩, c₂.d.push _, c₂.x.push _, c₂.j⟩
    have c₃ : Cx Hb n sc ρ₁ D₁ A { s₁ with heap := s₁.heap.push o } X env := c₂.next t₂ (FrameS.of c₂.f fun b hb o ho => Heap.get?_push_of_some _ ho) c₂.o
    have go := loop_go (px := px) (body := body) (Q := Q) Inv W hfp hx c₃
      (fun b hb => by
        rcases List.mem_cons.mp hb with rfl | hb
        · refine ⟨lt_off c₂.d hnone, lt_off c₂.x hnone, fun hm => ?_⟩
          obtain ⟨o, ho⟩ := c₂.f.obj hm
          rw [hnone] at ho; cases ho
        · rw [List.mem_singleton.mp hb]
          exact ⟨hr0, c₁.j _ _ hob, fun hm => nos ((c₁.o r hm).1) hob⟩)
      hst inv
      (fun i V ρ D hi hP iv => turn i (er V) ρ D (by rw [← hm, List.getElem?_map]; rw [List.getElem?_toArray] at hP; rw [hP]; rfl) iv) (by rw [hlen]; exact done)
      (E := fun e s' => cameBackBy (model prog w) A env (fun uu uu => False) e s')
    refine codeAny_mono go fun r s' z => ?_
    cases r with
    | ok f => exact (z.step t₂).step t₁
    | error e => exact z
  have hne : r ≠ s₁.heap.objs.size := fun q => by
    rcases hS with ⟨vs, m, hD, hm⟩ | ⟨vs, m, hD, hm⟩ <;> exact absurd (Heap.lt_size (c₁.d _ _ hD)) (by rw [q]; exact Nat.lt_irrefl _)
  rcases hS with ⟨vs, m, hD, hm⟩ | ⟨vs, m, hD, hm⟩
  · have hL : s₁.heap.IsList r vs.toArray := ⟨_, c₁.d _ _ hD, rfl, m, rfl⟩
    refine wpAny_pyIter_list hL ?_
    refine both _ vs _ _ hD hm rfl (Walks.list c.ok.hh _ r hne vs.toArray) (fun i h st b hb => ?_) ⟨⟨_, Heap.get?_push_size _ rfl, rfl, rfl⟩, hL.push _⟩
    rcases List.mem_cons.mp hb with rfl | hb
    · obtain ⟨⟨o, ho, _⟩, _⟩ := st; exact ⟨o, ho⟩
    · rw [List.mem_singleton.mp hb]; obtain ⟨_, ⟨o, ho, _⟩⟩ := st; exact ⟨o, ho⟩
  · have hL : s₁.heap.IsTuple r vs.toArray := ⟨_, c₁.d _ _ hD, rfl, m, rfl⟩
    refine wpAny_pyIter_tuple hL ?_
    refine both _ vs _ _ hD hm rfl (Walks.tuple c.ok.hh _ r hne vs.toArray) (fun i h st b hb => ?_) ⟨⟨_, Heap.get?_push_size _ rfl, rfl, rfl⟩, hL.push _⟩
    rcases List.mem_cons.mp hb with rfl | hb
    · obtain ⟨⟨o, ho, _⟩, _⟩ := st; exact ⟨o, ho⟩
    · rw [List.mem_singleton.mp hb]; obtain ⟨_, ⟨o, ho, _⟩⟩ := st; exact ⟨o, ho⟩
end
end

section
-- the scope of a comprehension's block, in a def of that scope
noncomputable def relab (cs sc : Scope) : Scope :=
  { cs with names := cs.names.map fun (n, k) => if (k == .free && sc.kind == .function && sc.names.lookup n == some .cell) then (n, .cell) else (n, k) }

-- which cells a block takes along
theorem closure_is {env : Env} : ∀ (names : List (Str × NameKind)) (acc : List (Str × Addr)), ∀ uu : (∀ x, ∀ uu : (x, NameKind.free) ∈ names, ∃ c, env.cells.lookup x = some c),
    ∃ cl, (forIn names acc fun (p : Str × NameKind) cs => (do if p.2 == .free then (do let c ← cellOf env p.1; pure (ForInStep.yield ((p.1, c) :: cs))) else pure (ForInStep.yield cs) : Sem _)) = pure cl ∧
      ∀ x, (∀ uu : (x, NameKind.free) ∈ names, cl.lookup x = env.cells.lookup x) ∧ (∀ uu : (∃ c, acc.lookup x = some c ∧ env.cells.lookup x = some c), cl.lookup x = env.cells.lookup x)
  | [], acc, _ => ⟨acc, by rw [List.forIn_nil], fun x => ⟨fun h => (nomatch h), fun ⟨c, a, b⟩ => a.trans b.symm⟩⟩
  | (y, k) :: r, acc, h => by
    by_cases hk : k = .free
    · subst hk
      obtain ⟨c, hc⟩ := h y (.head _)
      refine ex1_2 (closure_is r ((y, c) :: acc) fun x hx => h x (.tail _ hx)) fun cl h1 h2 => ?_
      refine ⟨cl, ?_, fun x => ⟨fun hx => ?_, fun ⟨c', a, b⟩ => (h2 x).2 ?_⟩⟩
      · rw [List.forIn_cons]
        simp only [beq_self_eq_true, if_true, cellOf, hc, pure_bind]
        exact h1
      · rcases List.mem_cons.mp hx with e | hx
        · cases e
          exact (h2 y).2 ⟨c, by simp, hc⟩
        · exact (h2 x).1 hx
      · by_cases q : x = y
        · subst q; exact ⟨c, by simp, hc⟩
        · have hb : (x == y) = false := by simpa using q
          have a' : List.lookup x ((y, c) :: acc) = some c' := by rw [List.lookup_cons]; simp only [hb]; exact a
          exact ⟨c', a', b⟩
    · have hb : (k == NameKind.free) = false := by simpa using hk
      refine ex1_2 (closure_is r acc fun x hx => h x (.tail _ hx)) fun cl h1 h2 => ?_
      refine ⟨cl, ?_, fun x => ⟨fun hx => ?_, (h2 x).2⟩⟩
      · rw [List.forIn_cons]
        simp only [hb, Bool.false_eq_true, if_false, pure_bind]
        exact h1
      · rcases List.mem_cons.mp hx with e | hx
        · cases e; exact absurd rfl hk
        · exact (h2 x).1 hx

section
variable {prog : Program} {w : World} {Hb : Heap} {K : Frag} {n : Nat} {sc csc : Scope} {ρ : List (Str × Value)} {D : DH}

-- one turn of a comprehension: its tests, its element
noncomputable def CTurn (prog : Program) (w : World) (Hb : Heap) (n : Nat) (csc : Scope) (ifs : List Expr) (elt : Expr) (ρ : List (Str × Value)) (D : DH) (us : List Value) (J : ∀ uu : List Value, ∀ uu : DH, Prop) : Prop := match ifs with
  | [] => TE prog w Hb n csc elt ρ D (fun u D' => J (us ++ [u]) D')
  | [t] => TB prog w Hb n csc t ρ D (fun b D' => (∀ uu : b = true, TE prog w Hb n csc elt ρ D' (fun u D'' => J (us ++ [u]) D'')) ∧ (∀ uu : b = false, J us D'))
  | _ => False

theorem CTurn.wp {ifs : List Expr} {elt : Expr} {us : List Value} {J : ∀ uu : List Value, ∀ uu : DH, Prop} (h : CTurn prog w Hb n csc ifs elt ρ D us J) {A : Around} {s : Shared} {X : DH} {env : Env}
    (a : EnvOk Hb csc env) (b : Ok Hb n A X) (c : Sub D s.heap) (d : Sub X s.heap) (j : Dj D X) (bi : BaseIn Hb X) (g : FrameX env ρ X) {E : ∀ uu : Value, ∀ uu : Shared, Prop} {R : ∀ uu : Bool, ∀ uu : Shared, Prop} {R' : ∀ uu : Value, ∀ uu : Shared, Prop}
    (yes : ∀ U D' s', ∀ uu : J (us ++ [er U]) D', ∀ uu : After s X D' s', R' U s') (no : ∀ D' s', ∀ uu : J us D', ∀ uu : After s X D' s', R false s')
    (go : ∀ s', ∀ uu : wpAny (model prog w) A (eval elt env) R' E s', R true s') :
    wpAny (model prog w) A (forIn ifs true fun c r => if r = true then do let ok ← isTrue c env (eval c env); pure (ForInStep.yield ok) else pure (ForInStep.yield r)) R E s := by
  match ifs, h with
  | [], h =>
    have h' : TE prog w Hb n csc elt ρ D (fun u D' => J (us ++ [u]) D') := h
    exact wpAny_tests_nil (go _ (TE.seq h' a b c d j bi g fun U D' s' q t => yes U D' s' q t))
  | [t], h =>
    have h' : TB prog w Hb n csc t ρ D (fun b D' => (∀ uu : b = true, TE prog w Hb n csc elt ρ D' (fun u D'' => J (us ++ [u]) D'')) ∧ (∀ uu : b = false, J us D')) := h
    refine wpAny_tests_one (wpAny_mono (h' A s X env a b c d j bi g) (fun bb s' hq1 => ?_) fun uu uu x => x.elim)
    obtain ⟨D', q, t⟩ := hq1
    cases bb
    · exact no D' s' (q.2 rfl) t
    · exact go _ (TE.seq (q.1 rfl) a b t.d t.x t.j bi g fun U D'' s'' q' t' => yes U D'' s'' q' (t.trans t'))

theorem lookup_append {α β : Type} [BEq α] {x : α} : ∀ {l r : List (α × β)} {v : β}, ∀ uu : (l ++ r).lookup x = some v, l.lookup x = some v ∨ (l.lookup x = none ∧ r.lookup x = some v)
  | [], _, _, h => .inr ⟨rfl, h⟩
  | (y, u) :: l, r, v, h => by
    rw [List.cons_append, List.lookup_cons] at h
    rw [List.lookup_cons]
    split at h
    · rename_i q; exact .inl h
    · rename_i q; exact lookup_append h

section
variable (prog : Program) (w : World) (A : Around) (env : Env) (R : ∀ uu : Result, ∀ uu : Shared, Prop)
noncomputable def NB : ∀ uu : Value, ∀ uu : Shared, Prop := notedBy (model prog w) A env fun e s' => R (.error e) s'
noncomputable def CAp (acc : Value) (P : ∀ uu : Shared, Prop) (x : Value) (s : Shared) : Prop := wpAny (model prog w) A (call (.builtin "list.append") [acc, x]) (fun uu s₅ => P s₅) (NB prog w A env R) s
noncomputable def CTst (elt : Expr) (acc : Value) (P : ∀ uu : Shared, Prop) (ok : Bool) (s : Shared) : Prop := if ok = true then wpAny (model prog w) A (eval elt env) (CAp prog w A env R acc P) (NB prog w A env R) s else P s
noncomputable def CIfs (ifs : List Expr) (elt : Expr) (acc : Value) (P : ∀ uu : Shared, Prop) (uu : Unit) (s : Shared) : Prop :=
  wpAny (model prog w) A (forIn ifs true fun c r => if r = true then do let ok ← isTrue c env (eval c env); pure (ForInStep.yield ok) else pure (ForInStep.yield r)) (CTst prog w A env R elt acc P) (NB prog w A env R) s
noncomputable def CAsg (target : Expr) (ifs : List Expr) (elt : Expr) (acc : Value) (P : ∀ uu : Shared, Prop) (v : Value) (uu : Unit) (s : Shared) : Prop := wpAny (model prog w) A (assign target env v) (CIfs prog w A env R ifs elt acc P) (NB prog w A env R) s
noncomputable def CNx (it : Value) (target : Expr) (ifs : List Expr) (elt : Expr) (acc : Value) (P : ∀ uu : Shared, Prop) (r : Option Value) (s : Shared) : Prop := match r with
  | none => R (.ok .next) s
  | some v => wpAny (model prog w) A (letOwnedTupleGo target it v) (CAsg prog w A env R target ifs elt acc P v) (NB prog w A env R) s
end
noncomputable def Ag (I : ∀ uu : Nat, ∀ uu : Shared, Prop) (n : Nat) (s : Shared) : Prop := ∃ m, m < n ∧ I m s
theorem comp_loop {elt target iter : Expr} {ifs : List Expr} {scope : Scope} {pos : Pos} {it acc : Value} {env : Env} {A : Around} {s : Shared} {R : ∀ uu : Result, ∀ uu : Shared, Prop} (I : ∀ uu : Nat, ∀ uu : Shared, Prop)
    (turn : ∀ n s, ∀ uu : I n s, wpAny (model prog w) A (pyNext it) (CNx prog w A env R it target ifs elt acc (Ag I n)) (NB prog w A env R) s)
    (n : Nat) (h : I n s) :
    codeAny (model prog w) A (.compLoop (.ListComp elt [⟨target, iter, ifs, 0⟩] scope pos) 0 it acc env) R s := by
  refine codeAny_loop rfl I (fun n s hI => ?_) n h
  show wpAny _ A ((compTurn (.ListComp elt [⟨target, iter, ifs, 0⟩] scope pos) 0 it acc env).onRaise (fun x => do noteFrame x env; theTreesLotGoes x)) _ _ s
  refine wpAny_noted ?_
  rw [compTurn_list]
  refine wpAny_bind (wpAny_standAt (wpAny_bind (wpAny_mono (turn n s hI) (fun r s₁ h₁ => ?_) fun uu uu h' => h')))
  cases r with
  | none => exact wpAny_pure h₁
  | some v =>
    refine wpAny_bind (wpAny_mono h₁ (fun uu s₀ h₀' => ?_) fun uu uu h' => h')
    refine wpAny_bind (wpAny_mono h₀' (fun uu s₂ h₂ => wpAny_bind (wpAny_mono h₂ (fun ok s₃ h₃ => ?_) fun uu uu h' => h')) fun uu uu h' => h')
    cases ok with
    | false => exact wpAny_pure ⟨rfl, h₃⟩
    | true =>
      exact wpAny_bind (wpAny_bind (wpAny_mono h₃ (fun x s₄ h₄ => wpAny_bind (wpAny_mono h₄ (fun uu s₅ h₅ => wpAny_pure (wpAny_pure ⟨rfl, h₅⟩)) fun uu uu h' => h')) fun uu uu h' => h'))

-- a name bound in a comprehension's block
inductive CAsgP (L : Addr) (kind : ∀ uu : Str, Option NameKind) (s₁ : Shared) (G : ∀ uu : List (Str × Value), Prop) (s₂ : Shared) : Prop
  | mk : ∀ (h' : Heap) (tk : Nat) (m' : ∀ uu : Str, Option Value) (β : List (Str × Value)), ∀ uu : s₂ = { s₁ with heap := h', toks := tk }, ∀ uu : (∀ b o, ∀ uu : b ≠ L, ∀ uu : s₁.heap.get? b = some o, h'.get? b = some o), ∀ uu : h'.Ns L m',
    (∀ y v, ∀ uu : β.lookup y = some v, kind y = some .local ∧ ∃ U, m' y = some U ∧ er U = v) → ∀ uu : G β, CAsgP L kind s₁ G s₂
-- the loop's state
inductive CSt (s : Shared) (X : DH) (I acc L : Addr) (N : Nat) (St : ∀ uu : Nat, ∀ uu : Heap, Prop) (Inv : ∀ uu : Nat, ∀ uu : List Value, ∀ uu : DH, Prop) (k : Nat) (s' : Shared) : Prop
  | mk : ∀ (i : Nat) (us : List Value) (D' : DH) (vs : List Value) (kk : Nat) (m : ∀ uu : Str, Option Value) (h' : Heap) (tk : Nat), ∀ uu : k = N + 1 - i, ∀ uu : i ≤ N, ∀ uu : s' = { s with heap := h', toks := tk }, ∀ uu : After s X D' { s with heap := h', toks := tk }, ∀ uu : (∀ b, ∀ uu : b ∈ [I, acc, L], D' b = none ∧ X b = none),
    St i h' → ∀ uu : Inv i us D', ∀ uu : vs.map er = us, ∀ uu : vs.length ≤ i, ∀ uu : h'.get? acc = some (lstO vs kk), ∀ uu : h'.Ns L m, CSt s X I acc L N St Inv k s'

-- the loop of a comprehension
theorem comp_go {A : Around} {s : Shared} {X : DH} {cenv : Env} {target elt iter : Expr} {ifs : List Expr} {cs : Scope} {pos : Pos} {I acc : Addr} {ro : List (Addr × Obj)} {N : Nat} {P : ∀ uu : Nat, ∀ uu : Value, Prop} {St : ∀ uu : Nat, ∀ uu : Heap, Prop} {m₀ : ∀ uu : Str, Option Value}
    {ρf : List (Str × Value)} {R : ∀ uu : Result, ∀ uu : Shared, Prop} (Inv : ∀ uu : Nat, ∀ uu : List Value, ∀ uu : DH, Prop) (W : Walks prog w A I (I :: ro.map (·.1)) [I] N P St) (hI : ∀ i h, ∀ uu : St i h, ∃ o, h.get? I = some o)
    (ce : EnvOk Hb csc cenv) (ok : Ok Hb n A X) (d : Sub D s.heap) (x : Sub X s.heap) (j : Dj D X) (bi : BaseIn Hb X)
    (off : ∀ b, ∀ uu : b ∈ [I, acc, cenv.locals], D b = none ∧ X b = none) (h1 : I ≠ acc) (h2 : I ≠ cenv.locals) (h3 : acc ≠ cenv.locals) (hns : s.heap.Ns cenv.locals m₀) (hacc : s.heap.get? acc = some (lstO [] 0)) (st : St 0 s.heap)
    (hsz : N ≤ sizeLine) (inv : Inv 0 [] D) (res : ∀ i us D, ∀ uu : Inv i us D, ∀ p, ∀ uu : p ∈ ro, D p.1 = some p.2)
    (fx : ∀ h, ∀ uu : Sub X h, ∀ y v, ∀ uu : ρf.lookup y = some v, (cenv.kindOf y = some .cell ∨ cenv.kindOf y = some .free) ∧ ∃ c V, cenv.cells.lookup y = some c ∧ h.IsCell c (some V) ∧ er V = v)
    (asg : ∀ i V us D (s₁ : Shared) m, ∀ uu : i < N, ∀ uu : P i V, ∀ uu : Inv i us D, ∀ uu : Sub D s₁.heap, ∀ uu : s₁.heap.Ns cenv.locals m, wpAny (model prog w) A (assign target cenv V) (fun uu s₂ => CAsgP cenv.locals cenv.kindOf s₁ (fun β => CTurn prog w Hb n csc ifs elt (β ++ ρf) D us (Inv (i + 1))) s₂) (fun uu uu => False) s₁)
    (done : ∀ us D vs (k : Nat) (h' : Heap) tk, ∀ uu : Inv N us D, ∀ uu : vs.map er = us, ∀ uu : After s X D { s with heap := h', toks := tk }, ∀ uu : h'.get? acc = some (lstO vs k), ∀ uu : (∀ b, ∀ uu : b ∈ [I, acc, cenv.locals], D b = none ∧ X b = none), ∀ uu : (∃ m, h'.Ns cenv.locals m), R (.ok .next) { s with heap := h', toks := tk })
    (hgo : ∀ i V (s' : Shared) (Q' : ∀ uu : Unit, ∀ uu : Shared, Prop) (E' : ∀ uu : Value, ∀ uu : Shared, Prop), ∀ uu : St i s'.heap, ∀ uu : Q' () s', wpAny (model prog w) A (letOwnedTupleGo target (.ref I) V) Q' E' s') :
    codeAny (model prog w) A (.compLoop (.ListComp elt [⟨target, iter, ifs, 0⟩] cs pos) 0 (.ref I) (.ref acc) cenv) R s := by
  refine comp_loop (CSt s X I acc cenv.locals N St Inv) ?_ (N + 1) ⟨0, [], D, [], 0, m₀, s.heap, s.toks, rfl, Nat.zero_le _, rfl, .refl d x j, off, st, inv, rfl, Nat.le_refl _, hacc, hns⟩
  intro k s' hst
  obtain ⟨i, us, D', vs, kk, m, h', tk, rfl, hi, rfl, t, off', st', inv', hm, hlen, hacc', hns'⟩ := hst
  have hroD := res _ _ _ inv'
  by_cases hlt : i < N
  · refine W.item i _ _ _ hlt st' fun V hA tkA hP stA hkA => ?_
    have dA : Sub D' hA := fun b o e => hkA b o (fun q => nosA ((off' I (.head _)).1) e (List.mem_singleton.mp q)) (t.d b o e)
    have xA : Sub X hA := fun b o e => hkA b o (fun q => nosA ((off' I (.head _)).2) e (List.mem_singleton.mp q)) (t.x b o e)
    have accA := hkA _ _ (fun q => h1 (List.mem_singleton.mp q).symm) hacc'
    have nsA : hA.Ns cenv.locals m := hns'.at' fun o e => hkA _ _ (fun q => h2 (List.mem_singleton.mp q).symm) e
    refine hgo _ _ _ _ _ stA ?_
    refine wpAny_mono (asg i V us D' _ m hlt hP inv' dA nsA) (fun uu s₂ z => ?_) fun uu uu z => z.elim
    obtain ⟨hB, tkB, m', β, rfl, kB, nsB, hβ, turn⟩ := z
    have dB : Sub D' hB := fun b o e => kB b o (nosA ((off' cenv.locals (.tail _ (.tail _ (.head _)))).1) e) (dA b o e)
    have xB : Sub X hB := fun b o e => kB b o (nosA ((off' cenv.locals (.tail _ (.tail _ (.head _)))).2) e) (xA b o e)
    have accB := kB _ _ h3 accA
    obtain ⟨oI, hoI⟩ := hI _ _ stA
    have hoI' := kB _ _ h2 hoI
    have stB : St (i + 1) hB := W.frame _ _ _ stA fun b hb o e => by
      rcases List.mem_cons.mp hb with qZ0 | hb
      · obtain rfl := qZ0.symm
        exact kB _ _ h2 e
      · refine ex1_2 (List.mem_map.mp hb) fun p hp eR2 => ?_
        obtain rfl := eR2
        have := dA _ _ (hroD p hp)
        rw [e] at this; obtain rfl := (Option.some.inj this).symm
        exact dB _ _ (hroD p hp)
    -- the walk's, the list's and the block's own objects, set apart
    let fp : List Addr := [I, acc, cenv.locals]
    have le : Le X (XP fp hB X) := le_XP fun b hb => (off' b hb).2
    refine ex3_2 (nsB) fun oC esC epC hoC rC => ?_
    try clear nsB
    have exB : ∀ b, ∀ uu : b ∈ fp, ∃ o, hB.get? b = some o := fun b hb => by
      simp only [fp, List.mem_cons, List.not_mem_nil, or_false] at hb
      rcases hb with qZ0 | qZ1 | qZ2
      · obtain rfl := qZ0.symm
        exact ⟨_, hoI'⟩
      · obtain rfl := qZ1.symm
        exact ⟨_, accB⟩
      · obtain rfl := qZ2.symm
        exact ⟨_, hoC⟩
    have atB : ∀ b, ∀ uu : b ∈ fp, ∀ o, ∀ uu : hB.get? b = some o, XP fp hB X b = some o := fun b hb o e => by rw [XP, if_pos hb]; exact e
    have xB' : Sub (XP fp hB X) hB := fun a o e => by
      unfold XP at e
      split at e
      · exact e
      · exact xB a o e
    have jB : Dj D' (XP fp hB X) := fun a o e => by
      unfold XP
      rw [if_neg (fun q => nos ((off' a q).1) e)]; exact t.j a o e
    have g : FrameX cenv (β ++ ρf) (XP fp hB X) := fun hh hs => by
      refine ⟨m', ⟨oC, esC, epC, hs _ _ (atB _ (.tail _ (.tail _ (.head _))) _ hoC), rC⟩, fun y v e => ?_⟩
      rcases lookup_append e with e | ⟨_, e⟩
      · exact .inl (hβ y v e)
      · exact .inr (fx hh (fun a o q => hs a o (le a o q)) y v e)
    have fin : ∀ (D₂ : DH) (s₃ : Shared), ∀ uu : After { s with heap := hB, toks := tkB } (XP fp hB X) D₂ s₃, After s X D₂ s₃ ∧ (∀ b, ∀ uu : b ∈ [I, acc, cenv.locals], D₂ b = none ∧ X b = none) ∧ s₃.heap.get? acc = some (lstO vs kk) ∧ s₃.heap.Ns cenv.locals m' ∧ (∀ o, ∀ uu : hB.get? I = some o, s₃.heap.get? I = some o) := fun D₂ s₃ u => by
      refine ⟨⟨u.eq, u.d, u.x.le le, fun a o e => le.none (u.j a o e)⟩, fun b hb => ⟨?_, (off' b hb).2⟩, u.x _ _ (atB _ (.tail _ (.head _)) _ accB), ⟨oC, esC, epC, u.x _ _ (atB _ (.tail _ (.tail _ (.head _))) _ hoC), rC⟩, fun o e => u.x _ _ (atB _ (.head _) _ e)⟩
      obtain ⟨o, e⟩ := exB b hb
      cases q : D₂ b with
      | none => rfl
      | some o' => exact absurd (u.j b o' q) (by rw [atB b hb o e]; exact fun z => nomatch z)
    have stay : ∀ (D₂ : DH) (us₂ : List Value) (s₃ : Shared), ∀ uu : Inv (i + 1) us₂ D₂, ∀ uu : Sub D₂ s₃.heap, ∀ uu : (∀ o, ∀ uu : hB.get? I = some o, s₃.heap.get? I = some o), St (i + 1) s₃.heap := fun D₂ us₂ s₃ iv sd si => W.frame _ _ _ stB fun b hb o e => by
      rcases List.mem_cons.mp hb with qZ0 | hb
      · obtain rfl := qZ0.symm
        exact si o e
      · refine ex1_2 (List.mem_map.mp hb) fun p hp eR2 => ?_
        obtain rfl := eR2
        have := dB _ _ (hroD p hp)
        rw [e] at this; obtain rfl := (Option.some.inj this).symm
        exact sd _ _ (res _ _ _ iv p hp)
    refine turn.wp (s := { s with heap := hB, toks := tkB }) ce (ok.le le) dB xB' jB (fun b o e => le _ _ (bi b o e)) g (fun U D₂ s₄ iv u => ?_) (fun D₂ s₃ iv u => ?_) (fun s₃ z => z)
    · refine ex0_5 (fin D₂ s₄ u) fun u1 u2 u3 u4 u5 => ?_
      have st₄ := stay D₂ _ s₄ iv u.d u5
      refine ex2_1 (u1.eq) fun h₄ tk₄ e₄ => ?_
      subst e₄
      refine wpAny_list_append_plain ⟨kk, u3⟩ (fun h₅ hp hs => ?_) (by simp; lia)
      obtain ⟨k5, hp⟩ := hp
      have a5 : After s X D₂ { s with heap := h₅, toks := tk₄ } := ⟨⟨h₅, tk₄, rfl⟩, fun b o e => (hs.2 b (nosA ((u2 acc (.tail _ (.head _))).1) e)).trans (u1.d b o e),
        fun b o e => (hs.2 b (nosA ((u2 acc (.tail _ (.head _))).2) e)).trans (u1.x b o e), u1.j⟩
      refine ⟨N + 1 - (i + 1), by lia, i + 1, us ++ [er U], D₂, vs ++ [U], k5, m', h₅, tk₄, rfl, hlt, rfl, a5, u2, ?_, iv, by rw [List.map_append, hm]; rfl, by simp; omega, by simpa using hp, u4.sameBut hs (Ne.symm h3)⟩
      exact W.frame _ _ _ st₄ fun b hb o e => (hs.2 b (fun q => by
        rcases List.mem_cons.mp hb with qZ0 | hb
        · obtain rfl := qZ0.symm
          exact h1 q
        · refine ex1_2 (List.mem_map.mp hb) fun p hp eR2 => ?_
          obtain rfl := eR2
          have := res _ _ _ iv p hp
          rw [q, (u2 acc (.tail _ (.head _))).1] at this; cases this)).trans e
    · refine ex0_5 (fin D₂ s₃ u) fun u1 u2 u3 u4 u5 => ?_
      have st₄ := stay D₂ _ s₃ iv u.d u5
      refine ex2_1 (u1.eq) fun h₄ tk₄ e₄ => ?_
      subst e₄
      exact ⟨N + 1 - (i + 1), by lia, i + 1, us, D₂, vs, kk, m', h₄, tk₄, rfl, hlt, rfl, u1, u2, st₄, iv, hm, by lia, u3, u4⟩
  · have hin : i = N := by lia
    obtain rfl := hin.symm
    refine W.done _ _ _ st' fun hA tkA hkA => ?_
    have dA : Sub D' hA := fun b o e => hkA b o (fun q => nosA ((off' I (.head _)).1) e (List.mem_singleton.mp q)) (t.d b o e)
    have xA : Sub X hA := fun b o e => hkA b o (fun q => nosA ((off' I (.head _)).2) e (List.mem_singleton.mp q)) (t.x b o e)
    have accA := hkA _ _ (fun q => h1 (List.mem_singleton.mp q).symm) hacc'
    have nsA : hA.Ns cenv.locals m := hns'.at' fun o e => hkA _ _ (fun q => h2 (List.mem_singleton.mp q).symm) e
    exact done us D' vs kk hA tkA inv' hm ⟨⟨hA, tkA, rfl⟩, dA, xA, t.j⟩ accA off' ⟨m, nsA⟩
end
end

section
-- what a comprehension walks through: its object, its values
inductive Src (D : DH) : ∀ uu : Addr, ∀ uu : List Value, Prop
  | range {r : Addr} {a b c : Int} {N : Nat} : ∀ uu : IsR D r a b c, ∀ uu : Builtin.Range.small a b c = true, ∀ uu : Builtin.Range.rangeSize a b c = (N : Int), Src D r ((List.range N).map fun (i : Nat) => Value.int (a + i * c) 0)
  | seq {r : Addr} {us : List Value} : ∀ uu : IsS D r us, Src D r us

theorem relabel_is {cs : Scope} {env : Env} : relabel cs env = relab cs env.scope := rfl

section
variable {prog : Program} {w : World} {Hb : Heap} {K : Frag} {n : Nat} {sc : Scope} {ρ : List (Str × Value)} {D : DH}

-- a target takes a value, in a scope of its own
noncomputable def Asg (prog : Program) (w : World) (csc : Scope) (target : Expr) (u : Value) (D : DH) (β : List (Str × Value)) : Prop :=
  ∀ (A : Around) (s : Shared) (env : Env) (m : ∀ uu : Str, Option Value) (V : Value) (E : ∀ uu : Value, ∀ uu : Shared, Prop), ∀ uu : A.handled = none, ∀ uu : env.scope = csc, ∀ uu : csc.kind = .function, ∀ uu : Sub D s.heap, ∀ uu : s.heap.Ns env.locals m, ∀ uu : er V = u,
    wpAny (model prog w) A (assign target env V) (fun uu s₂ => ∃ h' tk m', s₂ = { s with heap := h', toks := tk } ∧ (∀ b o, ∀ uu : b ≠ env.locals, ∀ uu : s.heap.get? b = some o, h'.get? b = some o) ∧ h'.Ns env.locals m' ∧
      (∀ y v, ∀ uu : β.lookup y = some v, csc.names.lookup y = some .local ∧ ∃ U, m' y = some U ∧ er U = v)) E s

theorem Asg_name {csc : Scope} {x : Str} {px : Pos} {u : Value} (hx : csc.names.lookup x = some .local) : Asg prog w csc (.Name x px) u D [(x, u)] := by
  intro A s env m V E _ hs hk _ hn hv
  subst hs
  refine wpAny_assign_Name (wpAny_storeName_local hx hn (fun h' hn' hs' => ⟨h', _, _, rfl, fun b o hb e => (hs'.2 b hb).trans e, hn', fun y v e => ?_⟩) (by rw [hk]; rfl))
  rcases look_cons e with ⟨rfl, rfl⟩ | ⟨hy, e⟩
  · exact ⟨hx, V, if_pos rfl, hv⟩
  · cases e

noncomputable def namesE (xs : List (Str × Pos)) : List Expr := xs.map fun p => .Name p.1 p.2
theorem assignEach_names {env : Env} {es : List Expr} {xs : List (Str × Pos)} (h : es = namesE xs) : assignEach es env = xs.map fun p => (false, assign (.Name p.1 p.2) env) := by
  subst h
  induction xs with
  | nil => rfl
  | cons p r ih => exact congrArg _ ih

theorem names_go {A : Around} {env : Env} {E : ∀ uu : Value, ∀ uu : Shared, Prop} (hk : env.scope.kind = .function) : ∀ (xs : List (Str × Pos)) (Vs : List Value) (s : Shared) (m : ∀ uu : Str, Option Value), ∀ uu : xs.length = Vs.length, ∀ uu : (xs.map (·.1)).Nodup, ∀ uu : (∀ p, ∀ uu : p ∈ xs, env.scope.names.lookup p.1 = some .local), ∀ uu : s.heap.Ns env.locals m,
    wpAny (model prog w) A (assignInOrder (xs.map fun p => assign (.Name p.1 p.2) env) Vs) (fun uu s₂ => ∃ h' tk m', s₂ = { s with heap := h', toks := tk } ∧ (∀ b o, ∀ uu : b ≠ env.locals, ∀ uu : s.heap.get? b = some o, h'.get? b = some o) ∧ h'.Ns env.locals m' ∧
      (∀ y, ∀ uu : (∀ p, ∀ uu : p ∈ xs, p.1 ≠ y), m' y = m y) ∧ ∀ y v, ∀ uu : ((xs.map (·.1)).zip (Vs.map er)).lookup y = some v, env.scope.names.lookup y = some .local ∧ ∃ U, m' y = some U ∧ er U = v) E s
  | [], [], s, m, _, _, _, hn => wpAny_assignInOrder_none ⟨s.heap, s.toks, m, rfl, fun uu uu uu e => e, hn, fun uu uu => rfl, fun uu uu e => (by cases e)⟩
  | [], _ :: _, _, _, hl, _, _, _ => by simp at hl
  | _ :: _, [], _, _, hl, _, _, _ => by simp at hl
  | (x, p) :: xs, V :: Vs, s, m, hl, nd, hx, hn => by
    rw [List.map_cons, List.nodup_cons] at nd
    rw [List.map_cons]
    refine wpAny_assignInOrder_more (wpAny_assign_Name (wpAny_storeName_local (hx (x, p) (.head _)) hn (fun h' hn' hs' => ?_) (by rw [hk]; rfl)))
    refine wpAny_mono (names_go hk xs Vs _ _ (by simpa using hl) nd.2 (fun q hq => hx q (.tail _ hq)) hn') (fun uu s₂ z => ?_) fun uu uu z => z
    refine ex3_5 (z) fun h₂ tk m' eR3 k hn₂ k2 k3 => ?_
    try clear z
    obtain rfl := eR3
    refine ⟨h₂, tk, m', rfl, fun b o hb e => k b o hb ((hs'.2 b hb).trans e), hn₂, fun y hy => ?_, fun y v e => ?_⟩
    · exact (k2 y fun q hq => hy q (.tail _ hq)).trans (if_neg fun z => hy (x, p) (.head _) z.symm)
    · rcases look_cons e with ⟨rfl, rfl⟩ | ⟨hy, e⟩
      · exact ⟨hx (y, p) (.head _), V, (k2 y fun q hq z => nd.1 (List.mem_map.mpr ⟨q, hq, z⟩)).trans (if_pos rfl), rfl⟩
      · exact k3 y v e

theorem Asg_tuple {csc : Scope} {es : List Expr} {x1} {pos : Pos} {t : Addr} {us : List Value} {xs : List (Str × Pos)} (hes : es = namesE xs) (ht : IsT D t us) (hl : xs.length = us.length) (nd : (xs.map (·.1)).Nodup)
    (hx : (xs.all fun p => csc.names.lookup p.1 == some .local) = true) : Asg prog w csc (.Tuple es x1 pos) (.ref t) D ((xs.map (·.1)).zip us) := by
  intro A s env m V E hh hs hk hd hn hv
  subst hs
  obtain rfl := er_ref hv
  obtain ⟨vs, mm, hD, hm⟩ := ht
  subst hm
  have hT : s.heap.IsTuple t vs.toArray := ⟨_, hd _ _ hD, rfl, mm, rfl⟩
  have hlen : xs.length = vs.length := by simpa using hl
  have hx' : ∀ p, ∀ uu : p ∈ xs, env.scope.names.lookup p.1 = some .local := fun p hp => by simpa using List.all_eq_true.mp hx p hp
  refine wpAny_assign_Tuple hh hT (by rw [assignEach_names hes]; simpa using hlen) (by rw [assignEach_names hes]; simp [List.findIdx?_eq_none_iff]) fun h' he => ?_
  rw [assignEach_names hes, List.map_map]
  have hn' : h'.Ns env.locals m := by
    refine ex3_2 (hn) fun o a b c d => ?_
    try clear hn
    exact ⟨o, a, b, he _ _ (Nat.ne_of_lt (Heap.lt_size c)) c, d⟩
  refine wpAny_mono (names_go hk xs vs { s with heap := h' } m hlen nd hx' hn') (fun uu s₂ z => ?_) fun uu uu z => z
  refine ex3_5 (z) fun h₂ tk m' eR3 k hn₂ uu k3 => ?_
  try clear z
  obtain rfl := eR3
  exact ⟨h₂, tk, m', rfl, fun b o hb e => k b o hb (he _ _ (Nat.ne_of_lt (Heap.lt_size e)) e), hn₂, k3⟩
end
end

section
theorem closure_for {scope : Scope} {env : Env} (h : ∀ x, ∀ uu : (x, NameKind.free) ∈ scope.names, ∃ c, env.cells.lookup x = some c) :
    ∃ cl, closureFor scope env = pure cl ∧ ∀ x, ∀ uu : (x, NameKind.free) ∈ scope.names, cl.lookup x = env.cells.lookup x := by
  refine ex1_2 (closure_is scope.names [] h) fun cl h1 h2 => ?_
  refine ⟨cl, Eq.trans ?_ h1, fun x => (h2 x).1⟩
  unfold closureFor
  simp only [bind_pure]

theorem mem_of_lookupK {x : Str} {k : NameKind} : ∀ {l : List (Str × NameKind)}, ∀ uu : l.lookup x = some k, (x, k) ∈ l
  | [], h => by cases h
  | (y, d) :: r, h => by
    rw [List.lookup_cons] at h
    split at h
    · rename_i q; rw [beq_iff_eq] at q; subst q; obtain rfl := (Option.some.inj h).symm; exact .head _
    · exact .tail _ (mem_of_lookupK h)

-- names a block takes along, and the block's own
noncomputable def compOk (sc cs : Scope) (ρf : List (Str × Value)) : Bool :=
  (ρf.all fun p => cs.names.lookup p.1 == some .free && (sc.names.lookup p.1 == some .cell || sc.names.lookup p.1 == some .free)) &&
  (cs.names.all fun p => (p.2 != .free || (ρf.lookup p.1).isSome) && p.2 != .cell && (p.2 != .local || cs.names.lookup p.1 == some .local)) && (cs.kind == .function)

section
variable {prog : Program} {w : World} {Hb : Heap} {K : Frag} {n : Nat} {sc : Scope} {ρ : List (Str × Value)} {D : DH}

theorem lookup_relab_free {sc cs : Scope} (hk : sc.kind = .function) {x : Str} (h : cs.names.lookup x = some .free) (h2 : sc.names.lookup x = some .cell ∨ sc.names.lookup x = some .free) :
    (relab cs sc).names.lookup x = some .cell ∨ (relab cs sc).names.lookup x = some .free := by
  unfold relab
  show List.lookup x (cs.names.map _) = _ ∨ List.lookup x (cs.names.map _) = _
  revert h
  generalize cs.names = l
  induction l with
  | nil => intro h; cases h
  | cons p r ih =>
    obtain ⟨y, k⟩ := p
    intro h
    show List.lookup x ((if (k == NameKind.free && sc.kind == .function && sc.names.lookup y == some .cell) = true then (y, NameKind.cell) else (y, k)) :: _) = _ ∨ List.lookup x ((if (k == NameKind.free && sc.kind == .function && sc.names.lookup y == some .cell) = true then (y, NameKind.cell) else (y, k)) :: _) = _
    rw [List.lookup_cons] at h
    by_cases q : x = y
    · subst q
      simp only [beq_self_eq_true] at h
      obtain rfl := (Option.some.inj h).symm
      by_cases hc : (NameKind.free == NameKind.free && sc.kind == .function && sc.names.lookup x == some .cell) = true
      · left; rw [if_pos hc]; simp
      · right; rw [if_neg hc]; simp
    · have hb : (x == y) = false := by simpa using q
      simp only [hb] at h
      by_cases hc : (k == NameKind.free && sc.kind == .function && sc.names.lookup y == some .cell) = true
      · rw [if_pos hc]; simp only [List.lookup_cons, hb]; exact ih h
      · rw [if_neg hc]; simp only [List.lookup_cons, hb]; exact ih h

theorem letGo_range {A : Around} {E : ∀ uu : Value, ∀ uu : Shared, Prop} {target : Expr} {I : Addr} {x l st : Int} {v : Value} {Q' : ∀ uu : Unit, ∀ uu : Shared, Prop} {s' : Shared} (hit : IsRangeIter s'.heap I x l st) (h : Q' () s') :
    wpAny (model prog w) A (letOwnedTupleGo target (.ref I) v) Q' E s' := by
  unfold letOwnedTupleGo
  cases target <;> first
    | exact wpAny_pure h
    | (cases v <;> first
        | exact wpAny_pure h
        | (refine wpAny_bind (wpAny_load hit ?_)
           exact wpAny_pure h))
theorem letGo_list {A : Around} {E : ∀ uu : Value, ∀ uu : Shared, Prop} {target : Expr} {I t : Addr} {i : Nat} {v : Value} {Q' : ∀ uu : Unit, ∀ uu : Shared, Prop} {s' : Shared} (hit : s'.heap.IsListIter I t i) (h : Q' () s') :
    wpAny (model prog w) A (letOwnedTupleGo target (.ref I) v) Q' E s' := by
  refine ex1_3 (hit) fun o ho hc hd => ?_
  try clear hit
  unfold letOwnedTupleGo
  cases target <;> first
    | exact wpAny_pure h
    | (cases v <;> first
        | exact wpAny_pure h
        | (refine wpAny_bind (wpAny_load ho ?_)
           rw [hc, hd]
           exact wpAny_pure h))

-- an element bound, and the rest
inductive TurnC (prog : Program) (w : World) (Hb : Heap) (n : Nat) (cs' : Scope) (target elt : Expr) (ifs : List Expr) (ρf : List (Str × Value)) (u : Value) (D₂ : DH) (out : List Value) (J : ∀ uu : List Value, ∀ uu : DH, Prop) : Prop
  | mk : ∀ β, ∀ uu : Asg prog w cs' target u D₂ β, ∀ uu : CTurn prog w Hb n cs' ifs elt (β ++ ρf) D₂ out J, TurnC prog w Hb n cs' target elt ifs ρf u D₂ out J
-- what a comprehension's block shows
inductive CompOf (prog : Program) (w : World) (Hb : Heap) (n : Nat) (sc cs : Scope) (target elt : Expr) (ifs : List Expr) (ρf : List (Str × Value)) (r : Addr) (us : List Value) (D' : DH) (Fin : ∀ uu : List Value, ∀ uu : DH, Prop) : Prop
  | mk : ∀ Inv : ∀ uu : Nat, ∀ uu : List Value, ∀ uu : DH, Prop, ∀ uu : Inv 0 [] D', ∀ uu : (∀ i out D₂, ∀ uu : Inv i out D₂, ∀ o, ∀ uu : D' r = some o, D₂ r = some o),
    (∀ i u out D₂, ∀ uu : us[i]? = some u, ∀ uu : Inv i out D₂, TurnC prog w Hb n (relab cs sc) target elt ifs ρf u D₂ out (Inv (i + 1))) →
    (∀ out D₂, ∀ uu : Inv us.length out D₂, Fin out D₂) → CompOf prog w Hb n sc cs target elt ifs ρf r us D' Fin
inductive CompG (prog : Program) (w : World) (Hb : Heap) (n : Nat) (sc : Scope) (cs : Scope) (target elt : Expr) (ifs : List Expr) (ρf : List (Str × Value)) (Fin : ∀ uu : List Value, ∀ uu : DH, Prop) (v : Value) (D' : DH) : Prop
  | mk : ∀ r us, ∀ uu : v = .ref r, ∀ uu : Src D' r us, ∀ uu : us.length ≤ sizeLine, ∀ uu : CompOf prog w Hb n sc cs target elt ifs ρf r us D' Fin, CompG prog w Hb n sc cs target elt ifs ρf Fin v D'

-- the comprehension, whatever is done with its list
set_option tactic.hygienic true in
theorem comp_run {A : Around} {s : Shared} {X : DH} {env : Env} {target elt iter : Expr} {ifs : List Expr} {cs : Scope} {pos pos' : Pos} {ρf : List (Str × Value)} {use : Option (∀ uu : Value, Sem Unit)} {Q : ∀ uu : Value, ∀ uu : Shared, Prop} {E : ∀ uu : Value, ∀ uu : Shared, Prop} {Fin : ∀ uu : List Value, ∀ uu : DH, Prop}
    (hok : compOk sc cs ρf = true) (hρ : RLe ρf ρ) (h : TE prog w Hb n sc iter ρ D (CompG prog w Hb n sc cs target elt ifs ρf Fin))
    (a : EnvOk Hb sc env) (b : Ok Hb n A X) (c : Sub D s.heap) (d : Sub X s.heap) (j : Dj D X) (bi : BaseIn Hb X) (g : FrameX env ρ X)
    (fin : ∀ C acc out D₂ vs k h' tk, ∀ uu : Fin out D₂, ∀ uu : vs.map er = out, ∀ uu : After s X D₂ { s with heap := h', toks := tk }, ∀ uu : acc ≠ C, ∀ uu : h'.get? acc = some (lstO vs k), ∀ uu : D₂ acc = none, ∀ uu : X acc = none, ∀ uu : D₂ C = none, ∀ uu : X C = none, ∀ uu : (∃ m, h'.Ns C m),
      compPost (model prog w) A E use Q (.ref acc) C (.ok .next) { s with heap := h', toks := tk })
    (hs : ∀ x, foldedSetIterable iter env x = pure x) :
    wpAny (model prog w) A (comprehension (.ListComp elt [⟨target, iter, ifs, 0⟩] cs pos) cs env pos' (newList []) false (eval iter env) use) Q E s := by
  have hse := a.se
  have hkf : env.scope.kind = .function := by rw [hse]; exact a.kf
  unfold compOk at hok
  simp only [Bool.and_eq_true, List.all_eq_true, beq_iff_eq, Bool.or_eq_true] at hok
  obtain ⟨⟨ok1, ok2⟩, hkind⟩ := hok
  -- where the names stand
  have cellAt : ∀ hh, ∀ uu : Sub X hh, ∀ y v, ∀ uu : ρf.lookup y = some v, ∃ cc V, env.cells.lookup y = some cc ∧ hh.IsCell cc (some V) ∧ er V = v := fun hh hx y v e => by
    refine ex1_2 (g hh hx) fun m uu q => ?_
    have hm := mem_lookup e
    rcases q y v (hρ y v e) with ⟨k1, _⟩ | ⟨_, cc, V, e1, e2, r⟩
    · exfalso
      have := (ok1 _ hm).2
      have k1' : sc.names.lookup y = some .local := by rw [← hse]; exact k1
      rcases this with z | z <;> rw [k1'] at z <;> cases z
    · exact ⟨cc, V, e1, e2, r⟩
  have hfree : ∀ x, ∀ uu : (x, NameKind.free) ∈ cs.names, ∃ c, env.cells.lookup x = some c := fun x hx => by
    have z := ((ok2 _ hx).1.1)
    simp only [bne_self_eq_false, Bool.false_eq_true, false_or] at z
    obtain ⟨v, hv⟩ := Option.isSome_iff_exists.mp z
    refine ex2_2 (cellAt _ d x v hv) fun cc V e1 uu => ?_
    exact ⟨cc, e1⟩
  refine ex1_2 (closure_for hfree) fun cl hclos hcl => ?_
  have hcell : ∀ y, ∀ uu : y ∈ cs.names, y.2 ≠ .cell := fun y hy => by simpa using (ok2 y hy).1.2
  have hnames : ∀ y, ∀ uu : y ∈ cs.names, ∀ uu : y.2 = .local, cs.names.lookup y.1 = some .local := fun y hy e => by
    have z := (ok2 y hy).2
    rw [e] at z
    simpa using z
  refine wpAny_comprehension_free rfl hs hclos hkind hnames (TE.seq h a b c d j bi g fun V D' s₁ q t => ?_)
  obtain ⟨r, us, e, src, hsz, Inv, inv, res, turn, done⟩ := q
  obtain rfl := er_ref e
  refine ex2_1 (t.eq) fun h₀ tk₀ eR2 => ?_
  obtain rfl := eR2
  have td : Sub D' h₀ := t.d
  have tx : Sub X h₀ := t.x
  have fresh : ∀ a, ∀ uu : h₀.objs.size ≤ a, h₀.get? a = none := fun a ha => by
    cases e : h₀.get? a with
    | none => rfl
    | some o' => exact absurd (Heap.lt_size e) (Nat.not_lt.mpr ha)
  have offD : ∀ {Z : DH}, ∀ uu : Sub Z h₀, ∀ a, ∀ uu : h₀.objs.size ≤ a, Z a = none := fun {Z} hz a ha => by
    cases q : Z a with
    | none => rfl
    | some o => have := hz a o q; rw [fresh a ha] at this; cases this
  have both : ∀ (o : Obj) (ro : List (Addr × Obj)) (N : Nat) (P : ∀ uu : Nat, ∀ uu : Value, Prop) (St : ∀ uu : Nat, ∀ uu : Heap, Prop), ∀ uu : o.isFreed = false, ∀ uu : Walks prog w A h₀.objs.size (h₀.objs.size :: ro.map (·.1)) [h₀.objs.size] N P St,
      (∀ i h, ∀ uu : St i h, ∃ o, h.get? h₀.objs.size = some o) → ∀ uu : St 0 (h₀.push o), ∀ uu : N = us.length, ∀ uu : (∀ i V, ∀ uu : i < N, ∀ uu : P i V, us[i]? = some (er V)), ∀ uu : (∀ p, ∀ uu : p ∈ ro, D' p.1 = some p.2 ∧ p.1 = r),
      (∀ i V (s' : Shared) (Q' : ∀ uu : Unit, ∀ uu : Shared, Prop) (E' : ∀ uu : Value, ∀ uu : Shared, Prop), ∀ uu : St i s'.heap, ∀ uu : Q' () s', wpAny (model prog w) A (letOwnedTupleGo target (.ref h₀.objs.size) V) Q' E' s') →
      wpAny (model prog w) A (newList []) (fun acc s₃ => wpAny (model prog w) A (newFunctionEnv cs env.globals cl [] env.qual none .none (some env)) (fun cenv s₄ =>
        codeAny (model prog w) A (.compStart (.ListComp elt [⟨target, iter, ifs, 0⟩] cs pos) 0 (.ref h₀.objs.size) acc { cenv with scope := relabel cs env }) (compPost (model prog w) A E use Q acc cenv.locals) s₄) E s₃) E { s with heap := h₀.push o, toks := tk₀ } := by
    intro o ro N P St ho W hI hst hN hP hro hgo
    refine wpAny_newObj_type (wpAny_newFunctionEnv hcell (by intro y hy; simp at hy) (fun h₁ hns₁ hsb₁ => ?_) hkind)
    dsimp only at hns₁ hsb₁ ⊢
    have eA : (h₀.push o).objs.size = h₀.objs.size + 1 := Heap.size_push ..
    generalize hacc : (h₀.push o).objs.size = acc at hns₁ hsb₁ eA ⊢
    generalize hH2 : (h₀.push o).push { cls := .type "list", dict := none, data := .seq ([] : List Value).toArray } = H2 at hns₁ hsb₁ ⊢
    have eC : H2.objs.size = h₀.objs.size + 2 := by rw [← hH2, Heap.size_push, Heap.size_push]
    generalize hC : H2.objs.size = C at hns₁ hsb₁ eC ⊢
    have lIC : h₀.objs.size < C := by rw [eC]; exact Nat.lt_succ_of_lt (Nat.lt_succ_self _)
    have lIA : h₀.objs.size < acc := by rw [eA]; exact Nat.lt_succ_self _
    have lAC : acc < C := by rw [eC, eA]; exact Nat.lt_succ_self _
    have nIA : h₀.objs.size ≠ acc := Nat.ne_of_lt lIA
    have nIC : h₀.objs.size ≠ C := Nat.ne_of_lt lIC
    have nAC : acc ≠ C := Nat.ne_of_lt lAC
    have old : ∀ b x, ∀ uu : h₀.get? b = some x, h₁.get? b = some x := fun b x e => hsb₁.extBut b x (Nat.ne_of_lt (Nat.lt_of_lt_of_le (Heap.lt_size e) (Nat.le_of_lt lIC))) (Heap.get?_push_of_some _ (hH2 ▸ Heap.get?_push_of_some _ (Heap.get?_push_of_some _ e)))
    have atI : ∀ x, ∀ uu : (h₀.push o).get? h₀.objs.size = some x, h₁.get? h₀.objs.size = some x := fun x e => hsb₁.extBut _ x nIC (Heap.get?_push_of_some _ (hH2 ▸ Heap.get?_push_of_some _ e))
    have atA : h₁.get? acc = some (lstO [] 0) := hsb₁.extBut _ _ nAC (Heap.get?_push_of_some _ (by rw [← hH2, ← hacc]; exact Heap.get?_push_size _ rfl))
    have d₁ : Sub D' h₁ := fun b x e => old b x (td b x e)
    have x₁ : Sub X h₁ := fun b x e => old b x (tx b x e)
    have hst₁ : St 0 h₁ := W.frame _ _ _ hst fun b hb x e => by
      rcases List.mem_cons.mp hb with rfl | hb
      · exact atI x e
      · refine ex1_2 (List.mem_map.mp hb) fun p hp eR2 => ?_
        obtain rfl := eR2
        have z := td _ _ (hro p hp).1
        have z2 := Heap.get?_push_of_some o z
        rw [e] at z2; obtain rfl := (Option.some.inj z2).symm
        exact old _ _ z
    have loop : codeAny (model prog w) A (.compLoop (.ListComp elt [⟨target, iter, ifs, 0⟩] cs pos) 0 (.ref h₀.objs.size) (.ref acc) (compEnvC cs cl C env)) (compPost (model prog w) A E use Q (.ref acc) C) { s with heap := h₁, toks := tk₀ } := by
      refine comp_go (Hb := Hb) (n := n) (csc := relab cs sc) (cenv := compEnvC cs cl C env) (ρf := ρf) (ro := ro) (D := D') (X := X) Inv W hI ⟨?_, hkind, a.gl, a.bi, ?_⟩ b d₁ x₁ t.j bi ?_ nIA nIC nAC hns₁ atA hst₁
        (by rw [hN]; exact hsz) inv (fun i out D₂ iv p hp => ?_) (fun hh hx y v e => ?_) (fun i V out D₂ s₂ m₂ hi hPi iv hd₂ hm₂ => ?_) (fun out D₂ vs k h' tk iv hm aft hat off hm' => ?_) hgo
      · show relabel cs env = _
        rw [relabel_is, hse]
      · show Hb.get? C = none
        cases q : Hb.get? C with
        | none => rfl
        | some x => have := offD tx C (Nat.le_of_lt lIC); rw [bi _ _ q] at this; cases this
      · intro z hz
        have hge : h₀.objs.size ≤ z := by
          simp only [List.mem_cons, List.not_mem_nil, or_false] at hz
          rcases hz with qZ0 | qZ1 | hz
          · obtain rfl := qZ0.symm
            exact Nat.le_refl _
          · obtain rfl := qZ1.symm
            exact Nat.le_of_lt lIA
          · have hz' : z = C := hz
            rw [hz']; exact Nat.le_of_lt lIC
        exact ⟨offD td z hge, offD tx z hge⟩
      · obtain ⟨z1, z2⟩ := hro p hp
        have z3 := res _ _ _ iv p.2 (z2 ▸ z1)
        rw [z2]; exact z3
      · have hmem := mem_lookup e
        obtain ⟨k1, k2⟩ := ok1 _ hmem
        refine ex2_3 (cellAt hh hx y v e) fun cc V e1 e2 e3 => ?_
        refine ⟨?_, cc, V, ?_, e2, e3⟩
        · show (relabel cs env).names.lookup y = _ ∨ (relabel cs env).names.lookup y = _
          rw [relabel_is, hse]
          exact lookup_relab_free a.kf k1 k2
        · show cl.lookup y = _
          rw [hcl y (mem_of_lookupK k1)]; exact e1
      · obtain ⟨β, as, tu⟩ := turn i (er V) out D₂ (hP i V hi hPi) iv
        refine wpAny_mono (as A s₂ (compEnvC cs cl C env) m₂ V _ b.hh (by show relabel cs env = _; rw [relabel_is, hse]) hkind hd₂ hm₂ rfl) (fun uu s₃ z => ?_) fun uu uu z => z
        refine ex3_4 (z) fun h' tk m' e1 e2 e3 e4 => ?_
        clear z
        refine ⟨h', tk, m', β, e1, e2, e3, fun y v e => ?_, tu⟩
        obtain ⟨q1, q2⟩ := e4 y v e
        refine ⟨?_, q2⟩
        show (relabel cs env).names.lookup y = _
        rw [relabel_is, hse]; exact q1
      · subst hN
        refine fin C acc out D₂ vs k h' tk (done out D₂ iv) hm ⟨⟨h', tk, rfl⟩, aft.d, aft.x, aft.j⟩ nAC hat (off acc (by simp)).1 (off acc (by simp)).2 (off C ?_).1 (off C ?_).2 hm'
        · show C ∈ [h₀.objs.size, acc, C]; simp
        · show C ∈ [h₀.objs.size, acc, C]; simp
    exact codeAny_compStart_list loop (W.self 0 _ _ _ hst₁ loop)
  cases src with
  | range hr hsm hN =>
    rename_i aa bb cc N
    obtain ⟨tt, uu, vv, hr⟩ := hr
    refine wpAny_pyIter_range (td _ _ hr) hsm ?_
    refine both _ [] N _ _ rfl (Walks.range b.hh h₀.objs.size aa cc N) (fun i h e => ⟨_, e⟩) (by show IsRangeIter _ _ _ _ _; rw [hN]; simpa using Heap.get?_push_size _ rfl) (by simp) (fun i V hi hP => ?_) (by simp) (fun i V s' Q' E' st q => letGo_range st q)
    obtain ⟨t, rfl⟩ := hP
    rw [List.getElem?_map, List.getElem?_range hi]; rfl
  | seq hS =>
    have hne : r ≠ h₀.objs.size := fun q => by
      rcases hS with ⟨vs, m, hD, hm⟩ | ⟨vs, m, hD, hm⟩ <;> exact absurd (Heap.lt_size (td _ _ hD)) (by rw [q]; exact Nat.lt_irrefl _)
    rcases hS with ⟨vs, m, hD, hm⟩ | ⟨vs, m, hD, hm⟩
    · have hL : h₀.IsList r vs.toArray := ⟨_, td _ _ hD, rfl, m, rfl⟩
      refine wpAny_pyIter_list hL ?_
      refine both _ [(r, lstO vs m)] _ _ _ rfl (Walks.list b.hh _ r hne vs.toArray) (fun i h e => ?_) ⟨⟨_, Heap.get?_push_size _ rfl, rfl, rfl⟩, hL.push _⟩ (by rw [← hm]; simp) (fun i V hi hP => ?_) (fun p hp => ?_) (fun i V s' Q' E' st q => letGo_list st.1 q)
      · obtain ⟨⟨o, ho, _⟩, _⟩ := e; exact ⟨o, ho⟩
      · rw [← hm, List.getElem?_map]; rw [List.getElem?_toArray] at hP; rw [hP]; rfl
      · rw [List.mem_singleton.mp hp]; exact ⟨hD, rfl⟩
    · have hL : h₀.IsTuple r vs.toArray := ⟨_, td _ _ hD, rfl, m, rfl⟩
      refine wpAny_pyIter_tuple hL ?_
      refine both _ [(r, tupO vs m)] _ _ _ rfl (Walks.tuple b.hh _ r hne vs.toArray) (fun i h e => ?_) ⟨⟨_, Heap.get?_push_size _ rfl, rfl, rfl⟩, hL.push _⟩ (by rw [← hm]; simp) (fun i V hi hP => ?_) (fun p hp => ?_) (fun i V s' Q' E' st q => letGo_tupleiter st.1 q)
      · obtain ⟨⟨o, ho, _⟩, _⟩ := e; exact ⟨o, ho⟩
      · rw [← hm, List.getElem?_map]; rw [List.getElem?_toArray] at hP; rw [hP]; rfl
      · rw [List.mem_singleton.mp hp]; exact ⟨hD, rfl⟩

noncomputable def OutR (Q : ∀ uu : Value, ∀ uu : DH, Prop) (out : List Value) (D₂ : DH) : Prop := ∀ a o, ∀ uu : D₂ a = none, ∀ uu : IsL (put D₂ a o) a out, Q (.ref a) (put D₂ a o)
-- [elt for target in iter if ..]
theorem TE_comp {target elt iter : Expr} {ifs : List Expr} {cs : Scope} {pos : Pos} {Q : ∀ uu : Value, ∀ uu : DH, Prop} (ρf : List (Str × Value))
    (hok : compOk sc cs ρf = true) (hρ : RLe ρf ρ) (h : TE prog w Hb n sc iter ρ D (CompG prog w Hb n sc cs target elt ifs ρf (OutR Q)))
    (hs : ∀ env x, foldedSetIterable iter env x = pure x := by intro _ _; rfl) :
    TE prog w Hb n sc (.ListComp elt [⟨target, iter, ifs, 0⟩] cs pos) ρ D Q := by
  intro A s X env a b c d j bi g
  rw [eval_ListComp]
  refine comp_run hok hρ h a b c d j bi g (fun C acc out D₂ vs k h' tk q hm t hne hat d1 x1 d2 x2 hm' => ?_) (hs env)
  obtain ⟨m, hn⟩ := hm'
  refine ⟨m, hn, fun h'' hsb => ⟨put D₂ acc (lstO vs k), q acc _ d1 ⟨vs, k, put_self .., hm⟩, ⟨h'', tk, rfl⟩, fun b' o e => ?_, fun b' o e => ?_, t.j.put x1⟩⟩
  · show h''.get? b' = some o
    by_cases q' : b' = acc
    · subst q'; rw [put_self] at e; obtain rfl := (Option.some.inj e).symm; exact hsb.extBut _ _ hne hat
    · rw [put_ne q'] at e
      exact hsb.extBut _ _ (nosA (d2) e) (t.d _ _ e)
  · exact hsb.extBut _ _ (nosA (x2) e) (t.x _ _ e)
end
end

section
section
variable {prog : Program} {w : World} {Hb : Heap} {K : Frag} {n : Nat} {sc : Scope} {ρ : List (Str × Value)} {D : DH}

noncomputable def OutAR (x : Str) (ρ : List (Str × Value)) (Q : ∀ uu : Flow, ∀ uu : List (Str × Value), ∀ uu : DH, Prop) (out : List Value) (D₂ : DH) : Prop := ∀ a o, ∀ uu : D₂ a = none, ∀ uu : IsL (put D₂ a o) a out, Q .next ((x, .ref a) :: ρ) (put D₂ a o)
-- name = [elt for target in iter]: the list is bound inside the block
theorem T1_assign_comp {x : Str} {px : Pos} {target elt iter : Expr} {ifs : List Expr} {cs : Scope} {cpos pos : Pos} {Q : ∀ uu : Flow, ∀ uu : List (Str × Value), ∀ uu : DH, Prop} (ρf : List (Str × Value))
    (hx : sc.names.lookup x = some .local) (hok : compOk sc cs ρf = true) (hρ : RLe ρf ρ) (h : TE prog w Hb n sc iter ρ D (CompG prog w Hb n sc cs target elt ifs ρf (OutAR x ρ Q)))
    (hsw : ∀ env : Env, ∀ uu : env.scope = sc, swapsWith (.ListComp elt [⟨target, iter, ifs, 0⟩] cs cpos) (some (.Name x px)) pos.line env = pure true)
    (hs : ∀ env x, foldedSetIterable iter env x = pure x := by intro _ _; rfl) :
    T1 prog w Hb n sc (.Assign [.Name x px] (.ListComp elt [⟨target, iter, ifs, 0⟩] cs cpos) pos) ρ D Q := by
  intro A s X env c
  rw [exec_Assign_Name_used _ _ _ _ (hsw env c.e.se)]
  refine wpAny_bind (wpAny_standAt (wpAny_bind ?_))
  show wpAny _ A (do let _ ← comprehension (.ListComp elt [⟨target, iter, ifs, 0⟩] cs cpos) cs env _ (newList []) false (eval iter env) (some (assign (.Name x px) env))) _ _ s
  refine wpAny_bind (wpAny_mono (comp_run (use := some (assign (.Name x px) env)) (Q := fun uu s' => SPost s X env Q .next s') (E := fun uu uu => False) hok hρ h c.e c.okE c.d c.subXF c.dj c.base c.frameX
    (fun C acc out D₂ vs k h' tk q hm t hne hat d1 x1 d2 x2 hm' => ?_) (hs env)) (fun uu s' hq => wpAny_pure (wpAny_pure hq)) fun uu uu e => e)
  obtain ⟨m, hn⟩ := hm'
  refine ex0_3 (c.after t) fun t' f' o' => ?_
  have nin : ∀ z, ∀ uu : XF env s.heap X z = none, z ∉ fAddrs env := fun z hz q => by
    obtain ⟨o, ho⟩ := c.f.obj q
    rw [XF, if_pos q, ho] at hz; cases hz
  have nX : ∀ z, ∀ uu : XF env s.heap X z = none, X z = none := fun z hz => by rw [XF, if_neg (nin z hz)] at hz; exact hz
  have c' : Cx Hb n sc ρ (put D₂ acc (lstO vs k)) A { s with heap := h', toks := tk } X env := by
    refine ⟨c.e, c.ok, fun b o e => ?_, t'.x, t'.j.put (nX _ x1), c.b, f', fun a ha => ⟨?_, (o' a ha).2⟩⟩
    · by_cases q' : b = acc
      · subst q'; rw [put_self] at e; obtain rfl := (Option.some.inj e).symm; exact hat
      · rw [put_ne q'] at e; exact t'.d _ _ e
    · have : a ≠ acc := fun q' => nin _ x1 (by rw [← q']; exact ha)
      rw [put_ne this]; exact (o' a ha).1
  have c'' := c'.apart (fp := [C]) (fun b hb => by
    rw [List.mem_singleton.mp hb]
    exact ⟨by rw [put_ne (Ne.symm hne)]; exact d2, nX _ x2, nin _ x2⟩)
  show wpAny _ A (assign (.Name x px) env (.ref acc)) _ _ _
  refine wpAny_assign_Name (c''.store (.inl hx) fun s₂ t₂ c₂ => ?_)
  have hnC : s₂.heap.Ns C m := by
    refine ex3_2 (hn) fun o a b e r => ?_
    try clear hn
    exact ⟨o, a, b, t₂.x _ _ (by unfold XP; rw [if_pos (List.mem_singleton.mpr rfl)]; exact e), r⟩
  have leX : Le X (XP [C] h' X) := le_XP fun b hb => by rw [List.mem_singleton.mp hb]; exact nX _ x2
  have dC : put D₂ acc (lstO vs k) C = none := by rw [put_ne (Ne.symm hne)]; exact d2
  refine ⟨m, hnC, fun h₃ hsb => ?_⟩
  refine ⟨(x, .ref acc) :: ρ, put D₂ acc (lstO vs k), q acc _ d1 ⟨vs, k, put_self .., hm⟩, ?_, FrameS.of c₂.f fun a ha o ho => hsb.extBut _ _ (fun z => nin _ x2 (z ▸ ha)) ho, fun a ha => ⟨(c₂.o a ha).1, (o' a ha).2⟩⟩
  refine ex2_1 (t₂.eq) fun h₂ tk₂ eR2 => ?_
  obtain rfl := eR2
  exact ⟨⟨h₃, tk₂, rfl⟩, fun b o e => hsb.extBut _ _ (nosA (dC) e) (t₂.d _ _ e), fun b o e => hsb.extBut _ _ (nosA (nX _ x2) e) (t₂.x _ _ (leX _ _ e)), c'.j⟩
end
end

section
theorem tuple_mul_some (l : Addr) (items : Array Value) (n : Nat) (x : Int) (u : Tok) (hne : items.isEmpty = false) (h2 : 2 ≤ x) (hlt : x < 2 ^ 20) (hz : items.size * x.toNat ≤ 2 ^ 20) :
    Meets (Builtin.«tuple.__mul__» ⟨[.ref l, .int x u], []⟩) (fun uu R s => s.heap.get? l = some { cls := .type "tuple", data := .seq items n } ∧ R (.ok (.ret (Value.ref s.heap.objs.size))) { s with heap := s.heap.push { cls := Value.type "tuple", data := Data.seq (List.foldl (fun x1 x2 => x1 ++ x2) #[] (List.replicate x.toNat items)) } }) :=
  .of_wp fun prog w A R s h => by
    obtain ⟨hp, g, d, tk, os⟩ := s; obtain ⟨hl, h⟩ := h
    have hx : ((items.size : Int) * x) = ((items.size * x.toNat : Nat) : Int) := by rw [Int.natCast_mul, Int.toNat_of_nonneg (by lia)]
    have hc0 : ¬(decide (x < -2 ^ 63) || decide (x ≥ 2 ^ 63)) = true := by simp; (and_intros <;> lia)
    have hc1 : ¬(items.isEmpty || x == 1) = true := by rw [hne]; simp; lia
    have hc2 : ¬(decide (x ≤ 0) || items.isEmpty) = true := by rw [hne]; simp; lia
    have hc3 : ¬((items.size : Int) * x > (2 ^ 63 - 1) / 8) := by rw [hx]; lia
    have hc4 : ¬ Builtin.Tuple.tupleTooMany ((items.size : Int) * x) = true := by rw [hx]; unfold Builtin.Tuple.tupleTooMany sizeLine; simp only [decide_eq_true_eq]; lia
    have hsz : (List.foldl (fun x1 x2 => x1 ++ x2) #[] (List.replicate x.toNat items)).size ≤ sizeLine := by
      have hf := listMul_foldl_if items x.toNat
      rw [hne] at hf
      simp only [Bool.false_eq_true, if_false] at hf
      rw [hf]
      simp [sizeLine, Nat.mul_comm] at hz ⊢; (exact Nat.le_trans (by assumption) (by decide))
    wp_walk
    refine wpAny_ite_false (decide_eq_false hc0) ?_; wp_walk
    refine wpAny_ite_false (decide_eq_false hc1) ?_; wp_walk
    refine wpAny_ite_false (decide_eq_false hc2) ?_; wp_walk
    rw [if_neg hc3]; wp_walk
    refine wpAny_ite_false (decide_eq_false hc4) ?_; wp_walk
    exact ⟨_, rfl, h⟩


section
variable {prog : Program} {w : World} {Hb : Heap} {K : Frag} {n : Nat} {sc : Scope} {ρ : List (Str × Value)} {D : DH}

theorem map_rep {us : List Value} {vs : List Value} (h : vs.map er = us) (k : Nat) : ((List.replicate k vs).flatten).map er = (List.replicate k us).flatten := by
  rw [List.map_flatten, List.map_replicate, h]

inductive MulLR (Q : ∀ uu : Value, ∀ uu : DH, Prop) (x y : Value) (D₂ : DH) : Prop
  | mk : ∀ a us k, ∀ uu : x = .ref a, ∀ uu : y = .int k 0, ∀ uu : IsL D₂ a us, ∀ uu : -(2 ^ 63 : Int) ≤ k, ∀ uu : k < 2 ^ 63, ∀ uu : us.length * k.toNat ≤ 2 ^ 20, ∀ uu : (∀ r o, ∀ uu : D₂ r = none, ∀ uu : IsL (put D₂ r o) r (List.replicate k.toNat us).flatten, Q (.ref r) (put D₂ r o)), MulLR Q x y D₂
-- list * int
theorem TE_mulL {l r : Expr} {pos : Pos} {Q : ∀ uu : Value, ∀ uu : DH, Prop}
    (h : TE prog w Hb n sc l ρ D (Nx prog w Hb n sc r ρ (MulLR Q))) :
    TE prog w Hb n sc (.BinOp l .Mult r pos) ρ D Q := by
  refine two_nd (h.mono fun x D₁ q => q.mono fun y D₂ hq1 V U h1 h2 A s X hh d x j => ?_)
  obtain ⟨a, us, k, e1, e2, ⟨vs, m, hD, hm⟩, hlo, hhi, hsz, kk⟩ := hq1
  subst e1 e2
  obtain rfl := er_ref h1
  obtain ⟨u, rfl⟩ := er_int h2
  have ho := d _ _ hD
  have hsz' : vs.toArray.size * k.toNat ≤ 2 ^ 20 := by rw [← hm] at hsz; simpa using hsz
  have hsz2 : vs.length * k.toNat ≤ 2 ^ 20 := by simpa using hsz'
  refine wpAny_binaryOp_repeat_ref (T := "list") (U := "int") (by decide) ⟨_, ho, rfl⟩ (fun s' => typeIs_int s' k u) noFill_list_mul F.fills_int_mul F.slot_int_rmul repeat_list F.slot_int_index.lookup
    (call_meets F.slot_int_rmul (typeIs_int s k u) F.entry_int_rmul (F.args_int_rmul_2 _ _) (lm_int_rmul_list_any k u a vs.toArray m none #[])
      ⟨ho, rfl, ⟨_, ho, rfl⟩, call_meets F.slot_list_mul ⟨_, ho, rfl⟩ F.entry_list_mul (F.args_list_mul_2 _ _)
        (lm_list_mul_any a vs.toArray m none #[] k u (by simp [Builtin.List.listFitsIndex]; (exact ⟨by assumption, by assumption⟩)) (by (clear hsz2 ho h2 h1 q hm hD kk hsz hhi hlo j x d hh h; lia)) (by simp [Builtin.List.listTooLong, sizeLine]; (clear hsz' ho h2 h1 q hm hD kk hsz hhi hlo j x d hh h; (exact Nat.le_trans (by assumption) (by decide)))))
        ⟨ho, ?_⟩⟩)
  rw [listMul_foldl_if]
  exact ⟨_, kk _ (lstO (List.replicate k.toNat vs).flatten 0) d.none_size ⟨_, 0, put_self .., map_rep hm _⟩, After.push d x j _ rfl⟩

theorem noFill_tuple_mul : fillsNumberSlot (.type "tuple") "mul" = pure false :=
  PySem.fillsNumberSlot_seq (id := "tuple.__mul__") (r := some (.builtin "tuple.__rmul__")) F.slot_tuple_mul.lookup (by decide +kernel) F.slot_tuple_rmul.lookup (by decide +kernel)
theorem repeat_tuple : seqRepeat? (.type "tuple") = pure (some (.builtin "tuple.__mul__")) := by
  unfold seqRepeat?
  rw [PySem.seqSlot_of (T := "tuple") (name := "__mul__") (id := "tuple.__mul__") F.slot_tuple_mul.lookup (by decide +kernel), PySem.seqSlot_of (T := "tuple") (name := "__rmul__") (id := "tuple.__rmul__") F.slot_tuple_rmul.lookup (by decide +kernel)]
  rfl
theorem int_rmul_tuple (a : Int) (t : Tok) (l : Addr) (items : Array Value) (n : Nat) :
    Meets (Builtin.«int.__rmul__» ⟨[.int a t, .ref l], []⟩) (fun uu R s => s.heap.get? l = some { cls := .type "tuple", data := .seq items n } ∧ R (.ok (.ret Value.notImplemented)) s) :=
  .of_wp fun prog w A R s h => by obtain ⟨hp, g, d, tk, os⟩ := s; obtain ⟨hl, h⟩ := h; wp_walk; exact ⟨_, rfl, h⟩

inductive MulTR (Q : ∀ uu : Value, ∀ uu : DH, Prop) (x y : Value) (D₂ : DH) : Prop
  | mk : ∀ a us k, ∀ uu : x = .ref a, ∀ uu : y = .int k 0, ∀ uu : IsT D₂ a us, ∀ uu : us ≠ [], ∀ uu : 2 ≤ k, ∀ uu : k < 2 ^ 20, ∀ uu : us.length * k.toNat ≤ 2 ^ 20, ∀ uu : (∀ r o, ∀ uu : D₂ r = none, ∀ uu : IsT (put D₂ r o) r (List.replicate k.toNat us).flatten, Q (.ref r) (put D₂ r o)), MulTR Q x y D₂
-- tuple * int, more than once
theorem TE_mulT {l r : Expr} {pos : Pos} {Q : ∀ uu : Value, ∀ uu : DH, Prop}
    (h : TE prog w Hb n sc l ρ D (Nx prog w Hb n sc r ρ (MulTR Q))) :
    TE prog w Hb n sc (.BinOp l .Mult r pos) ρ D Q := by
  refine two_nd (h.mono fun x D₁ q => q.mono fun y D₂ hq2 V U h1 h2 A s X hh d x j => ?_)
  obtain ⟨a, us, k, e1, e2, ⟨vs, m, hD, hm⟩, hne, hlo, hhi, hsz, kk⟩ := hq2
  subst e1 e2
  obtain rfl := er_ref h1
  obtain ⟨u, rfl⟩ := er_int h2
  have ho := d _ _ hD
  have hsz' : vs.toArray.size * k.toNat ≤ 2 ^ 20 := by rw [← hm] at hsz; simpa using hsz
  have hsz2 : vs.length * k.toNat ≤ 2 ^ 20 := by simpa using hsz'
  have he : vs.toArray.isEmpty = false := by
    cases vs with
    | nil => exact absurd hm.symm hne
    | cons _ _ => rfl
  refine wpAny_binaryOp_repeat_ref (T := "tuple") (U := "int") (by decide) ⟨_, ho, rfl⟩ (fun s' => typeIs_int s' k u) noFill_tuple_mul F.fills_int_mul F.slot_int_rmul repeat_tuple F.slot_int_index.lookup
    (call_meets F.slot_int_rmul (typeIs_int s k u) F.entry_int_rmul (F.args_int_rmul_2 _ _) (int_rmul_tuple k u a vs.toArray m)
      ⟨ho, rfl, ⟨_, ho, rfl⟩, call_meets F.slot_tuple_mul ⟨_, ho, rfl⟩ F.entry_tuple_mul (F.args_tuple_mul_2 _ _)
        (tuple_mul_some a vs.toArray m k u he hlo hhi hsz')
        ⟨ho, ?_⟩⟩)
  have hf := listMul_foldl_if vs.toArray k.toNat
  rw [he] at hf
  simp only [Bool.false_eq_true, if_false] at hf
  rw [hf]
  exact ⟨_, kk _ (tupO (List.replicate k.toNat vs).flatten 0) d.none_size ⟨_, 0, put_self .., map_rep hm _⟩, After.push d x j _ rfl⟩

inductive AddLR (Q : ∀ uu : Value, ∀ uu : DH, Prop) (x y : Value) (D₂ : DH) : Prop
  | mk : ∀ a us b ws, ∀ uu : x = .ref a, ∀ uu : y = .ref b, ∀ uu : IsL D₂ a us, ∀ uu : IsL D₂ b ws, ∀ uu : us.length + ws.length ≤ sizeLine, ∀ uu : (∀ r o, ∀ uu : D₂ r = none, ∀ uu : IsL (put D₂ r o) r (us ++ ws), Q (.ref r) (put D₂ r o)), AddLR Q x y D₂
-- list + list
theorem TE_addL {l r : Expr} {pos : Pos} {Q : ∀ uu : Value, ∀ uu : DH, Prop}
    (h : TE prog w Hb n sc l ρ D (Nx prog w Hb n sc r ρ (AddLR Q))) :
    TE prog w Hb n sc (.BinOp l .Add r pos) ρ D Q := by
  refine two_nd (h.mono fun x D₁ q => q.mono fun y D₂ hq3 V U h1 h2 A s X hh d x j => ?_)
  obtain ⟨a, us, b, ws, e1, e2, ⟨vs, m, hD, hm⟩, ⟨vs2, m2, hD2, hm2⟩, hsz, kk⟩ := hq3
  subst e1 e2
  obtain rfl := er_ref h1
  obtain rfl := er_ref h2
  refine P.add_list (d _ _ hD) (d _ _ hD2) ?_ (by rw [← hm, ← hm2] at hsz; simpa using hsz)
  have e : vs.toArray ++ vs2.toArray = (vs ++ vs2).toArray := by simp
  rw [e]
  exact ⟨_, kk _ (lstO (vs ++ vs2) 0) d.none_size ⟨_, 0, put_self .., by rw [List.map_append, hm, hm2]⟩, After.push d x j _ rfl⟩
inductive AddTR (Q : ∀ uu : Value, ∀ uu : DH, Prop) (x y : Value) (D₂ : DH) : Prop
  | mk : ∀ a us b ws, ∀ uu : x = .ref a, ∀ uu : y = .ref b, ∀ uu : IsT D₂ a us, ∀ uu : IsT D₂ b ws, ∀ uu : us ≠ [], ∀ uu : ws ≠ [], ∀ uu : us.length + ws.length ≤ sizeLine, ∀ uu : (∀ r o, ∀ uu : D₂ r = none, ∀ uu : IsT (put D₂ r o) r (us ++ ws), Q (.ref r) (put D₂ r o)), AddTR Q x y D₂
-- tuple + tuple, neither empty
theorem TE_addT {l r : Expr} {pos : Pos} {Q : ∀ uu : Value, ∀ uu : DH, Prop}
    (h : TE prog w Hb n sc l ρ D (Nx prog w Hb n sc r ρ (AddTR Q))) :
    TE prog w Hb n sc (.BinOp l .Add r pos) ρ D Q := by
  refine two_nd (h.mono fun x D₁ q => q.mono fun y D₂ hq4 V U h1 h2 A s X hh d x j => ?_)
  obtain ⟨a, us, b, ws, e1, e2, ⟨vs, m, hD, hm⟩, ⟨vs2, m2, hD2, hm2⟩, n1, n2, hsz, kk⟩ := hq4
  subst e1 e2
  obtain rfl := er_ref h1
  obtain rfl := er_ref h2
  have he : ∀ {vs us : List Value}, ∀ uu : vs.map er = us, ∀ uu : us ≠ [], ¬ vs.toArray.isEmpty = true := fun {vs us} a b => by
    cases vs with
    | nil => exact absurd a.symm b
    | cons _ _ => simp
  refine P.add_tuple (d _ _ hD) (d _ _ hD2) (he hm n1) (he hm2 n2) ?_ (by rw [← hm, ← hm2] at hsz; simpa using hsz)
  have e : vs.toArray ++ vs2.toArray = (vs ++ vs2).toArray := by simp
  rw [e]
  exact ⟨_, kk _ (tupO (vs ++ vs2) 0) d.none_size ⟨_, 0, put_self .., by rw [List.map_append, hm, hm2]⟩, After.push d x j _ rfl⟩

-- part of a slice
noncomputable def TEp (prog : Program) (w : World) (Hb : Heap) (n : Nat) (sc : Scope) (e : Option Expr) (ρ : List (Str × Value)) (D : DH) (Q : ∀ uu : Option Int, ∀ uu : DH, Prop) : Prop := match e with
  | none => Q none D
  | some e => TE prog w Hb n sc e ρ D (fun v D' => ∃ i, v = .int i 0 ∧ Q (some i) D')
theorem TEp.seq {e : Option Expr} {A : Around} {s : Shared} {X : DH} {env : Env} {Q : ∀ uu : Option Int, ∀ uu : DH, Prop} {R : ∀ uu : Value, ∀ uu : Shared, Prop} {E : ∀ uu : Value, ∀ uu : Shared, Prop}
    (h : TEp prog w Hb n sc e ρ D Q) (a : EnvOk Hb sc env) (b : Ok Hb n A X) (c : Sub D s.heap) (d : Sub X s.heap) (j : Dj D X) (bi : BaseIn Hb X) (g : FrameX env ρ X)
    (k : ∀ V i D' s', ∀ uu : IsPart V i, ∀ uu : Q i D', ∀ uu : After s X D' s', R V s') : wpAny (model prog w) A (evalPart e env) R E s := by
  cases e with
  | none => exact wpAny_pure (k _ _ D s .none h (.refl c d j))
  | some e =>
    have h' : TE prog w Hb n sc e ρ D (fun v D' => ∃ i, v = .int i 0 ∧ Q (some i) D') := h
    refine TE.seq h' a b c d j bi g fun V D' s' hq5 t => ?_
    refine ex1_2 (hq5) fun i e q => ?_
    try clear hq5
    obtain ⟨u, rfl⟩ := er_int e
    exact k _ _ D' s' (.int i u) q t

noncomputable def pickL (us : List Value) (lo hi st : Option Int) : List Value := (slicePick us.toArray lo hi st).toList
theorem pickL_map (vs : List Value) (lo hi st : Option Int) : ((slicePick vs.toArray lo hi st).toList).map er = pickL (vs.map er) lo hi st := by
  unfold pickL slicePick
  simp only [List.size_toArray, List.length_map, List.getElem?_toArray, List.getElem?_map]
  generalize sliceRange _ _ _ = l
  induction l with
  | nil => rfl
  | cons i r ih =>
    simp only [List.filterMap_cons]
    cases vs[i]? with
    | none => exact ih
    | some v => exact congrArg (er v :: ·) ih

theorem TE_slice {value : Expr} {lower upper step : Option Expr} {p pos : Pos} {Q : ∀ uu : Value, ∀ uu : DH, Prop}
    (h : TE prog w Hb n sc value ρ D (fun v D₁ => TEp prog w Hb n sc lower ρ D₁ (fun lo D₂ => TEp prog w Hb n sc upper ρ D₂ (fun hi D₃ => TEp prog w Hb n sc step ρ D₃ (fun st D₄ =>
      ∃ a us, v = .ref a ∧ IsL D₄ a us ∧ us.length ≤ sizeLine ∧ st ≠ some 0 ∧ ∀ r o, ∀ uu : D₄ r = none, ∀ uu : IsL (put D₄ r o) r (pickL us lo hi st), Q (.ref r) (put D₄ r o))))))
    (ht : ∀ o r, letTemporaryGo value o r = pure () := by intro _ _; rfl) :
    TE prog w Hb n sc (.Subscript value (.Slice lower upper step p) pos) ρ D Q := by
  intro A s X env a b c d j bi g
  have main : wpAny (model prog w) A (eval value env) (fun o s₁ => wpAny (model prog w) A (eval (.Slice lower upper step p) env) (fun i s₂ => s₂.TypeIs o "list" ∧ wpAny (model prog w) A (getItem o i) (fun V s' => Post (Q (er V)) s X s') (fun uu uu => False) s₂) (fun uu uu => False) s₁) (fun uu uu => False) s := by
    refine TE.seq h a b c d j bi g fun V D₁ s₁ q t => wpAny_Slice (TEp.seq q a b t.d t.x t.j bi g fun VL lo D₂ s₂ pl q t₂ => TEp.seq q a b t₂.d t₂.x t₂.j bi g fun VU hi D₃ s₃ pu q t₃ => TEp.seq q a b t₃.d t₃.x t₃.j bi g fun VS st D₄ s₄ ps q4 t₄ => ?_)
    refine ex2_5 (q4) fun l us e hN3 hz h0 kk => ?_
    try clear q4
    obtain ⟨vs, m, hD, hm⟩ := hN3
    obtain rfl := er_ref e
    have hd : Sub D₄ (s₄.heap.push { cls := .type "slice", data := .fields #[VL, VU, VS] }) := t₄.d.push _
    have hx : Sub X (s₄.heap.push { cls := .type "slice", data := .fields #[VL, VU, VS] }) := t₄.x.push _
    have hL : (s₄.heap.push { cls := .type "slice", data := .fields #[VL, VU, VS] }).IsList l vs.toArray := ⟨_, hd _ _ hD, rfl, m, rfl⟩
    refine ⟨Heap.IsList.typeIs (s := { s₄ with heap := s₄.heap.push { cls := .type "slice", data := .fields #[VL, VU, VS] } }) hL, wpAny_getItem_list_slice hL (Heap.IsSliceOf.new ..) pl pu ps h0 ?_ (by rw [← hm] at hz; simpa using hz)⟩
    refine ⟨_, kk _ (lstO (slicePick vs.toArray lo hi st).toList 0) hd.none_size ⟨_, 0, put_self .., by rw [pickL_map, hm]⟩, ((t.trans t₂).trans (t₃.trans t₄)).trans ((After.keep (h' := s₄.heap.push { cls := .type "slice", data := .fields #[VL, VU, VS] }) (k := s₄.toks) t₄.d t₄.x t₄.j fun b o e => Heap.get?_push_of_some _ e).trans ?_)⟩
    have := After.push (s := { s₄ with heap := s₄.heap.push { cls := .type "slice", data := .fields #[VL, VU, VS] } }) (k := s₄.toks) hd hx t₄.j (lstO (slicePick vs.toArray lo hi st).toList 0) rfl
    simpa using this
  cases step with
  | none => exact wpAny_Subscript_Slice (T := "list") list_getitem_lookup main ht
  | some st => exact wpAny_Subscript_Slice_step (T := "list") list_getitem_lookup main ht
end
end

section
inductive RE : ∀ uu : Value, ∀ uu : PyData, Prop
  | int (i : Int) : RE (.int i 0) (.int i)
  | str (x : Str) : RE (.str x 0) (.str x)
inductive REs : ∀ uu : List Value, ∀ uu : List PyData, Prop
  | nil : REs [] []
  | cons {u us d ds} : ∀ uu : RE u d, ∀ uu : REs us ds, REs (u :: us) (d :: ds)
noncomputable def RD (D : DH) (x : Value) (d : PyData) : Prop := RE x d ∨ ∃ a us ds, x = .ref a ∧ REs us ds ∧ ((IsT D a us ∧ d = .tuple ds) ∨ (IsL D a us ∧ d = .list ds))

theorem RE.reads {V : Value} {d : PyData} {h : Heap} (r : RE (er V) d) : Reads h V d [] := by
  generalize e : er V = x at r
  cases r with
  | int i => obtain ⟨t, rfl⟩ := er_int e; exact Reads.int i t
  | str x => obtain ⟨t, rfl⟩ := er_str e; exact Reads.str x t
theorem REs.reads {h : Heap} : ∀ {vs : List Value} {ds : List PyData}, ∀ uu : REs (vs.map er) ds, ReadsAll h vs ds []
  | [], _, r => by cases r; exact .nil
  | v :: vs, _, r => by
    cases r with
    | cons a b =>
      have := ReadsAll.cons (a.reads (h := h)) b.reads
      simpa using this
theorem RD.reads {D : DH} {V : Value} {d : PyData} {h : Heap} (r : RD D (er V) d) (s : Sub D h) : ∃ as, Reads h V d as := by
  rcases r with r | ⟨a, us, ds, e, r, q⟩
  · exact ⟨_, r.reads⟩
  · obtain rfl := er_ref e
    rcases q with ⟨⟨vs, n, hD, hm⟩, rfl⟩ | ⟨⟨vs, n, hD, hm⟩, rfl⟩
    · subst hm; exact ⟨_, reads_tuple_at (s _ _ hD) rfl rfl (by simpa using r.reads)⟩
    · subst hm; exact ⟨_, reads_list_at (s _ _ hD) rfl rfl (by simpa using r.reads)⟩
theorem REs.ints : ∀ ns : List Int, REs (intL ns) (ns.map PyData.int)
  | [] => .nil
  | _ :: r => .cons (.int _) (REs.ints r)
theorem eqvAll_refl : ∀ {us : List Value} {ds : List PyData}, ∀ uu : REs us ds, PyData.eqvAll ds ds = true
  | _, _, .nil => rfl
  | _, _, .cons a b => by
    cases a <;> simp [PyData.eqvAll, PyData.eqv, eqvAll_refl b]

section
variable {prog : Program} {w : World} {Hb : Heap} {K : Frag} {n : Nat} {sc : Scope} {ρ : List (Str × Value)} {D : DH}

inductive NeDR (Q : ∀ uu : Bool, ∀ uu : DH, Prop) (x y : Value) (D₂ : DH) : Prop
  | mk : ∀ d1 d2, ∀ uu : RD D₂ x d1, ∀ uu : RD D₂ y d2, ∀ uu : SeqAt.shaped d1 = true, ∀ uu : SeqAt.shaped d2 = true, ∀ uu : (∀ uu : PyData.eqv d1 d2 = true, Q false D₂), ∀ uu : (∀ uu : PyData.eqv d1 d2 = false, Q true D₂), NeDR Q x y D₂
-- != on what can be read
theorem TB_nedata {l r : Expr} {pos : Pos} {Q : ∀ uu : Bool, ∀ uu : DH, Prop}
    (h : TE prog w Hb n sc l ρ D (Nx prog w Hb n sc r ρ (NeDR Q))) :
    TB prog w Hb n sc (.Compare l [.NotEq] [r] pos) ρ D Q := by
  refine TB_cmp (h.mono fun x D₁ q => q.mono fun y D₂ hq1 V U h1 h2 A s X ok d x j => ?_) (bim _ rfl)
  obtain ⟨d1, d2, r1, r2, s1, s2, k1, k2⟩ := hq1
  subst h1 h2
  obtain ⟨as, ra⟩ := r1.reads d
  obtain ⟨bs, rb⟩ := r2.reads d
  refine ne_dataH ra rb s1 s2 (by have := ok.uni; unfold cLine; lia) ⟨_, D₂, rfl, ?_, .refl d x j⟩
  cases e : PyData.eqv d1 d2
  · exact k2 e
  · exact k1 e

noncomputable def IsNR (Q : ∀ uu : Bool, ∀ uu : DH, Prop) (x : Value) (D₁ : DH) : Prop := (x = .none ∧ Q true D₁) ∨ ((∃ a, x = .ref a) ∧ Q false D₁)
theorem TB_isNone {l : Expr} {kk p pos} {Q : ∀ uu : Bool, ∀ uu : DH, Prop}
    (h : TE prog w Hb n sc l ρ D (IsNR Q)) : TB prog w Hb n sc (.Compare l [.Is] [.Constant .none kk p] pos) ρ D Q := by
  refine TB_cmp (h.mono fun x D₁ q => TE_none fun V U h1 h2 A s X ok d x j => ?_) (bim _ rfl)
  subst h1
  obtain rfl := er_none h2
  rcases q with ⟨e, q⟩ | ⟨⟨a, e⟩, q⟩
  · obtain rfl := er_none e
    exact wpAny_is_self rfl ⟨_, _, rfl, q, .refl d x j⟩
  · obtain rfl := er_ref e
    exact wpAny_is_other rfl (by intro z; cases z) ⟨_, _, rfl, q, .refl d x j⟩

inductive NotInR (Q : ∀ uu : Bool, ∀ uu : DH, Prop) (x y : Value) (D₂ : DH) : Prop
  | mk : ∀ i a ks, ∀ uu : x = .int i 0, ∀ uu : y = .ref a, ∀ uu : IsT D₂ a (intL ks), ∀ uu : (∀ uu : i ∈ ks, Q false D₂), ∀ uu : (∀ uu : ¬ i ∈ ks, Q true D₂), NotInR Q x y D₂
theorem TB_notin {l r : Expr} {pos : Pos} {Q : ∀ uu : Bool, ∀ uu : DH, Prop}
    (h : TE prog w Hb n sc l ρ D (Nx prog w Hb n sc r ρ (NotInR Q)))
    (hm : behindInMarks .NotIn r = false := by rfl) :
    TB prog w Hb n sc (.Compare l [.NotIn] [r] pos) ρ D Q := by
  refine TB_cmp (h.mono fun x D₁ q => q.mono fun y D₂ hq2 V U h1 h2 A s X ok d x j => ?_) hm
  obtain ⟨i, a, ks, e1, e2, ⟨vs, m, hD, hv⟩, k1, k2⟩ := hq2
  subst e1 e2
  obtain ⟨t, rfl⟩ := er_int h1
  obtain rfl := er_ref h2
  have hi := ints_are hv
  have rt : Reads s.heap (.ref a) (.tuple (ks.map PyData.int)) [] := reads_tuple_at (d _ _ hD) rfl rfl (by
    have : REs (vs.map er) (ks.map PyData.int) := hv ▸ REs.ints ks
    simpa using this.reads)
  refine SeqAt.notIn_tuple_reads rt (Reads.int i t) (ke_canLayAll0 ks) rfl (by have := ok.uni; unfold cLine; rw [ke_depthAll]; simp only [Nat.zero_min]; lia) ⟨_, D₂, rfl, ?_, .refl d x j⟩
  by_cases hk : i ∈ ks
  · have : ((ks.map PyData.int).any fun y => PyData.eqv y (.int i)) = true := by
      rw [List.any_map, List.any_eq_true]
      exact ⟨i, hk, by simp [PyData.eqv]⟩
    rw [this]; exact k1 hk
  · have : ((ks.map PyData.int).any fun y => PyData.eqv y (.int i)) = false := by
      rw [List.any_map, List.any_eq_false]
      intro y hy
      simp [PyData.eqv]
      intro z; exact hk (z ▸ hy)
    rw [this]; exact k2 hk

inductive WSt (Hb : Heap) (n : Nat) (sc : Scope) (A : Around) (s : Shared) (X : DH) (env : Env) (Inv : ∀ uu : Nat, ∀ uu : List (Str × Value), ∀ uu : DH, Prop) (k : Nat) (s' : Shared) : Prop
  | mk : ∀ (ρ' : List (Str × Value)) (D' : DH), ∀ uu : After s X D' s', ∀ uu : Cx Hb n sc ρ' D' A s' X env, ∀ uu : Inv k ρ' D', WSt Hb n sc A s X env Inv k s'
inductive WLess (Inv : ∀ uu : Nat, ∀ uu : List (Str × Value), ∀ uu : DH, Prop) (k : Nat) (ρ' : List (Str × Value)) (D' : DH) : Prop
  | mk : ∀ (m : Nat) (ρ'' : List (Str × Value)), ∀ uu : m < k, ∀ uu : RLe ρ'' ρ', ∀ uu : Inv m ρ'' D', WLess Inv k ρ' D'
noncomputable def WTurn (Inv : ∀ uu : Nat, ∀ uu : List (Str × Value), ∀ uu : DH, Prop) (Q : ∀ uu : Flow, ∀ uu : List (Str × Value), ∀ uu : DH, Prop) (k : Nat) (f : Flow) (ρ' : List (Str × Value)) (D' : DH) : Prop := match f with
  | .next | .cont => WLess Inv k ρ' D'
  | .brk => Q .next ρ' D'
  | .ret v => Q (.ret v) ρ' D'
-- while, by a measure
theorem T1_while {test : Expr} {body : List Stmt} {pos : Pos} {Q : ∀ uu : Flow, ∀ uu : List (Str × Value), ∀ uu : DH, Prop} (Inv : ∀ uu : Nat, ∀ uu : List (Str × Value), ∀ uu : DH, Prop) (N : Nat) (ρ₁ : List (Str × Value)) (hρ : RLe ρ₁ ρ) (inv : Inv N ρ₁ D)
    (turn : ∀ k ρ D, ∀ uu : Inv k ρ D, TB prog w Hb n sc test ρ D (fun b D' => (∀ uu : b = true, TS prog w Hb n sc body ρ D' (WTurn Inv Q k)) ∧ (∀ uu : b = false, Q .next ρ D'))) :
    T1 prog w Hb n sc (.While test body [] pos) ρ D Q := by
  intro A s X env c
  refine wpAny_While (codeAny_whileLoop (WSt Hb n sc A s X env Inv) ?_ N ⟨ρ₁, D, .refl c.d c.x c.j, c.le hρ, inv⟩)
  intro k s' hst
  obtain ⟨ρ', D', t, c', iv⟩ := hst
  refine c'.test (turn k ρ' D' iv) fun b D₁ s₁ q t₁ c₁ => ?_
  cases b
  · exact wpAny_execs_nil ⟨ρ', D₁, q.2 rfl, t.trans t₁, c₁.f, c₁.o⟩
  · refine wpAny_mono (q.1 rfl A s₁ X env c₁) (fun f s₂ p => ?_) fun uu uu z => z.elim
    obtain ⟨ρ₂, D₂, q₂, t₂, f₂, o₂⟩ := p
    have tt := (t.trans t₁).trans t₂
    have again : ∀ uu : WLess Inv k ρ₂ D₂, ∃ m, m < k ∧ WSt Hb n sc A s X env Inv m s₂ := fun h => by
      obtain ⟨m, ρ'', hm, hr, iv'⟩ := h
      exact ⟨m, hm, ρ'', D₂, tt, ⟨c.e, c.ok, tt.d, tt.x, tt.j, c.b, f₂.le hr, o₂⟩, iv'⟩
    cases f with
    | next => exact again q₂
    | cont => exact again q₂
    | brk => exact ⟨ρ₂, D₂, q₂, tt, f₂, o₂⟩
    | ret v => exact ⟨ρ₂, D₂, q₂, tt, f₂, o₂⟩

-- what a tuple or a list unpacks to
theorem draw_list {A : Around} {E : ∀ uu : Value, ∀ uu : Shared, Prop} {it t : Addr} {items : Array Value} (hne : t ≠ it) : ∀ (n i : Nat) (s : Shared) (Q : ∀ uu : List Value, ∀ uu : Shared, Prop), ∀ uu : s.heap.IsListIter it t i, ∀ uu : s.heap.IsList t items, ∀ uu : i + n ≤ items.size,
    (∀ h', ∀ uu : h'.IsListIter it t (i + n), ∀ uu : Heap.SameBut it s.heap h', Q ((items.toList.drop i).take n) { s with heap := h' }) → wpAny (model prog w) A (draw (.ref it) n) Q E s
  | 0, i, s, Q, hit, _, _, hQ => by
    show wpAny _ _ (pure []) Q E s
    exact wpAny_pure (by simpa using hQ s.heap hit (Heap.SameBut.refl ..))
  | n + 1, i, s, Q, hit, ht, hle, hQ => by
    have hlt : i < items.size := by lia
    show wpAny _ _ (pyNext (.ref it) >>= _) Q E s
    refine wpAny_bind (wpAny_pyNext_list_item hit ht (x := items[i]) (by simp [hlt]) fun h₁ hit₁ hs₁ => ?_)
    refine wpAny_bind (wpAny_holding (draw_list hne n (i + 1) _ _ hit₁ (ht.extBut hs₁.extBut hne) (by lia) fun h₂ hit₂ hs₂ => wpAny_pure ?_))
    have hd : items.toList.drop i = items[i] :: items.toList.drop (i + 1) := by simp [List.drop_eq_getElem_cons, hlt]
    have := hQ h₂ (by rw [show i + (n + 1) = i + 1 + n by lia]; exact hit₂) (hs₁.trans hs₂)
    rw [hd, List.take_succ_cons] at this
    exact this
theorem unpackItems_list {A : Around} {E : ∀ uu : Value, ∀ uu : Shared, Prop} {s : Shared} {t : Addr} {items : Array Value} {Q : ∀ uu : List Value, ∀ uu : Shared, Prop} (hh : A.handled = none) (ht : s.heap.IsList t items)
    (hQ : ∀ h', ∀ uu : Heap.ExtBut s.heap.objs.size s.heap h', Q items.toList { s with heap := h' }) : wpAny (model prog w) A (unpackItems (.ref t) items.size none) Q E s := by
  have hlt : t ≠ s.heap.objs.size := by obtain ⟨o, ho, _⟩ := ht; exact Nat.ne_of_lt (Heap.lt_size ho)
  unfold unpackItems
  refine wpAny_bind ?_
  · unfold notIterableAtAll
    refine wpAny_bind (wpAny_specialOf ht.typeIs slot_list_iter.lookup ?_)
    refine wpAny_pure ?_
    simp only [Bool.false_eq_true, if_false]
    refine wpAny_bind (wpAny_holding (wpAny_pyIter_list ht ?_))
    refine wpAny_bind (wpAny_holding (draw_list hlt items.size 0 _ _ ⟨_, Heap.get?_push_size _ rfl, rfl, rfl⟩ (ht.push _) (by lia) fun h₁ hit₁ hs₁ => ?_))
    have hall : List.take items.size (List.drop 0 items.toList) = items.toList := by
      rw [List.drop_zero]; exact List.take_of_length_le (by simp)
    rw [hall]
    rw [if_neg (by simp)]
    have ht₁ : h₁.IsList t items := (ht.push _).extBut hs₁.extBut hlt
    refine wpAny_bind (wpAny_holding (wpAny_pyNext_list_end hh hit₁ ht₁ (by simp) fun h₂ he₂ => ?_))
    simp only [Option.isSome_none, Bool.false_eq_true, if_false]
    refine wpAny_pure (hQ h₂ fun b o hb e => he₂ b o hb (hs₁.extBut b o hb (Heap.get?_push_of_some _ e)))

theorem unpack_any {A : Around} {E : ∀ uu : Value, ∀ uu : Shared, Prop} {s : Shared} {X : DH} {t : Addr} {us : List Value} {k : Nat} {Q : ∀ uu : List Value, ∀ uu : Shared, Prop} (hh : A.handled = none) (ht : IsS D t us) (hk : k = us.length) (d : Sub D s.heap) (x : Sub X s.heap) (j : Dj D X)
    (hQ : ∀ vs s', ∀ uu : vs.map er = us, ∀ uu : After s X D s', ∀ uu : (∀ a o, ∀ uu : s.heap.get? a = some o, s'.heap.get? a = some o), Q vs s') : wpAny (model prog w) A (unpackItems (.ref t) k none) Q E s := by
  have keep : ∀ h', ∀ uu : Heap.ExtBut s.heap.objs.size s.heap h', ∀ a o, ∀ uu : s.heap.get? a = some o, h'.get? a = some o := fun h' he a o e => he a o (Nat.ne_of_lt (Heap.lt_size e)) e
  rcases ht with ⟨vs, m, hD, hm⟩ | ⟨vs, m, hD, hm⟩
  · have hL : s.heap.IsList t vs.toArray := ⟨_, d _ _ hD, rfl, m, rfl⟩
    have e : k = vs.toArray.size := by rw [hk, ← hm]; simp
    subst e
    exact unpackItems_list hh hL fun h' he => hQ _ _ (by simpa using hm) (After.keep d x j (keep h' he)) (keep h' he)
  · have hL : s.heap.IsTuple t vs.toArray := ⟨_, d _ _ hD, rfl, m, rfl⟩
    have e : k = vs.toArray.size := by rw [hk, ← hm]; simp
    subst e
    exact wpAny_unpackItems_tuple hh hL fun h' he => hQ _ _ (by simpa using hm) (After.keep d x j (keep h' he)) (keep h' he)

noncomputable def bindAll : ∀ uu : List Str, ∀ uu : List Value, ∀ uu : List (Str × Value), List (Str × Value)
  | x :: xs, u :: us, ρ => bindAll xs us ((x, u) :: ρ)
  | _, _, ρ => ρ

theorem stores_go {A : Around} {X : DH} {env : Env} {E : ∀ uu : Value, ∀ uu : Shared, Prop} {α : Type} {nm : ∀ uu : α, Str} {f : ∀ uu : α, ∀ uu : Value, Sem Unit} (hf : ∀ x V s (Q : ∀ uu : Unit, ∀ uu : Shared, Prop), ∀ uu : wpAny (model prog w) A (storeName env (nm x) V) Q E s, wpAny (model prog w) A (f x V) Q E s) :
    ∀ (xs : List α) (Vs : List Value) (ρ : List (Str × Value)) (s : Shared) (Q : ∀ uu : Unit, ∀ uu : Shared, Prop), ∀ uu : xs.length = Vs.length, ∀ uu : (∀ x, ∀ uu : x ∈ xs, sc.names.lookup (nm x) = some .local ∨ sc.names.lookup (nm x) = some .cell), ∀ uu : Cx Hb n sc ρ D A s X env,
      (∀ s', ∀ uu : After s X D s', ∀ uu : Cx Hb n sc (bindAll (xs.map nm) (Vs.map er) ρ) D A s' X env, Q () s') → wpAny (model prog w) A (assignInOrder (xs.map f) Vs) Q E s
  | [], [], _, s, Q, _, _, c, k => wpAny_assignInOrder_none (k s (.refl c.d c.x c.j) c)
  | [], _ :: _, _, _, _, hl, _, _, _ => by simp at hl
  | _ :: _, [], _, _, _, hl, _, _, _ => by simp at hl
  | x :: xs, V :: Vs, ρ, s, Q, hl, hx, c, k => by
    rw [List.map_cons]
    refine wpAny_assignInOrder_more (hf x V s _ (c.store (hx x (.head _)) fun s₁ t₁ c₁ => ?_))
    exact stores_go hf xs Vs _ s₁ Q (by simpa using hl) (fun y hy => hx y (.tail _ hy)) c₁ fun s₂ t₂ c₂ => k s₂ (t₁.trans t₂) c₂

inductive UnpR (xs : List (Str × Pos)) (ρ : List (Str × Value)) (Q : ∀ uu : Flow, ∀ uu : List (Str × Value), ∀ uu : DH, Prop) (v : Value) (D' : DH) : Prop
  | mk : ∀ t us, ∀ uu : v = .ref t, ∀ uu : IsS D' t us, ∀ uu : us.length = xs.length, ∀ uu : Q .next (bindAll (xs.map (·.1)) us ρ) D', UnpR xs ρ Q v D'
-- a, b = a tuple or a list
theorem T1_unpack {elts : List Expr} {x1} {tp pos : Pos} {value : Expr} {xs : List (Str × Pos)} {Q : ∀ uu : Flow, ∀ uu : List (Str × Value), ∀ uu : DH, Prop} (hes : elts = namesE xs)
    (hx : (xs.all fun p => sc.names.lookup p.1 == some .local || sc.names.lookup p.1 == some .cell) = true)
    (h : TE prog w Hb n sc value ρ D (UnpR xs ρ Q))
    (hw : ∀ env : Env, ∀ uu : env.scope = sc, swappedStores [.Tuple elts x1 tp] value env = pure none) (hs : ∀ env, swapsWithSole [.Tuple elts x1 tp] value pos.line env = pure false := by intro _; rfl) :
    T1 prog w Hb n sc (.Assign [.Tuple elts x1 tp] value pos) ρ D Q := by
  intro A s X env c
  refine Assign_Tuple (c.expr h fun V D' s' hq4 a c' => ?_) (hs env) (hw env c.e.se)
  obtain ⟨t, us, e, hS, hlen, q⟩ := hq4
  obtain rfl := er_ref e
  rw [arm_assign_Tuple]
  refine wpAny_bind (wpAny_standAt ?_)
  unfold unpack
  rw [assignEach_names hes]
  have hstar : (xs.map fun p => (false, assign (.Name p.1 p.2) env)).findIdx? (·.1) = none := by simp [List.findIdx?_eq_none_iff]
  rw [hstar]
  refine wpAny_bind (wpAny_holding (unpack_any c.ok.hh hS (by simp [hlen]) c'.d c'.x c'.j fun vs s₂ hm t₂ keep => ?_))
  have c₂ := c'.next t₂ (FrameS.of c'.f fun b hb o ho => keep b o ho) c'.o
  rw [List.map_map]
  refine stores_go (nm := fun p : Str × Pos => p.1) (f := fun p : Str × Pos => assign (.Name p.1 p.2) env) (fun uu uu uu uu z => wpAny_assign_Name z) xs vs ρ s₂ _ (by rw [← hm] at hlen; simpa using hlen.symm) (fun p hp => ?_) c₂ (fun s₃ t₃ c₃ => ?_)
  · simpa using List.all_eq_true.mp hx p hp
  · rw [hm] at c₃
    exact ⟨_, D', q, (a.trans t₂).trans t₃, c₃.f, c₃.o⟩

inductive SwapR (ys : List Str) (ρ : List (Str × Value)) (Q : ∀ uu : Flow, ∀ uu : List (Str × Value), ∀ uu : DH, Prop) (v : Value) (D' : DH) : Prop
  | mk : ∀ t us, ∀ uu : v = .ref t, ∀ uu : IsS D' t us, ∀ uu : us.length = ys.length, ∀ uu : Q .next (bindAll ys.reverse us.reverse ρ) D', SwapR ys ρ Q v D'
-- a, b = x, y where the stores are swapped
theorem T1_swap {elts : List Expr} {x1} {tp pos : Pos} {value : Expr} {ys : List Str} {Q : ∀ uu : Flow, ∀ uu : List (Str × Value), ∀ uu : DH, Prop}
    (hx : (ys.all fun x => sc.names.lookup x == some .local || sc.names.lookup x == some .cell) = true)
    (h : TE prog w Hb n sc value ρ D (SwapR ys ρ Q))
    (hw : ∀ env : Env, ∀ uu : env.scope = sc, swappedStores [.Tuple elts x1 tp] value env = pure (some ys)) (hs : ∀ env, swapsWithSole [.Tuple elts x1 tp] value pos.line env = pure false := by intro _; rfl) :
    T1 prog w Hb n sc (.Assign [.Tuple elts x1 tp] value pos) ρ D Q := by
  intro A s X env c
  refine Assign_Tuple_swapped (c.expr h fun V D' s' hq5 a c' => ?_) (hs env) (hw env c.e.se)
  obtain ⟨t, us, e, hS, hlen, q⟩ := hq5
  obtain rfl := er_ref e
  refine unpack_any c.ok.hh hS hlen.symm c'.d c'.x c'.j fun vs s₂ hm t₂ keep => ?_
  have c₂ := c'.next t₂ (FrameS.of c'.f fun b hb o ho => keep b o ho) c'.o
  refine stores_go (nm := fun x : Str => x) (f := fun x : Str => bindName env x) (fun uu uu uu uu z => wpAny_bindName z) ys.reverse vs.reverse ρ s₂ _ (by rw [← hm] at hlen; simpa using hlen.symm) (fun x hx' => ?_) c₂ (fun s₃ t₃ c₃ => ?_)
  · simpa using List.all_eq_true.mp hx x (List.mem_reverse.mp hx')
  · rw [List.map_reverse (f := er), hm, List.map_id'] at c₃
    exact ⟨_, D', q, (a.trans t₂).trans t₃, c₃.f, c₃.o⟩
end
end

section
noncomputable abbrev erP {K : Type} (p : K × Value) : K × Value := (p.1, er p.2)
theorem stored_map {K : Type} [DecidableEq K] (kvs : List (K × Value)) (k : K) (v : Value) : (stored kvs k v).map erP = stored (kvs.map erP) k (er v) := by
  unfold stored
  have e : ((kvs.map erP).any fun kv => decide (kv.1 = k)) = (kvs.any fun kv => decide (kv.1 = k)) := by rw [List.any_map]; rfl
  rw [e]
  split
  · rw [List.map_map, List.map_map]
    refine List.map_congr_left fun x uu => ?_
    by_cases h : x.1 = k <;> simp [erP, h]
  · simp [erP]
theorem valueAt_map {K : Type} [DecidableEq K] (kvs : List (K × Value)) (k : K) : valueAt (kvs.map erP) k = (valueAt kvs k).map er := by
  unfold valueAt
  rw [List.find?_map]
  have : ((fun kv : K × Value => decide (kv.1 = k)) ∘ erP) = fun kv => decide (kv.1 = k) := rfl
  rw [this]
  cases kvs.find? fun kv => decide (kv.1 = k) <;> rfl

section
variable (prog : Program) (w : World)
-- a dict with ints for keys
inductive IsID (D : DH) (d : Addr) (ks : List (Int × Value)) : Prop
  | mk : ∀ o kvs, ∀ uu : D d = some o, ∀ uu : o.IsDictOf (intKind prog w) kvs, ∀ uu : kvs.map erP = ks, IsID D d ks
noncomputable abbrev tK := tupleKind (intKind prog w)
-- a dict with tuples of ints for keys
inductive IsTD (D : DH) (d : Addr) (ks : List (List Int × Value)) : Prop
  | mk : ∀ o es ep xs, ∀ uu : D d = some o, ∀ uu : o.ExactDict, ∀ uu : o.data = .dict es ep, ∀ uu : es.toList = xs.map (entryOfKey (tK prog w)), ∀ uu : (∀ x, ∀ uu : x ∈ xs, ∃ vs n, D x.2.1 = some (tupO vs n) ∧ ItemsAre (intKind prog w) x.1 vs), ∀ uu : (xs.map (·.1)).Nodup, ∀ uu : (kvsOf xs).map erP = ks, IsTD D d ks
end

section
variable {prog : Program} {w : World} {Hb : Heap} {K : Frag} {n : Nat} {sc : Scope} {ρ : List (Str × Value)} {D : DH}

theorem IsID.le {D D' : DH} {d : Addr} {ks : List (Int × Value)} (k : Le D D') (h : IsID prog w D d ks) : IsID prog w D' d ks := let ⟨o, kvs, a, b, c⟩ := h; ⟨o, kvs, k _ _ a, b, c⟩
theorem IsTD.le {D D' : DH} {d : Addr} {ks : List (List Int × Value)} (k : Le D D') (h : IsTD prog w D d ks) : IsTD prog w D' d ks := by
  obtain ⟨o, es, ep, xs, a, b, c, e, f, g, gg⟩ := h
  exact ⟨o, es, ep, xs, k _ _ a, b, c, e, fun x hx => let ⟨vs, n, p, q⟩ := f x hx; ⟨vs, n, k _ _ p, q⟩, g, gg⟩
theorem IsTD.at {D : DH} {d : Addr} {ks : List (List Int × Value)} {h : Heap} (s : Sub D h) (t : IsTD prog w D d ks) : ∃ xs, h.DictOfH (tK prog w) d xs ∧ (kvsOf xs).map erP = ks ∧ ∀ x, ∀ uu : x ∈ xs, ∃ vs n, D x.2.1 = some (tupO vs n) ∧ ItemsAre (intKind prog w) x.1 vs := by
  obtain ⟨o, es, ep, xs, a, b, c, e, f, g, k⟩ := t
  refine ⟨xs, ⟨o, es, ep, s _ _ a, b, c, e, fun x hx => ?_, g⟩, k, f⟩
  refine ex2_2 (f x hx) fun vs m p q => ?_
  exact ⟨_, _, m, s _ _ p, rfl, rfl, by simpa using q⟩

theorem er_isInt {V : Value} {i : Int} (h : er V = .int i 0) : (intKind prog w).is i V = true := by
  obtain ⟨t, rfl⟩ := er_int h
  exact isInt_self i t
theorem itemsAre_of : ∀ {vs : List Value} {ks : List Int}, ∀ uu : vs.map er = intL ks, ItemsAre (intKind prog w) ks vs
  | [], [], _ => .nil
  | [], _ :: _, h => by simp [intL] at h
  | _ :: _, [], h => by simp [intL] at h
  | v :: vs, k :: ks, h => by
    simp only [intL, List.map_cons, List.cons.injEq] at h
    exact .cons (er_isInt h.1) (itemsAre_of h.2)

theorem TE_dict {pos : Pos} {Q : ∀ uu : Value, ∀ uu : DH, Prop} (h : ∀ a o, ∀ uu : D a = none, ∀ uu : IsID prog w (put D a o) a [], ∀ uu : IsTD prog w (put D a o) a [], Q (.ref a) (put D a o)) : TE prog w Hb n sc (.Dict [] [] pos) ρ D Q := by
  intro A s X env a b c d j bi g
  refine wpAny_Dict_empty ⟨_, h _ { cls := .type "dict", data := .dict #[] } c.none_size ?_ ?_, After.push (k := s.toks) c d j _ rfl⟩
  · exact ⟨_, [], put_self .., ⟨#[], 0, ⟨rfl, rfl, rfl⟩, rfl, fun e he => by simp at he, by first | exact trivial | exact .nil | simp [Pairs], List.nodup_nil⟩, rfl⟩
  · exact ⟨_, #[], 0, [], put_self .., ⟨rfl, rfl, rfl⟩, rfl, rfl, fun x hx => (nomatch hx), List.nodup_nil, rfl⟩

inductive ItemDR (prog : Program) (w : World) (Q : ∀ uu : Value, ∀ uu : DH, Prop) (ov iv : Value) (D₂ : DH) : Prop
  | mk : ∀ a ks k u, ∀ uu : ov = .ref a, ∀ uu : IsID prog w D₂ a ks, ∀ uu : iv = .int k 0, ∀ uu : valueAt ks k = some u, ∀ uu : Q u D₂, ItemDR prog w Q ov iv D₂
-- d[i]
theorem TE_itemD {o i : Expr} {pos : Pos} {Q : ∀ uu : Value, ∀ uu : DH, Prop}
    (h : TE prog w Hb n sc o ρ D (Nx prog w Hb n sc i ρ (ItemDR prog w Q)))
    (hs : ∀ o' i', subscripted i false o' i' = operate [o', i'] (getItem o' i') := by intro _ _; rfl) : TE prog w Hb n sc (.Subscript o i pos) ρ D Q := by
  intro A s X env a b c d j bi g
  refine Subscript_ (TE.seq h a b c d j bi g fun V D₁ s₁ q t => ?_)
  refine TE.seq q a b t.d t.x t.j bi g fun U D₂ s₂ hq1 t' => ?_
  obtain ⟨l, ks, k, u, e1, ⟨o, kvs, hD, hk, hm⟩, e2, hv, q'⟩ := hq1
  obtain rfl := er_ref e1
  subst hm
  have hd : s₂.heap.DictOf (intKind prog w) l kvs := Heap.dictOf_iff.mpr ⟨o, t'.d _ _ hD, hk⟩
  rw [valueAt_map] at hv
  refine ex1_2 (Option.map_eq_some_iff.mp hv) fun W hW eR2 => ?_
  obtain rfl := eR2
  have hT : s₂.TypeIs (.ref l) "dict" := hd.mapOf.typeIs
  exact tail_any hT slot_dict_getitem.lookup (wpAny_getItem_of (er_isInt e2) hd.mapOf hW ⟨D₂, q', (t.trans t').trans (.tok t'.d t'.x t'.j _)⟩) (hs _ _)

inductive ItemTR (prog : Program) (w : World) (Q : ∀ uu : Value, ∀ uu : DH, Prop) (ov iv : Value) (D₂ : DH) : Prop
  | mk : ∀ a ks b k u, ∀ uu : ov = .ref a, ∀ uu : IsTD prog w D₂ a ks, ∀ uu : iv = .ref b, ∀ uu : IsT D₂ b (intL k), ∀ uu : valueAt ks k = some u, ∀ uu : Q u D₂, ItemTR prog w Q ov iv D₂
-- d[x, y]
theorem TE_itemT {o i : Expr} {pos : Pos} {Q : ∀ uu : Value, ∀ uu : DH, Prop}
    (h : TE prog w Hb n sc o ρ D (Nx prog w Hb n sc i ρ (ItemTR prog w Q)))
    (hs : ∀ o' i', subscripted i false o' i' = operate [o', i'] (getItem o' i') := by intro _ _; rfl) : TE prog w Hb n sc (.Subscript o i pos) ρ D Q := by
  intro A s X env a b c d j bi g
  refine Subscript_ (TE.seq h a b c d j bi g fun V D₁ s₁ q t => ?_)
  refine TE.seq q a b t.d t.x t.j bi g fun U D₂ s₂ hq2 t' => ?_
  obtain ⟨l, ks, bb, k, u, e1, hk, e2, ⟨vs, m, hB, hvs⟩, hv, q'⟩ := hq2
  obtain rfl := er_ref e1
  obtain rfl := er_ref e2
  refine ex1_3 (hk.at t'.d) fun xs hd hm uu => ?_
  subst hm
  rw [valueAt_map, valueAt_kvsOf, Option.map_map] at hv
  refine ex1_2 (Option.map_eq_some_iff.mp hv) fun p hp eR2 => ?_
  obtain rfl := eR2
  have hT : s₂.TypeIs (.ref l) "dict" := hd.typeIs
  refine tail_any hT slot_dict_getitem.lookup (wpAny_getItem_heap (knd := tK prog w) ?_ ⟨_, _, m, t'.d _ _ hB, rfl, rfl, by simpa using itemsAre_of hvs⟩ hd hp ⟨D₂, q', (t.trans t').trans (.tok t'.d t'.x t'.j _)⟩) (hs _ _)
  show A.in1.units < cLine
  have := b.uni
  rw [Around.in1_units]; unfold cLine; lia

theorem upd_D {s : Shared} {X : DH} {a : Addr} {o o' : Obj} {h' : Heap} {k : Nat} (d : Sub D s.heap) (x : Sub X s.heap) (j : Dj D X) (hD : D a = some o) (hg : h'.get? a = some o') (hss : Heap.SameBut a s.heap h') : After s X (put D a o') { s with heap := h', toks := k } := by
  refine ⟨⟨h', k, rfl⟩, fun b ob e => ?_, fun b ob e => ?_, j.put (j _ _ hD)⟩
  · by_cases z : b = a
    · subst z; rw [put_self] at e; obtain rfl := (Option.some.inj e).symm; exact hg
    · rw [put_ne z] at e; exact (hss.2 b z).trans (d b ob e)
  · have z : b ≠ a := nosA (j _ _ hD) e
    exact (hss.2 b z).trans (x b ob e)

inductive SetD2 (prog : Program) (w : World) (ρ : List (Str × Value)) (Q : ∀ uu : Flow, ∀ uu : List (Str × Value), ∀ uu : DH, Prop) (v ov iv : Value) (D₃ : DH) : Prop
  | mk : ∀ a ks k, ∀ uu : ov = .ref a, ∀ uu : iv = .int k 0, ∀ uu : IsID prog w D₃ a ks, ∀ uu : ks.length ≤ sizeLine, ∀ uu : (∀ o', ∀ uu : IsID prog w (put D₃ a o') a (stored ks k v), Q .next ρ (put D₃ a o')), SetD2 prog w ρ Q v ov iv D₃
noncomputable def SetDR (prog : Program) (w : World) (Hb : Heap) (n : Nat) (sc : Scope) (i : Expr) (ρ : List (Str × Value)) (Q : ∀ uu : Flow, ∀ uu : List (Str × Value), ∀ uu : DH, Prop) (v ov : Value) (D₂ : DH) : Prop := TE prog w Hb n sc i ρ D₂ (SetD2 prog w ρ Q v ov)
-- d[i] = v
theorem T1_setitemD {o i value : Expr} {p pos : Pos} {Q : ∀ uu : Flow, ∀ uu : List (Str × Value), ∀ uu : DH, Prop}
    (h : TE prog w Hb n sc value ρ D (Nx prog w Hb n sc o ρ (SetDR prog w Hb n sc i ρ Q)))
    (hs : ∀ env, swapsWith value (some (.Subscript o i p)) pos.line env = pure false := by intro _; rfl) :
    T1 prog w Hb n sc (.Assign [.Subscript o i p] value pos) ρ D Q := by
  intro A s X env c
  refine wpAny_Assign_Subscript (c.expr h fun V D₁ s₁ q t c₁ => ?_) (hs env)
  refine c₁.expr q fun U D₂ s₂ q' t' c₂ => ?_
  refine c₂.expr q' fun I D₃ s₃ hq3 t'' c₃ => ?_
  obtain ⟨a, ks, k, e1, e2, ⟨o, kvs, hD, hk, hm⟩, hz, q''⟩ := hq3
  obtain rfl := er_ref e1
  subst hm
  have hd : s₃.heap.DictOf (intKind prog w) a kvs := Heap.dictOf_iff.mpr ⟨o, c₃.d _ _ hD, hk⟩
  refine wpAny_setItem_pairs (er_isInt e2) hd (fun h' hm' hss => ?_) (by simpa using hz)
  refine ex1_2 (Heap.dictOf_iff.mp hm') fun o' ho' hk' => ?_
  have t3 := upd_D (k := s₃.toks + 1) c₃.d c₃.x c₃.j hD ho' hss
  have c4 := c₃.upd hD t3 hss
  exact ⟨ρ, _, q'' _ ⟨o', _, put_self .., hk', stored_map kvs k V⟩, ((t.trans t').trans t'').trans t3, c4.f, c4.o⟩

inductive SetT2 (prog : Program) (w : World) (ρ : List (Str × Value)) (Q : ∀ uu : Flow, ∀ uu : List (Str × Value), ∀ uu : DH, Prop) (v ov iv : Value) (D₃ : DH) : Prop
  | mk : ∀ a ks b k, ∀ uu : ov = .ref a, ∀ uu : iv = .ref b, ∀ uu : IsT D₃ b (intL k), ∀ uu : IsTD prog w D₃ a ks, ∀ uu : ks.length ≤ sizeLine, ∀ uu : (∀ o', ∀ uu : IsTD prog w (put D₃ a o') a (stored ks k v), Q .next ρ (put D₃ a o')), SetT2 prog w ρ Q v ov iv D₃
noncomputable def SetTR (prog : Program) (w : World) (Hb : Heap) (n : Nat) (sc : Scope) (i : Expr) (ρ : List (Str × Value)) (Q : ∀ uu : Flow, ∀ uu : List (Str × Value), ∀ uu : DH, Prop) (v ov : Value) (D₂ : DH) : Prop := TE prog w Hb n sc i ρ D₂ (SetT2 prog w ρ Q v ov)
-- d[x, y] = v
theorem T1_setitemT {o i value : Expr} {p pos : Pos} {Q : ∀ uu : Flow, ∀ uu : List (Str × Value), ∀ uu : DH, Prop}
    (h : TE prog w Hb n sc value ρ D (Nx prog w Hb n sc o ρ (SetTR prog w Hb n sc i ρ Q)))
    (hs : ∀ env, swapsWith value (some (.Subscript o i p)) pos.line env = pure false := by intro _; rfl) :
    T1 prog w Hb n sc (.Assign [.Subscript o i p] value pos) ρ D Q := by
  intro A s X env c
  refine wpAny_Assign_Subscript (c.expr h fun V D₁ s₁ q t c₁ => ?_) (hs env)
  refine c₁.expr q fun U D₂ s₂ q' t' c₂ => ?_
  refine c₂.expr q' fun I D₃ s₃ hq4 t'' c₃ => ?_
  obtain ⟨a, ks, bb, k, e1, e2, ⟨vs, m, hB, hvs⟩, htd, hz, q''⟩ := hq4
  obtain rfl := er_ref e1
  obtain rfl := er_ref e2
  refine ex1_3 (htd.at c₃.d) fun xs hd hm hks => ?_
  have hDa : ∃ o es ep, D₃ a = some o ∧ o.data = .dict es ep := let ⟨o, es, ep, _, z, _, y, _, _, _, _⟩ := htd; ⟨o, es, ep, z, y⟩
  refine ex3_2 (hDa) fun o₀ es₀ ep₀ hD hdat => ?_
  try clear hDa
  subst hm
  have nt : ∀ {b : Addr} {vs : List Value} {m : Nat}, ∀ uu : D₃ b = some (tupO vs m), b ≠ a := fun {b vs m} e z => by subst z; rw [hD] at e; obtain rfl := (Option.some.inj e).symm; cases hdat
  refine wpAny_setItem_heap (knd := tK prog w) ?_ ⟨_, _, m, c₃.d _ _ hB, rfl, rfl, by simpa using itemsAre_of hvs⟩ hd (fun h' hm' hss => ?_) (by simpa [kvsOf] using hz)
  · show A.in1.units < cLine
    have := c.ok.uni
    rw [Around.in1_units]; unfold cLine; lia
  refine ex3_6 (hm') fun o' es' ep' ho' hx' hd' he' uu hn' => ?_
  try clear hm'
  have t3 := upd_D (k := s₃.toks + (tK prog w).draws k) c₃.d c₃.x c₃.j hD ho' hss
  have c4 := c₃.upd hD t3 hss
  refine ⟨ρ, _, q'' _ ⟨o', es', ep', _, put_self .., hx', hd', he', fun x hx => ?_, hn', by rw [kvsOf_storedH]; exact stored_map _ k V⟩, ((t.trans t').trans t'').trans t3, c4.f, c4.o⟩
  rcases mem_storedH hx with ⟨y, hy, e1, e2⟩ | ⟨e1, e2⟩
  · refine ex2_2 (hks y hy) fun vs' m' p1 p2 => ?_
    exact ⟨vs', m', by rw [put_ne (by rw [e2]; exact nt p1), e2]; exact p1, e1 ▸ p2⟩
  · exact ⟨vs, m, by rw [put_ne (by rw [e2]; exact nt hB), e2]; exact hB, by rw [e1]; exact itemsAre_of hvs⟩
end
end

section
noncomputable abbrev PG : Program := PySem.Challenge.rw_ok0153_01.row.prog
noncomputable def stm (i : Nat) : Stmt := (PySem.Challenge.pw_ok0153_01.main.body[i]?).getD (.Pass default)
noncomputable def met (i j : Nat) : Stmt := match stm i with
  | .ClassDef _ _ _ b _ _ _ _ _ _ _ => (b[j]?).getD (.Pass default)
  | _ => .Pass default
noncomputable def bodyOf : ∀ uu : Stmt, List Stmt
  | .FunctionDef _ _ b _ _ _ _ _ _ _ => b
  | _ => []
noncomputable def scopeOf : ∀ uu : Stmt, Scope
  | .FunctionDef _ _ _ _ _ _ s _ _ _ => s
  | _ => default

-- the text's names, and where they stand
noncomputable def globTab : List (Str × Addr) := 
  ([("clamped", 21), ("put_block", 28), ("parts", 35), ("Component", 52), ("Frame", 118), ("Plane", 153), ("Picture", 191), ("kept_in", 202), ("blank", 214), ("dequantise", 224)] : List (Str × Addr)) ++
  ([("RangeError", 254), ("descaled", 263), ("even_inverse", 277), ("turned", 284), ("FourDct", 351), ("TwoDct", 382), ("OneDct", 410), ("picked", 421), ("inverse", 428), ("zigzag_places", 435)] : List (Str × Addr)) ++
  ([("order", 660), ("to_row", 665), ("to_block", 672), ("corner", 679), ("check_side", 686), ("scaled_samples", 691), ("grown", 698), ("repeated", 703), ("grown_to", 710), ("scaled_size", 736)] : List (Str × Addr)) ++
  ([("side_of", 743), ("fits", 750), ("scaled_plane", 757), ("scaled_picture", 764), ("Grid", 793), ("_law_begun", 804), ("_law_next", 811), ("_law_over", 818), ("_law_frame", 823), ("_law_side", 830)] : List (Str × Addr)) ++
  ([("_law_is_refused", 837)] : List (Str × Addr))
noncomputable def intTab : List (Str × Int) := [("CONST_BITS", 13), ("PASS_BITS", 2), ("C_0_541", 4433), ("C_0_765", 6270), ("C_1_847", 15137), ("SIDE_dct_small", 4), ("SCALE", 8)]
noncomputable def bltTab : List (Str × Value) := [("range", .type "range"), ("len", .builtin "len"), ("max", .builtin "max"), ("min", .builtin "min"), ("list", .type "list"), ("tuple", .type "tuple")]
-- the classes: their attributes that the law uses
noncomputable def clsTab : List (Addr × List Str) := [(52, ["ident", "across", "down", "quant"]), (118, ["kind", "precision", "height", "width", "components", "n"]), (153, ["width", "height", "rows"]), (191, ["model", "precision", "planes"]), (793, ["many", "planes"]), (351, []), (382, []), (410, [])]
noncomputable def initTab : List (Addr × Addr) := [(52, 49), (118, 70), (153, 136), (191, 171), (793, 776)]
noncomputable def bareTab : List Addr := [351, 382, 410]
noncomputable def metTab : List (Addr × List (Str × Addr)) := [(118, [("most_across", 75), ("most_down", 80), ("mcus_across", 87), ("mcus_down", 94), ("plane_size", 101), ("blocks", 108), ("padded", 115)]), (153, [("at", 143)]), (351, [("inverse", 348)]), (382, [("inverse", 372), ("sums", 379)]), (410, [("inverse", 407)]),
  (793, [("get", 783), ("put", 790)])]
-- the defs: where, scope, body, parameters
noncomputable def fnTab : List (Addr × Stmt × List Str) := 
  ([(21, stm 1, ["number", "most"]), (28, stm 2, ["plane", "x", "y", "block", "n", "centre", "most"]), (35, stm 4, ["many", "size"]), (49, met 5 0, ["self", "ident", "across", "down", "quant"]), (70, met 6 0, ["self", "kind", "precision", "height", "width", "components", "n"]), (75, met 6 1, ["self"]), (80, met 6 2, ["self"]), (87, met 6 3, ["self"]), (94, met 6 4, ["self"]), (101, met 6 5, ["self", "place"])] : List (Addr × Stmt × List Str)) ++
  ([(108, met 6 6, ["self", "place"]), (115, met 6 7, ["self", "place"]), (136, met 8 0, ["self", "width", "height", "rows"]), (143, met 8 1, ["self", "x", "y"]), (171, met 9 0, ["self", "model", "precision", "planes"]), (202, stm 10, ["place", "size"]), (214, stm 12, ["width", "height", "value"]), (224, stm 15, ["row", "qtable"]), (263, stm 25, ["number", "bits"]), (277, stm 27, ["plain", "half", "first", "third"])] : List (Addr × Stmt × List Str)) ++
  ([(284, stm 28, ["block", "n"]), (348, met 47 1, ["self", "block"]), (372, met 48 1, ["self", "block"]), (379, met 48 2, ["self", "block"]), (407, met 49 1, ["self", "block"]), (421, stm 52, ["n"]), (428, stm 53, ["block", "n"]), (435, stm 55, ["n"]), (660, stm 57, ["n"]), (665, stm 58, ["block", "n"])] : List (Addr × Stmt × List Str)) ++
  ([(672, stm 59, ["row", "n"]), (679, stm 60, ["row", "n", "less"]), (686, stm 62, ["n", "less"]), (691, stm 63, ["row", "n", "less"]), (698, stm 65, ["plane", "across", "down", "width", "height", "fancy"]), (703, stm 66, ["plane", "most_across", "own_across", "most_down", "own_down", "width", "height"]), (710, stm 67, ["plane", "own_across", "most_across", "own_down", "most_down", "width", "height", "fancy"]), (736, stm 72, ["frame", "less"]), (743, stm 73, ["frame", "place", "less"]), (750, stm 74, ["wanted", "told"])] : List (Addr × Stmt × List Str)) ++
  ([(757, stm 75, ["frame", "grid", "place", "qtable", "side"]), (764, stm 76, ["frame", "grid", "quant", "model", "less", "fancy"]), (776, met 78 0, ["self", "frame"]), (783, met 78 1, ["self", "place", "x", "y"]), (790, met 78 2, ["self", "place", "x", "y", "row"]), (804, stm 80, ["script"]), (811, stm 81, ["state", "limit"]), (818, stm 82, ["one", "other"]), (823, stm 83, ["state", "side"]), (830, stm 84, ["pair", "most_pair", "side", "less_side"])] : List (Addr × Stmt × List Str)) ++
  ([(837, stm 85, ["frame_here", "grid_here", "tables", "less_side"]), (842, stm 86, ["script"])] : List (Addr × Stmt × List Str))

noncomputable def FnFact (K : Frag) (f : Addr) (st : Stmt) (ns : List Str) : Prop :=
  FnAt (K.lookup f) (fun c q => codeIn K c q = true) (scopeOf st) (bodyOf st) ns

structure KFacts (K : Frag) : Prop where
  glob : ∀ p, ∀ uu : p ∈ globTab, nsIn K mainGlobals p.1 = some (some (.ref p.2)) ∧ keepIn K (.ref p.2) = true
  int : ∀ p, ∀ uu : p ∈ intTab, ∃ t, nsIn K mainGlobals p.1 = some (some (.int p.2 t))
  blt : ∀ p, ∀ uu : p ∈ bltTab, nsIn K mainGlobals p.1 = some none
  cls : ∀ p, ∀ uu : p ∈ clsTab, plainGet K p.1 "" = true ∧ hasDictIn K p.1 = true ∧ findIn K (.ref p.1) "__setattr__" = some (some (.builtin "object.__setattr__")) ∧ plainOver K p.1 = true ∧ makesIn K p.1 = true ∧
    ∀ x, ∀ uu : x ∈ p.2, findIn K (.ref p.1) x = some none ∧ takerIn K p.1 x = some none
  ini : ∀ p, ∀ uu : p ∈ initTab, findIn K (.ref p.1) "__init__" = some (some (.ref p.2)) ∧ typeIn K (.ref p.2) = some (.type "function")
  bare : ∀ C, ∀ uu : C ∈ bareTab, findIn K (.ref C) "__init__" = some (some (.builtin "object.__init__"))
  mets : ∀ p, ∀ uu : p ∈ metTab, ∀ q, ∀ uu : q ∈ p.2, findIn K (.ref p.1) q.1 = some (some (.ref q.2)) ∧ isFn K (.ref q.2) = true ∧ keepIn K (.ref q.2) = true
  fns : ∀ p, ∀ uu : p ∈ fnTab, FnFact K p.1 p.2.1 p.2.2

structure Stat (w : World) (K : Frag) (Hb : Heap) : Prop where
  k : K.In Hb
  f : KFacts K
  nl : Hb.NoLimit
  g : ∃ mg mb, Hb.Ns mainGlobals mg ∧ Hb.Ns builtinsNs mb ∧ ∀ x : Str, ∀ uu : x ≠ "__name__", mb x = bootBuiltins x

theorem mem_lookup' {α β : Type} [BEq α] [LawfulBEq α] {x : α} {v : β} : ∀ {l : List (α × β)}, ∀ uu : l.lookup x = some v, (x, v) ∈ l
  | [], h => by cases h
  | (y, d) :: r, h => by
    rw [List.lookup_cons] at h
    split at h
    · rename_i q; rw [beq_iff_eq] at q; subst q; obtain rfl := (Option.some.inj h).symm; exact .head _
    · exact .tail _ (mem_lookup' h)

noncomputable def forBody : ∀ uu : Stmt, List Stmt
  | .For _ _ b _ _ => b
  | _ => []
theorem lenS {α : Type} {l : List α} {k : Nat} (h : l.length = k + 1) : ∃ a r, l = a :: r ∧ r.length = k := by
  cases l with
  | nil => cases h
  | cons a r => exact ⟨a, r, rfl, Nat.succ.inj h⟩
theorem len1 {α : Type} {l : List α} (h : l.length = 1) : ∃ a, l = [a] := by
  obtain ⟨a, r, rfl, h2⟩ := lenS h
  obtain rfl := List.eq_nil_of_length_eq_zero h2
  exact ⟨a, rfl⟩
theorem len2 {α : Type} {l : List α} (h : l.length = 2) : ∃ a b, l = [a, b] := by
  obtain ⟨a, r, rfl, h2⟩ := lenS h
  obtain ⟨b, rfl⟩ := len1 h2
  exact ⟨a, b, rfl⟩

theorem pos1 {n k : Nat} (h : k + 1 ≤ n) : ∃ m, n = m + 1 ∧ k ≤ m := ⟨n - 1, by lia, by omega⟩
theorem TC.down {prog : Program} {w : World} {Hb : Heap} {n k : Nat} {f : Value} {args : List Value} {D : DH} {Q : ∀ uu : Value, ∀ uu : DH, Prop} (h : k + 1 ≤ n) (g : ∀ m, ∀ uu : k ≤ m, TC prog w Hb (m + 1) f args D Q) : TC prog w Hb n f args D Q := by
  obtain ⟨m, rfl, h2⟩ := pos1 h
  exact g m h2

section
variable {w : World} {K : Frag} {Hb : Heap}
noncomputable def scopeFine (sc : Scope) (ns : List Str) : Bool :=
  (ns.all fun x => sc.names.lookup x == some .local || sc.names.lookup x == some .cell) && decide ns.Nodup && decide ((cellsFrom 0 sc.names []).map (·.1)).Nodup && (sc.kind == .function) && !sc.isCoroutine && !sc.isGenerator
theorem FnFact.real {f : Addr} {st : Stmt} {ns : List Str} (h : FnFact K f st ns) (k : K.In Hb) : FnAt (Hb.get? f) Hb.CodeRec (scopeOf st) (bodyOf st) ns := by
  obtain ⟨oc, od, osl, name, qual, params, kV, doc, pm, an, cdv, ct, h1, h2, h3⟩ := h
  exact ⟨oc, od, osl, name, qual, params, kV, doc, pm, an, cdv, ct, k _ _ h1, codeRec_of k h2, h3⟩
theorem Fn.of (S : Stat w K Hb) (i : Nat) {f : Addr} {st : Stmt} {ns : List Str} (h : fnTab[i]? = some (f, st, ns)) (hs : scopeFine (scopeOf st) ns = true) : Fn Hb f (scopeOf st) (bodyOf st) ns := by
  unfold scopeFine at hs
  simp only [Bool.and_eq_true, decide_eq_true_eq, Bool.not_eq_true', beq_iff_eq] at hs
  obtain ⟨⟨⟨⟨⟨a, b⟩, c⟩, d⟩, e⟩, g⟩ := hs
  exact ⟨(S.f.fns _ (List.mem_of_getElem? h)).real S.k, b, a, c, d, e, g, S.nl⟩

theorem Stat.gl (S : Stat w K Hb) {x : Str} {f : Addr} (e : globTab.lookup x = some f) : GV Hb x (.ref f) ∧ Kp PG w Hb (.ref f) := by
  obtain ⟨a, b⟩ := S.f.glob _ (mem_lookup' e)
  refine ex2_2 (S.g) fun mg uu G uu => ?_
  refine ⟨⟨mg, G, .inl (mg_of S.k G a)⟩, ?_⟩
  refine ex1_2 (looks_keep (M := model PG w) b S.k) fun k e1 e2 => ?_
  exact ⟨k, e1.elim .inl fun z => .inr (.inl z), e2⟩
theorem boot_max : bootBuiltins "max" = some (.builtin "max") := by decide +kernel
theorem boot_min : bootBuiltins "min" = some (.builtin "min") := by decide +kernel
theorem boot_len' : bootBuiltins "len" = some (.builtin "len") := by decide +kernel
theorem boot_range' : bootBuiltins "range" = some (.type "range") := by decide +kernel
theorem boot_list' : bootBuiltins "list" = some (.type "list") := by decide +kernel
theorem boot_tuple' : bootBuiltins "tuple" = some (.type "tuple") := by decide +kernel
theorem blt_all : ∀ p, ∀ uu : p ∈ bltTab, bootBuiltins p.1 = some p.2 ∧ p.1 ≠ "__name__" := by
  intro p hp
  simp only [bltTab, List.mem_cons, List.not_mem_nil, or_false] at hp
  rcases hp with rfl | rfl | rfl | rfl | rfl | rfl
  · exact ⟨boot_range', by decide⟩
  · exact ⟨boot_len', by decide⟩
  · exact ⟨boot_max, by decide⟩
  · exact ⟨boot_min, by decide⟩
  · exact ⟨boot_list', by decide⟩
  · exact ⟨boot_tuple', by decide⟩
theorem Stat.bl (S : Stat w K Hb) {x : Str} {v : Value} (e : bltTab.lookup x = some v) : GV Hb x v ∧ Kp PG w Hb v ∧ Plain v := by
  have hm := mem_lookup' e
  obtain ⟨hb, hn⟩ := blt_all _ hm
  refine ex2_3 (S.g) fun mg mb G B q => ?_
  refine ⟨⟨mg, G, .inr ⟨mg_none_of S.k G (S.f.blt _ hm), mb, B, (q x hn).trans hb⟩⟩, ?_⟩
  simp only [bltTab, List.mem_cons, List.not_mem_nil, or_false, Prod.mk.injEq] at hm
  rcases hm with ⟨_, rfl⟩ | ⟨_, rfl⟩ | ⟨_, rfl⟩ | ⟨_, rfl⟩ | ⟨_, rfl⟩ | ⟨_, rfl⟩ <;> first | exact ⟨kp_builtin, plain_builtin⟩ | exact ⟨kp_type, plain_type⟩

-- an attribute of a class of the text's
noncomputable def AttrOk (K : Frag) (C : Addr) (x : Str) : Prop := plainGet K C x = true ∧ hasDictIn K C = true ∧ findIn K (.ref C) x = some none ∧ takerIn K C x = some none ∧ findIn K (.ref C) "__setattr__" = some (some (.builtin "object.__setattr__")) ∧ plainOver K C = true
theorem Stat.at (S : Stat w K Hb) {C : Addr} {x : Str} (e : ((clsTab.lookup C).getD []).contains x = true) : AttrOk K C x := by
  cases q : clsTab.lookup C with
  | none => rw [q] at e; cases e
  | some l =>
    rw [q] at e
    refine ex0_6 (S.f.cls _ (mem_lookup' q)) fun a b c d uu g => ?_
    obtain ⟨g1, g2⟩ := g x (by simpa using e)
    exact ⟨a, b, g1, g2, c, d⟩
theorem Stat.makes (S : Stat w K Hb) {C : Addr} (e : (clsTab.lookup C).isSome = true) : makesIn K C = true := by
  obtain ⟨l, q⟩ := Option.isSome_iff_exists.mp e
  exact (S.f.cls _ (mem_lookup' q)).2.2.2.2.1
theorem Stat.met (S : Stat w K Hb) {C f : Addr} {x : Str} (e : ((metTab.lookup C).getD []).lookup x = some f) : (plainGet K C x = true) ∧ findIn K (.ref C) x = some (some (.ref f)) ∧ isFn K (.ref f) = true ∧ keepIn K (.ref f) = true := by
  cases q : metTab.lookup C with
  | none => rw [q] at e; cases e
  | some l =>
    rw [q] at e
    refine ex0_3 (S.f.mets _ (mem_lookup' q) _ (mem_lookup' e)) fun a b c => ?_
    refine ⟨?_, a, b, c⟩
    have hm := mem_lookup' q
    have : (clsTab.lookup C).isSome = true := by
      simp only [metTab, List.mem_cons, List.not_mem_nil, or_false, Prod.mk.injEq] at hm
      rcases hm with ⟨rfl, _⟩ | ⟨rfl, _⟩ | ⟨rfl, _⟩ | ⟨rfl, _⟩ | ⟨rfl, _⟩ | ⟨rfl, _⟩ <;> rfl
    obtain ⟨l', q'⟩ := Option.isSome_iff_exists.mp this
    exact (S.f.cls _ (mem_lookup' q')).1
end

section
variable {w : World} {K : Frag} {Hb : Heap} {n : Nat} {sc : Scope} {ρ : List (Str × Value)} {D : DH}
-- a call of one of the text's own
theorem TE_gcall (S : Stat w K Hb) {x : Str} {p pos : Pos} {args : List Expr} {f : Addr} {Q : ∀ uu : Value, ∀ uu : DH, Prop} (e : globTab.lookup x = some f) (hx : sc.names.lookup x = some .globalImplicit)
    (h : TEs PG w Hb n sc args ρ D (CallR PG w Hb n (.ref f) Q))
    (hd : (x == ("__debug__" : Str)) = false := by decide)
    (hc : ∀ env, eval (.Call (.Name x p) args [] pos) env = (do callWith pos (← eval (.Name x p) env) [] (backTo pos (starEach args env)) (backToKw pos (keywordEach [] env))) := by intro _; rfl)
    (hp : ∀ env, ((backTo pos (starEach args env)).any (·.1)) = false := by intro _; rfl) :
    TE PG w Hb n sc (.Call (.Name x p) args [] pos) ρ D Q :=
  TE_call (TE_gname hx (S.gl e).1 ⟨plain_ref, (S.gl e).2, h⟩ hd) hc hp
-- a call of a built-in
theorem TE_bcall (S : Stat w K Hb) {x : Str} {p pos : Pos} {args : List Expr} {f : Value} {Q : ∀ uu : Value, ∀ uu : DH, Prop} (e : bltTab.lookup x = some f) (hx : sc.names.lookup x = some .globalImplicit)
    (h : TEs PG w Hb n sc args ρ D (CallLR PG w Hb n f Q))
    (hd : (x == ("__debug__" : Str)) = false := by decide)
    (hc : ∀ env, eval (.Call (.Name x p) args [] pos) env = (do callWith pos (← eval (.Name x p) env) [] (backTo pos (starEach args env)) (backToKw pos (keywordEach [] env))) := by intro _; rfl)
    (hp : ∀ env, ((backTo pos (starEach args env)).any (·.1)) = false := by intro _; rfl) :
    TE PG w Hb n sc (.Call (.Name x p) args [] pos) ρ D Q := by
  refine ex0_3 (S.bl e) fun g k pl => ?_
  have ef : er f = f := by
    have hm := mem_lookup' e
    simp only [bltTab, List.mem_cons, List.not_mem_nil, or_false, Prod.mk.injEq] at hm
    rcases hm with ⟨_, rfl⟩ | ⟨_, rfl⟩ | ⟨_, rfl⟩ | ⟨_, rfl⟩ | ⟨_, rfl⟩ | ⟨_, rfl⟩ <;> rfl
  exact TE_callL (TE_gname hx g (by rw [ef]; exact ⟨pl, k, h⟩) hd) hc hp
-- a number of the text's top
theorem TE_gint (S : Stat w K Hb) {x : Str} {pos : Pos} {i : Int} {Q : ∀ uu : Value, ∀ uu : DH, Prop} (e : intTab.lookup x = some i) (hx : sc.names.lookup x = some .globalImplicit) (h : Q (.int i 0) D)
    (hd : (x == ("__debug__" : Str)) = false := by decide) : TE PG w Hb n sc (.Name x pos) ρ D Q := by
  obtain ⟨t, a⟩ := S.f.int _ (mem_lookup' e)
  refine ex2_2 (S.g) fun mg uu G uu => ?_
  exact TE_gname hx ⟨mg, G, .inl (mg_of S.k G a)⟩ h hd
end
end

section
variable {w : World} {K : Frag} {Hb : Heap}

noncomputable abbrev vi (i : Int) : Value := .int i 0
structure Pure (v : Value) (D : DH) (u : Value) (D' : DH) : Prop where mk ::
  h1 : u = v
  h2 : Le D D'
theorem TC.pure {f : Value} {args : List Value} {u : Value} {Q : ∀ uu : Value, ∀ uu : DH, Prop} (h : TC PG w Hb n f args D (Pure u D)) (k : ∀ D', ∀ uu : Le D D', Q u D') : TC PG w Hb n f args D Q := h.mono fun uu uu q => by
  obtain ⟨qY10, l⟩ := q
  obtain rfl := qY10.symm
  exact k _ l
theorem Pure.refl {v : Value} {D : DH} : Pure v D v D := ⟨rfl, Le.refl D⟩

section
variable {n : Nat} {sc : Scope} {ρ : List (Str × Value)} {D : DH}
end


theorem fn_clamped (S : Stat w K Hb) : Fn Hb 21 (scopeOf (stm 1)) (bodyOf (stm 1)) ["number", "most"] :=
  Fn.of S 0 rfl rfl
noncomputable def clampI (a m : Int) : Int := if a < 0 then 0 else if a > m then m else a
theorem sp_clamped (S : Stat w K Hb) {n : Nat} {D : DH} {a m : Int} (hn : 1 ≤ n) : TC PG w Hb n (.ref 21) [vi a, vi m] D (Pure (vi (clampI a m)) D) := by
  refine TC.down hn fun n uu => ?_
  refine TC_def (fn_clamped S) rfl ?_
  refine TS_cons (T1_ret (TE_ifexp (TB_lt (TE_name rfl (TE_int ⟨_, _, rfl, rfl, fun h => ⟨fun uu => TE_int ?_, nTF⟩, fun h => ⟨nFT, fun uu => TE_ifexp (TB_gt (TE_name rfl (TE_name rfl ⟨_, _, rfl, rfl, fun h2 => ⟨fun uu => TE_name rfl ?_, nTF⟩, fun h2 => ⟨nFT, fun uu => TE_name rfl ?_⟩⟩)))⟩⟩)))))
  · unfold clampI; rw [if_pos h]; exact Pure.refl
  · unfold clampI; rw [if_neg h, if_pos h2]; exact Pure.refl
  · unfold clampI; rw [if_neg h, if_neg h2]; exact Pure.refl

theorem fn_parts (S : Stat w K Hb) : Fn Hb 35 (scopeOf (stm 4)) (bodyOf (stm 4)) ["many", "size"] :=
  Fn.of S 2 rfl rfl
theorem sp_parts (S : Stat w K Hb) {n : Nat} {D : DH} {a b : Int} (hb : 0 < b) (hb2 : b < 2 ^ 62) (hn : 1 ≤ n) : TC PG w Hb n (.ref 35) [vi a, vi b] D (Pure (vi ((a + b - 1) / b)) D) := by
  refine TC.down hn fun n uu => ?_
  refine TC_def (fn_parts S) rfl ?_
  exact TS_cons (T1_ret (TE_div (TE_sub (TE_add (TE_name rfl (TE_name rfl ⟨_, _, rfl, rfl, TE_int ⟨_, _, rfl, rfl, TE_name rfl ⟨_, _, rfl, rfl, hb, hb2, Pure.refl⟩⟩⟩))))))

theorem fn_kept_in (S : Stat w K Hb) : Fn Hb 202 (scopeOf (stm 10)) (bodyOf (stm 10)) ["place", "size"] :=
  Fn.of S 15 rfl rfl
noncomputable def keptI (a m : Int) : Int := if a < 0 then 0 else if a < m then a else m - 1
theorem sp_kept_in (S : Stat w K Hb) {n : Nat} {D : DH} {a m : Int} (hn : 1 ≤ n) : TC PG w Hb n (.ref 202) [vi a, vi m] D (Pure (vi (keptI a m)) D) := by
  refine TC.down hn fun n uu => ?_
  refine TC_def (fn_kept_in S) rfl ?_
  refine TS_cons (T1_if (TB_lt (TE_name rfl (TE_int ⟨_, _, rfl, rfl, fun h => ⟨fun uu => TS_cons (T1_ret (TE_int ?_)), nTF⟩, fun h => ⟨nFT, fun uu => TS_nil (TS_cons (T1_ret (TE_ifexp (TB_lt (TE_name rfl (TE_name rfl ⟨_, _, rfl, rfl, fun h2 => ⟨fun uu => TE_name rfl ?_, nTF⟩, fun h2 => ⟨nFT, fun uu => TE_sub (TE_name rfl (TE_int ⟨_, _, rfl, rfl, ?_⟩))⟩⟩))))))⟩⟩))))
  · unfold keptI; rw [if_pos h]; exact Pure.refl
  · unfold keptI; rw [if_neg h, if_pos h2]; exact Pure.refl
  · unfold keptI; rw [if_neg h, if_neg h2]; exact Pure.refl

theorem fn_descaled (S : Stat w K Hb) : Fn Hb 263 (scopeOf (stm 25)) (bodyOf (stm 25)) ["number", "bits"] :=
  Fn.of S 18 rfl rfl
theorem sp_descaled (S : Stat w K Hb) {n : Nat} {D : DH} {a b : Int} (hb : 1 ≤ b) (hb2 : b < 1000) (hn : 1 ≤ n) : TC PG w Hb n (.ref 263) [vi a, vi b] D (Pure (vi ((a + 2 ^ (b - 1).toNat) / 2 ^ b.toNat)) D) := by
  refine TC.down hn fun n uu => ?_
  refine TC_def (fn_descaled S) rfl (TS_cons ?_)
  refine T1_ret (TE_shr (TE_add (TE_name rfl (TE_shl (TE_int (TE_sub (TE_name rfl (TE_int ⟨_, _, rfl, rfl, ⟨_, _, rfl, rfl, by lia, by lia, by decide, ⟨_, _, rfl, rfl, TE_name rfl ⟨_, _, rfl, rfl, by lia, ?_⟩⟩⟩⟩))))))))
  rw [Int.one_mul]; exact Pure.refl
end

section
variable {w : World} {K : Frag} {Hb : Heap}

section
variable {n : Nat} {sc : Scope} {ρ : List (Str × Value)} {D : DH}
theorem le_put' {D₀ D : DH} {d : Addr} {o : Obj} (le : Le D₀ D) (hd : D₀ d = none) : Le D₀ (put D d o) := fun a ob e => by
  have : a ≠ d := nosA (hd) e
  rw [put_ne this]; exact le a ob e
-- self.name = x
theorem T1_self (S : Stat w K Hb) {x name : Str} {p1 p2 p3 pos : Pos} {a C d : Addr} {fs : List (Str × Value)} {v : Value} {D₀ : DH} {Q : ∀ uu : Flow, ∀ uu : List (Str × Value), ∀ uu : DH, Prop} (hs : ρ.lookup ("self" : Str) = some (.ref a)) (hv : ρ.lookup x = some v) (le : Le D₀ D) (hd : D₀ d = none)
    (hI : IsI D a C d fs) (hne : a ≠ d) (ha : ((clsTab.lookup C).getD []).contains name = true)
    (h5 : fs.lookup name = none) (h6 : Nat.ble fs.length 100 = true) (hx : (x == ("__debug__" : Str)) = false) (hx2 : (x == ("__classdict__" : Str)) = false) (k : ∀ D', ∀ uu : Le D₀ D', ∀ uu : IsI D' a C d (fs ++ [(name, v)]), Q .next ρ D') :
    T1 PG w Hb n sc (.Assign [.Attribute (.Name "self" p1) name p2] (.Name x p3) pos) ρ D Q :=
  T1_setattr S.k (TE_name hv (TE_name hs ⟨a, C, d, fs, rfl, hI, hne, (S.at ha).2.2.2.2.1, (S.at ha).2.2.2.2.2, (S.at ha).2.2.2.1, (S.at ha).2.1, h5, Nat.le_of_ble_eq_true h6, fun o' hI' => k _ (le_put' le hd) hI'⟩) hx hx2)
-- name.attr
theorem TE_at (S : Stat w K Hb) {x name : Str} {p1 pos : Pos} {a C : Addr} {fs : List (Str × Value)} {v : Value} {Q : ∀ uu : Value, ∀ uu : DH, Prop} (hs : ρ.lookup x = some (.ref a)) (hI : Inst D a C fs) (ha : ((clsTab.lookup C).getD []).contains name = true)
    (h4 : fs.lookup name = some v) (h5 : handedIn v = true) (k : Q v D) (hx : (x == ("__debug__" : Str)) = false := by decide) (hx2 : (x == ("__classdict__" : Str)) = false := by decide)
    (he : ∀ env, eval (.Attribute (.Name x p1) name pos) env = (do
      let v ← eval (.Name x p1) env
      standAt pos.atName
      let r ← holding [v] (getAttr v name true)
      letTemporaryGo (.Name x p1) v r
      pure r) := by intro _; rfl) : TE PG w Hb n sc (.Attribute (.Name x p1) name pos) ρ D Q :=
  TE_attr S.k (TE_name hs ⟨a, C, fs, v, rfl, hI, (S.at ha).1, (S.at ha).2.1, (S.at ha).2.2.1, h4, h5, k⟩ hx hx2) he
-- name.method(args)
theorem TE_mcall (S : Stat w K Hb) {x name : Str} {p1 apos pos : Pos} {args : List Expr} {pl : ∀ uu : Env, Sem Bool} {a C f : Addr} {fs : List (Str × Value)} {Q : ∀ uu : Value, ∀ uu : DH, Prop} (hs : ρ.lookup x = some (.ref a)) (hI : Inst D a C fs) (hm : ((metTab.lookup C).getD []).lookup name = some f)
    (h5 : fs.lookup name = none) (k : TEs PG w Hb n sc args ρ D (MCallR PG w Hb n f a Q)) (hx : (x == ("__debug__" : Str)) = false := by decide) (hx2 : (x == ("__classdict__" : Str)) = false := by decide)
    (he : ∀ env, eval (.Call (.Attribute (.Name x p1) name apos) args [] pos) env = (do
      let ov ← eval (.Name x p1) env
      standAt apos.atName
      let (f, first) ← holding [ov] (getMethod ov name (pl env))
      callWith pos f first (backTo pos (starEach args env)) (backToKw pos (keywordEach [] env))) := by intro _; rfl)
    (hp : ∀ env, ((backTo pos (starEach args env)).any (·.1)) = false := by intro _; rfl) :
    TE PG w Hb n sc (.Call (.Attribute (.Name x p1) name apos) args [] pos) ρ D Q :=
  TE_meth S.k (TE_name hs ⟨a, C, fs, f, rfl, hI, (S.met hm).1, (S.met hm).2.1, (S.met hm).2.2.1, (S.met hm).2.2.2, h5, k⟩ hx hx2) he hp
end

theorem TC_newK (S : Stat w K Hb) {n : Nat} {D : DH} {C fI : Addr} {args : List Value} {Q : ∀ uu : Value, ∀ uu : DH, Prop} (hc : (clsTab.lookup C).isSome = true) (hi : initTab.lookup C = some fI)
    (h : ∀ x d, ∀ uu : D x = none, ∀ uu : D d = none, ∀ uu : x ≠ d, TC PG w Hb n (.ref fI) (.ref x :: args) (put (put D d emptyDict) x (instObj C d)) (fun r D' => r = .none ∧ Q (.ref x) D')) : TC PG w Hb (n + 1) (.ref C) args D Q :=
  TC_new S.k (S.makes hc) (S.f.ini _ (mem_lookup' hi)).1 (S.f.ini _ (mem_lookup' hi)).2 h
-- what a new object of a class is
inductive NewI (C : Addr) (fs : List (Str × Value)) (D : DH) (v : Value) (D' : DH) : Prop
  | mk : ∀ x, ∀ uu : v = .ref x, ∀ uu : Le D D', ∀ uu : Inst D' x C fs, NewI C fs D v D'
theorem TC.newI {C : Addr} {fs : List (Str × Value)} {f : Value} {args : List Value} {Q : ∀ uu : Value, ∀ uu : DH, Prop} (h : TC PG w Hb n f args D (NewI C fs D)) (k : ∀ (x : Addr) D', ∀ uu : Le D D', ∀ uu : Inst D' x C fs, Q (.ref x) D') : TC PG w Hb n f args D Q := h.mono fun uu uu q => by
  obtain ⟨x, rfl, q0, q1⟩ := q
  exact k _ _ q0 q1

theorem le_new {D : DH} {x d : Addr} {o o' : Obj} (hx : D x = none) (hd : D d = none) : Le D (put (put D d o) x o') :=
  le_put' (le_put' (Le.refl D) hd) hx
theorem new_isI {D : DH} {x C d : Addr} (hne : x ≠ d) : IsI (put (put D d emptyDict) x (instObj C d)) x C d [] :=
  ⟨put_self .., [], 0, by rw [put_ne (Ne.symm hne), put_self], .nil⟩

theorem fn_Component (S : Stat w K Hb) : Fn Hb 49 (scopeOf (met 5 0)) (bodyOf (met 5 0)) ["self", "ident", "across", "down", "quant"] :=
  Fn.of S 3 rfl rfl
theorem sp_Component (S : Stat w K Hb) {n : Nat} {D : DH} {a b c d : Value} (hn : 2 ≤ n) : TC PG w Hb n (.ref 52) [a, b, c, d] D (NewI 52 [("ident", a), ("across", b), ("down", c), ("quant", d)] D) := by
  refine TC.down hn fun n h1 => ?_
  refine TC_newK S rfl rfl fun x dd hx hd hne => ?_
  refine TC.down h1 fun n uu => ?_
  refine TC_def (fn_Component S) rfl ?_
  have i0 := new_isI (D := D) (C := 52) hne
  have l0 : Le D (put (put D dd emptyDict) x (instObj 52 dd)) := le_new hx hd
  refine TS_cons (T1_self S rfl rfl l0 hd i0 hne rfl rfl rfl rfl rfl fun D1 l1 i1 => ?_)
  refine TS_cons (T1_self S rfl rfl l1 hd i1 hne rfl rfl rfl rfl rfl fun D2 l2 i2 => ?_)
  refine TS_cons (T1_self S rfl rfl l2 hd i2 hne rfl rfl rfl rfl rfl fun D3 l3 i3 => ?_)
  refine TS_cons (T1_self S rfl rfl l3 hd i3 hne rfl rfl rfl rfl rfl fun D4 l4 i4 => TS_nil ?_)
  exact ⟨rfl, x, rfl, l4, dd, i4⟩
end

section
variable {w : World} {K : Frag} {Hb : Heap}

theorem range_map_get {α : Type} (G : ∀ uu : α, Value) (l : List α) : (List.range l.length).map (fun i => ((l[i]?).map G).getD .none) = l.map G := by
  apply List.ext_getElem?
  intro i
  rw [List.getElem?_map, List.getElem?_map]
  by_cases h : i < l.length
  · rw [List.getElem?_range h]; simp [h]
  · rw [List.getElem?_eq_none (by simpa using h), List.getElem?_eq_none (by simpa using h)]; rfl

section
variable {n : Nat} {sc cs : Scope} {ρf : List (Str × Value)} {D' : DH}
-- a block whose element only makes new things
structure MapR (u : Value) (D₂ : DH) (v : Value) (D₃ : DH) : Prop where mk ::
  h1 : v = u
  h2 : Le D₂ D₃
theorem CompOf_map {target elt : Expr} {r : Addr} {us : List Value} {Fin : ∀ uu : List Value, ∀ uu : DH, Prop} (F : ∀ uu : Nat, Value)
    (h : ∀ i u D₂, ∀ uu : us[i]? = some u, ∀ uu : Le D' D₂, ∃ β, Asg PG w (relab cs sc) target u D₂ β ∧ TE PG w Hb n (relab cs sc) elt (β ++ ρf) D₂ (MapR (F i) D₂))
    (fin : ∀ D₂, ∀ uu : Le D' D₂, Fin ((List.range us.length).map F) D₂) : CompOf PG w Hb n sc cs target elt [] ρf r us D' Fin := by
  refine ⟨fun i out D₂ => Le D' D₂ ∧ out = (List.range i).map F, ⟨Le.refl _, rfl⟩, fun i out D₂ q o e => q.1 _ _ e, fun i u out D₂ hu q => ?_, fun out D₂ q => q.2 ▸ fin D₂ q.1⟩
  refine ex1_2 (h i u D₂ hu q.1) fun β as te => ?_
  have te' : TE PG w Hb n (relab cs sc) elt (β ++ ρf) D₂ (fun v D₃ => Le D' D₃ ∧ out ++ [v] = (List.range (i + 1)).map F) := te.mono fun v D₃ z => ⟨q.1.trans z.2, by rw [q.2, List.range_succ, List.map_append, z.1]; rfl⟩
  exact ⟨β, as, te'⟩
end

noncomputable def MaxOf (M : Int) (l : List Int) : Prop := M ∈ l ∧ ∀ x, ∀ uu : x ∈ l, x ≤ M

noncomputable def compF (id q : Value) (c : Int × Int) : List (Str × Value) := [("ident", id), ("across", vi c.1), ("down", vi c.2), ("quant", q)]
structure IsComps (D : DH) (us : List Value) (cs : List (Int × Int)) : Prop where mk ::
  h1 : us.length = cs.length
  h2 : ∀ (i : Nat) (u : Value), ∀ uu : us[i]? = some u, ∃ (a : Addr) (id q : Value) (c : Int × Int), u = .ref a ∧ cs[i]? = some c ∧ Inst D a 52 (compF id q c)
noncomputable def frameF (H W n : Int) (cl : Addr) : List (Str × Value) := [("kind", .str "progressive" 0), ("precision", vi 8), ("height", vi H), ("width", vi W), ("components", .ref cl), ("n", vi n)]
inductive IsFr (D : DH) (fr : Addr) (H W n : Int) (cs : List (Int × Int)) : Prop
  | mk : ∀ cl us, ∀ uu : Inst D fr 118 (frameF H W n cl), ∀ uu : IsL D cl us, ∀ uu : IsComps D us cs, IsFr D fr H W n cs
theorem IsComps.le {D D' : DH} {us : List Value} {cs : List (Int × Int)} (k : Le D D') (h : IsComps D us cs) : IsComps D' us cs :=
  ⟨h.1, fun i u e => ex4_3 (h.2 i u e) fun a id q c x y z => ⟨a, id, q, c, x, y, z.le k⟩⟩
theorem IsFr.le {D D' : DH} {fr : Addr} {H W n : Int} {cs : List (Int × Int)} (k : Le D D') (h : IsFr D fr H W n cs) : IsFr D' fr H W n cs :=
  let ⟨cl, us, a, b, c⟩ := h; ⟨cl, us, a.le k, b.le k, c.le k⟩

theorem fn_Frame (S : Stat w K Hb) : Fn Hb 70 (scopeOf (met 6 0)) (bodyOf (met 6 0)) ["self", "kind", "precision", "height", "width", "components", "n"] :=
  Fn.of S 4 rfl rfl
theorem sp_Frame (S : Stat w K Hb) {n : Nat} {D : DH} {a b c d e f : Value} (hn : 2 ≤ n) : TC PG w Hb n (.ref 118) [a, b, c, d, e, f] D (NewI 118 [("kind", a), ("precision", b), ("height", c), ("width", d), ("components", e), ("n", f)] D) := by
  refine TC.down hn fun n h1 => ?_
  refine TC_newK S rfl rfl fun x dd hx hd hne => ?_
  refine TC.down h1 fun n uu => ?_
  refine TC_def (fn_Frame S) rfl ?_
  have i0 := new_isI (D := D) (C := 118) hne
  have l0 : Le D (put (put D dd emptyDict) x (instObj 118 dd)) := le_new hx hd
  refine TS_cons (T1_self S rfl rfl l0 hd i0 hne rfl rfl rfl rfl rfl fun D1 l1 i1 => ?_)
  refine TS_cons (T1_self S rfl rfl l1 hd i1 hne rfl rfl rfl rfl rfl fun D2 l2 i2 => ?_)
  refine TS_cons (T1_self S rfl rfl l2 hd i2 hne rfl rfl rfl rfl rfl fun D3 l3 i3 => ?_)
  refine TS_cons (T1_self S rfl rfl l3 hd i3 hne rfl rfl rfl rfl rfl fun D4 l4 i4 => ?_)
  refine TS_cons (T1_self S rfl rfl l4 hd i4 hne rfl rfl rfl rfl rfl fun D5 l5 i5 => ?_)
  refine TS_cons (T1_self S rfl rfl l5 hd i5 hne rfl rfl rfl rfl rfl fun D6 l6 i6 => TS_nil ?_)
  exact ⟨rfl, x, rfl, l6, dd, i6⟩

theorem fn_most_across (S : Stat w K Hb) : Fn Hb 75 (scopeOf (met 6 1)) (bodyOf (met 6 1)) ["self"] :=
  Fn.of S 5 rfl rfl

theorem sp_most_across (S : Stat w K Hb) {n : Nat} {D : DH} {fr : Addr} {H W s M : Int} {cs : List (Int × Int)} (hf : IsFr D fr H W s cs) (hz : cs.length ≤ sizeLine) (hM : MaxOf M (cs.map (·.1))) (hn : 1 ≤ n) :
    TC PG w Hb n (.ref 75) [.ref fr] D (Pure (vi M) D) := by
  refine TC.down hn fun n uu => ?_
  obtain ⟨cl, us, hI, hL, hlen, hC⟩ := hf
  refine TC_def (fn_most_across S) rfl (TS_cons (T1_ret ?_))
  refine TE_bcall S rfl rfl (TEs_cons ?_)
  refine TE_comp [] rfl RLe.nil (TE_at S rfl hI rfl rfl rfl ⟨cl, us, rfl, .seq (.inl hL), by lia, ?_⟩)
  refine CompOf_map (fun i => ((cs[i]?).map fun c => vi c.1).getD .none) (fun i u D₂ hu le => ?_) fun D₂ le a o ha hL' => TEs_nil ?_
  · refine ex4_3 (hC i u hu) fun x id q c eR4 hc hI' => ?_
    obtain rfl := eR4
    exact ⟨_, Asg_name rfl, TE_at S rfl (hI'.le le) rfl rfl rfl ⟨by rw [hc]; rfl, Le.refl _⟩⟩
  · rw [hlen, range_map_get] at hL'
    have e : cs.map (fun c => vi c.1) = intL (cs.map (·.1)) := by simp [intL]
    rw [e] at hL'
    refine TC_maxL hL' (fun z => by rw [z] at hM; cases hM.1) fun M' h1 h2 => ⟨?_, le.trans (le_put ha)⟩
    have : M' = M := Int.le_antisymm (hM.2 _ h1) (h2 _ hM.1)
    rw [this]
end

section
variable {w : World} {K : Frag} {Hb : Heap}

noncomputable def pt (a b : Int) : Int := (a + b - 1) / b
structure Geo (H W s MA MD : Int) (cs : List (Int × Int)) : Prop where
  hW : 1 ≤ W ∧ W ≤ 11
  hH : 1 ≤ H ∧ H ≤ 11
  hs : s = 2 ∨ s = 4
  hc : ∀ c, ∀ uu : c ∈ cs, (1 ≤ c.1 ∧ c.1 ≤ 4) ∧ (1 ≤ c.2 ∧ c.2 ≤ 4)
  ma : MaxOf MA (cs.map (·.1))
  md : MaxOf MD (cs.map (·.2))
  len : 1 ≤ cs.length ∧ cs.length ≤ 4
theorem Geo.MA {H W s MA MD : Int} {cs : List (Int × Int)} (g : Geo H W s MA MD cs) : 1 ≤ MA ∧ MA ≤ 4 := by
  refine ex1_2 (List.mem_map.mp g.ma.1) fun c hc e => ?_
  have := (g.hc c hc).1
  (and_intros <;> lia)
theorem Geo.MD {H W s MA MD : Int} {cs : List (Int × Int)} (g : Geo H W s MA MD cs) : 1 ≤ MD ∧ MD ≤ 4 := by
  refine ex1_2 (List.mem_map.mp g.md.1) fun c hc e => ?_
  have := (g.hc c hc).2
  (and_intros <;> lia)
theorem Geo.sl {H W s MA MD : Int} {cs : List (Int × Int)} (g : Geo H W s MA MD cs) : cs.length ≤ sizeLine := by
  have := g.len; unfold sizeLine; lia
theorem Geo.at {H W s MA MD : Int} {cs : List (Int × Int)} (g : Geo H W s MA MD cs) {p : Nat} {c : Int × Int} (h : cs[p]? = some c) : (1 ≤ c.1 ∧ c.1 ≤ 4) ∧ (1 ≤ c.2 ∧ c.2 ≤ 4) ∧ p < 4 := by
  have h1 := g.hc c (List.mem_of_getElem? h)
  have h2 := (List.getElem?_eq_some_iff.mp h).1
  have := g.len
  (and_intros <;> lia)

inductive Tup2 (a b : Int) (D : DH) (v : Value) (D' : DH) : Prop
  | mk : ∀ t, ∀ uu : v = .ref t, ∀ uu : Le D D', ∀ uu : IsT D' t [vi a, vi b], Tup2 a b D v D'
theorem TC.tup2 {a b : Int} {f : Value} {args : List Value} {Q : ∀ uu : Value, ∀ uu : DH, Prop} (h : TC PG w Hb n f args D (Tup2 a b D)) (k : ∀ (t : Addr) D', ∀ uu : Le D D', ∀ uu : IsT D' t [vi a, vi b], Q (.ref t) D') : TC PG w Hb n f args D Q := h.mono fun uu uu q => by
  obtain ⟨t, rfl, q0, q1⟩ := q
  exact k _ _ q0 q1

theorem fn_most_down' (S : Stat w K Hb) : Fn Hb 80 (scopeOf (met 6 2)) (bodyOf (met 6 2)) ["self"] := Fn.of S 6 rfl rfl
theorem sp_most_down (S : Stat w K Hb) {n : Nat} {D : DH} {fr : Addr} {H W s M : Int} {cs : List (Int × Int)} (hf : IsFr D fr H W s cs) (hz : cs.length ≤ sizeLine) (hM : MaxOf M (cs.map (·.2))) (hn : 1 ≤ n) :
    TC PG w Hb n (.ref 80) [.ref fr] D (Pure (vi M) D) := by
  refine TC.down hn fun n uu => ?_
  obtain ⟨cl, us, hI, hL, hlen, hC⟩ := hf
  refine TC_def (fn_most_down' S) rfl (TS_cons (T1_ret ?_))
  refine TE_bcall S rfl rfl (TEs_cons ?_)
  refine TE_comp [] rfl RLe.nil (TE_at S rfl hI rfl rfl rfl ⟨cl, us, rfl, .seq (.inl hL), by lia, ?_⟩)
  refine CompOf_map (fun i => ((cs[i]?).map fun c => vi c.2).getD .none) (fun i u D₂ hu le => ?_) fun D₂ le a o ha hL' => TEs_nil ?_
  · refine ex4_3 (hC i u hu) fun x id q c eR4 hc hI' => ?_
    obtain rfl := eR4
    exact ⟨_, Asg_name rfl, TE_at S rfl (hI'.le le) rfl rfl rfl ⟨by rw [hc]; rfl, Le.refl _⟩⟩
  · rw [hlen, range_map_get] at hL'
    have e : cs.map (fun c => vi c.2) = intL (cs.map (·.2)) := by simp [intL]
    rw [e] at hL'
    refine TC_maxL hL' (fun z => by rw [z] at hM; cases hM.1) fun M' h1 h2 => ⟨?_, le.trans (le_put ha)⟩
    have : M' = M := Int.le_antisymm (hM.2 _ h1) (h2 _ hM.1)
    rw [this]

section
variable {n : Nat} {D : DH} {fr : Addr} {H W s MA MD : Int} {cs : List (Int × Int)}

theorem fn_mcus_across (S : Stat w K Hb) : Fn Hb 87 (scopeOf (met 6 3)) (bodyOf (met 6 3)) ["self"] := Fn.of S 7 rfl rfl
theorem sp_mcus_across (S : Stat w K Hb) (hf : IsFr D fr H W s cs) (g : Geo H W s MA MD cs) (hn : 2 ≤ n) : TC PG w Hb n (.ref 87) [.ref fr] D (Pure (vi (pt W (s * MA))) D) := by
  refine TC.down hn fun n h1 => ?_
  have hA := g.MA
  have hI := hf
  obtain ⟨cl, us, hI, _⟩ := hI
  have hp : 0 < s * MA ∧ s * MA < 2 ^ 62 := by rcases g.hs with e | e <;> subst e <;> (and_intros <;> lia)
  refine TC_def (fn_mcus_across S) rfl (TS_cons (T1_ret ?_))
  refine TE_gcall S rfl rfl (TEs_cons (TE_at S rfl hI rfl rfl rfl (TEs_cons (TE_mul (TE_at S rfl hI rfl rfl rfl (TE_mcall S rfl hI rfl rfl (TEs_nil ?_)))))))
  refine (sp_most_across S hf g.sl g.ma h1).mono fun v D1 ⟨e, l1⟩ => ⟨_, _, rfl, e, ?_, TEs_nil ?_⟩
  · right; omega
  · exact (sp_parts S hp.1 hp.2 h1).mono fun v D2 ⟨e, l2⟩ => ⟨e, l1.trans l2⟩
theorem fn_mcus_down (S : Stat w K Hb) : Fn Hb 94 (scopeOf (met 6 4)) (bodyOf (met 6 4)) ["self"] := Fn.of S 8 rfl rfl
theorem sp_mcus_down (S : Stat w K Hb) (hf : IsFr D fr H W s cs) (g : Geo H W s MA MD cs) (hn : 2 ≤ n) : TC PG w Hb n (.ref 94) [.ref fr] D (Pure (vi (pt H (s * MD))) D) := by
  refine TC.down hn fun n h1 => ?_
  have hA := g.MD
  have hI := hf
  obtain ⟨cl, us, hI, _⟩ := hI
  have hp : 0 < s * MD ∧ s * MD < 2 ^ 62 := by rcases g.hs with e | e <;> subst e <;> (and_intros <;> lia)
  refine TC_def (fn_mcus_down S) rfl (TS_cons (T1_ret ?_))
  refine TE_gcall S rfl rfl (TEs_cons (TE_at S rfl hI rfl rfl rfl (TEs_cons (TE_mul (TE_at S rfl hI rfl rfl rfl (TE_mcall S rfl hI rfl rfl (TEs_nil ?_)))))))
  refine (sp_most_down S hf g.sl g.md h1).mono fun v D1 ⟨e, l1⟩ => ⟨_, _, rfl, e, ?_, TEs_nil ?_⟩
  · right; omega
  · exact (sp_parts S hp.1 hp.2 h1).mono fun v D2 ⟨e, l2⟩ => ⟨e, l1.trans l2⟩

theorem fn_plane_size (S : Stat w K Hb) : Fn Hb 101 (scopeOf (met 6 5)) (bodyOf (met 6 5)) ["self", "place"] := Fn.of S 9 rfl rfl
theorem sp_plane_size (S : Stat w K Hb) {p : Nat} {c : Int × Int} (hf : IsFr D fr H W s cs) (g : Geo H W s MA MD cs) (hc : cs[p]? = some c) (hn : 2 ≤ n) :
    TC PG w Hb n (.ref 101) [.ref fr, vi p] D (Tup2 (pt (W * c.1) MA) (pt (H * c.2) MD) D) := by
  refine TC.down hn fun n h1 => ?_
  have hA := g.MA
  have hB := g.MD
  have hp := g.at hc
  have hI := hf
  obtain ⟨cl, us, hI, hL, hlen, hC⟩ := hI
  have hlt : p < us.length := by rw [hlen]; exact (List.getElem?_eq_some_iff.mp hc).1
  refine ex4_3 (hC p us[p] (List.getElem?_eq_getElem hlt)) fun x id q c' e hc' hX => ?_
  rw [hc] at hc'; cases hc'
  refine TC_def (fn_plane_size S) rfl (TS_cons (T1_assign (.inl rfl) ?_))
  refine TE_item (TE_at S rfl hI rfl rfl rfl (TE_name rfl ⟨cl, us, p, us[p], rfl, .inl hL, rfl, by (constructor <;> intro hZ <;> omega), by omega, by simpa using List.getElem?_eq_getElem hlt, ?_⟩))
  rw [e]
  refine TS_cons (T1_assign (.inl rfl) ?_)
  refine TE_gcall S rfl rfl (TEs_cons (TE_mul (TE_at S rfl hI rfl rfl rfl (TE_at S rfl hX rfl rfl rfl ⟨_, _, rfl, rfl, by right; omega, TEs_cons (TE_mcall S rfl hI rfl rfl (TEs_nil ?_))⟩))))
  refine TC.pure (sp_most_across S hf g.sl g.ma h1) fun D1 l1 => ?_
  refine TEs_nil ?_
  refine TC.pure (sp_parts S (by (exact (by assumption : _ ∧ _).1)) (by lia) h1) fun D2 l2 => ?_
  have l12 := l1.trans l2
  refine TS_cons (T1_ret (TE_tuple (TEs_cons (TE_name rfl (TEs_cons ?_)))))
  refine TE_gcall S rfl rfl (TEs_cons (TE_mul (TE_at S rfl (hI.le l12) rfl rfl rfl (TE_at S rfl (hX.le l12) rfl rfl rfl ⟨_, _, rfl, rfl, by right; omega, TEs_cons (TE_mcall S rfl (hI.le l12) rfl rfl (TEs_nil ?_))⟩))))
  refine TC.pure (sp_most_down S (hf.le l12) g.sl g.md h1) fun D3 l3 => ?_
  refine TEs_nil ?_
  refine TC.pure (sp_parts S (by lia) (by lia) h1) fun D4 l4 => ?_
  refine TEs_nil ⟨by simp [sizeLine], fun t D5 ht l5 hT uu => ?_⟩
  exact ⟨t, rfl, ((l12.trans l3).trans l4).trans l5, hT⟩

theorem fn_blocks (S : Stat w K Hb) : Fn Hb 108 (scopeOf (met 6 6)) (bodyOf (met 6 6)) ["self", "place"] := Fn.of S 10 rfl rfl
theorem sp_blocks (S : Stat w K Hb) {p : Nat} {c : Int × Int} (hf : IsFr D fr H W s cs) (g : Geo H W s MA MD cs) (hc : cs[p]? = some c) (hn : 3 ≤ n) :
    TC PG w Hb n (.ref 108) [.ref fr, vi p] D (Tup2 (pt (pt (W * c.1) MA) s) (pt (pt (H * c.2) MD) s) D) := by
  refine TC.down hn fun n h1 => ?_
  have hI := hf
  obtain ⟨cl, us, hI, _⟩ := hI
  have hs : 0 < s ∧ s < 2 ^ 62 := by rcases g.hs with e | e <;> subst e <;> (and_intros <;> (exact Int.natCast_nonneg _))
  refine TC_def (fn_blocks S) rfl (TS_cons (T1_unpack (xs := [(("width" : Str), _), (("height" : Str), _)]) rfl rfl ?_ (by intro _ _; rfl)))
  refine TE_mcall S rfl hI rfl rfl (TEs_cons (TE_name rfl (TEs_nil ?_)))
  refine TC.tup2 (sp_plane_size S hf g hc h1) fun t D1 l1 hT => ?_
  refine ⟨t, _, rfl, .inr hT, rfl, ?_⟩
  refine TS_cons (T1_ret (TE_tuple (TEs_cons ?_)))
  refine TE_gcall S rfl rfl (TEs_cons (TE_name rfl (TEs_cons (TE_at S rfl (hI.le l1) rfl rfl rfl (TEs_nil ?_)))))
  refine TC.pure (sp_parts S hs.1 hs.2 (by (exact Nat.le_of_lt (by assumption)))) fun D2 l2 => ?_
  refine TEs_cons ?_
  have l12 := l1.trans l2
  refine TE_gcall S rfl rfl (TEs_cons (TE_name rfl (TEs_cons (TE_at S rfl (hI.le l12) rfl rfl rfl (TEs_nil ?_)))))
  refine TC.pure (sp_parts S hs.1 hs.2 (by lia)) fun D3 l3 => ?_
  refine TEs_nil ⟨by simp [sizeLine], fun t D4 ht l4 hT uu => ?_⟩
  exact ⟨t, rfl, (l12.trans l3).trans l4, hT⟩

theorem fn_padded (S : Stat w K Hb) : Fn Hb 115 (scopeOf (met 6 7)) (bodyOf (met 6 7)) ["self", "place"] := Fn.of S 11 rfl rfl
theorem sp_padded (S : Stat w K Hb) {p : Nat} {c : Int × Int} (hf : IsFr D fr H W s cs) (g : Geo H W s MA MD cs) (hc : cs[p]? = some c) (hn : 3 ≤ n) :
    TC PG w Hb n (.ref 115) [.ref fr, vi p] D (Tup2 (pt W (s * MA) * c.1) (pt H (s * MD) * c.2) D) := by
  refine TC.down hn fun n h1 => ?_
  have hp := g.at hc
  have hI := hf
  obtain ⟨cl, us, hI, hL, hlen, hC⟩ := hI
  have hlt : p < us.length := by rw [hlen]; exact (List.getElem?_eq_some_iff.mp hc).1
  refine ex4_3 (hC p us[p] (List.getElem?_eq_getElem hlt)) fun x id q c' e hc' hX => ?_
  rw [hc] at hc'; cases hc'
  refine TC_def (fn_padded S) rfl (TS_cons (T1_assign (.inl rfl) ?_))
  refine TE_item (TE_at S rfl hI rfl rfl rfl (TE_name rfl ⟨cl, us, p, us[p], rfl, .inl hL, rfl, by (constructor <;> intro hZ <;> omega), by omega, by simpa using List.getElem?_eq_getElem hlt, ?_⟩))
  rw [e]
  refine TS_cons (T1_ret (TE_tuple (TEs_cons (TE_mul (TE_mcall S rfl hI rfl rfl (TEs_nil ?_))))))
  refine TC.pure (sp_mcus_across S hf g h1) fun D1 l1 => ?_
  refine TE_at S rfl (hX.le l1) rfl rfl rfl ⟨_, _, rfl, rfl, by right; omega, TEs_cons (TE_mul (TE_mcall S rfl (hI.le l1) rfl rfl (TEs_nil ?_)))⟩
  refine TC.pure (sp_mcus_down S (hf.le l1) g h1) fun D2 l2 => ?_
  refine TE_at S rfl (hX.le (l1.trans l2)) rfl rfl rfl ⟨_, _, rfl, rfl, by right; omega, TEs_nil ⟨by simp [sizeLine], fun t D4 ht l4 hT uu => ?_⟩⟩
  exact ⟨t, rfl, (l1.trans l2).trans l4, hT⟩
end
end

section
variable {w : World} {K : Frag} {Hb : Heap}

-- without what changes
noncomputable def del (D : DH) (ra : List Addr) : DH := fun a => if a ∈ ra then none else D a
theorem del_none {D : DH} {ra : List Addr} {a : Addr} (h : a ∈ ra) : del D ra a = none := by simp [del, h]
theorem del_at {D : DH} {ra : List Addr} {a : Addr} (h : a ∉ ra) : del D ra a = D a := by simp [del, h]
theorem del_le {D : DH} {ra : List Addr} : Le (del D ra) D := fun a o e => by
  by_cases h : a ∈ ra
  · rw [del_none h] at e; cases e
  · rw [del_at h] at e; exact e
theorem le_del {A D : DH} {ra : List Addr} (h : Le A D) (hn : ∀ a, ∀ uu : a ∈ ra, A a = none) : Le A (del D ra) := fun a o e => by
  have : a ∉ ra := fun q => nos (hn a q) e
  rw [del_at this]; exact h a o e
theorem del_mono {D D' : DH} {ra : List Addr} (h : Le D D') : Le (del D ra) (del D' ra) := le_del (del_le.trans h) fun uu => del_none
-- rows that stand in D
noncomputable def Rows (D : DH) (ra : List Addr) (m : ∀ uu : Nat, List Value) : Prop := ∀ (i : Nat) (a : Addr), ∀ uu : ra[i]? = some a, IsL D a (m i)
theorem Rows.le {D D' : DH} {ra : List Addr} {m : ∀ uu : Nat, List Value} (k : Le D D') (h : Rows D ra m) : Rows D' ra m := fun i a e => (h i a e).le k
theorem Rows.has {D : DH} {ra : List Addr} {m : ∀ uu : Nat, List Value} (h : Rows D ra m) {a : Addr} (ha : a ∈ ra) : ∃ us, IsL D a us :=
  let ⟨i, hi⟩ := List.mem_iff_getElem?.mp ha; ⟨_, h i a hi⟩
theorem Rows.inst {D : DH} {ra : List Addr} {m : ∀ uu : Nat, List Value} (h : Rows D ra m) {a C : Addr} {fs : List (Str × Value)} (i : Inst D a C fs) : Inst (del D ra) a C fs := by
  obtain ⟨d, e, es, n, e', r⟩ := i
  have n1 : a ∉ ra := fun q => by obtain ⟨us, vs, k, z, _⟩ := h.has q; rw [e] at z; cases z
  have n2 : d ∉ ra := fun q => by obtain ⟨us, vs, k, z, _⟩ := h.has q; rw [e'] at z; exact absurd (congrArg Obj.data (Option.some.inj z)) (fun q => Data.noConfusion q)
  exact ⟨d, by rw [del_at n1]; exact e, es, n, by rw [del_at n2]; exact e', r⟩
-- one row is changed
theorem Rows.set {D : DH} {ra : List Addr} {m : ∀ uu : Nat, List Value} (h : Rows D ra m) (nd : ra.Nodup) {i₀ : Nat} {a : Addr} (ha : ra[i₀]? = some a) {o : Obj} {us : List Value} (hl : IsL (put D a o) a us) :
    Rows (put D a o) ra (fun i => if i = i₀ then us else m i) := fun i b e => by
  by_cases q : i = i₀
  · subst q; rw [ha] at e; obtain rfl := (Option.some.inj e).symm; simp only [if_true]; exact hl
  · simp only [q, if_false]
    have hne : b ≠ a := fun z => by
      subst z
      have h1 := (List.getElem?_eq_some_iff.mp ha).1
      exact q ((List.getElem?_inj (List.getElem?_eq_some_iff.mp e).1 nd).mp (e.trans ha.symm))
    obtain ⟨vs, k, x, y⟩ := h i b e
    exact ⟨vs, k, by rw [put_ne hne]; exact x, y⟩
theorem Rows.congr {D : DH} {ra : List Addr} {m m' : ∀ uu : Nat, List Value} (h : Rows D ra m) (e : ∀ i, ∀ uu : i < ra.length, m i = m' i) : Rows D ra m' := fun i a q => by
  rw [← e i (List.getElem?_eq_some_iff.mp q).1]; exact h i a q

theorem CTurn_nil {n : Nat} {csc : Scope} {elt : Expr} {ρ : List (Str × Value)} {D : DH} {us : List Value} {J : ∀ uu : List Value, ∀ uu : DH, Prop} (h : TE PG w Hb n csc elt ρ D (fun u D' => J (us ++ [u]) D')) : CTurn PG w Hb n csc [] elt ρ D us J := h

noncomputable def planeF (W H : Value) (rl : Addr) : List (Str × Value) := [("width", W), ("height", H), ("rows", .ref rl)]

section
variable {n : Nat} {D : DH}
theorem fn_Plane (S : Stat w K Hb) : Fn Hb 136 (scopeOf (met 8 0)) (bodyOf (met 8 0)) ["self", "width", "height", "rows"] := Fn.of S 12 rfl rfl
theorem sp_Plane (S : Stat w K Hb) {a b : Value} {c : Addr} (hn : 2 ≤ n) : TC PG w Hb n (.ref 153) [a, b, .ref c] D (NewI 153 (planeF a b c) D) := by
  refine TC.down hn fun n h1 => ?_
  refine TC_newK S rfl rfl fun x dd hx hd hne => ?_
  refine TC.down h1 fun n uu => ?_
  refine TC_def (fn_Plane S) rfl ?_
  have i0 := new_isI (D := D) (C := 153) hne
  have l0 : Le D (put (put D dd emptyDict) x (instObj 153 dd)) := le_new hx hd
  refine TS_cons (T1_self S rfl rfl l0 hd i0 hne rfl rfl rfl rfl rfl fun D1 l1 i1 => ?_)
  refine TS_cons (T1_self S rfl rfl l1 hd i1 hne rfl rfl rfl rfl rfl fun D2 l2 i2 => ?_)
  refine TS_cons (T1_self S rfl rfl l2 hd i2 hne rfl rfl rfl rfl rfl fun D3 l3 i3 => TS_nil ?_)
  exact ⟨rfl, x, rfl, l3, dd, i3⟩
theorem fn_Picture (S : Stat w K Hb) : Fn Hb 171 (scopeOf (met 9 0)) (bodyOf (met 9 0)) ["self", "model", "precision", "planes"] := Fn.of S 14 rfl rfl
theorem sp_Picture (S : Stat w K Hb) {a b c : Value} (hn : 2 ≤ n) : TC PG w Hb n (.ref 191) [a, b, c] D (NewI 191 [("model", a), ("precision", b), ("planes", c)] D) := by
  refine TC.down hn fun n h1 => ?_
  refine TC_newK S rfl rfl fun x dd hx hd hne => ?_
  refine TC.down h1 fun n uu => ?_
  refine TC_def (fn_Picture S) rfl ?_
  have i0 := new_isI (D := D) (C := 191) hne
  have l0 : Le D (put (put D dd emptyDict) x (instObj 191 dd)) := le_new hx hd
  refine TS_cons (T1_self S rfl rfl l0 hd i0 hne rfl rfl rfl rfl rfl fun D1 l1 i1 => ?_)
  refine TS_cons (T1_self S rfl rfl l1 hd i1 hne rfl rfl rfl rfl rfl fun D2 l2 i2 => ?_)
  refine TS_cons (T1_self S rfl rfl l2 hd i2 hne rfl rfl rfl rfl rfl fun D3 l3 i3 => TS_nil ?_)
  exact ⟨rfl, x, rfl, l3, dd, i3⟩

theorem fn_at (S : Stat w K Hb) : Fn Hb 143 (scopeOf (met 8 1)) (bodyOf (met 8 1)) ["self", "x", "y"] := Fn.of S 13 rfl rfl
theorem sp_at (S : Stat w K Hb) {pl rl ra : Addr} {W H x y : Int} {rs us : List Value} {u : Value} (hI : Inst D pl 153 (planeF (vi W) (vi H) rl)) (hL : IsL D rl rs) (hR : IsL D ra us)
    (hy : 0 ≤ keptI y H ∧ keptI y H < 2 ^ 62) (hx : 0 ≤ keptI x W ∧ keptI x W < 2 ^ 62) (h1 : rs[(keptI y H).toNat]? = some (.ref ra)) (h2 : us[(keptI x W).toNat]? = some u) (hn : 2 ≤ n) :
    TC PG w Hb n (.ref 143) [.ref pl, vi x, vi y] D (Pure u D) := by
  refine TC.down hn fun n hn1 => ?_
  refine TC_def (fn_at S) rfl (TS_cons (T1_ret ?_))
  refine TE_item (TE_item (TE_at S rfl hI rfl rfl rfl ?_))
  refine TE_gcall S rfl rfl (TEs_cons (TE_name rfl (TEs_cons (TE_at S rfl hI rfl rfl rfl (TEs_nil ?_)))))
  refine TC.pure (sp_kept_in S hn1) fun D1 l1 => ?_
  refine ⟨rl, rs, _, _, rfl, .inl (hL.le l1), rfl, hy.1, hy.2, h1, ?_⟩
  refine TE_gcall S rfl rfl (TEs_cons (TE_name rfl (TEs_cons (TE_at S rfl (hI.le l1) rfl rfl rfl (TEs_nil ?_)))))
  refine (sp_kept_in S hn1).mono fun v D2 ⟨e2, l2⟩ => ⟨ra, us, _, _, rfl, .inl (hR.le (l1.trans l2)), e2, hx.1, hx.2, h2, rfl, l1.trans l2⟩

-- a fresh plane
inductive BlankP (W H : Int) (u : Value) (D : DH) (v : Value) (D' : DH) : Prop
  | mk : ∀ pl rl ra, ∀ uu : v = .ref pl, ∀ uu : Le D D', ∀ uu : (∀ a, ∀ uu : a ∈ ra, D a = none), ∀ uu : ra.Nodup, ∀ uu : ra.length = H.toNat, ∀ uu : Inst (del D' ra) pl 153 (planeF (vi W) (vi H) rl), ∀ uu : IsL (del D' ra) rl (ra.map Value.ref), ∀ uu : Rows D' ra (fun uu => List.replicate W.toNat u), BlankP W H u D v D'
theorem flat_one (k : Nat) (u : Value) : (List.replicate k [u]).flatten = List.replicate k u := by
  induction k with
  | zero => rfl
  | succ k ih => rw [List.replicate_succ, List.replicate_succ, List.flatten_cons, ih]; rfl
theorem range_fit {a b : Int} (ha : -(2 ^ 40) < a ∧ a < 2 ^ 40) (hb : -(2 ^ 40) < b ∧ b < 2 ^ 40) : Builtin.Range.small a b 1 = true ∧ Builtin.Range.rangeSize a b 1 = (((b - a).toNat : Nat) : Int) := by
  have e : Builtin.Range.rangeSize a b 1 = (((b - a).toNat : Nat) : Int) := by
    unfold Builtin.Range.rangeSize
    rw [if_pos (by decide)]
    split
    · rw [Int.ediv_one]; lia
    · lia
  refine ⟨?_, e⟩
  unfold Builtin.Range.small
  rw [e]
  have f : ∀ {x : Int}, ∀ uu : -(2 ^ 62) < x, ∀ uu : x < 2 ^ 62, Builtin.Range.rangeFitsLong x = true := fun {x} h1 h2 => by unfold Builtin.Range.rangeFitsLong; simp; (and_intros <;> lia)
  rw [f (by lia) (by lia), f (by lia) (by lia), f (by (constructor <;> intro hZ <;> omega)) (by (constructor <;> intro hZ <;> omega)), f (by (constructor <;> intro hZ <;> omega)) (by lia), if_pos (by decide), f (by lia) (by lia)]
  simp
theorem range_small {b : Int} (h : 0 ≤ b ∧ b < 2 ^ 20) : Builtin.Range.small 0 b 1 = true ∧ Builtin.Range.rangeSize 0 b 1 = ((b.toNat : Nat) : Int) := by
  have := range_fit (a := 0) (b := b) (by (and_intros <;> (exact Int.natCast_nonneg _))) (by (and_intros <;> lia))
  rwa [Int.sub_zero] at this
theorem fn_blank (S : Stat w K Hb) : Fn Hb 214 (scopeOf (stm 12)) (bodyOf (stm 12)) ["width", "height", "value"] := Fn.of S 16 rfl rfl
theorem sp_blank (S : Stat w K Hb) {W H : Int} {u : Value} (hW : 0 ≤ W ∧ W < 2 ^ 20) (hH : 0 ≤ H ∧ H < 2 ^ 20) (hn : 3 ≤ n) : TC PG w Hb n (.ref 214) [vi W, vi H, u] D (BlankP W H u D) := by
  refine TC.down hn fun n hn1 => ?_
  refine TC_def (fn_blank S) rfl (TS_cons (T1_ret ?_))
  refine TE_gcall S rfl rfl (TEs_cons (TE_name rfl (TEs_cons (TE_name rfl (TEs_cons ?_)))))
  refine TE_comp [("value", u), ("width", vi W)] rfl (RLe.cons rfl (RLe.cons rfl RLe.nil)) (TE_bcall S rfl rfl (TEs_cons (TE_name rfl (TEs_nil ?_))))
  obtain ⟨s1, s2⟩ := range_small hH
  refine TC_range1 fun r o hr hR => ⟨r, _, rfl, .range hR s1 s2, by simp [sizeLine]; lia, ?_⟩
  refine ⟨fun i out D₂ => ∃ ra : List Addr, out = ra.map Value.ref ∧ ra.length = i ∧ ra.Nodup ∧ (∀ a, ∀ uu : a ∈ ra, D a = none) ∧ Rows D₂ ra (fun uu => List.replicate W.toNat u) ∧ Le (put D r o) D₂, ⟨[], rfl, rfl, List.nodup_nil, nofun, nofun, Le.refl _⟩,
    fun i out D₂ q o' e => let ⟨_, _, _, _, _, _, z⟩ := q; z _ _ e, fun i x out D₂ hx q => ⟨_, Asg_name rfl, ?_⟩, fun out D₂ q a o' ha hL => TEs_nil ?_⟩
  · refine ex1_6 (q) fun ra eR1 hl nd fr rw' le => ?_
    try clear q
    obtain rfl := eR1
    refine CTurn_nil (TE_mulL (TE_list (TEs_cons (TE_name rfl (TEs_nil ⟨by simp [sizeLine], fun l D3 h0 l3 hL uu => ?_⟩)))))
    refine TE_name rfl ⟨l, [u], W, rfl, rfl, hL, by lia, by lia, by simp; lia, fun r2 o2 h2 hL2 => ?_⟩
    rw [flat_one] at hL2
    have l4 : Le D₂ (put D3 r2 o2) := l3.trans (le_put h2)
    have hD2 : D₂ r2 = none := l3.none h2
    have hD : D r2 = none := ((le_put hr).trans le).none hD2
    refine ⟨ra ++ [r2], by simp, by simp [hl], ?_, ?_, ?_, le.trans l4⟩
    · rw [List.nodup_append]
      refine ⟨nd, by simp, fun a ha b hb => ?_⟩
      rw [List.mem_singleton.mp hb]
      rintro qY13
      obtain rfl := qY13.symm
      obtain ⟨us, vs, k, z, _⟩ := rw'.has ha
      rw [hD2] at z; cases z
    · intro a ha
      rcases List.mem_append.mp ha with ha | ha
      · exact fr a ha
      · rw [List.mem_singleton.mp ha]; exact hD
    · intro i a e
      by_cases hlt : i < ra.length
      · rw [List.getElem?_append_left hlt] at e; exact (rw' i a e).le l4
      · rw [List.getElem?_append_right (by lia)] at e
        have : a = r2 := by
          have hi := (List.getElem?_eq_some_iff.mp e).1
          simp at hi
          have : i - ra.length = 0 := by omega
          rw [this] at e; simpa using e.symm
        rw [this]; exact hL2
  · refine ex1_6 (q) fun ra eR1 hl nd fr rw' le => ?_
    try clear q
    obtain rfl := eR1
    refine TC.newI (sp_Plane S (by omega)) fun pl D5 l5 hI => ?_
    have l6 : Le D₂ D5 := (le_put ha).trans l5
    have rw5 := rw'.le l6
    refine ⟨pl, a, ra, rfl, ((le_put hr).trans le).trans l6, fr, nd, by simpa using hl, rw5.inst hI, ?_, rw5⟩
    have hna : a ∉ ra := fun q => by obtain ⟨us, vs, k, z, _⟩ := rw'.has q; rw [ha] at z; cases z
    obtain ⟨vs, k, z1, z2⟩ := hL.le l5
    exact ⟨vs, k, by rw [del_at hna]; exact z1, z2⟩
end
end

section
variable {w : World} {K : Frag} {Hb : Heap} {n : Nat} {D : DH}

-- a new list of numbers
inductive NewL (l : List Int) (D : DH) (v : Value) (D' : DH) : Prop
  | mk : ∀ a, ∀ uu : v = .ref a, ∀ uu : Le D D', ∀ uu : IsL D' a (intL l), NewL l D v D'
theorem TC.newL {l : List Int} {f : Value} {args : List Value} {Q : ∀ uu : Value, ∀ uu : DH, Prop} (h : TC PG w Hb n f args D (NewL l D)) (k : ∀ (a : Addr) D', ∀ uu : Le D D', ∀ uu : IsL D' a (intL l), Q (.ref a) D') : TC PG w Hb n f args D Q := h.mono fun uu uu q => by
  obtain ⟨a, rfl, q0, q1⟩ := q
  exact k _ _ q0 q1
theorem intL_get {l : List Int} {i : Nat} {x : Int} (h : l[i]? = some x) : (intL l)[i]? = some (vi x) := by unfold intL; rw [List.getElem?_map, h]; rfl
theorem intL_len (l : List Int) : (intL l).length = l.length := by simp [intL]
theorem range_int (k : Nat) (f : ∀ uu : Nat, Int) : (List.range k).map (fun i => vi (f i)) = intL ((List.range k).map f) := by simp [intL, vi]
theorem get_lt {l : List Int} {i : Nat} (h : i < l.length) : l[i]? = some (l.getD i 0) := by
  rw [List.getElem?_eq_getElem h]; simp [List.getD, h]

noncomputable def prodL (rs qs : List Int) : List Int := (List.range rs.length).map fun i => rs.getD i 0 * qs.getD i 0
theorem fn_dequantise (S : Stat w K Hb) : Fn Hb 224 (scopeOf (stm 15)) (bodyOf (stm 15)) ["row", "qtable"] := Fn.of S 17 rfl rfl
theorem sp_dequantise (S : Stat w K Hb) {r q : Addr} {rs qs : List Int} (hr : IsL D r (intL rs)) (hq : IsS D q (intL qs)) (hl : rs.length ≤ qs.length) (hz : rs.length < 2 ^ 20) (hb : ∀ x, ∀ uu : x ∈ qs, x.natAbs < 2 ^ 64) (hn : 1 ≤ n) :
    TC PG w Hb n (.ref 224) [.ref r, .ref q] D (NewL (prodL rs qs) D) := by
  refine TC.down hn fun n hn1 => ?_
  refine TC_def (fn_dequantise S) rfl (TS_cons (T1_ret ?_))
  refine TE_comp [("row", .ref r), ("qtable", .ref q)] rfl (RLe.cons rfl (RLe.cons rfl RLe.nil)) (TE_bcall S rfl rfl (TEs_cons (TE_bcall S rfl rfl (TEs_cons (TE_name rfl (TEs_nil ?_))))))
  refine TC_len (.inl hr) (by rw [intL_len]; (exact Nat.lt_of_lt_of_le (by assumption) (by decide))) (TEs_nil ?_)
  rw [intL_len]
  obtain ⟨s1, s2⟩ := range_small (b := (rs.length : Int)) (by (and_intros <;> (exact Int.ofNat_le.mpr (by lia))))
  refine TC_range1 fun rg o hrg hR => ⟨rg, _, rfl, .range hR s1 s2, by simp [sizeLine]; lia, ?_⟩
  have l0 := le_put (o := o) hrg
  refine CompOf_map (fun i => vi (rs.getD i 0 * qs.getD i 0)) (fun i u D₂ hu le => ⟨_, Asg_name rfl, ?_⟩) fun D₂ le a o' ha hL => ?_
  · have hi : i < rs.length := by have := (List.getElem?_eq_some_iff.mp hu).1; simpa using this
    have e : u = vi i := by
      rw [List.getElem?_map, List.getElem?_range (by simpa using hi)] at hu
      simpa [vi] using hu.symm
    subst e
    have le' := l0.trans le
    have hqi : i < qs.length := by (exact Nat.le_trans (by assumption) (by omega))
    refine TE_mul (TE_item (TE_name rfl (TE_name rfl ⟨r, _, i, _, rfl, .inl (hr.le le'), rfl, by (constructor <;> intro hZ <;> omega), by (exact Int.ofNat_le.mpr (by lia)), intL_get (get_lt hi), ?_⟩)))
    refine TE_item (TE_name rfl (TE_name rfl ⟨q, _, i, _, rfl, ?_, rfl, by (exact Int.natCast_nonneg _), by lia, intL_get (get_lt hqi), ⟨_, _, rfl, rfl, .inr (hb _ ?_), rfl, Le.refl _⟩⟩))
    · rcases hq with hq | hq
      · exact .inl (hq.le le')
      · exact .inr (hq.le le')
    · exact List.mem_of_getElem? (get_lt hqi)
  · refine ⟨a, rfl, (l0.trans le).trans (le_put ha), ?_⟩
    have : ((List.range ((List.range (rs.length : Int).toNat).map fun (i : Nat) => Value.int (0 + i * 1) 0).length).map fun i => vi (rs.getD i 0 * qs.getD i 0)) = intL (prodL rs qs) := by
      rw [range_int]; simp [prodL]
    rw [this] at hL
    exact hL

-- a stretch of a row, painted
noncomputable def paint (l : List Value) (s p : Nat) (u : Value) : List Value := l.mapIdx fun k v => if s ≤ k ∧ k < s + p then u else v
theorem paint_len (l : List Value) (s p : Nat) (u : Value) : (paint l s p u).length = l.length := by simp [paint]
theorem paint_zero (l : List Value) (s : Nat) (u : Value) : paint l s 0 u = l := by
  apply List.ext_getElem?
  intro i
  simp only [paint, List.getElem?_mapIdx]
  have : ¬ (s ≤ i ∧ i < s + 0) := by lia
  simp only [this, if_false]
  cases l[i]? <;> rfl
theorem paint_succ {l : List Value} {s p : Nat} {u : Value} (h : s + p < l.length) : (paint l s p u).set (s + p) u = paint l s (p + 1) u := by
  apply List.ext_getElem?
  intro i
  rw [List.getElem?_set]
  by_cases e : s + p = i
  · subst e
    simp only [if_true, paint_len, h]
    simp only [paint, List.getElem?_mapIdx]
    have : s ≤ s + p ∧ s + p < s + (p + 1) := by (and_intros <;> lia)
    simp only [this, and_self, if_true]
    rw [List.getElem?_eq_getElem h]; rfl
  · simp only [e, if_false, paint, List.getElem?_mapIdx]
    by_cases q : s ≤ i ∧ i < s + p
    · have q' : s ≤ i ∧ i < s + (p + 1) := by (and_intros <;> lia)
      simp only [q, q', and_self, if_true]
    · have q' : ¬ (s ≤ i ∧ i < s + (p + 1)) := by lia
      simp only [q, q', if_false]

noncomputable def putM (m : ∀ uu : Nat, List Value) (x y s r wide : Nat) (u : Value) : ∀ uu : Nat, List Value := fun i => if y * s ≤ i ∧ i < y * s + r then paint (m i) (x * s) wide u else m i

theorem fn_put_block (S : Stat w K Hb) : Fn Hb 28 (scopeOf (stm 2)) (bodyOf (stm 2)) ["plane", "x", "y", "block", "n", "centre", "most"] := Fn.of S 1 rfl rfl
inductive PutBP (ra : List Addr) (W : Nat) (H : Nat) (x : Nat) (y : Nat) (s : Nat) (c : Int) (most : Int) (t : Int) (m : ∀ uu : Nat, List Value) (D : DH) (v : Value) (D' : DH) : Prop
  | mk : ∀ uu : Le (del D ra) D', ∀ uu : Rows D' ra (putM m x y s (min s (H - y * s)) (min s (W - x * s)) (vi (clampI (t + c) most))), PutBP ra W H x y s c most t m D v D'
theorem sp_put_block (S : Stat w K Hb) {pl rl bl : Addr} {ra : List Addr} {W H x y s : Nat} {c most t : Int} {bs : List Int} {m : ∀ uu : Nat, List Value} (hI : Inst (del D ra) pl 153 (planeF (vi W) (vi H) rl)) (hL : IsL (del D ra) rl (ra.map Value.ref))
    (hB : IsL (del D ra) bl (intL bs)) (hbs : bs = List.replicate (s * s) t) (nd : ra.Nodup) (hra : ra.length = H) (hm : Rows D ra m) (hml : ∀ i, ∀ uu : i < H, (m i).length = W) (hx : x * s ≤ W) (hy : y * s ≤ H) (hs : s < 2 ^ 10) (hW : W < 2 ^ 10) (hH : H < 2 ^ 10) (hn : 2 ≤ n) :
    TC PG w Hb n (.ref 28) [.ref pl, vi x, vi y, .ref bl, vi s, vi c, vi most] D (PutBP ra W H x y s c most t m D) := by
  refine TC.down hn fun n hn1 => ?_
  have b1 : x * s < 2 ^ 10 := by lia
  have b2 : y * s < 2 ^ 10 := by lia
  have xs : ((x : Int) * (s : Int)) = ((x * s : Nat) : Int) := by push_cast; rfl
  have ys : ((y : Int) * (s : Int)) = ((y * s : Nat) : Int) := by push_cast; rfl
  have d0 : Le (del D ra) D := del_le
  refine TC_def (fn_put_block S) rfl (TS_cons (T1_assign (.inl rfl) ?_))
  refine TE_bcall S rfl rfl (TEs_cons (TE_name rfl (TEs_cons (TE_sub (TE_at S rfl (hI.le d0) rfl rfl rfl (TE_mul (TE_name rfl (TE_name rfl ⟨_, _, rfl, rfl, by right; (clear d0 ys xs b2 b1 hn hn1 hH hW hy hx hml hm hra nd hbs hB hL hI S; (exact Nat.lt_of_lt_of_le (by assumption) (by decide))), ⟨_, _, rfl, rfl, TEs_nil ?_⟩⟩))))))))
  rw [xs]
  have ew : (if ((W : Int) - ((x * s : Nat) : Int)) < (s : Int) then ((W : Int) - ((x * s : Nat) : Int)) else (s : Int)) = ((min s (W - x * s) : Nat) : Int) := by split <;> lia
  refine TC_min2 ?_
  rw [ew]
  generalize hwide : min s (W - x * s) = wide
  have hwide1 : wide ≤ s ∧ x * s + wide ≤ W := by omega
  refine TS_cons ?_
  refine hide3 (fun r ρ' D' => ρ' = ([("wide", vi wide), ("plane", .ref pl), ("x", vi x), ("y", vi y), ("block", .ref bl), ("n", vi s), ("centre", vi c), ("most", vi most)] : List (Str × Value)) ∧ Le (del D ra) D' ∧ Rows D' ra (putM m x y s r wide (vi (clampI (t + c) most)))) fun Inv1 in1 out1 => ?_
  refine T1_for_range Inv1 (.inl rfl) ?_
  refine TE_bcall S rfl rfl (TEs_cons (TE_bcall S rfl rfl (TEs_cons (TE_name rfl (TEs_cons (TE_sub (TE_at S rfl (hI.le d0) rfl rfl rfl (TE_mul (TE_name rfl (TE_name rfl ⟨_, _, rfl, rfl, by right; (clear hwide1 hwide ew d0 ys xs b2 b1 hn hn1 hH hW hy hx hml hm hra nd hbs hB hL hI S; (exact Nat.lt_of_lt_of_le (by assumption) (by decide))), ⟨_, _, rfl, rfl, TEs_nil ?_⟩⟩))))))))))
  rw [ys]
  have eh : (if ((H : Int) - ((y * s : Nat) : Int)) < (s : Int) then ((H : Int) - ((y * s : Nat) : Int)) else (s : Int)) = ((min s (H - y * s) : Nat) : Int) := by split <;> lia
  refine TC_min2 ?_
  rw [eh]
  generalize hhigh : min s (H - y * s) = high
  have hhigh1 : high ≤ s ∧ y * s + high ≤ H := by omega
  obtain ⟨s1, s2⟩ := range_small (b := (high : Int)) (by lia)
  refine TEs_nil (TC_range1 fun rg o hrg hR => ⟨rg, _, _, _, D, ([("wide", vi wide), ("plane", .ref pl), ("x", vi x), ("y", vi y), ("block", .ref bl), ("n", vi s), ("centre", vi c), ("most", vi most)] : List (Str × Value)), high, rfl, hR, s1, by simpa using s2, le_put hrg, RLe.refl _, in1 ⟨rfl, d0, ?_⟩, fun r ρ' D' hr iv => ?_, fun ρ' D' iv => ?_⟩)
  · refine hm.congr fun i uu => ?_
    have : ¬ (y * s ≤ i ∧ i < y * s + 0) := by (clear hR hrg s2 s1 hhigh1 hhigh eh hwide1 hwide ew d0 ys xs b2 b1 hn hn1 hH hW hs hy hx hml hm hra nd hbs hB hL hI S; lia)
    simp only [putM, this, if_false]
  · refine ex0_3 (out1 iv) fun eR0 le rw' => ?_
    try clear iv
    obtain rfl := eR0
    refine TS.abs fun QB1 kB1 => ?_
    have hi0 : y * s + r < ra.length := by lia
    refine TS_cons (T1_assign (.inl rfl) (TE_item (TE_at S rfl (hI.le le) rfl rfl rfl (TE_add (TE_mul (TE_name rfl (TE_name rfl ⟨_, _, rfl, rfl, by right; (clear hi0 rw' le hr hR hrg s2 s1 hhigh1 hhigh eh hwide1 hwide ew d0 ys xs b2 b1 hn hn1 hH hW hy hx hml hm hra nd hbs hB hL hI S; omega), TE_name rfl ⟨_, _, rfl, rfl, ⟨rl, _, ((y * s + r : Nat) : Int), .ref ra[y * s + r], rfl, .inl (hL.le le), ?_, by (constructor <;> intro hZ <;> omega), by (exact Int.ofNat_le.mpr (by lia)), ?_, ?_⟩⟩⟩)))))))
    · exact congrArg vi (by rw [ys]; lia)
    · rw [List.getElem?_map, Int.toNat_natCast, List.getElem?_eq_getElem hi0]; rfl
    · refine TS_cons ?_
      have hrow : ra[y * s + r]? = some ra[y * s + r] := List.getElem?_eq_getElem hi0
      generalize ra[y * s + r] = a0 at hrow
      have hmem : a0 ∈ ra := List.mem_of_getElem? hrow
      refine hide3 (fun p ρ' D' => ρ' = ([("told", .ref a0), ("row", vi (0 + r * 1)), ("wide", vi wide), ("plane", .ref pl), ("x", vi x), ("y", vi y), ("block", .ref bl), ("n", vi s), ("centre", vi c), ("most", vi most)] : List (Str × Value)) ∧ Le (del D ra) D' ∧ Rows D' ra (fun i => if i = y * s + r then paint (m i) (x * s) p (vi (clampI (t + c) most)) else putM m x y s r wide (vi (clampI (t + c) most)) i)) fun Inv2 in2 out2 => ?_
      refine T1_for_range Inv2 (.inl rfl) ?_
      obtain ⟨s3, s4⟩ := range_small (b := (wide : Int)) (by lia)
      refine TE_bcall S rfl rfl (TEs_cons (TE_name rfl (TEs_nil (TC_range1 fun rg o hrg hR => ⟨rg, _, _, _, D', _, wide, rfl, hR, s3, by simpa using s4, le_put hrg, RLe.refl _, in2 ⟨rfl, le, ?_⟩, fun p ρ'' D'' hp iv => ?_, fun ρ'' D'' iv => TS_nil ?_⟩))))
      · refine rw'.congr fun i uu => ?_
        by_cases q : i = y * s + r
        · have : ¬ (y * s ≤ i ∧ i < y * s + r) := by (clear s4 s3 hmem hrow hi0 rw' le hr s2 s1 hhigh1 hhigh eh hwide1 hwide ew d0 ys xs b2 b1 hn hn1 hH hW hs hy hx hml hm hra nd hbs hB hL hI S; lia)
          simp only [q, if_true, paint_zero, putM]
          have : ¬ (y * s ≤ y * s + r ∧ y * s + r < y * s + r) := by lia
          simp only [this, if_false]
        · simp only [q, if_false]
      · refine ex0_3 (out2 iv) fun eR0 le2 rw2 => ?_
        try clear iv
        obtain rfl := eR0
        refine TS.abs fun QB2 kB2 => ?_
        have hk : x * s + p < (m (y * s + r)).length := by rw [hml _ (by (exact Nat.le_trans (by assumption) (by lia)))]; lia
        have hin : r * s + p < s * s := by
          have : r * s + s ≤ s * s := by
            have : (r + 1) * s ≤ s * s := Nat.mul_le_mul_right s (by lia)
            rw [Nat.add_mul, Nat.one_mul] at this; exact this
          lia
        have hss : s * s < 2 ^ 20 := by
          have : s * s < 2 ^ 10 * 2 ^ 10 := Nat.mul_lt_mul'' hs hs
          simpa using this
        refine TS_cons (T1_setitem (TE_gcall S rfl rfl (TEs_cons (TE_add (TE_item (TE_name rfl (TE_add (TE_mul (TE_name rfl (TE_name rfl ⟨_, _, rfl, rfl, by right; (clear hss hin hk rw2 le2 hp s4 s3 hmem hrow hi0 rw' le hr s2 s1 hhigh1 hhigh eh hwide1 hwide ew d0 ys xs b2 b1 hn hn1 hH hW hy hx hml hm hra nd hbs hB hL hI S; omega), TE_name rfl ⟨_, _, rfl, rfl, ⟨bl, _, ((r * s + p : Nat) : Int), vi t, rfl, .inl (hB.le le2), ?_, by (constructor <;> intro hZ <;> omega), by (clear hk rw2 le2 hp s4 s3 hmem hrow hi0 rw' le hr s2 s1 hhigh1 hhigh eh hwide1 hwide ew d0 ys xs b2 b1 hn hn1 hH hW hs hy hx hml hm hra nd hbs hB hL hI S; omega), ?_, ?_⟩⟩⟩))))))))))
        · exact congrArg vi (by
            have : (0 + (r : Int) * 1) * (s : Int) = ((r * s : Nat) : Int) := by rw [Int.mul_one, Int.zero_add]; push_cast; rfl
            rw [this]; lia)
        · rw [Int.toNat_natCast, hbs]
          exact intL_get (by rw [List.getElem?_replicate]; simp [hin])
        · refine TE_name rfl ⟨_, _, rfl, rfl, TEs_cons (TE_name rfl (TEs_nil ?_))⟩
          refine TC.pure (sp_clamped S hn1) fun D3 l3 => ?_
          have rw3 := rw2.le l3
          have le3 := le2.trans l3
          have hrow3 := rw3 _ _ hrow
          simp only [if_true] at hrow3
          refine TE_name rfl (TE_add (TE_mul (TE_name rfl (TE_name rfl ⟨_, _, rfl, rfl, by right; (exact Nat.lt_of_lt_of_le (by assumption) (by decide)), TE_name rfl ⟨_, _, rfl, rfl, ⟨a0, _, ((x * s + p : Nat) : Int), rfl, ?_, hrow3, by lia, ?_, by lia, fun o' hL' => TS_nil (kB2 _ _ _ ⟨_, RLe.cons rfl (RLe.cons rfl (RLe.cons rfl (RLe.cons rfl (RLe.cons rfl (RLe.cons rfl (RLe.cons rfl (RLe.cons rfl (RLe.cons rfl (RLe.cons rfl RLe.nil))))))))), in2 ⟨rfl, le_put' le3 (del_none hmem), ?_⟩⟩)⟩⟩⟩))))
          · exact congrArg vi (by rw [xs]; lia)
          · rw [paint_len]; (clear hrow3 le3 rw3 l3 hss hin rw2 le2 hp s4 s3 hmem hrow hi0 rw' le hr s2 s1 hhigh1 hhigh eh hwide1 hwide ew d0 ys xs b2 b1 hn hn1 hH hW hs hy hx hml hm hra nd hbs hB hL hI S; omega)
          · rw [Int.toNat_natCast, paint_succ hk] at hL'
            refine (rw3.set nd hrow hL').congr fun i uu => ?_
            by_cases q : i = y * s + r
            · subst q; simp only [if_true]
            · simp only [q, if_false]
      · refine ex0_3 (out2 iv) fun eR0 le2 rw2 => ?_
        try clear iv
        obtain rfl := eR0
        refine kB1 _ _ _ ⟨_, RLe.cons rfl (RLe.cons rfl (RLe.cons rfl (RLe.cons rfl (RLe.cons rfl (RLe.cons rfl (RLe.cons rfl (RLe.cons rfl RLe.nil))))))), in1 ⟨rfl, le2, rw2.congr fun i uu => ?_⟩⟩
        by_cases q : i = y * s + r
        · subst q
          have : y * s ≤ y * s + r ∧ y * s + r < y * s + (r + 1) := by lia
          simp only [if_true, putM, this, and_self]
        · simp only [q, if_false, putM]
          by_cases q2 : y * s ≤ i ∧ i < y * s + r
          · have q3 : y * s ≤ i ∧ i < y * s + (r + 1) := by (clear q rw2 le2 s4 s3 hmem hrow hi0 rw' le hr s2 s1 hhigh1 hhigh eh hwide1 hwide ew d0 ys xs b2 b1 hn hn1 hH hW hs hy hx hml hm hra nd hbs hB hL hI S; lia)
            simp only [q2, q3, and_self, if_true]
          · have q3 : ¬ (y * s ≤ i ∧ i < y * s + (r + 1)) := by (clear rw2 le2 s4 s3 hmem hrow hi0 rw' le hr s2 s1 hhigh1 hhigh eh hwide1 hwide ew d0 ys xs b2 b1 hn hn1 hH hW hs hy hx hml hm hra nd hbs hB hL hI S; lia)
            simp only [q2, q3, if_false]
  · refine ex0_3 (out1 iv) fun eR0 le rw' => ?_
    try clear iv
    obtain rfl := eR0
    subst hwide; subst hhigh
    exact TS_nil ⟨le, rw'⟩
end

section
variable {w : World} {K : Frag} {Hb : Heap} {n : Nat} {D : DH}

theorem range_down {a b : Int} (ha : -(2 ^ 40) < a ∧ a < 2 ^ 40) (hb : -(2 ^ 40) < b ∧ b < 2 ^ 40) : Builtin.Range.small a b (-1) = true ∧ Builtin.Range.rangeSize a b (-1) = (((a - b).toNat : Nat) : Int) := by
  have e : Builtin.Range.rangeSize a b (-1) = (((a - b).toNat : Nat) : Int) := by
    unfold Builtin.Range.rangeSize
    rw [if_neg (by decide)]
    split
    · rw [show -(-1 : Int) = 1 from rfl, Int.ediv_one]; lia
    · lia
  refine ⟨?_, e⟩
  unfold Builtin.Range.small
  rw [e]
  have f : ∀ {x : Int}, ∀ uu : -(2 ^ 62) < x, ∀ uu : x < 2 ^ 62, Builtin.Range.rangeFitsLong x = true := fun {x} h1 h2 => by unfold Builtin.Range.rangeFitsLong; simp; (and_intros <;> lia)
  rw [f (by lia) (by lia), f (by lia) (by lia), f (by (constructor <;> intro hZ <;> omega)) (by (constructor <;> intro hZ <;> omega)), f (by (constructor <;> intro hZ <;> omega)) (by lia), if_neg (by decide), f (by lia) (by lia)]
  simp

-- the zigzag: the numbers of one diagonal
noncomputable def zzLow (s t : Nat) : Nat := t - (s - 1)
noncomputable def zzHigh (s t : Nat) : Nat := min t (s - 1)
noncomputable def zzY (s t i : Nat) : Nat := if t % 2 = 1 then zzLow s t + i else zzHigh s t - i
noncomputable def zzRow (s t k : Nat) : List Int := (List.range k).map fun i => ((zzY s t i * s + t - zzY s t i : Nat) : Int)
noncomputable def zzTo (s k : Nat) : List Int := (List.range k).flatMap fun t => zzRow s t (zzHigh s t + 1 - zzLow s t)
noncomputable def zz (s : Nat) : List Int := zzTo s (2 * s - 1)

theorem zzTo_succ (s k : Nat) : zzTo s (k + 1) = zzTo s k ++ zzRow s k (zzHigh s k + 1 - zzLow s k) := by
  unfold zzTo; rw [List.range_succ, List.flatMap_append]; simp
theorem zzRow_succ (s t k : Nat) : zzRow s t (k + 1) = zzRow s t k ++ [((zzY s t k * s + t - zzY s t k : Nat) : Int)] := by
  unfold zzRow; rw [List.range_succ, List.map_append]; rfl
theorem intL_app (a b : List Int) : intL (a ++ b) = intL a ++ intL b := by simp [intL]

theorem zzTo_len {s k : Nat} (hk : k ≤ 2 * s - 1) (hs : s ≤ 8) : (zzTo s k).length ≤ 225 := by
  have : ∀ j, (zzTo s j).length ≤ j * 15 ∨ 8 < s := by
    intro j
    left
    induction j with
    | zero => simp [zzTo]
    | succ j ih =>
      rw [zzTo_succ, List.length_append]
      have : (zzRow s j (zzHigh s j + 1 - zzLow s j)).length ≤ 15 := by
        simp only [zzRow, List.length_map, List.length_range, zzHigh, zzLow]; omega
      lia
  rcases this k with h | h <;> omega

theorem fn_zigzag (S : Stat w K Hb) : Fn Hb 435 (scopeOf (stm 55)) (bodyOf (stm 55)) ["n"] := Fn.of S 27 rfl rfl
inductive ZzP (s : Nat) (D : DH) (v : Value) (D' : DH) : Prop
  | mk : ∀ t, ∀ uu : v = .ref t, ∀ uu : D t = none, ∀ uu : Le D D', ∀ uu : IsT D' t (intL (zz s)), ZzP s D v D'
theorem TC.zz {s : Nat} {f : Value} {args : List Value} {Q : ∀ uu : Value, ∀ uu : DH, Prop} (h : TC PG w Hb n f args D (ZzP s D)) (k : ∀ (t : Addr) D', ∀ uu : D t = none, ∀ uu : Le D D', ∀ uu : IsT D' t (intL (zz s)), Q (.ref t) D') : TC PG w Hb n f args D Q := h.mono fun uu uu q => by
  obtain ⟨t, rfl, q0, q1, q2⟩ := q
  exact k _ _ q0 q1 q2
theorem sp_zigzag (S : Stat w K Hb) {s : Nat} (hs : 1 ≤ s ∧ s ≤ 8) (hn : 1 ≤ n) : TC PG w Hb n (.ref 435) [vi s] D (ZzP s D) := by
  refine TC.down hn fun n hn1 => ?_
  refine TC_def (fn_zigzag S) rfl (TS_cons (T1_assign (.inl rfl) (TE_list (TEs_nil ⟨by simp, fun f D1 hf l1 hF uu => ?_⟩))))
  refine TS_cons (T1_for_range (fun t ρ' D' => ρ' = ([("found", .ref f), ("n", vi s)] : List (Str × Value)) ∧ Le D D' ∧ IsL D' f (intL (zzTo s t))) (.inl rfl) ?_)
  refine TE_bcall S rfl rfl (TEs_cons (TE_sub (TE_mul (TE_int (TE_name rfl ⟨_, _, rfl, rfl, by left; decide, TE_int ⟨_, _, rfl, rfl, TEs_nil ?_⟩⟩)))))
  obtain ⟨s1, s2⟩ := range_fit (a := 0) (b := 2 * (s : Int) - 1) (by (and_intros <;> (exact Int.natCast_nonneg _))) (by (and_intros <;> lia))
  refine TC_range1 fun rg o hrg hR => ⟨rg, _, _, _, D1, _, 2 * s - 1, rfl, hR, s1, by rw [s2]; lia, le_put hrg, RLe.refl _, ⟨rfl, l1, hF⟩, fun t ρ' D' ht iv => ?_, fun ρ' D' iv => ?_⟩
  · refine ex0_3 (iv) fun eR0 le hL => ?_
    try clear iv
    obtain rfl := eR0
    have et : (0 + (t : Int) * 1) = (t : Int) := by (rw [Int.zero_add, Int.mul_one])
    rw [et]
    refine TS_cons (T1_assign (.inl rfl) (TE_bcall S rfl rfl (TEs_cons (TE_int (TEs_cons (TE_add (TE_sub (TE_name rfl (TE_name rfl ⟨_, _, rfl, rfl, TE_int ⟨_, _, rfl, rfl, TEs_nil (TC_max2 ?_)⟩⟩)))))))))
    have elow : (if (t : Int) - s + 1 > 0 then (t : Int) - s + 1 else 0) = (zzLow s t : Nat) := by unfold zzLow; split <;> lia
    rw [elow]
    refine TS_cons (T1_assign (.inl rfl) (TE_bcall S rfl rfl (TEs_cons (TE_name rfl (TEs_cons (TE_sub (TE_name rfl (TE_int ⟨_, _, rfl, rfl, TEs_nil (TC_min2 ?_)⟩))))))))
    have ehigh : (if (s : Int) - 1 < t then (s : Int) - 1 else (t : Int)) = (zzHigh s t : Nat) := by unfold zzHigh; split <;> lia
    rw [ehigh]
    have hlh : zzLow s t ≤ zzHigh s t ∧ zzHigh s t ≤ 8 ∧ zzHigh s t ≤ t := by unfold zzLow zzHigh; (clear ehigh elow et hL le hR hrg s2 s1 hF l1 hf hn hn1 S; (rw [Nat.min_def]; split <;> omega))
    -- the loop, once the walk's object is known
    have loop : ∀ (D2 : DH) (rg : Addr) (a b c : Int), ∀ uu : Le D D2, ∀ uu : IsL D2 f (intL (zzTo s t)), ∀ uu : IsR D2 rg a b c, ∀ uu : Builtin.Range.small a b c = true, ∀ uu : Builtin.Range.rangeSize a b c = ((zzHigh s t + 1 - zzLow s t : Nat) : Int), ∀ uu : (∀ i : Nat, ∀ uu : i < zzHigh s t + 1 - zzLow s t, a + i * c = (zzY s t i : Nat)),
        ∀ (Q : ∀ uu : Flow, ∀ uu : List (Str × Value), ∀ uu : DH, Prop), ∀ uu : (∀ D3, ∀ uu : Le D D3, ∀ uu : IsL D3 f (intL (zzTo s (t + 1))), Q .next [("rows", .ref rg), ("high", vi (zzHigh s t : Nat)), ("low", vi (zzLow s t : Nat)), ("total", vi t), ("found", .ref f), ("n", vi s)] D3),
        TS PG w Hb n (scopeOf (stm 55)) ((forBody (((bodyOf (stm 55))[1]?).getD (.Pass default))).drop 3) [("rows", .ref rg), ("high", vi (zzHigh s t : Nat)), ("low", vi (zzLow s t : Nat)), ("total", vi t), ("found", .ref f), ("n", vi s)] D2 Q := by
      intro D2 rg a b c lD hL2 hR hsm hsz hy Q k
      refine TS_cons (T1_for_range (fun i ρ' D' => ρ' = ([("rows", .ref rg), ("high", vi (zzHigh s t : Nat)), ("low", vi (zzLow s t : Nat)), ("total", vi t), ("found", .ref f), ("n", vi s)] : List (Str × Value)) ∧ Le D D' ∧ IsL D' f (intL (zzTo s t ++ zzRow s t i))) (.inl rfl) ?_)
      refine TE_name rfl ⟨rg, a, b, c, D2, _, _, rfl, hR, hsm, hsz, Le.refl _, RLe.refl _, ⟨rfl, lD, by simpa [zzRow] using hL2⟩, fun i ρ' D' hi iv => ?_, fun ρ' D' iv => ?_⟩
      · refine ex0_3 (iv) fun eR0 le3 hL3 => ?_
        try clear iv
        obtain rfl := eR0
        rw [hy i hi]
        have hy8 : zzY s t i ≤ 8 ∧ zzY s t i ≤ t := by unfold zzY; split <;> omega
        refine TS_cons (T1_expr (TE_append (TE_name rfl ⟨f, _, rfl, hL3, TE_sub (TE_add (TE_mul (TE_name rfl (TE_name rfl ⟨_, _, rfl, rfl, by left; (clear hL3 le3 hi k hy hsz hsm hL2 lD hlh ehigh elow et hL le ht hrg s2 s1 hF l1 hf hn hn1 hs S; omega), TE_name rfl ⟨_, _, rfl, rfl, TE_name rfl ⟨_, _, rfl, rfl, _, hL3, ?_, fun o' hL4 => TS_nil ⟨_, RLe.cons rfl (RLe.cons rfl (RLe.cons rfl (RLe.cons rfl (RLe.cons rfl (RLe.cons rfl RLe.nil))))), rfl, ?_, ?_⟩⟩⟩⟩))))⟩)))
        · have := zzTo_len (s := s) (k := t) (by (exact Nat.le_of_lt (by assumption))) hs.2
          rw [intL_len, List.length_append]
          simp only [zzRow, List.length_map, List.length_range, sizeLine]; omega
        · intro a' o'' e
          have : a' ≠ f := fun q => by subst q; exact absurd (le3 _ _ e) (by rw [hf] at e; cases e)
          rw [put_ne this]; exact le3 _ _ e
        · rw [zzRow_succ, ← List.append_assoc, intL_app]
          have e2 : intL [((zzY s t i * s + t - zzY s t i : Nat) : Int)] = [Value.int ((zzY s t i : Nat) * (s : Int) + t - (zzY s t i : Nat)) 0] := by
            simp only [intL, List.map_cons, List.map_nil]
            have hm : ((zzY s t i * s : Nat) : Int) = (zzY s t i : Nat) * (s : Int) := Int.natCast_mul ..
            rw [← hm]
            have : ((zzY s t i * s + t - zzY s t i : Nat) : Int) = ((zzY s t i * s : Nat) : Int) + t - (zzY s t i : Nat) := by (exact Int.ofNat_sub (by omega))
            rw [this]
          rw [e2]; exact hL4
      · refine ex0_3 (iv) fun eR0 le3 hL3 => ?_
        try clear iv
        obtain rfl := eR0
        refine TS_nil (k _ le3 ?_)
        rw [zzTo_succ]; exact hL3
    refine TS_cons (T1_assign (.inl rfl) (TE_ifexp (TB_eq (TE_mod (TE_name rfl (TE_int ⟨_, _, rfl, rfl, by decide, TE_int ⟨_, _, rfl, rfl, fun hp => ⟨fun uu => ?_, nTF⟩, fun hp => ⟨nFT, fun uu => ?_⟩⟩⟩))))))
    · refine TE_bcall S rfl rfl (TEs_cons (TE_name rfl (TEs_cons (TE_add (TE_name rfl (TE_int ⟨_, _, rfl, rfl, TEs_nil ?_⟩))))))
      obtain ⟨s3, s4⟩ := range_fit (a := (zzLow s t : Nat)) (b := (zzHigh s t : Nat) + 1) (by (and_intros <;> lia)) (by (and_intros <;> lia))
      refine TC_range2 fun rg o hrg hR => loop _ rg _ _ _ (le.trans (le_put hrg)) (hL.le (le_put hrg)) hR s3 (by rw [s4]; omega) (fun i hi => ?_) _ fun D3 l3 hL3 => ⟨_, RLe.cons rfl (RLe.cons rfl RLe.nil), rfl, l3, hL3⟩
      unfold zzY; rw [if_pos (by lia)]; lia
    · refine TE_bcall S rfl rfl (TEs_cons (TE_name rfl (TEs_cons (TE_sub (TE_name rfl (TE_int ⟨_, _, rfl, rfl, TEs_cons (TE_neg (TE_int ⟨_, rfl, TEs_nil ?_⟩))⟩))))))
      obtain ⟨s3, s4⟩ := range_down (a := (zzHigh s t : Nat)) (b := (zzLow s t : Nat) - 1) (by (and_intros <;> lia)) (by (and_intros <;> lia))
      refine TC_range3 (by decide) (by decide) fun rg o hrg hR => loop _ rg _ _ _ (le.trans (le_put hrg)) (hL.le (le_put hrg)) hR s3 (by rw [s4]; omega) (fun i hi => ?_) _ fun D3 l3 hL3 => ⟨_, RLe.cons rfl (RLe.cons rfl RLe.nil), rfl, l3, hL3⟩
      unfold zzY; rw [if_neg (by lia)]; (clear s4 s3 hp loop hlh ehigh elow et hL le ht s2 s1 hF l1 hf hn hn1 hs S; lia)
  · refine ex0_3 (iv) fun eR0 le hL => ?_
    try clear iv
    obtain rfl := eR0
    refine TS_cons (T1_ret (TE_bcall S rfl rfl (TEs_cons (TE_name rfl (TEs_nil ?_)))))
    have := zzTo_len (s := s) (k := 2 * s - 1) (Nat.le_refl _) hs.2
    refine TC_tuple hL (by rw [intL_len]; unfold sizeLine; (exact Nat.le_trans (by assumption) (by decide))) fun t o ht hT => ⟨t, rfl, le.none ht, le.trans (le_put ht), hT⟩
end

section
variable {w : World} {K : Frag} {Hb : Heap} {n : Nat} {D : DH}

theorem fn_order (S : Stat w K Hb) : Fn Hb 660 (scopeOf (stm 57)) (bodyOf (stm 57)) ["n"] := Fn.of S 28 rfl rfl
theorem sp_order (S : Stat w K Hb) {s : Nat} (hs : 1 ≤ s ∧ s ≤ 7) (hn : 2 ≤ n) : TC PG w Hb n (.ref 660) [vi s] D (ZzP s D) := by
  refine TC.down hn fun n hn1 => ?_
  refine TC_def (fn_order S) rfl (TS_cons (T1_ret (TE_ifexp (TB_eq (TE_name rfl (TE_int ⟨_, _, rfl, rfl, fun h => ?_, fun uu => ⟨nFT, fun uu => ?_⟩⟩))))))
  · exfalso; lia
  · exact TE_gcall S rfl rfl (TEs_cons (TE_name rfl (TEs_nil (sp_zigzag S (by (and_intros <;> lia)) (by omega)))))

theorem fn_to_row (S : Stat w K Hb) : Fn Hb 665 (scopeOf (stm 58)) (bodyOf (stm 58)) ["block", "n"] := Fn.of S 29 rfl rfl
theorem sp_to_row (S : Stat w K Hb) {s : Nat} {b : Addr} {bs : List Int} (hs : 1 ≤ s ∧ s ≤ 7) (hb : IsL D b (intL bs)) (hz : (zz s).length ≤ sizeLine ∧ ∀ i, ∀ uu : i ∈ zz s, 0 ≤ i ∧ i < bs.length ∧ i < 2 ^ 62) (hn : 3 ≤ n) :
    TC PG w Hb n (.ref 665) [.ref b, vi s] D (NewL ((zz s).map fun i => bs.getD i.toNat 0) D) := by
  refine TC.down hn fun n hn1 => ?_
  refine TC_def (fn_to_row S) rfl (TS_cons (T1_ret ?_))
  refine TE_comp [("block", .ref b)] rfl (RLe.cons rfl RLe.nil) (TE_gcall S rfl rfl (TEs_cons (TE_name rfl (TEs_nil ?_))))
  refine TC.zz (sp_order S hs hn1) fun t D1 uu l1 hT => ?_
  refine ⟨t, _, rfl, .seq (.inr hT), by rw [intL_len]; exact hz.1, ?_⟩
  refine CompOf_map (fun i => ((zz s)[i]?.map fun i => vi (bs.getD i.toNat 0)).getD .none) (fun i u D₂ hu le => ⟨_, Asg_name rfl, ?_⟩) fun D₂ le a o ha hL => ⟨a, rfl, (l1.trans le).trans (le_put ha), ?_⟩
  · unfold intL at hu
    rw [List.getElem?_map] at hu
    refine ex1_2 (Option.map_eq_some_iff.mp hu) fun z hzz eR2 => ?_
    obtain rfl := eR2
    refine ex0_3 (hz.2 z (List.mem_of_getElem? hzz)) fun z1 z2 z3 => ?_
    refine TE_item (TE_name rfl (TE_name rfl ⟨b, _, z, _, rfl, .inl (hb.le (l1.trans le)), rfl, z1, z3, intL_get (get_lt (by lia)), ?_, Le.refl _⟩))
    rw [hzz]; rfl
  · rw [intL_len, range_map_get] at hL
    have e : (zz s).map (fun i => vi (bs.getD i.toNat 0)) = intL ((zz s).map fun i => bs.getD i.toNat 0) := by unfold intL; rw [List.map_map]; rfl
    rw [e] at hL; exact hL

-- the block that a row is laid out to, after j places
noncomputable def tb (s : Nat) (rs : List Int) (j : Nat) : List Int := (List.range j).foldl (fun acc i => acc.set ((zz s).getD i 0).toNat (rs.getD i 0)) (List.replicate (s * s) 0)
theorem tb_succ (s : Nat) (rs : List Int) (j : Nat) : tb s rs (j + 1) = (tb s rs j).set ((zz s).getD j 0).toNat (rs.getD j 0) := by
  unfold tb; rw [List.range_succ, List.foldl_append]; rfl
theorem tb_len (s : Nat) (rs : List Int) (j : Nat) : (tb s rs j).length = s * s := by
  induction j with
  | zero => simp [tb]
  | succ j ih => rw [tb_succ, List.length_set, ih]
theorem flat_vi (k : Nat) (i : Int) : (List.replicate k [vi i]).flatten = intL (List.replicate k i) := by rw [flat_one]; simp [intL, vi]

theorem fn_to_block (S : Stat w K Hb) : Fn Hb 672 (scopeOf (stm 59)) (bodyOf (stm 59)) ["row", "n"] := Fn.of S 30 rfl rfl
theorem sp_to_block (S : Stat w K Hb) {s : Nat} {r : Addr} {rs : List Int} (hs : 1 ≤ s ∧ s ≤ 7) (hr : IsL D r (intL rs)) (hl : (zz s).length ≤ rs.length) (hz : ∀ i, ∀ uu : i ∈ zz s, 0 ≤ i ∧ i < ((s * s : Nat) : Int)) (hn : 3 ≤ n) :
    TC PG w Hb n (.ref 672) [.ref r, vi s] D (NewL (tb s rs (zz s).length) D) := by
  refine TC.down hn fun n hn1 => ?_
  have hss : s * s ≤ 49 := by
    have : s * s ≤ 7 * 7 := Nat.mul_le_mul hs.2 hs.2
    simpa using this
  have hc : (s : Int) * (s : Int) = ((s * s : Nat) : Int) := (Int.natCast_mul ..).symm
  have hzl : (zz s).length ≤ 225 := zzTo_len (Nat.le_refl _) (by lia)
  refine TC_def (fn_to_block S) rfl (TS_cons (T1_assign (.inl rfl) (TE_mulL (TE_list (TEs_cons (TE_int (TEs_nil ⟨by simp [sizeLine], fun l D1 hl1 l1 hL1 uu => ?_⟩)))))))
  refine TE_mul (TE_name rfl (TE_name rfl ⟨_, _, rfl, rfl, by left; omega, l, _, _, rfl, rfl, hL1, by (constructor <;> intro hZ <;> omega), by omega, by simp; lia, fun f o hf hF => ?_⟩))
  rw [hc, Int.toNat_natCast, flat_vi] at hF
  have l2 := l1.trans (le_put (o := o) hf)
  refine TS_cons (T1_assign (.inl rfl) (TE_int (TS_cons ?_)))
  have hDf : D f = none := l1.none hf
  refine T1_for_seq (fun j ρ' D' => ρ' = ([("rank", vi j), ("found", .ref f), ("row", .ref r), ("n", vi s)] : List (Str × Value)) ∧ Le D D' ∧ IsL D' f (intL (tb s rs j))) (.inl rfl) ?_
  refine TE_gcall S rfl rfl (TEs_cons (TE_name rfl (TEs_nil ?_)))
  refine (sp_order S hs hn1).mono fun v D3 ⟨t, e, ht, l3, hT⟩ => ⟨t, _, del D3 [t], _, e, .inr hT, del_le, del_none (by simp), RLe.cons rfl (RLe.cons rfl (RLe.cons rfl (RLe.cons rfl RLe.nil))), ⟨rfl, ?_, ?_⟩, fun j u ρ' D' hu iv => ?_, fun ρ' D' iv => ?_⟩
  · exact le_del (l2.trans l3) fun a ha => by rw [List.mem_singleton.mp ha]; exact l2.none ht
  · have hne : f ∉ [t] := fun q => by
      rw [← List.mem_singleton.mp q, put_self] at ht; cases ht
    obtain ⟨vs, m, z1, z2⟩ := hF.le l3
    exact ⟨vs, m, by rw [del_at hne]; exact z1, by rw [z2]; rfl⟩
  · refine ex0_3 (iv) fun eR0 le hL => ?_
    try clear iv
    obtain rfl := eR0
    have hj : j < (zz s).length := by have := (List.getElem?_eq_some_iff.mp hu).1; rwa [intL_len] at this
    have hu' : u = vi ((zz s).getD j 0) := by rw [intL_get (get_lt hj)] at hu; obtain rfl := (Option.some.inj hu).symm; rfl
    subst hu'
    obtain ⟨z1, z2⟩ := hz _ (List.mem_of_getElem? (get_lt hj))
    refine TS_cons (T1_setitem (TE_item (TE_name rfl (TE_name rfl ⟨r, _, j, _, rfl, .inl (hr.le le), rfl, by (constructor <;> intro hZ <;> omega), by (exact Int.ofNat_le.mpr (by lia)), intL_get (get_lt (by (exact Nat.le_trans (by assumption) (by omega)))), TE_name rfl (TE_name rfl ⟨f, _, _, rfl, rfl, hL, z1, by rw [intL_len, tb_len]; exact z2, by omega, fun o' hL' => ?_⟩)⟩))))
    refine TS_cons (T1_aug (i := j) (.inl rfl) rfl (TE_int ⟨_, rfl, TS_nil ?_⟩))
    refine ⟨_, RLe.cons rfl (RLe.cons rfl (RLe.cons rfl (RLe.cons rfl RLe.nil))), rfl, le_put' le hDf, ?_⟩
    rw [tb_succ]
    have : (intL (tb s rs j)).set ((zz s).getD j 0).toNat (vi (rs.getD j 0)) = intL ((tb s rs j).set ((zz s).getD j 0).toNat (rs.getD j 0)) := by simp [intL, vi, List.map_set]
    rw [← this]; exact hL'
  · refine ex0_3 (iv) fun eR0 le hL => ?_
    try clear iv
    obtain rfl := eR0
    rw [intL_len] at hL
    exact TS_cons (T1_ret (TE_name rfl ⟨f, rfl, le, hL⟩))
end

section
variable {w : World} {K : Frag} {Hb : Heap} {n : Nat} {D : DH}

theorem pickL_run (l : List Int) (a b : Nat) (hb : b ≤ l.length) (hab : a ≤ b) : pickL (intL l) (some (a : Int)) (some (b : Int)) none = intL ((l.drop a).take (b - a)) := by
  unfold pickL
  rw [slicePick_run _ a b (by simpa [intL] using hb) hab]
  simp [intL, List.map_take, List.map_drop]

theorem TEp_some {sc : Scope} {e : Expr} {ρ : List (Str × Value)} {Q : ∀ uu : Option Int, ∀ uu : DH, Prop} (h : TE PG w Hb n sc e ρ D (fun v D' => ∃ i, v = .int i 0 ∧ Q (some i) D')) : TEp PG w Hb n sc (some e) ρ D Q := h
theorem TEp_none {sc : Scope} {ρ : List (Str × Value)} {Q : ∀ uu : Option Int, ∀ uu : DH, Prop} (h : Q none D) : TEp PG w Hb n sc none ρ D Q := h
-- the rows of a block, cut
noncomputable def cutTo (s : Nat) (bs : List Int) (l k : Nat) : List Int := (List.range k).flatMap fun y => (bs.drop (y * s)).take l
theorem cutTo_succ (s : Nat) (bs : List Int) (l k : Nat) : cutTo s bs l (k + 1) = cutTo s bs l k ++ (bs.drop (k * s)).take l := by
  unfold cutTo; rw [List.range_succ, List.flatMap_append]; simp
theorem cutTo_len {s : Nat} {bs : List Int} {l k : Nat} (h : bs.length = s * s) (hl : l ≤ s) (hk : k ≤ s) : (cutTo s bs l k).length = k * l := by
  induction k with
  | zero => simp [cutTo]
  | succ k ih =>
    rw [cutTo_succ, List.length_append, ih (by (exact Nat.le_of_lt (by assumption))), List.length_take, List.length_drop, h]
    have : (k + 1) * s ≤ s * s := Nat.mul_le_mul_right s hk
    rw [Nat.add_mul, Nat.one_mul] at this
    rw [Nat.min_eq_left (by (exact Nat.le_trans (by assumption) (by omega))), Nat.add_mul, Nat.one_mul]

theorem fn_corner (S : Stat w K Hb) : Fn Hb 679 (scopeOf (stm 60)) (bodyOf (stm 60)) ["row", "n", "less"] := Fn.of S 31 rfl rfl
theorem sp_corner (S : Stat w K Hb) {s l : Nat} {r : Addr} {rs : List Int} (hs : 1 ≤ s ∧ s ≤ 7) (hls : 1 ≤ l ∧ l ≤ s) (hr : IsL D r (intL rs)) (hl : (zz s).length ≤ rs.length) (hz : ∀ i, ∀ uu : i ∈ zz s, 0 ≤ i ∧ i < ((s * s : Nat) : Int)) (hz2 : ∀ i, ∀ uu : i ∈ zz l, 0 ≤ i ∧ i < ((l * l : Nat) : Int)) (hn : 4 ≤ n) :
    TC PG w Hb n (.ref 679) [.ref r, vi s, vi l] D (NewL ((zz l).map fun i => (cutTo s (tb s rs (zz s).length) l l).getD i.toNat 0) D) := by
  refine TC.down hn fun n hn1 => ?_
  have hl7 : l ≤ 7 := by lia
  have hss : s * s ≤ 7 * 7 := Nat.mul_le_mul hs.2 hs.2
  have hll : l * l ≤ 7 * 7 := Nat.mul_le_mul hl7 hl7
  refine TC_def (fn_corner S) rfl (TS_cons (T1_assign (.inl rfl) (TE_gcall S rfl rfl (TEs_cons (TE_name rfl (TEs_cons (TE_name rfl (TEs_nil ?_))))))))
  refine TC.newL (sp_to_block S hs hr hl hz hn1) fun b D1 l1 hB => ?_
  have hbl : (tb s rs (zz s).length).length = s * s := tb_len ..
  generalize tb s rs (zz s).length = bs at hB hbl
  refine TS_cons (T1_assign (.inl rfl) (TE_list (TEs_nil ⟨by simp, fun f D2 hf l2 hF uu => ?_⟩)))
  have hDf : D f = none := l1.none hf
  have hfb : f ≠ b := hB.off hf
  have keepB : ∀ {D' : DH} {o : Obj}, ∀ uu : IsL D' b (intL bs), IsL (put D' f o) b (intL bs) := fun {D' o} h => let ⟨vs, m, z1, z2⟩ := h; ⟨vs, m, by rw [put_ne (Ne.symm hfb)]; exact z1, z2⟩
  refine TS_cons (T1_for_range (fun y ρ' D' => ρ' = ([("small", .ref f), ("block", .ref b), ("row", .ref r), ("n", vi s), ("less", vi l)] : List (Str × Value)) ∧ Le D D' ∧ IsL D' b (intL bs) ∧ IsL D' f (intL (cutTo s bs l y))) (.inl rfl) ?_)
  obtain ⟨s1, s2⟩ := range_small (b := (l : Int)) (by (and_intros <;> (exact Int.ofNat_le.mpr (by lia))))
  refine TE_bcall S rfl rfl (TEs_cons (TE_name rfl (TEs_nil (TC_range1 fun rg o hrg hR => ⟨rg, _, _, _, D2, _, l, rfl, hR, s1, by simpa using s2, le_put hrg, RLe.refl _, ⟨rfl, l1.trans l2, hB.le l2, hF⟩, fun y ρ' D' hy iv => ?_, fun ρ' D' iv => ?_⟩))))
  · refine ex0_4 (iv) fun eR0 le hB' hF' => ?_
    try clear iv
    obtain rfl := eR0
    have e1 : (0 + (y : Int) * 1) * (s : Int) = ((y * s : Nat) : Int) := by rw [Int.natCast_mul, Int.mul_one, Int.zero_add]
    have e2 : ((y * s : Nat) : Int) + l = ((y * s + l : Nat) : Int) := by (constructor <;> intro hZ <;> omega)
    have hys : y * s + l ≤ s * s := by
      have : (y + 1) * s ≤ s * s := Nat.mul_le_mul_right s (by lia)
      rw [Nat.add_mul, Nat.one_mul] at this; (clear e2 e1 hF' hB' le hy hR hrg s2 s1 keepB hfb hDf hF l2 hf hbl hB l1 hll hss hl7 hn hn1 hz2 hz hl hr hs S; omega)
    refine TS_cons (T1_expr (TE_extend (TE_name rfl ⟨f, _, rfl, hF', TE_slice (TE_name rfl ?_)⟩)))
    refine TEp_some (TE_mul (TE_name rfl (TE_name rfl ⟨_, _, rfl, rfl, by right; (clear hys e2 e1 hF' hB' le hy hR hrg s2 s1 keepB hfb hDf hF l2 hf hbl hB l1 hll hss hl7 hn hn1 hz2 hz hl hr hls S; omega), ⟨_, rfl, TEp_some (TE_add (TE_mul (TE_name rfl (TE_name rfl ⟨_, _, rfl, rfl, by right; omega, TE_name rfl ⟨_, _, rfl, rfl, ⟨_, rfl, TEp_none ?_⟩⟩⟩))))⟩⟩)))
    refine ⟨b, _, rfl, hB', by rw [intL_len, hbl]; unfold sizeLine; (exact Nat.le_trans (by assumption) (by decide)), nofun, fun p o' hp hP => ?_⟩
    rw [e1, e2, pickL_run _ _ _ (by rw [hbl]; exact hys) (by lia), show y * s + l - y * s = l by lia] at hP
    have hpf : IsL (put D' p o') f (intL (cutTo s bs l y)) := hF'.le (le_put hp)
    refine ⟨p, _, _, rfl, hP, hpf, ?_, fun o2 hL2 => TS_nil ?_⟩
    · rw [intL_len, intL_len, cutTo_len hbl hls.2 (by lia), List.length_take]
      have : y * l ≤ s * s := Nat.mul_le_mul (by lia) hls.2
      unfold sizeLine; (clear hpf hP hp hys e2 e1 hF' hB' le hy hR hrg s2 s1 keepB hfb hDf hF l2 hf hbl hB l1 hll hl7 hn hn1 hz2 hz hl hr S; omega)
    · refine ⟨_, RLe.cons rfl (RLe.cons rfl (RLe.cons rfl (RLe.cons rfl (RLe.cons rfl RLe.nil)))), rfl, le_put' (le.trans (le_put hp)) hDf, keepB (hB'.le (le_put hp)), ?_⟩
      rw [cutTo_succ, intL_app]; exact hL2
  · refine ex0_4 (iv) fun eR0 le hB' hF' => ?_
    try clear iv
    obtain rfl := eR0
    refine TS_cons (T1_ret (TE_gcall S rfl rfl (TEs_cons (TE_name rfl (TEs_cons (TE_name rfl (TEs_nil ?_)))))))
    refine (sp_to_row S (by (and_intros <;> lia)) hF' ⟨?_, fun i hi => ?_⟩ hn1).mono fun v D3 ⟨a, e, l3, hA⟩ => ⟨a, e, le.trans l3, hA⟩
    · have := zzTo_len (s := l) (k := 2 * l - 1) (Nat.le_refl _) (by (exact Nat.le_trans (by assumption) (by decide)))
      unfold sizeLine zz; (exact Nat.le_trans (by assumption) (by decide))
    · obtain ⟨z1, z2⟩ := hz2 i hi
      rw [cutTo_len hbl hls.2 hls.2]
      exact ⟨z1, z2, by lia⟩

theorem fn_check_side (S : Stat w K Hb) : Fn Hb 686 (scopeOf (stm 62)) (bodyOf (stm 62)) ["n", "less"] := Fn.of S 32 rfl rfl
theorem sp_check_side (S : Stat w K Hb) {s l : Int} (hs : 0 < s ∧ s < 2 ^ 60) (hl : l = 1 ∨ l = 2 ∨ l = 4) (hls : l ≤ s) (hd : 8 * l % s = 0) (hn : 1 ≤ n) : TC PG w Hb n (.ref 686) [vi s, vi l] D (Pure .none D) := by
  refine TC.down hn fun n hn1 => ?_
  refine TC_def (fn_check_side S) rfl (TS_cons (T1_if (TB_bool (TAll_or (TB_notin (TE_name rfl ?_))))))
  refine TE_tuple (TEs_cons (TE_int (TEs_cons (TE_int (TEs_cons (TE_int (TEs_cons (TE_int (TEs_nil ⟨by simp [sizeLine], fun t D1 ht l1 hT uu => ⟨_, t, [1, 2, 4, 8], rfl, rfl, hT, fun uu => ⟨fun uu => ?_, nFT⟩, fun h => ?_⟩⟩)))))))))
  · refine TAll_or (TB_gt (TE_name rfl (TE_name rfl ⟨_, _, rfl, rfl, fun h => ?_, fun uu => ⟨fun uu => ?_, nFT⟩⟩)))
    · exfalso; lia
    · refine TAll_or (TB_ne (TE_mod (TE_mul (TE_gint S rfl rfl (TE_name rfl ⟨_, _, rfl, rfl, by left; decide, TE_name rfl ⟨_, _, rfl, rfl, hs.1, TE_int ⟨_, _, rfl, rfl, fun h => ?_, fun uu => ⟨fun uu => TAll_or_nil ?_, nFT⟩⟩⟩⟩)))))
      · exact absurd hd h
      · exact ⟨nFT, fun uu => TS_nil (TS_nil ⟨rfl, l1⟩)⟩
  · exfalso; apply h; rcases hl with rfl | rfl | rfl <;> simp
end

section
variable {w : World} {K : Frag} {Hb : Heap} {n : Nat} {D : DH}

noncomputable def ev (p h f t : Int) : List Int := [(p + h) * 2 ^ (13 : Int).toNat + ((f + t) * 4433 + f * 6270), (p - h) * 2 ^ (13 : Int).toNat + ((f + t) * 4433 - t * 15137), (p - h) * 2 ^ (13 : Int).toNat - ((f + t) * 4433 - t * 15137), (p + h) * 2 ^ (13 : Int).toNat - ((f + t) * 4433 + f * 6270)]
inductive NewT (l : List Int) (D : DH) (v : Value) (D' : DH) : Prop
  | mk : ∀ a, ∀ uu : v = .ref a, ∀ uu : Le D D', ∀ uu : IsT D' a (intL l), NewT l D v D'
theorem TC.newT {l : List Int} {f : Value} {args : List Value} {Q : ∀ uu : Value, ∀ uu : DH, Prop} (h : TC PG w Hb n f args D (NewT l D)) (k : ∀ (a : Addr) D', ∀ uu : Le D D', ∀ uu : IsT D' a (intL l), Q (.ref a) D') : TC PG w Hb n f args D Q := h.mono fun uu uu q => by
  obtain ⟨a, rfl, q0, q1⟩ := q
  exact k _ _ q0 q1

theorem fn_even_inverse (S : Stat w K Hb) : Fn Hb 277 (scopeOf (stm 27)) (bodyOf (stm 27)) ["plain", "half", "first", "third"] := Fn.of S 19 rfl rfl
theorem sp_even_inverse (S : Stat w K Hb) {p h f t : Int} (hp : p.natAbs < 2 ^ 60) (hh : h.natAbs < 2 ^ 60) (hn : 1 ≤ n) : TC PG w Hb n (.ref 277) [vi p, vi h, vi f, vi t] D (NewT (ev p h f t) D) := by
  refine TC.down hn fun n hn1 => ?_
  refine TC_def (fn_even_inverse S) rfl (TS_cons (T1_assign (.inl rfl) (TE_mul (TE_add (TE_name rfl (TE_name rfl ⟨_, _, rfl, rfl, TE_gint S rfl rfl ⟨_, _, rfl, rfl, by right; decide, ?_⟩⟩))))))
  refine TS_cons (T1_swap (ys := ["outer", "inner"]) rfl ?_ (by rintro ⟨⟩ rfl; rfl))
  refine TE_tuple (TEs_cons (TE_add (TE_name rfl (TE_mul (TE_name rfl (TE_gint S rfl rfl ⟨_, _, rfl, rfl, by right; decide, ⟨_, _, rfl, rfl, TEs_cons ?_⟩⟩))))))
  refine TE_sub (TE_name rfl (TE_mul (TE_name rfl (TE_gint S rfl rfl ⟨_, _, rfl, rfl, by right; decide, ⟨_, _, rfl, rfl, TEs_nil ⟨by simp [sizeLine], fun a D1 ha l1 hT uu => ⟨a, _, rfl, .inr hT, rfl, ?_⟩⟩⟩⟩))))
  refine TS_cons (T1_swap (ys := ["top", "low"]) rfl ?_ (by rintro ⟨⟩ rfl; rfl))
  refine TE_tuple (TEs_cons (TE_shl (TE_add (TE_name rfl (TE_name rfl ⟨_, _, rfl, rfl, TE_gint S rfl rfl ⟨_, _, rfl, rfl, by decide, by decide, by omega, TEs_cons ?_⟩⟩)))))
  refine TE_shl (TE_sub (TE_name rfl (TE_name rfl ⟨_, _, rfl, rfl, TE_gint S rfl rfl ⟨_, _, rfl, rfl, by decide, by decide, by omega, TEs_nil ⟨by simp [sizeLine], fun b D2 hb l2 hT2 uu => ⟨b, _, rfl, .inr hT2, rfl, ?_⟩⟩⟩⟩)))
  refine TS_cons (T1_ret (TE_tuple (TEs_cons (TE_add (TE_name rfl (TE_name rfl ⟨_, _, rfl, rfl, TEs_cons (TE_add (TE_name rfl (TE_name rfl ⟨_, _, rfl, rfl, TEs_cons (TE_sub (TE_name rfl (TE_name rfl ⟨_, _, rfl, rfl, TEs_cons (TE_sub (TE_name rfl (TE_name rfl ⟨_, _, rfl, rfl, TEs_nil ⟨by simp [sizeLine], fun c D3 hc l3 hT3 uu => ?_⟩⟩)))⟩)))⟩)))⟩))))))
  exact ⟨c, rfl, (l1.trans l2).trans l3, hT3⟩

noncomputable def strideL (bs : List Int) (p s : Nat) : List Int := (sliceRange (sliceBounds (some (p : Int)) none (some (s : Int)) bs.length).1 (sliceBounds (some (p : Int)) none (some (s : Int)) bs.length).2.1 (sliceBounds (some (p : Int)) none (some (s : Int)) bs.length).2.2).filterMap (bs[·]?)
theorem pickL_stride (bs : List Int) (p s : Nat) : pickL (intL bs) (some (p : Int)) none (some (s : Int)) = intL (strideL bs p s) := by
  unfold pickL slicePick strideL
  simp only [List.size_toArray, intL_len, List.getElem?_toArray]
  generalize sliceRange _ _ _ = l
  induction l with
  | nil => rfl
  | cons i r ih =>
    simp only [List.filterMap_cons]
    cases e : bs[i]? with
    | none =>
      have : (intL bs)[i]? = none := by simp [intL, e]
      rw [this]; exact ih
    | some v => rw [intL_get e]; exact congrArg (vi v :: ·) ih
noncomputable def turn (bs : List Int) (s k : Nat) : List Int := (List.range k).flatMap fun p => strideL bs p s
theorem turn_succ (bs : List Int) (s k : Nat) : turn bs s (k + 1) = turn bs s k ++ strideL bs k s := by
  unfold turn; rw [List.range_succ, List.flatMap_append]; simp
theorem strideL_le (bs : List Int) (p s : Nat) : (strideL bs p s).length ≤ bs.length := by
  have h := slicePick_size_le (intL bs).toArray (some (p : Int)) none (some (s : Int))
  have e := congrArg List.length (pickL_stride bs p s)
  rw [intL_len] at e
  rw [← e]
  simpa [pickL, intL_len] using h
theorem turn_le (bs : List Int) (s k : Nat) : (turn bs s k).length ≤ k * bs.length := by
  induction k with
  | zero => simp [turn]
  | succ k ih => rw [turn_succ, List.length_append, Nat.add_mul, Nat.one_mul]; have := strideL_le bs k s; lia

theorem fn_turned (S : Stat w K Hb) : Fn Hb 284 (scopeOf (stm 28)) (bodyOf (stm 28)) ["block", "n"] := Fn.of S 20 rfl rfl
theorem sp_turned (S : Stat w K Hb) {b : Addr} {bs : List Int} {s : Nat} (hb : IsL D b (intL bs)) (hbl : bs.length ≤ 100) (hs : 1 ≤ s ∧ s ≤ 8) (hn : 1 ≤ n) : TC PG w Hb n (.ref 284) [.ref b, vi s] D (NewL (turn bs s s) D) := by
  refine TC.down hn fun n hn1 => ?_
  refine TC_def (fn_turned S) rfl (TS_cons (T1_assign (.inl rfl) (TE_list (TEs_nil ⟨by simp, fun f D1 hf l1 hF uu => ?_⟩))))
  have hfb : f ≠ b := hb.off hf
  refine hide3 (fun p ρ' D' => ρ' = ([("found", .ref f), ("block", .ref b), ("n", vi s)] : List (Str × Value)) ∧ Le D D' ∧ IsL D' f (intL (turn bs s p))) fun Inv1 in1 out1 => ?_
  refine TS_cons (T1_for_range Inv1 (.inl rfl) ?_)
  obtain ⟨s1, s2⟩ := range_small (b := (s : Int)) (by (and_intros <;> (exact Int.ofNat_le.mpr (by lia))))
  refine TE_bcall S rfl rfl (TEs_cons (TE_name rfl (TEs_nil (TC_range1 fun rg o hrg hR => ⟨rg, _, _, _, D1, _, s, rfl, hR, s1, by simpa using s2, le_put hrg, RLe.refl _, in1 ⟨rfl, l1, hF⟩, fun p ρ' D' hp iv => ?_, fun ρ' D' iv => ?_⟩))))
  · refine ex0_3 (out1 iv) fun eR0 le hF' => ?_
    try clear iv
    obtain rfl := eR0
    refine TS.abs fun QB1 kB1 => ?_
    have e1 : (0 + (p : Int) * 1) = (p : Int) := by (rw [Int.zero_add, Int.mul_one])
    rw [e1]
    refine TS_cons (T1_expr (TE_extend (TE_name rfl ⟨f, _, rfl, hF', TE_slice (TE_name rfl (TEp_some (TE_name rfl ⟨_, rfl, TEp_none (TEp_some (TE_name rfl ⟨_, rfl, ?_⟩))⟩)))⟩)))
    refine ⟨b, _, rfl, hb.le le, by rw [intL_len]; unfold sizeLine; (exact Nat.le_trans (by assumption) (by decide)), by simp; lia, fun r o' hr hP => ?_⟩
    rw [pickL_stride] at hP
    refine ⟨r, _, _, rfl, hP, hF'.le (le_put hr), ?_, fun o2 hL2 => TS_nil (kB1 _ _ _ ⟨_, RLe.cons rfl (RLe.cons rfl (RLe.cons rfl RLe.nil)), in1 ⟨rfl, le_put' (le.trans (le_put hr)) hf, ?_⟩⟩)⟩
    · rw [intL_len, intL_len]
      have h1 := turn_le bs s p
      have h2 := strideL_le bs p s
      have h3 : p * bs.length ≤ 8 * 100 := Nat.mul_le_mul (by lia) hbl
      unfold sizeLine; lia
    · rw [turn_succ, intL_app]; exact hL2
  · refine ex0_3 (out1 iv) fun eR0 le hF' => ?_
    try clear iv
    obtain rfl := eR0
    exact TS_cons (T1_ret (TE_name rfl ⟨f, rfl, le, hF'⟩))

noncomputable def dsc (d x : Int) : Int := (x + 2 ^ (d - 1).toNat) / 2 ^ d.toNat
noncomputable def passR (A : List Int) (d : Int) (j : Nat) : List Int := (ev (A.getD (4 * j) 0) (A.getD (4 * j + 2) 0) (A.getD (4 * j + 1) 0) (A.getD (4 * j + 3) 0)).map (dsc d)
noncomputable def pass (A : List Int) (d : Int) (k : Nat) : List Int := (List.range k).flatMap (passR A d)
theorem pass_succ (A : List Int) (d : Int) (k : Nat) : pass A d (k + 1) = pass A d k ++ passR A d k := by
  unfold pass; rw [List.range_succ, List.flatMap_append]; simp
theorem pass_len (A : List Int) (d : Int) (k : Nat) : (pass A d k).length = k * 4 := by
  induction k with
  | zero => simp [pass]
  | succ k ih => rw [pass_succ, List.length_append, ih]; simp [passR, ev]; lia

theorem fn_four (S : Stat w K Hb) : Fn Hb 348 (scopeOf (met 47 1)) (bodyOf (met 47 1)) ["self", "block"] := Fn.of S 21 rfl rfl
noncomputable def fourI (bs : List Int) : List Int := pass (turn (pass (turn bs 4 4) 11 4) 4 4) 17 4
theorem sp_four (S : Stat w K Hb) {x b : Addr} {bs : List Int} (hb : IsL D b (intL bs)) (hbl : bs.length = 16) (hl1 : (turn bs 4 4).length = 16) (hl2 : (turn (pass (turn bs 4 4) 11 4) 4 4).length = 16)
    (hb1 : ∀ x, ∀ uu : x ∈ turn bs 4 4, x.natAbs < 2 ^ 60) (hb2 : ∀ x, ∀ uu : x ∈ turn (pass (turn bs 4 4) 11 4) 4 4, x.natAbs < 2 ^ 60) (hn : 2 ≤ n) : TC PG w Hb n (.ref 348) [.ref x, .ref b] D (NewL (fourI bs) D) := by
  refine TC.down hn fun n hn1 => ?_
  refine TC_def (fn_four S) rfl (TS_cons (T1_assign (.inl rfl) (TE_gcall S rfl rfl (TEs_cons (TE_name rfl (TEs_cons (TE_gint S rfl rfl (TEs_nil ?_))))))))
  refine TC.newL (sp_turned S (s := 4) hb (by lia) (by decide) hn1) fun a D1 l1 hA1 => ?_
  unfold fourI
  generalize turn bs 4 4 = A at hA1 hl1 hb1 hl2 hb2
  refine TS_cons (T1_assign (.inl rfl) (TE_list (TEs_nil ⟨by simp, fun f D2 hf l2 hF2 uu => ?_⟩)))
  have hDf : D f = none := l1.none hf
  have hfa : f ≠ a := hA1.off hf
  have keep1 : ∀ {D' : DH} {o : Obj}, ∀ uu : IsL D' a (intL A), IsL (put D' f o) a (intL A) := fun {D' o} h => let ⟨vs, m, z1, z2⟩ := h; ⟨vs, m, by rw [put_ne (Ne.symm hfa)]; exact z1, z2⟩
  refine TS_cons (T1_for_range (fun j ρ' D' => ρ' = ([("found", .ref f), ("across", .ref a), ("self", .ref x), ("block", .ref b)] : List (Str × Value)) ∧ Le D D' ∧ IsL D' a (intL A) ∧ IsL D' f (intL (pass A 11 j))) (.inl rfl) ?_)
  refine TE_bcall S rfl rfl (TEs_cons (TE_int (TEs_cons (TE_mul (TE_gint S rfl rfl (TE_gint S rfl rfl ⟨_, _, rfl, rfl, by left; decide, TEs_cons (TE_gint S rfl rfl (TEs_nil ?_))⟩))))))
  refine TC_range3 (by decide) (by decide) fun rg o hrg hR => ⟨rg, _, _, _, _, _, 4, rfl, hR, by decide, by decide, le_put hrg, RLe.refl _, ⟨rfl, l1.trans l2, hA1.le l2, hF2⟩, fun j ρ' D' hj iv => ?_, fun ρ' D' iv => ?_⟩
  · refine ex0_4 (iv) fun eR0 le hA hF => ?_
    try clear iv
    obtain rfl := eR0
    have it : ∀ (k : Nat), ∀ uu : k < 4, (0 + (j : Int) * ((4 : Int))) + k = ((4 * j + k : Nat) : Int) := fun k uu => by lia
    have gt : ∀ (k : Nat), ∀ uu : k < 4, (intL A)[(((4 * j + k : Nat) : Int)).toNat]? = some (vi ((A).getD (4 * j + k) 0)) := fun k hk => by rw [Int.toNat_natCast]; exact intL_get (get_lt (by rw [hl1]; lia))
    have bd : ∀ (k : Nat), ∀ uu : k < 4, ((A).getD (4 * j + k) 0).natAbs < 2 ^ 60 := fun k hk => hb1 _ (List.mem_of_getElem? (get_lt (by rw [hl1]; lia)))
    refine TS_cons (T1_assign (.inl rfl) (TE_gcall S rfl rfl (TEs_cons (TE_item (TE_name rfl (TE_name rfl ⟨a, _, ((4 * j + 0 : Nat) : Int), _, rfl, .inl hA, congrArg vi (by lia), by (constructor <;> intro hZ <;> omega), by (exact Int.ofNat_le.mpr (by lia)), gt 0 (by decide), TEs_cons ?_⟩))))))
    refine TE_item (TE_name rfl (TE_add (TE_name rfl (TE_int ⟨_, _, rfl, rfl, ⟨a, _, ((4 * j + 2 : Nat) : Int), _, rfl, .inl hA, congrArg vi (it 2 (by decide)), by (constructor <;> intro hZ <;> omega), by (exact Int.ofNat_le.mpr (by lia)), gt 2 (by decide), TEs_cons ?_⟩⟩))))
    refine TE_item (TE_name rfl (TE_add (TE_name rfl (TE_int ⟨_, _, rfl, rfl, ⟨a, _, ((4 * j + 1 : Nat) : Int), _, rfl, .inl hA, congrArg vi (it 1 (by decide)), by (constructor <;> intro hZ <;> omega), by (exact Int.ofNat_le.mpr (by lia)), gt 1 (by decide), TEs_cons ?_⟩⟩))))
    refine TE_item (TE_name rfl (TE_add (TE_name rfl (TE_int ⟨_, _, rfl, rfl, ⟨a, _, ((4 * j + 3 : Nat) : Int), _, rfl, .inl hA, congrArg vi (it 3 (by decide)), by (constructor <;> intro hZ <;> omega), by (exact Int.ofNat_le.mpr (by lia)), gt 3 (by decide), TEs_nil ?_⟩⟩))))
    refine TC.newT (sp_even_inverse S (bd 0 (by decide)) (bd 2 (by decide)) hn1) fun t D3 l3 hT => ?_
    refine TS_cons (T1_expr (TE_extend (TE_name rfl ⟨f, _, rfl, hF.le l3, ?_⟩)))
    refine TE_comp [] rfl RLe.nil (TE_name rfl ⟨t, _, rfl, .seq (.inr hT), by rw [intL_len]; simp [ev, sizeLine], ?_⟩)
    refine CompOf_map (fun i => (((ev ((A).getD (4 * j) 0) ((A).getD (4 * j + 2) 0) ((A).getD (4 * j + 1) 0) ((A).getD (4 * j + 3) 0))[i]?).map fun x => vi (dsc 11 x)).getD .none) (fun i u D₂ hu lc => ⟨_, Asg_name rfl, ?_⟩) fun D₂ lc r o' hr hL => ?_
    · unfold intL at hu
      rw [List.getElem?_map] at hu
      refine ex1_2 (Option.map_eq_some_iff.mp hu) fun z hz eR2 => ?_
      obtain rfl := eR2
      refine TE_gcall S rfl rfl (TEs_cons (TE_name rfl (TEs_cons (TE_sub (TE_gint S rfl rfl (TE_gint S rfl rfl ⟨_, _, rfl, rfl, TEs_nil ?_⟩))))))
      refine TC.pure (sp_descaled S (by decide) (by decide) hn1) fun D4 l4 => ?_
      refine ⟨?_, l4⟩
      simp only [Nat.add_zero] at hz
      rw [hz]; rfl
    · have e2 : (List.range (intL (ev ((A).getD (4 * j) 0) ((A).getD (4 * j + 2) 0) ((A).getD (4 * j + 1) 0) ((A).getD (4 * j + 3) 0))).length).map (fun i => (((ev ((A).getD (4 * j) 0) ((A).getD (4 * j + 2) 0) ((A).getD (4 * j + 1) 0) ((A).getD (4 * j + 3) 0))[i]?).map fun x => vi (dsc 11 x)).getD .none) = intL (passR A 11 j) := by
        rw [intL_len, range_map_get]; simp [intL, passR, vi]
      have hL' : IsL (put D₂ r o') r (intL (passR A 11 j)) := by rw [← e2]; exact hL
      have l5 := (l3.trans lc).trans (le_put (o := o') hr)
      refine ⟨r, _, _, rfl, hL', hF.le l5, by rw [intL_len, intL_len, pass_len]; simp [passR, ev, sizeLine]; lia, fun o2 hL2 => TS_nil ?_⟩
      refine ⟨_, RLe.cons rfl (RLe.cons rfl (RLe.cons rfl (RLe.cons rfl (RLe.nil)))), rfl, le_put' (le.trans l5) hDf, keep1 (hA.le l5), ?_⟩
      rw [pass_succ, intL_app]; exact hL2
  · refine ex0_4 (iv) fun eR0 le hA hF => ?_
    try clear iv
    obtain rfl := eR0
    refine TS_cons (T1_assign (.inl rfl) (TE_gcall S rfl rfl (TEs_cons (TE_name rfl (TEs_cons (TE_gint S rfl rfl (TEs_nil ?_)))))))
    refine TC.newL (sp_turned S (s := 4) hF (by rw [pass_len]; decide) (by decide) hn1) fun a2 D3 l3 hA2 => ?_
    have le3 := le.trans l3
    generalize turn (pass A 11 4) 4 4 = A2 at hA2 hl2 hb2
    refine TS_cons (T1_assign (.inl rfl) (TE_list (TEs_nil ⟨by simp, fun f2 D4 hf2 l4 hF4 uu => ?_⟩)))
    have hDf2 : D f2 = none := le3.none hf2
    have hfa2 : f2 ≠ a2 := hA2.off hf2
    have keep2 : ∀ {D' : DH} {o : Obj}, ∀ uu : IsL D' a2 (intL A2), IsL (put D' f2 o) a2 (intL A2) := fun {D' o} h => let ⟨vs, m, z1, z2⟩ := h; ⟨vs, m, by rw [put_ne (Ne.symm hfa2)]; exact z1, z2⟩
    refine TS_cons (T1_for_range (fun j ρ' D' => ρ' = ([("found", .ref f2), ("across", .ref a2), ("self", .ref x), ("block", .ref b)] : List (Str × Value)) ∧ Le D D' ∧ IsL D' a2 (intL A2) ∧ IsL D' f2 (intL (pass A2 17 j))) (.inl rfl) ?_)
    refine TE_bcall S rfl rfl (TEs_cons (TE_int (TEs_cons (TE_mul (TE_gint S rfl rfl (TE_gint S rfl rfl ⟨_, _, rfl, rfl, by left; decide, TEs_cons (TE_gint S rfl rfl (TEs_nil ?_))⟩))))))
    refine TC_range3 (by decide) (by decide) fun rg o hrg hR => ⟨rg, _, _, _, _, _, 4, rfl, hR, by decide, by decide, le_put hrg, RLe.cons rfl (RLe.cons rfl (RLe.cons rfl (RLe.cons rfl RLe.nil))), ⟨rfl, le3.trans l4, hA2.le l4, hF4⟩, fun j ρ' D' hj iv => ?_, fun ρ' D' iv => ?_⟩
    · refine ex0_4 (iv) fun eR0 le hA hF => ?_
      try clear iv
      obtain rfl := eR0
      have it : ∀ (k : Nat), ∀ uu : k < 4, (0 + (j : Int) * ((4 : Int))) + k = ((4 * j + k : Nat) : Int) := fun k uu => by lia
      have gt : ∀ (k : Nat), ∀ uu : k < 4, (intL A2)[(((4 * j + k : Nat) : Int)).toNat]? = some (vi ((A2).getD (4 * j + k) 0)) := fun k hk => by rw [Int.toNat_natCast]; exact intL_get (get_lt (by rw [hl2]; lia))
      have bd : ∀ (k : Nat), ∀ uu : k < 4, ((A2).getD (4 * j + k) 0).natAbs < 2 ^ 60 := fun k hk => hb2 _ (List.mem_of_getElem? (get_lt (by rw [hl2]; lia)))
      refine TS_cons (T1_assign (.inl rfl) (TE_gcall S rfl rfl (TEs_cons (TE_item (TE_name rfl (TE_name rfl ⟨a2, _, ((4 * j + 0 : Nat) : Int), _, rfl, .inl hA, congrArg vi (by lia), by lia, by lia, gt 0 (by decide), TEs_cons ?_⟩))))))
      refine TE_item (TE_name rfl (TE_add (TE_name rfl (TE_int ⟨_, _, rfl, rfl, ⟨a2, _, ((4 * j + 2 : Nat) : Int), _, rfl, .inl hA, congrArg vi (it 2 (by decide)), by lia, by lia, gt 2 (by decide), TEs_cons ?_⟩⟩))))
      refine TE_item (TE_name rfl (TE_add (TE_name rfl (TE_int ⟨_, _, rfl, rfl, ⟨a2, _, ((4 * j + 1 : Nat) : Int), _, rfl, .inl hA, congrArg vi (it 1 (by decide)), by lia, by lia, gt 1 (by decide), TEs_cons ?_⟩⟩))))
      refine TE_item (TE_name rfl (TE_add (TE_name rfl (TE_int ⟨_, _, rfl, rfl, ⟨a2, _, ((4 * j + 3 : Nat) : Int), _, rfl, .inl hA, congrArg vi (it 3 (by decide)), by lia, by lia, gt 3 (by decide), TEs_nil ?_⟩⟩))))
      refine TC.newT (sp_even_inverse S (bd 0 (by decide)) (bd 2 (by decide)) hn1) fun t D3 l3 hT => ?_
      refine TS_cons (T1_expr (TE_extend (TE_name rfl ⟨f2, _, rfl, hF.le l3, ?_⟩)))
      refine TE_comp [] rfl RLe.nil (TE_name rfl ⟨t, _, rfl, .seq (.inr hT), by rw [intL_len]; simp [ev, sizeLine], ?_⟩)
      refine CompOf_map (fun i => (((ev ((A2).getD (4 * j) 0) ((A2).getD (4 * j + 2) 0) ((A2).getD (4 * j + 1) 0) ((A2).getD (4 * j + 3) 0))[i]?).map fun x => vi (dsc 17 x)).getD .none) (fun i u D₂ hu lc => ⟨_, Asg_name rfl, ?_⟩) fun D₂ lc r o' hr hL => ?_
      · unfold intL at hu
        rw [List.getElem?_map] at hu
        refine ex1_2 (Option.map_eq_some_iff.mp hu) fun z hz eR2 => ?_
        obtain rfl := eR2
        refine TE_gcall S rfl rfl (TEs_cons (TE_name rfl (TEs_cons (TE_add (TE_add (TE_gint S rfl rfl (TE_gint S rfl rfl ⟨_, _, rfl, rfl, TE_int ⟨_, _, rfl, rfl, TEs_nil ?_⟩⟩)))))))
        refine TC.pure (sp_descaled S (by decide) (by decide) hn1) fun D4 l4 => ?_
        refine ⟨?_, l4⟩
        simp only [Nat.add_zero] at hz
        rw [hz]; rfl
      · have e2 : (List.range (intL (ev ((A2).getD (4 * j) 0) ((A2).getD (4 * j + 2) 0) ((A2).getD (4 * j + 1) 0) ((A2).getD (4 * j + 3) 0))).length).map (fun i => (((ev ((A2).getD (4 * j) 0) ((A2).getD (4 * j + 2) 0) ((A2).getD (4 * j + 1) 0) ((A2).getD (4 * j + 3) 0))[i]?).map fun x => vi (dsc 17 x)).getD .none) = intL (passR A2 17 j) := by
          rw [intL_len, range_map_get]; simp [intL, passR, vi]
        have hL' : IsL (put D₂ r o') r (intL (passR A2 17 j)) := by rw [← e2]; exact hL
        have l5 := (l3.trans lc).trans (le_put (o := o') hr)
        refine ⟨r, _, _, rfl, hL', hF.le l5, by rw [intL_len, intL_len, pass_len]; simp [passR, ev, sizeLine]; lia, fun o2 hL2 => TS_nil ?_⟩
        refine ⟨_, RLe.cons rfl (RLe.cons rfl (RLe.cons rfl (RLe.cons rfl (RLe.nil)))), rfl, le_put' (le.trans l5) hDf2, keep2 (hA.le l5), ?_⟩
        rw [pass_succ, intL_app]; exact hL2
    · refine ex0_4 (iv) fun eR0 le hA hF => ?_
      try clear iv
      obtain rfl := eR0
      exact TS_cons (T1_ret (TE_name rfl ⟨f2, rfl, le, hF⟩))
end

section
variable {w : World} {K : Frag} {Hb : Heap} {n : Nat} {D : DH}

theorem fn_sums (S : Stat w K Hb) : Fn Hb 379 (scopeOf (met 48 2)) (bodyOf (met 48 2)) ["self", "block"] := Fn.of S 23 rfl rfl
theorem sp_sums (S : Stat w K Hb) {x b : Addr} {p q r t : Int} (hb : IsL D b (intL [p, q, r, t])) (hn : 1 ≤ n) : TC PG w Hb n (.ref 379) [.ref x, .ref b] D (NewL [p + q + r + t, p - q + r - t, p + q - r - t, p - q - r + t] D) := by
  refine TC.down hn fun n hn1 => ?_
  refine TC_def (fn_sums S) rfl (TS_cons (T1_unpack (xs := [(("a" : Str), _), (("b" : Str), _), (("c" : Str), _), (("d" : Str), _)]) rfl rfl (TE_name rfl ⟨b, _, rfl, .inl hb, rfl, ?_⟩) (by intro _ _; rfl)))
  refine TS_cons (T1_ret (TE_list (TEs_cons ?_)))
  refine TE_add (TE_add (TE_add (TE_name rfl (TE_name rfl ⟨_, _, rfl, rfl, TE_name rfl ⟨_, _, rfl, rfl, TE_name rfl ⟨_, _, rfl, rfl, TEs_cons ?_⟩⟩⟩))))
  refine TE_sub (TE_add (TE_sub (TE_name rfl (TE_name rfl ⟨_, _, rfl, rfl, TE_name rfl ⟨_, _, rfl, rfl, TE_name rfl ⟨_, _, rfl, rfl, TEs_cons ?_⟩⟩⟩))))
  refine TE_sub (TE_sub (TE_add (TE_name rfl (TE_name rfl ⟨_, _, rfl, rfl, TE_name rfl ⟨_, _, rfl, rfl, TE_name rfl ⟨_, _, rfl, rfl, TEs_cons ?_⟩⟩⟩))))
  refine TE_add (TE_sub (TE_sub (TE_name rfl (TE_name rfl ⟨_, _, rfl, rfl, TE_name rfl ⟨_, _, rfl, rfl, TE_name rfl ⟨_, _, rfl, rfl, TEs_nil ⟨by simp [sizeLine], fun a D1 ha l1 hL uu => ?_⟩⟩⟩⟩))))
  exact ⟨a, rfl, l1, hL⟩

theorem fn_two (S : Stat w K Hb) : Fn Hb 372 (scopeOf (met 48 1)) (bodyOf (met 48 1)) ["self", "block"] := Fn.of S 22 rfl rfl
theorem sp_two (S : Stat w K Hb) {x b : Addr} {p q r t : Int} {fs : List (Str × Value)} (hx : Inst D x 382 fs) (hfs : fs.lookup ("sums" : Str) = none) (hb : IsL D b (intL [p, q, r, t])) (hn : 2 ≤ n) :
    TC PG w Hb n (.ref 372) [.ref x, .ref b] D (NewL ([p + q + r + t, p - q + r - t, p + q - r - t, p - q - r + t].map (dsc 1)) D) := by
  refine TC.down hn fun n hn1 => ?_
  refine TC_def (fn_two S) rfl (TS_cons (T1_ret (TE_comp [] rfl RLe.nil (TE_mcall S rfl hx rfl hfs (TEs_cons (TE_name rfl (TEs_nil ?_)))))))
  refine TC.newL (sp_sums S hb hn1) fun a D1 l1 hA => ?_
  refine ⟨a, _, rfl, .seq (.inl hA), by rw [intL_len]; simp [sizeLine], ?_⟩
  generalize hl : [p + q + r + t, p - q + r - t, p + q - r - t, p - q - r + t] = l at hA
  refine CompOf_map (fun i => ((l[i]?).map fun x => vi (dsc 1 x)).getD .none) (fun i u D₂ hu lc => ⟨_, Asg_name rfl, ?_⟩) fun D₂ lc r o' hr hL => ⟨r, rfl, (l1.trans lc).trans (le_put hr), ?_⟩
  · unfold intL at hu
    rw [List.getElem?_map] at hu
    refine ex1_2 (Option.map_eq_some_iff.mp hu) fun z hz eR2 => ?_
    obtain rfl := eR2
    refine TE_gcall S rfl rfl (TEs_cons (TE_name rfl (TEs_cons (TE_int (TEs_nil ?_)))))
    refine TC.pure (sp_descaled S (by decide) (by decide) hn1) fun D4 l4 => ?_
    refine ⟨?_, l4⟩
    rw [hz]; rfl
  · rw [intL_len, range_map_get] at hL
    have : l.map (fun x => vi (dsc 1 x)) = intL (l.map (dsc 1)) := by unfold intL; rw [List.map_map]; rfl
    rw [← this]; exact hL

theorem fn_one (S : Stat w K Hb) : Fn Hb 407 (scopeOf (met 49 1)) (bodyOf (met 49 1)) ["self", "block"] := Fn.of S 24 rfl rfl
theorem sp_one (S : Stat w K Hb) {x b : Addr} {p : Int} (hb : IsL D b (intL [p])) (hn : 1 ≤ n) : TC PG w Hb n (.ref 407) [.ref x, .ref b] D (NewL [p] D) := by
  refine TC.down hn fun n hn1 => ?_
  refine TC_def (fn_one S) rfl (TS_cons (T1_ret (TE_list (TEs_cons (TE_item (TE_name rfl (TE_int ⟨b, _, 0, vi p, rfl, .inl hb, rfl, by decide, by decide, rfl, TEs_nil ⟨by simp [sizeLine], fun a D1 ha l1 hL uu => ⟨a, rfl, l1, hL⟩⟩⟩)))))))

theorem sp_bare (S : Stat w K Hb) {C : Addr} (hc : (clsTab.lookup C).isSome = true) (hb : bareTab.contains C = true) (hn : 1 ≤ n) : TC PG w Hb n (.ref C) [] D (NewI C [] D) := by
  refine TC.down hn fun n hn1 => ?_
  exact TC_new0 S.k (S.makes hc) (S.f.bare _ (by simpa using hb)) fun x d hx hd hne => ⟨x, rfl, le_new hx hd, d, new_isI hne⟩

theorem fn_picked (S : Stat w K Hb) : Fn Hb 421 (scopeOf (stm 52)) (bodyOf (stm 52)) ["n"] := Fn.of S 25 rfl rfl
theorem sp_picked (S : Stat w K Hb) {l : Int} {C : Addr} (h : (l = 4 ∧ C = 351) ∨ (l = 2 ∧ C = 382) ∨ (l = 1 ∧ C = 410)) (hn : 2 ≤ n) : TC PG w Hb n (.ref 421) [vi l] D (NewI C [] D) := by
  refine TC.down hn fun n hn1 => ?_
  refine TC_def (fn_picked S) rfl (TS_cons (T1_if (TB_eq (TE_name rfl (TE_int ⟨_, _, rfl, rfl, fun e => ?_, fun e => ⟨nFT, fun uu => TS_nil ?_⟩⟩)))))
  · exfalso; lia
  refine TS_cons (T1_if (TB_eq (TE_name rfl (TE_int ⟨_, _, rfl, rfl, fun e => ⟨fun uu => ?_, nTF⟩, fun e2 => ⟨nFT, fun uu => TS_nil ?_⟩⟩))))
  · obtain rfl : C = 351 := by rcases h with ⟨h, q⟩ | ⟨h, q⟩ | ⟨h, q⟩ <;> first | exact q | (exfalso; lia)
    exact TS_cons (T1_ret (TE_gcall S rfl rfl (TEs_nil (sp_bare S rfl rfl hn1))))
  refine TS_cons (T1_if (TB_eq (TE_name rfl (TE_int ⟨_, _, rfl, rfl, fun e => ⟨fun uu => ?_, nTF⟩, fun e3 => ⟨nFT, fun uu => TS_nil ?_⟩⟩))))
  · obtain rfl : C = 382 := by rcases h with ⟨h, q⟩ | ⟨h, q⟩ | ⟨h, q⟩ <;> first | exact q | (exfalso; lia)
    exact TS_cons (T1_ret (TE_gcall S rfl rfl (TEs_nil (sp_bare S rfl rfl hn1))))
  refine TS_cons (T1_if (TB_eq (TE_name rfl (TE_int ⟨_, _, rfl, rfl, fun e => ⟨fun uu => ?_, nTF⟩, fun e3 => ?_⟩))))
  · obtain rfl : C = 410 := by rcases h with ⟨h, q⟩ | ⟨h, q⟩ | ⟨h, q⟩ <;> first | exact q | (exfalso; lia)
    exact TS_cons (T1_ret (TE_gcall S rfl rfl (TEs_nil (sp_bare S rfl rfl hn1))))
  · exfalso; lia

-- a row or a block with its first number alone
noncomputable def dc (l : Nat) (c : Int) : List Int := c :: List.replicate (l * l - 1) 0
-- what the transform makes of it
noncomputable def idc (l : Nat) (c : Int) : Int := if l = 4 then (c + 2) / 4 else if l = 2 then (c + 1) / 2 else c

theorem stride4 {bs : List Int} (h : bs.length = 16) {p : Nat} (hp : p < 4) : strideL bs p 4 = [bs.getD p 0, bs.getD (p + 4) 0, bs.getD (p + 8) 0, bs.getD (p + 12) 0] := by
  have e : sliceRange (sliceBounds (some (p : Int)) none (some ((4 : Nat) : Int)) 16).1 (sliceBounds (some (p : Int)) none (some ((4 : Nat) : Int)) 16).2.1 (sliceBounds (some (p : Int)) none (some ((4 : Nat) : Int)) 16).2.2 = [p, p + 4, p + 8, p + 12] := by
    revert hp
    revert p
    decide
  unfold strideL
  rw [h, e]
  simp only [List.filterMap_cons, get_lt (show p < bs.length by lia), get_lt (show p + 4 < bs.length by lia), get_lt (show p + 8 < bs.length by lia), get_lt (show p + 12 < bs.length by lia), List.filterMap_nil]
theorem turn4 {bs : List Int} (h : bs.length = 16) : turn bs 4 4 = [bs.getD 0 0, bs.getD 4 0, bs.getD 8 0, bs.getD 12 0, bs.getD 1 0, bs.getD 5 0, bs.getD 9 0, bs.getD 13 0, bs.getD 2 0, bs.getD 6 0, bs.getD 10 0, bs.getD 14 0, bs.getD 3 0, bs.getD 7 0, bs.getD 11 0, bs.getD 15 0] := by
  show strideL bs 0 4 ++ (strideL bs 1 4 ++ (strideL bs 2 4 ++ (strideL bs 3 4 ++ []))) = _
  rw [stride4 h (by decide), stride4 h (by decide), stride4 h (by decide), stride4 h (by decide)]; rfl
theorem four_turn (a : Int) : turn (dc 4 a) 4 4 = dc 4 a := by rw [turn4 (by simp [dc])]; rfl
theorem ev_dc (a : Int) : ev a 0 0 0 = List.replicate 4 (a * 8192) := by
  have e : (2 : Int) ^ (13 : Int).toNat = 8192 := by decide
  simp only [ev, e, List.replicate, Int.add_zero, Int.sub_zero, Int.zero_mul]
theorem dsc11 (a : Int) : dsc 11 (a * 8192) = 4 * a := by unfold dsc; simp only [show ((11 : Int) - 1).toNat = 10 from rfl, show (11 : Int).toNat = 11 from rfl]; lia
theorem dsc17 (a : Int) : dsc 17 (4 * a * 8192) = (a + 2) / 4 := by unfold dsc; simp only [show ((17 : Int) - 1).toNat = 16 from rfl, show (17 : Int).toNat = 17 from rfl]; lia
theorem four_mid (a : Int) : pass (dc 4 a) 11 4 = List.replicate 4 (4 * a) ++ List.replicate 12 0 := by
  have h0 : passR (dc 4 a) 11 0 = List.replicate 4 (4 * a) := by
    show (ev a 0 0 0).map (dsc 11) = _
    rw [ev_dc, List.map_replicate, dsc11]
  have hz : (ev 0 0 0 0).map (dsc 11) = List.replicate 4 0 := by decide
  show passR (dc 4 a) 11 0 ++ ((ev 0 0 0 0).map (dsc 11) ++ ((ev 0 0 0 0).map (dsc 11) ++ ((ev 0 0 0 0).map (dsc 11) ++ []))) = _
  rw [h0, hz]; rfl
theorem four_turn2 (b : Int) : turn (List.replicate 4 b ++ List.replicate 12 0) 4 4 = [b, 0, 0, 0, b, 0, 0, 0, b, 0, 0, 0, b, 0, 0, 0] := by rw [turn4 (by simp)]; rfl
theorem four_dc (a : Int) : fourI (dc 4 a) = List.replicate 16 ((a + 2) / 4) := by
  unfold fourI
  rw [four_turn, four_mid, four_turn2]
  show (ev (4 * a) 0 0 0).map (dsc 17) ++ ((ev (4 * a) 0 0 0).map (dsc 17) ++ ((ev (4 * a) 0 0 0).map (dsc 17) ++ ((ev (4 * a) 0 0 0).map (dsc 17) ++ []))) = _
  rw [ev_dc, List.map_replicate, dsc17]; rfl
theorem dsc1 (a : Int) : dsc 1 a = (a + 1) / 2 := by unfold dsc; rfl

theorem fn_inverse (S : Stat w K Hb) : Fn Hb 428 (scopeOf (stm 53)) (bodyOf (stm 53)) ["block", "n"] := Fn.of S 26 rfl rfl
theorem sp_inverse (S : Stat w K Hb) {b : Addr} {l : Nat} {c : Int} (hl : l = 4 ∨ l = 2 ∨ l = 1) (hb : IsL D b (intL (dc l c))) (hc : c.natAbs < 2 ^ 40) (hn : 3 ≤ n) : TC PG w Hb n (.ref 428) [.ref b, vi l] D (NewL (List.replicate (l * l) (idc l c)) D) := by
  refine TC.down hn fun n hn1 => ?_
  refine TC_def (fn_inverse S) rfl (TS_cons (T1_ret ?_))
  rcases hl with rfl | rfl | rfl
  · have M := S.met (C := 351) (x := "inverse") (f := 348) rfl
    refine TE_meth S.k (TE_gcall S rfl rfl (TEs_cons (TE_name rfl (TEs_nil ?_))))
    refine TC.newI (sp_picked S (.inl ⟨rfl, rfl⟩) hn1) fun x D1 l1 hI => ?_
    refine ⟨x, 351, _, 348, rfl, hI, M.1, M.2.1, M.2.2.1, M.2.2.2, rfl, TEs_cons (TE_name rfl (TEs_nil ?_))⟩
    have hbig : ∀ x, ∀ uu : x ∈ dc 4 c, x.natAbs < 2 ^ 60 := fun x hx => by
      rcases List.mem_cons.mp hx with rfl | hx
      · (exact Nat.lt_of_lt_of_le (by assumption) (by decide))
      · rw [(List.mem_replicate.mp hx).2]; decide
    have h0 : (0 : Int).natAbs < 2 ^ 60 := by decide
    have h4 : (4 * c).natAbs < 2 ^ 60 := by lia
    have n4 : ∀ {l : List Int}, ∀ uu : (∀ x, ∀ uu : x ∈ l, x.natAbs < 2 ^ 60), ∀ x, ∀ uu : x ∈ (4 * c) :: 0 :: 0 :: 0 :: l, x.natAbs < 2 ^ 60 := fun h =>
      List.forall_mem_cons.mpr ⟨h4, List.forall_mem_cons.mpr ⟨h0, List.forall_mem_cons.mpr ⟨h0, List.forall_mem_cons.mpr ⟨h0, h⟩⟩⟩⟩
    have := sp_four S (x := x) (hb.le l1) (by simp [dc]) (by rw [four_turn]; simp [dc]) (by rw [four_turn, four_mid, four_turn2]; rfl) (by rw [four_turn]; exact hbig) (by
      rw [four_turn, four_mid, four_turn2]
      exact n4 (n4 (n4 (n4 (fun uu h => nomatch h))))) hn1
    rw [four_dc] at this
    exact this.mono fun v D2 ⟨a, e, l2, hA⟩ => ⟨a, e, l1.trans l2, hA⟩
  · have M := S.met (C := 382) (x := "inverse") (f := 372) rfl
    refine TE_meth S.k (TE_gcall S rfl rfl (TEs_cons (TE_name rfl (TEs_nil ?_))))
    refine TC.newI (sp_picked S (.inr (.inl ⟨rfl, rfl⟩)) hn1) fun x D1 l1 hI => ?_
    refine ⟨x, 382, _, 372, rfl, hI, M.1, M.2.1, M.2.2.1, M.2.2.2, rfl, TEs_cons (TE_name rfl (TEs_nil ?_))⟩
    refine TC.newL (sp_two S hI rfl (hb.le l1) hn1) fun a D2 l2 hA => ?_
    refine ⟨a, rfl, l1.trans l2, ?_⟩
    have e4 : [c + 0 + 0 + 0, c - 0 + 0 - 0, c + 0 - 0 - 0, c - 0 - 0 + 0].map (dsc 1) = List.replicate (2 * 2) (idc 2 c) := by
      simp only [Int.add_zero, Int.sub_zero]
      show [dsc 1 c, dsc 1 c, dsc 1 c, dsc 1 c] = _
      rw [dsc1]; rfl
    rw [← e4]; exact hA
  · have M := S.met (C := 410) (x := "inverse") (f := 407) rfl
    refine TE_meth S.k (TE_gcall S rfl rfl (TEs_cons (TE_name rfl (TEs_nil ?_))))
    refine TC.newI (sp_picked S (.inr (.inr ⟨rfl, rfl⟩)) hn1) fun x D1 l1 hI => ?_
    refine ⟨x, 410, _, 407, rfl, hI, M.1, M.2.1, M.2.2.1, M.2.2.2, rfl, TEs_cons (TE_name rfl (TEs_nil ?_))⟩
    exact (sp_one S (hb.le l1) (by (exact Nat.le_of_lt (by assumption)))).mono fun v D2 ⟨a, e, l2, hA⟩ => ⟨a, e, l1.trans l2, hA⟩
end

section
variable {w : World} {K : Frag} {Hb : Heap} {n : Nat} {D : DH}

theorem zz1 : zz 1 = [0] := by decide
theorem zz2 : zz 2 = [0, 1, 2, 3] := by decide
theorem zz4 : zz 4 = [0, 1, 4, 8, 5, 2, 3, 6, 9, 12, 13, 10, 7, 11, 14, 15] := by decide
structure ZOk (s : Nat) : Prop where
  sz : 1 ≤ s ∧ s ≤ 7
  len : (zz s).length = s * s
  at' : ∀ i, ∀ uu : i ∈ zz s, 0 ≤ i ∧ i < ((s * s : Nat) : Int)
  tb : ∀ c, tb s (dc s c) (s * s) = dc s c
  row : ∀ c, (zz s).map (fun i => (dc s c).getD i.toNat 0) = dc s c
theorem zok1 : ZOk 1 := ⟨by decide, by rw [zz1]; rfl, by rw [zz1]; decide, fun c => by unfold tb; rw [zz1]; rfl, fun c => by rw [zz1]; rfl⟩
theorem zok2 : ZOk 2 := ⟨by decide, by rw [zz2]; rfl, by rw [zz2]; decide, fun c => by unfold tb; rw [zz2]; rfl, fun c => by rw [zz2]; rfl⟩
theorem zok4 : ZOk 4 := ⟨by decide, by rw [zz4]; rfl, by rw [zz4]; decide, fun c => by unfold tb; rw [zz4]; rfl, fun c => by rw [zz4]; rfl⟩
theorem dc_len (l : Nat) (c : Int) (h : 1 ≤ l) : (dc l c).length = l * l := by
  have : 1 * 1 ≤ l * l := Nat.mul_le_mul h h
  simp [dc]; omega

-- the sides that the law tries: the frame's, a smaller one
structure Sides (s l : Nat) : Prop where
  zs : ZOk s
  zl : ZOk l
  hl : l = 4 ∨ l = 2 ∨ l = 1
  hs : s = 4 ∨ s = 2
  le : l ≤ s
  cut : ∀ c, cutTo s (dc s c) l l = dc l c
  dv : 8 * (l : Int) % s = 0
theorem sides_of {s l : Nat} (hs : s = 4 ∨ s = 2) (hl : l = 4 ∨ l = 2 ∨ l = 1) (h : l ≤ s) : Sides s l := by
  rcases hs with rfl | rfl <;> rcases hl with rfl | rfl | rfl
  · exact ⟨zok4, zok4, by decide, by decide, h, fun c => rfl, rfl⟩
  · exact ⟨zok4, zok2, by decide, by decide, h, fun c => rfl, rfl⟩
  · exact ⟨zok4, zok1, by decide, by decide, h, fun c => rfl, rfl⟩
  · lia
  · exact ⟨zok2, zok2, by decide, by decide, h, fun c => rfl, rfl⟩
  · exact ⟨zok2, zok1, by decide, by decide, h, fun c => rfl, rfl⟩

noncomputable def samp (s l : Nat) (c : Int) : Int := (idc l (c * (8 * (l : Int) / s)) + 8 / 2) / 2 ^ (3 : Int).toNat

theorem dc_map (l : Nat) (c t : Int) : (dc l c).map (fun x => x * t) = dc l (c * t) := by simp [dc, List.map_replicate]

theorem fn_scaled_samples (S : Stat w K Hb) : Fn Hb 691 (scopeOf (stm 63)) (bodyOf (stm 63)) ["row", "n", "less"] := Fn.of S 33 rfl rfl
inductive SampP (s : Nat) (l : Nat) (c : Int) (D : DH) (v : Value) (D' : DH) : Prop
  | mk : ∀ a, ∀ uu : v = .ref a, ∀ uu : D a = none, ∀ uu : Le D D', ∀ uu : IsL D' a (intL (List.replicate (l * l) (samp s l c))), SampP s l c D v D'
theorem TC.samp {s : Nat} {l : Nat} {c : Int} {f : Value} {args : List Value} {Q : ∀ uu : Value, ∀ uu : DH, Prop} (h : TC PG w Hb n f args D (SampP s l c D)) (k : ∀ (a : Addr) D', ∀ uu : D a = none, ∀ uu : Le D D', ∀ uu : IsL D' a (intL (List.replicate (l * l) (samp s l c))), Q (.ref a) D') : TC PG w Hb n f args D Q := h.mono fun uu uu q => by
  obtain ⟨a, rfl, q0, q1, q2⟩ := q
  exact k _ _ q0 q1 q2
theorem sp_scaled_samples (S : Stat w K Hb) {r : Addr} {s l : Nat} {c : Int} (h : Sides s l) (hr : IsL D r (intL (dc s c))) (hc : c.natAbs < 2 ^ 30) (hn : 5 ≤ n) : TC PG w Hb n (.ref 691) [.ref r, vi s, vi l] D (SampP s l c D) := by
  refine TC.down hn fun n hn1 => ?_
  have hs0 : 0 < (s : Int) ∧ (s : Int) < 2 ^ 60 := by rcases h.hs with e | e <;> (and_intros <;> (exact Int.ofNat_le.mpr (by lia)))
  have hl1 := h.zl.sz.1
  have ht : (8 * (l : Int) / s).natAbs ≤ 16 := by rcases h.hs with e | e <;> rcases h.hl with e2 | e2 | e2 <;> subst e <;> subst e2 <;> decide
  have ls : (zz s).length ≤ (dc s c).length := by rw [h.zs.len, dc_len _ _ h.zs.sz.1]; exact Nat.le_refl _
  refine TC_def (fn_scaled_samples S) rfl (TS_cons (T1_expr (TE_gcall S rfl rfl (TEs_cons (TE_name rfl (TEs_cons (TE_name rfl (TEs_nil ?_))))))))
  refine TC.pure (sp_check_side S hs0 (by rcases h.hl with e | e | e <;> lia) (by have := h.le; (exact Int.ofNat_le.mpr (by assumption))) h.dv (by lia)) fun D1 l1 => ?_
  refine TS_cons (T1_assign (.inr rfl) (TE_div (TE_mul (TE_gint S rfl rfl (TE_name rfl ⟨_, _, rfl, rfl, by left; decide, TE_name rfl ⟨_, _, rfl, rfl, hs0.1, by lia, ?_⟩⟩)))))
  refine TS_cons (T1_assign (.inl rfl) (TE_gcall S rfl rfl (TEs_cons (TE_gcall S rfl rfl (TEs_cons (TE_name rfl (TEs_cons (TE_name rfl (TEs_cons (TE_name rfl (TEs_nil ?_)))))))))))
  refine TC.newL (sp_corner S h.zs.sz ⟨hl1, h.le⟩ (hr.le l1) ls h.zs.at' h.zl.at' hn1) fun a D2 l2 hA => ?_
  rw [h.zs.len, h.zs.tb, h.cut, h.zl.row] at hA
  refine TEs_cons (TE_name rfl (TEs_nil ?_))
  refine TC.newL (sp_to_block S h.zl.sz hA (by rw [h.zl.len, dc_len _ _ hl1]; exact Nat.le_refl _) h.zl.at' (by (exact Nat.le_of_lt (by assumption)))) fun b D3 l3 hB => ?_
  rw [h.zl.len, h.zl.tb] at hB
  refine TS_cons (T1_assign (.inl rfl) (TE_gcall S rfl rfl (TEs_cons ?_)))
  refine TE_comp [("times", vi (8 * (l : Int) / s))] rfl (RLe.cons rfl RLe.nil) (TE_name rfl ⟨b, _, rfl, .seq (.inl hB), ?_, ?_⟩)
  · rw [intL_len, dc_len _ _ hl1]
    have : l * l ≤ 7 * 7 := Nat.mul_le_mul h.zl.sz.2 h.zl.sz.2
    unfold sizeLine; (exact Nat.le_trans (by assumption) (by decide))
  refine CompOf_map (fun i => (((dc l c)[i]?).map fun x => vi (x * (8 * (l : Int) / s))).getD .none) (fun i u D₂ hu lc => ⟨_, Asg_name rfl, ?_⟩) fun D4 lc p o' hp hL => ?_
  · unfold intL at hu
    rw [List.getElem?_map] at hu
    refine ex1_2 (Option.map_eq_some_iff.mp hu) fun z hz eR2 => ?_
    obtain rfl := eR2
    exact TE_mul (TE_name rfl (TE_name rfl ⟨_, _, rfl, rfl, by right; (exact Nat.lt_of_le_of_lt (by assumption) (by decide)), by rw [hz]; rfl, Le.refl _⟩))
  · rw [intL_len, range_map_get] at hL
    have e1 : (dc l c).map (fun x => vi (x * (8 * (l : Int) / s))) = intL (dc l (c * (8 * (l : Int) / s))) := by rw [← dc_map]; unfold intL; rw [List.map_map]; rfl
    rw [e1] at hL
    have l4 : Le D (put D4 p o') := (((l1.trans l2).trans l3).trans lc).trans (le_put hp)
    refine TEs_cons (TE_name rfl (TEs_nil ?_))
    refine (sp_inverse S h.hl hL ?_ (by lia)).mono fun v D5 hq4 => ?_
    · have : (c * (8 * (l : Int) / s)).natAbs ≤ c.natAbs * 16 := by rw [Int.natAbs_mul]; exact Nat.mul_le_mul_left _ ht
      lia
    obtain ⟨q, e, l5, hQ⟩ := hq4
    subst e
    refine TS_cons (T1_ret (TE_comp [] rfl RLe.nil (TE_name rfl ⟨q, _, rfl, .seq (.inl hQ), ?_, ?_⟩)))
    · rw [intL_len, List.length_replicate]
      have : l * l ≤ 7 * 7 := Nat.mul_le_mul h.zl.sz.2 h.zl.sz.2
      unfold sizeLine; (exact Nat.le_trans (by assumption) (by decide))
    generalize hx : idc l (c * (8 * (l : Int) / s)) = x at hQ
    have ex : samp s l c = (x + 8 / 2) / 2 ^ (3 : Int).toNat := by unfold samp; rw [hx]
    refine CompOf_map (fun i => (((List.replicate (l * l) x)[i]?).map fun x => vi ((x + 8 / 2) / 2 ^ (3 : Int).toNat)).getD .none) (fun i u D₂ hu lc => ⟨_, Asg_name rfl, ?_⟩) fun D6 l6 y o2 hy hY => ⟨y, rfl, (l4.trans (l5.trans l6)).none hy, (l4.trans (l5.trans l6)).trans (le_put hy), ?_⟩
    · unfold intL at hu
      rw [List.getElem?_map] at hu
      refine ex1_2 (Option.map_eq_some_iff.mp hu) fun z hz eR2 => ?_
      obtain rfl := eR2
      exact TE_shr (TE_add (TE_name rfl (TE_div (TE_gint S rfl rfl (TE_int ⟨_, _, rfl, rfl, by decide, by decide, ⟨_, _, rfl, rfl, TE_int ⟨_, _, rfl, rfl, by decide, by rw [hz]; rfl, Le.refl _⟩⟩⟩)))))
    · rw [intL_len, range_map_get] at hY
      have e2 : (List.replicate (l * l) x).map (fun x => vi ((x + 8 / 2) / 2 ^ (3 : Int).toNat)) = intL (List.replicate (l * l) (samp s l c)) := by rw [ex]; simp [intL, vi]
      rw [e2] at hY; exact hY

-- what the law expects of a block
theorem samp_eq {s l : Nat} (h : Sides s l) {f t : Int} (c : Int) (hc : c = f * (s * t)) : samp s l c = f * t := by
  subst hc
  unfold samp
  have e3 : (2 : Int) ^ (3 : Int).toNat = 8 := by decide
  rw [e3]
  have key : f * (s * t) * (8 * (l : Int) / s) = f * t * (8 * l) := by
    have : (s : Int) * (8 * (l : Int) / s) = 8 * l := Int.mul_ediv_cancel' (Int.dvd_of_emod_eq_zero h.dv)
    rw [show f * (s * t) * (8 * (l : Int) / s) = f * t * (s * (8 * (l : Int) / s)) by
      rw [Int.mul_assoc, Int.mul_assoc f t, Int.mul_comm (s : Int) t, Int.mul_assoc t], this]
  rw [key]
  generalize f * t = g
  rcases h.hl with e | e | e <;> subst e <;> unfold idc <;> simp <;> lia
end

section
variable {w : World} {K : Frag} {Hb : Heap} {n : Nat} {D : DH}

noncomputable def kp (a m : Nat) : Nat := min a (m - 1)
theorem keptI_nat {a m : Nat} (h : 1 ≤ m) : keptI (a : Int) (m : Int) = ((kp a m : Nat) : Int) := by
  unfold keptI kp
  rw [if_neg (by lia)]
  split <;> lia
-- a plane that stands, its numbers
inductive IsPlane (D : DH) (q : Addr) (W H : Nat) (f : ∀ uu : Nat, ∀ uu : Nat, Value) : Prop
  | mk : ∀ (rl : Addr) (rb : List Addr), ∀ uu : Inst D q 153 (planeF (vi W) (vi H) rl), ∀ uu : IsL D rl (rb.map Value.ref), ∀ uu : rb.length = H, ∀ uu : (∀ (y : Nat) (a : Addr), ∀ uu : rb[y]? = some a, IsL D a ((List.range W).map (f y))), IsPlane D q W H f
theorem IsPlane.le {D D' : DH} {q : Addr} {W H : Nat} {f : ∀ uu : Nat, ∀ uu : Nat, Value} (k : Le D D') (h : IsPlane D q W H f) : IsPlane D' q W H f :=
  let ⟨rl, rb, a, b, c, d⟩ := h; ⟨rl, rb, a.le k, b.le k, c, fun y a e => (d y a e).le k⟩
theorem range_get {W i : Nat} {f : ∀ uu : Nat, Value} (h : i < W) : ((List.range W).map f)[i]? = some (f i) := by rw [List.getElem?_map, List.getElem?_range h]; rfl

inductive NewP (W H : Nat) (f : ∀ uu : Nat, ∀ uu : Nat, Value) (D : DH) (v : Value) (D' : DH) : Prop
  | mk : ∀ q, ∀ uu : v = .ref q, ∀ uu : Le D D', ∀ uu : IsPlane D' q W H f, NewP W H f D v D'
theorem natdiv (x a b : Nat) : (x : Int) * (a : Int) / (b : Int) = ((x * a / b : Nat) : Int) := by rw [← Int.natCast_mul, Int.natCast_ediv]

-- a list that is put aside is another one
theorem keepL {D' : DH} {f b : Addr} {o : Obj} {us : List Value} (hne : b ≠ f) (h : IsL D' b us) : IsL (put D' f o) b us := let ⟨vs, m, z1, z2⟩ := h; ⟨vs, m, by rw [put_ne hne]; exact z1, z2⟩
theorem ne_fresh {D' : DH} {f b : Addr} {us : List Value} (hf : D' f = none) (h : IsL D' b us) : b ≠ f := (h.off hf).symm

theorem fn_repeated (S : Stat w K Hb) : Fn Hb 703 (scopeOf (stm 66)) (bodyOf (stm 66)) ["plane", "most_across", "own_across", "most_down", "own_down", "width", "height"] := Fn.of S 35 rfl rfl
inductive RepInv (ρ₀ : List (Str × Value)) (D : DH) (f cl : Addr) (W oa ma od md PH PW : Nat) (V : ∀ uu : Nat, ∀ uu : Nat, Value) (k : Nat) (ρ' : List (Str × Value)) (D' : DH) : Prop
  | mk : ∀ uu : ρ' = ρ₀, ∀ uu : Le D D', ∀ uu : IsL D' cl ((List.range W).map fun x => vi ((x * oa / ma : Nat) : Int)), ∀ ra : List Addr, ∀ uu : IsL D' f (ra.map Value.ref), ∀ uu : ra.length = k, ∀ uu : (∀ (i : Nat) (a : Addr), ∀ uu : ra[i]? = some a, a ≠ f ∧ IsL D' a ((List.range W).map fun x => V (kp (i * od / md) PH) (kp (x * oa / ma) PW))), RepInv ρ₀ D f cl W oa ma od md PH PW V k ρ' D'
theorem sp_repeated (S : Stat w K Hb) {pl : Addr} {ma oa md od W H PW PH : Nat} {V : ∀ uu : Nat, ∀ uu : Nat, Value} (hp : IsPlane D pl PW PH V) (h1 : 1 ≤ PW ∧ 1 ≤ PH) (h2 : 1 ≤ ma ∧ 1 ≤ md) (hb : ma < 2 ^ 20 ∧ md < 2 ^ 20 ∧ oa < 2 ^ 20 ∧ od < 2 ^ 20 ∧ W < 2 ^ 20 ∧ H < 2 ^ 20 ∧ PW < 2 ^ 20 ∧ PH < 2 ^ 20) (hn : 3 ≤ n) :
    TC PG w Hb n (.ref 703) [.ref pl, vi ma, vi oa, vi md, vi od, vi W, vi H] D (NewP W H (fun y x => V (kp (y * od / md) PH) (kp (x * oa / ma) PW)) D) := by
  refine TC.down hn fun n hn1 => ?_
  obtain ⟨rl, rb, hI, hL, hlen, hR⟩ := hp
  refine TC_def (fn_repeated S) rfl (TS_cons (T1_assign_comp [("most_across", vi ma), ("own_across", vi oa)] rfl rfl (RLe.cons rfl (RLe.cons rfl RLe.nil)) (TE_bcall S rfl rfl (TEs_cons (TE_name rfl (TEs_nil ?_)))) (by rintro ⟨⟩ rfl; rfl)))
  obtain ⟨s1, s2⟩ := range_small (b := (W : Int)) (by omega)
  refine TC_range1 fun rg o hrg hRg => ⟨rg, _, rfl, .range hRg s1 s2, by simp [sizeLine]; omega, ?_⟩
  have l0 := le_put (o := o) hrg
  refine CompOf_map (fun x => vi ((x * oa / ma : Nat) : Int)) (fun i u D₂ hu lc => ⟨_, Asg_name rfl, ?_⟩) fun D2 lc cl o2 hc hC => ?_
  · have hi : i < W := by have := (List.getElem?_eq_some_iff.mp hu).1; simpa using this
    rw [List.getElem?_map, List.getElem?_range (by simpa using hi)] at hu
    obtain rfl := (Option.some.inj hu).symm
    refine TE_div (TE_mul (TE_name rfl (TE_name rfl ⟨_, _, rfl, rfl, by right; omega, TE_name rfl ⟨_, _, rfl, rfl, by lia, by (clear hi lc l0 hRg hrg s2 s1 hR hlen hL hI hn hn1 h2 h1 S; omega), ?_, Le.refl _⟩⟩)))
    have e : (0 + (i : Int) * 1) = (i : Int) := by lia
    rw [e, natdiv]
  simp only [List.length_map, List.length_range, Int.toNat_natCast] at hC
  have l2 : Le D (put D2 cl o2) := (l0.trans lc).trans (le_put hc)
  refine TS_cons (T1_assign (.inl rfl) (TE_list (TEs_nil ⟨by simp, fun f D3 hf l3 hF uu => ?_⟩)))
  have hDf : D f = none := l2.none hf
  have hcf := ne_fresh hf hC
  have l03 := l2.trans l3
  refine TS_cons (T1_for_range (RepInv ([("rows", .ref f), ("columns", .ref cl), ("plane", .ref pl), ("most_across", vi ma), ("own_across", vi oa), ("most_down", vi md), ("own_down", vi od), ("width", vi W), ("height", vi H)] : List (Str × Value)) D f cl W oa ma od md PH PW V) (.inl rfl) ?_)
  obtain ⟨s3, s4⟩ := range_small (b := (H : Int)) (by omega)
  refine TE_bcall S rfl rfl (TEs_cons (TE_name rfl (TEs_nil (TC_range1 fun rg2 o3 hrg2 hR2 => ⟨rg2, _, _, _, D3, _, H, rfl, hR2, s3, by simpa using s4, le_put hrg2, RLe.cons rfl (RLe.cons rfl (RLe.cons rfl (RLe.cons rfl (RLe.cons rfl (RLe.cons rfl (RLe.cons rfl (RLe.cons rfl (RLe.cons rfl RLe.nil)))))))), ⟨rfl, l03, hC.le l3, [], hF, rfl, nofun⟩, fun y ρ' D' hy iv => ?_, fun ρ' D' iv => ?_⟩))))
  · obtain ⟨rfl, le, hC', ra, hF', hra, hrow⟩ := iv
    refine TS.abs fun QB1 kB1 => ?_
    have e : (0 + (y : Int) * 1) = (y : Int) := by lia
    rw [e]
    refine TS_cons (T1_assign (.inr rfl) (TE_div (TE_mul (TE_name rfl (TE_name rfl ⟨_, _, rfl, rfl, by right; (clear e hrow hra hF' hC' le hy hR2 hrg2 s4 s3 l03 hcf hDf hF l3 hf l2 hC hc lc l0 hRg hrg s2 s1 hR hlen hL hI hn hn1 h2 h1 S; omega), TE_name rfl ⟨_, _, rfl, rfl, by (exact Int.ofNat_le.mpr (by lia)), by (clear e hrow hra hF' hC' le hy hR2 hrg2 s4 s3 l03 hcf hDf hF l3 hf l2 hC hc lc l0 hRg hrg s2 s1 hR hlen hL hI hn hn1 h2 h1 S; omega), ?_⟩⟩)))))
    rw [natdiv]
    refine TS_cons (T1_expr (TE_append (TE_name rfl ⟨f, _, rfl, hF', ?_⟩)))
    refine TE_comp [("plane", .ref pl), ("line", vi ((y * od / md : Nat) : Int))] rfl (RLe.cons rfl (RLe.cons rfl RLe.nil)) (TE_name rfl ⟨cl, _, rfl, .seq (.inl hC'), by simp [sizeLine]; lia, ?_⟩)
    have hky : kp (y * od / md) PH < PH := by unfold kp; (clear e hrow hra hF' hC' le hy hR2 hrg2 s4 s3 l03 hcf hDf hF l3 hf l2 hC hc lc l0 hRg hrg s2 s1 hR hlen hL hI hn hn1 hb h2 S; omega)
    have hrb : rb[kp (y * od / md) PH]? = some rb[kp (y * od / md) PH] := List.getElem?_eq_getElem (by omega)
    refine CompOf_map (fun x => V (kp (y * od / md) PH) (kp (x * oa / ma) PW)) (fun i u D₂ hu lc2 => ⟨_, Asg_name rfl, ?_⟩) fun D4 l4 q o4 hq hQ => ?_
    · have hi : i < W := by have := (List.getElem?_eq_some_iff.mp hu).1; simpa using this
      rw [range_get hi] at hu
      obtain rfl := (Option.some.inj hu).symm
      have le2 := le.trans lc2
      have hkx : kp (i * oa / ma) PW < PW := by unfold kp; (clear le2 hi lc2 hrb hky e hrow hra hF' hC' le hy hR2 hrg2 s4 s3 l03 hcf hDf hF l3 hf l2 hC hc lc l0 hRg hrg s2 s1 hR hlen hL hI hn hn1 hb h2 S; omega)
      refine TE_mcall S rfl (hI.le le2) rfl rfl (TEs_cons (TE_name rfl (TEs_cons (TE_name rfl (TEs_nil ?_)))))
      refine (sp_at S (hI.le le2) (hL.le le2) ((hR _ _ hrb).le le2) (by rw [keptI_nat h1.2]; (and_intros <;> (exact Int.ofNat_le.mpr (by lia)))) (by rw [keptI_nat h1.1]; (clear le2 hi lc2 hrb hky e hrow hra hF' hC' le hy hR2 hrg2 s4 s3 l03 hcf hDf hF l3 hf l2 hC hc lc l0 hRg hrg s2 s1 hR hlen hL hI hn hn1 h2 h1 S; omega)) ?_ ?_ hn1).mono fun v D5 ⟨ev, l5⟩ => ⟨ev, l5⟩
      · rw [keptI_nat h1.2, Int.toNat_natCast, List.getElem?_map, hrb]; rfl
      · rw [keptI_nat h1.1, Int.toNat_natCast]; exact range_get hkx
    · simp only [List.length_map, List.length_range] at hQ
      have l5 := l4.trans (le_put (o := o4) hq)
      have hqf : f ≠ q := ne_fresh hq (hF'.le l4)
      refine ⟨_, hF'.le l5, by rw [List.length_map]; unfold sizeLine; lia, fun o' hL' => TS_nil (kB1 _ _ _ ⟨_, RLe.cons rfl (RLe.cons rfl (RLe.cons rfl (RLe.cons rfl (RLe.cons rfl (RLe.cons rfl (RLe.cons rfl (RLe.cons rfl (RLe.cons rfl RLe.nil)))))))), ⟨rfl, le_put' (le.trans l5) hDf, keepL hcf (hC'.le l5), ra ++ [q], by simpa using hL', by simp [hra], fun i a ha => ?_⟩⟩)⟩
      by_cases hlt : i < ra.length
      · rw [List.getElem?_append_left hlt] at ha
        obtain ⟨z1, z2⟩ := hrow i a ha
        exact ⟨z1, keepL z1 (z2.le l5)⟩
      · rw [List.getElem?_append_right (by lia)] at ha
        have hi0 : i - ra.length = 0 := by have := (List.getElem?_eq_some_iff.mp ha).1; simp at this; omega
        rw [hi0] at ha
        obtain rfl := (Option.some.inj ha).symm
        have : i = y := by (clear hL' hqf l5 hQ hq l4 hrb hky e hrow hF' hC' le hy hR2 hrg2 s4 s3 l03 hcf hDf hF l3 hf l2 hC hc lc l0 hRg hrg s2 s1 hR hlen hL hI hn hn1 hb h2 h1 S; lia)
        obtain rfl := this.symm
        exact ⟨Ne.symm hqf, keepL (Ne.symm hqf) hQ⟩
  · obtain ⟨rfl, le, hC', ra, hF', hra, hrow⟩ := iv
    refine TS_cons (T1_ret (TE_gcall S rfl rfl (TEs_cons (TE_name rfl (TEs_cons (TE_name rfl (TEs_cons (TE_name rfl (TEs_nil ?_)))))))))
    refine (sp_Plane S (by omega)).mono fun v D5 ⟨q, ev, l5, hI5⟩ => ⟨q, ev, le.trans l5, f, ra, hI5, hF'.le l5, hra, fun y a ha => (hrow y a ha).2.le l5⟩

theorem fn_grown (S : Stat w K Hb) : Fn Hb 698 (scopeOf (stm 65)) (bodyOf (stm 65)) ["plane", "across", "down", "width", "height", "fancy"] := Fn.of S 34 rfl rfl
theorem sp_grown (S : Stat w K Hb) {pl : Addr} {a d W H PW PH : Nat} {V : ∀ uu : Nat, ∀ uu : Nat, Value} (hp : IsPlane D pl PW PH V) (h1 : 1 ≤ PW ∧ 1 ≤ PH) (h2 : 1 ≤ a ∧ 1 ≤ d) (hb : a < 2 ^ 20 ∧ d < 2 ^ 20 ∧ W < 2 ^ 20 ∧ H < 2 ^ 20 ∧ PW < 2 ^ 20 ∧ PH < 2 ^ 20) (hn : 4 ≤ n) :
    TC PG w Hb n (.ref 698) [.ref pl, vi a, vi d, vi W, vi H, .bool false] D (NewP W H (fun y x => V (kp (y * 1 / d) PH) (kp (x * 1 / a) PW)) D) := by
  refine TC.down hn fun n hn1 => ?_
  refine TC_def (fn_grown S) rfl (TS_cons (T1_if (TB_bool (TAll_or (TB_lt (TE_name rfl (TE_int ⟨_, _, rfl, rfl, fun h => ?_, fun uu => ⟨fun uu => TAll_or (TB_lt (TE_name rfl (TE_int ⟨_, _, rfl, rfl, fun h => ?_, fun uu => ⟨fun uu => TAll_or_nil ⟨nFT, fun uu => TS_nil ?_⟩, nFT⟩⟩))), nFT⟩⟩)))))))
  · exfalso; lia
  · exfalso; lia
  refine TS_cons (T1_if (TB_bool (TAll_and (TB_val (TE_name rfl ⟨false, rfl, nofun, fun uu => ⟨nFT, fun uu => TS_nil ?_⟩⟩)))))
  refine TS_cons (T1_ret (TE_gcall S rfl rfl (TEs_cons (TE_name rfl (TEs_cons (TE_name rfl (TEs_cons (TE_int (TEs_cons (TE_name rfl (TEs_cons (TE_int (TEs_cons (TE_name rfl (TEs_cons (TE_name rfl (TEs_nil ?_)))))))))))))))))
  exact sp_repeated S (oa := 1) (od := 1) hp h1 h2 (by (and_intros <;> lia)) hn1

theorem fn_grown_to (S : Stat w K Hb) : Fn Hb 710 (scopeOf (stm 67)) (bodyOf (stm 67)) ["plane", "own_across", "most_across", "own_down", "most_down", "width", "height", "fancy"] := Fn.of S 36 rfl rfl
theorem sp_grown_to (S : Stat w K Hb) {pl : Addr} {ma oa md od W H PW PH : Nat} {V : ∀ uu : Nat, ∀ uu : Nat, Value} (hp : IsPlane D pl PW PH V) (h1 : 1 ≤ PW ∧ 1 ≤ PH) (h2 : 1 ≤ ma ∧ 1 ≤ md ∧ 1 ≤ oa ∧ 1 ≤ od) (hb : ma < 2 ^ 20 ∧ md < 2 ^ 20 ∧ oa < 2 ^ 20 ∧ od < 2 ^ 20 ∧ W < 2 ^ 20 ∧ H < 2 ^ 20 ∧ PW < 2 ^ 20 ∧ PH < 2 ^ 20) (hn : 5 ≤ n) :
    TC PG w Hb n (.ref 710) [.ref pl, vi oa, vi ma, vi od, vi md, vi W, vi H, .bool false] D (NewP W H (fun y x => V (kp (y * od / md) PH) (kp (x * oa / ma) PW)) D) := by
  refine TC.down hn fun n hn1 => ?_
  have other : TS PG w Hb n (scopeOf (stm 67)) ((bodyOf (stm 67)).drop 1) [("plane", .ref pl), ("own_across", vi oa), ("most_across", vi ma), ("own_down", vi od), ("most_down", vi md), ("width", vi W), ("height", vi H), ("fancy", .bool false)] D
      (fun fl uu D' => NewP W H (fun y x => V (kp (y * od / md) PH) (kp (x * oa / ma) PW)) D (match fl with | .ret v => v | _ => .none) D') := by
    refine TS_cons (T1_ret (TE_gcall S rfl rfl (TEs_cons (TE_name rfl (TEs_cons (TE_name rfl (TEs_cons (TE_name rfl (TEs_cons (TE_name rfl (TEs_cons (TE_name rfl (TEs_cons (TE_name rfl (TEs_cons (TE_name rfl (TEs_nil ?_)))))))))))))))))
    exact sp_repeated S hp h1 ⟨h2.1, h2.2.1⟩ hb (by (exact Nat.le_of_lt (by assumption)))
  refine TC_def (fn_grown_to S) rfl (TS_cons (T1_if (TB_bool (TAll_and (TB_eq (TE_mod (TE_name rfl (TE_name rfl ⟨_, _, rfl, rfl, by (exact Int.ofNat_le.mpr (by lia)), TE_int ⟨_, _, rfl, rfl, fun e1 => ⟨fun uu => TAll_and (TB_eq (TE_mod (TE_name rfl (TE_name rfl ⟨_, _, rfl, rfl, by (exact Int.ofNat_le.mpr (by lia)), TE_int ⟨_, _, rfl, rfl, fun e2 => ⟨fun uu => TAll_and_nil ⟨fun uu => ?_, nTF⟩, nTF⟩, fun e2 => ⟨nFT, fun uu => ⟨nFT, fun uu => TS_nil other⟩⟩⟩⟩)))), nTF⟩, fun e1 => ⟨nFT, fun uu => ⟨nFT, fun uu => TS_nil other⟩⟩⟩⟩))))))))
  have d1 : oa ∣ ma := Nat.dvd_of_mod_eq_zero (by lia)
  have d2 : od ∣ md := Nat.dvd_of_mod_eq_zero (by lia)
  obtain ⟨a, rfl⟩ := d1
  obtain ⟨d, rfl⟩ := d2
  have ea : ((oa * a : Nat) : Int) / (oa : Int) = (a : Int) := by rw [Int.natCast_mul]; exact Int.mul_ediv_cancel_left _ (by lia)
  have ed : ((od * d : Nat) : Int) / (od : Int) = (d : Int) := by rw [Int.natCast_mul]; exact Int.mul_ediv_cancel_left _ (by lia)
  have ha0 : 1 ≤ a ∧ a ≤ oa * a := by
    constructor
    · rcases Nat.eq_zero_or_pos a with z | z
      · subst z; (exact (by assumption : _ ∧ _).1)
      · exact z
    · exact Nat.le_mul_of_pos_left _ (by lia)
  have hd0 : 1 ≤ d ∧ d ≤ od * d := by
    constructor
    · rcases Nat.eq_zero_or_pos d with z | z
      · subst z; lia
      · exact z
    · exact Nat.le_mul_of_pos_left _ (by lia)
  refine TS_cons (T1_ret (TE_gcall S rfl rfl (TEs_cons (TE_name rfl (TEs_cons (TE_div (TE_name rfl (TE_name rfl ⟨_, _, rfl, rfl, by (exact Int.ofNat_le.mpr (by lia)), by (clear hd0 ha0 ed ea other h2 e2 e1 hn hn1 h1 hp S; omega), ?_⟩))))))))
  rw [ea]
  refine TEs_cons (TE_div (TE_name rfl (TE_name rfl ⟨_, _, rfl, rfl, by (exact Int.ofNat_le.mpr (by lia)), by (clear hd0 ha0 ed ea other h2 e2 e1 hn hn1 h1 hp S; omega), ?_⟩)))
  rw [ed]
  refine TEs_cons (TE_name rfl (TEs_cons (TE_name rfl (TEs_cons (TE_name rfl (TEs_nil ?_))))))
  refine (sp_grown S hp h1 ⟨ha0.1, hd0.1⟩ (by lia) hn1).mono fun v D' q => ?_
  have fe : (fun y x => V (kp (y * 1 / d) PH) (kp (x * 1 / a) PW)) = (fun y x => V (kp (y * od / (od * d)) PH) (kp (x * oa / (oa * a)) PW)) := by
    funext y x
    rw [Nat.mul_one, Nat.mul_one, Nat.mul_comm y od, Nat.mul_comm x oa, Nat.mul_div_mul_left _ _ (by lia), Nat.mul_div_mul_left _ _ (by lia)]
  rw [← fe]; exact q
end

section
variable {w : World} {K : Frag} {Hb : Heap} {n : Nat} {D : DH}

theorem TE_eqv {sc : Scope} {ρ : List (Str × Value)} {l r : Expr} {pos : Pos} {Q : ∀ uu : Value, ∀ uu : DH, Prop}
    (h : TE PG w Hb n sc l ρ D (fun x D₁ => TE PG w Hb n sc r ρ D₁ (fun y D₂ => ∃ a b, x = .int a 0 ∧ y = .int b 0 ∧ Q (.bool (a == b)) D₂))) : TE PG w Hb n sc (.Compare l [.Eq] [r] pos) ρ D Q := by
  intro A s X env a b c d j bi g
  refine wpAny_Compare1 (TE.seq h a b c d j bi g fun V D₁ s₁ q t => TE.seq q a b t.d t.x t.j bi g fun U D₂ s₂ q' t' => ?_) (bim _ rfl)
  refine ex2_3 (q') fun x y e1 e2 k => ?_
  try clear q'
  obtain ⟨t1, rfl⟩ := er_int e1
  obtain ⟨t2, rfl⟩ := er_int e2
  exact eq_int ⟨D₂, k, t.trans t'⟩

-- the geometry, in natural numbers
noncomputable def castC (cs : List (Nat × Nat)) : List (Int × Int) := cs.map fun c => ((c.1 : Int), (c.2 : Int))
structure GeoN (H W s MA MD : Nat) (cs : List (Nat × Nat)) : Prop where
  hW : 1 ≤ W ∧ W ≤ 11
  hH : 1 ≤ H ∧ H ≤ 11
  hs : s = 4 ∨ s = 2
  hc : ∀ c, ∀ uu : c ∈ cs, (1 ≤ c.1 ∧ c.1 ≤ 4) ∧ (1 ≤ c.2 ∧ c.2 ≤ 4)
  ma : MA ∈ cs.map (·.1) ∧ ∀ x, ∀ uu : x ∈ cs.map (·.1), x ≤ MA
  md : MD ∈ cs.map (·.2) ∧ ∀ x, ∀ uu : x ∈ cs.map (·.2), x ≤ MD
  len : 1 ≤ cs.length ∧ cs.length ≤ 4
theorem GeoN.geo {H W s MA MD : Nat} {cs : List (Nat × Nat)} (g : GeoN H W s MA MD cs) : Geo H W s MA MD (castC cs) := by
  refine ⟨by have := g.hW; (and_intros <;> lia), by have := g.hH; lia, by rcases g.hs with e | e <;> lia, fun c hc => ?_, ⟨?_, fun x hx => ?_⟩, ⟨?_, fun x hx => ?_⟩, by simpa [castC] using g.len⟩
  · refine ex1_2 (List.mem_map.mp hc) fun c' hc' eR2 => ?_
    obtain rfl := eR2
    have := g.hc c' hc'
    simp only; (and_intros <;> lia)
  · refine ex1_2 (List.mem_map.mp g.ma.1) fun c hc e => ?_
    simp only [castC, List.map_map, List.mem_map]
    exact ⟨c, hc, by simp [← e]⟩
  · simp only [castC, List.map_map, List.mem_map] at hx
    refine ex1_2 (hx) fun c hc eR2 => ?_
    try clear hx
    obtain rfl := eR2
    have := g.ma.2 c.1 (List.mem_map.mpr ⟨c, hc, rfl⟩)
    simp only [Function.comp]; (exact Int.ofNat_le.mpr (by assumption))
  · refine ex1_2 (List.mem_map.mp g.md.1) fun c hc e => ?_
    simp only [castC, List.map_map, List.mem_map]
    exact ⟨c, hc, by simp [← e]⟩
  · simp only [castC, List.map_map, List.mem_map] at hx
    refine ex1_2 (hx) fun c hc eR2 => ?_
    try clear hx
    obtain rfl := eR2
    have := g.md.2 c.2 (List.mem_map.mpr ⟨c, hc, rfl⟩)
    simp only [Function.comp]; (exact Int.ofNat_le.mpr (by assumption))
theorem GeoN.MA {H W s MA MD : Nat} {cs : List (Nat × Nat)} (g : GeoN H W s MA MD cs) : 1 ≤ MA ∧ MA ≤ 4 := by have := g.geo.MA; (and_intros <;> lia)
theorem GeoN.MD {H W s MA MD : Nat} {cs : List (Nat × Nat)} (g : GeoN H W s MA MD cs) : 1 ≤ MD ∧ MD ≤ 4 := by have := g.geo.MD; (and_intros <;> lia)
theorem castC_get {cs : List (Nat × Nat)} {p : Nat} {c : Nat × Nat} (h : cs[p]? = some c) : (castC cs)[p]? = some ((c.1 : Int), (c.2 : Int)) := by unfold castC; rw [List.getElem?_map, h]; rfl
noncomputable def ptN (a b : Nat) : Nat := (a + b - 1) / b
theorem ptN_pl {x s : Nat} (hs : 1 ≤ s) (hx : 1 ≤ x) : 1 ≤ ptN x s ∧ ptN x s ≤ x := by
  unfold ptN
  refine ⟨(Nat.le_div_iff_mul_le hs).mpr (by lia), ?_⟩
  rw [Nat.div_le_iff_le_mul_add_pred hs]
  have : x ≤ s * x := Nat.le_mul_of_pos_left _ hs
  omega
theorem s_pos {s : Nat} (hs : s = 4 ∨ s = 2) : 1 ≤ s := by lia
theorem o_bd {o : Nat} (ho : o = 4 ∨ o = 2 ∨ o = 1) : 1 ≤ o ∧ o ≤ 4 := by (and_intros <;> lia)
theorem ptN_bd {s o a : Nat} (hs : s = 4 ∨ s = 2) (ho : o = 4 ∨ o = 2 ∨ o = 1) (ha : 1 ≤ a ∧ a ≤ 44) : ptN a s ≤ 48 ∧ ptN (a * o) s ≤ 176 ∧ 1 ≤ ptN (a * o) s := by
  have b := o_bd ho
  have u := ptN_pl (s_pos hs) ha.1
  have v := ptN_pl (s_pos hs) (x := a * o) (Nat.mul_le_mul ha.1 b.1)
  exact ⟨Nat.le_trans u.2 (Nat.le_trans ha.2 (by decide)), Nat.le_trans v.2 (Nat.mul_le_mul ha.2 b.2), v.1⟩
theorem ptN_bw {s o a : Nat} (hs : s = 4 ∨ s = 2) (ho : o = 4 ∨ o = 2 ∨ o = 1) (ha : 1 ≤ a ∧ a ≤ 11) : ptN (a * o) s ≤ 44 := by
  have b := o_bd ho
  exact Nat.le_trans (ptN_pl (s_pos hs) (x := a * o) (Nat.mul_le_mul ha.1 b.1)).2 (Nat.mul_le_mul ha.2 b.2)
theorem pt_nat {a b : Nat} (h : 1 ≤ b) : pt (a : Int) (b : Int) = ((ptN a b : Nat) : Int) := by
  unfold pt ptN
  have : (a : Int) + b - 1 = ((a + b - 1 : Nat) : Int) := by lia
  rw [this, Int.natCast_ediv]

section
variable {fr : Addr} {H W s MA MD : Nat} {cs : List (Nat × Nat)}

theorem fn_scaled_size (S : Stat w K Hb) : Fn Hb 736 (scopeOf (stm 72)) (bodyOf (stm 72)) ["frame", "less"] := Fn.of S 37 rfl rfl
theorem sp_scaled_size (S : Stat w K Hb) {l : Nat} (hf : IsFr D fr H W s (castC cs)) (g : GeoN H W s MA MD cs) (hl : l ≤ 4) (hn : 2 ≤ n) : TC PG w Hb n (.ref 736) [.ref fr, vi l] D (Tup2 (ptN (W * l) s : Nat) (ptN (H * l) s : Nat) D) := by
  refine TC.down hn fun n hn1 => ?_
  obtain ⟨cl, us, hI, _⟩ := hf
  have hs : 0 < (s : Int) ∧ (s : Int) < 2 ^ 62 := by rcases g.hs with e | e <;> (and_intros <;> (exact Int.ofNat_le.mpr (by lia)))
  refine TC_def (fn_scaled_size S) rfl (TS_cons (T1_ret (TE_tuple (TEs_cons ?_))))
  refine TE_gcall S rfl rfl (TEs_cons (TE_mul (TE_at S rfl hI rfl rfl rfl (TE_name rfl ⟨_, _, rfl, rfl, by right; (exact Nat.lt_of_le_of_lt (by assumption) (by decide)), TEs_cons (TE_at S rfl hI rfl rfl rfl (TEs_nil ?_))⟩))))
  refine TC.pure (sp_parts S hs.1 hs.2 hn1) fun D1 l1 => ?_
  refine TEs_cons ?_
  refine TE_gcall S rfl rfl (TEs_cons (TE_mul (TE_at S rfl (hI.le l1) rfl rfl rfl (TE_name rfl ⟨_, _, rfl, rfl, by right; omega, TEs_cons (TE_at S rfl (hI.le l1) rfl rfl rfl (TEs_nil ?_))⟩))))
  refine TC.pure (sp_parts S hs.1 hs.2 hn1) fun D2 l2 => ?_
  refine TEs_nil ⟨by simp [sizeLine], fun t D3 ht l3 hT uu => ⟨t, rfl, (l1.trans l2).trans l3, ?_⟩⟩
  have e1 : ((W : Int) * (l : Int) + s - 1) / s = ((ptN (W * l) s : Nat) : Int) := by rw [← pt_nat (by rcases g.hs with e | e <;> lia), Int.natCast_mul]; rfl
  have e2 : ((H : Int) * (l : Int) + s - 1) / s = ((ptN (H * l) s : Nat) : Int) := by rw [← pt_nat (by rcases g.hs with e | e <;> lia), Int.natCast_mul]; rfl
  rw [← e1, ← e2]; exact hT

theorem fn_fits (S : Stat w K Hb) : Fn Hb 750 (scopeOf (stm 74)) (bodyOf (stm 74)) ["wanted", "told"] := Fn.of S 39 rfl rfl
theorem sp_fits (S : Stat w K Hb) {a b : Nat} (hb : 1 ≤ b) (hn : 1 ≤ n) : TC PG w Hb n (.ref 750) [vi a, vi b] D (Pure (.bool (decide (a % (2 * b) = 0))) D) := by
  refine TC.down hn fun n hn1 => ?_
  refine TC_def (fn_fits S) rfl (TS_cons (T1_ret (TE_eqv (TE_mod (TE_name rfl (TE_mul (TE_int (TE_name rfl ⟨_, _, rfl, rfl, by left; decide, ⟨_, _, rfl, rfl, by lia, TE_int ⟨_, _, rfl, rfl, ?_, Le.refl _⟩⟩⟩))))))))
  have e : (a : Int) % (2 * (b : Int)) = ((a % (2 * b) : Nat) : Int) := by rw [Int.natCast_emod, Int.natCast_mul]; rfl
  rw [e]
  by_cases h : a % (2 * b) = 0
  · rw [decide_eq_true h, h]; rfl
  · rw [decide_eq_false h]
    have : (((a % (2 * b) : Nat) : Int) == 0) = false := by rw [beq_eq_false_iff_ne]; lia
    rw [this]

-- the side at which a component is made
noncomputable def sd (s l MA MD : Nat) (c : Nat × Nat) : ∀ uu : Nat, ∀ uu : Nat, Nat
  | 0, side => side
  | k + 1, side => if side * 2 ≤ s ∧ MA * l % (2 * (c.1 * side)) = 0 ∧ MD * l % (2 * (c.2 * side)) = 0 then sd s l MA MD c k (side * 2) else side
theorem fn_side_of (S : Stat w K Hb) : Fn Hb 743 (scopeOf (stm 73)) (bodyOf (stm 73)) ["frame", "place", "less"] := Fn.of S 38 rfl rfl
theorem sp_side_of (S : Stat w K Hb) {l p : Nat} {c : Nat × Nat} (hf : IsFr D fr H W s (castC cs)) (g : GeoN H W s MA MD cs) (hc : cs[p]? = some c) (hl : 1 ≤ l ∧ l ≤ 4) (hn : 2 ≤ n) : TC PG w Hb n (.ref 743) [.ref fr, vi p, vi l] D (Pure (vi (sd s l MA MD c 3 l)) D) := by
  refine TC.down hn fun n hn1 => ?_
  have hA := g.MA
  have hB := g.MD
  have hcc := g.hc c (List.mem_of_getElem? hc)
  have hp : p < cs.length := (List.getElem?_eq_some_iff.mp hc).1
  have hl4 := g.len
  have hs4 : s ≤ 4 := by rcases g.hs with e | e <;> lia
  have hI := hf
  obtain ⟨cl, us, hI, hL, hlen, hC⟩ := hI
  have hlt : p < us.length := by rw [hlen]; simpa [castC] using hp
  refine ex4_3 (hC p us[p] (List.getElem?_eq_getElem hlt)) fun x id q c' e hc' hX => ?_
  rw [castC_get hc] at hc'; obtain rfl := (Option.some.inj hc').symm
  refine TC_def (fn_side_of S) rfl (TS_cons (T1_assign (.inl rfl) ?_))
  refine TE_item (TE_at S rfl hI rfl rfl rfl (TE_name rfl ⟨cl, us, p, us[p], rfl, .inl hL, rfl, by (constructor <;> intro hZ <;> omega), by (exact Int.ofNat_le.mpr (by lia)), by simpa using List.getElem?_eq_getElem hlt, ?_⟩))
  rw [e]
  refine TS_cons (T1_assign (.inl rfl) (TE_name rfl ?_))
  refine TS_cons (T1_while (fun m ρ' D' => ∃ side : Nat, ρ' = ([("side", vi side), ("component", .ref x), ("frame", .ref fr), ("place", vi p), ("less", vi l)] : List (Str × Value)) ∧ Le D D' ∧ 1 ≤ side ∧ side ≤ 64 ∧ (∀ uu : m = 0, 8 ≤ side) ∧ (∀ uu : m = 1, 4 ≤ side) ∧ (∀ uu : m = 2, 2 ≤ side) ∧ m ≤ 3 ∧ sd s l MA MD c 3 l = sd s l MA MD c m side) 3 _
    (RLe.cons rfl (RLe.cons rfl (RLe.cons rfl (RLe.cons rfl (RLe.cons rfl RLe.nil))))) ⟨l, rfl, Le.refl _, by (exact (by assumption : _ ∧ _).1), by lia, by lia, by lia, by lia, by (constructor <;> intro hZ <;> omega), rfl⟩ fun m ρ' D' iv => ?_)
  refine ex1_9 (iv) fun side eR1 le h1 h64 m0 m1 m2 m3 hsd => ?_
  try clear iv
  obtain rfl := eR1
  have out : ∀ uu : (¬ (side * 2 ≤ s ∧ MA * l % (2 * (c.1 * side)) = 0 ∧ MD * l % (2 * (c.2 * side)) = 0)), sd s l MA MD c 3 l = side := fun h => by
    rw [hsd]; cases m with
    | zero => rfl
    | succ m => unfold sd; rw [if_neg h]
  have b1 : 1 ≤ c.1 * side := Nat.mul_le_mul hcc.1.1 h1
  have b2 : 1 ≤ c.2 * side := Nat.mul_le_mul hcc.2.1 h1
  have fin : ∀ {D2 : DH}, ∀ uu : Le D D2, ∀ uu : sd s l MA MD c 3 l = side, TS PG w Hb n (scopeOf (stm 73)) ((bodyOf (stm 73)).drop 3) [("side", vi side), ("component", .ref x), ("frame", .ref fr), ("place", vi p), ("less", vi l)] D2 (fun fl uu D' => Pure (vi (sd s l MA MD c 3 l)) D (match fl with | .ret v => v | _ => .none) D') := fun {D2} l2 h => by
    exact TS_cons (T1_ret (TE_name rfl ⟨by rw [h], l2⟩))
  refine TB_bool (TAll_and (TB_le (TE_mul (TE_name rfl (TE_int ⟨_, _, rfl, rfl, by right; decide, TE_at S rfl (hI.le le) rfl rfl rfl ⟨_, _, rfl, rfl, fun hle => ⟨fun uu => TAll_and (TB_val ?_), nTF⟩, fun hle => ⟨nFT, fun uu => ⟨nFT, fun uu => fin le (out fun q => hle (by lia))⟩⟩⟩⟩)))))
  refine TE_gcall S rfl rfl (TEs_cons (TE_mul (TE_mcall S rfl (hI.le le) rfl rfl (TEs_nil ?_))))
  refine TC.pure (sp_most_across S (hf.le le) g.geo.sl g.geo.ma hn1) fun D1 l1 => ?_
  have le1 := le.trans l1
  refine TE_name rfl ⟨_, _, rfl, rfl, by right; (clear le1 l1 hle fin b2 b1 out hsd m3 m2 m1 m0 h64 h1 le hX e hlt hC hlen hL hI hs4 hl4 hp hcc hB hA hn hn1 hc g hf S; omega), TEs_cons (TE_mul (TE_at S rfl (hX.le le1) rfl rfl rfl (TE_name rfl ⟨_, _, rfl, rfl, by right; (clear le1 l1 hle fin b2 b1 out hsd m3 m2 m1 m0 h1 le hX e hlt hC hlen hL hI hs4 hl4 hp hcc hB hA hn hn1 hl hc g hf S; (exact Nat.lt_of_le_of_lt (by assumption) (by decide))), TEs_nil ?_⟩)))⟩
  rw [← Int.natCast_mul, ← Int.natCast_mul]
  refine TC.pure (sp_fits S b1 hn1) fun D2 l2 => ?_
  refine ⟨_, rfl, fun h2 => TAll_and_nil ⟨fun uu => ?_, nTF⟩, fun h2 => ⟨nFT, fun uu => fin (le1.trans l2) (out fun q => absurd q.2.1 (of_decide_eq_false h2))⟩⟩
  have le2 := le1.trans l2
  have h2' := of_decide_eq_true h2
  refine TS_cons (T1_if (TB_not (TB_val (TE_gcall S rfl rfl (TEs_cons (TE_mul (TE_mcall S rfl (hI.le le2) rfl rfl (TEs_nil ?_))))))))
  refine TC.pure (sp_most_down S (hf.le le2) g.geo.sl g.geo.md hn1) fun D3 l3 => ?_
  have le3 := le2.trans l3
  refine TE_name rfl ⟨_, _, rfl, rfl, by right; lia, TEs_cons (TE_mul (TE_at S rfl (hX.le le3) rfl rfl rfl (TE_name rfl ⟨_, _, rfl, rfl, by right; (exact Nat.lt_of_le_of_lt (by assumption) (by decide)), TEs_nil ?_⟩)))⟩
  rw [← Int.natCast_mul, ← Int.natCast_mul]
  refine (sp_fits S b2 hn1).mono fun v D4 ⟨ev, l4⟩ => ⟨_, ev, fun hh => ?_, fun hh => ?_⟩
  · have h3' := of_decide_eq_false (by simpa using hh)
    exact TS_cons (T1_ret (TE_name rfl ⟨by rw [out fun q => h3' q.2.2], le3.trans l4⟩))
  · have h3' := of_decide_eq_true (by simpa using hh)
    refine TS_nil (TS_cons (T1_assign (.inl rfl) (TE_mul (TE_name rfl (TE_int ⟨_, _, rfl, rfl, by right; decide, TS_nil ?_⟩)))))
    have hle' : side * 2 ≤ s := by lia
    cases m with
    | zero => exfalso; have := m0 rfl; lia
    | succ m =>
      refine ⟨m, _, by (constructor <;> intro hZ <;> omega), RLe.cons rfl (RLe.cons rfl (RLe.cons rfl (RLe.cons rfl (RLe.cons rfl RLe.nil)))), side * 2, rfl, le3.trans l4, by lia, by lia, by lia, by lia, by lia, by (exact Nat.le_of_lt (by assumption)), ?_⟩
      rw [hsd]
      show (if _ then _ else _) = _
      rw [if_pos ⟨hle', h2', h3'⟩]
end
end

section
variable {w : World} {K : Frag} {Hb : Heap} {n : Nat} {D : DH}

noncomputable def gridF (s : Nat) (gp : Addr) : List (Str × Value) := [("many", vi ((s * s : Nat) : Int)), ("planes", .ref gp)]
-- one plane of the grid: its rows, each cell a row of numbers with its first alone
inductive IsCells (D : DH) (s : Nat) (pm : Addr) (bx By : Nat) (G : ∀ uu : Nat, ∀ uu : Nat, Int) : Prop
  | mk : ∀ rs : List Addr, ∀ uu : IsL D pm (rs.map Value.ref), ∀ uu : (∀ y, ∀ uu : y < By, ∃ ra us, rs[y]? = some ra ∧ IsL D ra us ∧ ∀ x, ∀ uu : x < bx, ∃ la, us[x]? = some (.ref la) ∧ IsL D la (intL (dc s (G x y)))), IsCells D s pm bx By G
inductive IsGrid (D : DH) (gr : Addr) (s P : Nat) (bx By : ∀ uu : Nat, Nat) (G : ∀ uu : Nat, ∀ uu : Nat, ∀ uu : Nat, Int) : Prop
  | mk : ∀ (gp : Addr) (ps : List Addr), ∀ uu : Inst D gr 793 (gridF s gp), ∀ uu : IsL D gp (ps.map Value.ref), ∀ uu : (∀ p, ∀ uu : p < P, ∃ pm, ps[p]? = some pm ∧ IsCells D s pm (bx p) (By p) (G p)), IsGrid D gr s P bx By G
theorem IsCells.le {D D' : DH} {s : Nat} {pm : Addr} {bx By : Nat} {G : ∀ uu : Nat, ∀ uu : Nat, Int} (k : Le D D') (h : IsCells D s pm bx By G) : IsCells D' s pm bx By G := by
  obtain ⟨rs, a, b⟩ := h
  refine ⟨rs, a.le k, fun y hy => ?_⟩
  refine ex2_3 (b y hy) fun ra us h1 h2 h3 => ?_
  exact ⟨ra, us, h1, h2.le k, fun x hx => let ⟨la, e, f⟩ := h3 x hx; ⟨la, e, f.le k⟩⟩
theorem IsGrid.le {D D' : DH} {gr : Addr} {s P : Nat} {bx By : ∀ uu : Nat, Nat} {G : ∀ uu : Nat, ∀ uu : Nat, ∀ uu : Nat, Int} (k : Le D D') (h : IsGrid D gr s P bx By G) : IsGrid D' gr s P bx By G := by
  obtain ⟨gp, ps, a, b, c⟩ := h
  exact ⟨gp, ps, a.le k, b.le k, fun p hp => let ⟨pm, e, f⟩ := c p hp; ⟨pm, e, f.le k⟩⟩

theorem fn_get (S : Stat w K Hb) : Fn Hb 783 (scopeOf (met 78 1)) (bodyOf (met 78 1)) ["self", "place", "x", "y"] := Fn.of S 43 rfl rfl
theorem sp_get (S : Stat w K Hb) {gr gp pm ra la : Addr} {s p x y : Nat} {ps rs us : List Value} (hI : Inst D gr 793 (gridF s gp)) (hP : IsL D gp ps) (h1 : ps[p]? = some (.ref pm)) (hR : IsL D pm rs) (h2 : rs[y]? = some (.ref ra)) (hU : IsL D ra us) (h3 : us[x]? = some (.ref la))
    (hb : p < 2 ^ 20 ∧ x < 2 ^ 20 ∧ y < 2 ^ 20) (hn : 1 ≤ n) : TC PG w Hb n (.ref 783) [.ref gr, vi p, vi x, vi y] D (Pure (.ref la) D) := by
  refine TC.down hn fun n hn1 => ?_
  refine TC_def (fn_get S) rfl (TS_cons (T1_assign (.inl rfl) ?_))
  refine TE_item (TE_item (TE_item (TE_at S rfl hI rfl rfl rfl (TE_name rfl ⟨gp, ps, p, .ref pm, rfl, .inl hP, rfl, by (constructor <;> intro hZ <;> omega), by (exact Int.ofNat_le.mpr (by lia)), by simpa using h1, ?_⟩))))
  refine TE_name rfl ⟨pm, rs, y, .ref ra, rfl, .inl hR, rfl, by (exact Int.natCast_nonneg _), by (exact Int.ofNat_le.mpr (by lia)), by simpa using h2, ?_⟩
  refine TE_name rfl ⟨ra, us, x, .ref la, rfl, .inl hU, rfl, by lia, by (exact Int.ofNat_le.mpr (by lia)), by simpa using h3, ?_⟩
  refine TS_cons (T1_ret (TE_ifexp (TB_isNone (TE_name rfl (.inr ⟨⟨la, rfl⟩, nofun, fun uu => TE_name rfl Pure.refl⟩)))))

theorem ptN_blk {s o a y : Nat} (h : Sides s o) (hy : y < ptN a s) : y * o ≤ ptN (a * o) s := by
  unfold ptN at *
  rcases h.hs with e | e <;> rcases h.hl with e2 | e2 | e2 <;> subst e <;> subst e2 <;> lia
theorem ptN_in {s o a i : Nat} (h : Sides s o) (hi : i < ptN (a * o) s) : i / o < ptN a s := by
  unfold ptN at *
  rcases h.hs with e | e <;> rcases h.hl with e2 | e2 | e2 <;> subst e <;> subst e2 <;> lia

-- what stands in a row of the plane, up to block y, x
noncomputable def Mat (PW o : Nat) (val : ∀ uu : Nat, ∀ uu : Nat, Value) (y x i : Nat) : List Value := (List.range PW).map fun j => if i / o < y ∨ (i / o = y ∧ j / o < x) then val (j / o) (i / o) else vi 0
theorem Mat_len (PW o : Nat) (val : ∀ uu : Nat, ∀ uu : Nat, Value) (y x i : Nat) : (Mat PW o val y x i).length = PW := by simp [Mat]
theorem blk_iff {o P y i : Nat} (ho : 1 ≤ o) (hi : i < P) : (y * o ≤ i ∧ i < y * o + min o (P - y * o)) ↔ i / o = y := by
  rw [Nat.div_eq_iff ho]
  generalize y * o = z
  constructor <;> intro h <;> omega
theorem Mat_put {s o PW PH x y i : Nat} {val : ∀ uu : Nat, ∀ uu : Nat, Value} (h : Sides s o) (hi : i < PH) : putM (Mat PW o val y x) x y o (min o (PH - y * o)) (min o (PW - x * o)) (val x y) i = Mat PW o val y (x + 1) i := by
  have ho : 1 ≤ o := h.zl.sz.1
  have row := blk_iff (y := y) ho hi
  have col : ∀ j, ∀ uu : j < PW, ((x * o ≤ j ∧ j < x * o + min o (PW - x * o)) ↔ j / o = x) := fun j hj => blk_iff ho hj
  unfold putM
  by_cases q : i / o = y
  · rw [if_pos (row.mpr q)]
    apply List.ext_getElem?
    intro j
    unfold paint Mat
    rw [List.getElem?_mapIdx, List.getElem?_map, List.getElem?_map]
    by_cases hj : j < PW
    · rw [List.getElem?_range hj]
      simp only [Option.map_some, q, Nat.lt_irrefl, true_and, false_or, col j hj]
      by_cases c : j / o = x
      · simp [c]
      · have : (j / o < x + 1) ↔ (j / o < x) := by (constructor <;> intro hZ <;> lia)
        simp only [c, if_false, this]
    · rw [List.getElem?_eq_none (by simpa using hj)]; rfl
  · rw [if_neg (fun z => q (row.mp z))]
    unfold Mat
    refine List.map_congr_left fun j uu => ?_
    simp only [q, false_and, or_false]
theorem Mat_row {o PW bx : Nat} {val : ∀ uu : Nat, ∀ uu : Nat, Value} {y : Nat} (h : ∀ j, ∀ uu : j < PW, j / o < bx) (i : Nat) : Mat PW o val y bx i = Mat PW o val (y + 1) 0 i := by
  unfold Mat
  refine List.map_congr_left fun j hj => ?_
  have := h j (List.mem_range.mp hj)
  generalize j / o = jo at this ⊢
  generalize i / o = io
  have e : (io < y ∨ io = y ∧ jo < bx) ↔ (io < y + 1 ∨ io = y + 1 ∧ jo < 0) := by lia
  simp only [e]
theorem Mat_all {o PW By : Nat} {val : ∀ uu : Nat, ∀ uu : Nat, Value} {i : Nat} (h : i / o < By) : Mat PW o val By 0 i = (List.range PW).map fun j => val (j / o) (i / o) := by
  unfold Mat
  refine List.map_congr_left fun j uu => ?_
  simp [h]
theorem Mat_none {o PW : Nat} {val : ∀ uu : Nat, ∀ uu : Nat, Value} {i : Nat} : Mat PW o val 0 0 i = List.replicate PW (vi 0) := by
  unfold Mat
  simp only [Nat.not_lt_zero, false_or, and_false, if_false]
  rw [List.map_const']; simp

theorem prod_dc {s : Nat} (hs : 1 ≤ s) (c q : Int) : prodL (dc s c) (q :: List.replicate (s * s - 1) 7) = dc s (c * q) := by
  unfold prodL
  rw [dc_len _ _ hs]
  have h1 : 1 * 1 ≤ s * s := Nat.mul_le_mul hs hs
  apply List.ext_getElem?
  intro i
  by_cases hi : i < s * s
  · rw [List.getElem?_map, List.getElem?_range hi]
    cases i with
    | zero => rfl
    | succ i =>
      have e : ∀ a, (dc s a)[i + 1]? = some 0 := fun a => by
        show (List.replicate (s * s - 1) (0 : Int))[i]? = _
        rw [List.getElem?_replicate, if_pos (by omega)]
      rw [e]
      have e2 : (dc s c).getD (i + 1) 0 = 0 := by rw [List.getD, e]; rfl
      simp only [Option.map_some, e2, Int.zero_mul]
  · rw [List.getElem?_eq_none (by simpa using hi), List.getElem?_eq_none (by rw [dc_len _ _ hs]; omega)]

-- the number that a block shows
noncomputable def shown (s o : Nat) (c : Int) : Value := vi (clampI (samp s o c + 128) 255)

section
variable {fr : Addr} {H W s MA MD : Nat} {cs : List (Nat × Nat)}
theorem ptN_wd {W c MA : Nat} (hW : 1 ≤ W ∧ W ≤ 11) (hc : 1 ≤ c ∧ c ≤ 4) (hA : 1 ≤ MA) : 1 ≤ ptN (W * c) MA ∧ ptN (W * c) MA ≤ 44 := by
  have u := ptN_pl hA (x := W * c) (Nat.mul_le_mul hW.1 hc.1)
  exact ⟨u.1, Nat.le_trans u.2 (Nat.mul_le_mul hW.2 hc.2)⟩
theorem GeoN.wd {c : Nat × Nat} (g : GeoN H W s MA MD cs) (h : c ∈ cs) : 1 ≤ ptN (W * c.1) MA ∧ ptN (W * c.1) MA ≤ 44 ∧ 1 ≤ ptN (H * c.2) MD ∧ ptN (H * c.2) MD ≤ 44 :=
  have u := ptN_wd g.hW (g.hc c h).1 g.MA.1
  have v := ptN_wd g.hH (g.hc c h).2 g.MD.1
  ⟨u.1, u.2, v.1, v.2⟩

theorem fn_scaled_plane (S : Stat w K Hb) : Fn Hb 757 (scopeOf (stm 75)) (bodyOf (stm 75)) ["frame", "grid", "place", "qtable", "side"] := Fn.of S 40 rfl rfl
theorem sp_scaled_plane (S : Stat w K Hb) {gr qt pm gp : Addr} {p o wd ht : Nat} {q : Int} {c : Nat × Nat} {G : ∀ uu : Nat, ∀ uu : Nat, Int} {ps : List Addr} (hf : IsFr D fr H W s (castC cs)) (g : GeoN H W s MA MD cs) (hc : cs[p]? = some c) (hso : Sides s o) (hwd : wd = ptN (W * c.1) MA) (hht : ht = ptN (H * c.2) MD)
    (hGI : Inst D gr 793 (gridF s gp)) (hGP : IsL D gp (ps.map Value.ref)) (hpm : ps[p]? = some pm) (hG : IsCells D s pm (ptN wd s) (ptN ht s) G) (hq : IsT D qt (intL (q :: List.replicate (s * s - 1) 7))) (hqb : 0 ≤ q ∧ q ≤ 2 ^ 5) (hGb : ∀ x y, (G x y).natAbs < 2 ^ 20) (hn : 6 ≤ n) :
    TC PG w Hb n (.ref 757) [.ref fr, .ref gr, vi p, .ref qt, vi o] D (NewP (ptN (wd * o) s) (ptN (ht * o) s) (fun i j => shown s o (G (j / o) (i / o) * q)) D) := by
  refine TC.down hn fun n hn1 => ?_
  have hcm := List.mem_of_getElem? hc
  have hw := g.wd hcm
  rw [← hwd, ← hht] at hw
  have hA := g.MA
  have hB := g.MD
  have hp4 : p < cs.length := (List.getElem?_eq_some_iff.mp hc).1
  have hl4 := g.len
  have hs : s ≤ 4 ∧ 1 ≤ s := by rcases g.hs with e | e <;> (and_intros <;> lia)
  have ho : o ≤ 4 ∧ 1 ≤ o := by rcases hso.hl with e | e | e <;> lia
  obtain ⟨cl, us, hI, _⟩ := id hf
  have ci := castC_get hc
  have b1 : ptN wd s ≤ 48 ∧ ptN ht s ≤ 48 ∧ ptN (wd * o) s ≤ 176 ∧ ptN (ht * o) s ≤ 176 ∧ 1 ≤ ptN (wd * o) s ∧ 1 ≤ ptN (ht * o) s := by
    have u := ptN_bd g.hs hso.hl ⟨hw.1, hw.2.1⟩
    have v := ptN_bd g.hs hso.hl ⟨hw.2.2.1, hw.2.2.2⟩
    exact ⟨u.1, v.1, u.2.1, v.2.1, u.2.2, v.2.2⟩
  refine TC_def (fn_scaled_plane S) rfl (TS_cons (T1_unpack (xs := [(("width" : Str), _), (("height" : Str), _)]) rfl rfl ?_ (by intro _ _; rfl)))
  refine TE_mcall S rfl hI rfl rfl (TEs_cons (TE_name rfl (TEs_nil ?_)))
  refine TC.tup2 (sp_plane_size S hf g.geo ci (by lia)) fun t1 D1 l1 hT1 => ?_
  refine ⟨t1, _, rfl, .inr hT1, rfl, ?_⟩
  have ew : pt ((W : Int) * ((c.1 : Nat) : Int)) MA = (wd : Int) := by rw [← Int.natCast_mul, pt_nat hA.1, hwd]
  have eh : pt ((H : Int) * ((c.2 : Nat) : Int)) MD = (ht : Int) := by rw [← Int.natCast_mul, pt_nat hB.1, hht]
  refine TS_cons (T1_unpack (xs := [(("across" : Str), _), (("down" : Str), _)]) rfl rfl ?_ (by intro _ _; rfl))
  refine TE_mcall S rfl (hI.le l1) rfl rfl (TEs_cons (TE_name rfl (TEs_nil ?_)))
  refine TC.tup2 (sp_blocks S (hf.le l1) g.geo ci (by lia)) fun t2 D2 l2 hT2 => ?_
  refine ⟨t2, _, rfl, .inr hT2, rfl, ?_⟩
  have l12 := l1.trans l2
  have ebx : pt (pt ((W : Int) * ((c.1 : Nat) : Int)) MA) s = ((ptN wd s : Nat) : Int) := by rw [ew, pt_nat hs.2]
  have eby : pt (pt ((H : Int) * ((c.2 : Nat) : Int)) MD) s = ((ptN ht s : Nat) : Int) := by rw [eh, pt_nat hs.2]
  show TS PG w Hb n (scopeOf (stm 75)) _ [("down", vi (pt (pt ((H : Int) * ((c.2 : Nat) : Int)) MD) s)), ("across", vi (pt (pt ((W : Int) * ((c.1 : Nat) : Int)) MA) s)), ("height", vi (pt ((H : Int) * ((c.2 : Nat) : Int)) MD)), ("width", vi (pt ((W : Int) * ((c.1 : Nat) : Int)) MA)), ("frame", .ref fr), ("grid", .ref gr), ("place", vi p), ("qtable", .ref qt), ("side", vi o)] D2 _
  rw [ebx, eby, ew, eh]
  refine TS_cons (T1_swap (ys := ["centre", "most"]) rfl ?_ (by rintro ⟨⟩ rfl; rfl))
  refine TE_tuple (TEs_cons (TE_shl (TE_int (TE_sub (TE_at S rfl (hI.le l12) rfl rfl rfl (TE_int ⟨_, _, rfl, rfl, ⟨_, _, rfl, rfl, by decide, by decide, by decide, TEs_cons ?_⟩⟩))))))
  refine TE_sub (TE_shl (TE_int (TE_at S rfl (hI.le l12) rfl rfl rfl ⟨_, _, rfl, rfl, by decide, by decide, by decide, TE_int ⟨_, _, rfl, rfl, TEs_nil ⟨by simp [sizeLine], fun t3 D3 ht3 l3 hT3 uu => ⟨t3, _, rfl, .inr hT3, rfl, ?_⟩⟩⟩⟩)))
  have l13 := l12.trans l3
  refine TS_cons (T1_assign (.inl rfl) (TE_gcall S rfl rfl (TEs_cons (TE_gcall S rfl rfl (TEs_cons (TE_mul (TE_name rfl (TE_name rfl ⟨_, _, rfl, rfl, by right; (clear l13 hT3 l3 ht3 eby ebx l12 hT2 l2 eh ew hT1 l1 b1 ci hI hs hl4 hp4 hB hA hw hcm hn hn1 hGb hqb hq hG hpm hGP hGI hht hwd hso hc g hf S; omega), TEs_cons (TE_at S rfl (hI.le l13) rfl rfl rfl (TEs_nil ?_))⟩))))))))
  refine TC.pure (sp_parts S (by (exact Int.ofNat_le.mpr (by lia))) (by (exact Int.ofNat_le.mpr (by lia))) (by lia)) fun D4 l4 => ?_
  refine TEs_cons ?_
  have l14 := l13.trans l4
  refine TE_gcall S rfl rfl (TEs_cons (TE_mul (TE_name rfl (TE_name rfl ⟨_, _, rfl, rfl, by right; lia, TEs_cons (TE_at S rfl (hI.le l14) rfl rfl rfl (TEs_nil ?_))⟩))))
  refine TC.pure (sp_parts S (by lia) (by lia) (by lia)) fun D5 l5 => ?_
  refine TEs_cons (TE_int (TEs_nil ?_))
  have l15 := l14.trans l5
  have epw : ((wd : Int) * (o : Int) + s - 1) / s = ((ptN (wd * o) s : Nat) : Int) := by rw [← pt_nat hs.2, Int.natCast_mul]; rfl
  have eph : ((ht : Int) * (o : Int) + s - 1) / s = ((ptN (ht * o) s : Nat) : Int) := by rw [← pt_nat hs.2, Int.natCast_mul]; rfl
  rw [epw, eph]
  generalize hPW : ptN (wd * o) s = PW at b1 ⊢
  generalize hPH : ptN (ht * o) s = PH at b1 ⊢
  generalize hbx : ptN wd s = bx at b1 hG ⊢
  generalize hby : ptN ht s = By at b1 hG ⊢
  refine (sp_blank S (W := (PW : Int)) (H := (PH : Int)) (by (clear hG hby hbx hPH hPW eph epw l15 l5 l14 l4 l13 hT3 l3 ht3 eby ebx l12 hT2 l2 eh ew hT1 l1 ci hI ho hs hl4 hp4 hB hA hw hcm hn hn1 hGb hqb hq hpm hGP hGI hht hwd hso hc g hf S; (and_intros <;> (exact Int.ofNat_le.mpr (by lia))))) (by (clear hG hby hbx hPH hPW eph epw l15 l5 l14 l4 l13 hT3 l3 ht3 eby ebx l12 hT2 l2 eh ew hT1 l1 ci hI ho hs hl4 hp4 hB hA hw hcm hn hn1 hGb hqb hq hpm hGP hGI hht hwd hso hc g hf S; (and_intros <;> (exact Int.ofNat_le.mpr (by lia))))) (by lia)).mono fun v D6 hq1 => ?_
  obtain ⟨pl, rl, ra, rfl, l6, fra, nd, hra, hPI, hPL, hRw⟩ := hq1
  rw [Int.toNat_natCast] at hra hRw
  -- all that stood before is apart from the rows
  have l06 : Le D (del D6 ra) := le_del (l15.trans l6) fun a ha => l15.none (fra a ha)
  let val : ∀ uu : Nat, ∀ uu : Nat, Value := fun x y => shown s o (G x y * q)
  refine hide3 (fun y ρ' D' => ρ' = ([("plane", .ref pl), ("centre", vi 128), ("most", vi 255), ("down", vi By), ("across", vi bx), ("height", vi ht), ("width", vi wd), ("frame", .ref fr), ("grid", .ref gr), ("place", vi p), ("qtable", .ref qt), ("side", vi o)] : List (Str × Value)) ∧ Le (del D6 ra) D' ∧ Rows D' ra (Mat PW o val y 0)) fun Inv1 in1 out1 => ?_
  refine TS_cons (T1_for_range Inv1 (.inl rfl) ?_)
  obtain ⟨s1, s2⟩ := range_small (b := (By : Int)) (by (clear l06 hRw hPL hPI hra nd fra l6 hG hby hbx hPH hPW eph epw l15 l5 l14 l4 l13 hT3 l3 ht3 eby ebx l12 hT2 l2 eh ew hT1 l1 ci hI ho hs hl4 hp4 hB hA hw hcm hn hn1 hGb hqb hq hpm hGP hGI hht hwd hso hc g hf S; (and_intros <;> (exact Int.ofNat_le.mpr (by lia)))))
  refine TE_bcall S rfl rfl (TEs_cons (TE_name rfl (TEs_nil (TC_range1 fun rg o1 hrg hR => ⟨rg, _, _, _, D6, _, By, rfl, hR, s1, by simpa using s2, le_put hrg, RLe.cons rfl (RLe.cons rfl (RLe.cons rfl (RLe.cons rfl (RLe.cons rfl (RLe.cons rfl (RLe.cons rfl (RLe.cons rfl (RLe.cons rfl (RLe.cons rfl (RLe.cons rfl (RLe.cons rfl RLe.nil))))))))))), in1 ⟨rfl, del_le, hRw.congr fun i uu => Mat_none.symm⟩, fun y ρ' D' hy iv => ?_, fun ρ' D' iv => ?_⟩))))
  · refine ex0_3 (out1 iv) fun eR0 le rw0 => ?_
    try clear iv
    obtain rfl := eR0
    refine TS.abs fun QB1 kB1 => ?_
    have ey : (0 + (y : Int) * 1) = (y : Int) := by lia
    rw [ey]
    refine hide3 (fun x ρ' D' => ρ' = ([("y", vi y), ("plane", .ref pl), ("centre", vi 128), ("most", vi 255), ("down", vi By), ("across", vi bx), ("height", vi ht), ("width", vi wd), ("frame", .ref fr), ("grid", .ref gr), ("place", vi p), ("qtable", .ref qt), ("side", vi o)] : List (Str × Value)) ∧ Le (del D6 ra) D' ∧ Rows D' ra (Mat PW o val y x)) fun Inv2 in2 out2 => ?_
    refine TS_cons (T1_for_range Inv2 (.inl rfl) ?_)
    obtain ⟨s3, s4⟩ := range_small (b := (bx : Int)) (by (clear ey rw0 le hy hR hrg s2 s1 l06 hRw hPL hPI hra nd fra l6 hG hby hbx hPH hPW eph epw l15 l5 l14 l4 l13 hT3 l3 ht3 eby ebx l12 hT2 l2 eh ew hT1 l1 ci hI ho hs hl4 hp4 hB hA hw hcm hn hn1 hGb hqb hq hpm hGP hGI hht hwd hso hc g hf S; (and_intros <;> lia)))
    refine TE_bcall S rfl rfl (TEs_cons (TE_name rfl (TEs_nil (TC_range1 fun rg o1 hrg hR => ⟨rg, _, _, _, D', _, bx, rfl, hR, s3, by simpa using s4, le_put hrg, RLe.refl _, in2 ⟨rfl, le, rw0⟩, fun x ρ'' D'' hx iv => ?_, fun ρ'' D'' iv => ?_⟩))))
    · refine ex0_3 (out2 iv) fun eR0 le2 rw2 => ?_
      try clear iv
      obtain rfl := eR0
      refine TS.abs fun QB2 kB2 => ?_
      have ex : (0 + (x : Int) * 1) = (x : Int) := by lia
      rw [ex]
      have l0 := l06.trans le2
      obtain ⟨rs, hRs, hcell⟩ := hG
      refine ex2_3 (hcell y hy) fun rra uus hy1 hy2 hy3 => ?_
      refine ex1_2 (hy3 x hx) fun la hx1 hx2 => ?_
      refine TS_cons (T1_assign (.inl rfl) (TE_gcall S rfl rfl (TEs_cons (TE_mcall S rfl (hGI.le l0) rfl rfl (TEs_cons (TE_name rfl (TEs_cons (TE_name rfl (TEs_cons (TE_name rfl (TEs_nil ?_)))))))))))
      refine TC.pure (sp_get S (hGI.le l0) (hGP.le l0) (by rw [List.getElem?_map, hpm]; rfl) (hRs.le l0) (by rw [List.getElem?_map, hy1]; rfl) (hy2.le l0) hx1 (by (clear hx2 hx1 hy3 hy2 hy1 hcell hRs l0 ex rw2 le2 s4 s3 ey rw0 le s2 s1 l06 hRw hPL hPI hra nd fra l6 hby hbx hPH hPW eph epw l15 l5 l14 l4 l13 hT3 l3 ht3 eby ebx l12 hT2 l2 eh ew hT1 l1 ci hI ho hs hB hA hw hcm hn hn1 hGb hqb hq hpm hGP hGI hht hwd hso hc g hf S; (and_intros <;> lia))) (by lia)) fun D7 l7 => ?_
      refine TEs_cons (TE_name rfl (TEs_nil ?_))
      have l07 := l0.trans l7
      refine (sp_dequantise S (hx2.le l07) (.inr (hq.le l07)) (by rw [dc_len _ _ hs.2]; simp; (clear l07 l7 hx2 hx1 hy3 hy2 hy1 hcell hRs l0 ex rw2 le2 hx s4 s3 ey rw0 le hy s2 s1 l06 hRw hPL hPI hra nd fra l6 b1 hby hbx hPH hPW eph epw l15 l5 l14 l4 l13 hT3 l3 ht3 eby ebx l12 hT2 l2 eh ew hT1 l1 ci hI ho hs hl4 hp4 hB hA hw hcm hn hn1 hGb hqb hq hpm hGP hGI hht hwd hso hc g hf S; omega)) ?_ (fun z hz => ?_) (by lia)).mono fun v D8 hq2 => ?_
      · rw [dc_len _ _ hs.2]
        have : s * s ≤ 4 * 4 := Nat.mul_le_mul hs.1 hs.1
        (clear l07 l7 hx2 hx1 hy3 hy2 hy1 hcell hRs l0 ex rw2 le2 hx s4 s3 ey rw0 le hy s2 s1 l06 hRw hPL hPI hra nd fra l6 b1 hby hbx hPH hPW eph epw l15 l5 l14 l4 l13 hT3 l3 ht3 eby ebx l12 hT2 l2 eh ew hT1 l1 ci hI ho hs hl4 hp4 hB hA hw hcm hn hn1 hGb hqb hq hpm hGP hGI hht hwd hso hc g hf S; omega)
      · rcases List.mem_cons.mp hz with qZ0 | hz
        · obtain rfl := qZ0.symm
          lia
        · rw [(List.mem_replicate.mp hz).2]; decide
      obtain ⟨rw', e, l8, hD8⟩ := hq2
      obtain rfl := e.symm
      rw [prod_dc hs.2] at hD8
      have l78 := (le2.trans l7).trans l8
      have l08 := l07.trans l8
      refine TS_cons (T1_expr (TE_gcall S rfl rfl (TEs_cons (TE_name rfl (TEs_cons (TE_name rfl (TEs_cons (TE_name rfl (TEs_cons (TE_gcall S rfl rfl (TEs_cons (TE_name rfl (TEs_cons (TE_at S rfl (hI.le l08) rfl rfl rfl (TEs_cons (TE_name rfl (TEs_nil ?_)))))))))))))))))
      have hcb : (G x y * q).natAbs < 2 ^ 30 := by
        rw [Int.natAbs_mul]
        have h1 := hGb x y
        have h2 : q.natAbs ≤ 2 ^ 5 := by lia
        have : (G x y).natAbs * q.natAbs ≤ 2 ^ 20 * 2 ^ 5 := Nat.mul_le_mul (by lia) h2
        lia
      refine TC.samp (sp_scaled_samples S hso hD8 hcb (by omega)) fun bl D9 hbl l9 hBl => ?_
      refine TEs_cons (TE_name rfl (TEs_cons (TE_name rfl (TEs_cons (TE_name rfl (TEs_nil ?_))))))
      have l69 := l78.trans l9
      have l69d : Le (del D6 ra) (del D9 ra) := le_del l69 fun a ha => del_none ha
      have hblr : bl ∉ ra := fun hm => by
        obtain ⟨us, vs, m, z, _⟩ := ((rw2.le l7).le l8).has hm
        rw [hbl] at z; cases z
      have hBl' : IsL (del D9 ra) bl (intL (List.replicate (o * o) (samp s o (G x y * q)))) := by
        obtain ⟨vs, m, z1, z2⟩ := hBl
        exact ⟨vs, m, by rw [del_at hblr]; exact z1, z2⟩
      have hyo : y * o ≤ PH := by rw [← hPH]; exact ptN_blk hso (by rw [hby]; exact hy)
      have hxo : x * o ≤ PW := by rw [← hPW]; exact ptN_blk hso (by rw [hbx]; exact hx)
      refine (sp_put_block S (hPI.le l69d) (hPL.le l69d) hBl' rfl nd hra ((rw2.le l7).le (l8.trans l9)) (fun i uu => Mat_len ..) hxo hyo (by lia) (by (clear hxo hyo hBl' hblr l69d l69 hBl l9 hbl hcb l08 l78 hD8 l8 l07 l7 hx2 hx1 hy3 hy2 hy1 hcell hRs l0 ex rw2 le2 hx s4 s3 ey rw0 le hy s2 s1 l06 hRw hPL hPI hra nd fra l6 hby hbx hPH hPW eph epw l15 l5 l14 l4 l13 hT3 l3 ht3 eby ebx l12 hT2 l2 eh ew hT1 l1 ci hI ho hs hl4 hp4 hB hA hw hcm hn hn1 hGb hqb hq hpm hGP hGI hht hwd hso hc g hf S; lia)) (by (clear hxo hyo hBl' hblr l69d l69 hBl l9 hbl hcb l08 l78 hD8 l8 l07 l7 hx2 hx1 hy3 hy2 hy1 hcell hRs l0 ex rw2 le2 hx s4 s3 ey rw0 le hy s2 s1 l06 hRw hPL hPI hra nd fra l6 hby hbx hPH hPW eph epw l15 l5 l14 l4 l13 hT3 l3 ht3 eby ebx l12 hT2 l2 eh ew hT1 l1 ci hI ho hs hl4 hp4 hB hA hw hcm hn hn1 hGb hqb hq hpm hGP hGI hht hwd hso hc g hf S; lia)) (by lia)).mono fun v D10 hr506 => ?_
      obtain ⟨l10, rw10⟩ := hr506
      refine TS_nil (kB2 _ _ _ ⟨_, RLe.cons rfl (RLe.cons rfl (RLe.cons rfl (RLe.cons rfl (RLe.cons rfl (RLe.cons rfl (RLe.cons rfl (RLe.cons rfl (RLe.cons rfl (RLe.cons rfl (RLe.cons rfl (RLe.cons rfl (RLe.cons rfl RLe.nil)))))))))))), in2 ⟨rfl, l69d.trans l10, rw10.congr fun i hi => ?_⟩⟩)
      exact Mat_put (val := val) hso (by (clear rw10 l10 hxo hyo hBl' hblr l69d l69 hBl l9 hbl hcb l08 l78 hD8 l8 l07 l7 hx2 hx1 hy3 hy2 hy1 hcell hRs l0 ex rw2 le2 hx s4 s3 ey rw0 le hy s2 s1 l06 hRw hPL hPI nd fra l6 b1 hby hbx hPH hPW eph epw l15 l5 l14 l4 l13 hT3 l3 ht3 eby ebx l12 hT2 l2 eh ew hT1 l1 ci hI ho hs hl4 hp4 hB hA hw hcm hn hn1 hGb hqb hq hpm hGP hGI hht hwd hso hc g hf S; lia))
    · refine ex0_3 (out2 iv) fun eR0 le2 rw2 => ?_
      try clear iv
      obtain rfl := eR0
      refine TS_nil (kB1 _ _ _ ⟨_, RLe.cons rfl (RLe.cons rfl (RLe.cons rfl (RLe.cons rfl (RLe.cons rfl (RLe.cons rfl (RLe.cons rfl (RLe.cons rfl (RLe.cons rfl (RLe.cons rfl (RLe.cons rfl (RLe.cons rfl RLe.nil))))))))))), in1 ⟨rfl, le2, rw2.congr fun i uu => Mat_row (fun j hj => ?_) i⟩⟩)
      rw [← hbx]; exact ptN_in hso (by rw [hPW]; exact hj)
  · refine ex0_3 (out1 iv) fun eR0 le rw0 => ?_
    try clear iv
    obtain rfl := eR0
    refine TS_cons (T1_ret (TE_name rfl ⟨pl, rfl, l06.trans le, rl, ra, hPI.le le, hPL.le le, hra, fun i a ha => ?_⟩))
    have hi : i < PH := by rw [← hra]; exact (List.getElem?_eq_some_iff.mp ha).1
    have := rw0 i a ha
    rw [Mat_all (by rw [← hby]; exact ptN_in hso (by rw [hPH]; exact hi))] at this
    exact this
end
end

section
variable {w : World} {K : Frag} {Hb : Heap} {n : Nat} {D : DH}

-- two parts of a heap
noncomputable def mix (F D₁ : DH) : DH := fun a => match F a with | some o => some o | none => D₁ a
theorem mix_some {F D₁ : DH} {a : Addr} {o : Obj} (h : F a = some o) : mix F D₁ a = some o := by simp [mix, h]
theorem mix_none {F D₁ : DH} {a : Addr} (h : F a = none) : mix F D₁ a = D₁ a := by simp [mix, h]
-- what a call does not look at stays
inductive FrameP (F : DH) (Q : ∀ uu : Value, ∀ uu : DH, Prop) (v : Value) (D' : DH) : Prop
  | mk : ∀ D₁, ∀ uu : Q v D₁, ∀ uu : (∀ a o, ∀ uu : D₁ a = some o, F a = none), ∀ uu : D' = mix F D₁, FrameP F Q v D'
theorem TC.frame {f : Value} {args : List Value} {F : DH} {Q : ∀ uu : Value, ∀ uu : DH, Prop} (h : TC PG w Hb n f args D Q) (hF : ∀ a o, ∀ uu : D a = some o, F a = none) :
    TC PG w Hb n f args (mix F D) (FrameP F Q) := by
  intro A s X Vs ok d x j bi hv
  have sD : Sub D s.heap := fun a o e => d a o (by rw [mix_none (hF a o e)]; exact e)
  have sF : Sub F s.heap := fun a o e => d a o (mix_some e)
  have jF : ∀ a o, ∀ uu : F a = some o, X a = none := fun a o e => j a o (mix_some e)
  have le : Le X (mix F X) := fun a o e => by
    cases q : F a with
    | none => rw [mix_none q]; exact e
    | some o' => rw [jF a o' q] at e; cases e
  have xs : Sub (mix F X) s.heap := fun a o e => by
    cases q : F a with
    | none => rw [mix_none q] at e; exact x a o e
    | some o' => rw [mix_some q] at e; obtain rfl := (Option.some.inj e).symm; exact sF a _ q
  have jj : Dj D (mix F X) := fun a o e => by rw [mix_none (hF a o e)]; exact j a o (by rw [mix_none (hF a o e)]; exact e)
  refine codeAny_mono (h A s (mix F X) Vs (ok.le le) sD xs jj (fun b o e => le _ _ (bi b o e)) hv) fun r s' z => ?_
  obtain ⟨V, D₁, hr, q, t⟩ := z
  have h1 : ∀ a o, ∀ uu : D₁ a = some o, F a = none := fun a o e => by
    have := t.j a o e
    cases q : F a with
    | none => rfl
    | some o' => rw [mix_some q] at this; cases this
  refine ⟨V, mix F D₁, hr, ⟨D₁, q, h1, rfl⟩, t.eq, fun a o e => ?_, t.x.le le, fun a o e => ?_⟩
  · cases q : F a with
    | none => rw [mix_none q] at e; exact t.d a o e
    | some o' => rw [mix_some q] at e; obtain rfl := (Option.some.inj e).symm; exact t.x a _ (mix_some q)
  · cases q : F a with
    | none =>
      rw [mix_none q] at e
      have := t.j a o e
      rwa [mix_none q] at this
    | some o' => exact jF a o' q
noncomputable def only (D : DH) (b : Addr) : DH := fun a => if a = b then D a else none
theorem mix_only (D : DH) (b : Addr) : mix (only D b) (del D [b]) = D := by
  funext a
  by_cases h : a = b
  · subst h
    cases q : D a with
    | none => rw [mix_none (by simp [only, q]), del_none (by simp)]
    | some o => exact mix_some (by simp [only, q])
  · rw [mix_none (by simp [only, h]), del_at (by simp [h])]

-- a call, one object set apart
inductive ApartP (b : Addr) (Q : ∀ uu : Value, ∀ uu : DH, Prop) (D : DH) (v : Value) (D' : DH) : Prop
  | mk : ∀ D₁, ∀ uu : Q v D₁, ∀ uu : D₁ b = none, ∀ uu : Le D₁ D', ∀ uu : (∀ uu : Le (del D [b]) D₁, Le D D'), ApartP b Q D v D'
theorem TC.apart {f : Value} {args : List Value} {b : Addr} {Q : ∀ uu : Value, ∀ uu : DH, Prop} (hb : D b ≠ none) (h : TC PG w Hb n f args (del D [b]) Q) :
    TC PG w Hb n f args D (ApartP b Q D) := by
  have fr := TC.frame (F := only D b) h (fun a o e => by
    have : a ≠ b := fun q => by subst q; rw [del_none (by simp)] at e; cases e
    simp [only, this])
  rw [mix_only] at fr
  refine fr.mono fun v D' ⟨D₁, q, h1, e⟩ => ⟨D₁, q, ?_, ?_, fun hl a o ea => ?_⟩
  · cases z : D₁ b with
    | none => rfl
    | some o => exact absurd (by have := h1 b o z; simpa [only] using this) hb
  · intro a o ea
    rw [e, mix_none (h1 a o ea)]; exact ea
  · rw [e]
    by_cases q : a = b
    · subst q; exact mix_some (by simp [only, ea])
    · rw [mix_none (by simp [only, q])]
      exact hl a o (by rw [del_at (by simp [q])]; exact ea)

theorem sd_sides {s l MA MD : Nat} {c : Nat × Nat} (h : Sides s l) : ∀ k, ∀ o, ∀ uu : Sides s o, Sides s (sd s l MA MD c k o)
  | 0, o, ho => ho
  | k + 1, o, ho => by
    unfold sd
    split
    · rename_i q
      refine sd_sides h k _ (sides_of h.hs ?_ q.1)
      have := ho.zl.sz
      rcases h.hs with e | e <;> rcases ho.hl with e2 | e2 | e2 <;> lia
    · exact ho

section
variable {fr : Addr} {H W s MA MD : Nat} {cs : List (Nat × Nat)}
noncomputable def wdOf (W MA : Nat) (c : Nat × Nat) : Nat := ptN (W * c.1) MA
noncomputable def htOf (H MD : Nat) (c : Nat × Nat) : Nat := ptN (H * c.2) MD
-- what a plane of the picture shows
noncomputable def picF (H W s l MA MD : Nat) (c : Nat × Nat) (G : ∀ uu : Nat, ∀ uu : Nat, Int) (q : Int) (y x : Nat) : Value :=
  shown s (sd s l MA MD c 3 l) (G (kp (x * (c.1 * sd s l MA MD c 3 l) / (MA * l)) (ptN (wdOf W MA c * sd s l MA MD c 3 l) s) / sd s l MA MD c 3 l) (kp (y * (c.2 * sd s l MA MD c 3 l) / (MD * l)) (ptN (htOf H MD c * sd s l MA MD c 3 l) s) / sd s l MA MD c 3 l) * q)
-- the tables
inductive IsTabs (D : DH) (w : World) (qd s P : Nat) (q : ∀ uu : Nat, Int) : Prop
  | mk : ∀ ks, ∀ uu : IsID PG w D qd ks, ∀ uu : (∀ p : Nat, ∀ uu : p < P, ∃ qt, valueAt ks (p : Int) = some (.ref qt) ∧ IsT D qt (intL (q p :: List.replicate (s * s - 1) 7))), IsTabs D w qd s P q
theorem IsTabs.le {D D' : DH} {qd s P : Nat} {q : ∀ uu : Nat, Int} (k : Le D D') (h : IsTabs D w qd s P q) : IsTabs D' w qd s P q :=
  let ⟨ks, a, b⟩ := h; ⟨ks, a.le k, fun p hp => let ⟨qt, e, f⟩ := b p hp; ⟨qt, e, f.le k⟩⟩
inductive IsPic (D : DH) (pic : Addr) (md : Value) (H W s l MA MD : Nat) (cs : List (Nat × Nat)) (G : ∀ uu : Nat, ∀ uu : Nat, ∀ uu : Nat, Int) (q : ∀ uu : Nat, Int) : Prop
  | mk : ∀ (pls : Addr) (qs : List Addr), ∀ uu : Inst D pic 191 [("model", md), ("precision", vi 8), ("planes", .ref pls)], ∀ uu : IsL D pls (qs.map Value.ref), ∀ uu : qs.length = cs.length, ∀ uu : (∀ p c, ∀ uu : cs[p]? = some c, ∃ qa, qs[p]? = some qa ∧ IsPlane D qa (ptN (W * l) s) (ptN (H * l) s) (picF H W s l MA MD c (G p) (q p))), IsPic D pic md H W s l MA MD cs G q

theorem fn_scaled_picture (S : Stat w K Hb) : Fn Hb 764 (scopeOf (stm 76)) (bodyOf (stm 76)) ["frame", "grid", "quant", "model", "less", "fancy"] := Fn.of S 41 rfl rfl
inductive PicP (l : Nat) (md : Value) (G : ∀ uu : Nat, ∀ uu : Nat, ∀ uu : Nat, Int) (q : ∀ uu : Nat, Int) (D : DH) (H : Nat) (W : Nat) (s : Nat) (MA : Nat) (MD : Nat) (cs : List (Nat × Nat)) (v : Value) (D' : DH) : Prop
  | mk : ∀ pic, ∀ uu : v = .ref pic, ∀ uu : Le D D', ∀ uu : IsPic D' pic md H W s l MA MD cs G q, PicP l md G q D H W s MA MD cs v D'
-- the planes told so far
inductive PicInv (ρ₀ : List (Str × Value)) (D : DH) (f : Addr) (H W s l MA MD : Nat) (cs : List (Nat × Nat)) (G : ∀ uu : Nat, ∀ uu : Nat, ∀ uu : Nat, Int) (q : ∀ uu : Nat, Int) (p : Nat) (ρ' : List (Str × Value)) (D' : DH) : Prop
  | mk : ∀ uu : ρ' = ρ₀, ∀ uu : Le D D', ∀ qs : List Addr, ∀ uu : IsL D' f (qs.map Value.ref), ∀ uu : qs.length = p,
    (∀ i c, ∀ uu : i < p, ∀ uu : cs[i]? = some c, ∃ qa, qs[i]? = some qa ∧ (∃ A : DH, Le A D' ∧ A f = none ∧ IsPlane A qa (ptN (W * l) s) (ptN (H * l) s) (picF H W s l MA MD c (G i) (q i)))) → PicInv ρ₀ D f H W s l MA MD cs G q p ρ' D'
theorem sp_scaled_picture (S : Stat w K Hb) {gr qd : Addr} {l : Nat} {md : Value} {G : ∀ uu : Nat, ∀ uu : Nat, ∀ uu : Nat, Int} {q : ∀ uu : Nat, Int} (hf : IsFr D fr H W s (castC cs)) (g : GeoN H W s MA MD cs) (hsl : Sides s l)
    (hG : IsGrid D gr s cs.length (fun p => ptN (wdOf W MA ((cs[p]?).getD (0, 0))) s) (fun p => ptN (htOf H MD ((cs[p]?).getD (0, 0))) s) G) (hQ : IsTabs D w qd s cs.length q) (hqb : ∀ p, 0 ≤ q p ∧ q p ≤ 2 ^ 5) (hGb : ∀ p x y, (G p x y).natAbs < 2 ^ 20) (hn : 7 ≤ n) :
    TC PG w Hb n (.ref 764) [.ref fr, .ref gr, .ref qd, md, vi l, .bool false] D (PicP l md G q D H W s MA MD cs) := by
  refine TC.down hn fun n hn1 => ?_
  have hA := g.MA
  have hB := g.MD
  have hl4 := g.len
  have hs : s ≤ 4 ∧ 2 ≤ s := by rcases g.hs with e | e <;> (and_intros <;> lia)
  have hl := hsl.zl.sz.1
  have hl2 : l ≤ 4 := by rcases hsl.hl with e | e | e <;> lia
  have hWH := And.intro g.hW g.hH
  obtain ⟨cl, us, hI, hL, hlen, hC⟩ := id hf
  obtain ⟨gp, ps, hGI, hGP, hGc⟩ := hG
  obtain ⟨ks, hks, hkv⟩ := hQ
  have hlen' : us.length = cs.length := by rw [hlen]; simp [castC]
  refine TC.abs fun QQ kQ => ?_
  refine TC_def (fn_scaled_picture S) rfl (TS_cons (T1_expr (TE_gcall S rfl rfl (TEs_cons (TE_at S rfl hI rfl rfl rfl (TEs_cons (TE_name rfl (TEs_nil ?_))))))))
  refine TC.pure (sp_check_side S (s := (s : Int)) (l := (l : Int)) (by (and_intros <;> (exact Int.ofNat_le.mpr (by lia)))) (by rcases hsl.hl with e | e | e <;> lia) (by have := hsl.le; (exact Int.ofNat_le.mpr (by assumption))) hsl.dv (by lia)) fun D1 l1 => ?_
  refine TS_cons (T1_unpack (xs := [(("width" : Str), _), (("height" : Str), _)]) rfl rfl ?_ (by intro _ _; rfl))
  refine TE_gcall S rfl rfl (TEs_cons (TE_name rfl (TEs_cons (TE_name rfl (TEs_nil ?_)))))
  refine TC.tup2 (sp_scaled_size S (hf.le l1) g hl2 (by lia)) fun t1 D2 l2 hT1 => ?_
  refine ⟨t1, _, rfl, .inr hT1, rfl, ?_⟩
  have l12 := l1.trans l2
  have bsz : ptN (W * l) s ≤ 44 ∧ ptN (H * l) s ≤ 44 := by
    exact ⟨ptN_bw g.hs hsl.hl g.hW, ptN_bw g.hs hsl.hl g.hH⟩
  refine TS_cons (T1_assign (.inl rfl) (TE_list (TEs_nil ⟨by simp, fun f D3 hf3 l3 hF uu => ?_⟩)))
  have l13 := l12.trans l3
  have hDf : D f = none := l12.none hf3
  refine TS_cons (T1_for_range (PicInv ([("planes", .ref f), ("height", vi (ptN (H * l) s : Nat)), ("width", vi (ptN (W * l) s : Nat)), ("frame", .ref fr), ("grid", .ref gr), ("quant", .ref qd), ("model", md), ("less", vi l), ("fancy", .bool false)] : List (Str × Value)) D f H W s l MA MD cs G q) (.inl rfl) ?_)
  refine TE_bcall S rfl rfl (TEs_cons (TE_bcall S rfl rfl (TEs_cons (TE_at S rfl (hI.le l13) rfl rfl rfl (TEs_nil ?_)))))
  refine TC_len (.inl (hL.le l13)) (by lia) (TEs_nil ?_)
  rw [hlen']
  obtain ⟨s1, s2⟩ := range_small (b := (cs.length : Int)) (by (and_intros <;> (exact Int.ofNat_le.mpr (by lia))))
  refine TC_range1 fun rg o1 hrg hR => ⟨rg, _, _, _, D3, _, cs.length, rfl, hR, s1, by simpa using s2, le_put hrg, RLe.cons rfl (RLe.cons rfl (RLe.cons rfl (RLe.cons rfl (RLe.cons rfl (RLe.cons rfl (RLe.cons rfl (RLe.cons rfl (RLe.cons rfl RLe.nil)))))))), ⟨rfl, l13, [], hF, rfl, nofun⟩, fun p ρ' D' hp iv => ?_, fun ρ' D' iv => ?_⟩
  · obtain ⟨rfl, le, qs, hF', hqs, hpl⟩ := iv
    refine TS.abs fun QB kB => ?_
    have ep : (0 + (p : Int) * 1) = (p : Int) := by (rw [Int.zero_add, Int.mul_one])
    rw [ep]
    have hc : cs[p]? = some cs[p] := List.getElem?_eq_getElem hp
    generalize cs[p] = c at hc
    have hcm := g.hc c (List.mem_of_getElem? hc)
    have hwd := g.wd (List.mem_of_getElem? hc)
    have hup : us[p]? = some us[p] := List.getElem?_eq_getElem (by omega)
    refine ex4_3 (hC p us[p] hup) fun x id qq c' ex hc' hX => ?_
    rw [castC_get hc] at hc'; obtain rfl := (Option.some.inj hc').symm
    have ho := sd_sides (MA := MA) (MD := MD) (c := c) hsl 3 l hsl
    refine TS_cons (T1_swap (ys := ["component", "side"]) rfl ?_ (by rintro ⟨⟩ rfl; rfl))
    refine TE_tuple (TEs_cons (TE_item (TE_at S rfl (hI.le le) rfl rfl rfl (TE_name rfl ⟨cl, us, p, us[p], rfl, .inl (hL.le le), rfl, by (constructor <;> intro hZ <;> omega), by (exact Int.ofNat_le.mpr (by lia)), by simpa using hup, TEs_cons ?_⟩))))
    refine TE_gcall S rfl rfl (TEs_cons (TE_name rfl (TEs_cons (TE_name rfl (TEs_cons (TE_name rfl (TEs_nil ?_)))))))
    refine TC.pure (sp_side_of S (hf.le le) g hc ⟨hl, hl2⟩ (by lia)) fun D4 l4 => ?_
    refine TEs_nil ⟨by simp [sizeLine], fun t2 D5 ht2 l5 hT2 uu => ⟨t2, _, rfl, .inr hT2, rfl, ?_⟩⟩
    rw [ex]
    generalize hoo : sd s l MA MD c 3 l = o at ho
    have l05 := (le.trans l4).trans l5
    refine ex1_2 (hGc p hp) fun pm hpm hcell => ?_
    refine ex1_2 (hkv p hp) fun qt hv hqt => ?_
    simp only [hc, Option.getD_some] at hcell
    refine TS_cons (T1_assign (.inl rfl) (TE_gcall S rfl rfl (TEs_cons (TE_name rfl (TEs_cons (TE_name rfl (TEs_cons (TE_name rfl (TEs_cons (TE_itemD (TE_name rfl (TE_name rfl ⟨qd, ks, p, .ref qt, rfl, hks.le l05, rfl, hv, TEs_cons (TE_name rfl (TEs_nil ?_))⟩))))))))))))
    have hn0 : ∀ {D' : DH} {us : List Value}, ∀ uu : IsL D' f us, D' f ≠ none := fun h z => by obtain ⟨vs, m, y, _⟩ := h; rw [z] at y; cases y
    have l05' : Le D (del D5 [f]) := le_del l05 fun a ha => by rw [List.mem_singleton.mp ha]; exact hDf
    refine (TC.apart (hn0 (hF'.le (l4.trans l5))) (sp_scaled_plane S (hf.le l05') g hc ho rfl rfl (hGI.le l05') (hGP.le l05') hpm (hcell.le l05') (hqt.le l05') (hqb p) (hGb p) (by omega))).mono fun v D6 hq2 => ?_
    obtain ⟨D6', ⟨pl, rfl, l6', hPl⟩, hD6f, l66, l6⟩ := hq2
    replace l6 := l6 l6'
    have l06 := l05.trans l6
    refine TS_cons (T1_swap (ys := ["across", "down"]) rfl ?_ (by rintro ⟨⟩ rfl; rfl))
    refine TE_tuple (TEs_cons (TE_mul (TE_mcall S rfl (hI.le l06) rfl rfl (TEs_nil ?_))))
    refine TC.pure (sp_most_across S (hf.le l06) g.geo.sl g.geo.ma (by lia)) fun D7 l7 => ?_
    have l07 := l06.trans l7
    refine TE_name rfl ⟨_, _, rfl, rfl, by right; (clear l07 l7 l06 l6 hPl l6' l66 hD6f l05' hn0 hcell hqt hv hpm l05 ho hoo hT2 l5 ht2 l4 hX ex hup hwd hcm hc ep hpl hqs hF' le hp hR hrg s2 s1 hDf l13 hF l3 hf3 bsz l12 hT1 l2 l1 hlen' hkv hks hGc hGP hGI hC hlen hL hI hWH hl hs hl4 hB hA hn hn1 hGb hqb hsl g hf S; (exact Nat.lt_of_le_of_lt (by assumption) (by decide))), TEs_cons (TE_mul (TE_mcall S rfl (hI.le l07) rfl rfl (TEs_nil ?_)))⟩
    refine TC.pure (sp_most_down S (hf.le l07) g.geo.sl g.geo.md (by lia)) fun D8 l8 => ?_
    have l08 := l07.trans l8
    refine TE_name rfl ⟨_, _, rfl, rfl, by right; (exact Nat.lt_of_le_of_lt (by assumption) (by decide)), TEs_nil ⟨by simp [sizeLine], fun t3 D9 ht3 l9 hT3 uu => ⟨t3, _, rfl, .inr hT3, rfl, ?_⟩⟩⟩
    have l09 := l08.trans l9
    have l39 := ((((l4.trans l5).trans l6).trans l7).trans l8).trans l9
    refine TS_cons (T1_expr (TE_append (TE_name rfl ⟨f, _, rfl, hF'.le l39, ?_⟩)))
    refine TE_gcall S rfl rfl (TEs_cons (TE_name rfl (TEs_cons (TE_mul (TE_at S rfl (hX.le l09) rfl rfl rfl (TE_name rfl ⟨_, _, rfl, rfl, by left; simp only; (clear l39 l09 hT3 l9 ht3 l08 l8 l07 l7 l06 l6 hPl l6' l66 hD6f l05' hn0 hcell hqt hv hpm l05 ho hoo hT2 l5 ht2 l4 hX ex hup hwd hc ep hpl hqs hF' le hp hR hrg s2 s1 hDf l13 hF l3 hf3 bsz l12 hT1 l2 l1 hlen' hkv hks hGc hGP hGI hC hlen hL hI hWH hl2 hl hs hl4 hB hA hn hn1 hGb hqb hsl g hf S; omega), TEs_cons (TE_name rfl (TEs_cons (TE_mul (TE_at S rfl (hX.le l09) rfl rfl rfl (TE_name rfl ⟨_, _, rfl, rfl, by left; simp only; (clear l39 l09 hT3 l9 ht3 l08 l8 l07 l7 l06 l6 hPl l6' l66 hD6f l05' hn0 hcell hqt hv hpm l05 ho hoo hT2 l5 ht2 l4 hX ex hup hwd hc ep hpl hqs hF' le hp hR hrg s2 s1 hDf l13 hF l3 hf3 bsz l12 hT1 l2 l1 hlen' hkv hks hGc hGP hGI hC hlen hL hI hWH hl2 hl hs hl4 hB hA hn hn1 hGb hqb hsl g hf S; omega), TEs_cons (TE_name rfl (TEs_cons (TE_name rfl (TEs_cons (TE_name rfl (TEs_cons (TE_name rfl (TEs_nil ?_))))))))⟩)))))⟩))))))
    rw [← Int.natCast_mul, ← Int.natCast_mul, ← Int.natCast_mul, ← Int.natCast_mul]
    have ho4 : 1 ≤ o ∧ o ≤ 4 := by rcases ho.hl with e | e | e <;> (and_intros <;> lia)
    have m1 : 1 * 1 ≤ c.1 * o ∧ c.1 * o ≤ 4 * 4 := ⟨Nat.mul_le_mul hcm.1.1 ho4.1, Nat.mul_le_mul hcm.1.2 ho4.2⟩
    have m2 : 1 * 1 ≤ c.2 * o ∧ c.2 * o ≤ 4 * 4 := ⟨Nat.mul_le_mul hcm.2.1 ho4.1, Nat.mul_le_mul hcm.2.2 ho4.2⟩
    have m3 : 1 * 1 ≤ MA * l ∧ MA * l ≤ 4 * 4 := ⟨Nat.mul_le_mul hA.1 hl, Nat.mul_le_mul hA.2 hl2⟩
    have m4 : 1 * 1 ≤ MD * l ∧ MD * l ≤ 4 * 4 := ⟨Nat.mul_le_mul hB.1 hl, Nat.mul_le_mul hB.2 hl2⟩
    have b1 : ptN (ptN (W * c.1) MA * o) s ≤ 176 ∧ ptN (ptN (H * c.2) MD * o) s ≤ 176 ∧ 1 ≤ ptN (ptN (W * c.1) MA * o) s ∧ 1 ≤ ptN (ptN (H * c.2) MD * o) s := by
      have u := ptN_bd g.hs ho.hl ⟨hwd.1, hwd.2.1⟩
      have v := ptN_bd g.hs ho.hl ⟨hwd.2.2.1, hwd.2.2.2⟩
      exact ⟨u.2.1, v.2.1, u.2.2, v.2.2⟩
    have l69 : Le D6' (del D9 [f]) := le_del (l66.trans ((l7.trans l8).trans l9)) fun a ha => by rw [List.mem_singleton.mp ha]; exact hD6f
    refine (TC.apart (hn0 (hF'.le l39)) (sp_grown_to S (hPl.le l69) ⟨b1.2.2.1, b1.2.2.2⟩ ⟨by (clear l69 b1 m4 m2 m1 ho4 l39 l09 hT3 l9 ht3 l08 l8 l07 l7 l06 l6 hPl l6' l66 hD6f l05' hn0 hcell hqt hv hpm l05 ho hoo hT2 l5 ht2 l4 hX ex hup hwd hcm hc ep hpl hqs hF' le hp hR hrg s2 s1 hDf l13 hF l3 hf3 bsz l12 hT1 l2 l1 hlen' hkv hks hGc hGP hGI hC hlen hL hI hWH hl2 hl hs hl4 hB hA hn hn1 hGb hqb hsl g hf S; (exact (by assumption : _ ∧ _).1)), by lia, by (exact (by assumption : _ ∧ _).1), by lia⟩ ⟨by (clear l69 b1 m4 m2 m1 ho4 l39 l09 hT3 l9 ht3 l08 l8 l07 l7 l06 l6 hPl l6' l66 hD6f l05' hn0 hcell hqt hv hpm l05 ho hoo hT2 l5 ht2 l4 hX ex hup hwd hcm hc ep hpl hqs hF' le hp hR hrg s2 s1 hDf l13 hF l3 hf3 bsz l12 hT1 l2 l1 hlen' hkv hks hGc hGP hGI hC hlen hL hI hWH hl2 hl hs hl4 hB hA hn hn1 hGb hqb hsl g hf S; lia), by lia, by lia, by lia, by lia, by lia, by lia, by lia⟩ (by lia))).mono fun v D10 hq5 => ?_
    obtain ⟨D10', ⟨qa, rfl, l10', hqa⟩, hD10f, l1010, l10⟩ := hq5
    replace l10 := l10 l10'
    refine ⟨_, hF'.le (l39.trans l10), by rw [List.length_map]; unfold sizeLine; lia, fun o' hL' => TS_nil (kB _ _ _ ⟨_, RLe.cons rfl (RLe.cons rfl (RLe.cons rfl (RLe.cons rfl (RLe.cons rfl (RLe.cons rfl (RLe.cons rfl (RLe.cons rfl (RLe.cons rfl RLe.nil)))))))), rfl, le_put' (l09.trans l10) hDf, qs ++ [qa], by simpa using hL', by simp [hqs], fun i c' hi hc' => ?_⟩)⟩
    by_cases hlt : i < p
    · obtain ⟨qb, h1, A, h2, h3, h4⟩ := hpl i c' hlt hc'
      exact ⟨qb, by rw [List.getElem?_append_left (by lia)]; exact h1, A, le_put' (h2.trans (l39.trans l10)) h3, h3, h4⟩
    · obtain rfl : i = p := by lia
      rw [hc] at hc'; cases hc'
      refine ⟨qa, by rw [List.getElem?_append_right (by lia), hqs]; simp, D10', le_put' l1010 hD10f, hD10f, ?_⟩
      unfold picF wdOf htOf
      rw [hoo]; exact hqa
  · obtain ⟨rfl, le, qs, hF', hqs, hpl⟩ := iv
    refine TS_cons (T1_ret (TE_gcall S rfl rfl (TEs_cons (TE_name rfl (TEs_cons (TE_at S rfl (hI.le le) rfl rfl rfl (TEs_cons (TE_name rfl (TEs_nil ?_)))))))))
    refine TC.newI (sp_Picture S (by lia)) fun pic D5 l5 hPI => ?_
    refine kQ _ _ ⟨pic, rfl, le.trans l5, f, qs, hPI, hF'.le l5, hqs, fun p c hc => ?_⟩
    obtain ⟨qa, h1, A, h2, _, h4⟩ := hpl p c (List.getElem?_eq_some_iff.mp hc).1 hc
    exact ⟨qa, h1, h4.le (h2.trans l5)⟩
end
end

section
variable {w : World} {K : Frag} {Hb : Heap} {n : Nat} {D : DH}

-- the law's own state: two numbers, neither below nought
inductive StOk (D : DH) (st : Addr) : Prop
  | mk : ∀ a b : Int, ∀ uu : IsL D st [vi a, vi b], ∀ uu : 0 ≤ a, ∀ uu : 0 ≤ b, StOk D st
theorem StOk.le {D D' : DH} {st : Addr} (k : Le D D') (h : StOk D st) : StOk D' st := let ⟨a, b, x, y, z⟩ := h; ⟨a, b, x.le k, y, z⟩
theorem le_del_put {D : DH} {b : Addr} {o : Obj} : Le (del D [b]) (put D b o) := le_put' del_le (del_none (by simp))

theorem fn_next (S : Stat w K Hb) : Fn Hb 811 (scopeOf (stm 81)) (bodyOf (stm 81)) ["state", "limit"] := Fn.of S 46 rfl rfl
inductive NextP (st : Addr) (L : Nat) (D : DH) (v : Value) (D' : DH) : Prop
  | mk : ∀ r : Nat, ∀ uu : v = vi r, ∀ uu : r < L, ∀ uu : Le (del D [st]) D', ∀ uu : StOk D' st, NextP st L D v D'
theorem TC.next {st : Addr} {L : Nat} {f : Value} {args : List Value} {Q : ∀ uu : Value, ∀ uu : DH, Prop} (h : TC PG w Hb n f args D (NextP st L D)) (k : ∀ (r : Nat) D', ∀ uu : r < L, ∀ uu : Le (del D [st]) D', ∀ uu : StOk D' st, Q (vi r) D') : TC PG w Hb n f args D Q := h.mono fun uu uu q => by
  obtain ⟨r, rfl, q0, q1, q2⟩ := q
  exact k _ _ q0 q1 q2
theorem sp_next (S : Stat w K Hb) {st : Addr} {L : Nat} (h : StOk D st) (hL : 1 ≤ L ∧ L < 1000) (hn : 1 ≤ n) :
    TC PG w Hb n (.ref 811) [.ref st, vi L] D (NextP st L D) := by
  refine TC.down hn fun n hn1 => ?_
  obtain ⟨a, b, hS, ha, hb⟩ := h
  have fin : ∀ (z : Int), 0 ≤ z % (L : Int) ∧ z % (L : Int) < L := fun z => ⟨Int.emod_nonneg _ (by lia), Int.emod_lt_of_pos _ (by (exact Int.ofNat_le.mpr (by lia)))⟩
  refine TC_def (fn_next S) rfl (TS_cons (T1_if (TB_gt (TE_item (TE_name rfl (TE_int ⟨st, _, 0, vi a, rfl, .inl hS, rfl, by decide, by decide, rfl, TE_int ⟨_, _, rfl, rfl, fun hp => ⟨fun uu => ?_, nTF⟩, fun uu => ⟨nFT, fun uu => TS_nil ?_⟩⟩⟩))))))
  · refine TS_cons (T1_assign (.inl rfl) (TE_mod (TE_item (TE_name rfl (TE_int ⟨st, _, 0, vi a, rfl, .inl hS, rfl, by decide, by decide, rfl, TE_name rfl ⟨_, _, rfl, rfl, by lia, ?_⟩⟩)))))
    refine TS_cons (T1_setitem (TE_div (TE_item (TE_name rfl (TE_int ⟨st, _, 0, vi a, rfl, .inl hS, rfl, by decide, by decide, rfl, TE_name rfl ⟨_, _, rfl, rfl, by lia, by (exact Int.ofNat_le.mpr (by lia)), ?_⟩⟩)))))
    refine TE_name rfl (TE_int ⟨st, _, 0, rfl, rfl, hS, by decide, by simp, by decide, fun o' hS' => ?_⟩)
    refine TS_cons (T1_ret (TE_name rfl ⟨(a % (L : Int)).toNat, ?_, ?_, le_del_put, a / L, b, hS', Int.ediv_nonneg ha (by (clear hS' hp fin hb ha hS hn hn1 hL S; (constructor <;> intro hZ <;> omega))), hb⟩))
    · rw [Int.toNat_of_nonneg (fin a).1]
    · have := fin a; lia
  · refine TS_cons (T1_setitem (TE_mod (TE_add (TE_mul (TE_item (TE_name rfl (TE_int ⟨st, _, 1, vi b, rfl, .inl hS, rfl, by decide, by decide, rfl, TE_int ⟨_, _, rfl, rfl, by right; decide, TE_int ⟨_, _, rfl, rfl, TE_int ⟨_, _, rfl, rfl, by decide, ?_⟩⟩⟩⟩)))))))
    refine TE_name rfl (TE_int ⟨st, _, 1, rfl, rfl, hS, by decide, by simp, by decide, fun o' hS' => ?_⟩)
    have hb' : 0 ≤ (b * 40692 + 3) % 2147483399 := Int.emod_nonneg _ (by decide)
    generalize hbb : (b * 40692 + 3) % 2147483399 = b' at hS' hb'
    refine TS_cons (T1_ret (TE_mod (TE_div (TE_item (TE_name rfl (TE_int ⟨st, _, 1, vi b', rfl, .inl hS', rfl, by decide, by decide, rfl, TE_int ⟨_, _, rfl, rfl, by decide, by decide, TE_name rfl ⟨_, _, rfl, rfl, by lia, ?_⟩⟩⟩))))))
    refine ⟨(b' / 23 % (L : Int)).toNat, ?_, ?_, le_del_put, a, b', hS', ha, hb'⟩
    · rw [Int.toNat_of_nonneg (fin _).1]
    · have := fin (b' / 23); lia

theorem fn_over (S : Stat w K Hb) : Fn Hb 818 (scopeOf (stm 82)) (bodyOf (stm 82)) ["one", "other"] := Fn.of S 47 rfl rfl
theorem sp_over (S : Stat w K Hb) {a b : Nat} (hb : b = 4 ∨ b = 2) (hn : 1 ≤ n) : TC PG w Hb n (.ref 818) [vi a, vi b] D (Pure (vi (ptN a b : Nat)) D) := by
  refine TC.down hn fun n hn1 => ?_
  refine TC_def (fn_over S) rfl (TS_cons (T1_ret (TE_neg (TE_div (TE_neg (TE_name rfl ⟨_, rfl, TE_name rfl ⟨_, _, rfl, rfl, by (exact Int.ofNat_le.mpr (by lia)), by (exact Int.ofNat_le.mpr (by lia)), _, rfl, ?_, Le.refl _⟩⟩))))))
  refine congrArg vi ?_
  unfold ptN
  rcases hb with e | e <;> subst e <;> lia

theorem pickL_upto (l : List Int) (k : Nat) : pickL (intL l) none (some (k : Int)) none = intL (l.take k) := by
  unfold pickL
  rw [slicePick_upto']
  simp [intL, List.map_take]
theorem intL_at {l : List Int} {i : Nat} {u : Value} (h : (intL l)[i]? = some u) : ∃ k, u = vi k ∧ l[i]? = some k := by
  unfold intL at h
  rw [List.getElem?_map] at h
  refine ex1_2 (Option.map_eq_some_iff.mp h) fun k hk eR2 => ?_
  obtain rfl := eR2
  exact ⟨k, rfl, hk⟩
theorem fn_begun (S : Stat w K Hb) : Fn Hb 804 (scopeOf (stm 80)) (bodyOf (stm 80)) ["script"] := Fn.of S 45 rfl rfl
inductive BegP (D : DH) (v : Value) (D' : DH) : Prop
  | mk : ∀ st, ∀ uu : v = .ref st, ∀ uu : Le D D', ∀ uu : D st = none, ∀ uu : StOk D' st, BegP D v D'
theorem TC.beg {f : Value} {args : List Value} {Q : ∀ uu : Value, ∀ uu : DH, Prop} (h : TC PG w Hb n f args D (BegP D)) (k : ∀ (st : Addr) D', ∀ uu : Le D D', ∀ uu : D st = none, ∀ uu : StOk D' st, Q (.ref st) D') : TC PG w Hb n f args D Q := h.mono fun uu uu q => by
  obtain ⟨st, rfl, q0, q1, q2⟩ := q
  exact k _ _ q0 q1 q2
theorem sp_begun (S : Stat w K Hb) {sc : Addr} {ns : List Int} (h : IsL D sc (intL ns)) (hz : ns.length ≤ sizeLine) (hn : 1 ≤ n) :
    TC PG w Hb n (.ref 804) [.ref sc] D (BegP D) := by
  refine TC.down hn fun n hn1 => ?_
  refine TC_def (fn_begun S) rfl (TS_cons (T1_assign (.inl rfl) (TE_int (TS_cons ?_))))
  refine T1_for_seq (fun i ρ' D' => ∃ z : Int, ρ' = ([("stirred", vi z), ("script", .ref sc)] : List (Str × Value)) ∧ 0 ≤ z ∧ Le D D') (.inl rfl) ?_
  refine TE_slice (TE_name rfl (TEp_none (TEp_some (TE_int ⟨_, rfl, TEp_none ?_⟩))))
  refine ⟨sc, _, rfl, h, by rw [intL_len]; exact hz, nofun, fun r o hr hR => ⟨r, _, D, [("stirred", vi 29), ("script", .ref sc)], rfl, .inl hR, le_put hr, hr, RLe.refl _, ⟨29, rfl, by decide, Le.refl _⟩, fun i u ρ' D' hu iv => ?_, fun ρ' D' iv => ?_⟩⟩
  · refine ex1_3 (iv) fun z eR1 hz0 le => ?_
    try clear iv
    obtain rfl := eR1
    rw [show (16 : Int) = ((16 : Nat) : Int) from rfl, pickL_upto] at hu
    refine ex1_2 (intL_at hu) fun k eR1 uu => ?_
    obtain rfl := eR1
    refine TS_cons (T1_assign (.inl rfl) (TE_mod (TE_add (TE_add (TE_mul (TE_name rfl (TE_int ⟨_, _, rfl, rfl, by right; decide, TE_mod (TE_name rfl (TE_int ⟨_, _, rfl, rfl, by decide, ⟨_, _, rfl, rfl, TE_int ⟨_, _, rfl, rfl, TE_int ⟨_, _, rfl, rfl, by decide, TS_nil ?_⟩⟩⟩⟩))⟩)))))))
    exact ⟨_, RLe.cons rfl (RLe.cons rfl RLe.nil), _, rfl, Int.emod_nonneg _ (by decide), le⟩
  · refine ex1_3 (iv) fun z eR1 hz0 le => ?_
    try clear iv
    obtain rfl := eR1
    have last : ∀ (gr : Int) (ρ : List (Str × Value)) (D₂ : DH), ∀ uu : 0 ≤ gr, ∀ uu : ρ.lookup ("great" : Str) = some (vi gr), ∀ uu : ρ.lookup ("stirred" : Str) = some (vi z), ∀ uu : Le D D₂,
        TS PG w Hb n (scopeOf (stm 80)) ((bodyOf (stm 80)).drop 4) ρ D₂ (DefR (BegP D)) := by
      intro gr ρ D₂ hg h1 h2 l2
      have mk : ∀ (x : Int), ∀ uu : 0 ≤ x, ∀ a D₃, ∀ uu : D₂ a = none, ∀ uu : Le D₂ D₃, ∀ uu : IsL D₃ a [vi x, vi z], BegP D (Value.ref a) D₃ := fun x hx a D₃ ha l3 hL => ⟨a, rfl, l2.trans l3, l2.none ha, x, z, hL, hx, hz0⟩
      refine TS_cons (T1_ret (TE_list (TEs_cons (TE_ifexp (TB_ge (TE_name h1 (TE_pow (TE_int (TE_int ⟨_, _, rfl, rfl, by decide, by decide, by decide, ⟨_, _, rfl, rfl, fun uu => ⟨fun uu => ?_, nTF⟩, fun uu => ⟨nFT, fun uu => ?_⟩⟩⟩)))))))))
      · exact TE_name h1 (TEs_cons (TE_name h2 (TEs_nil ⟨by simp [sizeLine], fun a D₃ ha l3 hL uu => mk gr hg a D₃ ha l3 hL⟩)))
      · exact TE_int (TEs_cons (TE_name h2 (TEs_nil ⟨by simp [sizeLine], fun a D₃ ha l3 hL uu => mk 0 (by decide) a D₃ ha l3 hL⟩)))
    have mid : ∀ (gr : Int) (ρ : List (Str × Value)) (D₂ : DH), ∀ uu : ρ.lookup ("great" : Str) = some (vi gr), ∀ uu : ρ.lookup ("stirred" : Str) = some (vi z), ∀ uu : Le D D₂,
        TS PG w Hb n (scopeOf (stm 80)) ((bodyOf (stm 80)).drop 3) ρ D₂ (DefR (BegP D)) := by
      intro gr ρ D₂ h1 h2 l2
      refine TS_cons (T1_assign (.inl rfl) (TE_ifexp (TB_ge (TE_name h1 (TE_int ⟨_, _, rfl, rfl, fun hg => ⟨fun uu => TE_name h1 (last gr _ D₂ hg rfl ?_ l2), nTF⟩, fun hg => ⟨nFT, fun uu => TE_neg (TE_name h1 ⟨_, rfl, last (-gr) _ D₂ (by lia) rfl ?_ l2⟩)⟩⟩)))))
      · exact h2
      · exact h2
    refine TS_cons (T1_assign (.inl rfl) (TE_ifexp (TB_nedata (TE_name rfl (TE_list (TEs_nil ⟨by simp, fun e D₂ he l2 hE uu => ⟨.list (ns.map PyData.int), .list [], .inr ⟨sc, _, _, rfl, REs.ints ns, .inr ⟨h.le (le.trans l2), rfl⟩⟩, .inr ⟨e, [], [], rfl, .nil, .inr ⟨hE, rfl⟩⟩, ke_shaped_ints ns, rfl, fun q => ⟨nFT, fun uu => ?_⟩, fun q => ⟨fun uu => ?_, nTF⟩⟩⟩))))))
    · exact TE_int (mid 0 _ D₂ rfl rfl (le.trans l2))
    · cases ns with
      | nil => cases q
      | cons k r => exact TE_item (TE_name rfl (TE_int ⟨sc, _, 0, vi k, rfl, .inl (h.le (le.trans l2)), rfl, by decide, by decide, rfl, mid k _ D₂ rfl rfl (le.trans l2)⟩))
end

section
variable {w : World} {K : Frag} {Hb : Heap} {n : Nat} {D : DH}

-- the law's own choice of a side
noncomputable def sdLaw (s l MA MD : Nat) (c : Nat × Nat) : Nat :=
  let ok (m : Nat) : Bool := decide (m ≤ s) && decide (MA * l % (c.1 * m) = 0) && decide (MD * l % (c.2 * m) = 0)
  if ok (4 * l) then 4 * l else if ok (2 * l) then 2 * l else l
theorem sd_law {s l MA MD : Nat} {c : Nat × Nat} (hs : s ≤ 4) (hl : 1 ≤ l) (hc : 1 ≤ c.1 ∧ 1 ≤ c.2) : sd s l MA MD c 3 l = sdLaw s l MA MD c := by
  have e1 : 2 * (c.1 * l) = c.1 * (2 * l) := by rw [Nat.mul_left_comm]
  have e2 : 2 * (c.2 * l) = c.2 * (2 * l) := by rw [Nat.mul_left_comm]
  have e3 : 2 * (c.1 * (l * 2)) = c.1 * (4 * l) := by rw [Nat.mul_left_comm]; congr 1; lia
  have e4 : 2 * (c.2 * (l * 2)) = c.2 * (4 * l) := by rw [Nat.mul_left_comm]; congr 1; lia
  have big : ¬ (l * 2 * 2 * 2 ≤ s ∧ MA * l % (2 * (c.1 * (l * 2 * 2))) = 0 ∧ MD * l % (2 * (c.2 * (l * 2 * 2))) = 0) := fun q => by lia
  unfold sd
  rw [e1, e2]
  unfold sd
  rw [e3, e4]
  unfold sd
  rw [if_neg big]
  have dv : ∀ {x c : Nat}, ∀ uu : x % (c * (4 * l)) = 0, x % (c * (2 * l)) = 0 := fun {x c} h => by
    obtain ⟨k, hk⟩ := Nat.dvd_of_mod_eq_zero h
    refine Nat.mod_eq_zero_of_dvd ⟨2 * k, ?_⟩
    rw [hk, show c * (4 * l) = c * (2 * l) * 2 by rw [Nat.mul_assoc]; congr 1; lia, Nat.mul_assoc]
  unfold sdLaw
  simp only [Bool.and_eq_true, decide_eq_true_eq]
  by_cases h4 : (4 * l ≤ s ∧ MA * l % (c.1 * (4 * l)) = 0) ∧ MD * l % (c.2 * (4 * l)) = 0
  · rw [if_pos h4, if_pos ⟨by (clear dv big e4 e3 e2 e1 hc hl hs; lia), dv h4.1.2, dv h4.2⟩, if_pos ⟨by (clear dv big e4 e3 e2 e1 hc hl hs; lia), h4.1.2, h4.2⟩]; lia
  · rw [if_neg h4]
    by_cases h2 : (2 * l ≤ s ∧ MA * l % (c.1 * (2 * l)) = 0) ∧ MD * l % (c.2 * (2 * l)) = 0
    · rw [if_pos h2, if_pos ⟨by lia, h2.1.2, h2.2⟩, if_neg (fun q => h4 ⟨⟨by (clear h2 h4 dv big e4 e3 e2 e1 hc hl hs; lia), q.2.1⟩, q.2.2⟩)]; lia
    · rw [if_neg h2, if_neg (fun q => h2 ⟨⟨by (clear h2 h4 dv big e4 e3 e2 e1 hc hl hs; lia), q.2.1⟩, q.2.2⟩)]

theorem fn_law_side (S : Stat w K Hb) : Fn Hb 830 (scopeOf (stm 84)) (bodyOf (stm 84)) ["pair", "most_pair", "side", "less_side"] := Fn.of S 49 rfl rfl
theorem sp_law_side (S : Stat w K Hb) {s l MA MD : Nat} {c : Nat × Nat} {pa mp : Addr} (hp : IsT D pa [vi c.1, vi c.2]) (hm : IsT D mp [vi MA, vi MD]) (hl : 1 ≤ l ∧ l ≤ 4) (hc : 1 ≤ c.1 ∧ 1 ≤ c.2) (hs : s ≤ 4) (hn : 1 ≤ n) :
    TC PG w Hb n (.ref 830) [.ref pa, .ref mp, vi s, vi l] D (Pure (vi (sd s l MA MD c 3 l)) D) := by
  refine TC.down hn fun n hn1 => ?_
  rw [sd_law hs hl.1 hc]
  let ok (m : Nat) : Bool := decide (m ≤ s) && decide (MA * l % (c.1 * m) = 0) && decide (MD * l % (c.2 * m) = 0)
  let fnd : ∀ uu : Nat, Nat := fun i => if i = 0 then l else if i = 1 then (if ok (2 * l) then 2 * l else l) else sdLaw s l MA MD c
  refine TC_def (fn_law_side S) rfl (TS_cons (T1_assign (.inl rfl) (TE_name rfl (TS_cons ?_))))
  refine T1_for_seq (fun i ρ' D' => ρ' = ([("found", vi (fnd i)), ("pair", .ref pa), ("most_pair", .ref mp), ("side", vi s), ("less_side", vi l)] : List (Str × Value)) ∧ Le D D') (.inl rfl) ?_
  refine TE_tuple (TEs_cons (TE_mul (TE_int (TE_name rfl ⟨_, _, rfl, rfl, by left; decide, TEs_cons (TE_mul (TE_int (TE_name rfl ⟨_, _, rfl, rfl, by left; decide, TEs_nil ⟨by simp [sizeLine], fun t D1 ht l1 hT uu => ?_⟩⟩)))⟩))))
  refine ⟨t, _, D, _, rfl, .inr hT, l1, ht, RLe.cons rfl (RLe.cons rfl (RLe.cons rfl (RLe.cons rfl (RLe.cons rfl RLe.nil)))), ⟨rfl, Le.refl _⟩, fun i u ρ' D' hu iv => ?_, fun ρ' D' iv => ?_⟩
  · obtain ⟨rfl, le⟩ := iv
    -- the two turns
    have turn : ∀ (m : Nat), ∀ uu : 1 ≤ m, ∀ uu : m ≤ 16, ∀ uu : (fnd (i + 1) = if ok m then m else fnd i), ∀ uu : u = vi m, ∀ (Q : ∀ uu : Flow, ∀ uu : List (Str × Value), ∀ uu : DH, Prop),
        (∀ ρ', ∀ uu : RLe [("found", vi (fnd (i + 1))), ("pair", .ref pa), ("most_pair", .ref mp), ("side", vi s), ("less_side", vi l)] ρ', Q .next ρ' D') →
        TS PG w Hb n (scopeOf (stm 84)) (forBody (((bodyOf (stm 84))[1]?).getD (.Pass default))) [("more", u), ("found", vi (fnd i)), ("pair", .ref pa), ("most_pair", .ref mp), ("side", vi s), ("less_side", vi l)] D' Q := by
      intro m hm1 hm2 hf hu Q k
      subst hu
      have no : ∀ uu : ok m = false, Q .next [("more", vi m), ("found", vi (fnd i)), ("pair", .ref pa), ("most_pair", .ref mp), ("side", vi s), ("less_side", vi l)] D' := fun h =>
        k _ (RLe.cons (by rw [hf, h]; rfl) (RLe.cons rfl (RLe.cons rfl (RLe.cons rfl (RLe.cons rfl RLe.nil)))))
      have c1 : (0 : Int) < ((c.1 * m : Nat) : Int) := by have : 1 * 1 ≤ c.1 * m := Nat.mul_le_mul hc.1 hm1; (exact Int.ofNat_lt.mpr (by assumption))
      have c2 : (0 : Int) < ((c.2 * m : Nat) : Int) := by have : 1 * 1 ≤ c.2 * m := Nat.mul_le_mul hc.2 hm1; (clear c1 no hu k hf hm2 hm1 le hT l1 ht hn hn1 hs hc hl hm hp S; (exact Int.ofNat_lt.mpr (by assumption)))
      refine TS_cons (T1_if (TB_bool (TAll_and (TB_le (TE_name rfl (TE_name rfl ⟨_, _, rfl, rfl, fun h1 => ⟨fun uu => TAll_and ?_, nTF⟩, fun h1 => ⟨nFT, fun uu => ⟨nFT, fun uu => TS_nil (TS_nil (no ?_))⟩⟩⟩))))))
      · refine TB_eq (TE_mod (TE_mul (TE_item (TE_name rfl (TE_int ⟨mp, _, 0, vi MA, rfl, .inr (hm.le le), rfl, by decide, by decide, rfl, TE_name rfl ⟨_, _, rfl, rfl, by right; (clear h1 c2 c1 no hu k hf hm2 hm1 le hT l1 ht hn hn1 hs hc hm hp S; omega), TE_mul (TE_item (TE_name rfl (TE_int ⟨pa, _, 0, vi c.1, rfl, .inr (hp.le le), rfl, by decide, by decide, rfl, TE_name rfl ⟨_, _, rfl, rfl, by right; (clear h1 c2 c1 no hu k hf hm1 le hT l1 ht hn hn1 hs hc hl hm hp S; (exact Nat.lt_of_le_of_lt (by assumption) (by decide))), ?_⟩⟩)))⟩⟩)))))
        rw [← Int.natCast_mul, ← Int.natCast_mul]
        refine ⟨_, _, rfl, rfl, c1, TE_int ⟨_, _, rfl, rfl, fun h2 => ⟨fun uu => TAll_and ?_, nTF⟩, fun h2 => ⟨nFT, fun uu => ⟨nFT, fun uu => TS_nil (TS_nil (no ?_))⟩⟩⟩⟩
        · refine TB_eq (TE_mod (TE_mul (TE_item (TE_name rfl (TE_int ⟨mp, _, 1, vi MD, rfl, .inr (hm.le le), rfl, by decide, by decide, rfl, TE_name rfl ⟨_, _, rfl, rfl, by right; omega, TE_mul (TE_item (TE_name rfl (TE_int ⟨pa, _, 1, vi c.2, rfl, .inr (hp.le le), rfl, by decide, by decide, rfl, TE_name rfl ⟨_, _, rfl, rfl, by right; (exact Nat.lt_of_le_of_lt (by assumption) (by decide)), ?_⟩⟩)))⟩⟩)))))
          rw [← Int.natCast_mul, ← Int.natCast_mul]
          refine ⟨_, _, rfl, rfl, c2, TE_int ⟨_, _, rfl, rfl, fun h3 => ⟨fun uu => TAll_and_nil ⟨fun uu => ?_, nTF⟩, nTF⟩, fun h3 => ⟨nFT, fun uu => ⟨nFT, fun uu => TS_nil (TS_nil (no ?_))⟩⟩⟩⟩
          · have hok : ok m = true := by
              simp only [ok, Bool.and_eq_true, decide_eq_true_eq]
              exact ⟨⟨by lia, by lia⟩, by lia⟩
            exact TS_cons (T1_assign (.inl rfl) (TE_name rfl (TS_nil (TS_nil (k _ (RLe.cons (by rw [hf, hok]; rfl) (RLe.cons rfl (RLe.cons rfl (RLe.cons rfl (RLe.cons rfl RLe.nil))))))))))
          · simp only [ok, Bool.and_eq_false_iff, decide_eq_false_iff_not]
            right; lia
        · simp only [ok, Bool.and_eq_false_iff, decide_eq_false_iff_not]
          left; right; lia
      · simp only [ok, Bool.and_eq_false_iff, decide_eq_false_iff_not]
        left; left; lia
    match i, hu with
    | 0, hu => exact turn (2 * l) (by lia) (by lia) rfl (by cases hu; exact congrArg vi (by (constructor <;> intro hZ <;> omega))) _ fun ρ' h => ⟨_, h, rfl, le⟩
    | 1, hu => exact turn (4 * l) (by lia) (by lia) rfl (by cases hu; exact congrArg vi (by (constructor <;> intro hZ <;> omega))) _ fun ρ' h => ⟨_, h, rfl, le⟩
  · obtain ⟨rfl, le⟩ := iv
    exact TS_cons (T1_ret (TE_name rfl ⟨rfl, le⟩))
end

section
variable {w : World} {K : Frag} {Hb : Heap} {n : Nat} {D : DH}

theorem keepDel {b st : Addr} {us : List Value} (hne : b ≠ st) (h : IsL D b us) : IsL (del D [st]) b us := let ⟨vs, m, z1, z2⟩ := h; ⟨vs, m, by rw [del_at (by simpa using hne)]; exact z1, z2⟩
theorem tupDel {b st : Addr} {us vs : List Value} (hs : IsL D st vs) (h : IsT D b us) : IsT (del D [st]) b us := by
  obtain ⟨ws, m, z1, z2⟩ := h
  have : b ≠ st := fun q => by subst q; obtain ⟨ws', m', y, _⟩ := hs; rw [z1] at y; exact absurd (congrArg Obj.cls (Option.some.inj y)) (by intro q; injection q with q; exact absurd q (by decide))
  exact ⟨ws, m, by rw [del_at (by simpa using this)]; exact z1, z2⟩
theorem instDel {a st C : Addr} {fs : List (Str × Value)} {vs : List Value} (hs : IsL D st vs) (h : Inst D a C fs) : Inst (del D [st]) a C fs :=
  Rows.inst (ra := [st]) (m := fun uu => vs) (fun i b e => by
    have hi := (List.getElem?_eq_some_iff.mp e).1
    have : i = 0 := by simp at hi; exact hi
    subst this; obtain rfl := (Option.some.inj e).symm; exact hs) h
-- the pairs of the law
structure IsPairs (D : DH) (us : List Value) (cs : List (Nat × Nat)) : Prop where mk ::
  h1 : us.length = cs.length
  h2 : ∀ (i : Nat) (u : Value), ∀ uu : us[i]? = some u, ∃ (a : Addr) (c : Nat × Nat), u = .ref a ∧ cs[i]? = some c ∧ IsT D a [vi c.1, vi c.2]
theorem IsPairs.le {D D' : DH} {us : List Value} {cs : List (Nat × Nat)} (k : Le D D') (h : IsPairs D us cs) : IsPairs D' us cs := ⟨h.1, fun i u e => ex2_3 (h.2 i u e) fun a c x y z => ⟨a, c, x, y, z.le k⟩⟩
theorem IsPairs.del {st : Addr} {us vs : List Value} {cs : List (Nat × Nat)} (hs : IsL D st vs) (h : IsPairs D us cs) : IsPairs (del D [st]) us cs := ⟨h.1, fun i u e => ex2_3 (h.2 i u e) fun a c x y z => ⟨a, c, x, y, tupDel hs z⟩⟩
theorem StOk.list {st : Addr} (h : StOk D st) : ∃ vs, IsL D st vs := let ⟨_, _, x, _, _⟩ := h; ⟨_, x⟩

theorem tupPut {b pr : Addr} {us vs : List Value} {o : Obj} (hp : IsL D pr vs) (h : IsT D b us) : IsT (put D pr o) b us := by
  obtain ⟨ws, m, z1, z2⟩ := h
  have : b ≠ pr := fun q => by subst q; obtain ⟨ws', m', y, _⟩ := hp; rw [z1] at y; exact absurd (congrArg Obj.cls (Option.some.inj y)) (by intro q; injection q with q; exact absurd q (by decide))
  exact ⟨ws, m, by rw [put_ne this]; exact z1, z2⟩
theorem StOk.off {st b : Addr} (h : StOk D st) (hb : D b = none) : b ≠ st := by
  obtain ⟨_, v⟩ := h.list
  exact v.off hb
theorem StOk.put {st b : Addr} {o : Obj} (hne : st ≠ b) (h : StOk D st) : StOk (put D b o) st := let ⟨a, c, x, y, z⟩ := h; ⟨a, c, keepL hne x, y, z⟩
theorem IsComps.del {st : Addr} {us vs : List Value} {cs : List (Int × Int)} (hs : IsL D st vs) (h : IsComps D us cs) : IsComps (Mine.del D [st]) us cs := ⟨h.1, fun i u e => ex4_3 (h.2 i u e) fun a id q c x y z => ⟨a, id, q, c, x, y, instDel hs z⟩⟩

theorem fn_law_frame (S : Stat w K Hb) : Fn Hb 823 (scopeOf (stm 83)) (bodyOf (stm 83)) ["state", "side"] := Fn.of S 48 rfl rfl
inductive LawFrP (st : Addr) (s : Nat) (D : DH) (v : Value) (D' : DH) : Prop
  | mk : ∀ (t fr pr : Addr) (us : List Value) (cs : List (Nat × Nat)) (H W : Nat), ∀ uu : v = .ref t, ∀ uu : Le (del D [st]) D', ∀ uu : StOk D' st, ∀ uu : IsT (del D' [st]) t [.ref fr, .ref pr], ∀ uu : IsFr (del D' [st]) fr H W s (castC cs), ∀ uu : IsL (del D' [st]) pr us, ∀ uu : IsPairs (del D' [st]) us cs, ∀ uu : (1 ≤ cs.length ∧ cs.length ≤ 4 ∧ cs.length ≠ 2), ∀ uu : (1 ≤ W ∧ W ≤ 11), ∀ uu : (1 ≤ H ∧ H ≤ 11), ∀ uu : (∀ c, ∀ uu : c ∈ cs, (1 ≤ c.1 ∧ c.1 ≤ 4) ∧ (1 ≤ c.2 ∧ c.2 ≤ 4)), LawFrP st s D v D'
theorem many3 {r : Nat} (hr : r < 3) : ∃ N : Nat, ([vi 3, vi 1, vi 4] : List Value)[(r : Int).toNat]? = some (vi N) ∧ (1 ≤ N ∧ N ≤ 4 ∧ N ≠ 2) := by
  have : r = 0 ∨ r = 1 ∨ r = 2 := by lia
  rcases this with rfl | rfl | rfl
  · exact ⟨3, rfl, by decide⟩
  · exact ⟨1, rfl, by decide⟩
  · exact ⟨4, rfl, by decide⟩
inductive PairsInv (ρ₀ : List (Str × Value)) (D : DH) (st pr : Addr) (k : Nat) (ρ' : List (Str × Value)) (D' : DH) : Prop
  | mk : ∀ uu : ρ' = ρ₀, ∀ uu : Le (del D [st]) D', ∀ uu : StOk D' st, ∀ (us : List Value) (cs : List (Nat × Nat)), ∀ uu : IsL D' pr us, ∀ uu : IsPairs D' us cs, ∀ uu : cs.length = k, ∀ uu : (∀ c, ∀ uu : c ∈ cs, (1 ≤ c.1 ∧ c.1 ≤ 4) ∧ (1 ≤ c.2 ∧ c.2 ≤ 4)), PairsInv ρ₀ D st pr k ρ' D'
theorem sp_law_frame (S : Stat w K Hb) {st : Addr} {s : Nat} (hst : StOk D st) (hn : 3 ≤ n) :
    TC PG w Hb n (.ref 823) [.ref st, vi s] D (LawFrP st s D) := by
  refine TC.down hn fun n hn1 => ?_
  refine TC_def (fn_law_frame S) rfl (TS_cons (T1_assign (.inr rfl) (TE_list (TEs_nil ⟨by simp, fun pr D1 hpr l1 hP uu => ?_⟩))))
  have hne : pr ≠ st := hst.off hpr
  have d1 : Le (del D [st]) D1 := del_le.trans l1
  refine TS_cons (T1_for_range (PairsInv ([("pairs", .ref pr), ("state", .ref st), ("side", vi s)] : List (Str × Value)) D st pr) (.inl rfl) ?_)
  refine TE_bcall S rfl rfl (TEs_cons (TE_item (TE_list (TEs_cons (TE_int (TEs_cons (TE_int (TEs_cons (TE_int (TEs_nil ⟨by simp [sizeLine], fun m D2 hm l2 hM uu => ?_⟩))))))))))
  have d2 := d1.trans l2
  refine TE_gcall S rfl rfl (TEs_cons (TE_name rfl (TEs_cons (TE_int (TEs_nil ?_)))))
  have hst2 := hst.le (l1.trans l2)
  refine TC.next (sp_next S (L := 3) hst2 (by decide) (by (exact Nat.le_of_lt (by assumption)))) fun r D3 hr l3 hst3 => ?_
  obtain ⟨vs2, hv2⟩ := hst2.list
  have hmst : m ≠ st := (hst.le l1).off hm
  have hM3 : IsL D3 m [vi 3, vi 1, vi 4] := (keepDel hmst hM).le l3
  have hP3 : IsL D3 pr [] := (keepDel hne (hP.le l2)).le l3
  have d3 : Le (del D [st]) D3 := (le_del d2 fun a ha => del_none ha).trans l3
  obtain ⟨N, hN, hN2⟩ := many3 hr
  refine ⟨m, _, _, _, rfl, .inl hM3, rfl, by (exact Int.natCast_nonneg _), by (exact Int.ofNat_le.mpr (by lia)), hN, TEs_nil ?_⟩
  obtain ⟨s1, s2⟩ := range_small (b := (N : Int)) (by lia)
  refine TC_range1 fun rg o hrg hR => ⟨rg, _, _, _, D3, [("pairs", .ref pr), ("state", .ref st), ("side", vi s)], N, rfl, hR, s1, by simpa using s2, le_put hrg, RLe.refl _, ⟨rfl, d3, hst3, [], [], hP3, ⟨rfl, fun uu uu h => (nil_at h).elim⟩, rfl, nofun⟩, fun i ρ' D' hi iv => ?_, fun ρ' D' iv => ?_⟩
  · obtain ⟨rfl, le, hs, us, cs, hL, hpp, hcl, hcb⟩ := iv
    refine TS.abs fun QB1 kB1 => ?_
    refine TS_cons (T1_expr (TE_append (TE_name rfl ⟨pr, _, rfl, hL, TE_tuple (TEs_cons (TE_add (TE_int (TE_gcall S rfl rfl (TEs_cons (TE_name rfl (TEs_cons (TE_int (TEs_nil ?_)))))))))⟩)))
    refine TC.next (sp_next S (L := 4) hs (by decide) (by lia)) fun a D4 ha l4 hs4 => ?_
    refine ⟨_, _, rfl, rfl, TEs_cons (TE_add (TE_int (TE_gcall S rfl rfl (TEs_cons (TE_name rfl (TEs_cons (TE_int (TEs_nil ?_))))))))⟩
    refine TC.next (sp_next S (L := 4) hs4 (by decide) (by lia)) fun b D5 hb l5 hs5 => ?_
    refine ⟨_, _, rfl, rfl, TEs_nil ⟨by simp [sizeLine], fun t D6 ht l6 hT uu => ?_⟩⟩
    obtain ⟨vs, hv⟩ := hs.list
    obtain ⟨vs4, hv4⟩ := hs4.list
    have up : ∀ {x : Addr} {us : List Value}, ∀ uu : x ≠ st, ∀ uu : IsL D' x us, IsL D6 x us := fun hx h => ((keepDel hx ((keepDel hx h).le l4)).le l5).le l6
    have pp := (((hpp.del hv).le l4).del hv4).le (l5.trans l6)
    have hP6 := up hne hL
    have hpn : del D [st] pr = none := by rw [del_at (by simpa using hne)]; exact hpr
    have lf : Le (del D [st]) D6 := ((le_del ((le_del le fun a ha => del_none ha).trans l4) fun a ha => del_none ha).trans l5).trans l6
    refine ⟨_, hP6, by rw [hpp.1]; unfold sizeLine; lia, fun o' hL' => TS_nil (kB1 _ _ _ ⟨_, RLe.cons rfl (RLe.cons rfl (RLe.cons rfl RLe.nil)), ⟨rfl, le_put' lf hpn, ?_, us ++ [.ref t], cs ++ [(1 + a, 1 + b)], hL', ?_, by simp [hcl], ?_⟩⟩)⟩
    · exact (hs5.le l6).put (Ne.symm hne)
    · refine ⟨by simp [hpp.1], fun j u hu => ?_⟩
      by_cases hlt : j < us.length
      · rw [List.getElem?_append_left hlt] at hu
        refine ex2_3 (pp.2 j u hu) fun x c e1 e2 e3 => ?_
        exact ⟨x, c, e1, by rw [List.getElem?_append_left (by rw [← hpp.1]; exact hlt)]; exact e2, tupPut hP6 e3⟩
      · rw [List.getElem?_append_right (by lia)] at hu
        have hj : j - us.length = 0 := by have := (List.getElem?_eq_some_iff.mp hu).1; simp at this; omega
        rw [hj] at hu; obtain rfl := (Option.some.inj hu).symm
        refine ⟨t, (1 + a, 1 + b), rfl, by rw [List.getElem?_append_right (by rw [← hpp.1]; lia), ← hpp.1, hj]; rfl, tupPut hP6 ?_⟩
        have e1 : ((1 + a : Nat) : Int) = 1 + (a : Int) := by (constructor <;> intro hZ <;> omega)
        have e2 : ((1 + b : Nat) : Int) = 1 + (b : Int) := by lia
        simp only [e1, e2]; exact hT
    · intro c hc
      rcases List.mem_append.mp hc with hc | hc
      · exact hcb c hc
      · rw [List.mem_singleton.mp hc]; simp only; (and_intros <;> lia)
  · obtain ⟨rfl, le, hs, us, cs, hL, hpp, hcl, hcb⟩ := iv
    have hul : us.length = N := by rw [hpp.1, hcl]
    refine TS_cons (T1_assign_comp [("pairs", .ref pr)] rfl rfl (RLe.cons rfl RLe.nil) (TE_bcall S rfl rfl (TEs_cons (TE_bcall S rfl rfl (TEs_cons (TE_name rfl (TEs_nil ?_)))))) (by rintro ⟨⟩ rfl; rfl))
    refine TC_len (.inl hL) (by lia) (TEs_nil ?_)
    rw [hul]
    refine TC_range1 fun rg2 o2 hrg2 hR2 => ⟨rg2, _, rfl, .range hR2 s1 s2, by simp [sizeLine]; lia, ?_⟩
    refine ⟨fun i out D₂ => Le (put D' rg2 o2) D₂ ∧ IsComps D₂ out (castC (cs.take i)), ⟨Le.refl _, rfl, fun uu uu h => (nil_at h).elim⟩, fun i out D₂ q o e => q.1 _ _ e, fun i u out D₂ hu q => ⟨_, Asg_name rfl, ?_⟩, fun out D4 q hl o4 hhl hHL => ?_⟩
    · obtain ⟨l0, hc⟩ := q
      have hi : i < N := by have := (List.getElem?_eq_some_iff.mp hu).1; simpa using this
      rw [List.getElem?_map, List.getElem?_range (by simpa using hi)] at hu
      obtain rfl := (Option.some.inj hu).symm
      have l1' := (le_put (o := o2) hrg2).trans l0
      have hui : us[i]? = some us[i] := List.getElem?_eq_getElem (by omega)
      refine ex2_3 (hpp.2 i _ hui) fun x c ex ec hX => ?_
      refine CTurn_nil (TE_gcall S rfl rfl (TEs_cons (TE_add (TE_name rfl (TE_int ⟨_, _, rfl, rfl, TEs_cons ?_⟩)))))
      refine TE_item (TE_item (TE_name rfl (TE_name rfl ⟨pr, _, i, us[i], rfl, .inl (hL.le l1'), congrArg vi (show (0 + (i : Int) * 1) = (i : Int) by lia), by lia, by lia, by simpa using hui, TE_int ⟨x, _, 0, vi c.1, ex, .inr (hX.le l1'), rfl, by decide, by decide, rfl, TEs_cons ?_⟩⟩)))
      refine TE_item (TE_item (TE_name rfl (TE_name rfl ⟨pr, _, i, us[i], rfl, .inl (hL.le l1'), congrArg vi (show (0 + (i : Int) * 1) = (i : Int) by lia), by lia, by lia, by simpa using hui, TE_int ⟨x, _, 1, vi c.2, ex, .inr (hX.le l1'), rfl, by decide, by decide, rfl, TEs_cons (TE_int (TEs_nil ?_))⟩⟩)))
      refine TC.newI (sp_Component S (by omega)) fun y D5 l5 hY => ?_
      refine ⟨l0.trans l5, ?_⟩
      have hlen : out.length = i := by rw [hc.1]; simp [castC]; lia
      refine ⟨by simp [hlen, castC]; lia, fun j u hu => ?_⟩
      by_cases hlt : j < i
      · rw [List.getElem?_append_left (by lia)] at hu
        refine ex4_3 (hc.2 j u hu) fun a id q c' x1 x2 x3 => ?_
        refine ⟨a, id, q, c', x1, ?_, x3.le l5⟩
        unfold castC at x2 ⊢
        rw [List.getElem?_map, List.getElem?_take_of_lt hlt] at x2
        rw [List.getElem?_map, List.getElem?_take_of_lt (by lia)]; exact x2
      · rw [List.getElem?_append_right (by lia)] at hu
        have hj : j - out.length = 0 := by have := (List.getElem?_eq_some_iff.mp hu).1; simp at this; omega
        rw [hj] at hu; obtain rfl := (Option.some.inj hu).symm
        obtain rfl : j = i := by lia
        refine ⟨y, _, _, (c.1, c.2), rfl, ?_, hY⟩
        unfold castC
        rw [List.getElem?_map, List.getElem?_take_of_lt (by lia), ec]; rfl
    · obtain ⟨l0, hc⟩ := q
      rw [List.take_of_length_le (by simp; lia)] at hc
      have l4 : Le D' (put D4 hl o4) := ((le_put hrg2).trans l0).trans (le_put hhl)
      have hlst : hl ≠ st := (hs.le ((le_put hrg2).trans l0)).off hhl
      have hlpr : hl ≠ pr := (hL.le ((le_put hrg2).trans l0)).off hhl
      have hc5 := hc.le (le_put (o := o4) hhl)
      generalize put D4 hl o4 = D5 at hHL l4 hc5 ⊢
      have hs5 := hs.le l4
      obtain ⟨v5, hv5⟩ := hs5.list
      refine TS_cons (T1_ret (TE_tuple (TEs_cons (TE_gcall S rfl rfl (TEs_cons (TE_str (TEs_cons (TE_int (TEs_cons (TE_add (TE_int (TE_gcall S rfl rfl (TEs_cons (TE_name rfl (TEs_cons (TE_int (TEs_nil ?_)))))))))))))))))
      refine TC.next (sp_next S (L := 9) hs5 (by decide) (by lia)) fun a D6 ha l6 hs6 => ?_
      refine ⟨_, _, rfl, rfl, TEs_cons (TE_add (TE_int (TE_gcall S rfl rfl (TEs_cons (TE_name rfl (TEs_cons (TE_int (TEs_nil ?_))))))))⟩
      obtain ⟨v6, hv6⟩ := hs6.list
      refine TC.next (sp_next S (L := 11) hs6 (by decide) (by lia)) fun b D7 hb l7 hs7 => ?_
      refine ⟨_, _, rfl, rfl, TEs_cons (TE_name rfl (TEs_cons (TE_name rfl (TEs_nil ?_))))⟩
      have hHL7 := (keepDel hlst ((keepDel hlst hHL).le l6)).le l7
      have hL7 := (keepDel hne ((keepDel hne (hL.le l4)).le l6)).le l7
      have hc7 := (((hc5.del hv5).le l6).del hv6).le l7
      have hp7 := ((((hpp.le l4).del hv5).le l6).del hv6).le l7
      refine TC.newI (sp_Frame S (by omega)) fun fr D8 l8 hF => ?_
      refine TEs_cons (TE_name rfl (TEs_nil ⟨by simp [sizeLine], fun t D9 ht l9 hT uu => ?_⟩))
      have hs9 := (hs7.le l8).le l9
      obtain ⟨v9, hv9⟩ := hs9.list
      have e1 : (1 : Int) + (a : Int) = ((1 + a : Nat) : Int) := by lia
      have e2 : (1 : Int) + (b : Int) = ((1 + b : Nat) : Int) := by lia
      rw [e1, e2] at hF
      have l89 := l8.trans l9
      refine ⟨t, fr, pr, us, cs, 1 + a, 1 + b, rfl, ?_, hs9, tupDel hv9 hT, ⟨hl, out, instDel hv9 (hF.le l9), keepDel hlst (hHL7.le l89), (hc7.le l89).del hv9⟩, keepDel hne (hL7.le l89), (hp7.le l89).del hv9, by lia, by lia, by lia, hcb⟩
      exact ((le_del ((le_del (le.trans l4) fun a ha => del_none ha).trans l6) fun a ha => del_none ha).trans l7).trans l89
end

section
variable {w : World} {K : Frag} {Hb : Heap} {n : Nat} {D : DH}

-- a block that makes rows, each of its own
theorem CompOf_rows {sc cs : Scope} {ρf : List (Str × Value)} {target elt : Expr} {r : Addr} {us row : List Value} {D' : DH} {Fin : ∀ uu : List Value, ∀ uu : DH, Prop}
    (h : ∀ (i : Nat) (u : Value) (D₂ : DH), ∀ uu : us[i]? = some u, ∀ uu : Le D' D₂, ∃ β, Asg PG w (relab cs sc) target u D₂ β ∧ TE PG w Hb n (relab cs sc) elt (β ++ ρf) D₂ (fun v D₃ => ∃ x, v = .ref x ∧ D₂ x = none ∧ Le D₂ D₃ ∧ IsL D₃ x row))
    (fin : ∀ (ra : List Addr) D₂, ∀ uu : Le D' D₂, ∀ uu : ra.length = us.length, ∀ uu : ra.Nodup, ∀ uu : (∀ a, ∀ uu : a ∈ ra, D' a = none ∧ IsL D₂ a row), Fin (ra.map Value.ref) D₂) : CompOf PG w Hb n sc cs target elt [] ρf r us D' Fin := by
  refine ⟨fun i out D₂ => ∃ ra : List Addr, out = ra.map Value.ref ∧ ra.length = i ∧ ra.Nodup ∧ (∀ a, ∀ uu : a ∈ ra, D' a = none ∧ IsL D₂ a row) ∧ Le D' D₂, ⟨[], rfl, rfl, List.nodup_nil, nofun, Le.refl _⟩,
    fun i out D₂ q o e => let ⟨_, _, _, _, _, z⟩ := q; z _ _ e, fun i u out D₂ hu q => ?_, fun out D₂ q => let ⟨ra, e, hl, nd, fr, le⟩ := q; e ▸ fin ra D₂ le hl nd fr⟩
  refine ex1_5 (q) fun ra eR1 hl nd fr le => ?_
  try clear q
  obtain rfl := eR1
  refine ex1_2 (h i u D₂ hu le) fun β as te => ?_
  refine ⟨β, as, CTurn_nil (te.mono fun v D₃ z => ?_)⟩
  refine ex1_4 (z) fun x eR1 hx l3 hL => ?_
  try clear z
  obtain rfl := eR1
  refine ⟨ra ++ [x], by simp, by simp [hl], ?_, fun a ha => ?_, le.trans l3⟩
  · rw [List.nodup_append]
    refine ⟨nd, by simp, fun a ha b hb => ?_⟩
    rw [List.mem_singleton.mp hb]
    exact ne_fresh hx (fr a ha).2
  · rcases List.mem_append.mp ha with ha | ha
    · exact ⟨(fr a ha).1, (fr a ha).2.le l3⟩
    · rw [List.mem_singleton.mp ha]; exact ⟨le.none hx, hL⟩

-- the grid, its rows apart
inductive GridM (D : DH) (gr : Addr) (s : Nat) (RR : List (List Addr)) : Prop
  | mk : ∀ (gp : Addr) (ps : List Addr), ∀ uu : Inst D gr 793 (gridF s gp), ∀ uu : IsL D gp (ps.map Value.ref), ∀ uu : ps.length = RR.length, ∀ uu : (∀ (p : Nat) (ra : List Addr), ∀ uu : RR[p]? = some ra, ∃ pm, ps[p]? = some pm ∧ IsL D pm (ra.map Value.ref)), GridM D gr s RR
theorem GridM.le {D D' : DH} {gr : Addr} {s : Nat} {RR : List (List Addr)} (k : Le D D') (h : GridM D gr s RR) : GridM D' gr s RR :=
  let ⟨gp, ps, a, b, c, d⟩ := h; ⟨gp, ps, a.le k, b.le k, c, fun p ra e => let ⟨pm, x, y⟩ := d p ra e; ⟨pm, x, y.le k⟩⟩

theorem instPut {a C b : Addr} {fs : List (Str × Value)} {us : List Value} {o : Obj} (hb : IsL D b us) (h : Inst D a C fs) : Inst (put D b o) a C fs := by
  obtain ⟨d, e, es, n, e', r⟩ := h
  obtain ⟨vs, m, z, _⟩ := hb
  have n1 : a ≠ b := fun q => by subst q; rw [e] at z; cases z
  have n2 : d ≠ b := fun q => by subst q; rw [e'] at z; exact absurd (congrArg Obj.data (Option.some.inj z)) (fun q => Data.noConfusion q)
  exact ⟨d, by rw [put_ne n1]; exact e, es, n, by rw [put_ne n2]; exact e', r⟩

section
variable {fr : Addr} {H W s MA MD : Nat} {cs : List (Nat × Nat)}
noncomputable def padW (W s MA : Nat) (c : Nat × Nat) : Nat := ptN W (s * MA) * c.1
noncomputable def padH (H s MD : Nat) (c : Nat × Nat) : Nat := ptN H (s * MD) * c.2
theorem fn_Grid (S : Stat w K Hb) : Fn Hb 776 (scopeOf (met 78 0)) (bodyOf (met 78 0)) ["self", "frame"] := Fn.of S 42 rfl rfl
inductive GridP (D : DH) (H : Nat) (W : Nat) (s : Nat) (MA : Nat) (MD : Nat) (cs : List (Nat × Nat)) (v : Value) (D' : DH) : Prop
  | mk : ∀ (gr : Addr) (RR : List (List Addr)), ∀ uu : v = .ref gr, ∀ uu : Le D D', ∀ uu : (∀ a, ∀ uu : a ∈ RR.flatten, D a = none), ∀ uu : RR.flatten.Nodup, ∀ uu : GridM (del D' RR.flatten) gr s RR, ∀ uu : RR.length = cs.length, ∀ uu : (∀ (p : Nat) (c : Nat × Nat) (ra : List Addr), ∀ uu : cs[p]? = some c, ∀ uu : RR[p]? = some ra, ra.length = padH H s MD c ∧ ∀ a, ∀ uu : a ∈ ra, IsL D' a (List.replicate (padW W s MA c) .none)), GridP D H W s MA MD cs v D'
inductive GridRow (D' : DH) (gp : Addr) (H W s MA MD : Nat) (cs : List (Nat × Nat)) (ps : List Addr) (RR : List (List Addr)) (i : Nat) (ra : List Addr) : Prop
  | mk : ∀ (pm : Addr) (c : Nat × Nat), ∀ uu : ps[i]? = some pm, ∀ uu : cs[i]? = some c, ∀ uu : pm ≠ gp, ∀ uu : pm ∉ RR.flatten, ∀ uu : IsL D' pm (ra.map Value.ref), ∀ uu : ra.length = padH H s MD c, ∀ uu : (∀ a, ∀ uu : a ∈ ra, IsL D' a (List.replicate (padW W s MA c) .none)), GridRow D' gp H W s MA MD cs ps RR i ra
inductive GridInv (ρ₀ : List (Str × Value)) (D : DH) (x gp : Addr) (H W s MA MD : Nat) (cs : List (Nat × Nat)) (p : Nat) (ρ' : List (Str × Value)) (D' : DH) : Prop
  | mk : ∀ uu : ρ' = ρ₀, ∀ uu : Le D D', ∀ uu : Inst D' x 793 (gridF s gp), ∀ (ps : List Addr) (RR : List (List Addr)), ∀ uu : IsL D' gp (ps.map Value.ref), ∀ uu : ps.length = p, ∀ uu : RR.length = p, ∀ uu : RR.flatten.Nodup, ∀ uu : (∀ a, ∀ uu : a ∈ RR.flatten, D a = none ∧ a ≠ gp ∧ ∃ us, IsL D' a us),
    (∀ (i : Nat) (ra : List Addr), ∀ uu : RR[i]? = some ra, GridRow D' gp H W s MA MD cs ps RR i ra) → GridInv ρ₀ D x gp H W s MA MD cs p ρ' D'
theorem sp_Grid (S : Stat w K Hb) (hf : IsFr D fr H W s (castC cs)) (g : GeoN H W s MA MD cs) (hn : 5 ≤ n) :
    TC PG w Hb n (.ref 793) [.ref fr] D (GridP D H W s MA MD cs) := by
  refine TC.down hn fun n h1 => ?_
  have hA := g.MA
  have hB := g.MD
  have hl4 := g.len
  have hs4 : s ≤ 4 ∧ 2 ≤ s := by rcases g.hs with e | e <;> (and_intros <;> lia)
  have hWH := And.intro g.hW g.hH
  refine TC_newK S rfl rfl fun x dd hx hd hne => ?_
  refine TC.down h1 fun n h2 => ?_
  refine TC_def (fn_Grid S) rfl ?_
  have i0 := new_isI (D := D) (C := 793) hne
  have l0 : Le D (put (put D dd emptyDict) x (instObj 793 dd)) := le_new hx hd
  obtain ⟨cl, us, hI, hL, hlen, hC⟩ := id hf
  have hlen' : us.length = cs.length := by rw [hlen]; simp [castC]
  have A1 := S.at (C := 793) (x := "many") rfl
  have A2 := S.at (C := 793) (x := "planes") rfl
  refine TS_cons (T1_setattr S.k (TE_mul (TE_at S rfl (hI.le l0) rfl rfl rfl (TE_at S rfl (hI.le l0) rfl rfl rfl ⟨_, _, rfl, rfl, by right; (clear A2 A1 hlen' hC hlen hL hI l0 i0 hn h1 h2 hne hd hx hWH hl4 hB hA g hf S; omega), TE_name rfl ⟨x, 793, dd, [], rfl, i0, hne, A1.2.2.2.2.1, A1.2.2.2.2.2, A1.2.2.2.1, A1.2.1, rfl, by decide, fun o1 i1 => ?_⟩⟩))))
  have l1 : Le D (put (put (put D dd emptyDict) x (instObj 793 dd)) dd o1) := le_put' l0 hd
  generalize put (put (put D dd emptyDict) x (instObj 793 dd)) dd o1 = D1 at i1 l1
  refine TS_cons (T1_setattr S.k (TE_list (TEs_nil ⟨by simp, fun gp D2 hgp l2 hP uu => ?_⟩)))
  refine TE_name rfl ⟨x, 793, dd, _, rfl, i1.le l2, hne, A2.2.2.2.2.1, A2.2.2.2.2.2, A2.2.2.2.1, A2.2.1, rfl, by simp, fun o2 i2 => ?_⟩
  have hgd : gp ≠ dd := fun q => by subst q; obtain ⟨_, es, m, z, _⟩ := i1; rw [hgp] at z; cases z
  have l3 : Le D (put D2 dd o2) := le_put' (l1.trans l2) hd
  have hP3 : IsL (put D2 dd o2) gp [] := keepL hgd hP
  have hDg : D gp = none := l1.none hgp
  have em : ((s : Int) * (s : Int)) = ((s * s : Nat) : Int) := (Int.natCast_mul ..).symm
  rw [em] at i2
  generalize put D2 dd o2 = D3 at i2 l3 hP3 ⊢
  refine TS_cons (T1_for_range (GridInv ([("self", .ref x), ("frame", .ref fr)] : List (Str × Value)) D x gp H W s MA MD cs) (.inl rfl) ?_)
  refine TE_bcall S rfl rfl (TEs_cons (TE_bcall S rfl rfl (TEs_cons (TE_at S rfl (hI.le l3) rfl rfl rfl (TEs_nil ?_)))))
  refine TC_len (.inl (hL.le l3)) (by lia) (TEs_nil ?_)
  rw [hlen']
  obtain ⟨s1, s2⟩ := range_small (b := (cs.length : Int)) (by (and_intros <;> (exact Int.ofNat_le.mpr (by lia))))
  refine TC_range1 fun rg o4 hrg hR => ⟨rg, _, _, _, D3, _, cs.length, rfl, hR, s1, by simpa using s2, le_put hrg, RLe.refl _, ⟨rfl, l3, ⟨dd, i2⟩, [], [], hP3, rfl, rfl, List.nodup_nil, nofun, nofun⟩, fun p ρ' D' hp iv => ?_, fun ρ' D' iv => ?_⟩
  · obtain ⟨rfl, le, hX, ps, RR, hPs, hps, hRR, nd, hall, hrow⟩ := iv
    refine TS.abs fun QB1 kB1 => ?_
    have ep : (0 + (p : Int) * 1) = (p : Int) := by (rw [Int.zero_add, Int.mul_one])
    rw [ep]
    have hc : cs[p]? = some cs[p] := List.getElem?_eq_getElem hp
    generalize cs[p] = c at hc
    have hcm := g.hc c (List.mem_of_getElem? hc)
    refine TS_cons (T1_unpack (xs := [(("across" : Str), _), (("down" : Str), _)]) rfl rfl ?_ (by intro _ _; rfl))
    refine TE_mcall S rfl (hI.le le) rfl rfl (TEs_cons (TE_name rfl (TEs_nil ?_)))
    refine TC.tup2 (sp_padded S (hf.le le) g.geo (castC_get hc) (by omega)) fun t D4 l4 hT => ?_
    refine ⟨t, _, rfl, .inr hT, rfl, ?_⟩
    have m1 : 1 * 1 ≤ s * MA ∧ s * MA ≤ 4 * 4 := ⟨Nat.mul_le_mul (by lia) hA.1, Nat.mul_le_mul hs4.1 hA.2⟩
    have m2 : 1 * 1 ≤ s * MD ∧ s * MD ≤ 4 * 4 := ⟨Nat.mul_le_mul (by lia) hB.1, Nat.mul_le_mul hs4.1 hB.2⟩
    have e1 : pt (W : Int) ((s : Int) * MA) * (c.1 : Int) = ((padW W s MA c : Nat) : Int) := by rw [← Int.natCast_mul, pt_nat (by (exact (by assumption : _ ∧ _).1)), ← Int.natCast_mul]; rfl
    have e2 : pt (H : Int) ((s : Int) * MD) * (c.2 : Int) = ((padH H s MD c : Nat) : Int) := by rw [← Int.natCast_mul, pt_nat (by lia), ← Int.natCast_mul]; rfl
    have b1 : padW W s MA c ≤ 26 * 4 := Nat.mul_le_mul (by unfold ptN; exact Nat.le_trans (Nat.div_le_self _ _) (by (clear e2 e1 m2 hT l4 hcm hc ep hrow hall nd hRR hps hPs hX le hp hR hrg s2 s1 hP3 l3 i2 em hDg hgd hP l2 hgp l1 i1 A2 A1 hlen' hC hlen hL hI l0 i0 hn h1 h2 hne hd hx hs4 hl4 hB hA g hf S; omega))) hcm.1.2
    have b2 : padH H s MD c ≤ 26 * 4 := Nat.mul_le_mul (by unfold ptN; exact Nat.le_trans (Nat.div_le_self _ _) (by (clear b1 e2 e1 m1 hT l4 hcm hc ep hrow hall nd hRR hps hPs hX le hp hR hrg s2 s1 hP3 l3 i2 em hDg hgd hP l2 hgp l1 i1 A2 A1 hlen' hC hlen hL hI l0 i0 hn h1 h2 hne hd hx hs4 hl4 hB hA g hf S; omega))) hcm.2.2
    show TS PG w Hb n (scopeOf (met 78 0)) _ [("down", vi (pt (H : Int) ((s : Int) * MD) * (c.2 : Int))), ("across", vi (pt (W : Int) ((s : Int) * MA) * (c.1 : Int))), ("place", vi p), ("self", .ref x), ("frame", .ref fr)] D4 _
    rw [e1, e2]
    refine TS_cons (T1_expr (TE_append (TE_at S rfl (hX.le l4) rfl rfl rfl ⟨gp, _, rfl, hPs.le l4, ?_⟩)))
    refine TE_comp [("across", vi (padW W s MA c : Nat))] rfl (RLe.cons rfl RLe.nil) (TE_bcall S rfl rfl (TEs_cons (TE_name rfl (TEs_nil ?_))))
    obtain ⟨s3, s4⟩ := range_small (b := ((padH H s MD c : Nat) : Int)) (by (clear b1 e2 e1 m2 m1 hT l4 hcm hc ep hrow hall nd hRR hps hPs hX le hp hR hrg s2 s1 hP3 l3 i2 em hDg hgd hP l2 hgp l1 i1 A2 A1 hlen' hC hlen hL hI l0 i0 hn h1 h2 hne hd hx hWH hs4 hl4 hB hA g hf S; (and_intros <;> lia)))
    refine TC_range1 fun r2 o5 hr2 hR2 => ⟨r2, _, rfl, .range hR2 s3 s4, by simp [sizeLine]; (clear hR2 hr2 s4 s3 b1 e2 e1 m2 m1 hT l4 hcm hc ep hrow hall nd hRR hps hPs hX le hp hR hrg s2 s1 hP3 l3 i2 em hDg hgd hP l2 hgp l1 i1 A2 A1 hlen' hC hlen hL hI l0 i0 hn h1 h2 hne hd hx hWH hs4 hl4 hB hA g hf S; (exact Nat.le_trans (by assumption) (by decide))), ?_⟩
    refine CompOf_rows (row := List.replicate (padW W s MA c) .none) (fun i u D₂ hu lc => ⟨_, Asg_name rfl, ?_⟩) fun ra D6 l6 hra hnd hfr y o6 hy hY => ?_
    · refine TE_mulL (TE_list (TEs_cons (TE_none (TEs_nil ⟨by simp [sizeLine], fun q D5 hq l5 hQ uu => ?_⟩))))
      refine TE_name rfl ⟨q, [.none], _, rfl, rfl, hQ, by (clear hQ l5 hq lc hu hR2 hr2 s4 s3 b2 b1 e2 e1 m2 m1 hT l4 hcm hc ep hrow hall nd hRR hps hPs hX le hp hR hrg s2 s1 hP3 l3 i2 em hDg hgd hP l2 hgp l1 i1 A2 A1 hlen' hC hlen hL hI l0 i0 hn h1 h2 hne hd hx hWH hs4 hl4 hB hA g hf S; (constructor <;> intro hZ <;> omega)), by (clear hQ l5 hq lc hu hR2 hr2 s4 s3 b2 e2 e1 m2 m1 hT l4 hcm hc ep hrow hall nd hRR hps hPs hX le hp hR hrg s2 s1 hP3 l3 i2 em hDg hgd hP l2 hgp l1 i1 A2 A1 hlen' hC hlen hL hI l0 i0 hn h1 h2 hne hd hx hWH hs4 hl4 hB hA g hf S; lia), by simp; (clear hQ l5 hq lc hu hR2 hr2 s4 s3 b2 e2 e1 m2 m1 hT l4 hcm hc ep hrow hall nd hRR hps hPs hX le hp hR hrg s2 s1 hP3 l3 i2 em hDg hgd hP l2 hgp l1 i1 A2 A1 hlen' hC hlen hL hI l0 i0 hn h1 h2 hne hd hx hWH hs4 hl4 hB hA g hf S; (exact Nat.le_trans (by assumption) (by decide))), fun z o7 hz hZ => ⟨z, rfl, l5.none hz, l5.trans (le_put hz), ?_⟩⟩
      rw [flat_one, Int.toNat_natCast] at hZ; exact hZ
    · simp only [List.length_map, List.length_range, Int.toNat_natCast] at hra
      have l46 := ((le_put (o := o5) hr2).trans l6).trans (le_put (o := o6) hy)
      have lD : Le D' (put D6 y o6) := l4.trans l46
      have hfr' : ∀ a, ∀ uu : a ∈ ra, D' a = none := fun a ha => (l4.trans (le_put (o := o5) hr2)).none (hfr a ha).1
      have hyD : D' y = none := (l4.trans ((le_put (o := o5) hr2).trans l6)).none hy
      have hPg := hPs.le lD
      have hra2 : ∀ a, ∀ uu : a ∈ ra, IsL (put D6 y o6) a (List.replicate (padW W s MA c) .none) := fun a ha => (hfr a ha).2.le (le_put hy)
      have gne : ∀ {a : Addr}, ∀ uu : D' a = none, a ≠ gp := fun {a} ha => hPs.off ha
      have rne : ∀ {a : Addr}, ∀ uu : D' a = none, a ∉ RR.flatten := fun {a} ha q => by obtain ⟨_, _, us', hu⟩ := hall a q; exact hu.off ha rfl
      have yra : y ∉ ra := fun q => (hfr y q).2.off hy rfl
      refine ⟨_, hPg, by rw [List.length_map]; unfold sizeLine; lia, fun o' hL' => TS_nil (kB1 _ _ _ ⟨_, RLe.cons rfl (RLe.cons rfl RLe.nil), ⟨rfl, le_put' (le.trans lD) hDg, instPut hPg (hX.le lD), ps ++ [y], RR ++ [ra], by simpa using hL', by simp [hps], by simp [hRR], ?_, fun a ha => ?_, fun i rb hi => ?_⟩⟩)⟩
      · rw [List.flatten_append, List.nodup_append]
        refine ⟨nd, by simpa using hnd, fun a ha b hb => ?_⟩
        rintro rfl
        exact rne (hfr' a (by simpa using hb)) ha
      · rw [List.flatten_append] at ha
        rcases List.mem_append.mp ha with ha | ha
        · obtain ⟨z1, z2, us', z3⟩ := hall a ha
          exact ⟨z1, z2, us', keepL z2 (z3.le lD)⟩
        · have ha' : a ∈ ra := by simpa using ha
          exact ⟨le.none (hfr' a ha'), gne (hfr' a ha'), _, keepL (gne (hfr' a ha')) (hra2 a ha')⟩
      · by_cases hlt : i < RR.length
        · rw [List.getElem?_append_left hlt] at hi
          obtain ⟨pm, c', q1, q2, q3, q4, q5, q6, q7⟩ := hrow i rb hi
          refine ⟨pm, c', by rw [List.getElem?_append_left (by lia)]; exact q1, q2, q3, ?_, keepL q3 (q5.le lD), q6, fun a ha => ?_⟩
          · rw [List.flatten_append]
            intro hm
            rcases List.mem_append.mp hm with hm | hm
            · exact q4 hm
            · have := hfr' pm (by simpa using hm)
              obtain ⟨ws, k, z, _⟩ := q5
              rw [this] at z; cases z
          · have hin : a ∈ RR.flatten := List.mem_flatten.mpr ⟨rb, List.mem_of_getElem? hi, ha⟩
            exact keepL (hall a hin).2.1 ((q7 a ha).le lD)
        · rw [List.getElem?_append_right (by lia)] at hi
          have hj : i - RR.length = 0 := by have := (List.getElem?_eq_some_iff.mp hi).1; simp at this; omega
          rw [hj] at hi; cases hi
          obtain rfl : i = p := by have := (List.getElem?_eq_some_iff.mp (show ([ra] : List (List Addr))[i - RR.length]? = some ra by rw [hj]; rfl)).1; (clear this hL' yra rne gne hra2 hPg hyD hfr' lD l46 hra hY hy hfr hnd l6 hR2 hr2 s4 s3 b2 b1 e2 e1 m2 m1 hT l4 hcm hc ep hrow hall nd hps hPs hX le hp hR hrg s2 s1 hP3 l3 i2 em hDg hgd hP l2 hgp l1 i1 A2 A1 hlen' hC hlen hL hI l0 i0 hn h1 h2 hne hd hx hWH hs4 hl4 hB hA g hf S; lia)
          refine ⟨y, c, by rw [List.getElem?_append_right (by lia), hps, Nat.sub_self]; rfl, hc, gne hyD, ?_, keepL (gne hyD) hY, hra, fun a ha => keepL (gne (hfr' a ha)) (hra2 a ha)⟩
          rw [List.flatten_append]
          intro hm
          rcases List.mem_append.mp hm with hm | hm
          · exact rne hyD hm
          · exact yra (by simpa using hm)
  · obtain ⟨rfl, le, hX, ps, RR, hPs, hps, hRR, nd, hall, hrow⟩ := iv
    have hrw : ∀ a, ∀ uu : a ∈ RR.flatten, ∃ us, IsL D' a us := fun a ha => (hall a ha).2.2
    refine TS_nil ⟨rfl, x, RR, rfl, le, fun a ha => (hall a ha).1, nd, ⟨gp, ps, ?_, ?_, by lia, fun p ra e => ?_⟩, hRR, fun p c ra hc hra => ?_⟩
    · obtain ⟨d, e, es, m, e', r⟩ := hX
      have n1 : x ∉ RR.flatten := fun q => by obtain ⟨us', ws, k, z, _⟩ := hrw x q; rw [e] at z; cases z
      have n2 : d ∉ RR.flatten := fun q => by obtain ⟨us', ws, k, z, _⟩ := hrw d q; rw [e'] at z; exact absurd (congrArg Obj.data (Option.some.inj z)) (fun q => Data.noConfusion q)
      exact ⟨d, by rw [del_at n1]; exact e, es, m, by rw [del_at n2]; exact e', r⟩
    · obtain ⟨vs, m, z1, z2⟩ := hPs
      exact ⟨vs, m, by rw [del_at (fun q => (hall gp q).2.1 rfl)]; exact z1, z2⟩
    · obtain ⟨pm, c, q1, q2, q3, q4, hN6, q6, q7⟩ := hrow p ra e
      obtain ⟨vs, m, z1, z2⟩ := hN6
      exact ⟨pm, q1, vs, m, by rw [del_at q4]; exact z1, z2⟩
    · obtain ⟨pm, c', q1, q2, q3, q4, q5, q6, q7⟩ := hrow p ra hra
      rw [hc] at q2; obtain rfl := (Option.some.inj q2).symm
      exact ⟨q6, q7⟩
end
end

section
variable {w : World} {K : Frag} {Hb : Heap} {n : Nat} {D : DH}

theorem fn_put (S : Stat w K Hb) : Fn Hb 790 (scopeOf (met 78 2)) (bodyOf (met 78 2)) ["self", "place", "x", "y", "row"] := Fn.of S 44 rfl rfl
inductive PutP (a0 : Addr) (x : Nat) (us : List Value) (cells : List Value) (D : DH) (v : Value) (D' : DH) : Prop
  | mk : ∀ la, ∀ uu : D la = none, ∀ uu : Le (del D [a0]) D', ∀ uu : IsL D' a0 (cells.set x (.ref la)), ∀ uu : la ≠ a0, ∀ uu : IsL D' la us, PutP a0 x us cells D v D'
theorem sp_put (S : Stat w K Hb) {gr r a0 : Addr} {s p x y : Nat} {RR : List (List Addr)} {ra : List Addr} {us cells : List Value} (hG : GridM D gr s RR) (hp : RR[p]? = some ra) (hy : ra[y]? = some a0) (hc : IsL D a0 cells) (hx : x < cells.length) (hr : IsL D r us) (hz : us.length ≤ sizeLine)
    (hb : p < 2 ^ 20 ∧ x < 2 ^ 20 ∧ y < 2 ^ 20) (hn : 1 ≤ n) :
    TC PG w Hb n (.ref 790) [.ref gr, vi p, vi x, vi y, .ref r] D (PutP a0 x us cells D) := by
  refine TC.down hn fun n hn1 => ?_
  obtain ⟨gp, ps, hI, hP, hlen, hps⟩ := hG
  refine ex1_2 (hps p ra hp) fun pm hpm hM => ?_
  refine TC_def (fn_put S) rfl (TS_cons (T1_setitem (TE_bcall S rfl rfl (TEs_cons (TE_name rfl (TEs_nil ?_))))))
  refine TC_list (.inl hr) hz fun la o hla hLa => ?_
  have l1 := le_put (o := o) hla
  have hne : la ≠ a0 := hc.off hla
  refine TE_item (TE_item (TE_at S rfl (hI.le l1) rfl rfl rfl (TE_name rfl ⟨gp, _, p, .ref pm, rfl, .inl (hP.le l1), rfl, by (constructor <;> intro hZ <;> omega), by (exact Int.ofNat_le.mpr (by lia)), by rw [Int.toNat_natCast, List.getElem?_map, hpm]; rfl, ?_⟩)))
  refine TE_name rfl ⟨pm, _, y, .ref a0, rfl, .inl (hM.le l1), rfl, by (exact Int.natCast_nonneg _), by (exact Int.ofNat_le.mpr (by lia)), by rw [Int.toNat_natCast, List.getElem?_map, hy]; rfl, ?_⟩
  refine TE_name rfl ⟨a0, cells, x, rfl, rfl, hc.le l1, by lia, by (exact Int.ofNat_lt.mpr (by assumption)), by (exact Int.ofNat_le.mpr (by lia)), fun o' hL' => TS_nil ⟨la, hla, le_put' (del_le.trans l1) (del_none (by simp)), by simpa using hL', hne, keepL hne hLa⟩⟩
end

section
variable {w : World} {K : Frag} {Hb : Heap} {n : Nat} {D : DH}

theorem del_sub {bs cs : List Addr} (hs : ∀ a, ∀ uu : a ∈ cs, a ∈ bs) : Le (del D bs) (del D cs) := le_del del_le fun a ha => del_none (hs a ha)
theorem keepB {b : Addr} {bs : List Addr} {us : List Value} (hne : b ∉ bs) (h : IsL D b us) : IsL (del D bs) b us := let ⟨vs, m, z1, z2⟩ := h; ⟨vs, m, by rw [del_at hne]; exact z1, z2⟩
theorem keepBT {b : Addr} {bs : List Addr} {us : List Value} (hne : b ∉ bs) (h : IsT D b us) : IsT (del D bs) b us := let ⟨vs, m, z1, z2⟩ := h; ⟨vs, m, by rw [del_at hne]; exact z1, z2⟩
theorem hasL {b : Addr} {us : List Value} (h : IsL D b us) : D b ≠ none := fun q => by obtain ⟨vs, m, z, _⟩ := h; rw [q] at z; cases z
theorem hasTD {b : Addr} {ks : List (List Int × Value)} (h : IsTD PG w D b ks) : D b ≠ none := fun q => by obtain ⟨o, es, ep, xs, z, _⟩ := h; rw [q] at z; cases z
-- a dict with tuples for keys, lists apart
theorem IsTD.delL {b : Addr} {bs : List Addr} {ks : List (List Int × Value)} (hb : b ∉ bs) (hl : ∀ a, ∀ uu : a ∈ bs, ∃ us, IsL D a us) (h : IsTD PG w D b ks) : IsTD PG w (del D bs) b ks := by
  obtain ⟨o, es, ep, xs, a, c, d, e, f, g, gg⟩ := h
  refine ⟨o, es, ep, xs, by rw [del_at hb]; exact a, c, d, e, fun x hx => ?_, g, gg⟩
  refine ex2_2 (f x hx) fun vs m p q => ?_
  have hx' : x.2.1 ∉ bs := fun z => by
    obtain ⟨us, ws, k, y, _⟩ := hl _ z
    rw [p] at y
    exact absurd (congrArg Obj.cls (Option.some.inj y)) (by intro q; injection q with q; exact absurd q (by decide))
  exact ⟨vs, m, by rw [del_at hx']; exact p, q⟩

noncomputable def lawS (i : Nat) : Stmt := ((bodyOf (stm 86))[i]?).getD (.Pass default)
noncomputable def placeS (i : Nat) : Stmt := ((forBody (lawS 5))[i]?).getD (.Pass default)
noncomputable def xBody : List Stmt := match forBody (placeS 3) with | [s] => forBody s | _ => []

noncomputable def numI (f t : Int) : Int := max 0 (min 255 (f * t + 128))

theorem clamp_num (a : Int) : clampI (a + 128) 255 = max 0 (min 255 (a + 128)) := by
  unfold clampI
  split
  · lia
  · split <;> lia
theorem freshBack {bs : List Addr} {D' : DH} {u : Addr} (h : Le (del D bs) D') (hb : ∀ a, ∀ uu : a ∈ bs, D' a ≠ none) (hu : D' u = none) : D u = none := by
  have n1 : u ∉ bs := fun q => hb u q hu
  have := h.none hu
  rwa [del_at n1] at this

-- the turn's own objects, all apart from B
structure TurnOk (w : World) (B : DH) (st pw sm a0 : Addr) (pwl cells : List Value) (kv : List (List Int × Value)) (X : DH) : Prop where
  le : Le B X
  st : StOk X st
  pw : IsL X pw pwl
  sm : IsTD PG w X sm kv
  a0 : IsL X a0 cells
section
variable {B X X' : DH} {st pw sm a0 : Addr} {pwl cells : List Value} {kv : List (List Int × Value)}
theorem TurnOk.grow (h : TurnOk w B st pw sm a0 pwl cells kv X) (k : Le X X') : TurnOk w B st pw sm a0 pwl cells kv X' := ⟨h.le.trans k, h.st.le k, h.pw.le k, h.sm.le k, h.a0.le k⟩
theorem TurnOk.next (h : TurnOk w B st pw sm a0 pwl cells kv X) (d1 : st ≠ pw) (d2 : st ≠ sm) (d3 : st ≠ a0) (hB : B st = none) (k : Le (del X [st]) X') (s : StOk X' st) : TurnOk w B st pw sm a0 pwl cells kv X' :=
  ⟨(le_del h.le (by simpa using hB)).trans k, s, (keepB (by simpa using d1.symm) h.pw).le k, (h.sm.delL (by simpa using d2.symm) (by simpa using h.st.list)).le k, (keepB (by simpa using d3.symm) h.a0).le k⟩
end

theorem nextBack {st a : Addr} {D' : DH} (h : Le (del D [st]) D') (s : StOk D' st) (ha : D' a = none) : D a = none :=
  freshBack h (fun b hb => by obtain rfl := List.mem_singleton.mp hb; exact hasL s.list.choose_spec) ha
noncomputable def xS (i : Nat) : Stmt := (xBody[i]?).getD (.Pass default)
theorem turn_first (S : Stat w K Hb) {ρ : List (Str × Value)} {B : DH} {st pw sm a0 : Addr} {pwl cells : List Value} {kv : List (List Int × Value)} {Q : ∀ uu : Flow, ∀ uu : List (Str × Value), ∀ uu : DH, Prop}
    (r1 : ρ.lookup ("state" : Str) = some (.ref st)) (h : TurnOk w B st pw sm a0 pwl cells kv D) (d1 : st ≠ pw) (d2 : st ≠ sm) (d3 : st ≠ a0) (hB : B st = none) (hn : 1 ≤ n)
    (k : ∀ (f : Int) (D' : DH), ∀ uu : -60 ≤ f, ∀ uu : f ≤ 200, ∀ uu : (∀ a, ∀ uu : D' a = none, D a = none), ∀ uu : TurnOk w B st pw sm a0 pwl cells kv D', Q .next (("first", vi f) :: ρ) D') : T1 PG w Hb n (scopeOf (stm 86)) (xS 0) ρ D Q := by
  refine T1_assign (.inl rfl) (TE_item (TE_list (TEs_cons (TE_int (TEs_cons (TE_int (TEs_cons (TE_neg (TE_int ⟨_, rfl, TEs_cons (TE_int (TEs_cons (TE_sub (TE_gcall S rfl rfl (TEs_cons (TE_name r1 (TEs_cons (TE_int (TEs_nil ?_)))))))))⟩)))))))))
  refine TC.next (sp_next S (L := 80) h.st (by decide) hn) fun z D1 hz l1 hs1 => ?_
  have h1 := h.next d1 d2 d3 hB l1 hs1
  refine TE_int ⟨_, _, rfl, rfl, TEs_nil ⟨by simp [sizeLine], fun l D2 hl l2 hL uu => ?_⟩⟩
  have h2 := h1.grow l2
  refine TE_gcall S rfl rfl (TEs_cons (TE_name r1 (TEs_cons (TE_int (TEs_nil ?_)))))
  refine TC.next (sp_next S (L := 5) h2.st (by decide) hn) fun y D3 hy l3 hs3 => ?_
  have h3 := h2.next d1 d2 d3 hB l3 hs3
  have hne : l ≠ st := fun q => hasL h1.st.list.choose_spec (q ▸ hl)
  obtain ⟨f, e, f1, f2⟩ : ∃ f : Int, ([vi 0, vi 60, vi (-60), vi 200, vi ((z : Int) - 40)] : List Value)[y]? = some (vi f) ∧ -60 ≤ f ∧ f ≤ 200 := by
    have : y = 0 ∨ y = 1 ∨ y = 2 ∨ y = 3 ∨ y = 4 := by lia
    rcases this with rfl | rfl | rfl | rfl | rfl
    · exact ⟨0, rfl, by decide, by decide⟩
    · exact ⟨60, rfl, by decide, by decide⟩
    · exact ⟨-60, rfl, by decide, by decide⟩
    · exact ⟨200, rfl, by decide, by decide⟩
    · exact ⟨_, rfl, by lia, by lia⟩
  exact ⟨l, _, y, vi f, rfl, .inl ((keepB (by simpa using hne) hL).le l3), rfl, by (constructor <;> intro hZ <;> omega), by (exact Int.ofNat_le.mpr (by lia)), by simpa using e, k f D3 f1 f2 (fun a ha => nextBack l1 hs1 (l2.none (nextBack l3 hs3 ha))) h3⟩
theorem dc_flat {s : Nat} {f : Int} (hs : 1 ≤ s) {k : Int} (hk : k = (s : Int) * s - 1) : ([vi f] : List Value) ++ (List.replicate k.toNat [vi 0]).flatten = intL (dc s f) := by
  have e : k.toNat = s * s - 1 := by
    have h2 : (s : Int) * s = ((s * s : Nat) : Int) := by push_cast; rfl
    have := Nat.mul_pos hs hs
    omega
  rw [e, flat_vi]
  rfl
theorem TurnOk.app {B : DH} {st pw sm a0 : Addr} {pwl cells : List Value} {kv : List (List Int × Value)} {o : Obj} {us : List Value} (h : TurnOk w B st pw sm a0 pwl cells kv D) (d1 : st ≠ pw) (d4 : pw ≠ sm) (d5 : pw ≠ a0) (hB : B pw = none) (hL : IsL (put D pw o) pw us) : TurnOk w B st pw sm a0 us cells kv (put D pw o) :=
  ⟨le_put' h.le hB, h.st.put d1, hL, (h.sm.delL (bs := [pw]) (by simpa using d4.symm) (by simpa using ⟨_, h.pw⟩)).le le_del_put, keepL d5.symm h.a0⟩
theorem turn_append (uu : Stat w K Hb) {ρ : List (Str × Value)} {B : DH} {st pw sm a0 : Addr} {s p x y : Nat} {f : Int} {pwl cells : List Value} {kv : List (List Int × Value)} {Q : ∀ uu : Flow, ∀ uu : List (Str × Value), ∀ uu : DH, Prop}
    (r0 : ρ.lookup ("first" : Str) = some (vi f)) (r2 : ρ.lookup ("place_here" : Str) = some (vi p)) (r3 : ρ.lookup ("x" : Str) = some (vi x)) (r4 : ρ.lookup ("y" : Str) = some (vi y)) (r5 : ρ.lookup ("side" : Str) = some (vi s)) (r6 : ρ.lookup ("put_rows" : Str) = some (.ref pw))
    (h : TurnOk w B st pw sm a0 pwl cells kv D) (d1 : st ≠ pw) (d4 : pw ≠ sm) (d5 : pw ≠ a0) (hB : B pw = none) (hs : 2 ≤ s ∧ s ≤ 4) (hz : pwl.length ≤ 2 ^ 20)
    (k : ∀ (u ln : Addr) (D' : DH), ∀ uu : D u = none, ∀ uu : D ln = none, ∀ uu : (∀ a, ∀ uu : D' a = none, D a = none), ∀ uu : TurnOk w B st pw sm a0 (pwl ++ [.ref u]) cells kv D', ∀ uu : IsT D' u [vi p, vi x, vi y, .ref ln], ∀ uu : IsL D' ln (intL (dc s f)), Q .next ρ D') : T1 PG w Hb n (scopeOf (stm 86)) (xS 1) ρ D Q := by
  obtain ⟨hs1, hs2⟩ := hs
  have sz : 1 ≤ s * s - 1 ∧ s * s - 1 ≤ 15 := by
    have : s = 2 ∨ s = 3 ∨ s = 4 := by lia
    rcases this with rfl | rfl | rfl <;> decide
  have sz' : ((s : Int) * s - 1) = ((s * s - 1 : Nat) : Int) := by
    have h2 : (s : Int) * s = ((s * s : Nat) : Int) := by push_cast; rfl
    omega
  refine T1_expr (TE_append (TE_name r6 ⟨pw, _, rfl, h.pw, ?_⟩))
  refine TE_tuple (TEs_cons (TE_name r2 (TEs_cons (TE_name r3 (TEs_cons (TE_name r4 (TEs_cons (TE_addL (TE_list (TEs_cons (TE_name r0 (TEs_nil ⟨by simp [sizeLine], fun l1 D1 hl1 e1 hL1 uu => ?_⟩))))))))))))
  refine TE_mulL (TE_list (TEs_cons (TE_int (TEs_nil ⟨by simp [sizeLine], fun q D2 hq e2 hQ uu => ?_⟩))))
  refine TE_sub (TE_mul (TE_name r5 (TE_name r5 ⟨_, _, rfl, rfl, by (clear hQ e2 hq hL1 e1 hl1 sz' sz hs1 k hz hB d5 d4 d1 h r6 r5 r4 r3 r2 r0; omega), TE_int ⟨_, _, rfl, rfl, q, _, _, rfl, rfl, hQ, by (clear hQ e2 hq hL1 e1 hl1 sz' sz hs2 hs1 k hz hB d5 d4 d1 h r6 r5 r4 r3 r2 r0; lia), by omega, ?_, fun z o hz0 hZ => ?_⟩⟩)))
  · rw [sz', Int.toNat_natCast]; simp; omega
  refine ⟨l1, _, z, _, rfl, rfl, hL1.le (e2.trans (le_put hz0)), hZ, ?_, fun ln o2 hln hLn => ?_⟩
  · rw [sz', Int.toNat_natCast]; simp [sizeLine]; (clear hZ hz0 hQ e2 hq hL1 e1 hl1 sz' hs2 hs1 k hz hB d5 d4 d1 h r6 r5 r4 r3 r2 r0; lia)
  rw [dc_flat (by (exact Nat.le_of_lt (by assumption))) rfl] at hLn
  have e3 := e2.trans ((le_put (o := o) hz0).trans (le_put (o := o2) hln))
  refine TEs_nil ⟨by simp [sizeLine], fun u D3 hu e4 hU uu => ?_⟩
  have h3 := h.grow (e1.trans (e3.trans e4))
  refine ⟨_, h3.pw, by simp only [sizeLine]; (exact Nat.le_trans (by assumption) (by decide)), fun o' hL' => ?_⟩
  have e5 := e1.trans e2
  have nl : D ln = none := e5.none ((le_put (o := o) hz0).none hln)
  have nu : D u = none := (e1.trans e3).none hu
  have np := hasL h.pw
  refine k u ln _ nu nl (fun a ha => ?_) (h3.app d1 d4 d5 hB hL') (tupPut h3.pw hU) (keepL (by rintro rfl; exact np nl) (hLn.le e4))
  by_cases q : a = pw
  · subst q; rw [put_self] at ha; cases ha
  · rw [put_ne q] at ha; exact (e1.trans (e3.trans e4)).none ha
theorem TurnOk.cell {B : DH} {st pw sm a0 : Addr} {pwl cells cells' : List Value} {kv : List (List Int × Value)} {X' : DH} (h : TurnOk w B st pw sm a0 pwl cells kv D) (d3 : st ≠ a0) (d5 : pw ≠ a0) (d6 : sm ≠ a0) (hB : B a0 = none) (k : Le (del D [a0]) X') (hL : IsL X' a0 cells') : TurnOk w B st pw sm a0 pwl cells' kv X' :=
  ⟨(le_del h.le (by simpa using hB)).trans k, (let ⟨_, _, y, z, z'⟩ := h.st; ⟨_, _, (keepB (by simpa using d3) y).le k, z, z'⟩), (keepB (by simpa using d5) h.pw).le k, (h.sm.delL (bs := [a0]) (by simpa using d6) (by simpa using ⟨_, h.a0⟩)).le k, hL⟩
theorem last_at (l : List Value) (u : Value) : (l ++ [u])[((-1 : Int) + ((l ++ [u]).length : Nat)).toNat]? = some u := by
  have : ((-1 : Int) + ((l ++ [u]).length : Nat)).toNat = l.length := by simp; lia
  rw [this]; simp
theorem turn_put (S : Stat w K Hb) {ρ : List (Str × Value)} {B : DH} {st pw sm a0 gr u ln : Addr} {s p x y : Nat} {f : Int} {pwl cells : List Value} {kv : List (List Int × Value)} {RR : List (List Addr)} {ra : List Addr} {Q : ∀ uu : Flow, ∀ uu : List (Str × Value), ∀ uu : DH, Prop}
    (r2 : ρ.lookup ("place_here" : Str) = some (vi p)) (r3 : ρ.lookup ("x" : Str) = some (vi x)) (r4 : ρ.lookup ("y" : Str) = some (vi y)) (r6 : ρ.lookup ("put_rows" : Str) = some (.ref pw)) (r7 : ρ.lookup ("grid_here" : Str) = some (.ref gr))
    (h : TurnOk w B st pw sm a0 (pwl ++ [.ref u]) cells kv D) (d3 : st ≠ a0) (d5 : pw ≠ a0) (d6 : sm ≠ a0) (hB : B a0 = none) (hG : GridM B gr s RR) (hp : RR[p]? = some ra) (hy : ra[y]? = some a0) (hx : x < cells.length) (hb : p < 2 ^ 20 ∧ x < 2 ^ 20 ∧ y < 2 ^ 20)
    (hu : IsT D u [vi p, vi x, vi y, .ref ln]) (hl : IsL D ln (intL (dc s f))) (hna : ln ≠ a0) (hs : 2 ≤ s ∧ s ≤ 4) (hn : 1 ≤ n)
    (k : ∀ (la : Addr) (D' : DH), ∀ uu : D la = none, ∀ uu : Le (del D [a0]) D', ∀ uu : TurnOk w B st pw sm a0 (pwl ++ [.ref u]) (cells.set x (.ref la)) kv D', ∀ uu : IsT D' u [vi p, vi x, vi y, .ref ln], ∀ uu : IsL D' ln (intL (dc s f)), ∀ uu : IsL D' la (intL (dc s f)), Q .next ρ D') : T1 PG w Hb n (scopeOf (stm 86)) (xS 2) ρ D Q := by
  have sz : (intL (dc s f)).length ≤ 16 := by
    rw [intL_len]
    have : s = 2 ∨ s = 3 ∨ s = 4 := by lia
    rcases this with rfl | rfl | rfl <;> simp [dc]
  obtain ⟨gp, hGi⟩ : ∃ gp, Inst B gr 793 (gridF s gp) := let ⟨gp, _, a, _, _, _⟩ := hG; ⟨gp, a⟩
  refine T1_expr (TE_mcall S r7 (hGi.le h.le) rfl rfl (TEs_cons (TE_name r2 (TEs_cons (TE_name r3 (TEs_cons (TE_name r4 (TEs_cons (TE_bcall S rfl rfl (TEs_cons (TE_item (TE_itemN (TE_name r6 (TE_neg (TE_int ⟨_, rfl, pw, _, -1, .ref u, rfl, h.pw, rfl, by decide, by simp; (exact Int.ofNat_le.mpr (by lia)), by decide, last_at pwl _, ?_⟩)))))))))))))))
  refine TE_int ⟨u, _, 3, .ref ln, rfl, .inr hu, rfl, by decide, by decide, rfl, TEs_nil (TC_list (.inl hl) (by simp only [sizeLine]; (exact Nat.le_trans (by assumption) (by decide))) fun r o hr hR => TEs_nil ?_)⟩
  have h1 := h.grow (le_put (o := o) hr)
  refine (sp_put S (hG.le h1.le) hp hy h1.a0 hx hR (by simp only [sizeLine]; (exact Nat.le_trans (by assumption) (by decide))) hb hn).mono fun v D' hq3 => ?_
  obtain ⟨la, n1, l1, c1, n2, m1⟩ := hq3
  have nl : D la = none := (le_put (o := o) hr).none n1
  refine k la D' nl ((le_del (del_le.trans (le_put hr)) fun a ha => del_none ha).trans l1) (h1.cell d3 d5 d6 hB l1 c1) ((tupDel h1.a0 (hu.le (le_put hr))).le l1) ((keepB (by simpa using hna) (hl.le (le_put hr))).le l1) m1
theorem minmax (a : Int) : (if (if a < 255 then a else 255) > 0 then (if a < 255 then a else 255) else 0) = max 0 (min 255 a) := by
  split <;> split <;> lia
theorem turn_some (S : Stat w K Hb) {ρ : List (Str × Value)} {B : DH} {st pw sm a0 : Addr} {x y : Nat} {f t : Int} {pwl cells : List Value} {kv : List (List Int × Value)} {Q : ∀ uu : Flow, ∀ uu : List (Str × Value), ∀ uu : DH, Prop}
    (r0 : ρ.lookup ("first" : Str) = some (vi f)) (r3 : ρ.lookup ("x" : Str) = some (vi x)) (r4 : ρ.lookup ("y" : Str) = some (vi y)) (r8 : ρ.lookup ("some" : Str) = some (.ref sm)) (r9 : ρ.lookup ("times_here" : Str) = some (vi t))
    (h : TurnOk w B st pw sm a0 pwl cells kv D) (d2 : st ≠ sm) (d4 : pw ≠ sm) (d6 : sm ≠ a0) (hB : B sm = none) (ht : 1 ≤ t ∧ t ≤ 3) (hz : kv.length ≤ 2 ^ 20)
    (k : ∀ (D' : DH), ∀ uu : Le (del D [sm]) D', ∀ uu : TurnOk w B st pw sm a0 pwl cells (stored kv [(x : Int), (y : Int)] (vi (numI f t))) D', Q .next ρ D') : T1 PG w Hb n (scopeOf (stm 86)) (xS 3) ρ D Q := by
  refine T1_setitemT (TE_bcall S rfl rfl (TEs_cons (TE_int (TEs_cons (TE_bcall S rfl rfl (TEs_cons (TE_int (TEs_cons (TE_add (TE_mul (TE_name r0 (TE_name r9 ⟨_, _, rfl, rfl, .inr (by omega), TE_int ⟨_, _, rfl, rfl, TEs_nil (TC_min2 (TEs_nil (TC_max2 ?_)))⟩⟩))))))))))))
  rw [minmax]
  refine TE_name r8 (TE_tuple (TEs_cons (TE_name r3 (TEs_cons (TE_name r4 (TEs_nil ⟨by simp [sizeLine], fun u D1 hu e1 hU uu => ?_⟩))))))
  have h1 := h.grow e1
  refine ⟨sm, kv, u, [(x : Int), (y : Int)], rfl, rfl, hU, h1.sm, by simp only [sizeLine]; (exact Nat.le_trans (by assumption) (by decide)), fun o' hT => ?_⟩
  refine k _ (le_put' (del_le.trans e1) (del_none (by simp))) ⟨le_put' h1.le hB, h1.st.put d2, keepL d4 h1.pw, hT, keepL d6.symm h1.a0⟩
-- one block of the law's grid
theorem law_turn (S : Stat w K Hb) {ρ : List (Str × Value)} {B : DH} {st pw sm gr a0 : Addr} {s p x y : Nat} {t : Int} {RR : List (List Addr)} {ra : List Addr} {pwl cells : List Value} {kv : List (List Int × Value)} {Q : ∀ uu : Flow, ∀ uu : List (Str × Value), ∀ uu : DH, Prop}
    (r1 : ρ.lookup ("state" : Str) = some (.ref st)) (r2 : ρ.lookup ("place_here" : Str) = some (vi p)) (r3 : ρ.lookup ("x" : Str) = some (vi x)) (r4 : ρ.lookup ("y" : Str) = some (vi y)) (r5 : ρ.lookup ("side" : Str) = some (vi s)) (r6 : ρ.lookup ("put_rows" : Str) = some (.ref pw))
    (r7 : ρ.lookup ("grid_here" : Str) = some (.ref gr)) (r8 : ρ.lookup ("some" : Str) = some (.ref sm)) (r9 : ρ.lookup ("times_here" : Str) = some (vi t)) (h : TurnOk w B st pw sm a0 pwl cells kv D) (hB : ∀ a, ∀ uu : a ∈ [st, pw, sm, a0], B a = none) (hd : [st, pw, sm, a0].Nodup)
    (hG : GridM B gr s RR) (hp : RR[p]? = some ra) (hy : ra[y]? = some a0) (hx : x < cells.length) (hs : 2 ≤ s ∧ s ≤ 4) (ht : 1 ≤ t ∧ t ≤ 3) (hb : p < 2 ^ 20 ∧ x < 2 ^ 20 ∧ y < 2 ^ 20) (hz1 : pwl.length ≤ 2 ^ 20) (hz2 : kv.length ≤ 2 ^ 20) (hn : 1 ≤ n)
    (k : ∀ (f : Int) (u ln la : Addr) (D' : DH), ∀ uu : -60 ≤ f, ∀ uu : f ≤ 200, ∀ uu : D u = none, ∀ uu : D ln = none, ∀ uu : D la = none, ∀ uu : (∀ a, ∀ uu : D' a = none, D a = none), ∀ uu : TurnOk w B st pw sm a0 (pwl ++ [.ref u]) (cells.set x (.ref la)) (stored kv [(x : Int), (y : Int)] (vi (numI f t))) D',
      IsT D' u [vi p, vi x, vi y, .ref ln] → ∀ uu : IsL D' ln (intL (dc s f)), ∀ uu : IsL D' la (intL (dc s f)), Q .next (("first", vi f) :: ρ) D') :
    TS PG w Hb n (scopeOf (stm 86)) xBody ρ D Q := by
  simp only [List.nodup_cons, List.mem_cons, List.not_mem_nil, or_false, not_or, List.nodup_nil, and_true] at hd
  refine ex0_4 (hd) fun hN0 hN1 d6 uu => ?_
  try clear hd
  obtain ⟨d1, d2, d3⟩ := hN0
  obtain ⟨d4, d5⟩ := hN1
  have n0 : B st = none := hB _ (by simp)
  have n1 : B pw = none := hB _ (by simp)
  have n2 : B sm = none := hB _ (by simp)
  have n3 : B a0 = none := hB _ (by simp)
  refine TS_cons (turn_first S r1 h d1 d2 d3 n0 hn fun f D1 f1 f2 k1 h1 => ?_)
  refine TS_cons (turn_append S rfl r2 r3 r4 r5 r6 h1 d1 d4 d5 n1 hs hz1 fun u ln D2 nu nl k2 h2 hu hl => ?_)
  have e1 : ln ≠ a0 := fun q => hasL h1.a0 (q ▸ nl)
  have e2 : ln ≠ sm := fun q => hasTD h1.sm (q ▸ nl)
  refine TS_cons (turn_put S r2 r3 r4 r6 r7 h2 d3 d5 d6 n3 hG hp hy hx hb hu hl e1 hs hn fun la D3 na l3 h3 hu3 hl3 ha3 => ?_)
  refine TS_cons (turn_some S rfl r3 r4 r8 r9 h3 d2 d4 d6 n2 ht hz2 fun D4 l4 h4 => TS_nil ?_)
  have k3 : ∀ a, ∀ uu : D3 a = none, D2 a = none := fun a ha => freshBack l3 (fun b hb => by obtain rfl := List.mem_singleton.mp hb; exact hasL h3.a0) ha
  have k4 : ∀ a, ∀ uu : D4 a = none, D3 a = none := fun a ha => freshBack l4 (fun b hb => by obtain rfl := List.mem_singleton.mp hb; exact hasTD h4.sm) ha
  have na' : D2 la = none := na
  have e3 : la ≠ sm := fun q => hasTD h2.sm (q ▸ na')
  have e4 : u ≠ sm := fun q => hasTD h1.sm (q ▸ nu)
  exact k f u ln la D4 f1 f2 (k1 u nu) (k1 ln nl) (k1 la (k2 la na')) (fun a ha => k1 a (k2 a (k3 a (k4 a ha)))) h4 ((keepBT (by simpa using e4) hu3).le l4) ((keepB (by simpa using e2) hl3).le l4) ((keepB (by simpa using e3) ha3).le l4)
end

section
variable {w : World} {K : Frag} {Hb : Heap} {n : Nat} {D : DH}

section
variable {κ : Type} [DecidableEq κ]
theorem valueAt_put (l : List (κ × Value)) (k : κ) (v : Value) : valueAt (stored l k v) k = some v := by
  unfold stored valueAt
  split
  · rename_i h
    induction l with
    | nil => simp at h
    | cons a r ih =>
      by_cases q : a.1 = k
      · simp [q]
      · simp only [List.map_cons, q, if_false]
        rw [List.find?_cons_of_neg (by simpa using q)]
        exact ih (by simpa [q] using h)
  · rename_i h
    rw [List.find?_append, List.find?_eq_none.mpr (fun x hx => by
      simp only [List.any_eq_true, decide_eq_true_eq, not_exists, not_and] at h
      simpa using h x hx)]
    simp
theorem valueAt_keep (l : List (κ × Value)) {k k' : κ} (v : Value) (hk : k' ≠ k) : valueAt (stored l k v) k' = valueAt l k' := by
  unfold stored valueAt
  split
  · rename_i h
    clear h
    induction l with
    | nil => rfl
    | cons a r ih =>
      by_cases q : a.1 = k
      · have q' : ¬ a.1 = k' := fun z => hk (z ▸ q)
        simp only [List.map_cons, q, if_true]
        rw [List.find?_cons_of_neg (by simpa using fun z : k = k' => hk z.symm), List.find?_cons_of_neg (by simpa using q')]
        exact ih
      · simp only [List.map_cons, q, if_false]
        by_cases q' : a.1 = k'
        · rw [List.find?_cons_of_pos (by simpa using q'), List.find?_cons_of_pos (by simpa using q')]
        · rw [List.find?_cons_of_neg (by simpa using q'), List.find?_cons_of_neg (by simpa using q')]
          exact ih
  · rw [List.find?_append, List.find?_cons_of_neg (by simpa using fun z : k = k' => hk z.symm)]
    simp
theorem stored_len (l : List (κ × Value)) (k : κ) (v : Value) : (stored l k v).length ≤ l.length + 1 := by
  unfold stored
  split <;> simp
end

-- the cell at x of a row
inductive Cel (X I : DH) (s : Nat) (a0 : Addr) (x : Nat) (f : Int) : Prop
  | mk : ∀ us la, ∀ uu : IsL X a0 us, ∀ uu : us[x]? = some (.ref la), ∀ uu : IsL I la (intL (dc s f)), Cel X I s a0 x f
-- where the law stands within one place
structure PlaceInv (w : World) (D₀ : DH) (M ra : List Addr) (st pw sm : Addr) (s p PW : Nat) (t : Int) (old : List Value) (done : ∀ uu : Nat, ∀ uu : Nat, Prop) (X : DH) (new : List Value) (kv : List (List Int × Value)) : Prop where
  le : Le (del D₀ (st :: pw :: sm :: ra)) X
  back : ∀ a, ∀ uu : X a = none, D₀ a = none
  st : StOk X st
  pw : IsL X pw (old ++ new)
  sm : IsTD PG w X sm kv
  row : ∀ (y : Nat) (a0 : Addr), ∀ uu : ra[y]? = some a0, ∃ us, IsL X a0 us ∧ us.length = PW
  cell : ∀ (y x : Nat), ∀ uu : done y x, ∃ f : Int, -60 ≤ f ∧ f ≤ 200 ∧ valueAt kv [(x : Int), (y : Int)] = some (vi (numI f t)) ∧ ∀ a0 : Addr, ∀ uu : ra[y]? = some a0, Cel X (del X M) s a0 x f
  ent : ∀ e, ∀ uu : e ∈ new, ∃ (u ln : Addr) (y x : Nat) (f : Int) (a0 : Addr), e = .ref u ∧ done y x ∧ ra[y]? = some a0 ∧ IsT (del X M) u [vi p, vi x, vi y, .ref ln] ∧ IsL (del X M) ln (intL (dc s f)) ∧ Cel X (del X M) s a0 x f
theorem IsL.one {a : Addr} {us vs : List Value} (h : IsL D a us) (k : IsL D a vs) : us = vs := by
  obtain ⟨x, m, z, rfl⟩ := h
  obtain ⟨y, l, q, rfl⟩ := k
  rw [z] at q
  have := congrArg Obj.data (Option.some.inj q)
  injection this with this
  exact congrArg (fun z => z.toList.map er) this
section
variable {D₀ : DH} {ra : List Addr} {st pw sm : Addr} {s p PW : Nat} {t : Int} {old new : List Value} {done : ∀ uu : Nat, ∀ uu : Nat, Prop} {X : DH} {kv : List (List Int × Value)}
theorem PlaceInv.has {M : List Addr} (h : PlaceInv w D₀ M ra st pw sm s p PW t old done X new kv) (hM : ∀ a, ∀ uu : a ∈ M, D₀ a ≠ none) : ∀ a, ∀ uu : a ∈ M, X a ≠ none := fun a ha q => hM a ha (h.back a q)
theorem sub4 {st pw sm a0 : Addr} {ra : List Addr} (h : a0 ∈ ra) (a : Addr) (ha : a ∈ [st, pw, sm, a0]) : a ∈ st :: pw :: sm :: ra := by
  simp only [List.mem_cons, List.not_mem_nil, or_false] at ha ⊢
  rcases ha with e | e | e | e
  · exact .inl e
  · exact .inr (.inl e)
  · exact .inr (.inr (.inl e))
  · exact .inr (.inr (.inr (e ▸ h)))
theorem PlaceInv.step {M : List Addr} (hsub : ∀ a, ∀ uu : a ∈ st :: pw :: sm :: ra, a ∈ M) (hM : ∀ a, ∀ uu : a ∈ M, D₀ a ≠ none) (h : PlaceInv w D₀ M ra st pw sm s p PW t old done X new kv) (hnd : (st :: pw :: sm :: ra).Nodup) {y x : Nat} {a0 u ln la : Addr} {f : Int} {cells : List Value} {X' : DH}
    (hy : ra[y]? = some a0) (hx : x < PW) (hdn : ¬ done y x) (hc : IsL X a0 cells) (f1 : -60 ≤ f) (f2 : f ≤ 200) (n1 : X u = none) (n2 : X ln = none) (n3 : X la = none) (bk : ∀ a, ∀ uu : X' a = none, X a = none)
    (T : TurnOk w (del X [st, pw, sm, a0]) st pw sm a0 (old ++ new ++ [.ref u]) (cells.set x (.ref la)) (stored kv [(x : Int), (y : Int)] (vi (numI f t))) X')
    (hu : IsT X' u [vi p, vi x, vi y, .ref ln]) (hl : IsL X' ln (intL (dc s f))) (ha : IsL X' la (intL (dc s f))) :
    PlaceInv w D₀ M ra st pw sm s p PW t old (fun y' x' => done y' x' ∨ (y' = y ∧ x' = x)) X' (new ++ [.ref u]) (stored kv [(x : Int), (y : Int)] (vi (numI f t))) := by
  have hM := h.has hM
  have sub : ∀ a, ∀ uu : a ∈ [st, pw, sm, a0], a ∈ st :: pw :: sm :: ra := sub4 (List.mem_of_getElem? hy)
  have l1 : Le (del X (st :: pw :: sm :: ra)) X' := (del_sub sub).trans T.le
  have l2 : Le (del X M) (del X' M) := le_del ((del_sub hsub).trans l1) fun a ha => del_none ha
  have fr : ∀ a, ∀ uu : X a = none, a ∉ M := fun a ha q => hM a q ha
  simp only [List.nodup_cons, List.mem_cons, not_or] at hnd
  refine ex0_4 (hnd) fun hN0 hN1 d6 d7 => ?_
  try clear hnd
  obtain ⟨d1, d2, d3⟩ := hN0
  obtain ⟨d4, d5⟩ := hN1
  have inj : ∀ y' : Nat, ∀ uu : ra[y']? = some a0, y' = y := fun y' e =>
     (List.getElem?_inj (List.getElem?_eq_some_iff.mp e).1 d7).mp (e.trans hy.symm)
  have other : ∀ (a : Addr) (us : List Value), ∀ uu : a ∈ ra, ∀ uu : a ≠ a0, ∀ uu : IsL X a us, IsL X' a us := fun a us m q e => (keepB (by
    simp only [List.mem_cons, List.not_mem_nil, or_false, not_or]
    exact ⟨fun z => d3 (z ▸ m), fun z => d5 (z ▸ m), fun z => d6 (z ▸ m), q⟩) e).le T.le
  have hlen : x < cells.length := by
    refine ex1_2 (h.row y a0 hy) fun us e q => ?_
    rw [hc.one e, q]; exact hx
  have cel : ∀ (y' x' : Nat) (a : Addr) (f' : Int), ∀ uu : ra[y']? = some a, ∀ uu : done y' x', ∀ uu : Cel X (del X M) s a x' f', Cel X' (del X' M) s a x' f' := by
    intro y' x' a f' e dn ⟨us, la', c1, c2, c3⟩
    by_cases q : a = a0
    · obtain rfl := q.symm
      obtain rfl := (inj y' e).symm
      have hne : x ≠ x' := fun z => hdn (z ▸ dn)
      obtain rfl := hc.one c1
      exact ⟨_, la', T.a0, by rw [List.getElem?_set_ne hne]; exact c2, c3.le l2⟩
    · exact ⟨us, la', other a us (List.mem_of_getElem? e) q c1, c2, c3.le l2⟩
  have celn : Cel X' (del X' M) s a0 x f := ⟨_, la, T.a0, by rw [List.getElem?_set_self hlen], keepB (fr la n3) ha⟩
  refine ⟨(le_del h.le (fun a ha => del_none ha) |>.trans l1), fun a e => h.back a (bk a e), T.st, by rw [← List.append_assoc]; exact T.pw, T.sm, fun y' a e => ?_, fun y' x' dn => ?_, fun e he => ?_⟩
  · refine ex1_2 (h.row y' a e) fun us r1 r2 => ?_
    by_cases q : a = a0
    · obtain rfl := q.symm
      obtain rfl := hc.one r1
      exact ⟨_, T.a0, by simpa using r2⟩
    · exact ⟨us, other a us (List.mem_of_getElem? e) q r1, r2⟩
  · rcases dn with dn | ⟨q1, q2⟩
    · refine ex1_4 (h.cell y' x' dn) fun f' g1 g2 g3 g4 => ?_
      have hne : ([(x' : Int), (y' : Int)] : List Int) ≠ [(x : Int), (y : Int)] := fun z => by
        simp only [List.cons.injEq, and_true, Int.natCast_inj] at z
        exact hdn (z.1 ▸ z.2 ▸ dn)
      exact ⟨f', g1, g2, by rw [valueAt_keep _ _ hne]; exact g3, fun a e => cel y' x' a f' e dn (g4 a e)⟩
    · obtain rfl := q1.symm
      obtain rfl := q2.symm
      exact ⟨f, f1, f2, valueAt_put _ _ _, fun a e => by obtain rfl := Option.some.inj (hy.symm.trans e); exact celn⟩
  · rcases List.mem_append.mp he with he | he
    · refine ex6_6 (h.ent e he) fun u' ln' y' x' f' a e1 e2 e3 e4 e5 e6 => ?_
      exact ⟨u', ln', y', x', f', a, e1, .inl e2, e3, e4.le l2, e5.le l2, cel y' x' a f' e3 e2 e6⟩
    · obtain rfl := List.mem_singleton.mp he
      exact ⟨u, ln, y, x, f, a0, rfl, .inr ⟨rfl, rfl⟩, hy, keepBT (fr u n1) hu, keepB (fr ln n2) hl, celn⟩
end
end

section
variable {w : World} {K : Frag} {Hb : Heap} {n : Nat} {D : DH}

theorem RLe.push {σ ρ : List (Str × Value)} {k : Str} {v : Value} (h : RLe σ ρ) (hk : σ.lookup k = none) : RLe σ ((k, v) :: ρ) := fun y u e => by
  by_cases q : y = k
  · subst q; rw [hk] at e; cases e
  · have : (y == k) = false := by simpa using q
    simp only [List.lookup, this]; exact h y u e
theorem PlaceInv.same {D₀ : DH} {M ra : List Addr} {st pw sm : Addr} {s p PW : Nat} {t : Int} {old new : List Value} {done done' : ∀ uu : Nat, ∀ uu : Nat, Prop} {X : DH} {kv : List (List Int × Value)} (h : PlaceInv w D₀ M ra st pw sm s p PW t old done X new kv) (i : ∀ y x, done' y x ↔ done y x) : PlaceInv w D₀ M ra st pw sm s p PW t old done' X new kv := by
  have : done' = done := funext fun y => funext fun x => propext (i y x)
  rw [this]; exact h
-- the names of the law's head
noncomputable def oenv (st fr ps mp gr nb tb pw : Addr) (s l : Nat) : List (Str × Value) := [("state", .ref st), ("side", vi s), ("less_side", vi l), ("frame_here", .ref fr), ("pairs", .ref ps), ("most_pair", .ref mp), ("grid_here", .ref gr), ("numbers", .ref nb), ("tables", .ref tb), ("put_rows", .ref pw)]
-- and of one place
noncomputable def lenv (st fr ps mp gr nb tb pw sm : Addr) (s l p wd ht : Nat) (t : Int) : List (Str × Value) := ("place_here", vi p) :: ("some", .ref sm) :: ("times_here", vi t) :: ("wide_here", vi wd) :: ("high_here", vi ht) :: oenv st fr ps mp gr nb tb pw s l

theorem nd4 {st pw sm a0 : Addr} {ra : List Addr} (hnd : (st :: pw :: sm :: ra).Nodup) (m : a0 ∈ ra) : [st, pw, sm, a0].Nodup := by
  simp only [List.nodup_cons, List.mem_cons, not_or] at hnd
  simp only [List.nodup_cons, List.mem_cons, List.not_mem_nil, or_false, not_or, List.nodup_nil, and_true, not_false_eq_true]
  exact ⟨⟨hnd.1.1, hnd.1.2.1, fun z => hnd.1.2.2 (z ▸ m)⟩, ⟨hnd.2.1.1, fun z => hnd.2.1.2 (z ▸ m)⟩, fun z => hnd.2.2.1 (z ▸ m)⟩
theorem law_xs (S : Stat w K Hb) {ρ : List (Str × Value)} {M : List Addr} {D₀ : DH} {st fr ps mp gr nb tb pw sm a0 : Addr} {s l p wd ht bx y PW : Nat} {t : Int} {RR : List (List Addr)} {ra : List Addr} {old new : List Value} {kv : List (List Int × Value)} {Q : ∀ uu : Flow, ∀ uu : List (Str × Value), ∀ uu : DH, Prop}
    (hρ : RLe (lenv st fr ps mp gr nb tb pw sm s l p wd ht t) ρ) (ry : ρ.lookup ("y" : Str) = some (vi y)) (hs : s = 4 ∨ s = 2) (hbx : ptN wd s = bx) (hPW : bx ≤ PW) (hb : p < 4 ∧ bx ≤ 44 ∧ y < 44) (ht1 : 1 ≤ t ∧ t ≤ 3) (hn : 1 ≤ n)
    (hsub : ∀ a, ∀ uu : a ∈ st :: pw :: sm :: ra, a ∈ M) (hM : ∀ a, ∀ uu : a ∈ M, D₀ a ≠ none) (hnd : (st :: pw :: sm :: ra).Nodup) (hG : GridM (del D₀ (st :: pw :: sm :: ra)) gr s RR) (hp : RR[p]? = some ra) (hy : ra[y]? = some a0) (hz : old.length ≤ 2 ^ 15) (hz2 : new.length ≤ y * bx) (hz3 : kv.length ≤ y * bx)
    (h : PlaceInv w D₀ M ra st pw sm s p PW t old (fun y' x' => y' < y ∧ x' < bx) D new kv)
    (k : ∀ (ρ' : List (Str × Value)) (D' : DH) (new' : List Value) (kv' : List (List Int × Value)), ∀ uu : RLe (lenv st fr ps mp gr nb tb pw sm s l p wd ht t) ρ', ∀ uu : new'.length ≤ (y + 1) * bx, ∀ uu : kv'.length ≤ (y + 1) * bx,
      PlaceInv w D₀ M ra st pw sm s p PW t old (fun y' x' => y' < y + 1 ∧ x' < bx) D' new' kv' → Q .next ρ' D') :
    TS PG w Hb n (scopeOf (stm 86)) (forBody (placeS 3)) ρ D Q := by
  have sub := sub4 (st := st) (pw := pw) (sm := sm) (List.mem_of_getElem? hy)
  have nd : [st, pw, sm, a0].Nodup := nd4 hnd (List.mem_of_getElem? hy)
  refine TS_cons (T1_for_range (fun x ρ' X => RLe (lenv st fr ps mp gr nb tb pw sm s l p wd ht t) ρ' ∧ ρ'.lookup ("y" : Str) = some (vi y) ∧ ∃ new kv, new.length ≤ y * bx + x ∧ kv.length ≤ y * bx + x ∧
    PlaceInv w D₀ M ra st pw sm s p PW t old (fun y' x' => (y' < y ∧ x' < bx) ∨ (y' = y ∧ x' < x)) X new kv) (.inl rfl) ?_)
  obtain ⟨s3, s4⟩ := range_small (b := (bx : Int)) (by (and_intros <;> (exact Int.ofNat_le.mpr (by lia))))
  refine TE_bcall S rfl rfl (TEs_cons (TE_gcall S rfl rfl (TEs_cons (TE_name (hρ _ _ rfl) (TEs_cons (TE_name (hρ _ _ rfl) (TEs_nil ?_)))))))
  refine TC.pure (sp_over S (a := wd) (b := s) hs hn) fun D1 l1 => ?_
  refine TEs_nil ?_
  rw [hbx]
  refine TC_range1 fun rg o1 hrg hR => ⟨rg, _, _, _, D, _, bx, rfl, hR, s3, by simpa using s4, l1.trans (le_put hrg), RLe.refl _, ⟨hρ, ry, new, kv, by omega, by omega, h.same fun y' x' => by simp⟩, fun x ρ' X hx hq1 => ?_, fun ρ' X hq2 => ?_⟩
  · obtain ⟨hρ', ry', new', kv', z1, z2, iv⟩ := hq1
    refine TS.abs fun QB kB => ?_
    have ex : (0 + (x : Int) * 1) = (x : Int) := by (rw [Int.zero_add, Int.mul_one])
    rw [ex]
    refine ex1_2 (iv.row y a0 hy) fun cells hc hcl => ?_
    have mul : y * bx ≤ 44 * 44 := Nat.mul_le_mul (by lia) (by lia)
    have hρx : RLe (lenv st fr ps mp gr nb tb pw sm s l p wd ht t) (("x", vi x) :: ρ') := hρ'.push rfl
    refine law_turn S (hρx _ _ rfl) (hρx _ _ rfl) rfl ry' (hρx _ _ rfl) (hρx _ _ rfl) (hρx _ _ rfl) (hρx _ _ rfl) (hρx _ _ rfl) (B := del X [st, pw, sm, a0]) ⟨del_le, iv.st, iv.pw, iv.sm, hc⟩ (fun a ha => del_none ha) nd
      (hG.le (le_del iv.le fun a ha => del_none (sub a ha))) hp hy (by lia) (by (and_intros <;> lia)) ht1 (by (and_intros <;> lia)) (by rw [List.length_append]; (clear hρx hcl hc ex iv z2 ry' hρ' hR hrg l1 s4 s3 nd sub k h hz3 hz2 hy hp hG hnd hM hsub hn ht1 hPW hbx hs ry hρ S; lia)) (by (clear hρx hcl hc ex iv z1 ry' hρ' hR hrg l1 s4 s3 nd sub k h hz3 hz2 hz hy hp hG hnd hM hsub hn ht1 hPW hbx hs ry hρ S; lia)) hn fun f u ln la X' f1 f2 n1 n2 n3 bk T hu hl ha => ?_
    have nw := iv.step hsub hM hnd hy (by (exact Nat.le_trans (by assumption) (by omega))) (by simp) hc f1 f2 n1 n2 n3 bk T hu hl ha
    refine kB _ _ _ ⟨_, RLe.refl _, hρx.push rfl, ry', _, _, ?_, ?_, nw.same fun y' x' => ?_⟩
    · rw [List.length_append]; simp only [List.length_singleton]; (clear nw ha hl hu T bk n3 n2 n1 f2 f1 hρx mul hcl hc ex iv z2 ry' hρ' hx hR hrg l1 s4 s3 nd sub k h hz3 hz2 hz hy hp hG hnd hM hsub hn ht1 hb hPW hbx hs ry hρ S; lia)
    · exact Nat.le_trans (stored_len _ _ _) (by (clear nw ha hl hu T bk n3 n2 n1 f2 f1 hρx mul hcl hc ex iv z1 ry' hρ' hx hR hrg l1 s4 s3 nd sub k h hz3 hz2 hz hy hp hG hnd hM hsub hn ht1 hb hPW hbx hs ry hρ S; lia))
    · (clear nw ha hl hu T bk n3 n2 n1 f2 f1 hρx mul hcl hc ex iv z2 z1 ry' hρ' hx hR hrg l1 s4 s3 nd sub k h hz3 hz2 hz hy hp hG hnd hM hsub hn ht1 hb hPW hbx hs ry hρ S; (constructor <;> intro hZ <;> lia))
  · obtain ⟨hρ', ry', new', kv', z1, z2, iv⟩ := hq2
    have e : (y + 1) * bx = y * bx + bx := Nat.succ_mul _ _
    exact TS_nil (k ρ' X new' kv' hρ' (by lia) (by lia) (iv.same fun y' x' => by (constructor <;> intro hZ <;> lia)))

theorem law_rows (S : Stat w K Hb) {ρ : List (Str × Value)} {M : List Addr} {D₀ : DH} {st fr ps mp gr nb tb pw sm : Addr} {s l p wd ht bx By PW : Nat} {t : Int} {RR : List (List Addr)} {ra : List Addr} {old : List Value} {Q : ∀ uu : Flow, ∀ uu : List (Str × Value), ∀ uu : DH, Prop}
    (hρ : RLe (lenv st fr ps mp gr nb tb pw sm s l p wd ht t) ρ) (hs : s = 4 ∨ s = 2) (hbx : ptN wd s = bx) (hby : ptN ht s = By) (hPW : bx ≤ PW) (hra : By ≤ ra.length) (hb : p < 4 ∧ bx ≤ 44 ∧ By ≤ 44) (ht1 : 1 ≤ t ∧ t ≤ 3) (hn : 1 ≤ n)
    (hsub : ∀ a, ∀ uu : a ∈ st :: pw :: sm :: ra, a ∈ M) (hM : ∀ a, ∀ uu : a ∈ M, D₀ a ≠ none) (hnd : (st :: pw :: sm :: ra).Nodup) (hG : GridM (del D₀ (st :: pw :: sm :: ra)) gr s RR) (hp : RR[p]? = some ra) (hz : old.length ≤ 2 ^ 15)
    (h : PlaceInv w D₀ M ra st pw sm s p PW t old (fun uu uu => False) D [] [])
    (k : ∀ (ρ' : List (Str × Value)) (D' : DH) (new' : List Value) (kv' : List (List Int × Value)), ∀ uu : RLe (lenv st fr ps mp gr nb tb pw sm s l p wd ht t) ρ', ∀ uu : new'.length ≤ 2000,
      PlaceInv w D₀ M ra st pw sm s p PW t old (fun y' x' => y' < By ∧ x' < bx) D' new' kv' → Q .next ρ' D') :
    T1 PG w Hb n (scopeOf (stm 86)) (placeS 3) ρ D Q := by
  refine T1_for_range (fun y ρ' X => RLe (lenv st fr ps mp gr nb tb pw sm s l p wd ht t) ρ' ∧ ∃ new kv, new.length ≤ y * bx ∧ kv.length ≤ y * bx ∧
    PlaceInv w D₀ M ra st pw sm s p PW t old (fun y' x' => y' < y ∧ x' < bx) X new kv) (.inl rfl) ?_
  obtain ⟨s3, s4⟩ := range_small (b := (By : Int)) (by (and_intros <;> (exact Int.ofNat_le.mpr (by lia))))
  refine TE_bcall S rfl rfl (TEs_cons (TE_gcall S rfl rfl (TEs_cons (TE_name (hρ _ _ rfl) (TEs_cons (TE_name (hρ _ _ rfl) (TEs_nil ?_)))))))
  refine TC.pure (sp_over S (a := ht) (b := s) hs hn) fun D1 l1 => ?_
  refine TEs_nil ?_
  rw [hby]
  refine TC_range1 fun rg o1 hrg hR => ⟨rg, _, _, _, D, _, By, rfl, hR, s3, by simpa using s4, l1.trans (le_put hrg), RLe.refl _, ⟨hρ, [], [], by simp, by simp, h.same fun y' x' => by simp⟩, fun y ρ' X hy hq3 => ?_, fun ρ' X hq4 => ?_⟩
  · obtain ⟨hρ', new', kv', z1, z2, iv⟩ := hq3
    have ey : (0 + (y : Int) * 1) = (y : Int) := by (rw [Int.zero_add, Int.mul_one])
    rw [ey]
    obtain ⟨a0, hy0⟩ : ∃ a0, ra[y]? = some a0 := ⟨_, List.getElem?_eq_getElem (by (exact Nat.le_trans (by assumption) (by omega)))⟩
    refine law_xs S (hρ'.push rfl) rfl hs hbx hPW (by (and_intros <;> lia)) ht1 hn hsub hM hnd hG hp hy0 hz z1 z2 iv fun ρ'' X' new'' kv'' h1 h2 h3 h4 => ⟨ρ'', RLe.refl _, h1, new'', kv'', h2, h3, h4⟩
  · obtain ⟨hρ', new', kv', z1, z2, iv⟩ := hq4
    have mul : By * bx ≤ 44 * 44 := Nat.mul_le_mul (by lia) (by lia)
    exact k ρ' X new' kv' hρ' (by lia) iv
end

section
variable {w : World} {K : Frag} {Hb : Heap} {n : Nat} {D : DH}

-- one place is filled
inductive PlcOk (w : World) (X I : DH) (RR : List (List Addr)) (s bx By p : Nat) (nums : List Value) (ks : List (Int × Value)) : Prop
  | mk : ∀ (t : Nat) (sm qt : Addr) (kv : List (List Int × Value)), ∀ uu : 1 ≤ t, ∀ uu : t ≤ 3, ∀ uu : nums[p]? = some (.ref sm), ∀ uu : IsTD PG w I sm kv, ∀ uu : valueAt ks (p : Int) = some (.ref qt), ∀ uu : IsT I qt (intL (((s * t : Nat) : Int) :: List.replicate (s * s - 1) 7)), ∀ uu : (∀ y x, ∀ uu : y < By, ∀ uu : x < bx, ∃ f : Int, -60 ≤ f ∧ f ≤ 200 ∧ valueAt kv [(x : Int), (y : Int)] = some (vi (numI f t)) ∧ ∀ (ra : List Addr) (a0 : Addr), ∀ uu : RR[p]? = some ra, ∀ uu : ra[y]? = some a0, Cel X I s a0 x f), PlcOk w X I RR s bx By p nums ks
-- what put_rows holds
inductive EntOk (X I : DH) (RR : List (List Addr)) (s p : Nat) (bx By : ∀ uu : Nat, Nat) (e : Value) : Prop
  | mk : ∀ (u ln : Addr) (q y x : Nat) (f : Int) (ra : List Addr) (a0 : Addr), ∀ uu : e = .ref u, ∀ uu : q < p, ∀ uu : y < By q, ∀ uu : x < bx q, ∀ uu : RR[q]? = some ra, ∀ uu : ra[y]? = some a0, ∀ uu : IsT I u [vi q, vi x, vi y, .ref ln], ∀ uu : IsL I ln (intL (dc s f)), ∀ uu : Cel X I s a0 x f, EntOk X I RR s p bx By e
structure LawInv (w : World) (M : List Addr) (RR : List (List Addr)) (st nb tb pw : Addr) (s : Nat) (PW bx By : ∀ uu : Nat, Nat) (p : Nat) (X : DH) (pwl nums : List Value) (ks : List (Int × Value)) : Prop where
  st : StOk X st
  nb : IsL X nb nums
  tb : IsID PG w X tb ks
  pw : IsL X pw pwl
  row : ∀ (q y : Nat) (ra : List Addr) (a0 : Addr), ∀ uu : RR[q]? = some ra, ∀ uu : ra[y]? = some a0, ∃ us, IsL X a0 us ∧ us.length = PW q
  nl : nums.length = p
  pl : pwl.length ≤ p * 2000
  plc : ∀ q, ∀ uu : q < p, PlcOk w X (del X M) RR s (bx q) (By q) q nums ks
  ent : ∀ e, ∀ uu : e ∈ pwl, EntOk X (del X M) RR s p bx By e
theorem Cel.move {X X' I I' : DH} {s x : Nat} {a0 : Addr} {f : Int} (hX : ∀ us, ∀ uu : IsL X a0 us, IsL X' a0 us) (hI : Le I I') (h : Cel X I s a0 x f) : Cel X' I' s a0 x f :=
  let ⟨us, la, a, b, c⟩ := h; ⟨us, la, hX us a, b, c.le hI⟩
theorem PlcOk.move {X X' I I' : DH} {RR : List (List Addr)} {s bx By p : Nat} {nums nums' : List Value} {ks ks' : List (Int × Value)} (h : PlcOk w X I RR s bx By p nums ks) (hX : ∀ (y : Nat) (ra : List Addr) (a0 : Addr) us, ∀ uu : RR[p]? = some ra, ∀ uu : ra[y]? = some a0, ∀ uu : IsL X a0 us, IsL X' a0 us)
    (hI : Le I I') (h1 : nums'[p]? = nums[p]?) (h2 : valueAt ks' (p : Int) = valueAt ks (p : Int)) : PlcOk w X' I' RR s bx By p nums' ks' := by
  obtain ⟨t, sm, qt, kv, a, b, c, d, e, f, g⟩ := h
  refine ⟨t, sm, qt, kv, a, b, h1.trans c, d.le hI, h2.trans e, f.le hI, fun y x hy hx => ?_⟩
  refine ex1_4 (g y x hy hx) fun z z1 z2 z3 z4 => ?_
  exact ⟨z, z1, z2, z3, fun ra a0 e1 e2 => (z4 ra a0 e1 e2).move (fun us => hX y ra a0 us e1 e2) hI⟩
theorem EntOk.move {X X' I I' : DH} {RR : List (List Addr)} {s p p' : Nat} {bx By : ∀ uu : Nat, Nat} {e : Value} (h : EntOk X I RR s p bx By e) (hp : p ≤ p') (hX : ∀ (q y : Nat) (ra : List Addr) (a0 : Addr) us, ∀ uu : q < p, ∀ uu : RR[q]? = some ra, ∀ uu : ra[y]? = some a0, ∀ uu : IsL X a0 us, IsL X' a0 us) (hI : Le I I') : EntOk X' I' RR s p' bx By e := by
  obtain ⟨u, ln, q, y, x, f, ra, a0, e0, e1, e2, e3, e4, e5, e6, e7, e8⟩ := h
  exact ⟨u, ln, q, y, x, f, ra, a0, e0, by (exact Nat.le_trans (by assumption) (by omega)), e2, e3, e4, e5, e6.le hI, e7.le hI, e8.move (fun us => hX q y ra a0 us e1 e4 e5) hI⟩
theorem LawInv.move {M M' : List Addr} {RR : List (List Addr)} {st nb tb pw : Addr} {s p : Nat} {PW bx By : ∀ uu : Nat, Nat} {X X' : DH} {pwl nums nums' : List Value} {ks ks' : List (Int × Value)} (h : LawInv w M RR st nb tb pw s PW bx By p X pwl nums ks)
    (h1 : StOk X' st) (h2 : IsL X' nb nums') (h3 : IsID PG w X' tb ks') (h4 : IsL X' pw pwl) (hR : ∀ (q y : Nat) (ra : List Addr) (a0 : Addr) us, ∀ uu : RR[q]? = some ra, ∀ uu : ra[y]? = some a0, ∀ uu : IsL X a0 us, IsL X' a0 us)
    (h5 : nums'.length = p) (h6 : ∀ q, ∀ uu : q < p, nums'[q]? = nums[q]?) (h7 : ∀ q : Nat, ∀ uu : q < p, valueAt ks' (q : Int) = valueAt ks (q : Int)) (hI : Le (del X M) (del X' M')) : LawInv w M' RR st nb tb pw s PW bx By p X' pwl nums' ks' :=
  ⟨h1, h2, h3, h4, fun q y ra a0 e1 e2 => let ⟨us, r1, r2⟩ := h.row q y ra a0 e1 e2; ⟨us, hR q y ra a0 us e1 e2 r1, r2⟩, h5, h.pl, fun q hq => (h.plc q hq).move (fun y ra a0 us => hR q y ra a0 us) hI (h6 q hq) (h7 q hq),
    fun e he => (h.ent e he).move (Nat.le_refl _) (fun q y ra a0 us uu => hR q y ra a0 us) hI⟩

theorem rows_apart : ∀ {RR : List (List Addr)}, ∀ uu : RR.flatten.Nodup, ∀ {p q : Nat} {r1 r2 : List Addr} {a : Addr}, ∀ uu : RR[p]? = some r1, ∀ uu : RR[q]? = some r2, ∀ uu : p ≠ q, ∀ uu : a ∈ r1, a ∉ r2
  | [], _, p, q, r1, r2, a, h1, _, _, _, _ => by simp at h1
  | r :: RR, hn, p, q, r1, r2, a, h1, h2, ne, m1, m2 => by
    rw [List.flatten_cons, List.nodup_append] at hn
    refine ex0_3 (hn) fun uu n2 n3 => ?_
    try clear hn
    have inF : ∀ {i : Nat} {r' : List Addr}, ∀ uu : RR[i]? = some r', ∀ uu : a ∈ r', a ∈ RR.flatten := fun e m => List.mem_flatten.mpr ⟨_, List.mem_of_getElem? e, m⟩
    cases p with
    | zero =>
      cases q with
      | zero => exact ne rfl
      | succ q => simp at h1 h2; subst h1; exact n3 a m1 a (inF h2 m2) rfl
    | succ p =>
      cases q with
      | zero => simp at h1 h2; subst h2; exact n3 a m2 a (inF h1 m1) rfl
      | succ q => simp at h1 h2; exact rows_apart n2 h1 h2 (fun z => ne (by rw [z])) m1 m2
theorem IsID.del {b : Addr} {bs : List Addr} {ks : List (Int × Value)} (hb : b ∉ bs) (h : IsID PG w D b ks) : IsID PG w (del D bs) b ks := by
  obtain ⟨o, kvs, a, c, d⟩ := h
  exact ⟨o, kvs, by rw [del_at hb]; exact a, c, d⟩
theorem IsID.put {b c : Addr} {o : Obj} {ks : List (Int × Value)} (hb : b ≠ c) (h : IsID PG w D b ks) : IsID PG w (put D c o) b ks := by
  obtain ⟨o, kvs, a, c, d⟩ := h
  exact ⟨o, kvs, by rw [put_ne hb]; exact a, c, d⟩
-- a dict with tuples for keys, tuples kept
theorem IsTD.kept {X I : DH} {b : Addr} {ks : List (List Int × Value)} (h : IsTD PG w X b ks) (hb : ∀ o, ∀ uu : X b = some o, I b = some o) (ht : ∀ a vs m, ∀ uu : X a = some (tupO vs m), I a = some (tupO vs m)) : IsTD PG w I b ks := by
  obtain ⟨o, es, ep, xs, a, c, d, e, f, g, gg⟩ := h
  exact ⟨o, es, ep, xs, hb o a, c, d, e, fun x hx => let ⟨vs, m, y, z⟩ := f x hx; ⟨vs, m, ht _ vs m y, z⟩, g, gg⟩
-- no tuple among them
noncomputable def NoTup (X : DH) (M : List Addr) : Prop := ∀ a, ∀ uu : a ∈ M, ∀ us, ¬ IsT X a us
theorem noT_list {X : DH} {a : Addr} {us vs : List Value} (h : IsL X a us) : ¬ IsT X a vs := fun k => by
  obtain ⟨x, m, z, _⟩ := h
  obtain ⟨y, l, q, _⟩ := k
  rw [z] at q
  exact absurd (congrArg Obj.cls (Option.some.inj q)) (by intro q; injection q with q; exact absurd q (by decide))
theorem noT_dict {X : DH} {a : Addr} {ks : List (Int × Value)} {vs : List Value} (h : IsID PG w X a ks) : ¬ IsT X a vs := fun k => by
  obtain ⟨o, kvs, z, hd, _⟩ := h
  obtain ⟨y, l, q, _⟩ := k
  rw [z] at q
  obtain rfl := Option.some.inj q
  refine ex2_3 (hd) fun es ep uu q uu => ?_
  try clear hd
  cases q
end

section
variable {w : World} {K : Frag} {Hb : Heap} {n : Nat} {D : DH}

-- what may change before the end of the place loop
noncomputable abbrev muts (st nb tb pw : Addr) (RR : List (List Addr)) : List Addr := st :: nb :: tb :: pw :: RR.flatten
structure Apart (st nb tb pw sm : Addr) (RR : List (List Addr)) : Prop where
  sn : st ≠ nb
  sb : st ≠ tb
  sp : st ≠ pw
  nt : nb ≠ tb
  np : nb ≠ pw
  tp : tb ≠ pw
  ms : sm ≠ st
  mn : sm ≠ nb
  mt : sm ≠ tb
  mp : sm ≠ pw
  fs : st ∉ RR.flatten
  fn : nb ∉ RR.flatten
  ft : tb ∉ RR.flatten
  fp : pw ∉ RR.flatten
  fm : sm ∉ RR.flatten
  fl : RR.flatten.Nodup
section
variable {st nb tb pw sm : Addr} {RR : List (List Addr)}
theorem Apart.of (h : (sm :: muts st nb tb pw RR).Nodup) : Apart st nb tb pw sm RR := by
  simp only [List.nodup_cons, List.mem_cons, not_or] at h
  refine ex0_6 (h) fun hN0 hN1 hN2 hN3 e1 e2 => ?_
  try clear h
  obtain ⟨a1, a2, a3, a4, a5⟩ := hN0
  obtain ⟨b1, b2, b3, b4⟩ := hN1
  obtain ⟨c1, c2, c3⟩ := hN2
  obtain ⟨d1, d2⟩ := hN3
  exact ⟨b1, b2, b3, c1, c2, d1, a1, a2, a3, a4, b4, c3, d2, e1, a5, e2⟩
theorem Apart.not (h : Apart st nb tb pw sm RR) : sm ∉ muts st nb tb pw RR := by
  simp only [List.mem_cons, not_or]; exact ⟨h.ms, h.mn, h.mt, h.mp, h.fm⟩
theorem Apart.turn (h : Apart st nb tb pw sm RR) {p : Nat} {ra : List Addr} (hp : RR[p]? = some ra) : (st :: pw :: sm :: ra).Nodup ∧ ∀ a, ∀ uu : a ∈ st :: pw :: sm :: ra, a ∈ sm :: muts st nb tb pw RR := by
  have m : ∀ a, ∀ uu : a ∈ ra, a ∈ RR.flatten := fun a ha => List.mem_flatten.mpr ⟨_, List.mem_of_getElem? hp, ha⟩
  refine ⟨?_, fun a ha => ?_⟩
  · simp only [List.nodup_cons, List.mem_cons, not_or]
    exact ⟨⟨h.sp, h.ms.symm, fun z => h.fs (m _ z)⟩, ⟨h.mp.symm, fun z => h.fp (m _ z)⟩, fun z => h.fm (m _ z), h.fl.sublist (List.sublist_flatten_of_mem (List.mem_of_getElem? hp))⟩
  · simp only [List.mem_cons] at ha ⊢
    rcases ha with rfl | rfl | rfl | ha
    · simp
    · simp
    · simp
    · simp [m a ha]
end

theorem LawInv.next {st nb tb pw sm : Addr} {RR : List (List Addr)} {s p t : Nat} {PW bx By : ∀ uu : Nat, Nat} {X3 X4 : DH} {pwl nums new : List Value} {ks : List (Int × Value)} {kv : List (List Int × Value)} {qt : Addr} {ra : List Addr} {o : Obj}
    (h : LawInv w (sm :: muts st nb tb pw RR) RR st nb tb pw s PW bx By p X3 pwl nums ks) (ap : Apart st nb tb pw sm RR)
    (P : PlaceInv w X3 (sm :: muts st nb tb pw RR) ra st pw sm s p (PW p) t pwl (fun y x => y < By p ∧ x < bx p) X4 new kv) (hra : RR[p]? = some ra) (ht : 1 ≤ t ∧ t ≤ 3)
    (hq : valueAt ks (p : Int) = some (.ref qt)) (hqT : IsT (del X3 (sm :: muts st nb tb pw RR)) qt (intL (((s * t : Nat) : Int) :: List.replicate (s * s - 1) 7))) (hz : new.length ≤ 2000)
    (hL : IsL (put X4 nb o) nb (nums ++ [.ref sm])) :
    LawInv w (muts st nb tb pw RR) RR st nb tb pw s PW bx By (p + 1) (put X4 nb o) (pwl ++ new) (nums ++ [.ref sm]) ks := by
  have inF : ∀ {q : Nat} {r : List Addr} {a : Addr}, ∀ uu : RR[q]? = some r, ∀ uu : a ∈ r, a ∈ RR.flatten := fun e m => List.mem_flatten.mpr ⟨_, List.mem_of_getElem? e, m⟩
  have kp : ∀ (b : Addr) (o' : Obj), ∀ uu : b ∉ st :: pw :: sm :: ra, ∀ uu : X3 b = some o', X4 b = some o' := fun b o' hb e => P.le b o' (by rw [del_at hb]; exact e)
  have sub := (ap.turn hra).2
  have keepRow : ∀ (q y : Nat) (r : List Addr) (a0 : Addr) (us : List Value), ∀ uu : q ≠ p, ∀ uu : RR[q]? = some r, ∀ uu : r[y]? = some a0, ∀ uu : IsL X3 a0 us, IsL X4 a0 us := fun q y r a0 us hqp e1 e2 ⟨vs, m, z1, z2⟩ => by
    have m0 := List.mem_of_getElem? e2
    have mF := inF e1 m0
    refine ⟨vs, m, kp a0 _ ?_ z1, z2⟩
    simp only [List.mem_cons, not_or]
    exact ⟨fun z => ap.fs (z ▸ mF), fun z => ap.fp (z ▸ mF), fun z => ap.fm (z ▸ mF), rows_apart ap.fl e1 hra hqp m0⟩
  have nbRow : ∀ (q y : Nat) (r : List Addr) (a0 : Addr), ∀ uu : RR[q]? = some r, ∀ uu : r[y]? = some a0, a0 ≠ nb := fun q y r a0 e1 e2 z => ap.fn (z ▸ inF e1 (List.mem_of_getElem? e2))
  have row4 : ∀ (q y : Nat) (r : List Addr) (a0 : Addr), ∀ uu : RR[q]? = some r, ∀ uu : r[y]? = some a0, ∃ us, IsL X4 a0 us ∧ us.length = PW q := fun q y r a0 e1 e2 => by
    by_cases hqp : q = p
    · obtain rfl := hqp.symm
      obtain rfl := Option.some.inj (hra.symm.trans e1)
      exact P.row y a0 e2
    · refine ex1_2 (h.row q y r a0 e1 e2) fun us r1 r2 => ?_
      exact ⟨us, keepRow q y r a0 us hqp e1 e2 r1, r2⟩
  have I3 : Le (del X3 (sm :: muts st nb tb pw RR)) (del (put X4 nb o) (muts st nb tb pw RR)) := fun a o' e => by
    have n1 : a ∉ sm :: muts st nb tb pw RR := fun q => nos (del_none q) e
    rw [del_at n1] at e
    have n2 : a ∉ muts st nb tb pw RR := fun q => n1 (List.mem_cons_of_mem _ q)
    have n3 : a ≠ nb := fun q => n2 (by simp [q])
    rw [del_at n2, put_ne n3]
    exact kp a o' (fun q => n1 (sub a q)) e
  have I4 : Le (del X4 (sm :: muts st nb tb pw RR)) (del (put X4 nb o) (muts st nb tb pw RR)) := fun a o' e => by
    have n1 : a ∉ sm :: muts st nb tb pw RR := fun q => nos (del_none q) e
    rw [del_at n1] at e
    have n2 : a ∉ muts st nb tb pw RR := fun q => n1 (List.mem_cons_of_mem _ q)
    have n3 : a ≠ nb := fun q => n2 (by simp [q])
    rw [del_at n2, put_ne n3]; exact e
  have nb3 : nb ∉ st :: pw :: sm :: ra := by
    simp only [List.mem_cons, not_or]; exact ⟨ap.sn.symm, ap.np, ap.mn.symm, fun z => ap.fn (inF hra z)⟩
  have tb3 : tb ∉ st :: pw :: sm :: ra := by
    simp only [List.mem_cons, not_or]; exact ⟨ap.sb.symm, ap.tp, ap.mt.symm, fun z => ap.ft (inF hra z)⟩
  have nb4 : IsL X4 nb nums := let ⟨vs, m, z1, z2⟩ := h.nb; ⟨vs, m, kp nb _ nb3 z1, z2⟩
  have tb4 : IsID PG w X4 tb ks := let ⟨ob, kvs, z1, z2, z3⟩ := h.tb; ⟨ob, kvs, kp tb _ tb3 z1, z2, z3⟩
  have nt4 : NoTup X4 (muts st nb tb pw RR) := fun a ha us hT => by
    simp only [List.mem_cons] at ha
    rcases ha with qZ0 | qZ1 | qZ2 | qZ3 | ha
    · obtain rfl := qZ0.symm
      exact noT_list P.st.list.choose_spec hT
    · obtain rfl := qZ1.symm
      exact noT_list nb4 hT
    · obtain rfl := qZ2.symm
      exact noT_dict tb4 hT
    · obtain rfl := qZ3.symm
      exact noT_list P.pw hT
    · refine ex1_2 (List.mem_flatten.mp ha) fun r hr ha => ?_
      obtain ⟨q, hq⟩ := List.mem_iff_getElem?.mp hr
      obtain ⟨y, hy⟩ := List.mem_iff_getElem?.mp ha
      refine ex1_2 (row4 q y r a hq hy) fun us' r1 uu => ?_
      exact noT_list r1 hT
  have smI : IsTD PG w (del (put X4 nb o) (muts st nb tb pw RR)) sm kv := P.sm.kept (fun o' e => by rw [del_at ap.not, put_ne ap.mn]; exact e) (fun a vs m e => by
    have n2 : a ∉ muts st nb tb pw RR := fun q => nt4 a q _ ⟨vs, m, e, rfl⟩
    have n3 : a ≠ nb := fun q => n2 (by simp [q])
    rw [del_at n2, put_ne n3]; exact e)
  refine ⟨P.st.put ap.sn, hL, tb4.put ap.nt.symm, keepL ap.np.symm P.pw, fun q y r a0 e1 e2 => ?_, by rw [List.length_append, h.nl]; rfl, ?_, fun q hq' => ?_, fun e he => ?_⟩
  · refine ex1_2 (row4 q y r a0 e1 e2) fun us r1 r2 => ?_
    exact ⟨us, keepL (nbRow q y r a0 e1 e2) r1, r2⟩
  · have := h.pl
    rw [List.length_append]; lia
  · by_cases hqp : q = p
    · subst hqp
      refine ⟨t, sm, qt, kv, ht.1, ht.2, ?_, smI, hq, hqT.le I3, fun y x hy hx => ?_⟩
      · rw [← h.nl]; simp
      · refine ex1_4 (P.cell y x ⟨hy, hx⟩) fun f g1 g2 g3 g4 => ?_
        refine ⟨f, g1, g2, g3, fun r a0 e1 e2 => ?_⟩
        obtain rfl := Option.some.inj (hra.symm.trans e1)
        exact (g4 a0 e2).move (fun us => keepL (nbRow q y ra a0 e1 e2)) I4
    · have lt : q < p := by lia
      exact (h.plc q lt).move (fun y r a0 us e1 e2 z => keepL (nbRow q y r a0 e1 e2) (keepRow q y r a0 us hqp e1 e2 z)) I3 (List.getElem?_append_left (by rw [h.nl]; exact lt)) rfl
  · rcases List.mem_append.mp he with he | he
    · exact (h.ent e he).move (by lia) (fun q y r a0 us lt e1 e2 z => keepL (nbRow q y r a0 e1 e2) (keepRow q y r a0 us (by lia) e1 e2 z)) I3
    · refine ex6_6 (P.ent e he) fun u ln y x f a0 e1 e2 e3 e4 e5 e6 => ?_
      exact ⟨u, ln, p, y, x, f, ra, a0, e1, by (constructor <;> intro hZ <;> omega), e2.1, e2.2, hra, e3, e4.le I4, e5.le I4, e6.move (fun us => keepL (nbRow p y ra a0 hra e3)) I4⟩
end

section
variable {w : World} {K : Frag} {Hb : Heap} {n : Nat} {D : DH}

-- from the start of a place to its rows: what the steps left
structure PreRows (w : World) (D X3 : DH) (RR : List (List Addr)) (st nb tb pw sm qt : Addr) (s p t : Nat) (ks : List (Int × Value)) : Prop where
  le : ∀ (a : Addr) (o : Obj), ∀ uu : a ≠ st, ∀ uu : a ≠ tb, ∀ uu : D a = some o, X3 a = some o
  back : ∀ a, ∀ uu : X3 a = none, D a = none
  hst : StOk X3 st
  htb : IsID PG w X3 tb (stored ks (p : Int) (.ref qt))
  fresh : D sm = none
  hsm : IsTD PG w X3 sm []
  qf : D qt = none
  qn : qt ≠ sm
  hqt : IsT X3 qt (intL (((s * t : Nat) : Int) :: List.replicate (s * s - 1) 7))
section
variable {X3 : DH} {RR : List (List Addr)} {st nb tb pw sm qt : Addr} {s p t : Nat} {PW bx By : ∀ uu : Nat, Nat} {pwl nums : List Value} {ks : List (Int × Value)}
theorem PreRows.inv (h : LawInv w (muts st nb tb pw RR) RR st nb tb pw s PW bx By p D pwl nums ks) (P : PreRows w D X3 RR st nb tb pw sm qt s p t ks) (ap : Apart st nb tb pw sm RR) (hM : ∀ a, ∀ uu : a ∈ muts st nb tb pw RR, D a ≠ none) :
    LawInv w (sm :: muts st nb tb pw RR) RR st nb tb pw s PW bx By p X3 pwl nums (stored ks (p : Int) (.ref qt)) ∧ IsT (del X3 (sm :: muts st nb tb pw RR)) qt (intL (((s * t : Nat) : Int) :: List.replicate (s * s - 1) 7)) ∧
      ∀ (t' : Int) (ra : List Addr), ∀ uu : RR[p]? = some ra, PlaceInv w X3 (sm :: muts st nb tb pw RR) ra st pw sm s p (PW p) t' pwl (fun uu uu => False) X3 [] [] := by
  have inF : ∀ {q : Nat} {r : List Addr} {a : Addr}, ∀ uu : RR[q]? = some r, ∀ uu : a ∈ r, a ∈ RR.flatten := fun e m => List.mem_flatten.mpr ⟨_, List.mem_of_getElem? e, m⟩
  have kl : ∀ (a : Addr) (us : List Value), ∀ uu : a ≠ st, ∀ uu : a ≠ tb, ∀ uu : IsL D a us, IsL X3 a us := fun a us e1 e2 ⟨vs, m, z1, z2⟩ => ⟨vs, m, P.le a _ e1 e2 z1, z2⟩
  have hR : ∀ (q y : Nat) (ra : List Addr) (a0 : Addr) us, ∀ uu : RR[q]? = some ra, ∀ uu : ra[y]? = some a0, ∀ uu : IsL D a0 us, IsL X3 a0 us := fun q y ra a0 us e1 e2 => by
    have m := inF e1 (List.mem_of_getElem? e2)
    exact kl a0 us (fun z => ap.fs (z ▸ m)) (fun z => ap.ft (z ▸ m))
  have pw3 := kl pw pwl ap.sp.symm ap.tp.symm h.pw
  refine ⟨h.move P.hst (kl nb nums ap.sn.symm ap.nt h.nb) P.htb pw3 hR h.nl (fun uu uu => rfl) (fun q hq => valueAt_keep _ _ (by lia)) fun a o e => ?_, keepBT (fun q => ?_) P.hqt, fun t' ra hra => ⟨del_le, fun uu => id, P.hst, by simpa using pw3, P.hsm, fun y a0 e => ?_, fun uu uu f => f.elim, fun e he => by cases he⟩⟩
  · have n1 : a ∉ muts st nb tb pw RR := fun q => nos (del_none q) e
    rw [del_at n1] at e
    have n2 : a ≠ sm := nosA (P.fresh) e
    rw [del_at (by simp only [List.mem_cons, not_or]; simp only [List.mem_cons, not_or] at n1; exact ⟨n2, n1⟩)]
    exact P.le a o (fun z => n1 (by simp [z])) (fun z => n1 (by simp [z])) e
  · rcases List.mem_cons.mp q with q | q
    · exact P.qn q
    · exact hM _ q P.qf
  · refine ex1_2 (h.row p y ra a0 hra e) fun us r1 r2 => ?_
    exact ⟨us, hR p y ra a0 us hra e r1, r2⟩
end
end

section
variable {w : World} {K : Frag} {Hb : Heap} {n : Nat} {D : DH}

theorem qt_flat {s t : Nat} {k : Int} (hs : 2 ≤ s) (hk : k = (s : Int) * s - 1) : ([vi ((s : Int) * (t : Int))] : List Value) ++ (List.replicate k.toNat [vi 7]).flatten = intL (((s * t : Nat) : Int) :: List.replicate (s * s - 1) 7) := by
  have e : k.toNat = s * s - 1 := by
    have h2 : (s : Int) * s = ((s * s : Nat) : Int) := by push_cast; rfl
    have := Nat.mul_le_mul hs hs
    lia
  rw [e, flat_vi, ← Int.natCast_mul]
  rfl
theorem sq_int {s : Nat} (hs : s = 4 ∨ s = 2) : ((s : Int) * s - 1) = ((s * s - 1 : Nat) : Int) ∧ 3 ≤ s * s - 1 ∧ s * s - 1 ≤ 15 := by
  rcases hs with rfl | rfl <;> exact ⟨by decide, by decide, by decide⟩

theorem law_place_pre (S : Stat w K Hb) {ρ : List (Str × Value)} {st fr ps mp gr nb tb pw : Addr} {s l p H W MA MD : Nat} {cs : List (Nat × Nat)} {c : Nat × Nat} {RR : List (List Addr)} {ks : List (Int × Value)} {M : List Addr} {rest : List Stmt} {Q : ∀ uu : Flow, ∀ uu : List (Str × Value), ∀ uu : DH, Prop}
    (hρ : RLe (oenv st fr ps mp gr nb tb pw s l) ρ) (rp : ρ.lookup ("place_here" : Str) = some (vi p)) (hf : IsFr (del D M) fr H W s (castC cs)) (g : GeoN H W s MA MD cs) (hc : cs[p]? = some c) (hz : ks.length ≤ 2 ^ 10) (hn : 3 ≤ n)
    (hst : StOk D st) (htb : IsID PG w D tb ks) (hne : st ≠ tb)
    (k : ∀ (ρ' : List (Str × Value)) (X3 : DH) (sm qt : Addr) (t : Nat), ∀ uu : 1 ≤ t, ∀ uu : t ≤ 3, ∀ uu : RLe (lenv st fr ps mp gr nb tb pw sm s l p (wdOf W MA c) (htOf H MD c) t) ρ', ∀ uu : PreRows w D X3 RR st nb tb pw sm qt s p t ks, TS PG w Hb n (scopeOf (stm 86)) rest ρ' X3 Q) :
    TS PG w Hb n (scopeOf (stm 86)) (placeS 0 :: placeS 1 :: placeS 2 :: rest) ρ D Q := by
  have hA := g.MA
  have hB := g.MD
  have hs := g.hs
  have hf' := hf.le del_le
  have hI := hf'
  obtain ⟨cl, us, hI, _⟩ := hI
  have ci : (castC cs)[p]? = some ((c.1 : Int), (c.2 : Int)) := by simp [castC, hc]
  refine TS_cons (T1_unpack (xs := [(("wide_here" : Str), _), (("high_here" : Str), _)]) rfl rfl ?_ (by intro _ _; rfl))
  refine TE_mcall S (hρ _ _ rfl) hI rfl rfl (TEs_cons (TE_name rp (TEs_nil ?_)))
  refine TC.tup2 (sp_plane_size S hf' g.geo ci (by (exact Nat.le_of_lt (by assumption)))) fun t1 D1 l1 hT1 => ?_
  refine ⟨t1, _, rfl, .inr hT1, rfl, ?_⟩
  have ew : pt ((W : Int) * ((c.1 : Nat) : Int)) MA = ((wdOf W MA c : Nat) : Int) := by rw [← Int.natCast_mul, pt_nat hA.1]; rfl
  have eh : pt ((H : Int) * ((c.2 : Nat) : Int)) MD = ((htOf H MD c : Nat) : Int) := by rw [← Int.natCast_mul, pt_nat hB.1]; rfl
  show TS PG w Hb n (scopeOf (stm 86)) _ (("high_here", vi (pt ((H : Int) * ((c.2 : Nat) : Int)) MD)) :: ("wide_here", vi (pt ((W : Int) * ((c.1 : Nat) : Int)) MA)) :: ρ) D1 _
  rw [ew, eh]
  refine TS_cons (T1_swap (ys := ["times_here", "some"]) rfl ?_ (by rintro ⟨⟩ rfl; rfl))
  have hρ1 : RLe (oenv st fr ps mp gr nb tb pw s l) (("high_here", vi (htOf H MD c : Nat)) :: ("wide_here", vi (wdOf W MA c : Nat)) :: ρ) := (hρ.push rfl).push rfl
  refine TE_tuple (TEs_cons (TE_add (TE_int (TE_gcall S rfl rfl (TEs_cons (TE_name (hρ1 _ _ rfl) (TEs_cons (TE_int (TEs_nil ?_)))))))))
  refine TC.next (sp_next S (L := 3) (hst.le l1) (by decide) (by lia)) fun r D2 hr l2 hst2 => ?_
  refine ⟨_, _, rfl, rfl, TEs_cons (TE_dict fun sm o hsm uu hSM => TEs_nil ⟨by simp [sizeLine], fun t4 D4 ht4 l4 hT4 uu => ⟨t4, _, rfl, .inr hT4, rfl, ?_⟩⟩)⟩
  have et : (1 : Int) + (r : Int) = ((1 + r : Nat) : Int) := by (constructor <;> intro hZ <;> omega)
  show TS PG w Hb n (scopeOf (stm 86)) _ (("times_here", vi (1 + (r : Int))) :: ("some", .ref sm) :: ("high_here", vi (htOf H MD c : Nat)) :: ("wide_here", vi (wdOf W MA c : Nat)) :: ρ) D4 _
  rw [et]
  have hρ2 : RLe (lenv st fr ps mp gr nb tb pw sm s l p (wdOf W MA c) (htOf H MD c) (1 + r : Nat)) (("times_here", vi (1 + r : Nat)) :: ("some", .ref sm) :: ("high_here", vi (htOf H MD c : Nat)) :: ("wide_here", vi (wdOf W MA c : Nat)) :: ρ) :=
    RLe.cons rp (RLe.cons rfl (RLe.cons rfl (RLe.cons rfl (RLe.cons rfl ((hρ1.push rfl).push rfl)))))
  refine ex0_3 (sq_int hs) fun q1 q2 q3 => ?_
  refine TS_cons (T1_setitemD (TE_addT (TE_tuple (TEs_cons (TE_mul (TE_name (hρ2 _ _ rfl) (TE_name (hρ2 _ _ rfl) ⟨_, _, rfl, rfl, by (clear q3 q2 q1 hρ2 et hT4 l4 ht4 hSM hsm hst2 l2 hr hρ1 eh ew hT1 l1 ci hI hf' hB hA k hne htb hst hn hz hc g hf rp hρ S; lia), TEs_nil ⟨by simp [sizeLine], fun a5 D5 ha5 l5 hA5 uu => ?_⟩⟩)))))))
  refine TE_mulT (TE_tuple (TEs_cons (TE_int (TEs_nil ⟨by simp [sizeLine], fun a6 D6 ha6 l6 hA6 uu => ?_⟩))))
  refine TE_sub (TE_mul (TE_name (hρ2 _ _ rfl) (TE_name (hρ2 _ _ rfl) ⟨_, _, rfl, rfl, by (clear hA6 l6 ha6 hA5 l5 ha5 q3 q2 q1 hρ2 et hT4 l4 ht4 hSM hsm hst2 l2 hr hρ1 eh ew hT1 l1 ci hI hf' hB hA k hne htb hst hn hz hc g hf rp hρ S; omega), TE_int ⟨_, _, rfl, rfl, a6, _, _, rfl, rfl, hA6, by simp, by lia, by lia, ?_, fun a7 o7 ha7 hA7 => ?_⟩⟩)))
  · rw [q1, Int.toNat_natCast]; simp; lia
  refine ⟨a5, _, a7, _, rfl, rfl, hA5.le (l6.trans (le_put ha7)), hA7, by simp, ?_, ?_, fun qt o8 hqt hQT => ?_⟩
  · rw [q1, Int.toNat_natCast, flat_one]; intro z; have := congrArg List.length z; simp at this; (clear z hA7 ha7 hA6 l6 ha6 hA5 l5 ha5 q3 q1 hρ2 et hT4 l4 ht4 hSM hsm hst2 l2 hr hρ1 eh ew hT1 l1 ci hI hf' hs hB hA k hne htb hst hn hz hc g hf rp hρ S; lia)
  · rw [q1, Int.toNat_natCast, flat_one]; simp [sizeLine]; (clear hA7 ha7 hA6 l6 ha6 hA5 l5 ha5 q2 q1 hρ2 et hT4 l4 ht4 hSM hsm hst2 l2 hr hρ1 eh ew hT1 l1 ci hI hf' hs hB hA k hne htb hst hn hz hc g hf rp hρ S; lia)
  rw [qt_flat (by lia) rfl] at hQT
  have l57 : Le D4 (put (put D6 a7 o7) qt o8) := l5.trans (l6.trans ((le_put ha7).trans (le_put hqt)))
  have lsm : Le D2 (put (put D6 a7 o7) qt o8) := (le_put hsm).trans (l4.trans l57)
  have e18 : Le (del D [st]) (put (put D6 a7 o7) qt o8) := (le_del (del_le.trans l1) fun a ha => del_none ha).trans (l2.trans lsm)
  have htb8 : IsID PG w (put (put D6 a7 o7) qt o8) tb ks := (htb.del (by simpa using hne.symm)).le e18
  have ntb : D tb ≠ none := fun q => by obtain ⟨ob, kvs, z, _⟩ := htb; rw [q] at z; cases z
  have back2 : ∀ a, ∀ uu : D2 a = none, D a = none := fun a ha => l1.none (nextBack l2 hst2 ha)
  have fsm : D sm = none := back2 sm hsm
  have l67 : Le D4 (put D6 a7 o7) := l5.trans (l6.trans (le_put ha7))
  have lsm7 : Le (put D2 sm o) (put D6 a7 o7) := l4.trans l67
  have fqt : D qt = none := back2 qt (((le_put hsm).trans lsm7).none hqt)
  have nqs : qt ≠ sm := fun q => by
    have := lsm7 sm o (put_self ..)
    rw [← q, hqt] at this; cases this
  have nst : sm ≠ tb := fun q => ntb (q ▸ fsm)
  have nqt : qt ≠ tb := fun q => ntb (q ▸ fqt)
  refine TE_name (hρ2 _ _ rfl) (TE_name (hρ2 _ _ rfl) ⟨tb, ks, (p : Int), rfl, rfl, htb8, by simp only [sizeLine]; (exact Nat.le_trans (by assumption) (by decide)), fun o' hT' => ?_⟩)
  refine k _ _ sm qt (1 + r) (by lia) (by lia) hρ2 ⟨fun a ob h1 h2 e => ?_, fun a ha => ?_, (hst2.le lsm).put hne, hT', fsm, ?_, fqt, nqs, ?_⟩
  · rw [put_ne h2]
    exact e18 a ob (by rw [del_at (by simpa using h1)]; exact e)
  · have h2 : a ≠ tb := fun q => by subst q; rw [put_self] at ha; cases ha
    rw [put_ne h2] at ha
    exact back2 a (lsm.none ha)
  · exact (hSM.le (l4.trans l57)).kept (fun ob e => by rw [put_ne nst]; exact e) fun a vs m e => by
      rw [put_ne (fun q => noT_dict (vs := vs.map er) (q ▸ htb8) ⟨vs, m, e, rfl⟩)]; exact e
  · obtain ⟨vs, m, z1, z2⟩ := hQT
    exact ⟨vs, m, by rw [put_ne nqt]; exact z1, z2⟩
end

section
variable {w : World} {K : Frag} {Hb : Heap} {n : Nat} {D : DH}

theorem RLe.trans {a b c : List (Str × Value)} (h : RLe a b) (k : RLe b c) : RLe a c := fun x v e => k x v (h x v e)
theorem oenv_lenv {st fr ps mp gr nb tb pw sm : Addr} {s l p wd ht : Nat} {t : Int} : RLe (oenv st fr ps mp gr nb tb pw s l) (lenv st fr ps mp gr nb tb pw sm s l p wd ht t) :=
  (((((RLe.refl _).push rfl).push rfl).push rfl).push rfl).push rfl

-- one place of the law's loop
theorem law_place (S : Stat w K Hb) {ρ : List (Str × Value)} {st fr ps mp gr nb tb pw : Addr} {s l p H W MA MD : Nat} {cs : List (Nat × Nat)} {c : Nat × Nat} {RR : List (List Addr)} {ra : List Addr} {PW bx By : ∀ uu : Nat, Nat} {pwl nums : List Value} {ks : List (Int × Value)} {Q : ∀ uu : Flow, ∀ uu : List (Str × Value), ∀ uu : DH, Prop}
    (hρ : RLe (oenv st fr ps mp gr nb tb pw s l) ρ) (rp : ρ.lookup ("place_here" : Str) = some (vi p)) (hf : IsFr (del D (muts st nb tb pw RR)) fr H W s (castC cs)) (g : GeoN H W s MA MD cs) (hc : cs[p]? = some c) (hG : GridM (del D (muts st nb tb pw RR)) gr s RR) (hra : RR[p]? = some ra)
    (hMn : (muts st nb tb pw RR).Nodup) (hM : ∀ a, ∀ uu : a ∈ muts st nb tb pw RR, D a ≠ none) (h : LawInv w (muts st nb tb pw RR) RR st nb tb pw s PW bx By p D pwl nums ks) (hz : ks.length ≤ p)
    (hbx : ptN (wdOf W MA c) s = bx p) (hby : ptN (htOf H MD c) s = By p) (hPW : bx p ≤ PW p) (hra2 : By p ≤ ra.length) (hb : p < 4 ∧ bx p ≤ 44 ∧ By p ≤ 44) (hn : 3 ≤ n)
    (k : ∀ (ρ' : List (Str × Value)) (D' : DH) (pwl' nums' : List Value) (ks' : List (Int × Value)), ∀ uu : RLe (oenv st fr ps mp gr nb tb pw s l) ρ', ∀ uu : Le (del D (muts st nb tb pw RR)) D', ∀ uu : (∀ a, ∀ uu : D' a = none, D a = none), ∀ uu : ks'.length ≤ p + 1,
      LawInv w (muts st nb tb pw RR) RR st nb tb pw s PW bx By (p + 1) D' pwl' nums' ks' → Q .next ρ' D') :
    TS PG w Hb n (scopeOf (stm 86)) (forBody (lawS 5)) ρ D Q := by
  have pl := h.pl
  have inF : ∀ {a : Addr}, ∀ uu : a ∈ ra, a ∈ RR.flatten := fun m => List.mem_flatten.mpr ⟨_, List.mem_of_getElem? hra, m⟩
  have nst : st ≠ tb := by
    simp only [List.nodup_cons, List.mem_cons, not_or] at hMn
    exact hMn.1.2.1
  refine law_place_pre S (RR := RR) (rest := [placeS 3, placeS 4]) hρ rp hf g hc (by lia) hn h.st h.tb nst fun ρ1 X3 sm qt t t1 t2 hρ1 P => ?_
  have ap : Apart st nb tb pw sm RR := Apart.of (List.nodup_cons.mpr ⟨fun q => hM _ q P.fresh, hMn⟩)
  refine ex0_3 (P.inv h ap hM) fun h3 hqT pi => ?_
  obtain ⟨nd, sub⟩ := ap.turn hra
  have hM3 : ∀ a, ∀ uu : a ∈ sm :: muts st nb tb pw RR, X3 a ≠ none := fun a ha q => by
    rcases List.mem_cons.mp ha with e | e
    · exact hasTD P.hsm (e ▸ q)
    · exact hM a e (P.back a q)
  have lG : Le (del D (muts st nb tb pw RR)) (del X3 (st :: pw :: sm :: ra)) := fun a o e => by
    have n1 : a ∉ muts st nb tb pw RR := fun q => nos (del_none q) e
    rw [del_at n1] at e
    have n2 : a ≠ sm := nosA (P.fresh) e
    have n3 : a ∉ st :: pw :: sm :: ra := fun q => by
      rcases List.mem_cons.mp (sub a q) with z | z
      · exact n2 z
      · exact n1 z
    rw [del_at n3]
    exact P.le a o (fun z => n1 (by simp [z])) (fun z => n1 (by simp [z])) e
  refine TS_cons (law_rows S hρ1 g.hs hbx hby hPW hra2 hb (by (and_intros <;> (exact Int.ofNat_le.mpr (by assumption)))) (by lia) sub hM3 nd (hG.le lG) hra (by lia) (pi t ra hra) fun ρ2 X4 new kv hρ2 hnew P4 => ?_)
  have nb3 : nb ∉ st :: pw :: sm :: ra := by
    simp only [List.mem_cons, not_or]; exact ⟨ap.sn.symm, ap.np, ap.mn.symm, fun z => ap.fn (inF z)⟩
  have nb4 : IsL X4 nb nums := let ⟨vs, m, z1, z2⟩ := h3.nb; ⟨vs, m, P4.le nb _ (by rw [del_at nb3]; exact z1), z2⟩
  refine TS_cons (T1_expr (TE_append (TE_name (hρ2 _ _ rfl) ⟨nb, _, rfl, nb4, TE_name (hρ2 _ _ rfl) ⟨_, nb4, ?_, fun o' hL => TS_nil ?_⟩⟩)))
  · have := h3.nl
    simp only [sizeLine]; lia
  refine k ρ2 _ _ _ _ (oenv_lenv.trans hρ2) (fun a o e => ?_) (fun a ha => ?_) (Nat.le_trans (stored_len _ _ _) (by (push_cast; omega))) (h3.next ap P4 hra ⟨t1, t2⟩ (valueAt_put _ _ _) hqT hnew hL)
  · have n1 : a ∉ muts st nb tb pw RR := fun q => nos (del_none q) e
    rw [put_ne (fun z => n1 (by simp [z]))]
    exact P4.le a o (lG a o e)
  · have n1 : a ≠ nb := fun q => by subst q; rw [put_self] at ha; cases ha
    rw [put_ne n1] at ha
    exact P.back a (P4.back a ha)

theorem law_places (S : Stat w K Hb) {ρ : List (Str × Value)} {st fr ps mp gr nb tb pw : Addr} {s l H W MA MD : Nat} {cs : List (Nat × Nat)} {RR : List (List Addr)} {us : List Value} {PW bx By : ∀ uu : Nat, Nat} {Q : ∀ uu : Flow, ∀ uu : List (Str × Value), ∀ uu : DH, Prop}
    (hρ : RLe (oenv st fr ps mp gr nb tb pw s l) ρ) (hf : IsFr (del D (muts st nb tb pw RR)) fr H W s (castC cs)) (g : GeoN H W s MA MD cs) (hG : GridM (del D (muts st nb tb pw RR)) gr s RR) (hps : IsL (del D (muts st nb tb pw RR)) ps us) (hus : us.length = cs.length) (hRR : RR.length = cs.length)
    (hMn : (muts st nb tb pw RR).Nodup) (hM : ∀ a, ∀ uu : a ∈ muts st nb tb pw RR, D a ≠ none) (h : LawInv w (muts st nb tb pw RR) RR st nb tb pw s PW bx By 0 D [] [] [])
    (geo : ∀ (p : Nat) (c : Nat × Nat) (ra : List Addr), ∀ uu : cs[p]? = some c, ∀ uu : RR[p]? = some ra, ptN (wdOf W MA c) s = bx p ∧ ptN (htOf H MD c) s = By p ∧ bx p ≤ PW p ∧ By p ≤ ra.length ∧ bx p ≤ 44 ∧ By p ≤ 44) (hn : 3 ≤ n)
    (k : ∀ (ρ' : List (Str × Value)) (D' : DH) (pwl nums : List Value) (ks : List (Int × Value)), ∀ uu : RLe (oenv st fr ps mp gr nb tb pw s l) ρ', ∀ uu : Le (del D (muts st nb tb pw RR)) D', ∀ uu : LawInv w (muts st nb tb pw RR) RR st nb tb pw s PW bx By cs.length D' pwl nums ks, Q .next ρ' D') :
    T1 PG w Hb n (scopeOf (stm 86)) (lawS 5) ρ D Q := by
  have hl4 := g.len
  refine T1_for_range (fun p ρ' X => RLe (oenv st fr ps mp gr nb tb pw s l) ρ' ∧ Le (del D (muts st nb tb pw RR)) X ∧ (∀ a, ∀ uu : X a = none, D a = none) ∧ ∃ pwl nums ks, ks.length ≤ p ∧ LawInv w (muts st nb tb pw RR) RR st nb tb pw s PW bx By p X pwl nums ks) (.inl rfl) ?_
  obtain ⟨s3, s4⟩ := range_small (b := ((us.length : Nat) : Int)) (by (and_intros <;> (exact Int.ofNat_le.mpr (by lia))))
  refine TE_bcall S rfl rfl (TEs_cons (TE_bcall S rfl rfl (TEs_cons (TE_name (hρ _ _ rfl) (TEs_nil (TC_len (.inl (hps.le del_le)) (by lia) (TEs_nil ?_)))))))
  refine TC_range1 fun rg o1 hrg hR => ⟨rg, _, _, _, D, _, us.length, rfl, hR, s3, by simpa using s4, le_put hrg, RLe.refl _, ⟨hρ, del_le, fun uu => id, [], [], [], by simp, h⟩, fun p ρ' X hp hq1 => ?_, fun ρ' X hq2 => ?_⟩
  · obtain ⟨hρ', le, bk, pwl, nums, ks, hz, iv⟩ := hq1
    have ep : (0 + (p : Int) * 1) = (p : Int) := by (rw [Int.zero_add, Int.mul_one])
    rw [ep]
    obtain ⟨c, hc⟩ : ∃ c, cs[p]? = some c := ⟨_, List.getElem?_eq_getElem (by lia)⟩
    obtain ⟨ra, hra⟩ : ∃ ra, RR[p]? = some ra := ⟨_, List.getElem?_eq_getElem (by lia)⟩
    refine ex0_6 (geo p c ra hc hra) fun g1 g2 g3 g4 g5 g6 => ?_
    have lI : Le (del D (muts st nb tb pw RR)) (del X (muts st nb tb pw RR)) := le_del le fun a ha => del_none ha
    refine law_place S (hρ'.push rfl) rfl (hf.le lI) g hc (hG.le lI) hra hMn (fun a ha q => hM a ha (bk a q)) iv hz g1 g2 g3 g4 (by (and_intros <;> lia)) hn fun ρ2 X2 pwl2 nums2 ks2 r1 r2 r3 r4 r5 => ⟨ρ2, RLe.refl _, r1, lI.trans r2, fun a ha => bk a (r3 a ha), pwl2, nums2, ks2, r4, r5⟩
  · obtain ⟨hρ', le, bk, pwl, nums, ks, hz, iv⟩ := hq2
    exact k ρ' X pwl nums ks hρ' le (hus ▸ iv)
end

section
variable {w : World} {K : Frag} {Hb : Heap} {n : Nat} {D : DH}

theorem map_fst_int (cs : List (Nat × Nat)) (f : ∀ uu : Nat × Nat, Nat) {m : Nat} (hm : m = cs.length) : (List.range m).map (fun i => ((cs[i]?).map fun c => vi (f c)).getD .none) = intL (cs.map fun c => (f c : Int)) := by
  subst hm
  rw [range_map_get]
  simp [intL]
theorem max_nat {cs : List (Nat × Nat)} {f : ∀ uu : Nat × Nat, Nat} {M : Int} (h1 : M ∈ cs.map fun c => (f c : Int)) (h2 : ∀ x, ∀ uu : x ∈ cs.map (fun c => (f c : Int)), x ≤ M) : ∃ m : Nat, M = m ∧ m ∈ cs.map f ∧ ∀ x, ∀ uu : x ∈ cs.map f, x ≤ m := by
  refine ex1_2 (List.mem_map.mp h1) fun c hc eR2 => ?_
  obtain rfl := eR2
  refine ⟨f c, rfl, List.mem_map.mpr ⟨c, hc, rfl⟩, fun x hx => ?_⟩
  refine ex1_2 (List.mem_map.mp hx) fun d hd eR2 => ?_
  obtain rfl := eR2
  have := h2 _ (List.mem_map.mpr ⟨d, hd, rfl⟩)
  lia
theorem law_most (S : Stat w K Hb) {ρ : List (Str × Value)} {ps : Addr} {us : List Value} {cs : List (Nat × Nat)} {Q : ∀ uu : Flow, ∀ uu : List (Str × Value), ∀ uu : DH, Prop}
    (rp : ρ.lookup ("pairs" : Str) = some (.ref ps)) (hps : IsL D ps us) (hP : IsPairs D us cs) (hl : 1 ≤ cs.length ∧ cs.length ≤ 4)
    (k : ∀ (MA MD : Nat) (mp : Addr) (D' : DH), ∀ uu : (MA ∈ cs.map (·.1) ∧ ∀ x, ∀ uu : x ∈ cs.map (·.1), x ≤ MA), ∀ uu : (MD ∈ cs.map (·.2) ∧ ∀ x, ∀ uu : x ∈ cs.map (·.2), x ≤ MD), ∀ uu : Le D D', ∀ uu : IsT D' mp [vi MA, vi MD], Q .next (("most_pair", .ref mp) :: ρ) D') :
    T1 PG w Hb n (scopeOf (stm 86)) (lawS 3) ρ D Q := by
  have nn : cs ≠ [] := fun z => by rw [z] at hl; exact absurd hl.1 (by decide)
  refine T1_assign (.inl rfl) (TE_tuple (TEs_cons (TE_bcall S rfl rfl (TEs_cons (TE_comp [] rfl RLe.nil (TE_name rp ⟨ps, us, rfl, .seq (.inl hps), by rw [hP.1]; simp only [sizeLine]; lia, ?_⟩))))))
  refine CompOf_map (fun i => ((cs[i]?).map fun c => vi c.1).getD .none) (fun i u D₂ hu le => ?_) fun D₂ le a o ha hL => TEs_nil ?_
  · refine ex2_3 (hP.2 i u hu) fun x c eR2 hc hT => ?_
    obtain rfl := eR2
    exact ⟨_, Asg_tuple (xs := [(("one" : Str), _), (("other" : Str), _)]) rfl (hT.le le) rfl (by decide) rfl, TE_name rfl ⟨by rw [hc]; rfl, Le.refl _⟩⟩
  rw [map_fst_int cs (·.1) hP.1] at hL
  refine TC_maxL hL (by simpa using nn) fun MA h1 h2 => TEs_cons (TE_bcall S rfl rfl (TEs_cons ?_))
  have l2 : Le D (put D₂ a o) := le.trans (le_put ha)
  refine TE_comp [] rfl RLe.nil (TE_name rp ⟨ps, us, rfl, .seq (.inl (hps.le l2)), by rw [hP.1]; simp only [sizeLine]; lia, ?_⟩)
  refine CompOf_map (fun i => ((cs[i]?).map fun c => vi c.2).getD .none) (fun i u D₃ hu le => ?_) fun D₃ le3 a3 o3 ha3 hL3 => TEs_nil ?_
  · refine ex2_3 (hP.2 i u hu) fun x c eR2 hc hT => ?_
    obtain rfl := eR2
    exact ⟨_, Asg_tuple (xs := [(("one" : Str), _), (("other" : Str), _)]) rfl (hT.le (l2.trans le)) rfl (by decide) rfl, TE_name rfl ⟨by rw [hc]; rfl, Le.refl _⟩⟩
  rw [map_fst_int cs (·.2) hP.1] at hL3
  refine TC_maxL hL3 (by simpa using nn) fun MD h3 h4 => TEs_nil ⟨by simp [sizeLine], fun mp D5 uu l5 hT uu => ?_⟩
  refine ex1_3 (max_nat h1 h2) fun ma eR1 m1 m2 => ?_
  obtain rfl := eR1
  refine ex1_3 (max_nat h3 h4) fun md eR1 m3 m4 => ?_
  obtain rfl := eR1
  exact k ma md mp D5 ⟨m1, m2⟩ ⟨m3, m4⟩ (l2.trans (le3.trans ((le_put ha3).trans l5))) hT
end

section
variable {w : World} {K : Frag} {Hb : Heap} {n : Nat} {D : DH}

-- an expression that is a tuple of two numbers (kept abstract: what elaborates a goal over it must not run it)
inductive IsPairE (e : Expr) (a b : Nat) : Prop
  | mk : ∀ k1 p1 k2 p2 k p, ∀ uu : e = .Tuple [.Constant (.int a) k1 p1, .Constant (.int b) k2 p2] k p, IsPairE e a b
theorem TEs_pairE {sc : Scope} {ρ : List (Str × Value)} {e : Expr} {es : List Expr} {a b : Nat} {Q : ∀ uu : List Value, ∀ uu : DH, Prop} (h : IsPairE e a b) (q : ∀ t D', ∀ uu : D t = none, ∀ uu : Le D D', ∀ uu : IsT D' t [vi a, vi b], TEs PG w Hb n sc es ρ D' (fun xs D₂ => Q (.ref t :: xs) D₂)) : TEs PG w Hb n sc (e :: es) ρ D Q := by
  obtain ⟨k1, p1, k2, p2, k, p, rfl⟩ := h
  exact TEs_cons (TE_tuple (TEs_cons (TE_int (TEs_cons (TE_int (TEs_nil ⟨by simp [sizeLine], fun a1 D1 n1 l1 hT1 uu => q a1 D1 n1 l1 hT1⟩))))))
theorem sides_form : ∃ elts x1 tp p1 e1 e2 e3 e4 e5 c1 c2 c3 c4 c5 pos p2 q1 q2, lawS 1 = .Assign [.Tuple elts x1 tp] (.Subscript (.List [e1, e2, e3, e4, e5] p1) (.Call (.Name "_law_next" c1) [.Name "state" c2, .Constant (.int 5) c3 c4] [] c5) p2) pos ∧
    elts = namesE [(("side" : Str), q1), (("less_side" : Str), q2)] ∧ IsPairE e1 4 2 ∧ IsPairE e2 4 1 ∧ IsPairE e3 2 1 ∧ IsPairE e4 2 2 ∧ IsPairE e5 4 4 :=
  ⟨_, _, _, _, _, _, _, _, _, _, _, _, _, _, _, _, _, _, rfl, rfl, ⟨_, _, _, _, _, _, rfl⟩, ⟨_, _, _, _, _, _, rfl⟩, ⟨_, _, _, _, _, _, rfl⟩, ⟨_, _, _, _, _, _, rfl⟩, ⟨_, _, _, _, _, _, rfl⟩⟩

theorem law_sides (S : Stat w K Hb) {s1 : Stmt} (h1 : lawS 1 = s1) {ρ : List (Str × Value)} {st : Addr} {Q : ∀ uu : Flow, ∀ uu : List (Str × Value), ∀ uu : DH, Prop}
    (r1 : ρ.lookup ("state" : Str) = some (.ref st)) (hst : StOk D st) (hn : 1 ≤ n)
    (k : ∀ (s l : Nat) (D' : DH), ∀ uu : (s = 4 ∨ s = 2), ∀ uu : Sides s l, ∀ uu : Le (del D [st]) D', ∀ uu : StOk D' st, Q .next (("less_side", vi l) :: ("side", vi s) :: ρ) D') :
    T1 PG w Hb n (scopeOf (stm 86)) s1 ρ D Q := by
  have hs0 : D st ≠ none := hasL hst.list.choose_spec
  have hf := sides_form
  rw [h1] at hf
  obtain ⟨elts, x1, tp, p1, e1, e2, e3, e4, e5, c1, c2, c3, c4, c5, pos, p2, q1, q2, qY85, hN, f1, f2, f3, f4, f5⟩ := hf
  obtain rfl := qY85.symm
  clear h1
  refine T1_unpack hN rfl ?_ (by intro _ _; rfl)
  refine TE_item (TE_list (TEs_pairE f1 fun a1 D1 n1 l1 hT1 => TEs_pairE f2 fun a2 D2 n2 l2 hT2 => TEs_pairE f3 fun a3 D3 n3 l3 hT3 => TEs_pairE f4 fun a4 D4 n4 l4 hT4 => TEs_pairE f5 fun a5 D5 n5 l5 hT5 => TEs_nil ⟨by simp [sizeLine], fun a6 D6 n6 l6 hL6 uu => ?_⟩))
  have l06 : Le D D6 := l1.trans (l2.trans (l3.trans (l4.trans (l5.trans l6))))
  refine TE_gcall S rfl rfl (TEs_cons (TE_name r1 (TEs_cons (TE_int (TEs_nil ?_)))))
  have hst6 := hst.le l06
  refine TC.next (sp_next S (L := 5) hst6 (by decide) hn) fun r D7 hr l7 hst7 => ?_
  have n6' : a6 ≠ st := fun q => hs0 ((l1.trans (l2.trans (l3.trans (l4.trans l5)))).none (q ▸ n6))
  have L : Le (del D [st]) D7 := (le_del (del_le.trans l06) fun a ha => del_none ha).trans l7
  have fin : ∀ (a : Addr) (s l : Nat), ∀ uu : IsT D6 a [vi s, vi l], ∀ uu : ([.ref a1, .ref a2, .ref a3, .ref a4, .ref a5] : List Value)[r]? = some (.ref a), ∀ uu : (s = 4 ∨ s = 2), ∀ uu : Sides s l, ItemR (UnpR [(("side" : Str), q1), (("less_side" : Str), q2)] ρ Q) (.ref a6) (vi r) D7 := fun a s l hT he h1 h2 =>
    ⟨a6, _, r, .ref a, rfl, .inl ((keepB (by simpa using n6') hL6).le l7), rfl, by (constructor <;> intro hZ <;> omega), by (exact Int.ofNat_le.mpr (by lia)), by rw [Int.toNat_natCast]; exact he, a, _, rfl, .inr ((tupDel hst6.list.choose_spec hT).le l7), rfl, k s l D7 h1 h2 L hst7⟩
  have : r = 0 ∨ r = 1 ∨ r = 2 ∨ r = 3 ∨ r = 4 := by lia
  rcases this with rfl | rfl | rfl | rfl | rfl
  · exact fin a1 4 2 (hT1.le (l2.trans (l3.trans (l4.trans (l5.trans l6))))) rfl (.inl rfl) (sides_of (by decide) (by decide) (by decide))
  · exact fin a2 4 1 (hT2.le (l3.trans (l4.trans (l5.trans l6)))) rfl (.inl rfl) (sides_of (by decide) (by decide) (by decide))
  · exact fin a3 2 1 (hT3.le (l4.trans (l5.trans l6))) rfl (.inr rfl) (sides_of (by decide) (by decide) (by decide))
  · exact fin a4 2 2 (hT4.le (l5.trans l6)) rfl (.inr rfl) (sides_of (by decide) (by decide) (by decide))
  · exact fin a5 4 4 (hT5.le l6) rfl (.inl rfl) (sides_of (by decide) (by decide) (by decide))
end

section
variable {w : World} {K : Frag} {Hb : Heap} {n : Nat} {D : DH}

theorem ptN_le {a b k : Nat} (hb : 1 ≤ b) : ptN a b ≤ k ↔ a ≤ k * b := by
  unfold ptN
  have : (a + b - 1) / b ≤ k ↔ (a + b - 1) / b < k + 1 := by lia
  rw [this, Nat.div_lt_iff_lt_mul (by assumption), Nat.add_mul]; (constructor <;> intro hZ <;> omega)
theorem ptN_self {a b : Nat} (hb : 1 ≤ b) : a ≤ ptN a b * b := (ptN_le hb).mp (Nat.le_refl _)
theorem pad_ok {W c MA s : Nat} (hA : 1 ≤ MA) (hs : 1 ≤ s) : ptN (ptN (W * c) MA) s ≤ ptN W (s * MA) * c := by
  rw [ptN_le hs, ptN_le hA]
  have h : W ≤ ptN W (s * MA) * (s * MA) := ptN_self (Nat.mul_pos hs hA)
  have := Nat.mul_le_mul_right c h
  have e : ptN W (s * MA) * (s * MA) * c = ptN W (s * MA) * c * s * MA := by ac_rfl
  (exact Nat.le_trans (by assumption) (by lia))
theorem pad_44 {W c MA s : Nat} (hA : 1 ≤ MA) (hs : 1 ≤ s) (hW : W ≤ 11) (hc : c ≤ 4) : ptN (ptN (W * c) MA) s ≤ 44 := by
  rw [ptN_le hs, ptN_le hA]
  have := Nat.mul_le_mul hW hc
  have h1 := Nat.mul_le_mul (Nat.mul_le_mul_left 44 hs) hA
  (exact Nat.le_trans (by assumption) (by omega))
noncomputable def bxF (W MA s : Nat) (cs : List (Nat × Nat)) (p : Nat) : Nat := ptN (wdOf W MA ((cs[p]?).getD (0, 0))) s
noncomputable def byF (H MD s : Nat) (cs : List (Nat × Nat)) (p : Nat) : Nat := ptN (htOf H MD ((cs[p]?).getD (0, 0))) s
noncomputable def pwF (W MA s : Nat) (cs : List (Nat × Nat)) (p : Nat) : Nat := padW W s MA ((cs[p]?).getD (0, 0))
theorem head_geo {H W s MA MD : Nat} {cs : List (Nat × Nat)} (g : GeoN H W s MA MD cs) {p : Nat} {c : Nat × Nat} {ra : List Addr} (hc : cs[p]? = some c) (hr : ra.length = padH H s MD c) :
    ptN (wdOf W MA c) s = bxF W MA s cs p ∧ ptN (htOf H MD c) s = byF H MD s cs p ∧ bxF W MA s cs p ≤ pwF W MA s cs p ∧ byF H MD s cs p ≤ ra.length ∧ bxF W MA s cs p ≤ 44 ∧ byF H MD s cs p ≤ 44 := by
  obtain ⟨c1, c2⟩ := g.hc c (List.mem_of_getElem? hc)
  have hs : 1 ≤ s := by rcases g.hs with e | e <;> lia
  simp only [bxF, byF, pwF, hc, Option.getD_some, hr]
  exact ⟨trivial, trivial, pad_ok g.MA.1 hs, pad_ok g.MD.1 hs, pad_44 g.MA.1 hs g.hW.2 c1.2, pad_44 g.MD.1 hs g.hH.2 c2.2⟩

theorem law_begin4 (S : Stat w K Hb) {ρ : List (Str × Value)} {st fr : Addr} {s H W MA MD : Nat} {cs : List (Nat × Nat)} {Q : ∀ uu : Flow, ∀ uu : List (Str × Value), ∀ uu : DH, Prop}
    (rf : ρ.lookup ("frame_here" : Str) = some (.ref fr)) (hst : StOk D st) (hf : IsFr (del D [st]) fr H W s (castC cs)) (g : GeoN H W s MA MD cs) (hn : 5 ≤ n)
    (k : ∀ (gr nb tb pw : Addr) (RR : List (List Addr)) (D' : DH), ∀ uu : Le (del D [st]) (del D' (muts st nb tb pw RR)), ∀ uu : GridM (del D' (muts st nb tb pw RR)) gr s RR, ∀ uu : RR.length = cs.length, ∀ uu : (muts st nb tb pw RR).Nodup, ∀ uu : (∀ a, ∀ uu : a ∈ muts st nb tb pw RR, D' a ≠ none),
      LawInv w (muts st nb tb pw RR) RR st nb tb pw s (pwF W MA s cs) (bxF W MA s cs) (byF H MD s cs) 0 D' [] [] [] → ∀ uu : (∀ (p : Nat) (c : Nat × Nat) (ra : List Addr), ∀ uu : cs[p]? = some c, ∀ uu : RR[p]? = some ra, ra.length = padH H s MD c),
      Q .next (("put_rows", .ref pw) :: ("tables", .ref tb) :: ("numbers", .ref nb) :: ("grid_here", .ref gr) :: ρ) D') :
    T1 PG w Hb n (scopeOf (stm 86)) (lawS 4) ρ D Q := by
  have hs0 : D st ≠ none := hasL hst.list.choose_spec
  refine T1_unpack (xs := [(("grid_here" : Str), _), (("numbers" : Str), _), (("tables" : Str), _), (("put_rows" : Str), _)]) rfl rfl ?_ (by intro _ _; rfl)
  refine TE_tuple (TEs_cons (TE_gcall S rfl rfl (TEs_cons (TE_name rf (TEs_nil ?_)))))
  refine (TC.apart hs0 (sp_Grid S hf g hn)).mono fun v D2 hq1 => ?_
  obtain ⟨D1, ⟨gr, RR, rfl, l1, hR, hN, hG, hlen, hrow⟩, h1, l2, l3⟩ := hq1
  have l02 := l3 l1
  refine TEs_cons (TE_list (TEs_nil ⟨by simp, fun nb D3 hnb l23 hNB uu => TEs_cons (TE_dict fun tb o htb hTB uu => TEs_cons (TE_list (TEs_nil ⟨by simp, fun pw D5 hpw l5 hPW uu => TEs_nil ⟨by simp [sizeLine], fun t6 D6 ht6 l6 hT6 uu => ⟨t6, _, rfl, .inr hT6, rfl, ?_⟩⟩⟩)))⟩))
  have l36 : Le (put D3 tb o) D6 := l5.trans l6
  have l36' : Le D3 D6 := (le_put htb).trans l36
  have l26 : Le D2 D6 := l23.trans l36'
  have l16 : Le D1 D6 := l2.trans l26
  have nb1 : D1 nb = none := l2.none hnb
  have tb3 : D2 tb = none := l23.none htb
  have tb1 : D1 tb = none := l2.none tb3
  have pw3 : D3 pw = none := (le_put htb).none hpw
  have pw1 : D1 pw = none := l2.none (l23.none pw3)
  have rowHas : ∀ (q y : Nat) (ra : List Addr) (a : Addr), ∀ uu : RR[q]? = some ra, ∀ uu : ra[y]? = some a, IsL D1 a (List.replicate (pwF W MA s cs q) .none) := fun q y ra a e1 e2 => by
    have lt : q < cs.length := by rw [← hlen]; exact (List.getElem?_eq_some_iff.mp e1).1
    have hc : cs[q]? = some cs[q] := List.getElem?_eq_getElem lt
    have := (hrow q _ ra hc e1).2 a (List.mem_of_getElem? e2)
    simpa only [pwF, hc, Option.getD_some] using this
  have flat : ∀ a, ∀ uu : a ∈ RR.flatten, D1 a ≠ none := fun a ha => by
    refine ex1_2 (List.mem_flatten.mp ha) fun r hr ha => ?_
    obtain ⟨q, hq⟩ := List.mem_iff_getElem?.mp hr
    obtain ⟨y, hy⟩ := List.mem_iff_getElem?.mp ha
    exact hasL (rowHas q y r a hq hy)
  have off : ∀ a, ∀ uu : a ∈ muts st nb tb pw RR, a ∈ RR.flatten ∨ D1 a = none := fun a ha => by
    simp only [List.mem_cons] at ha
    rcases ha with qZ0 | qZ1 | qZ2 | qZ3 | ha
    · obtain rfl := qZ0.symm
      exact .inr h1
    · obtain rfl := qZ1.symm
      exact .inr nb1
    · obtain rfl := qZ2.symm
      exact .inr tb1
    · obtain rfl := qZ3.symm
      exact .inr pw1
    · exact .inl ha
  refine k gr nb tb pw RR D6 (le_del (l1.trans l16) fun a ha => ?_) (hG.le (le_del (del_le.trans l16) fun a ha => ?_)) hlen ?_ (fun a ha => ?_) ⟨hst.le (l02.trans l26), hNB.le l36', hTB.le l36, hPW.le l6, fun q y ra a0 e1 e2 => ⟨_, (rowHas q y ra a0 e1 e2).le l16, by simp⟩, rfl, by simp, fun q hq => absurd hq (Nat.not_lt_zero _), fun e he => by cases he⟩ fun p c ra e1 e2 => (hrow p c ra e1 e2).1
  · rcases off a ha with h | h
    · exact hR a h
    · exact l1.none h
  · rcases off a ha with h | h
    · exact del_none h
    · exact del_le.none h
  · have s2 : D2 st ≠ none := fun q => hs0 (l02.none q)
    have b3 := hasL hNB
    simp only [List.nodup_cons, List.mem_cons, not_or]
    refine ⟨⟨fun q => s2 (q ▸ hnb), fun q => s2 (q ▸ tb3), fun q => s2 (q ▸ l23.none pw3), fun q => flat _ q h1⟩, ⟨fun q => b3 (q ▸ htb), fun q => b3 (q ▸ pw3), fun q => flat _ q nb1⟩, ⟨fun q => ?_, fun q => flat _ q tb1⟩, fun q => flat _ q pw1, hN⟩
    subst q; rw [put_self] at hpw; cases hpw
  · rcases off a ha with h | h
    · exact fun q => flat a h (l16.none q)
    · simp only [List.mem_cons] at ha
      rcases ha with qZ0 | qZ1 | qZ2 | qZ3 | ha
      · obtain rfl := qZ0.symm
        exact fun q => hs0 (l02.none (l26.none q))
      · obtain rfl := qZ1.symm
        exact hasL (hNB.le l36')
      · obtain rfl := qZ2.symm
        exact fun q => nos (l36.none q) (put_self ..)
      · obtain rfl := qZ3.symm
        exact hasL (hPW.le l6)
      · exact fun q => flat a ha (l16.none q)
end

section
variable {w : World} {K : Frag} {Hb : Heap} {n : Nat} {D : DH}

-- what stands when the law's head is done
structure Head (w : World) (X : DH) (st fr ps mp gr nb tb pw : Addr) (s l H W MA MD : Nat) (cs : List (Nat × Nat)) (us : List Value) (RR : List (List Addr)) : Prop where
  fr : IsFr (del X (muts st nb tb pw RR)) fr H W s (castC cs)
  geo : GeoN H W s MA MD cs
  sd : Sides s l
  ps : IsL (del X (muts st nb tb pw RR)) ps us
  prs : IsPairs (del X (muts st nb tb pw RR)) us cs
  mp : IsT (del X (muts st nb tb pw RR)) mp [vi MA, vi MD]
  gm : GridM (del X (muts st nb tb pw RR)) gr s RR
  len : RR.length = cs.length
  nd : (muts st nb tb pw RR).Nodup
  has : ∀ a, ∀ uu : a ∈ muts st nb tb pw RR, X a ≠ none
  inv : LawInv w (muts st nb tb pw RR) RR st nb tb pw s (pwF W MA s cs) (bxF W MA s cs) (byF H MD s cs) 0 X [] [] []
  pad : ∀ (p : Nat) (c : Nat × Nat) (ra : List Addr), ∀ uu : cs[p]? = some c, ∀ uu : RR[p]? = some ra, ra.length = padH H s MD c
  two : cs.length ≠ 2
end

section
variable {w : World} {K : Frag} {Hb : Heap} {n : Nat} {D : DH}

theorem pick {α β : Type} {P : ∀ uu : α, ∀ uu : β, Prop} (h : ∀ a, ∃ b, P a b) : ∃ f : ∀ uu : α, β, ∀ a, P a (f a) := ⟨fun a => (h a).choose, fun a => (h a).choose_spec⟩
-- one place, its numbers chosen
inductive PlcAt (w : World) (X I : DH) (RR : List (List Addr)) (s bx By p : Nat) (nums : List Value) (ks : List (Int × Value)) (t : Nat) (g : ∀ uu : Nat, ∀ uu : Nat, Int) : Prop
  | mk : ∀ (sm qt : Addr) (kv : List (List Int × Value)), ∀ uu : nums[p]? = some (.ref sm), ∀ uu : IsTD PG w I sm kv, ∀ uu : valueAt ks (p : Int) = some (.ref qt), ∀ uu : IsT I qt (intL (((s * t : Nat) : Int) :: List.replicate (s * s - 1) 7)), ∀ uu : (∀ y x, ∀ uu : y < By, ∀ uu : x < bx, valueAt kv [(x : Int), (y : Int)] = some (vi (numI (g x y) t)) ∧ ∀ (ra : List Addr) (a0 : Addr), ∀ uu : RR[p]? = some ra, ∀ uu : ra[y]? = some a0, Cel X I s a0 x (g x y)), PlcAt w X I RR s bx By p nums ks t g
theorem PlcOk.at {X I : DH} {RR : List (List Addr)} {s bx By p : Nat} {nums : List Value} {ks : List (Int × Value)} (h : PlcOk w X I RR s bx By p nums ks) :
    ∃ d : Nat × (∀ uu : Nat, ∀ uu : Nat, Int), (1 ≤ d.1 ∧ d.1 ≤ 3) ∧ (∀ x y, -60 ≤ d.2 x y ∧ d.2 x y ≤ 200) ∧ PlcAt w X I RR s bx By p nums ks d.1 d.2 := by
  obtain ⟨t, sm, qt, kv, a, b, c, d, e, f, g⟩ := h
  have h1 : ∀ x, ∃ gx : ∀ uu : Nat, Int, ∀ y, (-60 ≤ gx y ∧ gx y ≤ 200) ∧ (∀ uu : y < By, ∀ uu : x < bx, valueAt kv [(x : Int), (y : Int)] = some (vi (numI (gx y) t)) ∧ ∀ (ra : List Addr) (a0 : Addr), ∀ uu : RR[p]? = some ra, ∀ uu : ra[y]? = some a0, Cel X I s a0 x (gx y)) := fun x => by
    refine pick (P := fun (y : Nat) (z : Int) => (-60 ≤ z ∧ z ≤ 200) ∧ (∀ uu : y < By, ∀ uu : x < bx, valueAt kv [(x : Int), (y : Int)] = some (vi (numI z t)) ∧ ∀ (ra : List Addr) (a0 : Addr), ∀ uu : RR[p]? = some ra, ∀ uu : ra[y]? = some a0, Cel X I s a0 x z)) fun y => ?_
    by_cases q : y < By ∧ x < bx
    · refine ex1_4 (g y x q.1 q.2) fun z z1 z2 z3 z4 => ?_
      exact ⟨z, ⟨z1, z2⟩, fun uu uu => ⟨z3, z4⟩⟩
    · exact ⟨0, by decide, fun q1 q2 => (q ⟨q1, q2⟩).elim⟩
  obtain ⟨gg, hg⟩ := pick h1
  exact ⟨(t, gg), ⟨a, b⟩, fun x y => (hg x y).1, sm, qt, kv, c, d, e, f, fun y x hy hx => (hg x y).2 hy hx⟩

-- what stands when all places are filled
structure Done (w : World) (X : DH) (gr nb tb pw : Addr) (s H W MA MD : Nat) (cs : List (Nat × Nat)) (RR : List (List Addr)) (G : ∀ uu : Nat, ∀ uu : Nat, ∀ uu : Nat, Int) (t : ∀ uu : Nat, Nat) (nums pwl : List Value) : Prop where
  grid : IsGrid X gr s cs.length (bxF W MA s cs) (byF H MD s cs) G
  tabs : IsTabs X w tb s cs.length fun p => ((s * t p : Nat) : Int)
  tt : ∀ p, 1 ≤ t p ∧ t p ≤ 3
  gb : ∀ p x y, -60 ≤ G p x y ∧ G p x y ≤ 200
  nb : IsL X nb nums
  nl : nums.length = cs.length
  num : ∀ p, ∀ uu : p < cs.length, ∃ (sm : Addr) (kv : List (List Int × Value)), nums[p]? = some (.ref sm) ∧ IsTD PG w X sm kv ∧ ∀ y x, ∀ uu : y < byF H MD s cs p, ∀ uu : x < bxF W MA s cs p, valueAt kv [(x : Int), (y : Int)] = some (vi (numI (G p x y) (t p)))
  gm : GridM X gr s RR
  pw : IsL X pw pwl
  pl : pwl.length ≤ 8000
  ent : ∀ e, ∀ uu : e ∈ pwl, EntOk X X RR s cs.length (bxF W MA s cs) (byF H MD s cs) e
theorem Done.le {X X' : DH} {gr nb tb pw : Addr} {s H W MA MD : Nat} {cs : List (Nat × Nat)} {RR : List (List Addr)} {G : ∀ uu : Nat, ∀ uu : Nat, ∀ uu : Nat, Int} {t : ∀ uu : Nat, Nat} {nums pwl : List Value} (h : Done w X gr nb tb pw s H W MA MD cs RR G t nums pwl) (k : Le X X') : Done w X' gr nb tb pw s H W MA MD cs RR G t nums pwl :=
  ⟨h.grid.le k, h.tabs.le k, h.tt, h.gb, h.nb.le k, h.nl, fun p hp => ex2_3 (h.num p hp) fun sm kv a b c => ⟨sm, kv, a, b.le k, c⟩, h.gm.le k, h.pw.le k, h.pl, fun e he => (h.ent e he).move (Nat.le_refl _) (fun uu uu uu uu uu uu uu uu z => z.le k) k⟩

theorem LawInv.done {X : DH} {st gr nb tb pw : Addr} {s H W MA MD : Nat} {cs : List (Nat × Nat)} {RR : List (List Addr)} {M : List Addr} {pwl nums : List Value} {ks : List (Int × Value)} (g : GeoN H W s MA MD cs) (hlen : RR.length = cs.length)
    (pad : ∀ (p : Nat) (c : Nat × Nat) (ra : List Addr), ∀ uu : cs[p]? = some c, ∀ uu : RR[p]? = some ra, ra.length = padH H s MD c) (hG : GridM X gr s RR) (h : LawInv w M RR st nb tb pw s (pwF W MA s cs) (bxF W MA s cs) (byF H MD s cs) cs.length X pwl nums ks) :
    ∃ (G : ∀ uu : Nat, ∀ uu : Nat, ∀ uu : Nat, Int) (t : ∀ uu : Nat, Nat), Done w X gr nb tb pw s H W MA MD cs RR G t nums pwl := by
  have h1 : ∀ p : Nat, ∃ d : Nat × (∀ uu : Nat, ∀ uu : Nat, Int), (1 ≤ d.1 ∧ d.1 ≤ 3) ∧ (∀ x y, -60 ≤ d.2 x y ∧ d.2 x y ≤ 200) ∧ (∀ uu : p < cs.length, PlcAt w X (del X M) RR s (bxF W MA s cs p) (byF H MD s cs p) p nums ks d.1 d.2) := fun p => by
    by_cases q : p < cs.length
    · refine ex1_3 ((h.plc p q).at) fun d a b c => ?_
      exact ⟨d, a, b, fun uu => c⟩
    · exact ⟨(1, fun uu uu => 0), by decide, fun uu uu => ⟨(by decide : (-60 : Int) ≤ 0), (by decide : (0 : Int) ≤ 200)⟩, fun z => (q z).elim⟩
  obtain ⟨dd, hd⟩ := pick h1
  have hl4 := g.len
  refine ⟨fun p => (dd p).2, fun p => (dd p).1, ?_, ⟨ks, h.tb, fun p hp => ?_⟩, fun p => (hd p).1, fun p => (hd p).2.1, h.nb, h.nl, fun p hp => ?_, hG, h.pw, ?_, fun e he => (h.ent e he).move (Nat.le_refl _) (fun uu uu uu uu uu uu uu uu z => z) del_le⟩
  · obtain ⟨gp, ps, a, b, c, d⟩ := hG
    refine ⟨gp, ps, a, b, fun p hp => ?_⟩
    obtain ⟨ra, hr⟩ : ∃ ra, RR[p]? = some ra := ⟨_, List.getElem?_eq_getElem (by lia)⟩
    refine ex1_2 (d p _ hr) fun pm e1 e2 => ?_
    refine ⟨pm, e1, _, e2, fun y hy => ?_⟩
    obtain ⟨sm, qt, kv, _, _, _, _, cell⟩ := (hd p).2.2 hp
    have hc : cs[p]? = some cs[p] := List.getElem?_eq_getElem hp
    have hh := (head_geo g hc (pad p _ _ hc hr)).2.2.2.1
    obtain ⟨a0, ha⟩ : ∃ a0, ra[y]? = some a0 := ⟨_, List.getElem?_eq_getElem (by (exact Nat.le_trans (by assumption) (by omega)))⟩
    refine ex1_2 (h.row p y _ a0 hr ha) fun us r1 r2 => ?_
    refine ⟨a0, us, ha, r1, fun x hx => ?_⟩
    obtain ⟨us', la, c1, c2, c3⟩ := (cell y x hy hx).2 _ a0 hr ha
    rw [← IsL.one c1 r1]
    exact ⟨la, c2, c3.le del_le⟩
  · obtain ⟨sm, qt, kv, _, _, e1, e2, _⟩ := (hd p).2.2 hp
    exact ⟨qt, e1, e2.le del_le⟩
  · obtain ⟨sm, qt, kv, e1, e2, _, _, cell⟩ := (hd p).2.2 hp
    exact ⟨sm, kv, e1, e2.le del_le, fun y x hy hx => (cell y x hy hx).1⟩
  · have := h.pl
    lia
end

section
variable {w : World} {K : Frag} {Hb : Heap} {n : Nat} {D : DH}

theorem REs.lay : ∀ {us : List Value} {ds : List PyData}, ∀ uu : REs us ds, ∀ uu : (∀ x, ∀ uu : PyData.str x ∈ ds, PyData.strOk x = true), PyData.canLayAll0 ds = true ∧ PyData.depthAll ds = 0
  | _, _, .nil, _ => by simp [PyData.canLayAll0, PyData.depthAll]
  | _, _, .cons a b, h => by
    have ih := b.lay fun x hx => h x (List.mem_cons_of_mem _ hx)
    cases a with
    | int i => simp [PyData.canLayAll0, PyData.depthAll, PyData.canLay0, PyData.depth, ih.1, ih.2]
    | str x => simp [PyData.canLayAll0, PyData.depthAll, PyData.canLay0, PyData.depth, ih.1, ih.2, h x (.head _)]
theorem REs.shaped {us : List Value} {ds : List PyData} (r : REs us ds) (h : ∀ x, ∀ uu : PyData.str x ∈ ds, PyData.strOk x = true) : SeqAt.shaped (.tuple ds) = true ∧ SeqAt.shaped (.list ds) = true := by
  simp [SeqAt.shaped, PyData.canLay0, PyData.depth, (r.lay h).1, (r.lay h).2]
-- the names when the picture is shown
noncomputable def fenv (st fr ps mp gr nb tb pw sz pic : Addr) (md : Str) (s l : Nat) : List (Str × Value) := ("size", .ref sz) :: ("shown_one", .ref pic) :: ("word_one", .str md 0) :: oenv st fr ps mp gr nb tb pw s l
-- what stands then
structure Fin (w : World) (X : DH) (fr ps mp gr nb tb pw sz pic : Addr) (md : Str) (s l H W MA MD : Nat) (cs : List (Nat × Nat)) (us : List Value) (RR : List (List Addr)) (G : ∀ uu : Nat, ∀ uu : Nat, ∀ uu : Nat, Int) (t : ∀ uu : Nat, Nat) (nums pwl : List Value) : Prop where
  fr : IsFr X fr H W s (castC cs)
  geo : GeoN H W s MA MD cs
  sd : Sides s l
  ps : IsL X ps us
  prs : IsPairs X us cs
  mp : IsT X mp [vi MA, vi MD]
  dn : Done w X gr nb tb pw s H W MA MD cs RR G t nums pwl
  sz : IsT X sz [vi (ptN (W * l) s : Nat), vi (ptN (H * l) s : Nat)]
  ok : PyData.strOk md = true
  pic : IsPic X pic (.str md 0) H W s l MA MD cs G fun p => ((s * t p : Nat) : Int)
theorem IsPic.le {X X' : DH} {pic : Addr} {md : Value} {H W s l MA MD : Nat} {cs : List (Nat × Nat)} {G : ∀ uu : Nat, ∀ uu : Nat, ∀ uu : Nat, Int} {q : ∀ uu : Nat, Int} (k : Le X X') (h : IsPic X pic md H W s l MA MD cs G q) : IsPic X' pic md H W s l MA MD cs G q :=
  let ⟨pls, qs, a, b, c, d⟩ := h; ⟨pls, qs, a.le k, b.le k, c, fun p c e => let ⟨qa, x, y⟩ := d p c e; ⟨qa, x, y.le k⟩⟩
section
variable {X X' : DH} {st fr ps mp gr nb tb pw sz pic : Addr} {md : Str} {s l H W MA MD : Nat} {cs : List (Nat × Nat)} {us : List Value} {RR : List (List Addr)} {G : ∀ uu : Nat, ∀ uu : Nat, ∀ uu : Nat, Int} {t : ∀ uu : Nat, Nat} {nums pwl : List Value}
theorem Fin.le (k : Le X X') (h : Fin w X fr ps mp gr nb tb pw sz pic md s l H W MA MD cs us RR G t nums pwl) : Fin w X' fr ps mp gr nb tb pw sz pic md s l H W MA MD cs us RR G t nums pwl :=
  ⟨h.fr.le k, h.geo, h.sd, h.ps.le k, h.prs.le k, h.mp.le k, h.dn.le k, h.sz.le k, h.ok, h.pic.le k⟩

theorem law_word (S : Stat w K Hb) {ρ : List (Str × Value)} {Q : ∀ uu : Flow, ∀ uu : List (Str × Value), ∀ uu : DH, Prop}
    (rp : ρ.lookup ("pairs" : Str) = some (.ref ps)) (hps : IsL D ps us) (hl : 1 ≤ us.length ∧ us.length ≤ 4)
    (k : ∀ (md : Str) (D' : DH), ∀ uu : PyData.strOk md = true, ∀ uu : Le D D', Q .next (("word_one", .str md 0) :: ρ) D') : T1 PG w Hb n (scopeOf (stm 86)) (lawS 6) ρ D Q := by
  refine T1_assign (.inl rfl) (TE_item (TE_list (TEs_cons (TE_str (TEs_cons (TE_str (TEs_cons (TE_str (TEs_cons (TE_str (TEs_nil ⟨by simp [sizeLine], fun a1 D1 n1 l1 hL1 uu => ?_⟩)))))))))))
  refine TE_sub (TE_bcall S rfl rfl (TEs_cons (TE_name rp (TEs_nil (TC_len (.inl (hps.le l1)) (by lia) (TE_int ⟨_, _, rfl, rfl, ?_⟩))))))
  have : us.length = 1 ∨ us.length = 2 ∨ us.length = 3 ∨ us.length = 4 := by lia
  rcases this with e | e | e | e <;> rw [e] <;> exact ⟨a1, _, _, _, rfl, .inl hL1, rfl, by decide, by decide, rfl, k _ D1 (by decide +kernel) l1⟩

theorem st_bd {s t : Nat} (hs : s = 4 ∨ s = 2) (ht : 1 ≤ t ∧ t ≤ 3) : 0 ≤ ((s * t : Nat) : Int) ∧ ((s * t : Nat) : Int) ≤ 2 ^ 5 := by
  rcases hs with rfl | rfl <;> (and_intros <;> (exact Int.ofNat_le.mpr (by lia)))
theorem law_show (S : Stat w K Hb) {ρ : List (Str × Value)} {Q : ∀ uu : Flow, ∀ uu : List (Str × Value), ∀ uu : DH, Prop}
    (hρ : RLe (oenv st fr ps mp gr nb tb pw s l) ρ) (rw1 : ρ.lookup ("word_one" : Str) = some (.str md 0)) (hf : IsFr D fr H W s (castC cs)) (g : GeoN H W s MA MD cs) (hsd : Sides s l) (dn : Done w D gr nb tb pw s H W MA MD cs RR G t nums pwl) (hn : 7 ≤ n)
    (k : ∀ (pic : Addr) (D' : DH), ∀ uu : Le D D', ∀ uu : IsPic D' pic (.str md 0) H W s l MA MD cs G (fun p => ((s * t p : Nat) : Int)), Q .next (("shown_one", .ref pic) :: ρ) D') : T1 PG w Hb n (scopeOf (stm 86)) (lawS 7) ρ D Q := by
  refine T1_assign (.inl rfl) (TE_gcall S rfl rfl (TEs_cons (TE_name (hρ _ _ rfl) (TEs_cons (TE_name (hρ _ _ rfl) (TEs_cons (TE_name (hρ _ _ rfl) (TEs_cons (TE_name rw1 (TEs_cons (TE_name (hρ _ _ rfl) (TEs_cons (TE_bool (TEs_nil ?_))))))))))))))
  refine (sp_scaled_picture S hf g hsd dn.grid dn.tabs (fun p => ?_) (fun p x y => ?_) hn).mono fun v D1 hq1 => ?_
  · have := dn.tt p
    exact st_bd g.hs this
  · have := dn.gb p x y
    omega
  · obtain ⟨pic, e, l1, hP⟩ := hq1
    subst e; exact k pic D1 l1 hP

theorem law_size (S : Stat w K Hb) {ρ : List (Str × Value)} {Q : ∀ uu : Flow, ∀ uu : List (Str × Value), ∀ uu : DH, Prop}
    (hρ : RLe (oenv st fr ps mp gr nb tb pw s l) ρ) (hf : IsFr D fr H W s (castC cs)) (g : GeoN H W s MA MD cs) (hsd : Sides s l) (hn : 1 ≤ n)
    (k : ∀ (sz : Addr) (D' : DH), ∀ uu : Le D D', ∀ uu : IsT D' sz [vi (ptN (W * l) s : Nat), vi (ptN (H * l) s : Nat)], Q .next (("size", .ref sz) :: ρ) D') : T1 PG w Hb n (scopeOf (stm 86)) (lawS 8) ρ D Q := by
  obtain ⟨cl, us, hI, _⟩ := hf
  have hl : l ≤ 4 := by rcases hsd.hl with e | e | e <;> lia
  refine T1_assign (.inl rfl) (TE_tuple (TEs_cons ?_))
  refine TE_gcall S rfl rfl (TEs_cons (TE_mul (TE_at S (hρ _ _ rfl) hI rfl rfl rfl (TE_name (hρ _ _ rfl) ⟨_, _, rfl, rfl, by right; (exact Nat.lt_of_le_of_lt (by assumption) (by decide)), TEs_cons (TE_name (hρ _ _ rfl) (TEs_nil ?_))⟩))))
  rw [← Int.natCast_mul]
  refine TC.pure (sp_over S g.hs hn) fun D1 l1 => ?_
  refine TEs_cons ?_
  refine TE_gcall S rfl rfl (TEs_cons (TE_mul (TE_at S (hρ _ _ rfl) (hI.le l1) rfl rfl rfl (TE_name (hρ _ _ rfl) ⟨_, _, rfl, rfl, by right; omega, TEs_cons (TE_name (hρ _ _ rfl) (TEs_nil ?_))⟩))))
  rw [← Int.natCast_mul]
  refine TC.pure (sp_over S g.hs hn) fun D2 l2 => ?_
  refine TEs_nil ⟨by simp [sizeLine], fun a D3 uu l3 hT uu => ?_⟩
  exact k a D3 ((l1.trans l2).trans l3) hT

-- != on a picture's word, precision and number of planes
theorem law_if1 (S : Stat w K Hb) {ρ : List (Str × Value)} {Q : ∀ uu : Flow, ∀ uu : List (Str × Value), ∀ uu : DH, Prop}
    (hρ : RLe (fenv st fr ps mp gr nb tb pw sz pic md s l) ρ) (h : Fin w D fr ps mp gr nb tb pw sz pic md s l H W MA MD cs us RR G t nums pwl)
    (k : ∀ (D' : DH), ∀ uu : Le D D', Q .next ρ D') : T1 PG w Hb n (scopeOf (stm 86)) (lawS 9) ρ D Q := by
  obtain ⟨pls, qs, hI, hL, hlen, _⟩ := h.pic
  have hl4 := h.geo.len
  have hus := h.prs.1
  refine T1_if (TB_nedata (TE_tuple (TEs_cons (TE_at S (hρ _ _ rfl) hI rfl rfl rfl (TEs_cons (TE_at S (hρ _ _ rfl) hI rfl rfl rfl (TEs_cons (TE_bcall S rfl rfl (TEs_cons (TE_at S (hρ _ _ rfl) hI rfl rfl rfl (TEs_nil (TC_len (.inl hL) (by rw [List.length_map]; lia) (TEs_nil ⟨by simp [sizeLine], fun a1 D1 uu l1 hT1 uu => ?_⟩)))))))))))))
  refine TE_tuple (TEs_cons (TE_name (hρ _ _ rfl) (TEs_cons (TE_int (TEs_cons (TE_bcall S rfl rfl (TEs_cons (TE_name (hρ _ _ rfl) (TEs_nil (TC_len (.inl (h.ps.le l1)) (by lia) (TEs_nil ⟨by simp [sizeLine], fun a2 D2 uu l2 hT2 uu => ?_⟩)))))))))))
  have e : (qs.map Value.ref).length = us.length := by rw [List.length_map, hlen, hus]
  rw [e] at hT1
  have r : REs [.str md 0, vi 8, vi (us.length : Nat)] [.str md, .int 8, .int us.length] := .cons (.str _) (.cons (.int _) (.cons (.int _) .nil))
  have fo : ∀ x, ∀ uu : PyData.str x ∈ [PyData.str md, .int 8, .int us.length], PyData.strOk x = true := fun x hx => by
    simp only [List.mem_cons, List.not_mem_nil, or_false, PyData.str.injEq, reduceCtorEq] at hx
    subst hx; exact h.ok
  refine ⟨_, _, .inr ⟨a1, _, _, rfl, r, .inl ⟨hT1.le l2, rfl⟩⟩, .inr ⟨a2, _, _, rfl, r, .inl ⟨hT2, rfl⟩⟩, (r.shaped fo).1, (r.shaped fo).1, fun uu => ⟨nFT, fun uu => TS_nil (k D2 (l1.trans l2))⟩, fun z => ?_⟩
  have : PyData.eqv (.tuple [.str md, .int 8, .int us.length]) (.tuple [.str md, .int 8, .int us.length]) = true := eqvAll_refl r
  rw [this] at z; cases z
end
end

section
variable {w : World} {K : Frag} {Hb : Heap} {n : Nat} {D : DH}

noncomputable def checkS (i : Nat) : Stmt := ((forBody (lawS 10))[i]?).getD (.Pass default)
noncomputable def cxBody : List Stmt := match forBody (checkS 5) with | [s] => forBody s | _ => []

theorem min_kp {a m : Nat} (hm : 1 ≤ m) : (if (a : Int) < (m : Int) - 1 then (a : Int) else (m : Int) - 1) = ((kp a m : Nat) : Int) := by
  unfold kp; split <;> lia
theorem ptN_pos {a b : Nat} (hb : 1 ≤ b) (ha : 1 ≤ a) : 1 ≤ ptN a b := by
  have := ptN_self (a := a) hb
  rcases Nat.eq_zero_or_pos (ptN a b) with e | e
  · rw [e] at this; lia
  · exact e
theorem blk_lt {a wd o s : Nat} (ho : 1 ≤ o) (hs : 1 ≤ s) (hw : 1 ≤ wd) : kp a (ptN (wd * o) s) / o < ptN wd s := by
  rw [Nat.div_lt_iff_lt_mul ho]
  have h1 : ptN (wd * o) s ≤ ptN wd s * o := (ptN_le hs).mpr (by
    have := Nat.mul_le_mul_right o (ptN_self (a := wd) hs)
    have e : ptN wd s * s * o = ptN wd s * o * s := by ac_rfl
    lia)
  have h2 := ptN_pos hs (Nat.mul_pos hw ho)
  unfold kp; omega
theorem shown_num {s o : Nat} (h : Sides s o) (f : Int) (t : Nat) : shown s o (f * ((s * t : Nat) : Int)) = vi (numI f t) := by
  unfold shown numI
  rw [samp_eq h (f := f) (t := (t : Int)) _ (by push_cast; rfl), clamp_num]
theorem at_div (x c o m l : Nat) : (x : Int) * c * o / ((m : Int) * l) = ((x * (c * o) / (m * l) : Nat) : Int) := by
  rw [Int.natCast_ediv, Int.natCast_mul, Int.natCast_mul, Int.natCast_mul, Int.mul_assoc]

-- the names within one place
noncomputable def cenv (st fr ps mp gr nb tb pw sz pic pa qa la : Addr) (md : Str) (s l p o : Nat) : List (Str × Value) :=
  ("last", .ref la) :: ("own", vi o) :: ("pair", .ref pa) :: ("told", .ref qa) :: ("place_here", vi p) :: fenv st fr ps mp gr nb tb pw sz pic md s l
section
variable {X X' : DH} {st fr ps mp gr nb tb pw sz pic pa qa la : Addr} {md : Str} {s l H W MA MD p : Nat} {c : Nat × Nat} {cs : List (Nat × Nat)} {us : List Value} {RR : List (List Addr)} {G : ∀ uu : Nat, ∀ uu : Nat, ∀ uu : Nat, Int} {t : ∀ uu : Nat, Nat} {nums pwl : List Value}

-- what stands within one place
structure AtP (X : DH) (pa qa la : Addr) (H W s l MA MD : Nat) (c : Nat × Nat) (g : ∀ uu : Nat, ∀ uu : Nat, Int) (q : Int) : Prop where
  pa : IsT X pa [vi c.1, vi c.2]
  qa : IsPlane X qa (ptN (W * l) s) (ptN (H * l) s) (picF H W s l MA MD c g q)
  la : IsT X la [vi ((ptN (wdOf W MA c * sd s l MA MD c 3 l) s : Nat) - 1), vi ((ptN (htOf H MD c * sd s l MA MD c 3 l) s : Nat) - 1)]
theorem AtP.le {g : ∀ uu : Nat, ∀ uu : Nat, Int} {q : Int} (k : Le X X') (h : AtP X pa qa la H W s l MA MD c g q) : AtP X' pa qa la H W s l MA MD c g q := ⟨h.pa.le k, h.qa.le k, h.la.le k⟩

theorem law_px (S : Stat w K Hb) {ρ : List (Str × Value)} {x y : Nat} {Q : ∀ uu : Flow, ∀ uu : List (Str × Value), ∀ uu : DH, Prop}
    (hρ : RLe (cenv st fr ps mp gr nb tb pw sz pic pa qa la md s l p (sd s l MA MD c 3 l)) ρ) (ry : ρ.lookup ("y" : Str) = some (vi y)) (rx : ρ.lookup ("x" : Str) = some (vi x)) (h : Fin w D fr ps mp gr nb tb pw sz pic md s l H W MA MD cs us RR G t nums pwl) (hc : cs[p]? = some c)
    (a : AtP D pa qa la H W s l MA MD c (G p) ((s * t p : Nat) : Int)) (hx : x < ptN (W * l) s) (hy : y < ptN (H * l) s) (hb : ptN (W * l) s ≤ 44 ∧ ptN (H * l) s ≤ 44)
    (k : ∀ (ρ' : List (Str × Value)) (D' : DH), ∀ uu : RLe (cenv st fr ps mp gr nb tb pw sz pic pa qa la md s l p (sd s l MA MD c 3 l)) ρ', ∀ uu : ρ'.lookup ("y" : Str) = some (vi y), ∀ uu : Le D D', Q .next ρ' D') :
    TS PG w Hb n (scopeOf (stm 86)) cxBody ρ D Q := by
  have hA := h.geo.MA
  have hB := h.geo.MD
  have hs := h.geo.hs
  have hcc := h.geo.hc c (List.mem_of_getElem? hc)
  have hso : Sides s (sd s l MA MD c 3 l) := sd_sides h.sd 3 l h.sd
  have ho := hso.zl.sz.1
  have ho4 : sd s l MA MD c 3 l ≤ 4 := by rcases hso.hl with e | e | e <;> lia
  have hl := h.sd.zl.sz.1
  have hl4 : l ≤ 4 := by rcases h.sd.hl with e | e | e <;> lia
  have hwd : 1 ≤ wdOf W MA c ∧ wdOf W MA c ≤ 44 ∧ 1 ≤ htOf H MD c ∧ htOf H MD c ≤ 44 := h.geo.wd (List.mem_of_getElem? hc)
  generalize ho' : sd s l MA MD c 3 l = o at *
  have m1 : 1 ≤ MA * l ∧ MA * l ≤ 16 := ⟨Nat.mul_pos hA.1 hl, Nat.mul_le_mul hA.2 hl4⟩
  have m2 : 1 ≤ MD * l ∧ MD * l ≤ 16 := ⟨Nat.mul_pos hB.1 hl, Nat.mul_le_mul hB.2 hl4⟩
  have hp : p < cs.length := (List.getElem?_eq_some_iff.mp hc).1
  have hs1 : 1 ≤ s := by lia
  have hla := a.la
  rw [ho'] at hla
  refine TS_cons (T1_assign (.inl rfl) (TE_bcall S rfl rfl (TEs_cons (TE_item (TE_name (hρ _ _ rfl) (TE_int ⟨la, _, 0, _, rfl, .inr hla, rfl, by decide, by decide, rfl, ?_⟩))))))
  refine TEs_cons (TE_div (TE_mul (TE_mul (TE_name rx (TE_item (TE_name (hρ _ _ rfl) (TE_int ⟨pa, _, 0, _, rfl, .inr a.pa, rfl, by decide, by decide, rfl, ⟨_, _, rfl, rfl, by right; (clear hla hs1 hp m2 m1 ho4 ho hso k hρ ho' hwd hl4 hl hs hB hA hb hy hx a hc h rx ry S; omega), TE_name (hρ _ _ rfl) ⟨_, _, rfl, rfl, by right; (clear hla hs1 hp m2 m1 ho hso k hρ ho' hwd hl4 hl hcc hs hB hA hb hy hx a hc h rx ry S; (exact Nat.lt_of_le_of_lt (by assumption) (by decide))), ?_⟩⟩⟩)))))))
  refine TE_mul (TE_item (TE_name (hρ _ _ rfl) (TE_int ⟨mp, _, 0, _, rfl, .inr h.mp, rfl, by decide, by decide, rfl, TE_name (hρ _ _ rfl) ⟨_, _, rfl, rfl, by right; (clear hla hs1 hp m2 m1 ho4 ho hso k hρ ho' hwd hl hcc hs hB hA hb hy hx a hc h rx ry S; omega), ⟨_, _, rfl, rfl, by rw [← Int.natCast_mul]; (clear hla hs1 hp m2 ho4 ho hso k hρ ho' hwd hl4 hl hcc hs hB hA hb hy hx a hc h rx ry S; (exact Int.ofNat_le.mpr (by lia))), by rw [← Int.natCast_mul]; (clear hla hs1 hp m2 ho4 ho hso k hρ ho' hwd hl4 hl hcc hs hB hA hb hy hx a hc h rx ry S; (exact Int.ofNat_le.mpr (by lia))), TEs_nil (TC_min2 ?_)⟩⟩⟩)))
  rw [at_div, min_kp (ptN_pos hs1 (Nat.mul_pos hwd.1 ho))]
  refine TS_cons (T1_assign (.inl rfl) (TE_bcall S rfl rfl (TEs_cons (TE_item (TE_name (hρ _ _ rfl) (TE_int ⟨la, _, 1, _, rfl, .inr hla, rfl, by decide, by decide, rfl, ?_⟩))))))
  refine TEs_cons (TE_div (TE_mul (TE_mul (TE_name ry (TE_item (TE_name (hρ _ _ rfl) (TE_int ⟨pa, _, 1, _, rfl, .inr a.pa, rfl, by decide, by decide, rfl, ⟨_, _, rfl, rfl, by right; (clear hla hs1 hp m2 m1 ho4 ho hso k hρ ho' hwd hl4 hl hs hB hA hb hy hx a hc h rx ry S; omega), TE_name (hρ _ _ rfl) ⟨_, _, rfl, rfl, by right; (exact Nat.lt_of_le_of_lt (by assumption) (by decide)), ?_⟩⟩⟩)))))))
  refine TE_mul (TE_item (TE_name (hρ _ _ rfl) (TE_int ⟨mp, _, 1, _, rfl, .inr h.mp, rfl, by decide, by decide, rfl, TE_name (hρ _ _ rfl) ⟨_, _, rfl, rfl, by right; (exact Nat.lt_of_le_of_lt (by assumption) (by decide)), ⟨_, _, rfl, rfl, by rw [← Int.natCast_mul]; lia, by rw [← Int.natCast_mul]; lia, TEs_nil (TC_min2 ?_)⟩⟩⟩)))
  rw [at_div, min_kp (ptN_pos hs1 (Nat.mul_pos hwd.2.2.1 ho))]
  obtain ⟨rl, rb, hI, hL, hlen, hR⟩ := a.qa
  obtain ⟨a0, ha0⟩ : ∃ a0, rb[y]? = some a0 := ⟨_, List.getElem?_eq_getElem (by lia)⟩
  have b1 : kp (x * (c.1 * o) / (MA * l)) (ptN (wdOf W MA c * o) s) / o < bxF W MA s cs p := by
    simp only [bxF, hc, Option.getD_some]; exact blk_lt ho hs1 hwd.1
  have b2 : kp (y * (c.2 * o) / (MD * l)) (ptN (htOf H MD c * o) s) / o < byF H MD s cs p := by
    simp only [byF, hc, Option.getD_some]; exact blk_lt ho hs1 hwd.2.2.1
  refine ex2_3 (h.dn.num p hp) fun sm kv e1 e2 e3 => ?_
  have ev := e3 _ _ b2 b1
  have epic : picF H W s l MA MD c (G p) ((s * t p : Nat) : Int) y x = vi (numI (G p (kp (x * (c.1 * o) / (MA * l)) (ptN (wdOf W MA c * o) s) / o) (kp (y * (c.2 * o) / (MD * l)) (ptN (htOf H MD c * o) s) / o)) (t p)) := by
    unfold picF
    rw [ho']
    exact shown_num hso _ _
  have ga : ((List.range (ptN (W * l) s)).map (picF H W s l MA MD c (G p) ((s * t p : Nat) : Int) y))[x]? = some (vi (numI (G p (kp (x * (c.1 * o) / (MA * l)) (ptN (wdOf W MA c * o) s) / o) (kp (y * (c.2 * o) / (MD * l)) (ptN (htOf H MD c * o) s) / o)) (t p))) := by
    rw [range_get hx, epic]
  generalize kp (x * (c.1 * o) / (MA * l)) (ptN (wdOf W MA c * o) s) = ax at *
  generalize kp (y * (c.2 * o) / (MD * l)) (ptN (htOf H MD c * o) s) = ay at *
  generalize numI (G p (ax / o) (ay / o)) (t p) = z at *
  have hρ2 : RLe (cenv st fr ps mp gr nb tb pw sz pic pa qa la md s l p o) (("down", vi ay) :: ("across", vi ax) :: ρ) := (hρ.push rfl).push rfl
  refine TS_cons (T1_if (TB_ne (TE_item (TE_item (TE_at S (hρ2 _ _ rfl) hI rfl rfl rfl (TE_name ry ⟨rl, _, y, .ref a0, rfl, .inl hL, rfl, by (constructor <;> intro hZ <;> omega), by (exact Int.ofNat_le.mpr (by lia)), by simp [ha0], TE_name rx ⟨a0, _, x, _, rfl, .inl (hR y a0 ha0), rfl, by (exact Int.natCast_nonneg _), by (exact Int.ofNat_le.mpr (by lia)), by rw [Int.toNat_natCast]; exact ga, ?_⟩⟩))))))
  refine TE_itemT (TE_item (TE_name (hρ2 _ _ rfl) (TE_name (hρ2 _ _ rfl) ⟨nb, _, p, .ref sm, rfl, .inl h.dn.nb, rfl, by lia, by have := h.geo.len; (exact Int.ofNat_le.mpr (by lia)), by rw [Int.toNat_natCast]; exact e1, ?_⟩)))
  refine TE_tuple (TEs_cons (TE_div (TE_name rfl (TE_name (hρ2 _ _ rfl) ⟨_, _, rfl, rfl, by lia, by lia, TEs_cons (TE_div (TE_name rfl (TE_name (hρ2 _ _ rfl) ⟨_, _, rfl, rfl, by lia, by lia, TEs_nil ⟨by simp [sizeLine], fun kt D1 uu l1 hT uu => ?_⟩⟩)))⟩))))
  refine ⟨sm, kv, kt, [((ax / o : Nat) : Int), ((ay / o : Nat) : Int)], _, rfl, e2.le l1, rfl, by rw [Int.natCast_ediv, Int.natCast_ediv]; exact hT, ev, ⟨z, z, rfl, rfl, fun q => (q rfl).elim, fun uu => ⟨nFT, fun uu => TS_nil (TS_nil (k _ D1 hρ2 ry l1))⟩⟩⟩
end
end

section
variable {w : World} {K : Frag} {Hb : Heap} {n : Nat} {D : DH}
section
variable {X X' : DH} {st fr ps mp gr nb tb pw sz pic pa qa la : Addr} {md : Str} {s l H W MA MD p : Nat} {c : Nat × Nat} {cs : List (Nat × Nat)} {us : List Value} {RR : List (List Addr)} {G : ∀ uu : Nat, ∀ uu : Nat, ∀ uu : Nat, Int} {t : ∀ uu : Nat, Nat} {nums pwl : List Value}

theorem law_py (S : Stat w K Hb) {ρ : List (Str × Value)} {Q : ∀ uu : Flow, ∀ uu : List (Str × Value), ∀ uu : DH, Prop}
    (hρ : RLe (cenv st fr ps mp gr nb tb pw sz pic pa qa la md s l p (sd s l MA MD c 3 l)) ρ) (h : Fin w D fr ps mp gr nb tb pw sz pic md s l H W MA MD cs us RR G t nums pwl) (hc : cs[p]? = some c)
    (a : AtP D pa qa la H W s l MA MD c (G p) ((s * t p : Nat) : Int)) (hb : ptN (W * l) s ≤ 44 ∧ ptN (H * l) s ≤ 44)
    (k : ∀ (ρ' : List (Str × Value)) (D' : DH), ∀ uu : RLe (cenv st fr ps mp gr nb tb pw sz pic pa qa la md s l p (sd s l MA MD c 3 l)) ρ', ∀ uu : Le D D', Q .next ρ' D') :
    T1 PG w Hb n (scopeOf (stm 86)) (checkS 5) ρ D Q := by
  obtain ⟨s3, s4⟩ := range_small (b := ((ptN (H * l) s : Nat) : Int)) (by (and_intros <;> (exact Int.ofNat_le.mpr (by lia))))
  refine T1_for_range (fun uu ρ' X => RLe (cenv st fr ps mp gr nb tb pw sz pic pa qa la md s l p (sd s l MA MD c 3 l)) ρ' ∧ Le D X) (.inl rfl) ?_
  refine TE_bcall S rfl rfl (TEs_cons (TE_item (TE_name (hρ _ _ rfl) (TE_int ⟨sz, _, 1, _, rfl, .inr h.sz, rfl, by decide, by decide, rfl, TEs_nil ?_⟩))))
  refine TC_range1 fun rg o1 hrg hR => ⟨rg, _, _, _, D, _, ptN (H * l) s, rfl, hR, s3, by simpa using s4, le_put hrg, RLe.refl _, ⟨hρ, Le.refl _⟩, fun y ρ' X hy hq1 => ?_, fun ρ' X ⟨hρ', le⟩ => k ρ' X hρ' le⟩
  obtain ⟨hρ', le⟩ := hq1
  have ey : (0 + (y : Int) * 1) = (y : Int) := by (rw [Int.zero_add, Int.mul_one])
  rw [ey]
  have hF := h.le le
  obtain ⟨s5, s6⟩ := range_small (b := ((ptN (W * l) s : Nat) : Int)) (by (and_intros <;> lia))
  have hρy : RLe (cenv st fr ps mp gr nb tb pw sz pic pa qa la md s l p (sd s l MA MD c 3 l)) (("y", vi y) :: ρ') := hρ'.push rfl
  refine TS_cons (T1_for_range (fun uu ρ'' X' => RLe (cenv st fr ps mp gr nb tb pw sz pic pa qa la md s l p (sd s l MA MD c 3 l)) ρ'' ∧ ρ''.lookup ("y" : Str) = some (vi y) ∧ Le X X') (.inl rfl) ?_)
  refine TE_bcall S rfl rfl (TEs_cons (TE_item (TE_name (hρy _ _ rfl) (TE_int ⟨sz, _, 0, _, rfl, .inr hF.sz, rfl, by decide, by decide, rfl, TEs_nil ?_⟩))))
  refine TC_range1 fun rg2 o2 hrg2 hR2 => ⟨rg2, _, _, _, X, _, ptN (W * l) s, rfl, hR2, s5, by simpa using s6, le_put hrg2, RLe.refl _, ⟨hρy, rfl, Le.refl _⟩, fun x ρ'' X' hx hq2 => ?_, fun ρ'' X' hq3 => ?_⟩
  · refine ex0_3 (hq2) fun hρ'' ry le' => ?_
    try clear hq2
    have ex : (0 + (x : Int) * 1) = (x : Int) := by lia
    rw [ex]
    refine law_px S (hρ''.push rfl) ry rfl (hF.le le') hc (a.le (le.trans le')) hx hy hb fun ρ3 X3 r1 r2 r3 => ⟨ρ3, RLe.refl _, r1, r2, le'.trans r3⟩
  · refine ex0_3 (hq3) fun hρ'' ry le' => ?_
    try clear hq3
    exact TS_nil ⟨ρ'', RLe.refl _, hρ'', le.trans le'⟩

theorem law_place2 (S : Stat w K Hb) {ρ : List (Str × Value)} {Q : ∀ uu : Flow, ∀ uu : List (Str × Value), ∀ uu : DH, Prop}
    (hρ : RLe (fenv st fr ps mp gr nb tb pw sz pic md s l) ρ) (rp : ρ.lookup ("place_here" : Str) = some (vi p)) (h : Fin w D fr ps mp gr nb tb pw sz pic md s l H W MA MD cs us RR G t nums pwl) (hp : p < cs.length) (hn : 3 ≤ n)
    (k : ∀ (ρ' : List (Str × Value)) (D' : DH), ∀ uu : RLe (fenv st fr ps mp gr nb tb pw sz pic md s l) ρ', ∀ uu : Le D D', Q .next ρ' D') :
    TS PG w Hb n (scopeOf (stm 86)) (forBody (lawS 10)) ρ D Q := by
  have g := h.geo
  have hs := g.hs
  have hA := g.MA
  have hB := g.MD
  have hl4 := g.len
  have hl := h.sd.zl.sz.1
  have hl2 : l ≤ 4 := by rcases h.sd.hl with e | e | e <;> lia
  have hs4 : s ≤ 4 := by lia
  obtain ⟨c, hc⟩ : ∃ c, cs[p]? = some c := ⟨_, List.getElem?_eq_getElem hp⟩
  have hcc := g.hc c (List.mem_of_getElem? hc)
  have hso : Sides s (sd s l MA MD c 3 l) := sd_sides h.sd 3 l h.sd
  have ho4 : sd s l MA MD c 3 l ≤ 4 := by rcases hso.hl with e | e | e <;> lia
  have hb : ptN (W * l) s ≤ 44 ∧ ptN (H * l) s ≤ 44 := by
    have hW := g.hW
    have hH := g.hH
    constructor <;> rw [ptN_le (by lia)]
    · exact Nat.le_trans (Nat.mul_le_mul hW.2 hl2) (by lia)
    · exact Nat.le_trans (Nat.mul_le_mul hH.2 hl2) (by lia)
  obtain ⟨ulen, hpr⟩ := h.prs
  obtain ⟨u, hu⟩ : ∃ u, us[p]? = some u := ⟨_, List.getElem?_eq_getElem (by lia)⟩
  refine ex2_3 (hpr p u hu) fun pa c' eR2 hc' hpa => ?_
  obtain rfl := eR2
  rw [hc] at hc'; cases hc'
  obtain ⟨pls, qs, hI, hL, hlen, hpl⟩ := h.pic
  refine ex1_2 (hpl p c hc) fun qa hq hqa => ?_
  refine TS_cons (T1_swap (ys := ["pair", "told"]) rfl ?_ (by rintro ⟨⟩ rfl; rfl))
  refine TE_tuple (TEs_cons (TE_item (TE_name (hρ _ _ rfl) (TE_name rp ⟨ps, us, p, .ref pa, rfl, .inl h.ps, rfl, by (constructor <;> intro hZ <;> omega), by (exact Int.ofNat_le.mpr (by lia)), by rw [Int.toNat_natCast]; exact hu, ?_⟩))))
  refine TEs_cons (TE_item (TE_at S (hρ _ _ rfl) hI rfl rfl rfl (TE_name rp ⟨pls, _, p, .ref qa, rfl, .inl hL, rfl, by (exact Int.natCast_nonneg _), by lia, by rw [Int.toNat_natCast, List.getElem?_map, hq]; rfl, TEs_nil ⟨by simp [sizeLine], fun t1 D1 uu l1 hT1 uu => ⟨t1, _, rfl, .inr hT1, rfl, ?_⟩⟩⟩)))
  have hρ1 : RLe (fenv st fr ps mp gr nb tb pw sz pic md s l) (("pair", .ref pa) :: ("told", .ref qa) :: ρ) := (hρ.push rfl).push rfl
  refine TS_cons (T1_assign (.inl rfl) (TE_gcall S rfl rfl (TEs_cons (TE_name rfl (TEs_cons (TE_name (hρ1 _ _ rfl) (TEs_cons (TE_name (hρ1 _ _ rfl) (TEs_cons (TE_name (hρ1 _ _ rfl) (TEs_nil ?_)))))))))))
  refine TC.pure (sp_law_side S (hpa.le l1) (h.mp.le l1) ⟨hl, hl2⟩ (by (and_intros <;> lia)) hs4 (by lia)) fun D2 l2 => ?_
  have hρ2 : RLe (fenv st fr ps mp gr nb tb pw sz pic md s l) (("own", vi (sd s l MA MD c 3 l)) :: ("pair", .ref pa) :: ("told", .ref qa) :: ρ) := hρ1.push rfl
  have l12 := l1.trans l2
  obtain ⟨rl, rb, hqI, hqL, hqlen, hqR⟩ := hqa.le l12
  have sz2 := h.sz.le l12
  refine TS_cons (T1_if (TB_bool (TAll_or (TB_nedata (TE_tuple (TEs_cons (TE_at S rfl hqI rfl rfl rfl (TEs_cons (TE_at S rfl hqI rfl rfl rfl (TEs_nil ⟨by simp [sizeLine], fun t3 D3 uu l3 hT3 uu => TE_name (hρ2 _ _ rfl) ?_⟩))))))))))
  have r : REs [vi (ptN (W * l) s : Nat), vi (ptN (H * l) s : Nat)] [.int (ptN (W * l) s : Nat), .int (ptN (H * l) s : Nat)] := .cons (.int _) (.cons (.int _) .nil)
  have fo : ∀ x, ∀ uu : PyData.str x ∈ [PyData.int (ptN (W * l) s : Nat), .int (ptN (H * l) s : Nat)], PyData.strOk x = true := fun x hx => by simp at hx
  refine ⟨_, _, .inr ⟨t3, _, _, rfl, r, .inl ⟨hT3, rfl⟩⟩, .inr ⟨sz, _, _, rfl, r, .inl ⟨sz2.le l3, rfl⟩⟩, (r.shaped fo).1, (r.shaped fo).1, fun uu => ⟨fun uu => ?_, nFT⟩, fun z => ?_⟩
  rotate_left
  · have : PyData.eqv (.tuple [.int (ptN (W * l) s : Nat), .int (ptN (H * l) s : Nat)]) (.tuple [.int (ptN (W * l) s : Nat), .int (ptN (H * l) s : Nat)]) = true := eqvAll_refl r
    rw [this] at z; cases z
  refine TAll_or (TB_ne (TE_bcall S rfl rfl (TEs_cons (TE_at S rfl (hqI.le l3) rfl rfl rfl (TEs_nil (TC_len (.inl (hqL.le l3)) (by rw [List.length_map]; lia) ?_))))))
  refine TE_item (TE_name (hρ2 _ _ rfl) (TE_int ⟨sz, _, 1, _, rfl, .inr (sz2.le l3), rfl, by decide, by decide, rfl, ⟨_, _, rfl, rfl, fun z => (z (by rw [List.length_map, hqlen])).elim, fun uu => ⟨fun uu => TAll_or_nil ⟨nFT, fun uu => TS_nil ?_⟩, nFT⟩⟩⟩))
  have l13 := l12.trans l3
  obtain ⟨cl, us', hfI, _⟩ := h.fr.le l13
  refine TS_cons (T1_unpack (xs := [(("wide_here" : Str), _), (("high_here" : Str), _)]) rfl rfl ?_ (by intro _ _; rfl))
  refine TE_mcall S (hρ2 _ _ rfl) hfI rfl rfl (TEs_cons (TE_name rp (TEs_nil ?_)))
  refine TC.tup2 (sp_plane_size S (h.fr.le l13) g.geo (castC_get hc) (by (exact Nat.le_of_lt (by assumption)))) fun t4 D4 l4 hT4 => ?_
  refine ⟨t4, _, rfl, .inr hT4, rfl, ?_⟩
  have ew : pt ((W : Int) * ((c.1 : Nat) : Int)) MA = ((wdOf W MA c : Nat) : Int) := by rw [← Int.natCast_mul, pt_nat hA.1]; rfl
  have eh : pt ((H : Int) * ((c.2 : Nat) : Int)) MD = ((htOf H MD c : Nat) : Int) := by rw [← Int.natCast_mul, pt_nat hB.1]; rfl
  show TS PG w Hb n (scopeOf (stm 86)) _ (("high_here", vi (pt ((H : Int) * ((c.2 : Nat) : Int)) MD)) :: ("wide_here", vi (pt ((W : Int) * ((c.1 : Nat) : Int)) MA)) :: ("own", vi (sd s l MA MD c 3 l)) :: ("pair", .ref pa) :: ("told", .ref qa) :: ρ) D4 _
  rw [ew, eh]
  have hρ3 : RLe (("own", vi (sd s l MA MD c 3 l)) :: ("pair", .ref pa) :: ("told", .ref qa) :: fenv st fr ps mp gr nb tb pw sz pic md s l) (("high_here", vi (htOf H MD c : Nat)) :: ("wide_here", vi (wdOf W MA c : Nat)) :: ("own", vi (sd s l MA MD c 3 l)) :: ("pair", .ref pa) :: ("told", .ref qa) :: ρ) :=
    RLe.cons rfl (RLe.cons rfl (RLe.cons rfl ((hρ2.push rfl).push rfl)))
  refine TS_cons (T1_assign (.inl rfl) (TE_tuple (TEs_cons (TE_sub (TE_gcall S rfl rfl (TEs_cons (TE_mul (TE_name rfl (TE_name rfl ⟨_, _, rfl, rfl, by right; (clear hρ3 eh ew hT4 l4 hfI l13 fo r hT3 l3 sz2 hqR hqlen hqL hqI l12 hρ2 l2 hρ1 hT1 l1 hqa hq hpl hlen hL hI hpa hu hpr ulen hb hso hcc hc hs4 hl2 hl hl4 hB hA hs g k hn hp h rp hρ S; (exact Nat.lt_of_le_of_lt (by assumption) (by decide))), TEs_cons (TE_name (hρ3 _ _ rfl) (TEs_nil ?_))⟩)))))))))
  rw [← Int.natCast_mul]
  refine TC.pure (sp_over S hs (by lia)) fun D5 l5 => ?_
  refine TE_int ⟨_, _, rfl, rfl, TEs_cons (TE_sub (TE_gcall S rfl rfl (TEs_cons (TE_mul (TE_name rfl (TE_name rfl ⟨_, _, rfl, rfl, by right; (exact Nat.lt_of_le_of_lt (by assumption) (by decide)), TEs_cons (TE_name (hρ3 _ _ rfl) (TEs_nil ?_))⟩))))))⟩
  rw [← Int.natCast_mul]
  refine TC.pure (sp_over S hs (by lia)) fun D6 l6 => ?_
  refine TE_int ⟨_, _, rfl, rfl, TEs_nil ⟨by simp [sizeLine], fun la D7 uu l7 hT7 uu => ?_⟩⟩
  have l17 : Le D D7 := l13.trans (l4.trans (l5.trans (l6.trans l7)))
  refine TS_cons (law_py S (c := c) (p := p) (pa := pa) (qa := qa) (la := la) (RLe.cons rfl (RLe.cons rfl (RLe.cons rfl (RLe.cons rfl (RLe.cons rp ((((hρ2.push rfl).push rfl).push rfl))))))) (h.le l17) hc ⟨hpa.le l17, hqa.le l17, hT7⟩ hb fun ρ' D' r1 r2 => TS_nil ?_)
  exact k ρ' D' (((((((RLe.refl _).push rfl).push rfl).push rfl).push rfl).push rfl).trans r1) (l17.trans r2)
end
end

section
variable {w : World} {K : Frag} {Hb : Heap} {n : Nat} {D : DH}
section
variable {X X' : DH} {st fr ps mp gr nb tb pw sz pic pa qa la : Addr} {md : Str} {s l H W MA MD p : Nat} {c : Nat × Nat} {cs : List (Nat × Nat)} {us : List Value} {RR : List (List Addr)} {G : ∀ uu : Nat, ∀ uu : Nat, ∀ uu : Nat, Int} {t : ∀ uu : Nat, Nat} {nums pwl : List Value}

theorem law_checks (S : Stat w K Hb) {ρ : List (Str × Value)} {Q : ∀ uu : Flow, ∀ uu : List (Str × Value), ∀ uu : DH, Prop}
    (hρ : RLe (fenv st fr ps mp gr nb tb pw sz pic md s l) ρ) (h : Fin w D fr ps mp gr nb tb pw sz pic md s l H W MA MD cs us RR G t nums pwl) (hn : 3 ≤ n)
    (k : ∀ (ρ' : List (Str × Value)) (D' : DH), ∀ uu : RLe (fenv st fr ps mp gr nb tb pw sz pic md s l) ρ', ∀ uu : Le D D', Q .next ρ' D') :
    T1 PG w Hb n (scopeOf (stm 86)) (lawS 10) ρ D Q := by
  have hl4 := h.geo.len
  have ulen := h.prs.1
  refine T1_for_range (fun uu ρ' X => RLe (fenv st fr ps mp gr nb tb pw sz pic md s l) ρ' ∧ Le D X) (.inl rfl) ?_
  obtain ⟨s3, s4⟩ := range_small (b := ((us.length : Nat) : Int)) (by (and_intros <;> (exact Int.ofNat_le.mpr (by lia))))
  refine TE_bcall S rfl rfl (TEs_cons (TE_bcall S rfl rfl (TEs_cons (TE_name (hρ _ _ rfl) (TEs_nil (TC_len (.inl h.ps) (by lia) (TEs_nil ?_)))))))
  refine TC_range1 fun rg o1 hrg hR => ⟨rg, _, _, _, D, _, us.length, rfl, hR, s3, by simpa using s4, le_put hrg, RLe.refl _, ⟨hρ, Le.refl _⟩, fun p ρ' X hp hq1 => ?_, fun ρ' X ⟨hρ', le⟩ => k ρ' X hρ' le⟩
  obtain ⟨hρ', le⟩ := hq1
  have ep : (0 + (p : Int) * 1) = (p : Int) := by (rw [Int.zero_add, Int.mul_one])
  rw [ep]
  exact law_place2 S (hρ'.push rfl) rfl (h.le le) (by lia) hn fun ρ2 X2 r1 r2 => ⟨ρ2, RLe.refl _, r1, le.trans r2⟩

theorem bx_44 (g : GeoN H W s MA MD cs) {q : Nat} (hq : q < cs.length) : bxF W MA s cs q ≤ 44 ∧ byF H MD s cs q ≤ 44 := by
  obtain ⟨c, hc⟩ : ∃ c, cs[q]? = some c := ⟨_, List.getElem?_eq_getElem hq⟩
  obtain ⟨c1, c2⟩ := g.hc c (List.mem_of_getElem? hc)
  have hs : 1 ≤ s := by rcases g.hs with e | e <;> lia
  simp only [bxF, byF, hc, Option.getD_some]
  exact ⟨pad_44 g.MA.1 hs g.hW.2 c1.2, pad_44 g.MD.1 hs g.hH.2 c2.2⟩

-- the grid's rows are as they were put
theorem law_kept (S : Stat w K Hb) {ρ : List (Str × Value)} {Q : ∀ uu : Flow, ∀ uu : List (Str × Value), ∀ uu : DH, Prop}
    (hρ : RLe (fenv st fr ps mp gr nb tb pw sz pic md s l) ρ) (h : Fin w D fr ps mp gr nb tb pw sz pic md s l H W MA MD cs us RR G t nums pwl) (hn : 1 ≤ n)
    (k : ∀ (D' : DH), ∀ uu : Le D D', Q .next ρ D') : T1 PG w Hb n (scopeOf (stm 86)) (lawS 11) ρ D Q := by
  have hl4 := h.geo.len
  have dn := h.dn
  refine T1_if (TB_nedata (TE_comp [("grid_here", .ref gr)] rfl (RLe.cons (hρ _ _ rfl) RLe.nil) (TE_name (hρ _ _ rfl) ⟨pw, _, rfl, .seq (.inl dn.pw), by have := dn.pl; simp only [sizeLine]; (exact Nat.le_trans (by assumption) (by decide)), ?_⟩)))
  refine ⟨fun i out D₂ => Le D D₂ ∧ out = [], ⟨Le.refl _, rfl⟩, fun i out D₂ q o e => q.1 _ _ e, fun i u out D₂ hu q => ?_, fun out D₂ q a o ha hA => ?_⟩
  · have le := q.1
    obtain ⟨ua, ln, q0, y, x, f, ra, a0, rfl, e1, e2, e3, e4, e5, e6, e7, cs', la, c1, c2, c3⟩ := dn.ent u (List.mem_of_getElem? hu)
    obtain ⟨gp, ps', g1, g2, g3, g4⟩ := dn.gm
    obtain ⟨pm, p1, p2⟩ := g4 q0 ra e4
    have b44 := bx_44 h.geo e1
    refine ⟨_, Asg_tuple (xs := [(("place_here" : Str), _), (("x" : Str), _), (("y" : Str), _), (("line_here" : Str), _)]) rfl (e6.le le) rfl (by decide) rfl, ?_⟩
    refine TB_nedata (TE_mcall S rfl (g1.le le) rfl rfl (TEs_cons (TE_name rfl (TEs_cons (TE_name rfl (TEs_cons (TE_name rfl (TEs_nil ?_))))))))
    refine TC.pure (sp_get S (g1.le le) (g2.le le) (p := q0) (x := x) (y := y) (pm := pm) (ra := a0) (la := la) (by rw [List.getElem?_map, p1]; rfl) (p2.le le) (by rw [List.getElem?_map, e5]; rfl) (c1.le le) c2 (by (and_intros <;> lia)) hn) fun D3 l3 => ?_
    refine TE_name rfl ?_
    have r := REs.ints (dc s f)
    have fo : ∀ x, ∀ uu : PyData.str x ∈ (dc s f).map PyData.int, PyData.strOk x = true := fun x hx => by simp at hx
    refine ⟨_, _, .inr ⟨la, _, _, rfl, r, .inr ⟨c3.le (le.trans l3), rfl⟩⟩, .inr ⟨ln, _, _, rfl, r, .inr ⟨e7.le (le.trans l3), rfl⟩⟩, (r.shaped fo).2, (r.shaped fo).2, fun uu => ⟨nFT, fun uu => ⟨le.trans l3, q.2⟩⟩, fun z => ?_⟩
    have : PyData.eqv (.list ((dc s f).map PyData.int)) (.list ((dc s f).map PyData.int)) = true := eqvAll_refl r
    rw [this] at z; cases z
  · obtain ⟨le, rfl⟩ := q
    refine TE_list (TEs_nil ⟨by simp, fun b D3 uu l3 hB uu => ?_⟩)
    refine ⟨_, _, .inr ⟨a, _, _, rfl, .nil, .inr ⟨hA.le l3, rfl⟩⟩, .inr ⟨b, _, _, rfl, .nil, .inr ⟨hB, rfl⟩⟩, (REs.shaped .nil (fun x hx => by cases hx)).2, (REs.shaped .nil (fun x hx => by cases hx)).2, fun uu => ⟨nFT, fun uu => TS_nil (k D3 (le.trans ((le_put ha).trans l3)))⟩, fun z => ?_⟩
    have : PyData.eqv (.list []) (.list []) = true := eqvAll_refl .nil
    rw [this] at z; cases z
end
end

section
section
variable {prog : Program} {w : World} {Hb : Heap} {K : Frag} {n : Nat} {D : DH}

-- what flies out of a call
inductive Flew (D X : DH) (l : List Env) (e C : Addr) (s s' : Shared) : Prop
  | mk : ∀ B a0 h' tk, ∀ uu : s' = { s with heap := h', toks := tk }, ∀ uu : Heap.FlyingW B l e (.ref C) a0 h', ∀ uu : (∀ b o, ∀ uu : D b = some o, B.get? b = some o), ∀ uu : (∀ b o, ∀ uu : X b = some o, ∀ uu : (∀ env, ∀ uu : env ∈ l, env.frame ≠ some b), B.get? b = some o), ∀ uu : (∀ b o, ∀ uu : X b = some o, ∀ uu : (∀ vs, o.data ≠ .fields vs), ∃ sl, h'.get? b = some { o with slots := sl }), Flew D X l e C s s'
-- a call that raises
noncomputable def TR (prog : Program) (w : World) (Hb : Heap) (n : Nat) (f : Value) (args : List Value) (D : DH) (C : Addr) : Prop :=
  ∀ (A : Around) (s : Shared) (X : DH) (Vs : List Value) (l : List Env), ∀ uu : A.frames = some l, ∀ uu : FrL Hb X l, ∀ uu : Ok Hb n A X, ∀ uu : Sub D s.heap, ∀ uu : Sub X s.heap, ∀ uu : Dj D X, ∀ uu : BaseIn Hb X, ∀ uu : Vs.map er = args,
    codeAny (model prog w) A (.call f ⟨Vs, []⟩) (fun r s' => ∃ e, r = .error (.ref e) ∧ Flew D X l e C s s') s

-- an exception, as it was made
inductive IsX (D : DH) (x C : Addr) : Prop
  | mk : ∀ o vs a0, ∀ uu : D x = some o, ∀ uu : o.cls = .ref C, ∀ uu : o.data = .fields vs, ∀ uu : vs[1]? = some .none, ∀ uu : vs[0]? = some a0, IsX D x C

theorem frl_get {l : List Env} {X : DH} {b : Addr} (h : FrL Hb X l) (hb : b ∈ l.filterMap (·.frame)) : ∃ o, X b = some o ∧ ∀ vs, o.data ≠ .fields vs := by
  refine ex1_2 (List.mem_filterMap.mp hb) fun env he e => ?_
  cases h env he with
  | mk L o a b' c d e2 =>
    rw [b'] at e; obtain rfl := Option.some.inj e
    exact ⟨o, d, e2⟩
theorem frl_fun {X : DH} {h B : Heap} (hx : Sub X h) {l : List Env} (hl : FrL Hb X l) (hB : ∀ b, ∀ uu : b ∈ l.filterMap (·.frame), B.get? b = none) : h.FunFrames B l := by
  induction l with
  | nil => exact trivial
  | cons env l ih =>
    cases hl env (.head _) with
    | mk L o a e1 z e2 e3 =>
      rw [List.filterMap_cons, e1] at hB
      exact ⟨a, ⟨L, o, e1, hB L (.head _), hx _ _ e2, e3⟩, ih (fun e he => hl e (.tail _ he)) fun b hb => hB b (.tail _ hb)⟩

-- the exception leaves the frame that raised it
theorem Cx.leave {sc : Scope} {ρ : List (Str × Value)} {A : Around} {s s' : Shared} {X : DH} {env : Env} {D' : DH} {x C : Addr} {l : List Env} {E : ∀ uu : Value, ∀ uu : Shared, Prop} (c : Cx Hb n sc ρ D' A s' X env) (t : After s X D' s') (hl : A.frames = some (env :: l)) (fl : FrL Hb X l)
    (le : Le D D') (hx : IsX D' x C) (hn : D x = none) : wpAny (model prog w) A (leaving env (.ref x)) (fun uu s'' => Flew D X l x C s s'') E s' := by
  obtain ⟨o, vs, a0, hD, hc, hd, h1, h0⟩ := hx
  refine ex2_1 (t.eq) fun h₂ tk eR2 => ?_
  obtain rfl := eR2
  have xe : X x = none := c.j _ _ hD
  have he : h₂.get? x = some o := c.d _ _ hD
  have oE : ∀ b, ∀ uu : b ∈ fAddrs env, D' b = none ∧ X b = none := c.o
  obtain ⟨oL, hL⟩ := c.f.obj (a := env.locals) (.head _)
  have fr := c.ok.fr
  have nL : x ≠ env.locals := nosA ((oE _ (.head _)).1) hD
  refine ex1_2 (c.f.fh) fun m hm uu => ?_
  have hnf : ∀ vs, oL.data ≠ .fields vs := fun vs q => by
    refine ex3_3 (hm) fun o' es ep e1 e2 uu => ?_
    try clear hm
    have e1' : h₂.get? env.locals = some o' := e1
    have hL' : h₂.get? env.locals = some oL := hL
    rw [hL'] at e1'; obtain rfl := (Option.some.inj e1').symm; rw [q] at e2; cases e2
  let Ls := x :: env.locals :: l.filterMap (·.frame)
  have hB : ∀ b, ∀ uu : b ∈ Ls, (hideAll h₂ Ls).get? b = none := fun b hb => hideAll_none _ hb
  have hk : env.scope.kind ≠ .module := by rw [c.e.se, c.e.kf]; decide
  have ff : h₂.FunFrames (hideAll h₂ Ls) (env :: l) := ⟨hk, ⟨env.locals, oL, fr, hB _ (.tail _ (.head _)), hL, hnf⟩, frl_fun c.x fl fun b hb => hB b (.tail _ (.tail _ hb))⟩
  have inB : ∀ b o', ∀ uu : h₂.get? b = some o', ∀ uu : b ≠ x, ∀ uu : b ≠ env.locals, ∀ uu : b ∉ l.filterMap (·.frame), (hideAll h₂ Ls).get? b = some o' := fun b o' e n1 n2 n3 => hideAll_get _ e (by
    simp only [Ls, List.mem_cons, not_or]; exact ⟨n1, n2, n3⟩)
  refine wpAny_leaving_firstW (base := hideAll h₂ Ls) hl ff fr he (fun b o' e => of_hideAll _ e) (hB x (.head _)) hd h1 h0 fun h' hq1 => ?_
  refine ex0_4 (hq1) fun k1 hN1 k3 k4 => ?_
  try clear hq1
  obtain ⟨_, _, k2⟩ := hN1
  rw [hc] at k3
  refine ⟨hideAll h₂ Ls, a0, h', tk, rfl, ⟨k1, hB x (.head _), k2, k3⟩, fun b o' e => ?_, fun b o' e hf => ?_, fun b o' e hn' => k4 b o' (c.x _ _ e) hn'⟩
  · have e' := le _ _ e
    refine inB b o' (c.d _ _ e') (nosA (hn) e) (nosA ((oE _ (.head _)).1) e') fun q => ?_
    refine ex1_2 (frl_get fl q) fun o2 z uu => ?_
    have := c.j _ _ e'
    rw [z] at this; cases this
  · refine inB b o' (c.x _ _ e) (nosA (xe) e) (nosA ((oE _ (.head _)).2) e) fun q => ?_
    refine ex1_2 (List.mem_filterMap.mp q) fun env' he' q => ?_
    exact hf env' he' q
end
end

section
section
variable {prog : Program} {w : World} {A : Around} {R : ∀ uu : Result, ∀ uu : Shared, Prop} {h : Heap} {g : Array GenState} {d : Drawn} {t : Nat} {os : OsState}
variable {nm q : Str} {C N fI : Addr} {bs bm : List Value} {hdct : Bool} {sn : List Str} {sub : List Value} {ab : Bool} {col : Option Bool} {dd : Option Addr} {k0 k1 k2 k3 k5 : Option Value}

noncomputable abbrev excO (C t : Addr) : Obj := { cls := .ref C, data := .fields #[.ref t, .none, .none, .none, .bool false, .none] }
-- what the tail of a class of exceptions holds
structure XTail (bm : List Value) : Prop where
  e : bm.contains (.type "Exception") = true
  b : bm.contains (.type "BaseException") = true
  a : bm.contains (.type "AttributeError") = false
  n : bm.contains (.type "NameError") = false

theorem exc_new (T : XTail bm) {rest : List Value} (hC : h.get? C = some (excClassObj nm q C N bs bm hdct sn sub ab col dd k0 k1 k2 k3 k5 "Exception.__new__")) (hrest : rest.length ≤ sizeLine)
    (hq : R (.ok (.ret (.ref (h.objs.size + 1)))) ⟨(h.push { cls := .type "tuple", data := .seq rest.toArray }).push (excO C h.objs.size), g, d, t, os⟩) :
    codeAny (model prog w) A (.builtin "Exception.__new__" ⟨.ref C :: rest, []⟩) R ⟨h, g, d, t, os⟩ := by
  have F := PySem.F.excBase_Exception
  have hends := F.ends
  have hcB : (Value.ref C :: bm).contains (.type "Exception") = true := by rw [List.contains_cons, T.e, Bool.or_true]
  have hcA : (Value.ref C :: bm).contains (.type "AttributeError") = false := by rw [List.contains_cons, T.a]; rfl
  have hcN : (Value.ref C :: bm).contains (.type "NameError") = false := by rw [List.contains_cons, T.n]; rfl
  refine codeAny_builtinAt F.entry ?_
  unfold Builtin.«BaseException.__new__»
  refine PySem.wpAt_bind ?_
  show PySem.wpAt _ _ _ (stack >>= _) _ _ _
  refine PySem.wpAt_bind (PySem.wpAt_stack fun p below => PySem.wpAt_of_wpAny ?_)
  wp_walk
  refine PySem.wpAt_of_wpAny ?_
  rw [F.owner]
  repeat (first | with_reducible refine wpAny_madeHere_exc F.canon hC ?_ | with_reducible refine wpAny_loadPart_at hC ?_ | (with_reducible refine wpAny_isSubtype_exc hC ?_; first | rw [hcB] | rw [hcA] | rw [hcN]) | wp_step)
  show R _ _
  rw [Heap.size_push]
  exact hq

theorem exc_call (T : XTail bm) {rest : List Value} (hC : h.get? C = some (excClassObj nm q C N bs bm hdct sn sub ab col dd k0 k1 k2 k3 k5 "Exception.__new__")) (hrest : rest.length ≤ sizeLine)
    (hi : Looks (model prog w) h (typeLookup (.ref C) "__init__") (some (.ref fI))) (hf : ∀ self, Looks (model prog w) h (bindSpecial (.ref fI) self) (.ref fI, [self]))
    (hq : codeAny (model prog w) (A.under (.builtin "type.__call__" ⟨.ref C :: rest, []⟩)) (.call (.ref fI) ⟨.ref (h.objs.size + 1) :: rest, []⟩) (InitBack (h.objs.size + 1) R)
      ⟨(h.push { cls := .type "tuple", data := .seq rest.toArray }).push (excO C h.objs.size), g, d, t, os⟩) :
    codeAny (model prog w) A (.call (.ref C) ⟨rest, []⟩) R ⟨h, g, d, t, os⟩ := by
  have F := PySem.F.excBase_Exception
  have f1 := tc_lookup
  have f2 := tc_bind (.ref C)
  have hT : (⟨h, g, d, t, os⟩ : Shared).TypeIs (.ref C) "type" := ⟨_, hC, rfl⟩
  refine codeAny_of_tree ?_
  show wpAny _ _ (callAny (.ref C) _) _ _ _
  repeat (any_goals (first | assumption | with_reducible refine wpAny_loadPart_at hC ?_ | wp_step))
  refine ⟨rfl, ?_⟩
  refine codeAny_call_builtin_at (Code.quiet_builtin _ (by decide +kernel)) entry_typeCall (wpAny_check_type_call_sub hC ?_)
  repeat (first | with_reducible refine wpAny_loadPart_at hC ?_ | with_reducible refine wpAny_madeBy_exc hC ?_ | wp_step)
  refine codeAny_call_builtin_code (Code.quiet_builtin _ F.quiet) (wpAny_check_new_subU F T.e .base hC ?_)
  refine exc_new T hC hrest ?_
  show wpAny _ _ _ _ _ _
  have keep : ∀ b o, ∀ uu : h.get? b = some o, ((h.push { cls := .type "tuple", data := .seq rest.toArray }).push (excO C h.objs.size)).get? b = some o := fun b o e => Heap.get?_push_of_some _ (Heap.get?_push_of_some _ e)
  have hC₁ := keep _ _ hC
  have hget : ((h.push { cls := .type "tuple", data := .seq rest.toArray }).push (excO C h.objs.size)).get? (h.objs.size + 1) = some (excO C h.objs.size) := by heap_get
  have hcC : (Value.ref C :: bm).contains (.ref C) = true := by simp
  unfold isInstance
  repeat (first | with_reducible refine wpAny_loadPart_at hget ?_ | (with_reducible refine wpAny_isSubtype_exc hC₁ ?_; rw [hcC]) | wp_step)
  show wpAny _ _ (isSubtype (Value.ref C) (.ref C)) _ _ ⟨(h.push { cls := .type "tuple", data := .seq rest.toArray }).push (excO C h.objs.size), g, d, t, os⟩
  refine wpAny_isSubtype_exc hC₁ ?_
  rw [hcC]
  repeat (first | with_reducible refine wpAny_loadPart_at hget ?_ | wp_step)
  show wpAny _ _ (typeLookup (.ref C) _) _ _ _
  refine (hi.keeps keep).here ?_
  refine wpAny_holding (wpAny_bind (((hf _).keeps keep).here ?_))
  refine wpAny_bind (wpAny_call (codeAny_mono hq fun r s' z => ?_))
  cases r with
  | error e => exact z
  | ok f =>
    cases f with
    | ret v => obtain ⟨rfl, z⟩ := z; wp_walk; exact z
    | _ => exact z.elim
end
end

section
section
variable {prog : Program} {w : World} {Hb : Heap} {K : Frag} {n : Nat} {D : DH} {sc : Scope} {ρ : List (Str × Value)}

theorem excInit_run {A : Around} {E : ∀ uu : Value, ∀ uu : Shared, Prop} {h : Heap} {g : Array GenState} {d : Drawn} {tk : Nat} {os : OsState} {C x t : Addr} {V : Value} {Q : ∀ uu : PySem.Fin, ∀ uu : Shared, Prop} (hx : h.get? x = some (excO C t))
    (q : Q (.done (.ret .none)) ⟨(h.push { cls := .type "tuple", data := .seq [V].toArray }).update x (Obj.mapFields (·.setIfInBounds 0 (.ref h.objs.size))), g, d, tk, os⟩) :
    wpAny (model prog w) A (Builtin.«BaseException.__init__» ⟨[.ref x, V], []⟩) Q E ⟨h, g, d, tk, os⟩ := by
  have hx2 : (h.push { cls := .type "tuple", data := .seq [V].toArray }).get? x = some (excO C t) := Heap.get?_push_of_some _ hx
  unfold Builtin.«BaseException.__init__»
  wp_walk
  exact q
-- a class of exceptions, as it stands
inductive XAt (g : Option Obj) (C P N : Addr) : Prop
  | mk : ∀ nm q bs sn sub ab col dd k0 k1 k2 k3 k5, ∀ uu : g = some (excClassObj nm q C N bs [.ref P, .type "Exception", .type "BaseException", .type "object"] true sn sub ab col dd k0 k1 k2 k3 k5 "Exception.__new__"), XAt g C P N
theorem XAt.on {g g' : Option Obj} {C P N : Addr} (h : XAt g C P N) (k : ∀ o, ∀ uu : g = some o, g' = some o) : XAt g' C P N := by
  obtain ⟨nm, q, bs, sn, sub, ab, col, dd, k0, k1, k2, k3, k5, h⟩ := h
  exact ⟨nm, q, bs, sn, sub, ab, col, dd, k0, k1, k2, k3, k5, k _ h⟩
noncomputable abbrev IsXC (h : Heap) (C P N : Addr) : Prop := XAt (h.get? C) C P N
theorem xtail (P : Addr) : XTail [.ref P, .type "Exception", .type "BaseException", .type "object"] := ⟨rfl, rfl, rfl, rfl⟩
theorem exc_checkInit {M : Model} {A : Around} {E : ∀ uu : Value, ∀ uu : Shared, Prop} {h : Heap} {g : Array GenState} {d : Drawn} {tk : Nat} {os : OsState} {C P N x : Addr} {o : Obj} {rest : List Value} {Q : ∀ uu : Unit, ∀ uu : Shared, Prop} (hC : IsXC h C P N) (hx : h.get? x = some o) (hc : o.cls = .ref C)
    (hq : Q () ⟨h, g, d, tk, os⟩) : wpAny M A (checkBuiltinCall "Exception.__init__" ⟨.ref x :: rest, []⟩) Q E ⟨h, g, d, tk, os⟩ := by
  obtain ⟨nm, q, bs, sn, sub, ab, col, dd, k0, k1, k2, k3, k5, hC⟩ := hC
  have F := PySem.F.excBase_Exception
  have hcB : ([.ref C, .ref P, .type "Exception", .type "BaseException", .type "object"] : List Value).contains (.type "Exception") = true := by rw [List.contains_cons, (xtail P).e, Bool.or_true]
  have hshort := F.noStar
  simp only [checkBuiltinCall, F.initKind, F.initSplit, F.initRow]
  repeat (first | (with_reducible refine wpAny_loadPart_at hx ?_; rw [hc]) | with_reducible refine wpAny_loadPart_at hC ?_ | (with_reducible refine wpAny_isSubtype_exc hC ?_; rw [hcB]) | wp_step)
  refine wpAny_onRaise ?_
  rw [show ∀ (a b : String) (n : Nat), Bind.check ⟨.positional, "*", "Exception", .self, [⟨"args", .varPos, false⟩]⟩ a b n (List.map (fun x => x.fst) ({ pos := Value.ref x :: rest } : Args).kw) = pure () from
    fun a b n => check_star_args _ _ _ _ _ _]
  exact wpAny_pure hq

theorem TC_excInit {C P N x t : Addr} {m : Value} {Q : ∀ uu : Value, ∀ uu : DH, Prop} (hX : IsXC Hb C P N) (hx : D x = some (excO C t))
    (q : ∀ t2 o2, ∀ uu : D t2 = none, ∀ uu : t2 ≠ x, Q .none (put (put D t2 o2) x (excO C t2))) : TC prog w Hb n (.builtin "Exception.__init__") [.ref x, m] D Q := by
  intro A s X Vs ok d xx j bi e
  refine ex2_3 (two_args e) fun V1 V2 eR2 e1 e2 => ?_
  obtain rfl := eR2
  obtain rfl := er_ref e1
  obtain ⟨hh, g, dr, tk, os⟩ := s
  have F := PySem.F.excBase_Exception
  have hx1 : hh.get? x = some (excO C t) := d _ _ hx
  have hX₁ : IsXC hh C P N := hX.on fun uu z => xx _ _ (bi _ _ z)
  refine codeAny_call_builtin F.init.plain F.initEntry (exc_checkInit hX₁ hx1 rfl (excInit_run hx1 ?_))
  have h0 : D hh.objs.size = none := d.none_size
  have a1 := After.push (s := ⟨hh, g, dr, tk, os⟩) (k := tk) d xx j { cls := .type "tuple", data := .seq [V2].toArray } rfl
  have ne : hh.objs.size ≠ x := Nat.ne_of_gt (Heap.lt_size hx1)
  have hx3 : (put D hh.objs.size { cls := .type "tuple", data := .seq [V2].toArray }) x = some (excO C t) := by rw [put_ne ne.symm]; exact hx
  have a2 := upd_after (s := ⟨hh.push { cls := .type "tuple", data := .seq [V2].toArray }, g, dr, tk, os⟩) (k := tk) (f := Obj.mapFields (·.setIfInBounds 0 (.ref hh.objs.size))) (o' := excO C hh.objs.size) a1.d a1.x a1.j hx3 rfl rfl
  exact ⟨.none, _, rfl, q _ _ h0 ne, a1.trans a2⟩

theorem init_found : findCls [] (.type "Exception") (.type "type") "__init__" = some (.val (.builtin "Exception.__init__")) := by kernel_rfl
theorem exc_notStub : Manifest.isStub "Exception" = false := by decide +kernel
theorem exc_type : typeOf (.type "Exception") = pure (.type "type") := by kernel_rfl
-- Exception.__init__(self, message)
theorem TE_excInit {x1 : Str} {p1 apos pos : Pos} {args : List Expr} {pl : ∀ uu : Env, Sem Bool} {Q : ∀ uu : Value, ∀ uu : DH, Prop} (ng : ∃ mg, Hb.Ns mainGlobals mg)
    (h : TE prog w Hb n sc (.Name x1 p1) ρ D (fun ov D₁ => ov = .type "Exception" ∧ TEs prog w Hb n sc args ρ D₁ (fun vs D₂ => TC prog w Hb n (.builtin "Exception.__init__") vs D₂ Q)))
    (he : ∀ env, eval (.Call (.Attribute (.Name x1 p1) "__init__" apos) args [] pos) env = (do
      let ov ← eval (.Name x1 p1) env
      standAt apos.atName
      let (f, first) ← holding [ov] (getMethod ov "__init__" (pl env))
      callWith pos f first (backTo pos (starEach args env)) (backToKw pos (keywordEach [] env))) := by intro _; rfl)
    (hp : ∀ env, ((backTo pos (starEach args env)).any (·.1)) = false := by intro _; rfl) :
    TE prog w Hb n sc (.Call (.Attribute (.Name x1 p1) "__init__" apos) args [] pos) ρ D Q := by
  intro A s X env a b c d j bi g
  refine methodCall_KW (pl := pl env) (kws := []) (TE.seq h a b c d j bi g fun V D₁ s₁ hq1 t => ?_) (he env)
  obtain ⟨e, q⟩ := hq1
  obtain rfl := er_type e
  obtain ⟨mg, G⟩ := ng
  have F : Fr { objs := #[] } mainGlobals s₁.heap mg := ⟨G.keeps fun b o e => t.x _ _ (bi _ _ e), fun b o e => by simp [Heap.get?] at e, Nat.zero_le _⟩
  refine method_type (K := []) F (fun a o e => by cases e) exc_type exc_notStub init_found rfl ?_
  have t1 : After s₁ X D₁ { s₁ with toks := s₁.toks + 1 } := .tok t.d t.x t.j _
  refine callWith_go kp_builtin a b t1.d t1.x t1.j bi g (hp env) q fun Vs D₂ s₂ q' t' => ?_
  have z := q' A s₂ X Vs b t'.d t'.x t'.j bi rfl
  refine wpAny_call (codeAny_mono z fun r s' p => ?_)
  obtain ⟨V', D', hr, k, z'⟩ := p
  subst hr
  exact ⟨D', k, ((t.trans t1).trans t').trans z'⟩
end
end

section
open PySem.Builtin.ObjectAttr
section
variable {prog : Program} {w : World} {Hb : Heap} {K : Frag} {n : Nat} {D : DH} {sc : Scope} {ρ : List (Str × Value)}

-- what the frag says of a class of exceptions
structure XIn (K : Frag) (C P : Addr) (name : Str) : Prop where
  set : findIn K (.ref C) "__setattr__" = some (some (.builtin "object.__setattr__"))
  cd : ∃ cd, clsIn K C = some cd ∧ cd.mro = [.ref C, .ref P, .type "Exception", .type "BaseException", .type "object"] ∧ cd.hasDict = true
  no : findIn K (.ref C) name = some none

noncomputable abbrev excD (C t d : Addr) : Obj := { cls := .ref C, dict := some d, data := .fields #[.ref t, .none, .none, .none, .bool false, .none] }

theorem osa_exc {A : Around} {s : Shared} {C P x t : Addr} {name : Str} {tk : Tok} {V : Value} {R : ∀ uu : Result, ∀ uu : Shared, Prop} (X₀ : K.In s.heap) (hx : s.heap.get? x = some (excO C t)) (hX : XIn K C P name)
    (q : ∀ h' tk', ∀ uu : h'.get? x = some (excD C t s.heap.objs.size), ∀ uu : (∀ b o, ∀ uu : b ≠ x, ∀ uu : s.heap.get? b = some o, h'.get? b = some o), R (.ok (.ret .none)) { s with heap := h', toks := tk' }) :
    codeAny (model prog w) A (.call (.builtin "object.__setattr__") ⟨[.ref x, .str name tk, V], []⟩) R s := by
  refine ex1_3 (hX.cd) fun cd hc hm hd => ?_
  have I : PySem.W.InstAt s.heap x (excO C t) C none := ⟨hx, rfl, rfl, trivial⟩
  have SF := PySem.F.store_object
  have SE := PySem.F.store_Exception
  have sub : Looks (model prog w) s.heap (isInstance (.ref x) (.type "object")) true := I.type.andThen (looks_mroIn X₀ (by unfold mroIn; rw [hc, Option.bind_some, hm]; rfl))
  have hmro : Looks (model prog w) s.heap (mroOf (.ref C)) cd.mro := (looks_clsIn X₀ hc).andThen .now
  refine codeAny_call_builtin SF.slot.plain SF.entry (@check_slot (model prog w) _ _ s "object.__setattr__" "object" "__setattr__" (.ref x) [.str name tk, V] [] _ SF.kind SF.split sub (SF.args (.ref x) (.str name tk) V) ?_)
  rw [osa_eq, refuse_eq]
  refine wpAny_bind (wpAny_bind (I.type.here (wpAny_bind (hmro.here ?_))))
  rw [hm, refuseLoop_ref, refuseLoop_ref, SE.passes]
  refine wpAny_pure (wpAny_bind (I.type.here (wpAny_bind ((looks_findIn X₀ hX.no).here (wpAny_bind (wpAny_pure (a := none) ?_))))))
  show wpAny _ _ (storeInOwnDict (.ref x) (.ref C) (.str name tk) name V false) _ _ _
  unfold storeInOwnDict ownDictForStores instanceDict
  refine wpAny_bind (wpAny_pure (a := ()) (wpAny_bind (wpAny_bind (wpAny_loadPart hx (wpAny_bind ((looks_clsIn X₀ hc).here ?_))))))
  rw [hd]
  show wpAny _ _ (alloc { cls := .type "dict", data := .dict #[] } >>= fun d => (update x fun o => { cls := o.cls, dict := some d, data := o.data, slots := o.slots }) >>= fun uu => pure (some d)) _ _ _
  have hx₁ : (s.heap.push { cls := .type "dict", data := .dict #[] }).get? x = some (excO C t) := Heap.get?_push_of_some _ hx
  have hxs : x ≠ s.heap.objs.size := Nat.ne_of_lt (Heap.lt_size hx)
  refine wpAny_bind (wpAny_alloc' ?_)
  refine wpAny_bind (wpAny_update' hx₁ ?_)
  refine wpAny_pure ?_
  have hgd : ((s.heap.push { cls := .type "dict", data := .dict #[] }).update x fun o => { cls := o.cls, dict := some s.heap.objs.size, data := o.data, slots := o.slots }).get? s.heap.objs.size = some { cls := .type "dict", data := .dict #[] } :=
    (Heap.get?_update_ne _ _ _ _ hxs.symm).trans (Heap.get?_push_at rfl rfl)
  have hnd : ((s.heap.push { cls := .type "dict", data := .dict #[] }).update x fun o => { cls := o.cls, dict := some s.heap.objs.size, data := o.data, slots := o.slots }).Ns s.heap.objs.size (fun uu => none) :=
    ⟨_, #[], _, hgd, rfl, fun e he => absurd he (by simp), fun uu => rfl⟩
  show wpAny _ _ (storeInDict s.heap.objs.size (.str name tk) name V) _ _ _
  unfold storeInDict newKeyGuard
  refine wpAny_bind (wpAny_pure (wpAny_bind (wpAny_nsSet1 (Heap.Ns1.of_empty hnd) fun h' hn' hs => ?_)))
  refine ex3_3 (hn'.count (Within.cons name V Within.nil)) fun oD esD epD hoD hdD hcD => ?_
  refine wpAny_bind (wpAny_lookBehind hoD (by rw [hdD]; exact pastItsLine_dict (Nat.le_trans hcD (by rw [List.length_cons, List.length_nil, sizeLine_eq]; lia))) ?_)
  refine wpAny_pure (q h' _ ((hs.2 x hxs).trans (Heap.get?_update_self _ hx₁ rfl)) fun b o hb e => ?_)
  exact (hs.2 b (Nat.ne_of_lt (Heap.lt_size e))).trans ((Heap.get?_update_ne _ _ _ _ hb).trans (Heap.get?_push_of_some _ e))

theorem T1_setX {o value : Expr} {name : Str} {p pos : Pos} {Q : ∀ uu : Flow, ∀ uu : List (Str × Value), ∀ uu : DH, Prop} (kin : K.In Hb)
    (h : TE prog w Hb n sc value ρ D (fun uu D₁ => TE prog w Hb n sc o ρ D₁ (fun ov D₂ => ∃ x C P t, ov = .ref x ∧ D₂ x = some (excO C t) ∧ XIn K C P name ∧ ∀ d, Q .next ρ (put D₂ x (excD C t d)))))
    (hs : ∀ env, swapsWith value (some (.Attribute o name p)) pos.line env = pure false := by intro _; rfl) :
    T1 prog w Hb n sc (.Assign [.Attribute o name p] value pos) ρ D Q := by
  intro A s X env c
  refine plainObj_wpAny_Assign_Attribute (c.expr h fun V D₁ s₁ q t c₁ => ?_) (hs env)
  refine c₁.expr q fun U D₂ s₂ hq1 t' c₂ => ?_
  refine ex4_4 (hq1) fun x C P tt e hI hX q' => ?_
  try clear hq1
  obtain rfl := er_ref e
  have X₀ : K.In s₂.heap := inKeep kin c₂.b c₂.x
  have hx2 : s₂.heap.get? x = some (excO C tt) := c₂.d _ _ hI
  refine set_plain (od := none) X₀ ⟨hx2, rfl, rfl, trivial⟩ hX.set (osa_exc (s := { s₂ with toks := s₂.toks + 1 }) X₀ hx2 hX fun h' tk' hx' hk => ?_)
  have ne : ∀ b, ∀ uu : b ∈ fAddrs env, b ≠ x := fun b hb z => by subst z; have := (c₂.o b hb).1; rw [hI] at this; cases this
  have t'' : After s₂ X (put D₂ x (excD C tt s₂.heap.objs.size)) { s₂ with heap := h', toks := tk' } := by
    refine ⟨⟨h', tk', rfl⟩, fun b o e => ?_, fun b o e => ?_, c₂.j.put (c₂.j _ _ hI)⟩
    · by_cases z : b = x
      · subst z; rw [put_self] at e; obtain rfl := (Option.some.inj e).symm; exact hx'
      · rw [put_ne z] at e; exact hk b o z (c₂.d _ _ e)
    · exact hk b o (fun z => by have := c₂.j _ _ hI; rw [← z, e] at this; cases this) (c₂.x _ _ e)
  refine ⟨ρ, _, q' s₂.heap.objs.size, (t.trans t').trans t'', ?_, ?_⟩
  · exact FrameS.of c₂.f fun b hb o ho => hk b o (ne b hb) ho
  · exact fun b hb => ⟨by rw [put_ne (ne b hb)]; exact (c₂.o b hb).1, (c₂.o b hb).2⟩
end
end

section
variable {w : World} {K : Frag} {Hb : Heap} {n : Nat} {D : DH}

-- what the frag says of the text's own exceptions
structure XFacts (K : Frag) : Prop where
  exc : nsIn K mainGlobals "Exception" = some none
  fn : FnFact K 238 (met 17 0) ["self", "message"]
  cls : XAt (K.lookup 254) 254 241 253
  xin : XIn K 254 241 "message"
  ini : findIn K (.ref 254) "__init__" = some (some (.ref 238)) ∧ typeIn K (.ref 238) = some (.type "function")

theorem boot_Exception : bootBuiltins "Exception" = some (.type "Exception") := by decide +kernel
theorem Stat.exc (S : Stat w K Hb) (Y : XFacts K) : GV Hb "Exception" (.type "Exception") := by
  refine ex2_3 (S.g) fun mg mb G B q => ?_
  exact ⟨mg, G, .inr ⟨mg_none_of S.k G Y.exc, mb, B, (q _ (by decide)).trans boot_Exception⟩⟩
theorem Stat.xc (S : Stat w K Hb) (Y : XFacts K) : IsXC Hb 254 241 253 := by
  exact Y.cls.on (S.k _)
theorem fn_init (S : Stat w K Hb) (Y : XFacts K) : Fn Hb 238 (scopeOf (met 17 0)) (bodyOf (met 17 0)) ["self", "message"] := by
  exact ⟨Y.fn.real S.k, by decide, by decide, by decide, rfl, rfl, rfl, S.nl⟩
inductive InitP (x : Addr) (D : DH) (v : Value) (D' : DH) : Prop
  | mk : ∀ uu : v = .none, ∀ t2 d, ∀ uu : D' x = some (excD 254 t2 d), ∀ uu : Le (del D [x]) D', InitP x D v D'
theorem sp_init (S : Stat w K Hb) (Y : XFacts K) {x t : Addr} {m : Value} (hx : D x = some (excO 254 t)) (hn : 1 ≤ n) :
    TC PG w Hb n (.ref 238) [.ref x, m] D (InitP x D) := by
  refine TC.down hn fun n hn1 => ?_
  have hg : ∃ mg, Hb.Ns mainGlobals mg := let ⟨mg, _, G, _⟩ := S.g; ⟨mg, G⟩
  refine TC_def (fn_init S Y) rfl (TS_cons (T1_expr (TE_excInit hg (TE_gname rfl (S.exc Y) ⟨rfl, TEs_cons (TE_name rfl (TEs_cons (TE_name rfl (TEs_nil (TC_excInit (S.xc Y) hx fun t2 o2 h1 h2 => ?_)))))⟩))))
  refine TS_cons (T1_setX S.k (TE_name rfl (TE_name rfl ⟨x, 254, 241, t2, rfl, put_self .., Y.xin, fun d => TS_nil ⟨rfl, t2, d, put_self .., fun b o e => ?_⟩⟩)))
  have nb : b ≠ x := fun q => by rw [q, del_none (by simp)] at e; cases e
  rw [del_at (by simpa using nb)] at e
  rw [put_ne nb, put_ne nb, put_ne (nosA (h1) e)]
  exact e

theorem sp_range (S : Stat w K Hb) (Y : XFacts K) {m : Value} (hn : 2 ≤ n) : TC PG w Hb n (.ref 254) [m] D (fun v D' => ∃ x t d, v = .ref x ∧ D' x = some (excD 254 t d) ∧ Le D D' ∧ D x = none) := by
  refine ex1_2 (pos1 hn) fun n eR1 hn1 => ?_
  obtain rfl := eR1
  intro A s X Vs ok d x j bi e
  refine ex1_2 (one_arg e) fun V eR1 eR2 => ?_
  obtain rfl := eR1
  obtain rfl := eR2
  obtain ⟨hh, g, dr, t, os⟩ := s
  have X₀ : K.In hh := fun a o e => x _ _ (bi _ _ (S.k a o e))
  obtain ⟨nm, q, bs, sn, sub, ab, col, dd, k0, k1, k2, k3, k5, hC⟩ := S.xc Y
  refine exc_call (xtail 241) (x _ _ (bi _ _ hC)) (by simp [sizeLine]) (looks_findIn X₀ Y.ini.1) (fun self => bind_fn X₀ self Y.ini.2) ?_
  have h0 : D hh.objs.size = none := d.none_size
  have d1 : Sub (put D hh.objs.size (tupO [V] 0)) (hh.push (tupO [V] 0)) := d.put_push _ rfl
  have x1 : Sub X (hh.push (tupO [V] 0)) := x.push _
  have sz : (hh.push (tupO [V] 0)).objs.size = hh.objs.size + 1 := Heap.size_push ..
  have h1 : (put D hh.objs.size (tupO [V] 0)) (hh.objs.size + 1) = none := by rw [← sz]; exact d1.none_size
  have hD1 : D (hh.objs.size + 1) = none := by rw [put_ne (Nat.succ_ne_self _)] at h1; exact h1
  have d2 : Sub (put (put D hh.objs.size (tupO [V] 0)) (hh.objs.size + 1) (excO 254 hh.objs.size)) ((hh.push (tupO [V] 0)).push (excO 254 hh.objs.size)) := by rw [← sz]; exact d1.put_push _ rfl
  have x2 : Sub X ((hh.push (tupO [V] 0)).push (excO 254 hh.objs.size)) := x1.push _
  have j1 : Dj (put D hh.objs.size (tupO [V] 0)) X := j.put x.none_size
  have j2 : Dj (put (put D hh.objs.size (tupO [V] 0)) (hh.objs.size + 1) (excO 254 hh.objs.size)) X := j1.put (by rw [← sz]; exact x1.none_size)
  have l2 : Le D (put (put D hh.objs.size (tupO [V] 0)) (hh.objs.size + 1) (excO 254 hh.objs.size)) := (le_put h0).trans (le_put h1)
  have z := sp_init S Y (n := n) (m := er V) (put_self (put D hh.objs.size (tupO [V] 0)) (hh.objs.size + 1) (excO 254 hh.objs.size)) hn1 _ ⟨(hh.push (tupO [V] 0)).push (excO 254 hh.objs.size), g, dr, t, os⟩ X [.ref (hh.objs.size + 1), V] (ok.make 254 [V]) d2 x2 j2 bi rfl
  refine codeAny_mono z fun r s' hq1 => ?_
  obtain ⟨V', D', rfl, ⟨hv, t2, dn, hD', le⟩, t'⟩ := hq1
  refine ⟨er_none hv, .ref (hh.objs.size + 1), D', rfl, ⟨_, t2, dn, rfl, hD', fun b o e => le b o ?_, hD1⟩, After.trans (D' := put (put D hh.objs.size (tupO [V] 0)) (hh.objs.size + 1) (excO 254 hh.objs.size)) ⟨⟨_, t, rfl⟩, d2, x2, j2⟩ t'⟩
  rw [del_at (fun q => nosA (hD1) e (List.mem_singleton.mp q))]
  exact l2 b o e
end

section
theorem isX_of {D : DH} {x C t d : Addr} (h : D x = some (excD C t d)) : IsX D x C := ⟨_, _, .ref t, h, rfl, rfl, rfl, rfl⟩
section
variable {w : World} {K : Frag} {Hb : Heap} {n : Nat} {D : DH} {sc : Scope} {ρ : List (Str × Value)} {A : Around} {s : Shared} {X : DH} {env : Env} {C P N : Addr} {l : List Env}

-- raise e
theorem Cx.raiseS {prog : Program} (c : Cx Hb n sc ρ D A s X env) (hX : IsXC Hb C P N) {e : Expr} {pos : Pos} {Q : ∀ uu : Flow, ∀ uu : Shared, Prop} {E : ∀ uu : Value, ∀ uu : Shared, Prop} {J : ∀ uu : Addr, ∀ uu : DH, Prop}
    (h : TE prog w Hb n sc e ρ D (fun v D' => ∃ x t d, v = .ref x ∧ D' x = some (excD C t d) ∧ J x D'))
    (k : ∀ x D' s', ∀ uu : IsX D' x C, ∀ uu : J x D', ∀ uu : After s X D' s', ∀ uu : Cx Hb n sc ρ D' A s' X env, E (.ref x) s') : wpAny (model prog w) A (exec (.Raise (some e) none pos) env) Q E s := by
  rw [arm_exec_Raise]
  refine wpAny_bind (wpAny_standAt ?_)
  show wpAny _ _ (raiseStmt env (some (eval e env >>= fun v => standAt pos >>= fun uu => pure v)) none) _ _ _
  unfold raiseStmt
  refine wpAny_bind (wpAny_bind (c.expr h fun V D' s' hr501 t' c' => ?_))
  refine ex3_3 (hr501) fun x t d e' hx j => ?_
  try clear hr501
  refine wpAny_bind (wpAny_standAt (wpAny_pure ?_))
  obtain rfl := er_ref e'
  have hh := c'.ok.hh
  have fin := k x D' s' (isX_of hx) j t' c'
  have hx' : s'.heap.get? x = some (excD C t d) := c'.d _ _ hx
  obtain ⟨nm, q, bs, sn, sub, ab, col, dd, k0, k1, k2, k3, k5, hC⟩ := hX
  have hC' := c'.x _ _ (c'.b _ _ hC)
  have hcB : ([.ref C, .ref P, .type "Exception", .type "BaseException", .type "object"] : List Value).contains (.type "BaseException") = true := by rw [List.contains_cons, (xtail P).b, Bool.or_true]
  obtain ⟨hp, g, dr, tk, os⟩ := s'
  repeat (first | with_reducible refine wpAny_loadPart_at hx' ?_ | with_reducible refine wpAny_loadPart_at hC' ?_ | (with_reducible refine wpAny_isSubtype_exc hC' ?_; rw [hcB]) | wp_step)
  exact wpAny_raiseNew_none hh fin

theorem Flew.leave {prog : Program} {e : Addr} {s' : Shared} {E : ∀ uu : Value, ∀ uu : Shared, Prop} (f : Flew D (XF env s.heap X) (env :: l) e C s s') (c : Cx Hb n sc ρ D A s X env) (hl : A.frames = some (env :: l)) :
    wpAny (model prog w) A (leaving env (.ref e)) (fun uu s'' => Flew D X l e C s s'') E s' := by
  obtain ⟨B, a0, h', tk, rfl, fly, f1, f2, f3⟩ := f
  refine wpAny_leaves_onW hl c.ok.fr fly fun h'' fly' sm => ⟨B, a0, h'', tk, rfl, fly', f1, fun b o e hf => f2 b o (c.leX b o e) fun env' he' => ?_, fun b o e hn => ?_⟩
  · rcases List.mem_cons.mp he' with qZ0 | he'
    · obtain rfl := qZ0.symm
      intro q
      rw [c.ok.fr] at q
      have := (c.o _ (.head _)).2
      rw [Option.some.inj q, e] at this; cases this
    · exact hf env' he'
  · obtain ⟨sl, z⟩ := f3 b o (c.leX b o e) hn
    exact sm b { o with slots := sl } z hn

-- a call of one of the text's own that raises
theorem Cx.gcallR (S : Stat w K Hb) (c : Cx Hb n sc ρ D A s X env) (hl : A.frames = some (env :: l)) {x : Str} {p pos : Pos} {args : List Expr} {f : Addr} {R : ∀ uu : Value, ∀ uu : Shared, Prop} {E : ∀ uu : Value, ∀ uu : Shared, Prop} (e : globTab.lookup x = some f) (hx : sc.names.lookup x = some .globalImplicit)
    (h : TEs PG w Hb n sc args ρ D (fun vs D₂ => Le D D₂ ∧ TR PG w Hb n (.ref f) vs D₂ C)) (k : ∀ e s', ∀ uu : Flew D (XF env s.heap X) (env :: l) e C s s', E (.ref e) s')
    (hd : (x == ("__debug__" : Str)) = false := by decide)
    (hc : ∀ env, eval (.Call (.Name x p) args [] pos) env = (do callWith pos (← eval (.Name x p) env) [] (backTo pos (starEach args env)) (backToKw pos (keywordEach [] env))) := by intro _; rfl)
    (hp : ∀ env, ((backTo pos (starEach args env)).any (·.1)) = false := by intro _; rfl) :
    wpAny (model PG w) A (eval (.Call (.Name x p) args [] pos) env) R E s := by
  obtain ⟨gv, kp⟩ := S.gl e
  have hF : FrL Hb (XF env s.heap X) (env :: l) := by
    refine ex1_2 (c.okE.frs) fun l' h1 h2 => ?_
    rw [hl] at h1; obtain rfl := (Option.some.inj h1).symm; exact h2
  rw [hc]
  refine wpAny_bind (TE.seq (TE_gname (prog := PG) (w := w) (n := n) (Q := fun v D' => v = .ref f ∧ D' = D) hx gv ⟨rfl, rfl⟩ hd) c.e c.okE c.d c.subXF c.dj c.base c.frameX fun V D₁ s₁ hq1 t => ?_)
  obtain ⟨q1, qY14⟩ := hq1
  obtain rfl := qY14.symm
  obtain rfl := er_ref q1
  refine callWith_go kp c.e c.okE t.d t.x t.j c.base c.frameX (hp env) h fun Vs D₂ s₂ hq2 t' => ?_
  obtain ⟨le, q'⟩ := hq2
  refine wpAny_call (codeAny_mono (q' A s₂ _ Vs (env :: l) hl hF c.okE t'.d t'.x t'.j c.base rfl) fun r s' hq3 => ?_)
  obtain ⟨ex, rfl, B, a0, h', tk, es, fly, f1, f2, f3⟩ := hq3
  refine ex2_1 ((t.trans t').eq) fun h2 t2 eR2 => ?_
  obtain rfl := eR2
  subst es
  exact k ex _ ⟨B, a0, h', tk, rfl, fly, fun b o e => f1 b o (le b o e), f2, f3⟩
end

theorem sp_check_side_raises {w : World} {K : Frag} {Hb : Heap} {n : Nat} {D : DH} (S : Stat w K Hb) (Y : XFacts K) {s l : Int} (hbad : ¬ l ∈ ([1, 2, 4, 8] : List Int) ∨ s < l) (hn : 3 ≤ n) : TR PG w Hb n (.ref 686) [vi s, vi l] D 254 := by
  refine ex1_2 (pos1 hn) fun n eR1 hn1 => ?_
  obtain rfl := eR1
  intro A st X Vs lf hl fl ok d x j bi e
  refine call_open (fn_check_side S) rfl ok d x j bi e fun env s₁ t hfr c => ?_
  refine wpAny_execs_cons (wpAny_If (c.test (Q := fun b D' => b = true ∧ Le D D') ?_ fun b D' s' hq4 a c' => ?_))
  · refine TB_bool (TAll_or (TB_notin (TE_name rfl (TE_tuple (TEs_cons (TE_int (TEs_cons (TE_int (TEs_cons (TE_int (TEs_cons (TE_int (TEs_nil ⟨by simp [sizeLine], fun t D1 ht l1 hT uu => ?_⟩)))))))))))))
    refine ⟨_, t, [1, 2, 4, 8], rfl, rfl, hT, fun hin => ⟨fun uu => ?_, nFT⟩, fun uu => ⟨nTF, fun uu => ⟨rfl, l1⟩⟩⟩
    refine TAll_or (TB_gt (TE_name rfl (TE_name rfl ⟨_, _, rfl, rfl, fun uu => ⟨nTF, fun uu => ⟨rfl, l1⟩⟩, fun h => ?_⟩)))
    exfalso
    rcases hbad with q | q
    · exact q hin
    · exact h q
  · obtain ⟨hb, le⟩ := hq4
    obtain rfl := hb.symm
    rw [if_pos rfl]
    refine wpAny_execs_cons (c'.raiseS (J := fun x D'' => Le D' D'' ∧ D' x = none) (S.xc Y) (TE_gcall S rfl rfl (TEs_cons (TE_str (TEs_nil (sp_range S Y (by omega)))))) fun x D'' s'' hx hq5 t' c'' => ?_)
    obtain ⟨le', hnx⟩ := hq5
    refine wpAny_mono (c''.leave (D := D) (E := fun uu uu => False) ((t.trans a).trans t') (hfr lf hl) fl (le.trans le') hx (le.none hnx)) (fun uu s3 z => ⟨x, rfl, z⟩) fun uu uu z => z.elim

theorem sp_picture_raises {w : World} {K : Frag} {Hb : Heap} {n : Nat} {D : DH} (S : Stat w K Hb) (Y : XFacts K) {fr : Addr} {H W s l : Int} {cs : List (Int × Int)} {a b c e : Value} (hf : IsFr D fr H W s cs) (hbad : ¬ l ∈ ([1, 2, 4, 8] : List Int) ∨ s < l) (hn : 4 ≤ n) :
    TR PG w Hb n (.ref 764) [.ref fr, a, b, c, vi l, e] D 254 := by
  refine ex1_2 (pos1 hn) fun n eR1 hn1 => ?_
  obtain rfl := eR1
  obtain ⟨cl, us, hI, _⟩ := hf
  intro A st X Vs lf hl fl ok d x j bi ev
  refine call_open (fn_scaled_picture S) rfl ok d x j bi ev fun env s₁ t hfr c => ?_
  have hint : interactive env = false := by unfold interactive; rw [c.e.se]; rfl
  refine wpAny_execs_cons (wpAny_Expr_any (c.gcallR S (hfr lf hl) rfl rfl (TEs_cons (TE_at S rfl hI rfl rfl rfl (TEs_cons (TE_name rfl (TEs_nil ⟨Le.refl _, sp_check_side_raises S Y hbad (by omega)⟩))))) fun ex s' f => ?_) hint rfl)
  refine wpAny_mono (f.leave (E := fun uu uu => False) c (hfr lf hl)) (fun uu s3 z => ⟨ex, rfl, ?_⟩) fun uu uu z => z.elim
  obtain ⟨B, a0, h', tk, es, y1, y2, y3, y4⟩ := z
  refine ex2_1 (t.eq) fun h2 t2 eR2 => ?_
  obtain rfl := eR2
  subst es
  exact ⟨B, a0, h', tk, rfl, y1, y2, y3, y4⟩
end

section
-- behind a call that caught an exception: the frames' slots may have changed
structure Slotted (D X : DH) (l : List Env) (s s' : Shared) : Prop where
  eq : ∃ h' tk, s' = { s with heap := h', toks := tk }
  d : Sub D s'.heap
  x : ∀ b o, ∀ uu : X b = some o, ∀ uu : (∀ env, ∀ uu : env ∈ l, env.frame ≠ some b), s'.heap.get? b = some o
  f : ∀ b o, ∀ uu : X b = some o, ∀ uu : (∀ vs, o.data ≠ .fields vs), ∃ sl, s'.heap.get? b = some { o with slots := sl }
-- a call that catches an exception
noncomputable def TX (prog : Program) (w : World) (Hb : Heap) (n : Nat) (f : Value) (args : List Value) (D : DH) (Q : ∀ uu : Value, Prop) : Prop :=
  ∀ (A : Around) (s : Shared) (X : DH) (Vs : List Value) (l : List Env), ∀ uu : A.frames = some l, ∀ uu : FrL Hb X l, ∀ uu : Ok Hb n A X, ∀ uu : Sub D s.heap, ∀ uu : Sub X s.heap, ∀ uu : Dj D X, ∀ uu : BaseIn Hb X, ∀ uu : Vs.map er = args,
    codeAny (model prog w) A (.call f ⟨Vs, []⟩) (fun r s' => ∃ V, r = .ok (.ret V) ∧ Q (er V) ∧ Slotted D X l s s') s
section
variable {w : World} {K : Frag} {Hb : Heap} {n : Nat} {D : DH} {sc : Scope} {ρ : List (Str × Value)} {A : Around} {s : Shared} {X : DH} {env : Env} {C P N : Addr} {l : List Env}

theorem Slotted.from {D' : DH} {s₀ s' : Shared} (t : After s₀ X D' s) (h : Slotted D X l s s') : Slotted D X l s₀ s' := by
  refine ⟨?_, h.d, h.x, h.f⟩
  refine ex2_1 (t.eq) fun h1 k1 eR2 => ?_
  obtain rfl := eR2
  refine ex2_1 (h.eq) fun h2 k2 e => ?_
  exact ⟨h2, k2, e⟩
theorem frl_not {X : DH} {l : List Env} (hl : FrL Hb X l) (b : Addr) (o : Obj) (h : Hb.get? b = some o) (env : Env) (he : env ∈ l) : env.frame ≠ some b := fun q => by
  cases hl env he with
  | mk L o' a e1 e2 d e3 => rw [e1] at q; obtain rfl := Option.some.inj q; rw [e2] at h; cases h

-- the exception is caught: except RangeError: return True
theorem Cx.caught (S : Stat w K Hb) (Y : XFacts K) (c : Cx Hb n sc ρ D A s X env) (hl : A.frames = some (env :: l)) (hx : sc.names.lookup ("RangeError" : Str) = some .globalImplicit) {e : Addr} {s' : Shared} (f : Flew D (XF env s.heap X) (env :: l) e 254 s s')
    {np p1 p2 pos : Pos} {kk : Nat} {rest : List ExceptHandler} {Q : ∀ uu : Flow, ∀ uu : Shared, Prop} {E : ∀ uu : Value, ∀ uu : Shared, Prop} (k : ∀ s'', ∀ uu : Slotted D X l s s'', Q (.ret (.bool true)) s'') :
    wpAny (model PG w) A (noteFrame (.ref e) env) (fun uu s₂ => wpAny (model PG w) A (setFlight (.ref e) none) (fun uu s₃ =>
      wpAny (model PG w) A (handleBy (.ref e) env (.ExceptHandler (some (.Name "RangeError" np)) none [.Return (some (.Constant (.bool true) kk p1)) p2] pos :: rest)) Q E s₃) E s₂) E s' := by
  have hF : FrL Hb (XF env s.heap X) (env :: l) := by
    refine ex1_2 (c.okE.frs) fun l' h1 h2 => ?_
    rw [hl] at h1; obtain rfl := (Option.some.inj h1).symm; exact h2
  obtain ⟨B, a0, h', tk, rfl, fly, f1, f2, f3⟩ := f
  have hbB : ∀ b o, ∀ uu : Hb.get? b = some o, B.get? b = some o := fun b o q => f2 b o (c.leX b o (c.b _ _ q)) (frl_not hF b o q)
  refine wpAny_looks_onW hl c.ok.fr fly fun h₄ held sm₄ => wpAny_landsW held fun h₅ fly₅ sm₅ => ?_
  have kb : ∀ b o, ∀ uu : Hb.get? b = some o, h₅.get? b = some o := fun b o q => fly₅.1 b o (hbB b o q)
  refine ex1_2 (fly₅.there) fun ob hob hobc => ?_
  obtain ⟨nm, q, bs, sn, sub, ab, col, dd, k0, k1, k2, k3, k5, hC⟩ := S.xc Y
  obtain ⟨⟨mg, hg, gq⟩, _⟩ := S.gl (x := "RangeError") (f := 254) rfl
  have hgv : mg "RangeError" = some (.ref 254) := by
    obtain ⟨a, _⟩ := S.f.glob ("RangeError", 254) (mem_lookup' rfl)
    refine ex2_2 (S.g) fun mg' uu G uu => ?_
    have := mg_of S.k hg a
    exact this
  have hkf : env.scope.kind = .function := by rw [c.e.se]; exact c.e.kf
  have hx' : env.kindOf "RangeError" = some .globalImplicit := by show env.scope.names.lookup _ = _; rw [c.e.se]; exact hx
  refine wpAny_handleBy_cons (codeAny_handlers_test (Name_function_global hkf hx' (loadGlobal_global (mg := mg) (by rw [c.e.gl]; exact hg.keeps kb) hgv ?_))) (by intro q; cases q)
  refine wpAny_excMatches_sub_self (kb _ _ hC) hob hobc (xtail 241).b (codeAny_handlers_suite ?_)
  refine lands_againW fly₅ fun h₆ fly₆ sm₆ => ?_
  refine wpAny_execs_cons (wpAny_Return_some (wpAny_Constant_bool (k _ ⟨⟨h₆, tk, rfl⟩, fun b o q => fly₆.1 b o (f1 b o q), fun b o q hf => fly₆.1 b o (f2 b o (c.leX b o q) fun env' he' => ?_), fun b o q hn => ?_⟩)))
  · rcases List.mem_cons.mp he' with qZ0 | he'
    · obtain rfl := qZ0.symm
      intro z
      rw [c.ok.fr] at z
      have := (c.o _ (.head _)).2
      rw [Option.some.inj z, q] at this; cases this
    · exact hf env' he'
  · obtain ⟨sl, z⟩ := f3 b o (c.leX b o q) hn
    exact ((sm₄.trans sm₅).trans sm₆) b { o with slots := sl } z hn

theorem sp_refused (S : Stat w K Hb) (Y : XFacts K) {fr : Addr} {H W s l : Int} {cs : List (Int × Int)} {a b : Value} (hf : IsFr D fr H W s cs) (hbad : ¬ l ∈ ([1, 2, 4, 8] : List Int) ∨ s < l) (hn : 5 ≤ n) :
    TX PG w Hb n (.ref 837) [.ref fr, a, b, vi l] D (fun v => v = .bool true) := by
  refine ex1_2 (pos1 hn) fun n eR1 hn1 => ?_
  obtain rfl := eR1
  intro A st X Vs lf hl fl ok d x j bi ev
  refine call_open (Fn.of S 50 rfl rfl) rfl ok d x j bi ev fun env s₁ t hfr c => ?_
  have hint : interactive env = false := by unfold interactive; rw [c.e.se]; rfl
  refine wpAny_execs_cons ?_
  refine (show ∀ {Q E}, ∀ uu : wpAny (model PG w) (A.deeper env) (exec (.Try _ [.ExceptHandler _ none _ _] [] [] _) env) Q E s₁, _ from id) ?_
  rw [arm_exec_Try]
  refine wpAny_bind (wpAny_standAt (wpAny_tryStmt_except ?_))
  refine wpAny_execs_cons (wpAny_Expr_any (c.gcallR S (hfr lf hl) rfl rfl (TEs_cons (TE_name rfl (TEs_cons (TE_name rfl (TEs_cons (TE_name rfl (TEs_cons (TE_str (TEs_cons (TE_name rfl (TEs_cons (TE_bool (TEs_nil ⟨Le.refl _, sp_picture_raises S Y hf hbad (by omega)⟩))))))))))))) fun ex s' f => ?_) hint rfl)
  exact c.caught S Y (hfr lf hl) rfl f fun s'' sl => ⟨_, rfl, rfl, sl.from t⟩
end
end

section
-- statements, in a frame that none stands below
noncomputable def TSt (prog : Program) (w : World) (Hb : Heap) (n : Nat) (sc : Scope) (sts : List Stmt) (ρ : List (Str × Value)) (D : DH) (Q : ∀ uu : Flow, ∀ uu : List (Str × Value), ∀ uu : DH, Prop) : Prop :=
  ∀ (A : Around) (s : Shared) (X : DH) (env : Env), ∀ uu : A.frames = some [env], ∀ uu : Cx Hb n sc ρ D A s X env, wpAny (model prog w) A (execs sts env) (SPost s X env Q) (fun uu uu => False) s
section
variable {prog : Program} {w : World} {K : Frag} {Hb : Heap} {n : Nat} {D : DH} {sc : Scope} {ρ : List (Str × Value)} {A : Around} {s : Shared} {X : DH} {env : Env} {C P N : Addr} {l : List Env}
theorem TSt_cons {st : Stmt} {sts : List Stmt} {Q : ∀ uu : Flow, ∀ uu : List (Str × Value), ∀ uu : DH, Prop} (h : T1 prog w Hb n sc st ρ D (fun f ρ' D' => match f with | .next => TSt prog w Hb n sc sts ρ' D' Q | f => Q f ρ' D')) : TSt prog w Hb n sc (st :: sts) ρ D Q := by
  intro A s X env hl c
  refine wpAny_execs_cons (wpAny_mono (h A s X env c) (fun f s' p => ?_) fun uu uu x => x)
  obtain ⟨ρ', D', q, a, f', o⟩ := p
  cases f with
  | next => exact wpAny_mono (q A s' X env hl (c.next a f' o)) (fun uu uu z => z.step a) fun uu uu x => x
  | brk => exact ⟨ρ', D', q, a, f', o⟩
  | cont => exact ⟨ρ', D', q, a, f', o⟩
  | ret v => exact ⟨ρ', D', q, a, f', o⟩

-- a call that caught an exception, seen from the frame that none stands below
theorem Cx.gcallX (S : Stat w K Hb) (c : Cx Hb n sc ρ D A s X env) (hl : A.frames = some [env]) {x : Str} {p pos : Pos} {args : List Expr} {f : Addr} {R : ∀ uu : Value, ∀ uu : Shared, Prop} {E : ∀ uu : Value, ∀ uu : Shared, Prop} {Qv : ∀ uu : Value, Prop} (e : globTab.lookup x = some f) (hx : sc.names.lookup x = some .globalImplicit)
    (h : TEs PG w Hb n sc args ρ D (fun vs D₂ => Le D D₂ ∧ TX PG w Hb n (.ref f) vs D₂ Qv)) (k : ∀ V s', ∀ uu : Qv (er V), ∀ uu : After s X D s', ∀ uu : Cx Hb n sc ρ D A s' X env, R V s')
    (hd : (x == ("__debug__" : Str)) = false := by decide)
    (hc : ∀ env, eval (.Call (.Name x p) args [] pos) env = (do callWith pos (← eval (.Name x p) env) [] (backTo pos (starEach args env)) (backToKw pos (keywordEach [] env))) := by intro _; rfl)
    (hp : ∀ env, ((backTo pos (starEach args env)).any (·.1)) = false := by intro _; rfl) :
    wpAny (model PG w) A (eval (.Call (.Name x p) args [] pos) env) R E s := by
  obtain ⟨gv, kp⟩ := S.gl e
  have hF : FrL Hb (XF env s.heap X) [env] := by
    refine ex1_2 (c.okE.frs) fun l' h1 h2 => ?_
    rw [hl] at h1; obtain rfl := (Option.some.inj h1).symm; exact h2
  rw [hc]
  refine wpAny_bind (TE.seq (TE_gname (prog := PG) (w := w) (n := n) (Q := fun v D' => v = .ref f ∧ D' = D) hx gv ⟨rfl, rfl⟩ hd) c.e c.okE c.d c.subXF c.dj c.base c.frameX fun V D₁ s₁ hq1 t => ?_)
  obtain ⟨q1, q2⟩ := hq1
  have q2' := q2.symm
  subst q2'
  obtain rfl := er_ref q1
  refine callWith_go kp c.e c.okE t.d t.x t.j c.base c.frameX (hp env) h fun Vs D₂ s₂ hq2 t' => ?_
  obtain ⟨le, q'⟩ := hq2
  refine wpAny_call (codeAny_mono (q' A s₂ _ Vs [env] hl hF c.okE t'.d t'.x t'.j c.base rfl) fun r s' hq3 => ?_)
  refine ex1_3 (hq3) fun V eR1 qv sl => ?_
  try clear hq3
  obtain rfl := eR1
  have hs' : ∃ h' tk, s' = { s with heap := h', toks := tk } := by
    refine ex2_1 ((t.trans t').eq) fun h2 t2 eR2 => ?_
    obtain rfl := eR2
    refine ex2_1 (sl.eq) fun h3 t3 eR2 => ?_
    obtain rfl := eR2
    exact ⟨h3, t3, rfl⟩
  have notL : ∀ b, ∀ uu : b ≠ env.locals, ∀ env' ∈ [env], env'.frame ≠ some b := fun b hb env' he q => by
    rw [List.mem_singleton.mp he, c.ok.fr] at q
    exact hb (Option.some.inj q).symm
  have hD : Sub D s'.heap := fun b o q => sl.d b o (le b o q)
  have hX : Sub X s'.heap := fun b o q => sl.x b o (c.leX b o q) (notL b (nosA ((c.o _ (.head _)).2) q))
  have inF : ∀ a, ∀ uu : a ∈ fAddrs env, ∀ uu : a ≠ env.locals, ∀ o, ∀ uu : s.heap.get? a = some o, s'.heap.get? a = some o := fun a ha hn o ho => sl.x a o (by rw [XF, if_pos ha]; exact ho) (notL a hn)
  have nL : env.locals ∉ env.cells.map (·.2) := (List.nodup_cons.mp c.f.nd).1
  have hFS : FrameS env ρ s'.heap := by
    refine ⟨?_, fun p hp => ?_, c.f.nd, c.f.has⟩
    · refine ex1_2 (c.f.fh) fun m hN1 q => ?_
      obtain ⟨oL, es, ep, hL, hd', r⟩ := hN1
      obtain ⟨sl', z⟩ := sl.f env.locals oL (by rw [XF, if_pos (.head _)]; exact hL) fun vs w => by rw [hd'] at w; cases w
      refine ⟨m, ⟨_, es, ep, z, hd', r⟩, fun x v e => ?_⟩
      rcases q x v e with y | ⟨kk, cc, V, e1, ⟨o, e2, e2'⟩, r⟩
      · exact .inl y
      · have hm := List.mem_map_of_mem (f := Prod.snd) (mem_of_lookup e1)
        exact .inr ⟨kk, cc, V, e1, ⟨o, inF _ (.tail _ hm) (fun z => nL (z ▸ hm)) _ e2, e2'⟩, r⟩
    · refine ex2_2 (c.f.cells p hp) fun v o ho hv => ?_
      have hm := List.mem_map_of_mem (f := Prod.snd) hp
      exact ⟨v, o, inF _ (.tail _ hm) (fun z => nL (z ▸ hm)) _ ho, hv⟩
  exact k V s' qv ⟨hs', hD, hX, c.j⟩ ⟨c.e, c.ok, hD, hX, c.j, c.b, hFS, c.o⟩

theorem law_last (S : Stat w K Hb) (Y : XFacts K) {st fr ps mp gr nb tb pw : Addr} {s l H W : Nat} {cs : List (Int × Int)} {Q : ∀ uu : Flow, ∀ uu : List (Str × Value), ∀ uu : DH, Prop} (hρ : RLe (oenv st fr ps mp gr nb tb pw s l) ρ) (hf : IsFr D fr H W s cs) (hs : s = 4 ∨ s = 2) (hn : 5 ≤ n) (k : Q (.ret (.bool true)) ρ D) :
    TSt PG w Hb n (scopeOf (stm 86)) [lawS 12] ρ D Q := by
  intro A s₀ X env hl c
  refine wpAny_execs_cons (wpAny_Return_some (wpAny_And2 (c.gcallX S hl rfl rfl (TEs_cons (TE_name (hρ _ _ rfl) (TEs_cons (TE_name (hρ _ _ rfl) (TEs_cons (TE_name (hρ _ _ rfl) (TEs_cons (TE_int (TEs_nil ⟨Le.refl _, sp_refused S Y hf (.inl (by decide)) hn⟩)))))))))
    fun V s' hv t c' => ?_)))
  obtain rfl := er_bool hv
  refine wpAny_truthy_bool ?_
  rw [if_pos rfl]
  refine c'.gcallX S hl rfl rfl (TEs_cons (TE_name (hρ _ _ rfl) (TEs_cons (TE_name (hρ _ _ rfl) (TEs_cons (TE_name (hρ _ _ rfl) (TEs_cons (TE_mul (TE_int (TE_name (hρ _ _ rfl) ⟨_, _, rfl, rfl, by left; decide, TEs_nil ⟨Le.refl _, sp_refused S Y hf (.inr (by (exact Int.ofNat_lt.mpr (by lia)))) hn⟩⟩))))))))))
    fun V2 s2 hv2 t2 c2 => ?_
  exact ⟨ρ, D, by show Q (.ret (er V2)) ρ D; rw [hv2]; exact k, t.trans t2, c2.f, c2.o⟩
end
section
variable {w : World} {K : Frag} {Hb : Heap} {n : Nat} {D : DH}
theorem law_headT (S : Stat w K Hb) {s1 : Stmt} (h1 : lawS 1 = s1) {sc : Addr} {ns : List Int} {rest : List Stmt} {Q : ∀ uu : Flow, ∀ uu : List (Str × Value), ∀ uu : DH, Prop} (hsc : IsL D sc (intL ns)) (hz : ns.length ≤ sizeLine) (hn : 6 ≤ n)
    (k : ∀ (ρ : List (Str × Value)) (X : DH) (st fr ps mp gr nb tb pw : Addr) (s l H W MA MD : Nat) (cs : List (Nat × Nat)) (us : List Value) (RR : List (List Addr)), ∀ uu : RLe (oenv st fr ps mp gr nb tb pw s l) ρ, ∀ uu : Head w X st fr ps mp gr nb tb pw s l H W MA MD cs us RR, ∀ uu : Le D (del X (muts st nb tb pw RR)), TSt PG w Hb n (scopeOf (stm 86)) rest ρ X Q) :
    TSt PG w Hb n (scopeOf (stm 86)) (lawS 0 :: s1 :: lawS 2 :: lawS 3 :: lawS 4 :: rest) [("script", .ref sc)] D Q := by
  refine TSt_cons (T1_assign (.inl rfl) (TE_gcall S rfl rfl (TEs_cons (TE_name rfl (TEs_nil ?_)))))
  refine TC.beg (sp_begun S hsc hz (by lia)) fun st D1 l1 hst0 hst => ?_
  refine TSt_cons (law_sides S h1 rfl hst (by lia) fun s l D2 hs hsd l2 hst2 => ?_)
  refine TSt_cons (T1_unpack (xs := [(("frame_here" : Str), _), (("pairs" : Str), _)]) rfl rfl ?_ (by intro _ _; rfl))
  refine TE_gcall S rfl rfl (TEs_cons (TE_name rfl (TEs_cons (TE_name rfl (TEs_nil ?_)))))
  refine (sp_law_frame S hst2 (by lia)).mono fun v D3 hq5 => ?_
  obtain ⟨t, fr, ps, us, cs, H, W, e, l3, hst3, hT, hfr, hps, hprs, hlen, hW, hH, hcs⟩ := hq5
  refine ⟨t, _, e, .inr (hT.le del_le), rfl, ?_⟩
  refine TSt_cons (law_most S rfl (hps.le del_le) (hprs.le del_le) ⟨hlen.1, hlen.2.1⟩ fun MA MD mp D4 hA hB l4 hmp => ?_)
  have hst4 := hst3.le l4
  have l34 : Le (del D3 [st]) (del D4 [st]) := del_mono l4
  have g : GeoN H W s MA MD cs := ⟨hW, hH, hs, hcs, hA, hB, hlen.1, hlen.2.1⟩
  have hmp4 : IsT (del D4 [st]) mp [vi MA, vi MD] := tupDel hst4.list.choose_spec hmp
  refine TSt_cons (law_begin4 S rfl hst4 (hfr.le l34) g (by (exact Nat.le_of_lt (by assumption))) fun gr nb tb pw RR D5 l5 hG h5 hN hA5 iv hp => ?_)
  exact k _ D5 st fr ps mp gr nb tb pw s l H W MA MD cs us RR (RLe.cons rfl (RLe.cons rfl (RLe.cons rfl (RLe.cons rfl (RLe.cons rfl (RLe.cons rfl (RLe.cons rfl (RLe.cons rfl (RLe.cons rfl (RLe.cons rfl RLe.nil))))))))))
    ⟨(hfr.le l34).le l5, g, hsd, (hps.le l34).le l5, (hprs.le l34).le l5, hmp4.le l5, hG, h5, hN, hA5, iv, hp, hlen.2.2⟩
    ((le_del l1 (by simpa using hst0)).trans ((le_del l2 fun a ha => del_none ha).trans ((le_del l3 fun a ha => del_none ha).trans (l34.trans l5))))

theorem law_body (S : Stat w K Hb) (Y : XFacts K) {sc : Addr} {ns : List Int} {Q : ∀ uu : Flow, ∀ uu : List (Str × Value), ∀ uu : DH, Prop} (hsc : IsL D sc (intL ns)) (hz : ns.length ≤ sizeLine) (hn : 7 ≤ n) (k : ∀ ρ' D', ∀ uu : Le D D', Q (.ret (.bool true)) ρ' D') :
    TSt PG w Hb n (scopeOf (stm 86)) (bodyOf (stm 86)) [("script", .ref sc)] D Q := by
  have hb : bodyOf (stm 86) = [lawS 0, lawS 1, lawS 2, lawS 3, lawS 4, lawS 5, lawS 6, lawS 7, lawS 8, lawS 9, lawS 10, lawS 11, lawS 12] := rfl
  rw [hb]
  generalize h1 : lawS 1 = s1
  refine law_headT S h1 hsc hz (by (exact Nat.le_of_lt (by assumption))) fun ρ D1 st fr ps mp gr nb tb pw s l H W MA MD cs us RR hρ hd l01 => ?_
  have g := hd.geo
  refine TSt_cons (law_places S hρ hd.fr g hd.gm hd.ps hd.prs.1 hd.len hd.nd hd.has hd.inv (fun p c ra e1 e2 => head_geo g e1 (hd.pad p c ra e1 e2)) (by lia) fun ρ' D2 pwl nums ks r1 l12 iv => ?_)
  refine ex2_1 (iv.done g hd.len hd.pad (hd.gm.le l12)) fun G t dn => ?_
  have hl4 := g.len
  have hus := hd.prs.1
  refine TSt_cons (law_word S (r1 _ _ rfl) (hd.ps.le l12) (by (and_intros <;> lia)) fun md D3 hmd l23 => ?_)
  have l13 := l12.trans l23
  refine TSt_cons (law_show S (r1.push rfl) rfl (hd.fr.le l13) g hd.sd (dn.le l23) hn fun pic D4 l34 hpic => ?_)
  have l14 := l13.trans l34
  refine TSt_cons (law_size S ((r1.push rfl).push rfl) (hd.fr.le l14) g hd.sd (by lia) fun sz D5 l45 hsz => ?_)
  have l15 := l14.trans l45
  have fin : Fin w D5 fr ps mp gr nb tb pw sz pic md s l H W MA MD cs us RR G t nums pwl := ⟨hd.fr.le l15, g, hd.sd, hd.ps.le l15, hd.prs.le l15, hd.mp.le l15, (dn.le l23).le (l34.trans l45), hsz, hmd, hpic.le l45⟩
  have hρf : RLe (fenv st fr ps mp gr nb tb pw sz pic md s l) (("size", .ref sz) :: ("shown_one", .ref pic) :: ("word_one", .str md 0) :: ρ') := RLe.cons rfl (RLe.cons rfl (RLe.cons rfl (((r1.push rfl).push rfl).push rfl)))
  refine TSt_cons (law_if1 S hρf fin fun D6 l56 => ?_)
  refine TSt_cons (law_checks S hρf (fin.le l56) (by lia) fun ρ7 D7 r7 l67 => ?_)
  refine TSt_cons (law_kept S r7 ((fin.le l56).le l67) (by lia) fun D8 l78 => ?_)
  exact law_last S Y ((((RLe.refl _).push rfl).push rfl).push rfl |>.trans r7) (hd.fr.le (l15.trans (l56.trans (l67.trans l78)))) g.hs (by lia) (k _ _ (l01.trans (l15.trans (l56.trans (l67.trans l78)))))

-- the law gives back True
theorem sp_law (S : Stat w K Hb) (Y : XFacts K) {sc : Addr} {ns : List Int} (hsc : IsL D sc (intL ns)) (hz : ns.length ≤ sizeLine) {A : Around} {s : Shared} {X : DH} {Vs : List Value} (hl : A.frames = some []) (ok : Ok Hb 8 A X) (d : Sub D s.heap) (x : Sub X s.heap) (j : Dj D X) (bi : BaseIn Hb X) (hv : Vs.map er = [.ref sc]) :
    codeAny (model PG w) A (.call (.ref 842) ⟨Vs, []⟩) (fun r s' => r = .ok (.ret (.bool true)) ∧ ∃ D', Le D D' ∧ After s X D' s') s := by
  refine call_open (n := 7) (Fn.of S 51 rfl rfl) rfl ok d x j bi hv fun env s₁ t hfr c => ?_
  refine wpAny_mono (law_body S Y (Q := fun f uu D' => f = .ret (.bool true) ∧ Le D D') hsc hz (Nat.le_refl _) (fun uu uu le => ⟨rfl, le⟩) _ s₁ X env (hfr [] hl) c) (fun f s' hq6 => ?_) fun uu uu z => z.elim
  obtain ⟨ρ', D', ⟨q, le⟩, a, _, _⟩ := hq6
  cases f with
  | ret V => exact ⟨by rw [show V = .bool true from er_bool (Flow.ret.inj q)], D', le, t.trans a⟩
  | _ => cases q
end
end

section
theorem wellAll_er {P : Params} {h : Heap} : ∀ {ns : List Int} {vs : List Value}, ∀ uu : WellAll P h vs (ofPys (ns.map PyData.int)), vs.map er = intL ns
  | [], vs, w => by
    have w' : WellAll P h vs [] := w
    cases w'; rfl
  | n :: ns, vs, w => by
    have w' : WellAll P h vs (.int n :: ofPys (ns.map PyData.int)) := w
    cases w' with
    | cons a b =>
      cases a
      rw [List.map_cons, wellAll_er b]; rfl
theorem law_called {w : World} {K : Frag} {s : Shared} {sc : Addr} {vs : List Value} {ns : List Int} {R : ∀ uu : Result, ∀ uu : Shared, Prop} (kin : K.In s.heap) (f : KFacts K) (y : XFacts K) (nl : s.heap.NoLimit)
    (g : ∃ mg mb, s.heap.Ns mainGlobals mg ∧ s.heap.Ns builtinsNs mb ∧ ∀ x : Str, ∀ uu : x ≠ "__name__", mb x = bootBuiltins x) (hk : (K.all fun p => !(p.2.cls == .type "list")) = true)
    (hsc : s.heap.get? sc = some { cls := .type "list", data := .seq vs.toArray }) (hv : vs.map er = intL ns) (hz : ns.length ≤ sizeLine)
    (k : ∀ s', ∀ uu : (∀ b o, ∀ uu : s.heap.get? b = some o, s'.heap.get? b = some o), ∀ uu : s'.os = s.os, ∀ uu : s'.gens = s.gens, R (.ok (.ret (.bool true))) s') :
    codeAny (model PG w) callerA (.call (.ref 842) ⟨[.ref sc], []⟩) R s := by
  have hide : ∀ b o, ∀ uu : s.heap.get? b = some o, ∀ uu : b ≠ sc, (hideAll s.heap [sc]).get? b = some o := fun b o e n => hideAll_get _ e (by simpa using n)
  have nsH : ∀ {a m}, ∀ uu : s.heap.Ns a m, (hideAll s.heap [sc]).Ns a m := fun {a m} ⟨o, es, ep, e, hd, r⟩ => ⟨o, es, ep, hide a o e (fun q => by rw [q, hsc] at e; obtain rfl := (Option.some.inj e).symm; cases hd), hd, r⟩
  have S : Stat w K (hideAll s.heap [sc]) := by
    refine ex2_3 (g) fun mg mb g1 g2 g3 => ?_
    try clear g
    refine ex1_2 (nl) fun mc n1 n2 => ?_
    try clear nl
    refine ⟨fun a o e => hide a o (kin a o e) fun q => ?_, f, ⟨mc, nsH n1, n2⟩, mg, mb, nsH g1, nsH g2, g3⟩
    have h1 := List.all_eq_true.mp hk _ (mem_lookup' e)
    have h2 := kin a o e
    rw [q, hsc] at h2; obtain rfl := (Option.some.inj h2).symm
    exact absurd h1 (by simp)
  let X : DH := fun b => if b = sc then none else s.heap.get? b
  let D : DH := fun b => if b = sc then s.heap.get? b else none
  have hX : Sub X s.heap := fun b o e => by
    simp only [X] at e
    split at e
    · cases e
    · exact e
  have hD : Sub D s.heap := fun b o e => by
    simp only [D] at e
    split at e
    · exact e
    · cases e
  have hj : Dj D X := fun b o e => by
    simp only [D] at e
    split at e
    · rename_i q; simp [X, q]
    · cases e
  have hb : BaseIn (hideAll s.heap [sc]) X := fun b o e => by
    have n : b ≠ sc := nosA (hideAll_none _ (.head _)) e
    simp only [X, if_neg n]
    exact of_hideAll _ e
  have hL : IsL D sc (intL ns) := ⟨vs, 0, by simp only [D, if_true]; exact hsc, hv⟩
  refine codeAny_mono (sp_law S y hL hz (A := callerA) (X := X) (Vs := [.ref sc]) rfl ⟨rfl, by decide, by decide, [], rfl, .nil⟩ hD hX hj hb rfl) fun r s' hq1 => ?_
  obtain ⟨rfl, D', le, t⟩ := hq1
  refine ex2_1 (t.eq) fun h' tk e => ?_
  refine k s' (fun b o q => ?_) (by rw [e]) (by rw [e])
  by_cases n : b = sc
  · exact t.d b o (le b o (by simp only [D, if_pos n]; exact q))
  · exact t.x b o (by simp only [X, if_neg n]; exact q)
end

section
noncomputable def mapG {α β : Type} (g : ∀ uu : α, β) (l : List α) : List β := l.rec [] (fun a uu r => g a :: r)
theorem mapG_all {α β : Type} {f g : ∀ uu : α, β} {l : List α} (h : l.map f = mapG g l) (x : α) (hx : x ∈ l) : f x = g x := by
  induction l with
  | nil => cases hx
  | cons a l ih =>
    have h2 : f a :: l.map f = g a :: mapG g l := h
    injection h2 with q r
    rcases List.mem_cons.mp hx with rfl | hy
    · exact q
    · exact ih r hy
noncomputable def tagOf (x : Option (Option Value)) : Nat := match x with | some (some (.int _ t)) => t | _ => 0
theorem KFacts.of (K : Frag)
    (h1 : (globTab.all fun p => nsIn K mainGlobals p.1 == some (some (.ref p.2)) && keepIn K (.ref p.2)) = true)
    (h2 : intTab.map (fun p => nsIn K mainGlobals p.1) = mapG (fun p => some (some (.int p.2 (tagOf (nsIn K mainGlobals p.1))))) intTab)
    (h3 : (bltTab.all fun p => nsIn K mainGlobals p.1 == some none) = true)
    (h4 : (clsTab.all fun p => plainGet K p.1 "" && hasDictIn K p.1 && findIn K (.ref p.1) "__setattr__" == some (some (.builtin "object.__setattr__")) && plainOver K p.1 && makesIn K p.1 &&
      p.2.all fun x => findIn K (.ref p.1) x == some none && takerIn K p.1 x == some none) = true)
    (h5 : (initTab.all fun p => findIn K (.ref p.1) "__init__" == some (some (.ref p.2)) && typeIn K (.ref p.2) == some (.type "function")) = true)
    (h6 : (bareTab.all fun C => findIn K (.ref C) "__init__" == some (some (.builtin "object.__init__"))) = true)
    (h7 : (metTab.all fun p => p.2.all fun q => findIn K (.ref p.1) q.1 == some (some (.ref q.2)) && isFn K (.ref q.2) && keepIn K (.ref q.2)) = true)
    (h8 : ∀ p, ∀ uu : p ∈ fnTab, FnFact K p.1 p.2.1 p.2.2) : KFacts K := by
  simp only [List.all_eq_true, Bool.and_eq_true, beq_iff_eq, and_assoc] at h1 h3 h4 h5 h6 h7
  exact ⟨h1, fun p hp => ⟨_, mapG_all h2 p hp⟩, h3, h4, h5, h6, h7, h8⟩
noncomputable def objAt (K : Frag) (f : Addr) : Obj := (K.lookup f).getD default
noncomputable def fdAt (K : Frag) (f : Addr) : FuncData := match (objAt K f).data with | .func fd => fd | _ => default
noncomputable abbrev fdOf (fd : FuncData) (st : Stmt) : FuncData := fnOf fd.name fd.qualname fd.params (bodyOf st) (scopeOf st) .none fd.kwdefaults fd.doc fd.pyModule fd.annotations fd.code fd.closureTuple
theorem FnFact.of {K : Frag} {f : Addr} {st : Stmt} {ns : List Str} (h1 : K.lookup f = some ⟨(objAt K f).cls, (objAt K f).dict, .func (fdOf (fdAt K f) st), (objAt K f).slots⟩) (h2 : codeIn K (fdAt K f).code (fdAt K f).qualname = true)
    (h3 : ∀ Vs : List Value, ∀ uu : Vs.length = ns.length, bindArgs (fdOf (fdAt K f) st) ⟨Vs, []⟩ = pure (ns.zip Vs)) : FnFact K f st ns := ⟨_, _, _, _, _, _, _, _, _, _, _, _, h1, h2, h3⟩
theorem range_vals {α : Type} (d : α) {Vs : List α} {n : Nat} (h : Vs.length = n) : (List.range n).map (fun i => Vs.getD i d) = Vs := by
  apply List.ext_getElem
  · rw [List.length_map, List.length_range, h]
  · intro i h1 h2
    simp [List.getD_eq_getElem?_getD, h2]
theorem fnFacts {K : Frag} (h1 : fnTab.map (fun p => K.lookup p.1) = mapG (fun p => some ⟨(objAt K p.1).cls, (objAt K p.1).dict, .func (fdOf (fdAt K p.1) p.2.1), (objAt K p.1).slots⟩) fnTab)
    (h2 : (fnTab.all fun p => codeIn K (fdAt K p.1).code (fdAt K p.1).qualname) = true)
    (h3 : fnTab.map (fun p (f : ∀ uu : Nat, Value) => bindArgs (fdOf (fdAt K p.1) p.2.1) ⟨(List.range p.2.2.length).map f, []⟩) = mapG (fun p f => pure (p.2.2.zip ((List.range p.2.2.length).map f))) fnTab) (p : Addr × Stmt × List Str) (hp : p ∈ fnTab) : FnFact K p.1 p.2.1 p.2.2 :=
  FnFact.of (mapG_all h1 p hp) (List.all_eq_true.mp h2 p hp) fun Vs h => by
    have e := congrFun (mapG_all h3 p hp) (fun i => Vs.getD i .none)
    simp only [range_vals Value.none h] at e; exact e
end
end Mine
-- names that the head would give to constants that are not wanted here (they would make the compiled file ten times as large)
set_option Elab.async true
namespace Mine.head
theorem tw9881340216297992761 : True := trivial
theorem tw18081138779251354973 : True := trivial
theorem tw13999681649124312864 : True := trivial
theorem tw16470739840699324481 : True := trivial
theorem tw11636873012791513418 : True := trivial
theorem tw12310735299239354703 : True := trivial
theorem tw13942192884097748152 : True := trivial
theorem tw12460202669355646752 : True := trivial
theorem tw15501141472565082077 : True := trivial
theorem tw11628534518673281344 : True := trivial
theorem tw3715584954343283195 : True := trivial
theorem tw3453547403478019728 : True := trivial
theorem tw2554682012703037696 : True := trivial
theorem tw8159583801465064534 : True := trivial
theorem tw16871623187472473471 : True := trivial
theorem tw14788773977795034992 : True := trivial
theorem tw6772502638888315869 : True := trivial
theorem tw15794997505209512671 : True := trivial
theorem tw15127644999133008818 : True := trivial
theorem tw7044984988248179734 : True := trivial
theorem tw2393098407364606883 : True := trivial
theorem tw2035680199648653684 : True := trivial
theorem tw7156519585557434892 : True := trivial
theorem tw18007968972792079559 : True := trivial
theorem tw14504069527372745259 : True := trivial
theorem tw14740928361383774428 : True := trivial
theorem tw4473611206160876864 : True := trivial
theorem tw9133290819911140118 : True := trivial
theorem tw14513887754847984766 : True := trivial
theorem tw6836608696283027097 : True := trivial
theorem tw17156091980717111821 : True := trivial
theorem tw15520248196984853422 : True := trivial
theorem tw12242153458792446204 : True := trivial
theorem tw18176413224385145225 : True := trivial
theorem tw12998212659555988865 : True := trivial
theorem tw10116942457455264815 : True := trivial
theorem tw1056085985882870562 : True := trivial
theorem tw9186546921256032858 : True := trivial
theorem tw5501060405047882677 : True := trivial
theorem tw3986194592780655508 : True := trivial
theorem tw3186774066764743411 : True := trivial
theorem tw14628233357713752721 : True := trivial
theorem tw14139502460874162764 : True := trivial
theorem tw9984397402777080727 : True := trivial
theorem tw7272792461964422541 : True := trivial
theorem tw3696042808614700290 : True := trivial
theorem tw3790771472595898956 : True := trivial
theorem tw7494366503370351645 : True := trivial
theorem tw7270002223443293236 : True := trivial
theorem tw15181326774706428367 : True := trivial
theorem tw7450023128482652576 : True := trivial
theorem tw18384547517478447814 : True := trivial
theorem tw6600165084710513979 : True := trivial
theorem tw12352672977532951062 : True := trivial
theorem tw1134157569726261602 : True := trivial
theorem tw17287069475806534740 : True := trivial
theorem tw17339705970751849611 : True := trivial
theorem tw16845296645482713644 : True := trivial
theorem tw69809265629811306 : True := trivial
theorem tw7013799640231393816 : True := trivial
theorem tw4834694072379752904 : True := trivial
theorem tw9449176361245260279 : True := trivial
theorem tw9701577420580846637 : True := trivial
theorem tw6088685845774392931 : True := trivial
theorem tw45052839361067614 : True := trivial
theorem tw8671685427711848851 : True := trivial
theorem tw4965378191221513410 : True := trivial
theorem tw14720509044617813951 : True := trivial
theorem tw10265929125382437317 : True := trivial
theorem tw1519320592345488741 : True := trivial
theorem tw17304152732226823993 : True := trivial
theorem tw8586521899292070991 : True := trivial
theorem tw1919001801439425371 : True := trivial
theorem tw6240353410654795137 : True := trivial
theorem tw6684681932595197013 : True := trivial
theorem tw8895791426145780158 : True := trivial
theorem tw8626486368039343599 : True := trivial
theorem tw8187629637223713605 : True := trivial
theorem tw17674571679781333832 : True := trivial
theorem tw17850378814381688901 : True := trivial
theorem tw2007852463679175192 : True := trivial
theorem tw11105056867450500199 : True := trivial
theorem tw16817119741492734445 : True := trivial
theorem tw7498250532897285284 : True := trivial
theorem tw14983349147647662914 : True := trivial
theorem tw10457615780465708087 : True := trivial
theorem tw8100529080337985053 : True := trivial
theorem tw18416563613846182222 : True := trivial
theorem tw5182153607120983317 : True := trivial
theorem tw18331532914195504034 : True := trivial
theorem tw2797894973233656403 : True := trivial
theorem tw16604199759994364997 : True := trivial
theorem tw12856577281151766611 : True := trivial
theorem tw9107825763807709430 : True := trivial
theorem tw7876399200375917224 : True := trivial
theorem tw9838509708139735780 : True := trivial
theorem tw10812213935944405949 : True := trivial
theorem tw17453365369857097546 : True := trivial
theorem tw2172669909848549399 : True := trivial
theorem tw8182079617134344778 : True := trivial
theorem tw14086173767186703872 : True := trivial
theorem tw4235852798576303577 : True := trivial
theorem tw907359911958329709 : True := trivial
theorem tw16226220715811633075 : True := trivial
theorem tw9767149119325585590 : True := trivial
theorem tw6099028997845504075 : True := trivial
theorem tw4693820183103290663 : True := trivial
theorem tw16903022960794457021 : True := trivial
theorem tw17782148633632673465 : True := trivial
theorem tw9464831228461672588 : True := trivial
theorem tw15226672633840520885 : True := trivial
theorem tw3746228215898030841 : True := trivial
theorem tw709382114072422158 : True := trivial
theorem tw13664066127859960707 : True := trivial
theorem tw13357441389134331599 : True := trivial
theorem tw7161073391023584161 : True := trivial
theorem tw7582878936473852414 : True := trivial
theorem tw9746458257258439470 : True := trivial
theorem tw1214346256449528893 : True := trivial
theorem tw16659920880120507502 : True := trivial
theorem tw12601080634535202701 : True := trivial
theorem tw6272251169252508156 : True := trivial
theorem tw1693818546310300448 : True := trivial
theorem tw17444863063712431705 : True := trivial
theorem tw5508695066786827253 : True := trivial
theorem tw1714602735852981970 : True := trivial
theorem tw16966009324859112401 : True := trivial
theorem tw6692803169904595997 : True := trivial
theorem tw67086481866811729 : True := trivial
theorem tw18125128294737035143 : True := trivial
theorem tw1212124681294104184 : True := trivial
theorem tw9388430590476628193 : True := trivial
theorem tw12182850187970735909 : True := trivial
theorem tw8402214883040486957 : True := trivial
theorem tw8871424715050852912 : True := trivial
theorem tw12822298378996975857 : True := trivial
theorem tw15647273679946700291 : True := trivial
theorem tw9823536610671039419 : True := trivial
theorem tw6521490308693473283 : True := trivial
theorem tw8169693465737517768 : True := trivial
theorem tw5869485362099743711 : True := trivial
theorem tw15798066900824788120 : True := trivial
theorem tw2907111362388958804 : True := trivial
theorem tw13335025841360890868 : True := trivial
theorem tw7758381527925395934 : True := trivial
theorem tw8476951943066225111 : True := trivial
theorem tw14597329475937083939 : True := trivial
theorem tw3651205649096709438 : True := trivial
theorem tw604627371996746742 : True := trivial
theorem tw12244833863542804788 : True := trivial
theorem tw5697773043789114877 : True := trivial
theorem tw5104563664521345299 : True := trivial
theorem tw16714887947964762639 : True := trivial
theorem tw5240702290290941181 : True := trivial
theorem tw10015159338476511836 : True := trivial
theorem tw3944913497352057107 : True := trivial
theorem tw12207028300977255130 : True := trivial
theorem tw11820730986300896962 : True := trivial
theorem tw17486074103640542121 : True := trivial
theorem tw7960053054240918295 : True := trivial
theorem tw12201952087667049370 : True := trivial
theorem tw9065935926736091543 : True := trivial
theorem tw15296082917334920728 : True := trivial
theorem tw17194126546080390198 : True := trivial
theorem tw17017319662998615 : True := trivial
theorem tw15539854500240908086 : True := trivial
theorem tw11427066125472700054 : True := trivial
theorem tw3062044705579621278 : True := trivial
theorem tw9987851973559822609 : True := trivial
theorem tw10706776884845955466 : True := trivial
theorem tw15604011560834605598 : True := trivial
theorem tw15735840784391694233 : True := trivial
theorem tw10948677003083999065 : True := trivial
theorem tw17039324001796647390 : True := trivial
theorem tw742351954350328859 : True := trivial
theorem tw1618804561499322139 : True := trivial
theorem tw14028522991509751376 : True := trivial
theorem tw7256407767356113836 : True := trivial
theorem tw13637325136056909300 : True := trivial
theorem tw13381877923881390905 : True := trivial
theorem tw5129616035191883695 : True := trivial
theorem tw7835671542029378175 : True := trivial
theorem tw14796412885826930917 : True := trivial
theorem tw7658410731251134818 : True := trivial
theorem tw5013180600929471838 : True := trivial
theorem tw14699756766385990792 : True := trivial
theorem tw15450198751748134939 : True := trivial
theorem tw11714945338242495837 : True := trivial
theorem tw17332727794074296334 : True := trivial
theorem tw13294958713779813728 : True := trivial
theorem tw532055438628499158 : True := trivial
theorem tw6211381574409162282 : True := trivial
theorem tw9318794584737855082 : True := trivial
theorem tw6858743491597560450 : True := trivial
theorem tw6588589085864783938 : True := trivial
theorem tw17297054508065495485 : True := trivial
theorem tw9196398404247428943 : True := trivial
theorem tw16111715859725283846 : True := trivial
theorem tw380116879960591498 : True := trivial
theorem tw2139126354782091417 : True := trivial
theorem tw17829360733465232015 : True := trivial
theorem tw7148437315225170067 : True := trivial
theorem tw6968674436765558698 : True := trivial
theorem tw15779500811904541264 : True := trivial
theorem tw15204471325056678010 : True := trivial
theorem tw16166440364842034014 : True := trivial
theorem tw496868785162813753 : True := trivial
theorem tw15894371620910866019 : True := trivial
theorem tw14676189674455941282 : True := trivial
theorem tw3404819636646143723 : True := trivial
theorem tw2066564036433440168 : True := trivial
theorem tw15796087645652482245 : True := trivial
theorem tw4576125674228380541 : True := trivial
theorem tw18277060748420158845 : True := trivial
theorem tw9162278640276766204 : True := trivial
theorem tw10270352894671993868 : True := trivial
theorem tw12695399030622205104 : True := trivial
theorem tw15091486752826498866 : True := trivial
theorem tw15785421084128741142 : True := trivial
theorem tw15898970277018273793 : True := trivial
theorem tw12328230846540189838 : True := trivial
theorem tw290710125855613696 : True := trivial
theorem tw17608190574486352970 : True := trivial
theorem tw1457377512435260902 : True := trivial
theorem tw8603420104599213669 : True := trivial
theorem tw12362083183470981646 : True := trivial
theorem tw4964814941381164201 : True := trivial
theorem tw10957180678049773753 : True := trivial
theorem tw6369041477666114370 : True := trivial
theorem tw3264716943610762504 : True := trivial
theorem tw18095809974233413182 : True := trivial
theorem tw5725584637647431893 : True := trivial
theorem tw10062970787820224252 : True := trivial
theorem tw7417405269818204032 : True := trivial
theorem tw739537129135343663 : True := trivial
theorem tw17552560543380974038 : True := trivial
theorem tw4005429485061764775 : True := trivial
theorem tw13295082483830516422 : True := trivial
theorem tw5915552362696249034 : True := trivial
theorem tw16346224235508607005 : True := trivial
theorem tw5407718363533321033 : True := trivial
theorem tw9062998866958442273 : True := trivial
theorem tw1906429620130506887 : True := trivial
theorem tw5111174896325423537 : True := trivial
theorem tw1766074496371839085 : True := trivial
theorem tw9354026244260953042 : True := trivial
theorem tw11063524718261073790 : True := trivial
theorem tw14999265807660949796 : True := trivial
theorem tw5776309275727910279 : True := trivial
theorem tw10021064610941686981 : True := trivial
theorem tw15052771764104931649 : True := trivial
theorem tw1858156416291392539 : True := trivial
theorem tw17539234302018041193 : True := trivial
theorem tw9197122456581196581 : True := trivial
theorem tw7181452741857391679 : True := trivial
theorem tw6079359036626576793 : True := trivial
theorem tw4991397462208424806 : True := trivial
theorem tw13932022402069264104 : True := trivial
theorem tw7396500232308049434 : True := trivial
theorem tw8382746154173761051 : True := trivial
theorem tw18260194641540637818 : True := trivial
theorem tw5019597260055213698 : True := trivial
theorem tw14412733801367601576 : True := trivial
theorem tw11819297519747316193 : True := trivial
theorem tw17173245716831642929 : True := trivial
theorem tw4433315090154635215 : True := trivial
theorem tw7802898811600756450 : True := trivial
theorem tw15330342782969278459 : True := trivial
theorem tw15305915472762889579 : True := trivial
theorem tw9625377726130185387 : True := trivial
theorem tw3501597964444990463 : True := trivial
theorem tw16175233474957185256 : True := trivial
theorem tw1172538174109094731 : True := trivial
theorem tw18332689328565389885 : True := trivial
theorem tw2581250870941146908 : True := trivial
theorem tw12074249297620881909 : True := trivial
theorem tw8550467674348477657 : True := trivial
theorem tw8541356943393881859 : True := trivial
theorem tw1155926839051525531 : True := trivial
theorem tw11693895930587223190 : True := trivial
theorem tw10128820837102578890 : True := trivial
theorem tw174166394780034911 : True := trivial
theorem tw3089916443595474862 : True := trivial
theorem tw7734086686654790897 : True := trivial
theorem tw3615648651819825313 : True := trivial
theorem tw5438144065070405397 : True := trivial
theorem tw15037083628117588352 : True := trivial
theorem tw1909714482019496454 : True := trivial
theorem tw12095829319087573521 : True := trivial
theorem tw16894393574925625578 : True := trivial
theorem tw8627200689577751383 : True := trivial
theorem tw17783093436913651231 : True := trivial
theorem tw9966027542202029443 : True := trivial
theorem tw2946737518818760889 : True := trivial
theorem tw13086575352542018947 : True := trivial
theorem tw14746898714274692784 : True := trivial
theorem tw1608297297296620843 : True := trivial
theorem tw17784522201281872271 : True := trivial
theorem tw16828514060538661750 : True := trivial
theorem tw5996384718915585738 : True := trivial
theorem tw8549075639274686408 : True := trivial
theorem tw2624612372273768290 : True := trivial
theorem tw4415685298772064003 : True := trivial
theorem tw11255790879490906821 : True := trivial
theorem tw17113217626458354986 : True := trivial
theorem tw12084453891678590660 : True := trivial
theorem tw2976249973925969801 : True := trivial
theorem tw17700853532424174462 : True := trivial
theorem tw5870146547769353613 : True := trivial
theorem tw807142644699662319 : True := trivial
theorem tw14241001667801471300 : True := trivial
theorem tw5096742575497195690 : True := trivial
theorem tw7430932083831991287 : True := trivial
theorem tw2879759524354350568 : True := trivial
theorem tw9202431907968578930 : True := trivial
theorem tw2427080651869081053 : True := trivial
theorem tw6402496994288996404 : True := trivial
theorem tw15647610678857825673 : True := trivial
theorem tw377444749377882612 : True := trivial
theorem tw3715144110773694964 : True := trivial
theorem tw780477332936465449 : True := trivial
theorem tw16922147877168347812 : True := trivial
theorem tw12892129938458570674 : True := trivial
theorem tw12371566548271132015 : True := trivial
theorem tw16291991722392533869 : True := trivial
theorem tw12344544660321961925 : True := trivial
theorem tw2203363585012173787 : True := trivial
theorem tw3604701254548876123 : True := trivial
theorem tw14631306762972528136 : True := trivial
theorem tw5599997604879368025 : True := trivial
theorem tw2876011056497122456 : True := trivial
theorem tw16078238667976319046 : True := trivial
theorem tw16545597347906280737 : True := trivial
theorem tw9575541623215731522 : True := trivial
theorem tw5401097623525119610 : True := trivial
theorem tw6327039764776113722 : True := trivial
theorem tw14112020806712329415 : True := trivial
theorem tw7575806435727305068 : True := trivial
theorem tw5353729903917744248 : True := trivial
theorem tw14349913743752837093 : True := trivial
theorem tw15666658371737129944 : True := trivial
theorem tw1495726902847802894 : True := trivial
theorem tw1180154186099492246 : True := trivial
theorem tw8535708456716222715 : True := trivial
theorem tw15638870477510070732 : True := trivial
theorem tw2518057956044344595 : True := trivial
theorem tw9142320679590124636 : True := trivial
theorem tw10510622979536455646 : True := trivial
theorem tw16472945084836616533 : True := trivial
theorem tw11724780754615379514 : True := trivial
theorem tw9030979908501067730 : True := trivial
theorem tw12841863872788715202 : True := trivial
theorem tw693309671712327132 : True := trivial
theorem tw1506576300011279404 : True := trivial
theorem tw12427710115714267126 : True := trivial
theorem tw16997897962222511 : True := trivial
theorem tw16894197260953374720 : True := trivial
theorem tw1643771367246577777 : True := trivial
theorem tw5986637957666399235 : True := trivial
theorem tw6931653728971238233 : True := trivial
theorem tw11194998557105285118 : True := trivial
theorem tw14301857233205174029 : True := trivial
theorem tw7805308653706644653 : True := trivial
theorem tw2825341998796452840 : True := trivial
theorem tw15039987702171664376 : True := trivial
theorem tw14531177953140590962 : True := trivial
theorem tw1660877005871194693 : True := trivial
theorem tw10988817232074504935 : True := trivial
theorem tw12364624919760631829 : True := trivial
theorem tw12611893724949602041 : True := trivial
theorem tw10510183946089719056 : True := trivial
theorem tw1272635626206103303 : True := trivial
theorem tw5092371620264689978 : True := trivial
theorem tw15112835437128306455 : True := trivial
theorem tw2413573451304230806 : True := trivial
theorem tw11484358847640170188 : True := trivial
theorem tw14512941343882779238 : True := trivial
theorem tw18282902561792777199 : True := trivial
theorem tw14061139507663348314 : True := trivial
theorem tw6053349399257934933 : True := trivial
theorem tw13276723143375012678 : True := trivial
theorem tw17854896373637125580 : True := trivial
theorem tw9213911765573242809 : True := trivial
theorem tw13743032657059413451 : True := trivial
theorem tw11582096051123008839 : True := trivial
theorem tw7656372460463219624 : True := trivial
theorem tw17890245599415353634 : True := trivial
theorem tw13353151263460963528 : True := trivial
theorem tw5927865893512547691 : True := trivial
theorem tw8041981036286801607 : True := trivial
theorem tw11715283913529211631 : True := trivial
theorem tw8172283286065499403 : True := trivial
theorem tw15263674166054382079 : True := trivial
theorem tw10079960370226730655 : True := trivial
theorem tw15095179193122606544 : True := trivial
theorem tw7512725033676591148 : True := trivial
theorem tw1224924573807776437 : True := trivial
theorem tw4708111749353345164 : True := trivial
theorem tw7743085818281968155 : True := trivial
theorem tw1050551135032985961 : True := trivial
theorem tw9082462177598256812 : True := trivial
theorem tw573967197379146972 : True := trivial
theorem tw9646481798937456297 : True := trivial
theorem tw8497721794823489343 : True := trivial
theorem tw11862927689305589065 : True := trivial
theorem tw2625984366357065906 : True := trivial
theorem tw6562009823351158392 : True := trivial
theorem tw13988103294471073821 : True := trivial
theorem tw1917425121527220963 : True := trivial
theorem tw17768545326873755256 : True := trivial
theorem tw1276956409769668328 : True := trivial
theorem tw11998209505049934977 : True := trivial
theorem tw3688799982635324794 : True := trivial
theorem tw4947412792043415962 : True := trivial
theorem tw12043669396524033845 : True := trivial
theorem tw17464823870196871000 : True := trivial
theorem tw14744981736328886265 : True := trivial
theorem tw10748227973586771634 : True := trivial
theorem tw17440971256312935793 : True := trivial
theorem tw7705420606127192585 : True := trivial
theorem tw12666380852390969779 : True := trivial
theorem tw6307057079134178644 : True := trivial
theorem tw4273228799998304602 : True := trivial
theorem tw16917608666046251313 : True := trivial
theorem tw6910089277995645325 : True := trivial
theorem tw14882813523228863612 : True := trivial
theorem tw4543076655600059902 : True := trivial
theorem tw17972497016974392416 : True := trivial
theorem tw9089795715530709647 : True := trivial
theorem tw6857060684267632606 : True := trivial
theorem tw8610661140672950678 : True := trivial
theorem tw14078167904914714981 : True := trivial
theorem tw6153569298028143949 : True := trivial
theorem tw13180129090757240718 : True := trivial
theorem tw17522360388414511382 : True := trivial
theorem tw1061700454162486011 : True := trivial
theorem tw2241628862621589225 : True := trivial
theorem tw10521553517811329670 : True := trivial
theorem tw10110233660360586483 : True := trivial
theorem tw12799616582074740251 : True := trivial
theorem tw14149427978524627653 : True := trivial
theorem tw2393937325987436248 : True := trivial
theorem tw17212568112599259466 : True := trivial
theorem tw1937370526825066196 : True := trivial
theorem tw7046380642943354848 : True := trivial
theorem tw13397106695672350980 : True := trivial
theorem tw12024539317367501503 : True := trivial
theorem tw3514389088698752745 : True := trivial
theorem tw6587087628758450585 : True := trivial
theorem tw3500380475922496097 : True := trivial
theorem tw48543519692965452 : True := trivial
theorem tw3290047583113660281 : True := trivial
theorem tw999222835498014148 : True := trivial
theorem tw12147184966966947637 : True := trivial
theorem tw12428389735305899900 : True := trivial
theorem tw14235953900361662071 : True := trivial
theorem tw1858285994304674589 : True := trivial
theorem tw13137911371727378231 : True := trivial
theorem tw6526830475164118762 : True := trivial
theorem tw8372164355529847743 : True := trivial
theorem tw4932745802714450591 : True := trivial
theorem tw10005452208157733855 : True := trivial
theorem tw14943480678444902952 : True := trivial
theorem tw4387028780061031483 : True := trivial
theorem tw2350586252961548244 : True := trivial
theorem tw3185377453876500656 : True := trivial
theorem tw16278871845796110771 : True := trivial
theorem tw17197444120159719569 : True := trivial
theorem tw13246386896891170512 : True := trivial
theorem tw6426539377367359892 : True := trivial
theorem tw6751290297309308749 : True := trivial
theorem tw2201313380682377074 : True := trivial
theorem tw6053997905714604814 : True := trivial
theorem tw12775505166333009402 : True := trivial
theorem tw5638995163158488052 : True := trivial
theorem tw3160712208675142370 : True := trivial
theorem tw883913982201973750 : True := trivial
theorem tw16474958459275807246 : True := trivial
theorem tw13605870324054321959 : True := trivial
theorem tw13488047542759136002 : True := trivial
theorem tw7358512011923840914 : True := trivial
theorem tw1748456618969930982 : True := trivial
theorem tw1642545813376747948 : True := trivial
theorem tw5506250874072839755 : True := trivial
theorem tw10070411193226618655 : True := trivial
theorem tw4381510469713062047 : True := trivial
theorem tw578259024812056932 : True := trivial
theorem tw6930615606355531631 : True := trivial
theorem tw14877080517539528568 : True := trivial
theorem tw11060938730435951684 : True := trivial
theorem tw15840312062823119879 : True := trivial
theorem tw17821319399108415887 : True := trivial
theorem tw12704426703380559182 : True := trivial
theorem tw13954853420313727417 : True := trivial
theorem tw3164961170700492040 : True := trivial
theorem tw851385035628625539 : True := trivial
theorem tw4419558321834357505 : True := trivial
theorem tw4154363929692500862 : True := trivial
theorem tw5187041380464763778 : True := trivial
theorem tw4357005996527412928 : True := trivial
theorem tw7619743888987243280 : True := trivial
theorem tw8402328212356670530 : True := trivial
theorem tw6085824867444503733 : True := trivial
theorem tw5129340602016612638 : True := trivial
theorem tw17836260108008149386 : True := trivial
theorem tw16415787539773345739 : True := trivial
theorem tw7940748693946456147 : True := trivial
theorem tw13508044439285423174 : True := trivial
theorem tw1291722185910714397 : True := trivial
theorem tw8812732774380208333 : True := trivial
theorem tw2298694737197419510 : True := trivial
theorem tw7616930195647119758 : True := trivial
theorem tw12032222614953749359 : True := trivial
theorem tw16172288393029767808 : True := trivial
theorem tw2237326684586592538 : True := trivial
theorem tw9353324838224930552 : True := trivial
theorem tw17508272824862286709 : True := trivial
theorem tw3356082689604606797 : True := trivial
theorem tw14234965402570480558 : True := trivial
theorem tw262713603470380999 : True := trivial
theorem tw807299193193998342 : True := trivial
theorem tw11012669015891153702 : True := trivial
theorem tw1626232751844553403 : True := trivial
theorem tw14168692526580214153 : True := trivial
theorem tw17050696954950088759 : True := trivial
theorem tw7090939061502383884 : True := trivial
theorem tw6846597200999610202 : True := trivial
theorem tw6110071263904590700 : True := trivial
theorem tw14488727979953464203 : True := trivial
theorem tw13964876969822826673 : True := trivial
theorem tw8874674299285249911 : True := trivial
theorem tw4673441458371412756 : True := trivial
theorem tw14344768424176206936 : True := trivial
theorem tw11124748197601291601 : True := trivial
theorem tw3304075619188804072 : True := trivial
theorem tw2428695696106030784 : True := trivial
theorem tw8518231567759158271 : True := trivial
theorem tw4554283584077286953 : True := trivial
theorem tw9234455393454914656 : True := trivial
theorem tw2326617092838664518 : True := trivial
theorem tw10735254221757914791 : True := trivial
theorem tw14364637388885140079 : True := trivial
theorem tw1985537357303476512 : True := trivial
theorem tw86301839051661876 : True := trivial
theorem tw315434073420411817 : True := trivial
theorem tw792300799171563205 : True := trivial
theorem tw779419810087314491 : True := trivial
theorem tw733406405333840765 : True := trivial
theorem tw14909605222495392915 : True := trivial
theorem tw17243387458012846398 : True := trivial
theorem tw1919890906376249811 : True := trivial
theorem tw12205659690895024086 : True := trivial
theorem tw7309950759910210094 : True := trivial
theorem tw3928599903575798129 : True := trivial
theorem tw10987702880554017565 : True := trivial
theorem tw3821945547825155762 : True := trivial
theorem tw5479459121986351116 : True := trivial
theorem tw8414573866900348196 : True := trivial
theorem tw6791874446421159577 : True := trivial
theorem tw11988142204041823098 : True := trivial
theorem tw2764016085172604524 : True := trivial
theorem tw5797013207949663412 : True := trivial
theorem tw14083850284487924763 : True := trivial
theorem tw527386997569798941 : True := trivial
theorem tw14956371261235936329 : True := trivial
theorem tw10059252607514160932 : True := trivial
theorem tw5901594920499545818 : True := trivial
theorem tw10205530081349824492 : True := trivial
theorem tw12037728316022314418 : True := trivial
theorem tw15895748673760503845 : True := trivial
theorem tw5319049981483164881 : True := trivial
theorem tw3616486834168423931 : True := trivial
theorem tw10519217271611395807 : True := trivial
theorem tw18080951475816111786 : True := trivial
theorem tw10261356005730403935 : True := trivial
theorem tw14306030232151103276 : True := trivial
theorem tw15256841493749336786 : True := trivial
theorem tw10573961123116132518 : True := trivial
theorem tw2753283235347674219 : True := trivial
theorem tw18051680202136193954 : True := trivial
theorem tw12417293695627231756 : True := trivial
theorem tw3122906425038022637 : True := trivial
theorem tw11692735721529064706 : True := trivial
theorem tw15782939476341012554 : True := trivial
theorem tw16974685034882416825 : True := trivial
theorem tw2781723093108153277 : True := trivial
theorem tw4023466491090337370 : True := trivial
theorem tw1438866918597655640 : True := trivial
theorem tw1489404036187247834 : True := trivial
theorem tw13078646160514809887 : True := trivial
theorem tw9820158181544301314 : True := trivial
theorem tw12987040726578829979 : True := trivial
theorem tw11005904730967762025 : True := trivial
theorem tw6507506987150044280 : True := trivial
theorem tw12212823987433534256 : True := trivial
theorem tw6265338273532641288 : True := trivial
theorem tw5418945672586834282 : True := trivial
theorem tw1398043889541792783 : True := trivial
theorem tw10900948863051656163 : True := trivial
theorem tw7688317290187622652 : True := trivial
theorem tw15326552575505426906 : True := trivial
theorem tw14385403278947933607 : True := trivial
theorem tw13227620805987009915 : True := trivial
theorem tw4063747431996464497 : True := trivial
theorem tw11180365069992382532 : True := trivial
theorem tw17348764703882912863 : True := trivial
theorem tw6100774026682323163 : True := trivial
theorem tw12287978374625458572 : True := trivial
theorem tw7604411431414283762 : True := trivial
theorem tw4311042196063409733 : True := trivial
theorem tw3368030927266983236 : True := trivial
theorem tw14667470093908496907 : True := trivial
theorem tw17265401458761052179 : True := trivial
theorem tw17646911460466567920 : True := trivial
theorem tw7383176390310337668 : True := trivial
theorem tw6474009502463322548 : True := trivial
theorem tw3270352941656771521 : True := trivial
theorem tw13537664574400122534 : True := trivial
theorem tw9827913525700040407 : True := trivial
theorem tw16065720564569863766 : True := trivial
theorem tw17142359554024780413 : True := trivial
theorem tw3690969761935527329 : True := trivial
theorem tw15564447279633807951 : True := trivial
theorem tw1786199778172832133 : True := trivial
theorem tw4196546014268931301 : True := trivial
theorem tw5141578139466067413 : True := trivial
theorem tw13750642191701924398 : True := trivial
theorem tw5751227541892866231 : True := trivial
theorem tw10875119458065257276 : True := trivial
theorem tw16576625349610184965 : True := trivial
theorem tw1728724042893426364 : True := trivial
theorem tw5865467396996320769 : True := trivial
theorem tw12903917746401883607 : True := trivial
theorem tw3749026756887285471 : True := trivial
theorem tw16640130746408290383 : True := trivial
theorem tw9553506758532729402 : True := trivial
theorem tw2506711637615833298 : True := trivial
theorem tw140066278072042493 : True := trivial
theorem tw14982685227137828758 : True := trivial
theorem tw1687793838685487538 : True := trivial
theorem tw10736139440505347576 : True := trivial
theorem tw11925700103697007601 : True := trivial
theorem tw6304676298305806467 : True := trivial
theorem tw3088210815446039105 : True := trivial
theorem tw17854890406432584798 : True := trivial
theorem tw13687475568465949530 : True := trivial
theorem tw14158537116620707164 : True := trivial
theorem tw2681166955253090778 : True := trivial
theorem tw7096138990903361605 : True := trivial
theorem tw16874305072444578374 : True := trivial
theorem tw15253147559959296200 : True := trivial
theorem tw1489890880636618945 : True := trivial
theorem tw11923155195566972133 : True := trivial
theorem tw10865165270600546614 : True := trivial
theorem tw5081542570693909779 : True := trivial
theorem tw14969872817325187116 : True := trivial
theorem tw15676425527210111115 : True := trivial
theorem tw5274623360512300857 : True := trivial
theorem tw6379358179555706155 : True := trivial
theorem tw9997931420998421608 : True := trivial
theorem tw5140934472235413692 : True := trivial
theorem tw8773370040425892893 : True := trivial
theorem tw14969395210118534408 : True := trivial
theorem tw11857307637417881527 : True := trivial
theorem tw13917482298092908234 : True := trivial
theorem tw6298033893332097587 : True := trivial
theorem tw11305582741114486441 : True := trivial
theorem tw688546129504743627 : True := trivial
theorem tw4405531762615560363 : True := trivial
theorem tw3991279037241028524 : True := trivial
theorem tw12741294794224977040 : True := trivial
theorem tw11485113708198979986 : True := trivial
theorem tw300626226527484142 : True := trivial
theorem tw16652688526520581961 : True := trivial
theorem tw2728595385866086531 : True := trivial
theorem tw533756555076263647 : True := trivial
theorem tw6489421142724028100 : True := trivial
theorem tw12740806245664736207 : True := trivial
theorem tw12682429181067543257 : True := trivial
theorem tw9263182273769427461 : True := trivial
theorem tw9407594320385231609 : True := trivial
theorem tw9802980913210911633 : True := trivial
theorem tw7624658959004494543 : True := trivial
theorem tw10170068340998493759 : True := trivial
theorem tw466721876749952763 : True := trivial
theorem tw14432977821161478157 : True := trivial
theorem tw4976181008148175253 : True := trivial
theorem tw12398312691204496596 : True := trivial
theorem tw11484797826999851062 : True := trivial
theorem tw9601497413559074677 : True := trivial
theorem tw4764554697811233 : True := trivial
theorem tw11544532188706048022 : True := trivial
theorem tw2118377178292867602 : True := trivial
theorem tw7748693106545578708 : True := trivial
theorem tw10366927770000222440 : True := trivial
theorem tw18433677622606106133 : True := trivial
theorem tw5038994553942263901 : True := trivial
theorem tw10389290468125465742 : True := trivial
theorem tw6846866878297920324 : True := trivial
theorem tw4017301010375394790 : True := trivial
theorem tw3171451927456968151 : True := trivial
theorem tw12330954535739239725 : True := trivial
theorem tw9380374249521086144 : True := trivial
theorem tw12865059321931465230 : True := trivial
theorem tw3548660455928884018 : True := trivial
theorem tw3860651933079915558 : True := trivial
theorem tw9171846695823722306 : True := trivial
theorem tw10746725682022337571 : True := trivial
theorem tw3127049524044150859 : True := trivial
theorem tw6212921109956642855 : True := trivial
theorem tw3794523003379204399 : True := trivial
theorem tw4160124254940468481 : True := trivial
theorem tw13504307299585405616 : True := trivial
theorem tw7928285938522686346 : True := trivial
theorem tw18123143868385100064 : True := trivial
theorem tw10242447542790323104 : True := trivial
theorem tw1914692607248247194 : True := trivial
theorem tw9280153536138602973 : True := trivial
theorem tw13653928888864918839 : True := trivial
theorem tw7833285031277912329 : True := trivial
theorem tw17553620660974883448 : True := trivial
theorem tw6121141971511671821 : True := trivial
theorem tw17698105195316432488 : True := trivial
theorem tw5737951250597237232 : True := trivial
theorem tw15399148058966210843 : True := trivial
theorem tw12472887615940459650 : True := trivial
theorem tw6886495332568650786 : True := trivial
theorem tw14637134836413734856 : True := trivial
theorem tw1082313596108445148 : True := trivial
theorem tw2232109503444375002 : True := trivial
theorem tw1995287165650055613 : True := trivial
theorem tw10845400790151957771 : True := trivial
theorem tw8715499118904818895 : True := trivial
theorem tw10018764681926925449 : True := trivial
theorem tw1929634836878124385 : True := trivial
theorem tw13600378441667735501 : True := trivial
theorem tw9644850379433450445 : True := trivial
theorem tw15832300201269216667 : True := trivial
theorem tw4405734404675932169 : True := trivial
theorem tw6836605351468522007 : True := trivial
theorem tw11770459041652445329 : True := trivial
theorem tw5792407227767346561 : True := trivial
theorem tw7313386461004707312 : True := trivial
theorem tw17658000642845759554 : True := trivial
theorem tw4053978428183960486 : True := trivial
theorem tw14127983276867164173 : True := trivial
theorem tw12668424612319814730 : True := trivial
theorem tw9214367901419015226 : True := trivial
theorem tw3547811175951651099 : True := trivial
theorem tw5331137831679937033 : True := trivial
theorem tw11128210763323228888 : True := trivial
theorem tw2694075680205673411 : True := trivial
theorem tw14195316510222423288 : True := trivial
theorem tw14105317835057028065 : True := trivial
theorem tw8035625575855466936 : True := trivial
theorem tw6585138550035349233 : True := trivial
theorem tw8733578408476508925 : True := trivial
theorem tw1939405473400901271 : True := trivial
theorem tw13337238644230332656 : True := trivial
theorem tw13198292447841614426 : True := trivial
theorem tw3869590956505411354 : True := trivial
theorem tw5944575059761466720 : True := trivial
theorem tw10504981510240967646 : True := trivial
theorem tw17905491414393134947 : True := trivial
theorem tw14699528089545365996 : True := trivial
theorem tw14631705268626504575 : True := trivial
theorem tw6161856959107265637 : True := trivial
theorem tw2545145822199252752 : True := trivial
theorem tw4389056084150536348 : True := trivial
theorem tw10786079294511566085 : True := trivial
theorem tw17262968490309938674 : True := trivial
theorem tw7179252675378151715 : True := trivial
theorem tw1894759731626308040 : True := trivial
theorem tw17371765431496345816 : True := trivial
theorem tw11426403942048686318 : True := trivial
theorem tw5363715690607933 : True := trivial
theorem tw5346772772824661884 : True := trivial
theorem tw1966224132733831507 : True := trivial
theorem tw4972248218790579157 : True := trivial
theorem tw3223962053107752630 : True := trivial
theorem tw14759185912286986992 : True := trivial
theorem tw12573619785200380473 : True := trivial
theorem tw4709128311485490483 : True := trivial
theorem tw9074772780463953568 : True := trivial
theorem tw2343260813663018654 : True := trivial
theorem tw1522823579158628613 : True := trivial
theorem tw16441004959143088680 : True := trivial
theorem tw1971652810694446911 : True := trivial
theorem tw12858780395421280599 : True := trivial
theorem tw18364922244981856966 : True := trivial
theorem tw7404141018258913797 : True := trivial
theorem tw10872037306656784433 : True := trivial
theorem tw2355103038987944067 : True := trivial
theorem tw18014224886719972007 : True := trivial
theorem tw12275693417441809861 : True := trivial
theorem tw6518409114910312394 : True := trivial
theorem tw14969385696402013904 : True := trivial
theorem tw9777900189565919194 : True := trivial
theorem tw11308087075614649832 : True := trivial
theorem tw11097941207591946120 : True := trivial
theorem tw4377270945021899497 : True := trivial
theorem tw15468718075485040107 : True := trivial
theorem tw16800043278716471037 : True := trivial
theorem tw7732209734871044160 : True := trivial
theorem tw10840385229135970747 : True := trivial
theorem tw1718890006036334650 : True := trivial
theorem tw8264559056461403633 : True := trivial
theorem tw11052631288978436188 : True := trivial
theorem tw15845715064670954444 : True := trivial
theorem tw5844781237557850387 : True := trivial
theorem tw6207834228037699737 : True := trivial
theorem tw15841401105113185080 : True := trivial
theorem tw12875325457547866274 : True := trivial
theorem tw9515422150858430662 : True := trivial
theorem tw4389747894416019800 : True := trivial
theorem tw6226413525154113608 : True := trivial
theorem tw4945251732147069371 : True := trivial
theorem tw2857895335220236748 : True := trivial
theorem tw1992862871153497056 : True := trivial
theorem tw3364305129493290686 : True := trivial
theorem tw2441957057352720082 : True := trivial
theorem tw9368406320212774489 : True := trivial
theorem tw10668533816033670360 : True := trivial
theorem tw11893822550167381502 : True := trivial
theorem tw16695014060947850149 : True := trivial
theorem tw3547030090768783262 : True := trivial
theorem tw6763335052953634553 : True := trivial
theorem tw11569442021236766091 : True := trivial
theorem tw1425459126675767727 : True := trivial
theorem tw12908475990344208633 : True := trivial
theorem tw17173436117698932495 : True := trivial
theorem tw3665506230870052707 : True := trivial
theorem tw1319983325249436295 : True := trivial
theorem tw1389810093214676884 : True := trivial
theorem tw6891450509433485068 : True := trivial
theorem tw9717200733822644074 : True := trivial
theorem tw16647155751929229394 : True := trivial
theorem tw15253846138512369154 : True := trivial
theorem tw8534208459206503383 : True := trivial
theorem tw1499353310998574721 : True := trivial
theorem tw7596824489109172434 : True := trivial
theorem tw16128420640991077102 : True := trivial
theorem tw15781038721244158349 : True := trivial
theorem tw3340124654517525194 : True := trivial
theorem tw17002534310236347988 : True := trivial
theorem tw2591067827882107080 : True := trivial
theorem tw15013731859406167674 : True := trivial
theorem tw708152393587867187 : True := trivial
theorem tw8866670633112419022 : True := trivial
theorem tw17525636777796739105 : True := trivial
theorem tw3973953319845086491 : True := trivial
theorem tw15898109809663626304 : True := trivial
theorem tw16014373381606645092 : True := trivial
theorem tw6684978435548883818 : True := trivial
theorem tw13955511503576765797 : True := trivial
theorem tw17275705279478898512 : True := trivial
theorem tw4705100209077115173 : True := trivial
theorem tw11597336398036118778 : True := trivial
theorem tw10000582535759399553 : True := trivial
theorem tw9325123708862168440 : True := trivial
theorem tw12581593161143036515 : True := trivial
theorem tw15736342250582547807 : True := trivial
theorem tw16172356507618199906 : True := trivial
theorem tw7599496313472250701 : True := trivial
theorem tw8101760021730824546 : True := trivial
theorem tw8451055240067260542 : True := trivial
theorem tw5881713671565795756 : True := trivial
theorem tw15064752311394979489 : True := trivial
theorem tw13295774097974887486 : True := trivial
theorem tw6604829842348296887 : True := trivial
theorem tw6202090305015876224 : True := trivial
theorem tw9592777112578238593 : True := trivial
theorem tw14946772226789246504 : True := trivial
theorem tw6536181036136497285 : True := trivial
theorem tw7659462814917621580 : True := trivial
theorem tw5658499677264881363 : True := trivial
theorem tw7088768173681665845 : True := trivial
theorem tw9702098958229961203 : True := trivial
theorem tw5764021196749891206 : True := trivial
theorem tw497287684792784471 : True := trivial
theorem tw16769997242578385675 : True := trivial
theorem tw4009957668330374740 : True := trivial
theorem tw16782820856776367440 : True := trivial
theorem tw940147379719373870 : True := trivial
theorem tw10333954764705244698 : True := trivial
theorem tw11613311375368785083 : True := trivial
theorem tw15656768269340197940 : True := trivial
theorem tw17377423518514600169 : True := trivial
theorem tw8704771223992077307 : True := trivial
theorem tw13379354915994877463 : True := trivial
theorem tw17894702793023417833 : True := trivial
theorem tw12339793173418651155 : True := trivial
theorem tw8988664977312594650 : True := trivial
theorem tw16572314662081343053 : True := trivial
theorem tw3368474557548986910 : True := trivial
theorem tw17346037399652195860 : True := trivial
theorem tw6847273489543275152 : True := trivial
theorem tw3980653432952411973 : True := trivial
theorem tw11338825007792423415 : True := trivial
theorem tw4857777746444614323 : True := trivial
theorem tw2973143901146584636 : True := trivial
theorem tw8185714761375850791 : True := trivial
theorem tw15978427065635505109 : True := trivial
theorem tw18177665153149118353 : True := trivial
theorem tw17014734716931888790 : True := trivial
theorem tw4607607821588926596 : True := trivial
theorem tw12630350610049390935 : True := trivial
theorem tw17993767162375566018 : True := trivial
theorem tw9083612298779875492 : True := trivial
theorem tw8546719886708726068 : True := trivial
theorem tw18060483585939721653 : True := trivial
theorem tw14090159008775844135 : True := trivial
theorem tw930087139818521243 : True := trivial
theorem tw6174258528820157971 : True := trivial
theorem tw4885112425497105109 : True := trivial
theorem tw8796753266530204203 : True := trivial
theorem tw2437478716016495240 : True := trivial
theorem tw3333069708870698940 : True := trivial
theorem tw10317212456122042642 : True := trivial
theorem tw12851702773856589430 : True := trivial
theorem tw1062042127530464391 : True := trivial
theorem tw4318500180640689126 : True := trivial
theorem tw6602476347957198060 : True := trivial
theorem tw5906749814970224870 : True := trivial
theorem tw18419137052163196841 : True := trivial
theorem tw1528803642439863696 : True := trivial
theorem tw5467695095851852608 : True := trivial
theorem tw3547240966391284428 : True := trivial
theorem tw16579250180923337425 : True := trivial
theorem tw10431609616501453582 : True := trivial
theorem tw17093656651364094606 : True := trivial
theorem tw5788372791699333521 : True := trivial
theorem tw17007033763367706731 : True := trivial
theorem tw15148963937461231693 : True := trivial
theorem tw15582730294447300881 : True := trivial
theorem tw545888858418189544 : True := trivial
theorem tw14643959010103036307 : True := trivial
theorem tw3321875119742208626 : True := trivial
theorem tw6232644224018631296 : True := trivial
theorem tw7287109101882759415 : True := trivial
theorem tw16847831306532103052 : True := trivial
theorem tw10918805792032235851 : True := trivial
theorem tw14843749296085226474 : True := trivial
theorem tw14768688571040804171 : True := trivial
theorem tw14205479233844494046 : True := trivial
theorem tw6871339299614917876 : True := trivial
theorem tw8451290768687142514 : True := trivial
theorem tw2588942769649879372 : True := trivial
theorem tw2340069552987342377 : True := trivial
theorem tw2705560170217086799 : True := trivial
theorem tw12120646240234225243 : True := trivial
theorem tw7680146299302783591 : True := trivial
theorem tw1588943658860677225 : True := trivial
theorem tw6465002171639433639 : True := trivial
theorem tw17958272820484234708 : True := trivial
theorem tw8997269238129315039 : True := trivial
theorem tw8476099583838051002 : True := trivial
theorem tw7277520189549225825 : True := trivial
theorem tw13986843968525588388 : True := trivial
theorem tw7392004362435642628 : True := trivial
theorem tw10010264046613662565 : True := trivial
theorem tw17975491588444890076 : True := trivial
theorem tw12843953056113122906 : True := trivial
theorem tw10472834687351259785 : True := trivial
theorem tw16272097951300814418 : True := trivial
theorem tw10465891645366290692 : True := trivial
theorem tw13846591363081406657 : True := trivial
theorem tw10400636543074173776 : True := trivial
theorem tw8881269060482585022 : True := trivial
theorem tw8912104118211102971 : True := trivial
theorem tw5015311536963163689 : True := trivial
theorem tw11704837465938651953 : True := trivial
theorem tw8337448324364255386 : True := trivial
theorem tw17190349231170142043 : True := trivial
theorem tw13801937863458859944 : True := trivial
theorem tw203279951241792120 : True := trivial
theorem tw12949380547846470161 : True := trivial
theorem tw17362218986543327160 : True := trivial
theorem tw17411354535832351560 : True := trivial
theorem tw1315816938146588887 : True := trivial
theorem tw6737735255597943219 : True := trivial
theorem tw5987550445186205895 : True := trivial
theorem tw11434997419882176723 : True := trivial
theorem tw16031315777459398524 : True := trivial
theorem tw3103639331685909893 : True := trivial
theorem tw44622916816846810 : True := trivial
theorem tw2760189568479381244 : True := trivial
theorem tw12214093580764582487 : True := trivial
theorem tw1673358830478937286 : True := trivial
theorem tw4239589573987675453 : True := trivial
theorem tw5593727005144783397 : True := trivial
theorem tw8569104457590258164 : True := trivial
theorem tw9101448428047585222 : True := trivial
theorem tw2529948359932261575 : True := trivial
theorem tw1211024037004892549 : True := trivial
theorem tw14959218684248593190 : True := trivial
theorem tw9743709737119245314 : True := trivial
theorem tw14565420633037775528 : True := trivial
theorem tw7992697801930647134 : True := trivial
theorem tw7119846925741900413 : True := trivial
theorem tw16952181060025214987 : True := trivial
theorem tw15506723302920939300 : True := trivial
theorem tw18331334602107656470 : True := trivial
theorem tw5271886537152271918 : True := trivial
theorem tw8815353094830122866 : True := trivial
theorem tw5061997093462229610 : True := trivial
theorem tw90575161674971029 : True := trivial
theorem tw17015032458148788900 : True := trivial
theorem tw362159924006681238 : True := trivial
theorem tw2525317073905713282 : True := trivial
theorem tw1503407388533364548 : True := trivial
theorem tw13199516396595161752 : True := trivial
theorem tw6870361546347238192 : True := trivial
theorem tw4090201507572337743 : True := trivial
theorem tw3021114989795446570 : True := trivial
theorem tw16385634705727604063 : True := trivial
theorem tw3556061257289618393 : True := trivial
theorem tw11081218982966106116 : True := trivial
theorem tw13213268828098156179 : True := trivial
theorem tw13002585709282622103 : True := trivial
theorem tw14646466228836335164 : True := trivial
theorem tw820421773197932041 : True := trivial
theorem tw13478637309914159250 : True := trivial
theorem tw14149492867418468938 : True := trivial
theorem tw9495540839478616804 : True := trivial
theorem tw13585267454733459922 : True := trivial
theorem tw3405375401864073989 : True := trivial
theorem tw9103479521544129834 : True := trivial
theorem tw15967466079928408925 : True := trivial
theorem tw14139617269561922093 : True := trivial
theorem tw5380383263664398348 : True := trivial
theorem tw8409189969818401543 : True := trivial
theorem tw4163069186122357367 : True := trivial
theorem tw10371985647062452541 : True := trivial
theorem tw5487235932777146282 : True := trivial
theorem tw3496171461512900480 : True := trivial
theorem tw9658139154387788515 : True := trivial
theorem tw4228635320527893829 : True := trivial
theorem tw5080737588221150853 : True := trivial
theorem tw10105583180162433683 : True := trivial
theorem tw4407807290196491609 : True := trivial
theorem tw7846308304327970078 : True := trivial
theorem tw1524684057812940815 : True := trivial
theorem tw6544681653968885310 : True := trivial
theorem tw17238610979035211840 : True := trivial
theorem tw5612995960945425718 : True := trivial
theorem tw14615432700455777464 : True := trivial
theorem tw12764128322984676335 : True := trivial
theorem tw15510365090734361527 : True := trivial
theorem tw14417885227837004991 : True := trivial
end Mine.head
open Mine
set_option maxHeartbeats 8000000 in
theorem Mine.head : PySem.Challenge.rw_ok0153_01.Holds := by
  w_on; o_law; k_head; (case hw => w_witness2)
  intro w s₀ s₁ mg mb G Y fa o pm cd doc dV kV ho hd hcd hD hmg hg args vals as hpre hlay hrd hwl hlo
  have KX := kIn_of Y
  refine Ground.open G ?_
  intro T B D TE TW
  clear ho hd hcd hD
  wrow_args hpre hlay hrd hwl hlo
  refine enter_call ?_
  rename Well _ _ _ _ => w1
  rename ¬ _ < _ => hc
  rename List Int => ns
  rename IntsAre _ _ => hI
  have hfa : mg "law" = some (.ref 842) := mg_of KX T.g rfl
  have hmg' : mg "law" = some (.ref fa) := hmg
  rw [hfa] at hmg'
  obtain rfl : 842 = fa := by injection hmg' with q; injection q
  have w2 : Well w.params s₁.heap _ (.list (ofPys (ns.map PyData.int))) := w1
  cases w2 with
  | list h1 h2 =>
    refine law_called KX ?kf ?xf T.nolimit ⟨mg, mb, T.g, T.b, T.builtins⟩ ?kl h1 (wellAll_er h2) (by simp only [sizeLine]; omega) fun s' hk hos hgens => ?_
    case kf =>
      exact KFacts.of _ rfl (by kernel_rfl) rfl rfl rfl rfl rfl (fnFacts (by kernel_rfl) (by kernel_rfl) (by kernel_rfl))
    case xf =>
      refine ⟨rfl, ?_, ⟨_, _, _, _, _, _, _, _, _, _, _, _, _, rfl⟩, ⟨rfl, ⟨_, rfl, rfl, rfl⟩, rfl⟩, rfl, rfl⟩
      exact ⟨_, _, _, _, _, _, _, _, _, _, _, _, rfl, rfl, fun Vs h => by obtain ⟨a, b, rfl⟩ := len2 h; rfl⟩
    case kl => rfl
    refine GoodW.toG ⟨.inl ⟨_, _, [], rfl, raisesW_false (by wrow_none_raised), .bool true, postW_of (by wrow_shape) (by wtm_val) (by w_fin), fun _ => ⟨List.nodup_nil, nofun⟩⟩, hk, hos, hgens.trans hg⟩
set_option maxHeartbeats 8000000 in
theorem PySem.Challenge.cw_ok0153_01_holds : PySem.Challenge.rw_ok0153_01.Holds := by
  exact Mine.head
