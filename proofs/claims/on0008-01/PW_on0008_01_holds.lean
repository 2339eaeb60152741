import PyProof.Rows.All
import Wide.All
import OpenK.AllK
import Wide.FinOn
import Lean
import PySem.Challenge.RW_on0008_01
open PySem PySem.W PyProof.Rows
set_option Elab.async false
set_option maxRecDepth 100000
set_option maxHeartbeats 0
set_option linter.all false
set_option pp.deepTerms false
set_option pp.maxSteps 3000
set_option rowWalk.seconds 0
namespace Mine
section
local macro_rules | `(tactic| o_head $h) => `(tactic| skip)
theorem pre (f : False) : PySem.Challenge.rw_on0008_01.Holds := by
  w_on
  refine holds_law f.elim fun said => ?_
  k_head
  exact f.elim
end
end Mine
open PySem.Calls PySem.Spec
set_option maxHeartbeats 4000000
namespace Mine
local macro_rules | `(tactic| walk_at $s:str) => `(tactic| k_extra $s)
local macro_rules | `(tactic| k_all) => `(tactic| k_extra "k_all")
local macro_rules | `(tactic| k_inst) => `(tactic| k_extra "k_inst")
local macro_rules | `(tactic| k_mem) => `(tactic| k_extra "k_mem")
local macro_rules | `(tactic| k_ne) => `(tactic| k_extra "k_ne")
/-! ## Base -/
section
theorem words0_Base : True := by
  w_top off
  k_with_none
  trivial

/-- all of h stands in h', but for what lies at ms -/
noncomputable def Keep (ms : List Addr) (h h' : Heap) : Prop := ∀ a o, h.get? a = some o → a ∉ ms → h'.get? a = some o

theorem Keep.refl (ms : List Addr) (h : Heap) : Keep ms h h := fun _ _ e _ => e
theorem Keep.trans {ms : List Addr} {h h' h'' : Heap} (x : Keep ms h h') (y : Keep ms h' h'') : Keep ms h h'' := fun a o e n => y a o (x a o e n) n
theorem Keep.mono {ms ms' : List Addr} {h h' : Heap} (x : Keep ms h h') (i : ∀ a ∈ ms, a ∈ ms') : Keep ms' h h' := fun a o e n => x a o e fun m => n (i a m)

noncomputable abbrev ctr (dp un : Nat) (l : List Env) : Around := { handled := none, depth := dp, frames := some l, guards := some [], units := un }

/-- a contract: the call ends, changes ms alone, and what it hands back is so (at most D frames and U units deep) -/
noncomputable def Does (prog : Program) (w : World) (p : Program) (loose : List Str) (mean : ExcName → Option Value) (mg mb : Str → Option Value) (ms : List Addr) (D U : Nat) (s : Shared) (c : Code) (P : Value → Heap → Prop) : Prop :=
  ∀ (l : List Env) (A₀ : Around) (base : Heap), (pre.heap_1 w.params).In (hideAll s.heap ms) → Top p loose mean mg mb (hideAll s.heap ms) → Below A₀ base l (hideAll s.heap ms) →
    codeAny (model prog w) (ctr D U l) c (fun r s' => ∃ v h' tk, r = .ok (.ret v) ∧ s' = { s with heap := h', toks := tk } ∧ Keep ms s.heap h' ∧ s.heap.objs.size ≤ h'.objs.size ∧ P v h') s

theorem Does.mono {prog : Program} {w : World} {p : Program} {loose : List Str} {mean : ExcName → Option Value} {mg mb : Str → Option Value} {ms : List Addr} {D U : Nat} {s : Shared} {c : Code} {P P' : Value → Heap → Prop}
    (x : Does prog w p loose mean mg mb ms D U s c P) (i : ∀ v h', Keep ms s.heap h' → P v h' → P' v h') : Does prog w p loose mean mg mb ms D U s c P' :=
  fun l A₀ base X T B => codeAny_mono (x l A₀ base X T B) fun _ _ ⟨v, h', tk, e1, e2, k, z, q⟩ => ⟨v, h', tk, e1, e2, k, z, i v h' k q⟩

theorem below_ctr {D U dp un : Nat} {l : List Env} {Γ : PySem.Ctx} (h : Γ.Below (ctr dp un l)) (hd : dp ≤ D) (hu : un ≤ U) : Γ.Below (ctr D U l) :=
  ⟨h.1, Nat.le_trans h.2.1 hd, h.2.2.1, h.2.2.2.1, Nat.le_trans h.2.2.2.2 hu⟩
theorem codeAny_ctr {M : Model} {D U dp un : Nat} {l : List Env} {c : Code} {R : Result → Shared → Prop} {s : Shared} (h : codeAny M (ctr D U l) c R s) (hd : dp ≤ D) (hu : un ≤ U) : codeAny M (ctr dp un l) c R s :=
  fun Γ p hc hΓ => h Γ p hc (below_ctr hΓ hd hu)

/-- what is left at an end (a name, so that the walk leaves it) -/
noncomputable def Hold (q : Prop) : Prop := q

/-- the end of a walked body -/
noncomputable def EndM (s : Shared) (g : Heap) (P : Value → Heap → Prop) (v : Value) (s' : Shared) : Prop :=
  ∃ L' m' h' tk, s' = { s with heap := h', toks := tk } ∧ Fr g L' h' m' ∧ P v h'

/-- an end that the walk sees as one letter -/
noncomputable def EndR (R : Value → Shared → Prop) (v : Value) (s' : Shared) : Prop := R v s'
noncomputable def Ends (s : Shared) (g : Heap) (P : Value → Heap → Prop) (R : Value → Shared → Prop) : Prop := ∀ L' m' h' tk v, Fr g L' h' m' → Hold (P v h') → R v { s with heap := h', toks := tk }
theorem memAt {α : Type} {l : List α} {a : α} (i : Nat) (h : l[i]? = some a) : a ∈ l := List.mem_of_getElem? h
theorem inAt0 {α : Type} {a : α} {l : List α} : a ∈ a :: l := .head _
theorem inAt1 {α : Type} {x0 a : α} {l : List α} : a ∈ x0 :: a :: l := .tail _ (.head _)
theorem inAt2 {α : Type} {x0 x1 a : α} {l : List α} : a ∈ x0 :: x1 :: a :: l := .tail _ (.tail _ (.head _))
theorem inAt3 {α : Type} {x0 x1 x2 a : α} {l : List α} : a ∈ x0 :: x1 :: x2 :: a :: l := .tail _ (.tail _ (.tail _ (.head _)))
theorem inAt4 {α : Type} {x0 x1 x2 x3 a : α} {l : List α} : a ∈ x0 :: x1 :: x2 :: x3 :: a :: l := .tail _ (.tail _ (.tail _ (.tail _ (.head _))))
theorem inAt5 {α : Type} {x0 x1 x2 x3 x4 a : α} {l : List α} : a ∈ x0 :: x1 :: x2 :: x3 :: x4 :: a :: l := .tail _ (.tail _ (.tail _ (.tail _ (.tail _ (.head _)))))
theorem inAt6 {α : Type} {x0 x1 x2 x3 x4 x5 a : α} {l : List α} : a ∈ x0 :: x1 :: x2 :: x3 :: x4 :: x5 :: a :: l := .tail _ (.tail _ (.tail _ (.tail _ (.tail _ (.tail _ (.head _))))))
theorem inAt7 {α : Type} {x0 x1 x2 x3 x4 x5 x6 a : α} {l : List α} : a ∈ x0 :: x1 :: x2 :: x3 :: x4 :: x5 :: x6 :: a :: l := .tail _ (.tail _ (.tail _ (.tail _ (.tail _ (.tail _ (.tail _ (.head _)))))))
theorem inAt8 {α : Type} {x0 x1 x2 x3 x4 x5 x6 x7 a : α} {l : List α} : a ∈ x0 :: x1 :: x2 :: x3 :: x4 :: x5 :: x6 :: x7 :: a :: l := .tail _ (.tail _ (.tail _ (.tail _ (.tail _ (.tail _ (.tail _ (.tail _ (.head _))))))))
theorem inAt9 {α : Type} {x0 x1 x2 x3 x4 x5 x6 x7 x8 a : α} {l : List α} : a ∈ x0 :: x1 :: x2 :: x3 :: x4 :: x5 :: x6 :: x7 :: x8 :: a :: l := .tail _ (.tail _ (.tail _ (.tail _ (.tail _ (.tail _ (.tail _ (.tail _ (.tail _ (.head _)))))))))
theorem inAt10 {α : Type} {x0 x1 x2 x3 x4 x5 x6 x7 x8 x9 a : α} {l : List α} : a ∈ x0 :: x1 :: x2 :: x3 :: x4 :: x5 :: x6 :: x7 :: x8 :: x9 :: a :: l := .tail _ (.tail _ (.tail _ (.tail _ (.tail _ (.tail _ (.tail _ (.tail _ (.tail _ (.tail _ (.head _))))))))))
theorem inAt11 {α : Type} {x0 x1 x2 x3 x4 x5 x6 x7 x8 x9 x10 a : α} {l : List α} : a ∈ x0 :: x1 :: x2 :: x3 :: x4 :: x5 :: x6 :: x7 :: x8 :: x9 :: x10 :: a :: l := .tail _ (.tail _ (.tail _ (.tail _ (.tail _ (.tail _ (.tail _ (.tail _ (.tail _ (.tail _ (.tail _ (.head _)))))))))))
theorem inAt12 {α : Type} {x0 x1 x2 x3 x4 x5 x6 x7 x8 x9 x10 x11 a : α} {l : List α} : a ∈ x0 :: x1 :: x2 :: x3 :: x4 :: x5 :: x6 :: x7 :: x8 :: x9 :: x10 :: x11 :: a :: l := .tail _ (.tail _ (.tail _ (.tail _ (.tail _ (.tail _ (.tail _ (.tail _ (.tail _ (.tail _ (.tail _ (.tail _ (.head _))))))))))))
theorem inAt13 {α : Type} {x0 x1 x2 x3 x4 x5 x6 x7 x8 x9 x10 x11 x12 a : α} {l : List α} : a ∈ x0 :: x1 :: x2 :: x3 :: x4 :: x5 :: x6 :: x7 :: x8 :: x9 :: x10 :: x11 :: x12 :: a :: l := .tail _ (.tail _ (.tail _ (.tail _ (.tail _ (.tail _ (.tail _ (.tail _ (.tail _ (.tail _ (.tail _ (.tail _ (.tail _ (.head _)))))))))))))
theorem inAt14 {α : Type} {x0 x1 x2 x3 x4 x5 x6 x7 x8 x9 x10 x11 x12 x13 a : α} {l : List α} : a ∈ x0 :: x1 :: x2 :: x3 :: x4 :: x5 :: x6 :: x7 :: x8 :: x9 :: x10 :: x11 :: x12 :: x13 :: a :: l := .tail _ (.tail _ (.tail _ (.tail _ (.tail _ (.tail _ (.tail _ (.tail _ (.tail _ (.tail _ (.tail _ (.tail _ (.tail _ (.tail _ (.head _))))))))))))))
theorem inAt15 {α : Type} {x0 x1 x2 x3 x4 x5 x6 x7 x8 x9 x10 x11 x12 x13 x14 a : α} {l : List α} : a ∈ x0 :: x1 :: x2 :: x3 :: x4 :: x5 :: x6 :: x7 :: x8 :: x9 :: x10 :: x11 :: x12 :: x13 :: x14 :: a :: l := .tail _ (.tail _ (.tail _ (.tail _ (.tail _ (.tail _ (.tail _ (.tail _ (.tail _ (.tail _ (.tail _ (.tail _ (.tail _ (.tail _ (.tail _ (.head _)))))))))))))))
theorem inAt16 {α : Type} {x0 x1 x2 x3 x4 x5 x6 x7 x8 x9 x10 x11 x12 x13 x14 x15 a : α} {l : List α} : a ∈ x0 :: x1 :: x2 :: x3 :: x4 :: x5 :: x6 :: x7 :: x8 :: x9 :: x10 :: x11 :: x12 :: x13 :: x14 :: x15 :: a :: l := .tail _ (.tail _ (.tail _ (.tail _ (.tail _ (.tail _ (.tail _ (.tail _ (.tail _ (.tail _ (.tail _ (.tail _ (.tail _ (.tail _ (.tail _ (.tail _ (.head _))))))))))))))))
theorem inAt17 {α : Type} {x0 x1 x2 x3 x4 x5 x6 x7 x8 x9 x10 x11 x12 x13 x14 x15 x16 a : α} {l : List α} : a ∈ x0 :: x1 :: x2 :: x3 :: x4 :: x5 :: x6 :: x7 :: x8 :: x9 :: x10 :: x11 :: x12 :: x13 :: x14 :: x15 :: x16 :: a :: l := .tail _ (.tail _ (.tail _ (.tail _ (.tail _ (.tail _ (.tail _ (.tail _ (.tail _ (.tail _ (.tail _ (.tail _ (.tail _ (.tail _ (.tail _ (.tail _ (.tail _ (.head _)))))))))))))))))
theorem inAt18 {α : Type} {x0 x1 x2 x3 x4 x5 x6 x7 x8 x9 x10 x11 x12 x13 x14 x15 x16 x17 a : α} {l : List α} : a ∈ x0 :: x1 :: x2 :: x3 :: x4 :: x5 :: x6 :: x7 :: x8 :: x9 :: x10 :: x11 :: x12 :: x13 :: x14 :: x15 :: x16 :: x17 :: a :: l := .tail _ (.tail _ (.tail _ (.tail _ (.tail _ (.tail _ (.tail _ (.tail _ (.tail _ (.tail _ (.tail _ (.tail _ (.tail _ (.tail _ (.tail _ (.tail _ (.tail _ (.tail _ (.head _))))))))))))))))))
theorem inAt19 {α : Type} {x0 x1 x2 x3 x4 x5 x6 x7 x8 x9 x10 x11 x12 x13 x14 x15 x16 x17 x18 a : α} {l : List α} : a ∈ x0 :: x1 :: x2 :: x3 :: x4 :: x5 :: x6 :: x7 :: x8 :: x9 :: x10 :: x11 :: x12 :: x13 :: x14 :: x15 :: x16 :: x17 :: x18 :: a :: l := .tail _ (.tail _ (.tail _ (.tail _ (.tail _ (.tail _ (.tail _ (.tail _ (.tail _ (.tail _ (.tail _ (.tail _ (.tail _ (.tail _ (.tail _ (.tail _ (.tail _ (.tail _ (.tail _ (.head _)))))))))))))))))))
theorem inAt20 {α : Type} {x0 x1 x2 x3 x4 x5 x6 x7 x8 x9 x10 x11 x12 x13 x14 x15 x16 x17 x18 x19 a : α} {l : List α} : a ∈ x0 :: x1 :: x2 :: x3 :: x4 :: x5 :: x6 :: x7 :: x8 :: x9 :: x10 :: x11 :: x12 :: x13 :: x14 :: x15 :: x16 :: x17 :: x18 :: x19 :: a :: l := .tail _ (.tail _ (.tail _ (.tail _ (.tail _ (.tail _ (.tail _ (.tail _ (.tail _ (.tail _ (.tail _ (.tail _ (.tail _ (.tail _ (.tail _ (.tail _ (.tail _ (.tail _ (.tail _ (.tail _ (.head _))))))))))))))))))))
theorem inAt21 {α : Type} {x0 x1 x2 x3 x4 x5 x6 x7 x8 x9 x10 x11 x12 x13 x14 x15 x16 x17 x18 x19 x20 a : α} {l : List α} : a ∈ x0 :: x1 :: x2 :: x3 :: x4 :: x5 :: x6 :: x7 :: x8 :: x9 :: x10 :: x11 :: x12 :: x13 :: x14 :: x15 :: x16 :: x17 :: x18 :: x19 :: x20 :: a :: l := .tail _ (.tail _ (.tail _ (.tail _ (.tail _ (.tail _ (.tail _ (.tail _ (.tail _ (.tail _ (.tail _ (.tail _ (.tail _ (.tail _ (.tail _ (.tail _ (.tail _ (.tail _ (.tail _ (.tail _ (.tail _ (.head _)))))))))))))))))))))
theorem inAt22 {α : Type} {x0 x1 x2 x3 x4 x5 x6 x7 x8 x9 x10 x11 x12 x13 x14 x15 x16 x17 x18 x19 x20 x21 a : α} {l : List α} : a ∈ x0 :: x1 :: x2 :: x3 :: x4 :: x5 :: x6 :: x7 :: x8 :: x9 :: x10 :: x11 :: x12 :: x13 :: x14 :: x15 :: x16 :: x17 :: x18 :: x19 :: x20 :: x21 :: a :: l := .tail _ (.tail _ (.tail _ (.tail _ (.tail _ (.tail _ (.tail _ (.tail _ (.tail _ (.tail _ (.tail _ (.tail _ (.tail _ (.tail _ (.tail _ (.tail _ (.tail _ (.tail _ (.tail _ (.tail _ (.tail _ (.tail _ (.head _))))))))))))))))))))))
theorem inAt23 {α : Type} {x0 x1 x2 x3 x4 x5 x6 x7 x8 x9 x10 x11 x12 x13 x14 x15 x16 x17 x18 x19 x20 x21 x22 a : α} {l : List α} : a ∈ x0 :: x1 :: x2 :: x3 :: x4 :: x5 :: x6 :: x7 :: x8 :: x9 :: x10 :: x11 :: x12 :: x13 :: x14 :: x15 :: x16 :: x17 :: x18 :: x19 :: x20 :: x21 :: x22 :: a :: l := .tail _ (.tail _ (.tail _ (.tail _ (.tail _ (.tail _ (.tail _ (.tail _ (.tail _ (.tail _ (.tail _ (.tail _ (.tail _ (.tail _ (.tail _ (.tail _ (.tail _ (.tail _ (.tail _ (.tail _ (.tail _ (.tail _ (.tail _ (.head _)))))))))))))))))))))))
theorem exAt0 {α : Type} {ex : List α} : ∀ q ∈ ex, q ∈ ex := fun _ h => h
theorem exAt1 {α : Type} {x0 : α} {ex : List α} : ∀ q ∈ ex, q ∈ x0 :: ex := fun _ h => .tail _ h
theorem exAt2 {α : Type} {x0 x1 : α} {ex : List α} : ∀ q ∈ ex, q ∈ x0 :: x1 :: ex := fun _ h => .tail _ (.tail _ h)
theorem exAt3 {α : Type} {x0 x1 x2 : α} {ex : List α} : ∀ q ∈ ex, q ∈ x0 :: x1 :: x2 :: ex := fun _ h => .tail _ (.tail _ (.tail _ h))
theorem exAt4 {α : Type} {x0 x1 x2 x3 : α} {ex : List α} : ∀ q ∈ ex, q ∈ x0 :: x1 :: x2 :: x3 :: ex := fun _ h => .tail _ (.tail _ (.tail _ (.tail _ h)))
theorem exAt5 {α : Type} {x0 x1 x2 x3 x4 : α} {ex : List α} : ∀ q ∈ ex, q ∈ x0 :: x1 :: x2 :: x3 :: x4 :: ex := fun _ h => .tail _ (.tail _ (.tail _ (.tail _ (.tail _ h))))
theorem exAt6 {α : Type} {x0 x1 x2 x3 x4 x5 : α} {ex : List α} : ∀ q ∈ ex, q ∈ x0 :: x1 :: x2 :: x3 :: x4 :: x5 :: ex := fun _ h => .tail _ (.tail _ (.tail _ (.tail _ (.tail _ (.tail _ h)))))
theorem exAt7 {α : Type} {x0 x1 x2 x3 x4 x5 x6 : α} {ex : List α} : ∀ q ∈ ex, q ∈ x0 :: x1 :: x2 :: x3 :: x4 :: x5 :: x6 :: ex := fun _ h => .tail _ (.tail _ (.tail _ (.tail _ (.tail _ (.tail _ (.tail _ h))))))
theorem exAt8 {α : Type} {x0 x1 x2 x3 x4 x5 x6 x7 : α} {ex : List α} : ∀ q ∈ ex, q ∈ x0 :: x1 :: x2 :: x3 :: x4 :: x5 :: x6 :: x7 :: ex := fun _ h => .tail _ (.tail _ (.tail _ (.tail _ (.tail _ (.tail _ (.tail _ (.tail _ h)))))))
theorem exAt9 {α : Type} {x0 x1 x2 x3 x4 x5 x6 x7 x8 : α} {ex : List α} : ∀ q ∈ ex, q ∈ x0 :: x1 :: x2 :: x3 :: x4 :: x5 :: x6 :: x7 :: x8 :: ex := fun _ h => .tail _ (.tail _ (.tail _ (.tail _ (.tail _ (.tail _ (.tail _ (.tail _ (.tail _ h))))))))
theorem exAt10 {α : Type} {x0 x1 x2 x3 x4 x5 x6 x7 x8 x9 : α} {ex : List α} : ∀ q ∈ ex, q ∈ x0 :: x1 :: x2 :: x3 :: x4 :: x5 :: x6 :: x7 :: x8 :: x9 :: ex := fun _ h => .tail _ (.tail _ (.tail _ (.tail _ (.tail _ (.tail _ (.tail _ (.tail _ (.tail _ (.tail _ h)))))))))
theorem exAt11 {α : Type} {x0 x1 x2 x3 x4 x5 x6 x7 x8 x9 x10 : α} {ex : List α} : ∀ q ∈ ex, q ∈ x0 :: x1 :: x2 :: x3 :: x4 :: x5 :: x6 :: x7 :: x8 :: x9 :: x10 :: ex := fun _ h => .tail _ (.tail _ (.tail _ (.tail _ (.tail _ (.tail _ (.tail _ (.tail _ (.tail _ (.tail _ (.tail _ h))))))))))
theorem exAt12 {α : Type} {x0 x1 x2 x3 x4 x5 x6 x7 x8 x9 x10 x11 : α} {ex : List α} : ∀ q ∈ ex, q ∈ x0 :: x1 :: x2 :: x3 :: x4 :: x5 :: x6 :: x7 :: x8 :: x9 :: x10 :: x11 :: ex := fun _ h => .tail _ (.tail _ (.tail _ (.tail _ (.tail _ (.tail _ (.tail _ (.tail _ (.tail _ (.tail _ (.tail _ (.tail _ h)))))))))))
theorem exAt13 {α : Type} {x0 x1 x2 x3 x4 x5 x6 x7 x8 x9 x10 x11 x12 : α} {ex : List α} : ∀ q ∈ ex, q ∈ x0 :: x1 :: x2 :: x3 :: x4 :: x5 :: x6 :: x7 :: x8 :: x9 :: x10 :: x11 :: x12 :: ex := fun _ h => .tail _ (.tail _ (.tail _ (.tail _ (.tail _ (.tail _ (.tail _ (.tail _ (.tail _ (.tail _ (.tail _ (.tail _ (.tail _ h))))))))))))
theorem exAt14 {α : Type} {x0 x1 x2 x3 x4 x5 x6 x7 x8 x9 x10 x11 x12 x13 : α} {ex : List α} : ∀ q ∈ ex, q ∈ x0 :: x1 :: x2 :: x3 :: x4 :: x5 :: x6 :: x7 :: x8 :: x9 :: x10 :: x11 :: x12 :: x13 :: ex := fun _ h => .tail _ (.tail _ (.tail _ (.tail _ (.tail _ (.tail _ (.tail _ (.tail _ (.tail _ (.tail _ (.tail _ (.tail _ (.tail _ (.tail _ h)))))))))))))
theorem exAt15 {α : Type} {x0 x1 x2 x3 x4 x5 x6 x7 x8 x9 x10 x11 x12 x13 x14 : α} {ex : List α} : ∀ q ∈ ex, q ∈ x0 :: x1 :: x2 :: x3 :: x4 :: x5 :: x6 :: x7 :: x8 :: x9 :: x10 :: x11 :: x12 :: x13 :: x14 :: ex := fun _ h => .tail _ (.tail _ (.tail _ (.tail _ (.tail _ (.tail _ (.tail _ (.tail _ (.tail _ (.tail _ (.tail _ (.tail _ (.tail _ (.tail _ (.tail _ h))))))))))))))
theorem exAt16 {α : Type} {x0 x1 x2 x3 x4 x5 x6 x7 x8 x9 x10 x11 x12 x13 x14 x15 : α} {ex : List α} : ∀ q ∈ ex, q ∈ x0 :: x1 :: x2 :: x3 :: x4 :: x5 :: x6 :: x7 :: x8 :: x9 :: x10 :: x11 :: x12 :: x13 :: x14 :: x15 :: ex := fun _ h => .tail _ (.tail _ (.tail _ (.tail _ (.tail _ (.tail _ (.tail _ (.tail _ (.tail _ (.tail _ (.tail _ (.tail _ (.tail _ (.tail _ (.tail _ (.tail _ h)))))))))))))))
theorem exAt17 {α : Type} {x0 x1 x2 x3 x4 x5 x6 x7 x8 x9 x10 x11 x12 x13 x14 x15 x16 : α} {ex : List α} : ∀ q ∈ ex, q ∈ x0 :: x1 :: x2 :: x3 :: x4 :: x5 :: x6 :: x7 :: x8 :: x9 :: x10 :: x11 :: x12 :: x13 :: x14 :: x15 :: x16 :: ex := fun _ h => .tail _ (.tail _ (.tail _ (.tail _ (.tail _ (.tail _ (.tail _ (.tail _ (.tail _ (.tail _ (.tail _ (.tail _ (.tail _ (.tail _ (.tail _ (.tail _ (.tail _ h))))))))))))))))
theorem exAt18 {α : Type} {x0 x1 x2 x3 x4 x5 x6 x7 x8 x9 x10 x11 x12 x13 x14 x15 x16 x17 : α} {ex : List α} : ∀ q ∈ ex, q ∈ x0 :: x1 :: x2 :: x3 :: x4 :: x5 :: x6 :: x7 :: x8 :: x9 :: x10 :: x11 :: x12 :: x13 :: x14 :: x15 :: x16 :: x17 :: ex := fun _ h => .tail _ (.tail _ (.tail _ (.tail _ (.tail _ (.tail _ (.tail _ (.tail _ (.tail _ (.tail _ (.tail _ (.tail _ (.tail _ (.tail _ (.tail _ (.tail _ (.tail _ (.tail _ h)))))))))))))))))
theorem exAt19 {α : Type} {x0 x1 x2 x3 x4 x5 x6 x7 x8 x9 x10 x11 x12 x13 x14 x15 x16 x17 x18 : α} {ex : List α} : ∀ q ∈ ex, q ∈ x0 :: x1 :: x2 :: x3 :: x4 :: x5 :: x6 :: x7 :: x8 :: x9 :: x10 :: x11 :: x12 :: x13 :: x14 :: x15 :: x16 :: x17 :: x18 :: ex := fun _ h => .tail _ (.tail _ (.tail _ (.tail _ (.tail _ (.tail _ (.tail _ (.tail _ (.tail _ (.tail _ (.tail _ (.tail _ (.tail _ (.tail _ (.tail _ (.tail _ (.tail _ (.tail _ (.tail _ h))))))))))))))))))
theorem exAt20 {α : Type} {x0 x1 x2 x3 x4 x5 x6 x7 x8 x9 x10 x11 x12 x13 x14 x15 x16 x17 x18 x19 : α} {ex : List α} : ∀ q ∈ ex, q ∈ x0 :: x1 :: x2 :: x3 :: x4 :: x5 :: x6 :: x7 :: x8 :: x9 :: x10 :: x11 :: x12 :: x13 :: x14 :: x15 :: x16 :: x17 :: x18 :: x19 :: ex := fun _ h => .tail _ (.tail _ (.tail _ (.tail _ (.tail _ (.tail _ (.tail _ (.tail _ (.tail _ (.tail _ (.tail _ (.tail _ (.tail _ (.tail _ (.tail _ (.tail _ (.tail _ (.tail _ (.tail _ (.tail _ h)))))))))))))))))))
theorem exAt21 {α : Type} {x0 x1 x2 x3 x4 x5 x6 x7 x8 x9 x10 x11 x12 x13 x14 x15 x16 x17 x18 x19 x20 : α} {ex : List α} : ∀ q ∈ ex, q ∈ x0 :: x1 :: x2 :: x3 :: x4 :: x5 :: x6 :: x7 :: x8 :: x9 :: x10 :: x11 :: x12 :: x13 :: x14 :: x15 :: x16 :: x17 :: x18 :: x19 :: x20 :: ex := fun _ h => .tail _ (.tail _ (.tail _ (.tail _ (.tail _ (.tail _ (.tail _ (.tail _ (.tail _ (.tail _ (.tail _ (.tail _ (.tail _ (.tail _ (.tail _ (.tail _ (.tail _ (.tail _ (.tail _ (.tail _ (.tail _ h))))))))))))))))))))
theorem exAt22 {α : Type} {x0 x1 x2 x3 x4 x5 x6 x7 x8 x9 x10 x11 x12 x13 x14 x15 x16 x17 x18 x19 x20 x21 : α} {ex : List α} : ∀ q ∈ ex, q ∈ x0 :: x1 :: x2 :: x3 :: x4 :: x5 :: x6 :: x7 :: x8 :: x9 :: x10 :: x11 :: x12 :: x13 :: x14 :: x15 :: x16 :: x17 :: x18 :: x19 :: x20 :: x21 :: ex := fun _ h => .tail _ (.tail _ (.tail _ (.tail _ (.tail _ (.tail _ (.tail _ (.tail _ (.tail _ (.tail _ (.tail _ (.tail _ (.tail _ (.tail _ (.tail _ (.tail _ (.tail _ (.tail _ (.tail _ (.tail _ (.tail _ (.tail _ h)))))))))))))))))))))
theorem exAt23 {α : Type} {x0 x1 x2 x3 x4 x5 x6 x7 x8 x9 x10 x11 x12 x13 x14 x15 x16 x17 x18 x19 x20 x21 x22 : α} {ex : List α} : ∀ q ∈ ex, q ∈ x0 :: x1 :: x2 :: x3 :: x4 :: x5 :: x6 :: x7 :: x8 :: x9 :: x10 :: x11 :: x12 :: x13 :: x14 :: x15 :: x16 :: x17 :: x18 :: x19 :: x20 :: x21 :: x22 :: ex := fun _ h => .tail _ (.tail _ (.tail _ (.tail _ (.tail _ (.tail _ (.tail _ (.tail _ (.tail _ (.tail _ (.tail _ (.tail _ (.tail _ (.tail _ (.tail _ (.tail _ (.tail _ (.tail _ (.tail _ (.tail _ (.tail _ (.tail _ (.tail _ h))))))))))))))))))))))
theorem exDrop {α : Type} {l ex : List α} (k : Nat) (h : l.drop k = ex) : ∀ q ∈ ex, q ∈ l := fun _ hq => List.mem_of_mem_drop (h ▸ hq)
theorem neSym {a b : Nat} (h : b ≠ a) : a ≠ b := h.symm
theorem neLt {a b : Nat} (h : a < b) : a ≠ b := Nat.ne_of_lt h
theorem neGt {a b : Nat} (h : b < a) : a ≠ b := Nat.ne_of_gt h
/-- all of these lie below -/
noncomputable def LtAll (d : Nat) (l : List Nat) : Prop := ∀ a ∈ l, a < d
theorem ltAll_of {d : Addr} {l : List (Addr × Obj)} (h : ∀ p ∈ l, p.1 < d) : LtAll d (l.map (·.1)) := fun _ ha => by
  obtain ⟨p, hp, rfl⟩ := List.mem_map.mp ha
  exact h p hp
theorem ltGt {d a : Nat} {l : List Nat} (h : LtAll d l) (m : a ∈ l) : d ≠ a := Nat.ne_of_gt (h a m)
theorem ltLt {d a : Nat} {l : List Nat} (h : LtAll d l) (m : a ∈ l) : a ≠ d := Nat.ne_of_lt (h a m)
theorem ltTr {x d a : Nat} {l : List Nat} (g : d < x) (h : LtAll d l) (m : a ∈ l) : x ≠ a := Nat.ne_of_gt (Nat.lt_trans (h a m) g)
theorem ltTr' {x d a : Nat} {l : List Nat} (g : d < x) (h : LtAll d l) (m : a ∈ l) : a ≠ x := Nat.ne_of_lt (Nat.lt_trans (h a m) g)
theorem ltU1 {d a : Nat} {l : List Nat} (h : LtAll d l) (m : a ∈ l) : a ≠ d + 1 := by have := h a m; omega
theorem ltU2 {d a : Nat} {l : List Nat} (h : LtAll d l) (m : a ∈ l) : a ≠ d + 1 + 1 := by have := h a m; omega
theorem ltU3 {d a : Nat} {l : List Nat} (h : LtAll d l) (m : a ∈ l) : a ≠ d + 1 + 1 + 1 := by have := h a m; omega
theorem ltV1 {d a : Nat} {l : List Nat} (h : LtAll d l) (m : a ∈ l) : d + 1 ≠ a := by have := h a m; omega
theorem ltV2 {d a : Nat} {l : List Nat} (h : LtAll d l) (m : a ∈ l) : d + 1 + 1 ≠ a := by have := h a m; omega
theorem ltV3 {d a : Nat} {l : List Nat} (h : LtAll d l) (m : a ∈ l) : d + 1 + 1 + 1 ≠ a := by have := h a m; omega
theorem ne12 {d : Nat} : d + 1 ≠ d + 1 + 1 := by omega
theorem ne13 {d : Nat} : d + 1 ≠ d + 1 + 1 + 1 := by omega
theorem ne23 {d : Nat} : d + 1 + 1 ≠ d + 1 + 1 + 1 := by omega
theorem ne21 {d : Nat} : d + 1 + 1 ≠ d + 1 := by omega
theorem ne31 {d : Nat} : d + 1 + 1 + 1 ≠ d + 1 := by omega
theorem ne32 {d : Nat} : d + 1 + 1 + 1 ≠ d + 1 + 1 := by omega
/-- the goal as one letter, while a fact is taken apart -/
theorem cutV {α : Type} {G : α → Prop} {v : α} (h : ∀ C : α → Prop, (∀ x, G x → C x) → C v) : G v := h G fun _ => id
theorem cutC {G : Prop} (h : ∀ C : Prop, (G → C) → C) : G := h G id
theorem fmc {α : Type} {p : α → Prop} {a : α} {l : List α} (h : p a) (r : ∀ x ∈ l, p x) : ∀ x ∈ a :: l, p x := List.forall_mem_cons.mpr ⟨h, r⟩

section
variable {prog : Program} {w : World} {p : Program} {loose : List Str} {mean : ExcName → Option Value} {mg mb : Str → Option Value} {ms : List Addr} {D U : Nat} {s : Shared} {P : Value → Heap → Prop}

theorem endR {R : Value → Shared → Prop} {g h' : Heap} {L' tk : Nat} {m' : Str → Option Value} {v : Value} (H : Ends s g P R) (F : Fr g L' h' m') (h : Hold (P v h')) : EndR R v { s with heap := h', toks := tk } := H _ _ _ _ _ F h
theorem ends {g : Heap} : Ends s g P (EndM s g P) := fun L' m' _ tk _ F h => ⟨L', m', _, tk, rfl, F, h⟩
theorem endM {g h' : Heap} {L' tk : Nat} {m' : Str → Option Value} {v : Value} (F : Fr g L' h' m') (h : Hold (P v h')) : EndM s g P v { s with heap := h', toks := tk } := ⟨L', m', h', tk, rfl, F, h⟩

theorem enterM {news : List (Addr × Obj)} {name qual : Str} {params : Arguments} {body : List Stmt} {scope : Scope} {dV kV doc pm cdv ct oc : Value} {an od : Option Addr} {osl : Array (Option Value)} {f : Addr} {args : Args} {binds : List (Str × Value)}
    (hm : news.map (·.1) = ms) (N : ∀ q ∈ news, s.heap.get? q.1 = some q.2)
    (ho : (pre.heap_1 w.params).lookup f = some ⟨oc, od, .func (fnOf name qual params body scope dV kV doc pm an cdv ct), osl⟩) (hcd : codeIn (pre.heap_1 w.params) cdv qual = true)
    (hro : D < recursionLimit)
    (hbind : BindsTo s (fnOf name qual params body scope dV kV doc pm an cdv ct) args binds) (hloc : ∀ y ∈ binds, scope.names.lookup y.1 = some .local)
    (h : ∀ (l : List Env) (A₀ : Around) (base g : Heap) (L' : Addr) (h₁ : Heap), Keep ms s.heap g → g.objs.size = s.heap.objs.size →
      Fr g L' h₁ (fun y => binds.reverse.lookup y) → News g L' h₁ news → (∀ q ∈ news, q.1 < L') → Below A₀ base l g → (pre.heap_1 w.params).In g → Top p loose mean mg mb g →
      ∀ R : Value → Shared → Prop, Ends s g P R → wpAny (model prog w) ((ctr D U l).deeper (envOf qual scope L' f cdv)) (execs body (envOf qual scope L' f cdv))
        (fun fl s' => EndR R (match fl with | .ret v => v | _ => .none) s')
        (fun _ _ => False)
        { s with heap := h₁, toks := s.toks + binds.length })
    (hco : scope.isCoroutine = false := by rfl) (hgen : scope.isGenerator = false := by rfl) (hk : scope.kind = .function := by rfl)
    (hcell : ∀ x ∈ scope.names, x.2 ≠ .cell := by decide) : Does prog w p loose mean mg mb ms D U s (.call (.ref f) args) P := by
  intro l A₀ base X T B
  have st : ∀ b o, (hideAll s.heap ms).get? b = some o → s.heap.get? b = some o := fun b o e => of_hideAll _ e
  refine codeAny_call_def (fd := fnOf name qual params body scope dV kV doc pm an cdv ct) (body := body) (binds := binds) hro (st _ _ (X _ _ ho)) rfl (T.nolimit.keeps st) (codeRec_of (X.keeps st) hcd) rfl hbind hcell hloc (fun h₁ hns hk₁ => ?_) hco hgen hk
  have K1 : Keep ms s.heap (hideAll s.heap ms) := fun a o e n => hideAll_get _ e n
  have F : Fr (hideAll s.heap ms) s.heap.objs.size h₁ (fun y => binds.reverse.lookup y) := ⟨hns, fun b o e => hk₁ b o (st b o e), Nat.le_of_eq (hideAll_size _ _)⟩
  have N' : News (hideAll s.heap ms) s.heap.objs.size h₁ news := fun q hq => ⟨hk₁ _ _ (N q hq), Nat.ne_of_lt (Heap.lt_size (N q hq)), hideAll_none _ (hm ▸ List.mem_map_of_mem hq)⟩
  refine wpAny_mono (h l A₀ base (hideAll s.heap ms) s.heap.objs.size h₁ K1 (hideAll_size _ _) F N' (fun q hq => Heap.lt_size (N q hq)) B X T _ ends) (fun fl s' hl => ?_) fun _ _ y => y.elim
  refine cutC fun C_ kC_ => ?_
  obtain ⟨L'', m', h', tk, rfl, F', hp⟩ := hl
  refine kC_ ?_
  clear kC_ C_
  refine ⟨_, h', tk, rfl, rfl, fun a o e n => F'.keep _ _ (K1 a o e n), ?_, hp⟩
  refine cutC fun C_ kC_ => ?_
  obtain ⟨oL, _, _, hL, _⟩ := F'.ns
  refine kC_ ?_
  clear kC_ C_
  have h1 := F'.above
  rw [hideAll_size] at h1
  exact Nat.le_of_lt (Nat.lt_of_le_of_lt h1 (Heap.lt_size hL))

theorem enterMC {news : List (Addr × Obj)} {name qual : Str} {params : Arguments} {body : List Stmt} {scope : Scope} {dV kV doc pm cdv ct oc : Value} {an od : Option Addr} {osl : Array (Option Value)} {f : Addr} {args : Args} {binds : List (Str × Value)}
    (hm : news.map (·.1) = ms) (N : ∀ q ∈ news, s.heap.get? q.1 = some q.2)
    (ho : (pre.heap_1 w.params).lookup f = some ⟨oc, od, .func (fnOf name qual params body scope dV kV doc pm an cdv ct), osl⟩) (hcd : codeIn (pre.heap_1 w.params) cdv qual = true)
    (hro : D < recursionLimit)
    (hbind : BindsTo s (fnOf name qual params body scope dV kV doc pm an cdv ct) args binds) (hl : (binds.all fun y => scope.names.lookup y.1 == some .local || scope.names.lookup y.1 == some .cell) = true)
    (hnd : ((cellsFrom 0 scope.names []).map (·.1)).Nodup)
    (h : ∀ (l : List Env) (A₀ : Around) (base g : Heap) (L' : Addr) (h₁ : Heap) (tk : Nat) (cells : List (Addr × Obj)), Keep ms s.heap g → g.objs.size = s.heap.objs.size →
      Fr g L' h₁ (bindL (envOfC qual scope L' f cdv).kindOf binds fun _ => none) → News g L' h₁ (cells ++ news) → CellsAre (bindC (envOfC qual scope L' f cdv).kindOf binds fun _ => none) (cellsFrom (L' + 1) scope.names []) cells →
      (∀ q ∈ news, q.1 < L') → Below A₀ base l g → (pre.heap_1 w.params).In g → Top p loose mean mg mb g →
      ∀ R : Value → Shared → Prop, Ends s g P R → wpAny (model prog w) ((ctr D U l).deeper (envOfC qual scope L' f cdv)) (execs body (envOfC qual scope L' f cdv))
        (fun fl s' => EndR R (match fl with | .ret v => v | _ => .none) s')
        (fun _ _ => False)
        { s with heap := h₁, toks := tk })
    (hco : scope.isCoroutine = false := by rfl) (hgen : scope.isGenerator = false := by rfl) (hk : scope.kind = .function := by rfl) : Does prog w p loose mean mg mb ms D U s (.call (.ref f) args) P := by
  intro l A₀ base X T B
  have st : ∀ b o, (hideAll s.heap ms).get? b = some o → s.heap.get? b = some o := fun b o e => of_hideAll _ e
  refine codeAny_call_function hro (st _ _ (X _ _ ho)) rfl hco hgen rfl (codeRec_of (X.keeps st) hcd) (hbind _ _ _ _ ?_)
  refine wpAny_newFunctionEnv_cells hk (kindsX hl _) fun env' he s' x => ?_
  subst he
  refine ⟨(T.nolimit.keeps st).keeps x.toInCall.keep, codeAny_func ?_⟩
  obtain ⟨h₁, tk, rfl, _⟩ := x.done
  have hk₁ := x.toInCall.keep
  obtain ⟨cells, NC, Y⟩ := Cl.news (h₀ := s.heap) (Nat.le_refl _) fun n c hm => ⟨x.cell n c (lookup_of_mem_nodup (cellsFrom_names scope.names 0 (s.heap.objs.size + 1) [] [] rfl ▸ hnd) hm), x.above n c hm⟩
  have K1 : Keep ms s.heap (hideAll s.heap ms) := fun a o e n => hideAll_get _ e n
  refine wpAny_mono (h l A₀ base (hideAll s.heap ms) s.heap.objs.size h₁ tk cells K1 (hideAll_size _ _) ⟨x.toInCall.ns, fun b o e => hk₁ b o (of_hideAll _ e), Nat.le_of_eq (hideAll_size _ _)⟩ (fun q hq => ?_) Y (fun q hq => Heap.lt_size (N q hq)) B X T _ ends) (fun fl s' hl => ?_) fun _ _ y => y.elim
  · rcases List.mem_append.mp hq with hq | hq
    · refine ⟨(NC q hq).1, (NC q hq).2.1, ?_⟩
      cases e : (hideAll s.heap ms).get? q.1 with
      | none => rfl
      | some o => have := of_hideAll _ e; rw [(NC q hq).2.2] at this; cases this
    · exact ⟨hk₁ _ _ (N q hq), Nat.ne_of_lt (Heap.lt_size (N q hq)), hideAll_none _ (hm ▸ List.mem_map_of_mem hq)⟩
  · refine cutC fun C_ kC_ => ?_
    obtain ⟨L'', m', h', tk, rfl, F', hp⟩ := hl
    refine kC_ ?_
    clear kC_ C_
    refine ⟨_, h', tk, rfl, rfl, fun a o e n => F'.keep _ _ (K1 a o e n), ?_, hp⟩
    refine cutC fun C_ kC_ => ?_
    obtain ⟨oL, _, _, hL, _⟩ := F'.ns
    refine kC_ ?_
    clear kC_ C_
    have h1 := F'.above
    rw [hideAll_size] at h1
    exact Nat.le_of_lt (Nat.lt_of_le_of_lt h1 (Heap.lt_size hL))

/-- a contract at a call in a walk -/
theorem useM {A₀ : Around} {base h₀ : Heap} {outer : List Env} {L : Addr} {m : Str → Option Value} {cn : Str} {cs : Scope} {a : Addr} {ccd : Value} {cl : List (Str × Addr)} {dp un : Nat} {f : Value} {pos : List Value} {Q E : Value → Shared → Prop} (sub : List (Addr × Obj))
    {news : List (Addr × Obj)}
    (B : Below A₀ base outer h₀) (F : Fr h₀ L s.heap m) (X : (pre.heap_1 w.params).In h₀) (N : News h₀ L s.heap news) (T : Top p loose mean mg mb h₀) (hk : cs.kind = .function) (hs : ∀ q ∈ sub, q ∈ news) (C : Does prog w p loose mean mg mb (sub.map (·.1)) D U s (.call f ⟨pos, []⟩) P)
    (hd : dp ≤ D) (hu : un ≤ U)
    (ret : ∀ v h' tk, Fr h₀ L h' m → Keep (sub.map (·.1)) s.heap h' → s.heap.objs.size ≤ h'.objs.size → P v h' → Q v { s with heap := h', toks := tk }) :
    wpAny (model prog w) (ctr dp un (envX cn cs L a ccd cl :: outer)) (call f pos) Q E s := by
  have Ns : News h₀ L s.heap sub := fun q hq => N q (hs q hq)
  obtain ⟨FG, BG, st, -⟩ := groundX (A := ctr dp un (envX cn cs L a ccd cl :: outer)) (env := envX cn cs L a ccd cl) (R := fun _ _ => True) B F Ns rfl rfl hk
  refine wpAny_call (codeAny_mono (codeAny_ctr (C _ _ base (X.keeps st) (T.keeps st) BG) hd hu) fun r s' q_ => ?_)
  obtain ⟨v, h', tk, e1, e2, kp, z, q⟩ := q_
  subst e1 e2
  refine ret v h' tk ⟨?_, fun b o e => ?_, F.above⟩ kp z q
  · refine cutC fun C_ kC_ => ?_
    obtain ⟨oL, es, ep, hL, hLd, hLk, hLf⟩ := F.ns
    refine kC_ ?_
    clear kC_ C_
    exact ⟨oL, es, ep, kp _ _ hL fun q => by obtain ⟨y, hy, e⟩ := List.mem_map.mp q; exact (Ns y hy).2.1 e, hLd, hLk, hLf⟩
  · refine kp _ _ (F.keep _ _ e) fun q => ?_
    obtain ⟨y, hy, e'⟩ := List.mem_map.mp q
    rw [← e', (Ns y hy).2.2] at e; cases e

/-- and what it made -/
theorem News_made {h₀ : Heap} {L a : Addr} {m : Str → Option Value} {h h' : Heap} {o' : Obj} {news' : List (Addr × Obj)} (F : Fr h₀ L h m) (z : h.objs.size ≤ a) (e : h'.get? a = some o') (N' : News h₀ L h' news') : News h₀ L h' ((a, o') :: news') :=
  fun q hq => by
    rcases List.mem_cons.mp hq with rfl | hq
    · refine ⟨e, ?_, ?_⟩
      · refine cutC fun C_ kC_ => ?_
        obtain ⟨oL, _, _, hL, _⟩ := F.ns
        refine kC_ ?_
        clear kC_ C_
        exact Nat.ne_of_gt (Nat.lt_of_lt_of_le (Heap.lt_size hL) z)
      · cases q : h₀.get? a with
        | none => rfl
        | some o => exact absurd (Heap.lt_size (F.keep _ _ q)) (Nat.not_lt_of_le z)
    · exact N' q hq
/-- a contract that changes nothing, at a call in a walk -/
theorem useP {A₀ : Around} {base h₀ : Heap} {outer : List Env} {L : Addr} {m : Str → Option Value} {cn : Str} {cs : Scope} {a : Addr} {ccd : Value} {cl : List (Str × Addr)} {dp un : Nat} {f : Value} {pos : List Value} {Q E : Value → Shared → Prop}
    {news : List (Addr × Obj)}
    (B : Below A₀ base outer h₀) (F : Fr h₀ L s.heap m) (X : (pre.heap_1 w.params).In h₀) (N : News h₀ L s.heap news) (T : Top p loose mean mg mb h₀) (hk : cs.kind = .function) (C : Does prog w p loose mean mg mb [] D U s (.call f ⟨pos, []⟩) P)
    (hd : dp ≤ D) (hu : un ≤ U)
    (ret : ∀ v h' tk, (∀ a o, s.heap.objs.size ≤ a → h'.get? a = some o → News h₀ L h' ((a, o) :: news) ∧ AllLt a news) → Fr h₀ L h' m → News h₀ L h' news → (∀ b o, s.heap.get? b = some o → h'.get? b = some o) → (h₀.objs.size ≤ s.heap.objs.size) → P v h' → Q v { s with heap := h', toks := tk }) :
    wpAny (model prog w) (ctr dp un (envX cn cs L a ccd cl :: outer)) (call f pos) Q E s :=
  useM [] B F X N T hk (List.forall_mem_nil _) C hd hu fun v h' tk F' kp z q => ret v h' tk (fun a o ha ea => ⟨News_made F ha ea (N.grown fun b o e => kp b o e (by simp)), allLt_of fun p hp => Nat.lt_of_lt_of_le (Heap.lt_size (N p hp).1) ha⟩) F' (N.grown fun b o e => kp b o e (by simp)) (fun b o e => kp b o e (by simp)) (Nat.le_trans F.above (Nat.le_of_lt F.ns.lt)) q

/-- the ledger behind a contract: what it did not change -/
theorem News.kept {h₀ : Heap} {L : Addr} {h h' : Heap} {news news' : List (Addr × Obj)} (N : News h₀ L h news) (k : Keep ms h h') (hs : ∀ q ∈ news', q ∈ news) (hn : ∀ q ∈ news', q.1 ∉ ms) : News h₀ L h' news' :=
  fun q hq => ⟨k _ _ (N q (hs q hq)).1 (hn q hq), (N q (hs q hq)).2⟩
/-- and what it changed -/
theorem News.now {h₀ : Heap} {L a : Addr} {h h' : Heap} {o o' : Obj} {news news' : List (Addr × Obj)} (N : News h₀ L h news) (hm : (a, o) ∈ news) (e : h'.get? a = some o') (N' : News h₀ L h' news') : News h₀ L h' ((a, o') :: news') :=
  fun q hq => by
    rcases List.mem_cons.mp hq with rfl | hq
    · exact ⟨e, (N _ hm).2⟩
    · exact N' q hq
end
end
/-! ## Take -/
section
theorem words0_Take : True := by
  w_top off
  k_with_none
  trivial
variable {prog : Program} {w : World} {p : Program} {loose : List Str} {mean : ExcName → Option Value} {mg mb : Str → Option Value} {s : Shared}

theorem fillK : PySem.Challenge.rw_on0008_01 = PySem.Challenge.rw_on0008_01 ∧ pre.heap_1 = pre.heap_1 := by
  k_fill
  exact ⟨rfl, rfl⟩

theorem words_Take1 : True := by
  k_with "m_enter" => ((case ho => k_is); (case hcd => k_is); (case hro => decide); (case hb => exact BindsTo.of_eq rfl); (case hl => exact locs rfl); (case c2 => exact rfl); (case c3 => exact rfl); (case c4 => exact rfl); (case c5 => decide))
  k_with "EndR" => (refine endR (by with_reducible assumption) (by k_asm) ?_)
  k_with "subscriptTail Name Constant ref int" => (k_here; (with_reducible show wpAny _ _ (subscriptTail _ _ (Value.ref _) (Value.int _ _)) _ _ _); kim_at)
  k_with "k_mem" => first | with_reducible exact inAt0 | with_reducible exact inAt1 | with_reducible exact inAt2 | with_reducible exact inAt3 | with_reducible exact inAt4 | with_reducible exact inAt5 | with_reducible exact inAt6 | with_reducible exact inAt7 | with_reducible exact inAt8 | with_reducible exact inAt9 | with_reducible exact inAt10 | with_reducible exact inAt11 | with_reducible exact inAt12 | with_reducible exact inAt13 | with_reducible exact inAt14 | with_reducible exact inAt15 | with_reducible exact inAt16 | with_reducible exact inAt17 | with_reducible exact inAt18 | with_reducible exact inAt19 | with_reducible exact inAt20 | with_reducible exact inAt21 | with_reducible exact inAt22 | with_reducible exact inAt23
  k_with "k_ne" => first | with_reducible assumption | exact neSym (by with_reducible assumption) | exact neLt (by with_reducible assumption) | exact neGt (by with_reducible assumption) | fail
  trivial

theorem ne_nil_K {A : Around} {E : Value → Shared → Prop} {a b : Addr} {x : Int} {tx : Nat} {vs : List Value} {ns : List Int} {Q : Value → Shared → Prop} (hl : s.heap.IsList a (Value.int x tx :: vs).toArray) (hi : IntsAre vs ns) (hl' : s.heap.IsList b ([] : List Value).toArray) (hu : A.units + 64 < cLine)
    (h : Q (.bool true) s) : wpAny (model prog w) A (compareOp .NotEq (.ref a) (.ref b)) Q E s := ne_intsK hl (.cons _ _ hi) hl' .nil hu (by simpa using h)
theorem words_Take2 : True := by
  k_with "compareOp NotEq ref ref" => (k_here; (with_reducible show wpAny _ _ (compareOp CmpOp.NotEq (Value.ref _) (Value.ref _)) _ _ _); (with_unfolding_all refine ne_nil_K (by k_dflt (is_list)) (by k_dflt (l_ints)) (by k_dflt (is_list)) (by k_dflt (units_room)) ?_; k_whole))
  trivial
theorem pop0_K {A : Around} {E : Value → Shared → Prop} {h₀ : Heap} {L D : Addr} {m : Str → Option Value} {news news' : List (Addr × Obj)} {n u : Nat} {y : Value} {r : List Value} {Q : Value → Shared → Prop} (F : Fr h₀ L s.heap m) (N : News h₀ L s.heap news)
    (U : Upd D (listOf (y :: r).toArray n) (listOf r.toArray (n + 1)) news news') (hz : (y :: r).length ≤ 7) (h : ∀ h', Fr h₀ L h' m → News h₀ L h' news' → Q y { s with heap := h' }) : wpAny (model prog w) A (call (.builtin "list.pop") [.ref D, .int 0 u]) Q E s :=
  kl_popAt (k := 0) (p := []) (q := r) (y := y) F N rfl (by simp [seqIndex?]) rfl U (by show (y :: r).length ≤ sizeLine; rw [sizeLine_eq]; omega) h
theorem words_Take3 : True := by
  k_with "call builtin:list.pop" => (k_here; ((with_reducible show wpAny _ _ (call (Value.builtin _) [Value.ref _, Value.int _ _]) _ _ _); k_dflt (refine pop0_K (by k_asm) (by k_asm) (by k_upd) (by assumption) ?_)); (intro h' F' N'; (try dsimp only [List.nil_append, List.cons_append] at N')))
  trivial
/-- the law's source of draws -/
inductive SrcAt (src lst : Nat) (h : Heap) : Prop
  | mk (b m : Int) (t1 t2 n k : Nat) (vs : List Value) (ns : List Int) (e1 : h.get? src = some (listOf [.int b t1, .int m t2, .ref lst].toArray n)) (e2 : h.get? lst = some (listOf vs.toArray k)) (hI : IntsAre vs ns) (hv : vs.length ≤ 7) (h0 : 0 ≤ m) (h1 : m < 2147483647) : SrcAt src lst h
/-- what a draw gives -/
inductive TakeP (src lst : Nat) (top : Int) (v : Value) (h : Heap) : Prop
  | mk (S : SrcAt src lst h) (d : Int) (t : Nat) (e : v = .int d t) (h0 : 0 ≤ d) (h1 : d < top) : TakeP src lst top v h

set_option pp.deepTerms false in
set_option pp.maxSteps 3000 in
theorem take_does {src lst : Nat} {tk : Nat} {top : Int} (hS : SrcAt src lst s.heap) (hlt : lst < src) (ht : 0 < top) (ht9 : top ≤ 9) :
    Does prog w p loose mean mg mb [src, lst] 380 400 s (.call (.ref 220) ⟨[.ref src, .int top tk], []⟩) (TakeP src lst top) := by
  refine cutC fun C_ kC_ => ?_
  obtain ⟨b, m, t1, t2, n, k, vs, ns, h1, h2, hI, hv, hm0, hm1⟩ := hS
  refine kC_ ?_
  clear kC_ C_
  cases hI
  all_goals (
    refine' enterM (news := [(src, listOf [.int b t1, .int m t2, .ref lst].toArray n), (lst, listOf _ k)]) (binds := [("source", .ref src), ("top", .int top tk)]) ?hm ?hN ?ho ?hcd ?hro ?hb ?hl ?_ ?c2 ?c3 ?c4 ?c5
    case hm => exact rfl
    case hN => (intro q hq; simp only [List.mem_cons, List.not_mem_nil, or_false] at hq; rcases hq with rfl | rfl; exact h1; exact h2)
    walk_at "m_enter"
    intro l A₀ base g L' h' KG hz F' N' ll B' X' T' Rz hRz
    try dsimp only
    try k_fold
    try k_lt ll
    k_steps
    all_goals (
      unfold Hold
      (rename News _ _ _ _ => N9)
      refine ⟨⟨_, _, _, _, _, _, _, _, News.get N9 (by k_mem), News.get N9 (by k_mem), by first | assumption | exact .nil | exact .cons _ _ (by assumption), ?_, ?_, ?_⟩, _, _, rfl, Int.fmod_nonneg_of_pos _ ht, Int.fmod_lt_of_pos _ ht⟩
      all_goals first | omega | assumption | (simp only [List.length_cons] at hv ⊢; omega) | exact Int.fmod_nonneg_of_pos _ (by omega) | exact Int.fmod_lt_of_pos _ (by omega)))
end
/-! ## Rep -/
section
theorem words0_Rep : True := by
  w_top off
  k_with_none
  trivial
open PySem.SeqAt
open PySem.AutoSeq1 (wpAny_loadPart')
open PySem.MeetsSeq

/-! ## nested data of six kinds -/
inductive Dt where
  | none
  | bool (b : Bool)
  | int (i : Int)
  | str (x : Str)
  | bytes (b : Array UInt8)
  | tup (ds : List Dt)

noncomputable abbrev tupObj (vs : List Value) : Obj := { cls := .type "tuple", data := .seq vs.toArray }

mutual
inductive Rep (h : Heap) : Value → Dt → Prop
  | none : Rep h .none .none
  | bool (b : Bool) : Rep h (.bool b) (.bool b)
  | int (i : Int) (t : Nat) : Rep h (.int i t) (.int i)
  | str (x : Str) (t : Nat) : Rep h (.str x t) (.str x)
  | bytes (b : Array UInt8) (t : Nat) : Rep h (.bytes b t) (.bytes b)
  | tup {a : Addr} {vs : List Value} {ds : List Dt} : h.get? a = some (tupObj vs) → RepAll h vs ds → Rep h (.ref a) (.tup ds)
inductive RepAll (h : Heap) : List Value → List Dt → Prop
  | nil : RepAll h [] []
  | cons {v : Value} {d : Dt} {vs : List Value} {ds : List Dt} : Rep h v d → RepAll h vs ds → RepAll h (v :: vs) (d :: ds)
end

/-- what lies at ms is no tuple -/
noncomputable def NoTup (ms : List Addr) (h : Heap) : Prop := ∀ a ∈ ms, ∀ vs, h.get? a ≠ some (tupObj vs)

theorem Rep.keep {ms : List Addr} {h h' : Heap} (k : Keep ms h h') (n : NoTup ms h) {v : Value} {d : Dt} (r : Rep h v d) : Rep h' v d :=
  Rep.rec (motive_1 := fun v d _ => Rep h' v d) (motive_2 := fun vs ds _ => RepAll h' vs ds) .none .bool .int .str .bytes (fun e _ r => .tup (k _ _ e fun m => n _ m _ e) r) .nil (fun _ _ a r => .cons a r) r
theorem RepAll.keep {ms : List Addr} {h h' : Heap} (k : Keep ms h h') (n : NoTup ms h) {vs : List Value} {ds : List Dt} (r : RepAll h vs ds) : RepAll h' vs ds :=
  RepAll.rec (motive_1 := fun v d _ => Rep h' v d) (motive_2 := fun vs ds _ => RepAll h' vs ds) .none .bool .int .str .bytes (fun e _ r => .tup (k _ _ e fun m => n _ m _ e) r) .nil (fun _ _ a r => .cons a r) r
theorem noTup_nil (h : Heap) : NoTup [] h := fun _ m => by cases m
theorem Rep.grow {h h' : Heap} (k : ∀ a o, h.get? a = some o → h'.get? a = some o) {v : Value} {d : Dt} (r : Rep h v d) : Rep h' v d := r.keep (ms := []) (fun a o e _ => k a o e) (noTup_nil _)
theorem RepAll.grow {h h' : Heap} (k : ∀ a o, h.get? a = some o → h'.get? a = some o) {v : List Value} {d : List Dt} (r : RepAll h v d) : RepAll h' v d := r.keep (ms := []) (fun a o e _ => k a o e) (noTup_nil _)

theorem tupObj_inj {vs ws : List Value} (h : tupObj vs = tupObj ws) : vs = ws := by
  injection h with _ _ q _
  injection q with q _
  simpa using congrArg Array.toList q
theorem Rep.inj {h : Heap} {v : Value} {d d' : Dt} (r : Rep h v d) (r' : Rep h v d') : d = d' :=
  Rep.rec (motive_1 := fun v d _ => ∀ d', Rep h v d' → d = d') (motive_2 := fun vs ds _ => ∀ ds', RepAll h vs ds' → ds = ds')
    (fun _ q => by cases q; rfl) (fun _ _ q => by cases q; rfl) (fun _ _ _ q => by cases q; rfl) (fun _ _ _ q => by cases q; rfl) (fun _ _ _ q => by cases q; rfl)
    (fun {_ vs _} e _ ih _ q => by
      cases q with
      | tup e' r' =>
        have := tupObj_inj (Option.some.inj (e.symm.trans e'))
        subst this
        rw [ih _ r'])
    (fun _ q => by cases q; rfl) (fun _ _ i1 i2 _ q => by
      cases q with
      | cons a r => rw [i1 _ a, i2 _ r]) r d' r'
theorem RepAll.length {h : Heap} {vs : List Value} {ds : List Dt} (r : RepAll h vs ds) : vs.length = ds.length :=
  RepAll.rec (motive_1 := fun _ _ _ => True) (motive_2 := fun vs ds _ => vs.length = ds.length) trivial (fun _ => trivial) (fun _ _ => trivial) (fun _ _ => trivial) (fun _ _ => trivial) (fun _ _ _ => trivial) rfl (fun _ _ _ i => congrArg (· + 1) i) r
theorem RepAll.get {h : Heap} {vs : List Value} {ds : List Dt} (r : RepAll h vs ds) : ∀ (j : Nat) (h1 : j < vs.length) (h2 : j < ds.length), Rep h vs[j] ds[j] :=
  RepAll.rec (motive_1 := fun _ _ _ => True) (motive_2 := fun vs ds _ => ∀ (j : Nat) (h1 : j < vs.length) (h2 : j < ds.length), Rep h vs[j] ds[j]) trivial (fun _ => trivial) (fun _ _ => trivial) (fun _ _ => trivial) (fun _ _ => trivial) (fun _ _ _ => trivial)
    (fun _ h1 => absurd h1 (Nat.not_lt_zero _)) (fun a _ _ i j h1 h2 => by
      cases j with
      | zero => exact a
      | succ j => exact i j (Nat.lt_of_succ_lt_succ h1) (Nat.lt_of_succ_lt_succ h2)) r
theorem RepAll.append {h : Heap} {vs ws : List Value} {ds es : List Dt} (r : RepAll h vs ds) (q : RepAll h ws es) : RepAll h (vs ++ ws) (ds ++ es) :=
  RepAll.rec (motive_1 := fun _ _ _ => True) (motive_2 := fun vs ds _ => RepAll h (vs ++ ws) (ds ++ es)) trivial (fun _ => trivial) (fun _ _ => trivial) (fun _ _ => trivial) (fun _ _ => trivial) (fun _ _ _ => trivial) q (fun a _ _ i => .cons a i) r

/-! ## Python's == on them -/
mutual
noncomputable def eqv : Dt → Dt → Bool
  | .none, .none => true
  | .bool a, .bool b => a == b
  | .bool a, .int b => (if a then 1 else 0) == b
  | .int a, .bool b => a == (if b then 1 else 0)
  | .int a, .int b => a == b
  | .str a, .str b => a == b
  | .bytes a, .bytes b => a.toList == b.toList
  | .tup a, .tup b => eqvAll a b
  | _, _ => false
noncomputable def eqvAll : List Dt → List Dt → Bool
  | [], [] => true
  | a :: r, b :: q => eqv a b && eqvAll r q
  | _, _ => false
end
mutual
theorem eqv_self : ∀ d : Dt, eqv d d = true
  | .none => rfl
  | .bool b => (beq_self_eq_true b : (b == b) = true)
  | .int b => (beq_self_eq_true b : (b == b) = true)
  | .str b => (beq_self_eq_true b : (b == b) = true)
  | .bytes b => (beq_self_eq_true b.toList : (b.toList == b.toList) = true)
  | .tup ds => (eqvAll_self ds : eqvAll ds ds = true)
theorem eqvAll_self : ∀ ds : List Dt, eqvAll ds ds = true
  | [] => rfl
  | d :: r => by show (eqv d d && eqvAll r r) = true; rw [eqv_self d, eqvAll_self r]; rfl
end
mutual
noncomputable def deep : Dt → Nat
  | .tup ds => deepAll ds + 1
  | _ => 0
noncomputable def deepAll : List Dt → Nat
  | [] => 0
  | d :: r => max (deep d) (deepAll r)
end
theorem deep_get : ∀ (ds : List Dt) (j : Nat) (h : j < ds.length), deep ds[j] ≤ deepAll ds
  | d :: r, 0, _ => by simp only [deepAll]; exact Nat.le_max_left _ _
  | d :: r, j + 1, h => by
    have := deep_get r j (Nat.lt_of_succ_lt_succ h)
    simp only [deepAll, List.getElem_cons_succ]
    omega
theorem range_all (f : Nat → Bool) (n : Nat) : (List.range (n + 1)).all f = (f 0 && (List.range n).all fun j => f (j + 1)) := by
  rw [List.range_succ_eq_map, List.all_cons, List.all_map]
  rfl
theorem eqvAll_range : ∀ (xs ys : List Dt) (e : Nat → Bool), (∀ j (h1 : j < xs.length) (h2 : j < ys.length), e j = eqv xs[j] ys[j]) →
    ((List.range (min xs.length ys.length)).all e && xs.length == ys.length) = eqvAll xs ys
  | [], [], _, _ => by simp [eqvAll]
  | [], _ :: _, _, _ => by simp [eqvAll]
  | _ :: _, [], _, _ => by simp [eqvAll]
  | x :: xs, y :: ys, e, h => by
    have ih := eqvAll_range xs ys (fun j => e (j + 1)) (fun j h1 h2 => h (j + 1) (Nat.succ_lt_succ h1) (Nat.succ_lt_succ h2))
    have h0 := h 0 (Nat.succ_pos _) (Nat.succ_pos _)
    simp only [List.getElem_cons_zero] at h0
    simp only [eqvAll, List.length_cons, Nat.add_min_add_right, range_all, h0, ← ih]
    have : (xs.length + 1 == ys.length + 1) = (xs.length == ys.length) := by rw [Bool.eq_iff_iff]; simp
    rw [this, Bool.and_assoc]

/-! ### bytes beside the other kinds -/
theorem subB_none : isSubtype (.type "NoneType") (.type "bytes") = pure false := by rw [isSubtype_type]; kernel_rfl
theorem subB_bool : isSubtype (.type "bool") (.type "bytes") = pure false := by rw [isSubtype_type]; kernel_rfl
theorem subB_int : isSubtype (.type "int") (.type "bytes") = pure false := by rw [isSubtype_type]; kernel_rfl
theorem subB_str : isSubtype (.type "str") (.type "bytes") = pure false := by rw [isSubtype_type]; kernel_rfl
theorem subB_tuple : isSubtype (.type "tuple") (.type "bytes") = pure false := by rw [isSubtype_type]; kernel_rfl
theorem subN_bytes : isSubtype (.type "bytes") (.type "NoneType") = pure false := by rw [isSubtype_type]; kernel_rfl
theorem subT_bytes : isSubtype (.type "bytes") (.type "tuple") = pure false := by rw [isSubtype_type]; kernel_rfl
theorem subO_bytes : isSubtype (.type "bytes") (.type "bool") = pure false := by rw [isSubtype_type]; kernel_rfl
theorem subI_bytes : isSubtype (.type "bytes") (.type "int") = pure false := by rw [isSubtype_type]; kernel_rfl
theorem subS_bytes : isSubtype (.type "bytes") (.type "str") = pure false := by rw [isSubtype_type]; kernel_rfl

theorem bytes_declines {M : Model} {A : Around} {E : Value → Shared → Prop} {s : Shared} {b : Array UInt8} {t : Tok} {v : Value} {T : String} {P : Fin → Shared → Prop} (hT : s.TypeIs v T) (hs : isSubtype (.type T) (.type "bytes") = pure false)
    (h : P (.done (.ret .notImplemented)) s) : wpAny M A (Builtin.«bytes.__eq__» ⟨[.bytes b t, v], []⟩) P E s := by
  show wpAny M A (isInstance v (.type "bytes") >>= fun r => _) _ E s
  refine wpAny_bind (wpAny_isInstance hT hs ?_)
  exact wpAny_bind (wpAny_rule (wpAny_pure h))
theorem none_declines (b : Array UInt8) (t : Tok) : Gives (Builtin.«NoneType.__eq__» ⟨[.none, .bytes b t], []⟩) (.val (Value.notImplemented)) :=
  .of_wp fun M A E s Q h => by obtain ⟨hp, g, d, tk, os⟩ := s; wp_walk; exact ⟨_, rfl, h⟩
theorem bool_declines (a : Bool) (b : Array UInt8) (t : Tok) : Gives (Builtin.«int.__eq__» ⟨[.bool a, .bytes b t], []⟩) (.val (Value.notImplemented)) :=
  .of_wp fun M A E s Q h => by obtain ⟨hp, g, d, tk, os⟩ := s; wp_walk; exact ⟨_, rfl, h⟩
theorem int_declines (a : Int) (u : Tok) (b : Array UInt8) (t : Tok) : Gives (Builtin.«int.__eq__» ⟨[.int a u, .bytes b t], []⟩) (.val (Value.notImplemented)) :=
  .of_wp fun M A E s Q h => by obtain ⟨hp, g, d, tk, os⟩ := s; wp_walk; exact ⟨_, rfl, h⟩
theorem str_declines (a : Str) (u : Tok) (b : Array UInt8) (t : Tok) : Gives (Builtin.«str.__eq__» ⟨[.str a u, .bytes b t], []⟩) (.val (Value.notImplemented)) :=
  .of_wp fun M A E s Q h => by obtain ⟨hp, g, d, tk, os⟩ := s; wp_walk; exact ⟨_, rfl, h⟩
theorem tuple_declines (l : Addr) (items : Array Value) (n : Nat) (dd : Option Addr) (sl : Array (Option Value)) (b : Array UInt8) (t : Tok) :
    Meets (Builtin.«tuple.__eq__» ⟨[.ref l, .bytes b t], []⟩) (fun _ R s => s.heap.get? l = some { cls := .type "tuple", dict := dd, data := .seq items n, slots := sl } ∧ R (.ok (.ret .notImplemented)) s) :=
  .of_wp fun prog w A R s h => by obtain ⟨hp, g, d, tk, os⟩ := s; obtain ⟨hl, h⟩ := h; have f1 := subT_bytes; wp_walk using wpAny_loadPart' hl; exact ⟨_, rfl, h⟩

section
variable {A : Around} {s : Shared}
theorem eqAt_of_rc {v u : Value} {k : Bool} (hne : v ≠ u) (hf : ∀ b t c u', (v, u) ≠ (Value.float b t, Value.float c u')) (h : RcAt A s v u k) : EqAt A s v u k := fun prog w E Q hq => by
  unfold eqBool
  refine wpAny_holding ?_
  refine wpAny_ite_split (fun hab => absurd (eq_of_beq hab) hne) (fun _ => ?_)
  split
  · rename_i b t c u' e
    exact absurd e (hf _ _ _ _)
  · exact wpAny_bind (h prog w E _ (wpAny_truthy_bool hq))
theorem rcB_none (b : Array UInt8) (t : Tok) : RcAt A s (.bytes b t) .none false := fun prog w E Q h =>
  rc_eq_decline_or (k := false) (typeIs_bytes s b t) rfl (by decide) subB_none FB.slot_bytes_eq F.slot_NoneType_eq_refl
    (fun _ hq => wpAny_call_entry FB.slot_bytes_eq (typeIs_bytes s b t) FB.entry_bytes_eq (bytes_declines (T := "NoneType") rfl subB_none ⟨_, rfl, hq⟩) (FB.args_bytes_eq_2 _ _))
    (fun _ hq => call_gives F.slot_NoneType_eq_refl rfl F.entry_NoneType_eq (F.args_NoneType_eq_2 _ _) (none_declines b t) hq)
    (fun _ hq => wpAny_of_eq (rfl : isSame (.bytes b t) .none = pure false) hq) (.inl rfl) h
theorem rcNone_B (b : Array UInt8) (t : Tok) : RcAt A s .none (.bytes b t) false := fun prog w E Q h =>
  rc_eq_decline_or (k := false) rfl (typeIs_bytes s b t) (by decide) subN_bytes F.slot_NoneType_eq FB.slot_bytes_eq
    (fun _ hq => call_gives F.slot_NoneType_eq rfl F.entry_NoneType_eq (F.args_NoneType_eq_2 _ _) (none_declines b t) hq)
    (fun _ hq => wpAny_call_entry FB.slot_bytes_eq (typeIs_bytes s b t) FB.entry_bytes_eq (bytes_declines (T := "NoneType") rfl subB_none ⟨_, rfl, hq⟩) (FB.args_bytes_eq_2 _ _))
    (fun _ hq => wpAny_of_eq (rfl : isSame .none (.bytes b t) = pure false) hq) (.inl rfl) h
theorem rcB_bool (b : Array UInt8) (t : Tok) (a : Bool) : RcAt A s (.bytes b t) (.bool a) false := fun prog w E Q h =>
  rc_eq_decline_or (k := false) (typeIs_bytes s b t) rfl (by decide) subB_bool FB.slot_bytes_eq F.slot_bool_eq_refl
    (fun _ hq => wpAny_call_entry FB.slot_bytes_eq (typeIs_bytes s b t) FB.entry_bytes_eq (bytes_declines (T := "bool") rfl subB_bool ⟨_, rfl, hq⟩) (FB.args_bytes_eq_2 _ _))
    (fun _ hq => call_gives F.slot_bool_eq_refl rfl F.entry_int_eq (F.args_int_eq_2 _ _) (bool_declines a b t) hq)
    (fun _ hq => wpAny_of_eq (rfl : isSame (.bytes b t) (.bool a) = pure false) hq) (.inl rfl) h
theorem rcBool_B (a : Bool) (b : Array UInt8) (t : Tok) : RcAt A s (.bool a) (.bytes b t) false := fun prog w E Q h =>
  rc_eq_decline_or (k := false) rfl (typeIs_bytes s b t) (by decide) subO_bytes F.slot_bool_eq FB.slot_bytes_eq
    (fun _ hq => call_gives F.slot_bool_eq rfl F.entry_int_eq (F.args_int_eq_2 _ _) (bool_declines a b t) hq)
    (fun _ hq => wpAny_call_entry FB.slot_bytes_eq (typeIs_bytes s b t) FB.entry_bytes_eq (bytes_declines (T := "bool") rfl subB_bool ⟨_, rfl, hq⟩) (FB.args_bytes_eq_2 _ _))
    (fun _ hq => wpAny_of_eq (rfl : isSame (.bool a) (.bytes b t) = pure false) hq) (.inl rfl) h
theorem rcB_int (b : Array UInt8) (t : Tok) (a : Int) (u : Tok) : RcAt A s (.bytes b t) (.int a u) false := fun prog w E Q h =>
  rc_eq_decline_or (k := false) (typeIs_bytes s b t) (typeIs_int s a u) (by decide) subB_int FB.slot_bytes_eq F.slot_int_eq_refl
    (fun _ hq => wpAny_call_entry FB.slot_bytes_eq (typeIs_bytes s b t) FB.entry_bytes_eq (bytes_declines (typeIs_int s a u) subB_int ⟨_, rfl, hq⟩) (FB.args_bytes_eq_2 _ _))
    (fun _ hq => call_gives F.slot_int_eq_refl (typeIs_int s a u) F.entry_int_eq (F.args_int_eq_2 _ _) (int_declines a u b t) hq)
    (fun _ hq => wpAny_of_eq (rfl : isSame (.bytes b t) (.int a u) = pure false) hq) (.inl rfl) h
theorem rcInt_B (a : Int) (u : Tok) (b : Array UInt8) (t : Tok) : RcAt A s (.int a u) (.bytes b t) false := fun prog w E Q h =>
  rc_eq_decline_or (k := false) (typeIs_int s a u) (typeIs_bytes s b t) (by decide) subI_bytes F.slot_int_eq FB.slot_bytes_eq
    (fun _ hq => call_gives F.slot_int_eq (typeIs_int s a u) F.entry_int_eq (F.args_int_eq_2 _ _) (int_declines a u b t) hq)
    (fun _ hq => wpAny_call_entry FB.slot_bytes_eq (typeIs_bytes s b t) FB.entry_bytes_eq (bytes_declines (typeIs_int s a u) subB_int ⟨_, rfl, hq⟩) (FB.args_bytes_eq_2 _ _))
    (fun _ hq => wpAny_of_eq (rfl : isSame (.int a u) (.bytes b t) = pure false) hq) (.inl rfl) h
theorem rcB_str (b : Array UInt8) (t : Tok) (a : Str) (u : Tok) : RcAt A s (.bytes b t) (.str a u) false := fun prog w E Q h =>
  rc_eq_decline_or (k := false) (typeIs_bytes s b t) (typeIs_str s a u) (by decide) subB_str FB.slot_bytes_eq F.slot_str_eq_refl
    (fun _ hq => wpAny_call_entry FB.slot_bytes_eq (typeIs_bytes s b t) FB.entry_bytes_eq (bytes_declines (typeIs_str s a u) subB_str ⟨_, rfl, hq⟩) (FB.args_bytes_eq_2 _ _))
    (fun _ hq => call_gives F.slot_str_eq_refl (typeIs_str s a u) F.entry_str_eq (F.args_str_eq_2 _ _) (str_declines a u b t) hq)
    (fun _ hq => wpAny_of_eq (rfl : isSame (.bytes b t) (.str a u) = pure false) hq) (.inl rfl) h
theorem rcStr_B (a : Str) (u : Tok) (b : Array UInt8) (t : Tok) : RcAt A s (.str a u) (.bytes b t) false := fun prog w E Q h =>
  rc_eq_decline_or (k := false) (typeIs_str s a u) (typeIs_bytes s b t) (by decide) subS_bytes F.slot_str_eq FB.slot_bytes_eq
    (fun _ hq => call_gives F.slot_str_eq (typeIs_str s a u) F.entry_str_eq (F.args_str_eq_2 _ _) (str_declines a u b t) hq)
    (fun _ hq => wpAny_call_entry FB.slot_bytes_eq (typeIs_bytes s b t) FB.entry_bytes_eq (bytes_declines (typeIs_str s a u) subB_str ⟨_, rfl, hq⟩) (FB.args_bytes_eq_2 _ _))
    (fun _ hq => wpAny_of_eq (rfl : isSame (.str a u) (.bytes b t) = pure false) hq) (.inl rfl) h
theorem rcB_tup (b : Array UInt8) (t : Tok) {l : Addr} {vs : List Value} (hl : s.heap.get? l = some (tupObj vs)) (hu : A.units < cLine) : RcAt A s (.bytes b t) (.ref l) false := fun prog w E Q h =>
  rc_eq_decline_or (k := false) (typeIs_bytes s b t) ⟨_, hl, rfl⟩ (by decide) subB_tuple FB.slot_bytes_eq F.slot_tuple_eq
    (fun _ hq => wpAny_call_entry FB.slot_bytes_eq (typeIs_bytes s b t) FB.entry_bytes_eq (bytes_declines (T := "tuple") ⟨_, hl, rfl⟩ subB_tuple ⟨_, rfl, hq⟩) (FB.args_bytes_eq_2 _ _))
    (fun _ hq => call_meets F.slot_tuple_eq ⟨_, hl, rfl⟩ F.entry_tuple_eq (F.args_tuple_eq_2 _ _) (tuple_declines l vs.toArray 0 none #[] b t) ⟨hl, hq⟩)
    (fun _ hq => wpAny_of_eq (rfl : isSame (.bytes b t) (.ref l) = pure false) hq) (.inr hu) h
theorem rcTup_B (b : Array UInt8) (t : Tok) {l : Addr} {vs : List Value} (hl : s.heap.get? l = some (tupObj vs)) (hu : A.units < cLine) : RcAt A s (.ref l) (.bytes b t) false := fun prog w E Q h =>
  rc_eq_decline_or (k := false) ⟨_, hl, rfl⟩ (typeIs_bytes s b t) (by decide) subT_bytes F.slot_tuple_eq FB.slot_bytes_eq
    (fun _ hq => call_meets F.slot_tuple_eq ⟨_, hl, rfl⟩ F.entry_tuple_eq (F.args_tuple_eq_2 _ _) (tuple_declines l vs.toArray 0 none #[] b t) ⟨hl, hq⟩)
    (fun _ hq => wpAny_call_entry FB.slot_bytes_eq (typeIs_bytes s b t) FB.entry_bytes_eq (bytes_declines (T := "tuple") ⟨_, hl, rfl⟩ subB_tuple ⟨_, rfl, hq⟩) (FB.args_bytes_eq_2 _ _))
    (fun _ hq => wpAny_of_eq (rfl : isSame (.ref l) (.bytes b t) = pure false) hq) (.inr hu) h
theorem rcB_B (b : Array UInt8) (t : Tok) (c : Array UInt8) (u : Tok) : RcAt A s (.bytes b t) (.bytes c u) (b.toList == c.toList) := fun prog w E Q h =>
  richCompare_gives (op := .Eq) (T := "bytes") rfl rfl FB.slot_bytes_eq FB.entry_bytes_eq (FB.args_bytes_eq_2 _ _) (gives_bytes_eq b c t u) (fun x => nomatch x) h
theorem eqB_B (b : Array UInt8) (t : Tok) (c : Array UInt8) (u : Tok) : EqAt A s (.bytes b t) (.bytes c u) (b.toList == c.toList) := fun prog w E Q h =>
  eqBool_bytes (by rw [show decide (b.toList = c.toList) = (b.toList == c.toList) by rw [Bool.eq_iff_iff]; simp]; exact h)
theorem isTuple_of {h : Heap} {l : Addr} {vs : List Value} (e : h.get? l = some (tupObj vs)) : h.IsTuple l vs.toArray := ⟨_, e, rfl, 0, rfl⟩
end

/-- == of two of these: by eqBool -/
theorem eqAt_repN {s : Shared} : ∀ (n : Nat) (d e : Dt) {A : Around} {v u : Value}, sizeOf d < n → Rep s.heap v d → Rep s.heap u e → A.units + deep d < cLine → EqAt A s v u (eqv d e) := by
  intro n
  induction n with
  | zero => exact fun _ _ _ _ _ h => absurd h (Nat.not_lt_zero _)
  | succ n ih =>
    intro d e A v u hn rv r hu
    cases rv with
    | none =>
      cases r with
      | none => exact EqAt.same _
      | bool b => exact EqAt.none_bool _
      | int => exact EqAt.none_int _ _
      | str => exact EqAt.none_str _ _
      | bytes => exact eqAt_of_rc (fun e => Value.noConfusion e) (fun _ _ _ _ e => Value.noConfusion (congrArg Prod.fst e)) (rcNone_B _ _)
      | tup h _ => exact EqAt.none_tuple (isTuple_of h) (Nat.lt_of_le_of_lt (Nat.le_add_right _ _) hu)
    | bool =>
      cases r with
      | none => exact EqAt.bool_none _
      | bool => exact EqAt.bool_bool _ _
      | int => exact EqAt.bool_int _ _ _
      | str => exact EqAt.bool_str _ _ _
      | bytes => exact eqAt_of_rc (fun e => Value.noConfusion e) (fun _ _ _ _ e => Value.noConfusion (congrArg Prod.fst e)) (rcBool_B _ _ _)
      | tup h _ => exact EqAt.bool_tuple _ (isTuple_of h) (Nat.lt_of_le_of_lt (Nat.le_add_right _ _) hu)
    | int =>
      cases r with
      | none => exact EqAt.int_none _ _
      | bool => exact EqAt.int_bool _ _ _
      | int => exact EqAt.int_int _ _ _ _
      | str => exact EqAt.int_str _ _ _ _
      | bytes => exact eqAt_of_rc (fun e => Value.noConfusion e) (fun _ _ _ _ e => Value.noConfusion (congrArg Prod.fst e)) (rcInt_B _ _ _ _)
      | tup h _ => exact EqAt.int_tuple _ _ (isTuple_of h) (Nat.lt_of_le_of_lt (Nat.le_add_right _ _) hu)
    | str =>
      cases r with
      | none => exact EqAt.str_none _ _
      | bool => exact EqAt.str_bool _ _ _
      | int => exact EqAt.str_int _ _ _ _
      | str => exact EqAt.str_str _ _ _ _
      | bytes => exact eqAt_of_rc (fun e => Value.noConfusion e) (fun _ _ _ _ e => Value.noConfusion (congrArg Prod.fst e)) (rcStr_B _ _ _ _)
      | tup h _ => exact EqAt.str_tuple _ _ (isTuple_of h) (Nat.lt_of_le_of_lt (Nat.le_add_right _ _) hu)
    | bytes =>
      cases r with
      | none => exact eqAt_of_rc (fun e => Value.noConfusion e) (fun _ _ _ _ e => Value.noConfusion (congrArg Prod.fst e)) (rcB_none _ _)
      | bool => exact eqAt_of_rc (fun e => Value.noConfusion e) (fun _ _ _ _ e => Value.noConfusion (congrArg Prod.fst e)) (rcB_bool _ _ _)
      | int => exact eqAt_of_rc (fun e => Value.noConfusion e) (fun _ _ _ _ e => Value.noConfusion (congrArg Prod.fst e)) (rcB_int _ _ _ _)
      | str => exact eqAt_of_rc (fun e => Value.noConfusion e) (fun _ _ _ _ e => Value.noConfusion (congrArg Prod.fst e)) (rcB_str _ _ _ _)
      | bytes => exact eqB_B _ _ _ _
      | tup h _ => exact eqAt_of_rc (fun e => Value.noConfusion e) (fun _ _ _ _ e => Value.noConfusion (congrArg Prod.fst e)) (rcB_tup _ _ h (Nat.lt_of_le_of_lt (Nat.le_add_right _ _) hu))
    | @tup a vs ds h r1 =>
      have hu0 : A.units < cLine := Nat.lt_of_le_of_lt (Nat.le_add_right _ _) hu
      cases r with
      | none => exact EqAt.tuple_none (isTuple_of h) hu0
      | bool => exact EqAt.tuple_bool _ (isTuple_of h) hu0
      | int => exact EqAt.tuple_int _ _ (isTuple_of h) hu0
      | str => exact EqAt.tuple_str _ _ (isTuple_of h) hu0
      | bytes => exact eqAt_of_rc (fun e => Value.noConfusion e) (fun _ _ _ _ e => Value.noConfusion (congrArg Prod.fst e)) (rcTup_B _ _ h hu0)
      | @tup b vs' es h' r' =>
        simp only [deep] at hu
        show EqAt A s _ _ (eqvAll ds es)
        by_cases hab : a = b
        · subst hab
          have e1 := Rep.inj (.tup h r1) (.tup h' r')
          injection e1 with e1
          subst e1
          rw [eqvAll_self]
          exact EqAt.same _
        · refine EqAt.of_refs hab ?_
          rw [← eqvAll_range ds es (fun j => eqv (ds.getD j .none) (es.getD j .none)) (fun j h1 h2 => by simp [h1, h2])]
          rw [← RepAll.length r1, ← RepAll.length r']
          have q := RcAt.tuples (e := fun j => eqv (ds.getD j .none) (es.getD j .none)) (isTuple_of h) (isTuple_of h') (A := A) (by omega) fun j h1 h2 => by
            simp only [List.size_toArray] at h1 h2
            have l1 : j < ds.length := RepAll.length r1 ▸ h1
            have l2 : j < es.length := RepAll.length r' ▸ h2
            have hz : sizeOf ds[j] < n := by
              have := List.sizeOf_lt_of_mem (List.getElem_mem l1)
              simp only [Dt.tup.sizeOf_spec] at hn
              omega
            have z := ih ds[j] es[j] (A := A.in1) hz (r1.get j h1 l1) (r'.get j h2 l2) (by have := deep_get ds j l1; simp only [Around.in1_units]; omega)
            simpa [l1, l2] using z
          simpa only [List.size_toArray] using q
theorem eqAt_rep {s : Shared} (d e : Dt) {A : Around} {v u : Value} (rv : Rep s.heap v d) (r : Rep s.heap u e) (hu : A.units + deep d < cLine) : EqAt A s v u (eqv d e) := eqAt_repN _ d e (Nat.lt_succ_self _) rv r hu
end
/-! ## Rep2 -/
section
theorem words0_Rep2 : True := by
  w_top off
  k_with_none
  trivial
open PySem.SeqAt
open PySem.MeetsSeq

/-! ## hashes -/
mutual
noncomputable def dhash (P : Params) : Dt → Int
  | .none => hashW P .none
  | .bool b => hashW P (.bool b)
  | .int i => hashW P (.int i)
  | .str x => hashW P (.str x)
  | .bytes b => hashW P (.bytes b.toList)
  | .tup ds => reduceHash (Builtin.Tuple.tupleHashOf (dhashes P ds))
noncomputable def dhashes (P : Params) : List Dt → List Int
  | [] => []
  | d :: r => dhash P d :: dhashes P r
end
mutual
noncomputable def ddraws : Dt → Nat
  | .tup ds => ddrawsAll ds + 1
  | _ => 1
noncomputable def ddrawsAll : List Dt → Nat
  | [] => 0
  | d :: r => ddraws d + ddrawsAll r
end

section
variable {prog : Program} {w : World} {E : Value → Shared → Prop}
mutual
theorem hash_rep : ∀ (d : Dt) (v : Value) (A : Around) (s : Shared) (Q : Int → Shared → Prop), Rep s.heap v d → A.units + deep d < cLine →
    Q (dhash w.params d) { s with toks := s.toks + ddraws d } → wpAny (model prog w) A (pyHash v) Q E s
  | .none, _, A, s, Q, x, hu, h => by
    cases x
    simp only [dhash, ddraws] at h
    exact pyHash_slot (T := "NoneType") rfl F.slot_NoneType_hash F.entry_NoneType_hash (F.args_NoneType_hash_1 _) (beq_builtin_none _) (.inr (by omega)) (wpAny_bind (wpAny_pure (wpAny_bind (wpAny_mkInt (wpAny_pure ⟨_, _, rfl, h⟩)))))
  | .bool b, _, A, s, Q, x, hu, h => by
    cases x
    simp only [dhash, ddraws] at h
    refine pyHash_slot (T := "bool") rfl F.slot_bool_hash entry_int_hash (args_int_hash _) (beq_builtin_none _) (.inr (by omega)) ?_
    cases b
    · exact (show wpAny _ _ (do ret (← mkInt 0)) _ _ s from wpAny_bind (wpAny_mkInt (wpAny_pure ⟨_, _, rfl, h⟩)))
    · exact (show wpAny _ _ (do ret (← mkInt 1)) _ _ s from wpAny_bind (wpAny_mkInt (wpAny_pure ⟨_, _, rfl, h⟩)))
  | .int i, _, A, s, Q, x, _, h => by cases x; simp only [dhash, ddraws] at h; exact wpAny_pyHash_int (hashW_int w.params i ▸ h)
  | .str y, _, A, s, Q, x, _, h => by cases x; simp only [dhash, ddraws] at h; exact wpAny_pyHash_str h
  | .bytes b, v, A, s, Q, x, hu, h => by
    cases x
    simp only [dhash, ddraws] at h
    refine pyHash_slot (T := "bytes") rfl FB.slot_bytes_hash FB.entry_bytes_hash (FB.args_bytes_hash_1 _) (beq_builtin_none _) (.inr (by omega)) ?_
    show wpAny _ _ (strHash ⟨b.map (·.toNat)⟩ >>= fun i => (do ret (← mkInt i))) _ _ s
    unfold strHash
    refine wpAny_bind (wpAny_bind (wpAny_askSetting (wpAny_pure (wpAny_bind (wpAny_mkInt (wpAny_pure ⟨_, _, rfl, ?_⟩))))))
    have e : b.toList.toArray = b := by simp
    simp only [hashW, e] at h
    exact h
  | .tup ds, _, A, s, Q, x, hu, h => by
    cases x with
    | @tup a vs _ hg hw =>
      simp only [dhash, ddraws] at h
      refine pyHash_slot (T := "tuple") ⟨_, hg, rfl⟩ F.slot_tuple_hash F.entry_tuple_hash (F.args_tuple_hash_1 _) (beq_builtin_none _) (.inr (by omega)) ?_
      show wpAny _ _ (Builtin.Tuple.tupleItemsOf (.ref a) >>= _) _ _ s
      refine wpAny_bind (wpAny_tupleItemsOf hg rfl ?_)
      refine wpAny_bind ?_
      rw [← Array.forIn_toList]
      refine hash_reps ds vs A.in1 s #[] _ hw (by simp only [deep] at hu; simp only [Around.in1_units]; omega) fun b hb => ?_
      show wpAny _ _ (retInt (Builtin.Tuple.tupleHashOf b.toList)) _ _ _
      rw [hb]
      exact wpAny_bind (wpAny_mkInt (wpAny_pure ⟨_, _, rfl, by simpa [Nat.add_assoc] using h⟩))
theorem hash_reps : ∀ (ds : List Dt) (vs : List Value) (A : Around) (s : Shared) (b : Array Int) (Q : Array Int → Shared → Prop), RepAll s.heap vs ds → A.units + deepAll ds < cLine →
    (∀ b', b'.toList = b.toList ++ dhashes w.params ds → Q b' { s with toks := s.toks + ddrawsAll ds }) →
    wpAny (model prog w) A (forIn vs b fun x r => do let h ← pyHash x; pure PUnit.unit; pure (ForInStep.yield (r.push h))) Q E s
  | [], _, A, s, b, Q, x, _, h => by cases x; exact wpAny_pure (by have := h b (by simp [dhashes]); simpa [ddrawsAll] using this)
  | d :: ds, _, A, s, b, Q, x, hu, h => by
    cases x with
    | cons x1 x2 =>
      simp only [deepAll] at hu
      rw [List.forIn_cons]
      refine wpAny_bind (wpAny_bind (hash_rep d _ A s _ x1 (by omega) ?_))
      refine wpAny_bind (wpAny_pure (wpAny_pure ?_))
      refine hash_reps ds _ A { s with toks := s.toks + ddraws d } _ Q x2 (by omega) fun b' hb => ?_
      have := h b' (by simp [hb, dhashes])
      simpa [ddrawsAll, Nat.add_assoc] using this
end
end

/-! ## their == tells nobody -/
section
variable {prog : Program} {w : World} {A : Around} {E : Value → Shared → Prop} {s : Shared}
theorem quiet_leaf {v : Value} {n : Nat} (h : carriedByValue v = true) {Q : Bool → Shared → Prop} (q : Q true s) : wpAny (model prog w) A (eqIsQuiet n v) Q E s := by
  rw [eqIsQuiet_byValue _ h]; exact wpAny_pure q
theorem quiet_rep : ∀ (n : Nat) (d : Dt) (v : Value) {Q : Bool → Shared → Prop}, Rep s.heap v d → deep d ≤ n → Q true s → wpAny (model prog w) A (eqIsQuiet n v) Q E s := by
  intro n
  induction n with
  | zero =>
    intro d v Q x hd q
    cases x with
    | tup => simp only [deep] at hd; omega
    | _ => exact quiet_leaf rfl q
  | succ n ih =>
    intro d v Q x hd q
    cases x with
    | @tup a vs ds hg hw =>
      unfold eqIsQuiet
      refine wpAny_bind (wpAny_specialOf ⟨_, hg, rfl⟩ F.slot_tuple_eq.lookup ?_)
      show wpAny _ _ (isInstance (.ref a) (.type "tuple") >>= _) _ _ s
      refine wpAny_bind (wpAny_isInstance (T := "tuple") ⟨_, hg, rfl⟩ isSubtype_tuple_tuple ?_)
      simp only [Bool.not_true, Bool.false_eq_true, if_false]
      refine wpAny_bind (wpAny_seqItems hg rfl ?_)
      refine wpAny_bind ?_
      show wpAny _ _ (forIn vs.toArray _ _) _ _ s
      rw [← Array.forIn_toList]
      refine wpAny_forIn_list _ (fun rest r s' => r.1 = none ∧ s' = s ∧ ∃ es, RepAll s.heap rest es ∧ deepAll es ≤ n) _ ?_ ?_ _ _ ⟨rfl, rfl, ds, by simpa using hw, by simp only [deep] at hd; omega⟩
      · rintro v rest r s' ⟨hr, rfl, es, hes, hde⟩
        cases hes with
        | cons h1 h2 =>
          simp only [deepAll] at hde
          refine wpAny_bind (ih _ _ h1 (by omega) ?_)
          simp only [Bool.not_true, Bool.false_eq_true, if_false]
          exact wpAny_pure ⟨rfl, rfl, _, h2, by omega⟩
      · rintro ⟨r1, r2⟩ s' ⟨hr, rfl, _⟩
        simp only at hr
        subst hr
        exact wpAny_pure q
    | _ => exact quiet_leaf rfl q
end

/-! ## the keys, and what the table marks them by -/
noncomputable abbrev S (x : String) : Str := Str.ofString x
noncomputable def keyD : Fin 8 → Dt
  | 0 => .tup [.str (S "face"), .tup [.str (S "int"), .str (S "int")], .int 1]
  | 1 => .tup [.str (S "face"), .tup [.str (S "bool")], .bool true]
  | 2 => .tup [.str (S "face"), .tup [.str (S "int"), .str (S "int8")], .int 1]
  | 3 => .bytes #[97]
  | 4 => .tup [.str (S "struct"), .tup [.int 1, .bytes #[]]]
  | 5 => .tup [.str (S "struct"), .tup [.int 0, .bytes #[]]]
  | 6 => .none
  | 7 => .tup [.str (S "ptr"), .int 3, .tup [.int 1]]
noncomputable def markD : Fin 8 → Dt
  | 0 => .tup [.str (S "face"), .tup [.str (S "int"), .str (S "int")], .tup [.str (S "int"), .int 1]]
  | 1 => .tup [.str (S "face"), .tup [.str (S "bool")], .tup [.str (S "bool"), .bool true]]
  | 2 => .tup [.str (S "face"), .tup [.str (S "int"), .str (S "int8")], .tup [.str (S "int"), .int 1]]
  | 3 => .tup [.str (S "text"), .bytes #[97]]
  | 4 => .tup [.str (S "struct"), .tup [.tup [.str (S "int"), .int 1], .tup [.str (S "text"), .bytes #[]]]]
  | 5 => .tup [.str (S "struct"), .tup [.tup [.str (S "int"), .int 0], .tup [.str (S "text"), .bytes #[]]]]
  | 6 => .tup [.str (S "nil"), .none]
  | 7 => .tup [.str (S "ptr"), .tup [.str (S "ptr"), .int 3, .tup [.int 1]]]
theorem eqv_keys : ∀ x y : Fin 8, eqv (keyD x) (keyD y) = decide (x = y) := by decide +kernel
theorem eqv_marks : ∀ x y : Fin 8, eqv (markD x) (markD y) = decide (x = y) := by decide +kernel
theorem deep_keys : ∀ x : Fin 8, deep (keyD x) ≤ 4 := by decide +kernel
theorem deep_marks : ∀ x : Fin 8, deep (markD x) ≤ 4 := by decide +kernel
theorem mark_inj {x y : Fin 8} (h : markD x = markD y) : x = y := by
  have := eqv_marks x y
  rw [h, eqv_self] at this
  exact of_decide_eq_true this.symm
noncomputable def marks (prog : Program) (w : World) : HeapKind prog w (Fin 8) where
  is h k a := Rep h (.ref a) (markD k)
  hash k := dhash w.params (markD k)
  draws k := ddraws (markD k)
  room A := A.units + 8 < cLine
  inj hx hy := mark_inj (hx.inj hy)
  keeps {h h' k a d o es ep} x ho hd hs := x.keep (ms := [d]) (fun b o e n => (hs.2 b fun q => n (by simp [q])).trans e) (fun b hb vs q => by
    simp only [List.mem_singleton] at hb
    subst hb
    have := Option.some.inj (q.symm.trans ho)
    subst this
    cases hd)
  pyHash {A E s k a Q} hu hk h := hash_rep (markD k) _ A s Q hk (by have := deep_marks k; omega) h
  eqBool {A E s x y a b Q} hu hx hy h := eqAt_rep (markD x) (markD y) hx hy (by have := deep_marks x; omega) prog w E Q (by rw [eqv_marks]; exact h)
  quiet {A E s k a Q} hk h := quiet_rep 8 _ _ hk (by have := deep_marks k; omega) h

/-! ## == and != where they stand in the text -/
section
variable {A : Around} {s : Shared}
theorem range_eqv {vs us : List Value} {ds es : List Dt} (r : RepAll s.heap vs ds) (r' : RepAll s.heap us es) (hu : A.units + deepAll ds + 1 < cLine) :
    ∃ e : Nat → Bool, ((List.range (min vs.length us.length)).all e && vs.length == us.length) = eqvAll ds es ∧ ∀ j (h1 : j < vs.toArray.size) (h2 : j < us.toArray.size), EqAt A.in1 s vs.toArray[j] us.toArray[j] (e j) := by
  refine ⟨fun j => eqv (ds.getD j .none) (es.getD j .none), ?_, fun j h1 h2 => ?_⟩
  · rw [RepAll.length r, RepAll.length r']
    exact eqvAll_range ds es _ fun j h1 h2 => by simp [h1, h2]
  · simp only [List.size_toArray] at h1 h2
    have l1 : j < ds.length := RepAll.length r ▸ h1
    have l2 : j < es.length := RepAll.length r' ▸ h2
    have z := eqAt_rep (s := s) ds[j] es[j] (A := A.in1) (r.get j h1 l1) (r'.get j h2 l2) (by have := deep_get ds j l1; show A.units + 1 + _ < _; omega)
    simpa [l1, l2] using z
theorem rcAt_tup {a b : Addr} {vs us : List Value} {ds es : List Dt} (ha : s.heap.get? a = some (tupObj vs)) (hb : s.heap.get? b = some (tupObj us)) (r : RepAll s.heap vs ds) (r' : RepAll s.heap us es) (hu : A.units + deepAll ds + 1 < cLine) :
    RcAt A s (.ref a) (.ref b) (eqvAll ds es) := by
  obtain ⟨e, h1, h2⟩ := range_eqv r r' hu
  rw [← h1]
  simpa only [List.size_toArray] using RcAt.tuples (isTuple_of ha) (isTuple_of hb) (by omega) h2
theorem rcNe_tup {a b : Addr} {vs us : List Value} {ds es : List Dt} (ha : s.heap.get? a = some (tupObj vs)) (hb : s.heap.get? b = some (tupObj us)) (r : RepAll s.heap vs ds) (r' : RepAll s.heap us es) (hu : A.units + deepAll ds + 1 < cLine) :
    RcNeAt A s (.ref a) (.ref b) (!eqvAll ds es) := by
  obtain ⟨e, h1, h2⟩ := range_eqv r r' hu
  rw [← h1]
  simpa only [List.size_toArray] using RcNeAt.tuples (isTuple_of ha) (isTuple_of hb) (by omega) h2
theorem rcNe_list {a b : Addr} {vs us : List Value} {n k : Nat} {ds es : List Dt} (ha : s.heap.get? a = some (listOf vs.toArray n)) (hb : s.heap.get? b = some (listOf us.toArray k)) (r : RepAll s.heap vs ds) (r' : RepAll s.heap us es) (hu : A.units + deepAll ds + 1 < cLine) :
    RcNeAt A s (.ref a) (.ref b) (!eqvAll ds es) := by
  obtain ⟨e, h1, h2⟩ := range_eqv r r' hu
  rw [← h1]
  by_cases hl : vs.length = us.length
  · have q := RcNeAt.lists (PySem.IsL.isList ha) (PySem.IsL.isList hb) (by simpa using hl) (A := A) (by omega) h2
    simpa [hl] using q
  · have q := RcNeAt.lists_lengths (A := A) (PySem.IsL.isList ha) (PySem.IsL.isList hb) (by simpa using hl) (by omega)
    have z : (vs.length == us.length) = false := by simpa using hl
    rw [z, Bool.and_false]
    exact q
theorem rcAt_rep {d e : Dt} {v u : Value} (h : Rep s.heap v d) (r : Rep s.heap u e) (hu : A.units + deep d < cLine) : RcAt A s v u (eqv d e) := by
  have hu0 : A.units < cLine := Nat.lt_of_le_of_lt (Nat.le_add_right _ _) hu
  cases h with
  | none =>
    cases r with
    | none => exact RcAt.none_none
    | bool b => exact RcAt.none_bool _
    | int => exact RcAt.none_int _ _
    | str => exact RcAt.none_str _ _
    | bytes => exact rcNone_B _ _
    | tup h _ => exact RcAt.none_tuple (isTuple_of h) hu0
  | bool =>
    cases r with
    | none => exact RcAt.bool_none _
    | bool => exact RcAt.bool_bool _ _
    | int => exact RcAt.bool_int _ _ _
    | str => exact RcAt.bool_str _ _ _
    | bytes => exact rcBool_B _ _ _
    | tup h _ => exact RcAt.bool_tuple _ (isTuple_of h) hu0
  | int =>
    cases r with
    | none => exact RcAt.int_none _ _
    | bool => exact RcAt.int_bool _ _ _
    | int => exact RcAt.int_int _ _ _ _
    | str => exact RcAt.int_str _ _ _ _
    | bytes => exact rcInt_B _ _ _ _
    | tup h _ => exact RcAt.int_tuple _ _ (isTuple_of h) hu0
  | str =>
    cases r with
    | none => exact RcAt.str_none _ _
    | bool => exact RcAt.str_bool _ _ _
    | int => exact RcAt.str_int _ _ _ _
    | str => exact RcAt.str_str _ _ _ _
    | bytes => exact rcStr_B _ _ _ _
    | tup h _ => exact RcAt.str_tuple _ _ (isTuple_of h) hu0
  | bytes =>
    cases r with
    | none => exact rcB_none _ _
    | bool => exact rcB_bool _ _ _
    | int => exact rcB_int _ _ _ _
    | str => exact rcB_str _ _ _ _
    | bytes => exact rcB_B _ _ _ _
    | tup h _ => exact rcB_tup _ _ h hu0
  | tup h hr =>
    simp only [deep] at hu
    cases r with
    | none => exact RcAt.tuple_none (isTuple_of h) hu0
    | bool => exact RcAt.tuple_bool _ (isTuple_of h) hu0
    | int => exact RcAt.tuple_int _ _ (isTuple_of h) hu0
    | str => exact RcAt.tuple_str _ _ (isTuple_of h) hu0
    | bytes => exact rcTup_B _ _ h hu0
    | tup h' r' => exact rcAt_tup h h' hr r' (by omega)
end
section
variable {prog : Program} {w : World} {A : Around} {E : Value → Shared → Prop} {s : Shared}
theorem eq_key {x y : Fin 8} {v u : Value} {Q : Value → Shared → Prop} (hv : Rep s.heap v (keyD x)) (hu : Rep s.heap u (keyD y)) (hr : A.units + 8 < cLine) (h : Q (.bool (decide (x = y))) s) : wpAny (model prog w) A (compareOp .Eq v u) Q E s :=
  rcAt_rep hv hu (by have := deep_keys x; omega) prog w E Q (by rw [eqv_keys]; exact h)
theorem ne_tup {a b : Addr} {va vb : List Value} {da db : List Dt} {Q : Value → Shared → Prop} (ha : s.heap.get? a = some (tupObj va)) (hb : s.heap.get? b = some (tupObj vb)) (ra : RepAll s.heap va da) (rb : RepAll s.heap vb db) (hr : A.units + deepAll da + 1 < cLine)
    (h : Q (.bool (!eqvAll da db)) s) : wpAny (model prog w) A (compareOp .NotEq (.ref a) (.ref b)) Q E s := rcNe_tup ha hb ra rb hr prog w E Q h
theorem ne_list {a b : Addr} {va vb : List Value} {n k : Nat} {da db : List Dt} {Q : Value → Shared → Prop} (ha : s.heap.get? a = some (listOf va.toArray n)) (hb : s.heap.get? b = some (listOf vb.toArray k)) (ra : RepAll s.heap va da) (rb : RepAll s.heap vb db) (hr : A.units + deepAll da + 1 < cLine)
    (h : Q (.bool (!eqvAll da db)) s) : wpAny (model prog w) A (compareOp .NotEq (.ref a) (.ref b)) Q E s := rcNe_list ha hb ra rb hr prog w E Q h
end
end
/-! ## Rep3 -/
section
theorem words0_Rep3 : True := by
  w_top off
  k_with_none
  trivial
open PySem.SeqAt
open PySem.MeetsSeq
/-! ## repr -/
theorem slot_bytes_repr : Slot "bytes" "__repr__" "bytes.__repr__" :=
  .of (owner := "bytes") (n := "__repr__") (by rw [typeLookup_type, builtinLookup_eq_fast]; kernel_rfl) (by decide +kernel) (by decide +kernel) (by decide +kernel)
    (by first | exact .inl (by decide +kernel) | exact .inr (by decide +kernel)) (by rw [isSubtype_type]; kernel_rfl)
theorem entry_bytes_repr : entryFor table "bytes.__repr__" = some Builtin.«bytes.__repr__» := entryFor_of_tree (by kernel_rfl)
theorem args_bytes_repr (a : Value) : argsOk "bytes.__repr__" ⟨[a], []⟩ := by
  unfold argsOk; rw [signature?_of (id := "bytes.__repr__") (n := ['_', '_', 'r', 'p', 'e', 'r', '_', '_']) (o := ['s', 'e', 't', 'y', 'b']) (by kernel_rfl) FB.owner_bytes]; kernel_rfl
noncomputable abbrev bytesText (b : Array UInt8) : Str := Builtin.Bytes.literal b
theorem gives_bytes_repr (b : Array UInt8) (t : Tok) (h : b.size ≤ 1000) : Gives (Builtin.«bytes.__repr__» ⟨[.bytes b t], []⟩) (.str (bytesText b)) := by
  have hs : sizeLine = 16777216 := sizeLine_eq
  have h2 : Builtin.Bytes.tooLong (4 * b.size + 3 + 0) = false := by
    unfold Builtin.Bytes.tooLong
    simp only [decide_eq_false_iff_not]
    omega
  show Gives (Builtin.Bytes.literalAsked b >>= fun r => retStr r) _
  unfold Builtin.Bytes.literalAsked
  rw [h2]
  exact .of_eq rfl
theorem reprIs_bytes {prog : Program} {w : World} (b : Array UInt8) (t : Tok) (h : b.size ≤ 1000) (hz : (bytesText b).length ≤ sizeLine) : ReprIs prog w (.bytes b t) (bytesText b) := fun n hn _ _ s _ q => by
  rw [pyReprUnder_leaf (v := .bytes b t) (by omega) (fun _ e => nomatch e)]
  unfold pyRepr
  exact wpAny_bind (wpAny_pyReprObj_gives (typeIs_bytes s b t) slot_bytes_repr entry_bytes_repr (args_bytes_repr _) (gives_bytes_repr b t h) (wpAny_pure (q _)) (hx := hz))

mutual
noncomputable def dtext : Dt → Str
  | .none => "None"
  | .bool b => if b then "True" else "False"
  | .int i => toString i
  | .str x => reprText x
  | .bytes b => bytesText b
  | .tup ds => tupleText (dtexts ds)
noncomputable def dtexts : List Dt → List Str
  | [] => []
  | d :: r => dtext d :: dtexts r
end
mutual
noncomputable def dshort : Dt → Bool
  | .none => true
  | .bool _ => true
  | .int i => decide (i.natAbs.log2 < 1920)
  | .str x => decide ((reprText x).length ≤ 1000)
  | .bytes b => decide (b.size ≤ 1000) && decide ((bytesText b).length ≤ 1000)
  | .tup ds => dshorts ds
noncomputable def dshorts : List Dt → Bool
  | [] => true
  | d :: r => dshort d && dshorts r
end
theorem size_of_mem {d : Dt} {ds : List Dt} (h : d ∈ ds) : sizeOf d < sizeOf (Dt.tup ds) := by
  have := List.sizeOf_lt_of_mem h
  simp only [Dt.tup.sizeOf_spec]
  omega
theorem more_level {prog : Program} {w : World} {as as' : List Addr} {h₀ : Heap} {d d' : Nat} : ∀ {vs : List Value} {ts : List Str}, ReprAllK prog w as h₀ d vs ts → (∀ b ∈ as, b ∈ as') → d ≤ d' → ReprAllK prog w as' h₀ d' vs ts
  | _, _, .nil, _, _ => .nil
  | _, _, .cons a r, i, l => .cons ((a.more i).level_le l) (more_level r i l)
mutual
theorem repr_rep {prog : Program} {w : World} {h : Heap} : ∀ (d : Dt) {v : Value}, Rep h v d → dshort d = true → ∃ as, ReprK prog w as h (deep d) v (dtext d) ∧ ∀ a ∈ as, ∃ e, Rep h (.ref a) e ∧ sizeOf e ≤ sizeOf d
  | .none, _, x, _ => by cases x; exact ⟨[], by simp only [dtext]; exact ReprK.of_is ReprIs.none _ _ _, fun _ m => by cases m⟩
  | .bool b, _, x, _ => by cases x; exact ⟨[], by simp only [dtext]; exact ReprK.of_is (ReprIs.bool b) _ _ _, fun _ m => by cases m⟩
  | .int i, _, x, k => by cases x; exact ⟨[], by simp only [dtext]; exact ReprK.of_is (ReprIs.int _ (by simpa [dshort] using k)) _ _ _, fun _ m => by cases m⟩
  | .str y, _, x, k => by cases x; exact ⟨[], by simp only [dtext]; exact ReprK.of_is (ReprIs.str y _ (Nat.le_trans (by simpa [dshort] using k : (reprText y).length ≤ 1000) (by rw [sizeLine_eq]; omega))) _ _ _, fun _ m => by cases m⟩
  | .bytes b, _, x, k => by
    simp only [dshort, Bool.and_eq_true, decide_eq_true_eq] at k
    cases x; exact ⟨[], by simp only [dtext]; exact ReprK.of_is (reprIs_bytes b _ k.1 (by rw [sizeLine_eq]; omega)) _ _ _, fun _ m => by cases m⟩
  | .tup ds, _, x, k => by
    cases x with
    | @tup a vs _ hg hw =>
      simp only [dshort] at k
      obtain ⟨as, h1, h2⟩ := reprs_rep (prog := prog) (w := w) ds hw k
      refine ⟨a :: as, ?_, ?_⟩
      · simp only [dtext, deep]
        refine ReprK.tuple hg rfl rfl (fun m => ?_) (by simpa using h1)
        obtain ⟨e, he, hs⟩ := h2 a m
        have := Rep.inj he (.tup hg hw)
        subst this
        simp only [Dt.tup.sizeOf_spec] at hs
        omega
      · intro b m
        rcases List.mem_cons.mp m with rfl | m
        · exact ⟨_, .tup hg hw, Nat.le_refl _⟩
        · obtain ⟨e, he, hs⟩ := h2 b m
          exact ⟨e, he, by simp only [Dt.tup.sizeOf_spec]; omega⟩
theorem reprs_rep {prog : Program} {w : World} {h : Heap} : ∀ (ds : List Dt) {vs : List Value}, RepAll h vs ds → dshorts ds = true → ∃ as, ReprAllK prog w as h (deepAll ds) vs (dtexts ds) ∧ ∀ a ∈ as, ∃ e, Rep h (.ref a) e ∧ sizeOf e ≤ sizeOf ds
  | [], _, x, _ => by cases x; exact ⟨[], by simp only [dtexts]; exact .nil, fun _ m => by cases m⟩
  | d :: ds, _, x, k => by
    cases x with
    | cons x1 x2 =>
      simp only [dshorts, Bool.and_eq_true] at k
      obtain ⟨as, a1, a2⟩ := repr_rep (prog := prog) (w := w) d x1 k.1
      obtain ⟨bs, b1, b2⟩ := reprs_rep (prog := prog) (w := w) ds x2 k.2
      refine ⟨as ++ bs, ?_, fun a m => ?_⟩
      · simp only [dtexts]
        refine .cons ((a1.more fun b m => List.mem_append_left _ m).level_le (by simp only [deepAll]; omega)) ?_
        refine more_level b1 (fun b m => List.mem_append_right _ m) (by simp only [deepAll]; omega)
      · simp only [List.cons.sizeOf_spec]
        rcases List.mem_append.mp m with m | m
        · obtain ⟨e, he, hs⟩ := a2 a m; exact ⟨e, he, by omega⟩
        · obtain ⟨e, he, hs⟩ := b2 a m; exact ⟨e, he, by omega⟩
end
theorem text_keys : ∀ j k : Fin 8, (dtext (keyD j) == dtext (keyD k)) = decide (j = k) := by decide +kernel
theorem repr_data {prog : Program} {w : World} {A : Around} {E : Value → Shared → Prop} {s : Shared} {Q : Value → Shared → Prop} {d : Dt} {v : Value} (h : Rep s.heap v d) (hk : dshort d = true) (hz : (dtext d).length ≤ 1000) (hg : A.guards = some []) (hu : A.units + (deep d + 1) < cLine)
    (hQ : ∀ h' u tk, (∀ b o, s.heap.get? b = some o → h'.get? b = some o) → Q (.str (dtext d) u) { s with heap := h', toks := tk }) : wpAny (model prog w) A (call (.builtin "repr") [v]) Q E s := by
  have hz' : (dtext d).length ≤ sizeLine := Nat.le_trans hz (by rw [sizeLine_eq]; omega)
  cases h with
  | none => simp only [dtext] at hQ; exact P.repr_of_none (hQ s.heap _ _ fun _ _ e => e)
  | bool b => simp only [dtext] at hQ; exact P.repr_of_bool (hQ s.heap _ _ fun _ _ e => e)
  | int i t => simp only [dtext] at hQ; exact P.repr_of_int (by simpa [dshort] using hk) (hQ s.heap _ _ fun _ _ e => e)
  | str x t => simp only [dtext] at hQ hz'; exact P.repr_of_str (hQ s.heap _ _ fun _ _ e => e) hz'
  | bytes b t =>
    simp only [dtext] at hQ hz'
    simp only [dshort, Bool.and_eq_true, decide_eq_true_eq] at hk
    exact call_repr_gives (typeIs_bytes s b t) slot_bytes_repr entry_bytes_repr (args_bytes_repr _) (gives_bytes_repr b t hk.1) (hQ s.heap _ _ fun _ _ e => e) (hx := hz')
  | @tup a vs ds hg' hw =>
    simp only [dtext] at hQ hz'
    simp only [dshort] at hk
    simp only [deep] at hu
    obtain ⟨as, h1, h2⟩ := reprs_rep (prog := prog) (w := w) ds hw hk
    have hna : a ∉ as := fun m => by
      obtain ⟨e, he, hs⟩ := h2 a m
      have := Rep.inj he (.tup hg' hw)
      subst this
      simp only [Dt.tup.sizeOf_spec] at hs
      omega
    exact call_repr_slot (by omega) ⟨_, hg', rfl⟩ F.slot_tuple_repr (call_tuple_reprK (h₀ := s.heap) hg' rfl rfl hna (by simpa using h1) (A := A.in1) hg (fun b _ => Clear.nil b) (by show A.units + 1 + (deepAll ds + 1) < cLine; omega) (fun _ _ e => e)
      (fun h' u tk hk => ⟨_, _, rfl, hQ h' u tk hk⟩) hz')
end
/-! ## Comp -/
section
theorem words0_Comp : True := by
  w_top off
  k_with_none
  trivial

/-! ## a comprehension over known items, whose elements are data of the six kinds -/
section
variable {prog : Program} {w : World} {A : Around} {R : Result → Shared → Prop} {s : Shared} {α : Type}

theorem noTup_of {h : Heap} {ms : List Addr} (f : ∀ a ∈ ms, ∃ o, h.get? a = some o ∧ ∀ vs, o ≠ tupObj vs) : NoTup ms h := fun a ha vs e => by
  obtain ⟨o, ho, hn⟩ := f a ha
  rw [ho] at e
  exact hn vs (Option.some.inj e)
theorem noTup_ns {h : Heap} {a : Addr} {m : Str → Option Value} (n : h.Ns a m) : NoTup [a] h := noTup_of fun b hb => by
  simp only [List.mem_singleton] at hb
  subst hb
  obtain ⟨o, es, ep, ho, hd, _⟩ := n
  exact ⟨o, ho, fun vs q => by subst q; cases hd⟩
theorem noTup_plain {h : Heap} {a : Addr} {items : Array Value} (n : h.PlainList a items) : NoTup [a] h := noTup_of fun b hb => by
  simp only [List.mem_singleton] at hb
  subst hb
  obtain ⟨k, ho⟩ := n
  exact ⟨_, ho, fun vs q => by injection q with q; injection q with q; exact absurd q (by decide)⟩
end
end
/-! ## Ops -/
section
theorem words0_Ops : True := by
  w_top off
  k_with_none
  trivial

theorem eraseIdx_mapM {α β : Type} (f : α → β) : ∀ (l : List α) (j : Nat), (l.map f).eraseIdx j = (l.eraseIdx j).map f
  | [], _ => by simp
  | _ :: _, 0 => by simp
  | _ :: r, j + 1 => by simp [eraseIdx_mapM f r j]
section
variable {prog : Program} {w : World} {K : Type} [DecidableEq K] {knd : HeapKind prog w K} {A : Around} {E : Value → Shared → Prop} {s : Shared}
theorem takeOut_heap {d a : Addr} {xs : List (K × Addr × Value)} {k : K} {Q : Option DictEntry → Shared → Prop} (hu : knd.room A) (hkey : knd.is s.heap k a) (hm : s.heap.DictOfH knd d xs)
    (hnone : (∀ (j : Nat) (p : Addr × Value), xs[j]? ≠ some (k, p)) → Q none { s with toks := s.toks + knd.draws k })
    (hsome : ∀ (j : Nat) (p : Addr × Value), xs[j]? = some (k, p) → ∀ h', h'.DictOfH knd d (xs.eraseIdx j) → Heap.SameBut d s.heap h' → Q (some (entryOfKey knd (k, p))) { s with heap := h', toks := s.toks + knd.draws k })
    (hsz : xs.length ≤ sizeLine) :
    wpAny (model prog w) A (Builtin.Dict.takeOut d (.ref a)) Q E s := by
  refine cutC fun C_ kC_ => ?_
  obtain ⟨o, es, ep, ho, hc, hd, he, his, hn⟩ := hm
  refine kC_ ?_
  clear kC_ C_
  have hes := size_of_entries he
  unfold Builtin.Dict.takeOut
  try with_reducible refine wpAny_holding ?_
  refine wpAny_bind (knd.pyHash hu hkey (wpAny_bind (wpAny_dictFind_heap (s := { s with toks := s.toks + knd.draws k }) hu hkey ho hd he his hn ?_ ?_)))
  · intro hno
    exact wpAny_pure (hnone hno)
  · intro j p hj
    have hlt : j < xs.length := by
      rcases Nat.lt_or_ge j xs.length with h | h
      · exact h
      · rw [List.getElem?_eq_none h] at hj; cases hj
    refine wpAny_bind (wpAny_dictEntries (s := { s with toks := s.toks + knd.draws k }) ho hd ?_)
    rw [entry_at he j, hj]
    refine wpAny_bind (wpAny_updateDictKeys (s := { s with toks := s.toks + knd.draws k }) ho hd (wpAny_pure (hsome j p hj _ ⟨_, _, ep + 1, Heap.get?_update_self _ ho (Obj.isFreed_of_dict (Obj.data_mapDictKeys hd _)), hc.mapDictKeys _, Obj.data_mapDictKeys hd _, ?_, ?_, ?_⟩ (Heap.SameBut.update ..))) (by omega) ?_)
    · rw [Array.toList_eraseIdxIfInBounds, he]
      exact eraseIdx_mapM _ _ _
    · intro x hx
      exact knd.keeps (his x (List.mem_of_mem_eraseIdx hx)) ho hd (Heap.SameBut.update ..)
    · rw [← eraseIdx_mapM]
      exact hn.sublist (List.eraseIdx_sublist _ _)
    · have e1 : (es.eraseIdxIfInBounds j).toList.length = (es.eraseIdxIfInBounds j).size := Array.length_toList
      rw [Array.toList_eraseIdxIfInBounds] at e1
      have e2 := List.length_eraseIdx_le es.toList j
      have e3 : es.toList.length = es.size := Array.length_toList
      omega

theorem dpop_heap {d a : Addr} {xs : List (K × Addr × Value)} {k : K} {Q : Value → Shared → Prop} (hu : knd.room A.in1) (hkey : knd.is s.heap k a) (hd : (d == sysModules) = false) (hm : s.heap.DictOfH knd d xs) (hsz : xs.length ≤ sizeLine)
    (hnone : (∀ (j : Nat) (p : Addr × Value), xs[j]? ≠ some (k, p)) → ∀ tk, Q .none { s with toks := tk })
    (hsome : ∀ (j : Nat) (p : Addr × Value), xs[j]? = some (k, p) → ∀ h' tk, h'.DictOfH knd d (xs.eraseIdx j) → Heap.SameBut d s.heap h' → Q p.2 { s with heap := h', toks := tk }) :
    wpAny (model prog w) A (call (.builtin "dict.pop") [.ref d, .ref a, .none]) Q E s := by
  refine call_meetsIn F.slot_dict_pop hm.typeIs F.entry_dict_pop (F.args_dict_pop_3 _ _ _) (S := fun A' R s' => s' = s ∧ A'.in1 = A.in1 ∧ R = wants Q E) (.of_wp fun A' R s' ⟨hs', hA', hR⟩ => ?_) ⟨rfl, rfl, rfl⟩
  subst hs' hR
  rw [hA']
  refine cutC fun C_ kC_ => ?_
  obtain ⟨o, es, ep, ho, hc, hdd, he, his, hn⟩ := id hm
  refine kC_ ?_
  clear kC_ C_
  have hes := size_of_entries he
  unfold Builtin.«dict.pop»
  refine wpAny_bind ?_
  unfold Builtin.Dict.keyAndDefault
  refine wpAny_bind (wpAny_notOrdered_dict hm.typeIs ?_)
  show wpAny _ _ (pure (d, Value.ref a, some Value.none)) _ _ s'
  refine wpAny_pure ?_
  have hk : (keyPart (Value.ref a)).isSome = false := rfl
  simp only [hk, Bool.false_eq_true, if_false]
  refine wpAny_bind (m := dictEntries d) (wpAny_dictEntries ho hdd (wpAny_bind (wpAny_pure ?_)))
  by_cases hem : es.isEmpty = true
  · rw [if_pos hem]
    have hx : xs = [] := by
      have : es.size = 0 := by simpa [Array.isEmpty] using hem
      rw [hes] at this
      exact List.length_eq_zero_iff.mp this
    subst hx
    refine wpAny_bind (wpAny_rule (wpAny_bind (wpAny_pure ?_)))
    simp only [Option.isNone_none, if_true]
    refine wpAny_bind (wpAny_missedRemoval_other hd ?_)
    exact wpAny_bind (wpAny_rule (wpAny_pure ⟨.none, rfl, hnone (by simp) _⟩))
  · rw [if_neg hem]
    refine wpAny_bind (takeOut_heap hu hkey hm (fun hno => ?_) (fun j p hj h' hm' hs' => ?_) hsz)
    · simp only [Option.isNone_none, if_true]
      refine wpAny_bind (wpAny_missedRemoval_other hd ?_)
      exact wpAny_bind (wpAny_rule (wpAny_pure ⟨.none, rfl, hnone hno _⟩))
    · simp only [Option.isNone_some, Bool.false_eq_true, if_false]
      exact wpAny_bind (wpAny_letGo (wpAny_pure ⟨p.2, rfl, hsome j p hj h' _ hm' hs'⟩))
end
end
/-! ## Amb -/
section
theorem words0_Amb : True := by
  w_top off
  k_with_none
  trivial

/-! ## what lies around: data that is neither ground nor mutable -/

/-- all objects of h that are neither ground nor at av -/
noncomputable def oth (g : Heap) (av : List Addr) (h : Heap) : List (Addr × Obj) := (List.range h.objs.size).filterMap fun a => if a ∈ av then none else match g.get? a, h.get? a with
  | none, some o => some (a, o)
  | _, _ => none

theorem mem_oth {g h : Heap} {av : List Addr} {a : Addr} {o : Obj} : (a, o) ∈ oth g av h ↔ h.get? a = some o ∧ g.get? a = none ∧ a ∉ av := by
  unfold oth
  rw [List.mem_filterMap]
  constructor
  · rintro ⟨b, -, e⟩
    by_cases hb : b ∈ av
    · simp [hb] at e
    · simp only [if_neg hb] at e
      cases e1 : g.get? b with
      | some _ => simp [e1] at e
      | none =>
        cases e2 : h.get? b with
        | none => simp [e1, e2] at e
        | some o' => simp only [e1, e2, Option.some.injEq, Prod.mk.injEq] at e; obtain ⟨rfl, rfl⟩ := e; exact ⟨e2, e1, hb⟩
  · rintro ⟨e2, e1, hb⟩
    exact ⟨a, List.mem_range.mpr (Heap.lt_size e2), by simp [hb, e1, e2]⟩

noncomputable def Ext (g : Heap) (ex : List (Addr × Obj)) (h : Heap) : Prop := (∀ b o, g.get? b = some o → h.get? b = some o) ∧ ∀ q ∈ ex, h.get? q.1 = some q.2
noncomputable def Sure (g : Heap) (ex : List (Addr × Obj)) (Φ : Heap → Prop) : Prop := ∀ h, Ext g ex h → Φ h

section
variable {g h h' : Heap} {L : Addr} {m : Str → Option Value} {news ex ex' : List (Addr × Obj)} {Φ : Heap → Prop} {av : List Addr}
theorem Sure.now (S : Sure g ex Φ) (F : Fr g L h m) (N : News g L h news) (hs : ∀ q ∈ ex, q ∈ news) : Φ h := S h ⟨F.keep, fun q hq => (N q (hs q hq)).1⟩
theorem Sure.mono (S : Sure g ex Φ) (hs : ∀ q ∈ ex, q ∈ ex') : Sure g ex' Φ := fun h x => S h ⟨x.1, fun q hq => x.2 q (hs q hq)⟩
theorem Sure.base {v : Value} {d : Dt} (r : Rep g v d) : Sure g ex (Rep · v d) := fun _ x => r.grow x.1
theorem Sure.of (F : Fr g L h m) (k : ∀ h'', Keep av h h'' → Φ h'') : Sure g (oth g av h) Φ := fun h'' x => k h'' fun a o e n => by
  cases q : g.get? a with
  | none => exact x.2 _ (mem_oth.mpr ⟨e, q, n⟩)
  | some o' => have := F.keep _ _ q; rw [e] at this; cases this; exact x.1 _ _ q
theorem oth_news (hL : L ∈ av) : News g L h (oth g av h) := fun q hq => by
  have := mem_oth.mp (show (q.1, q.2) ∈ _ from hq)
  exact ⟨this.1, fun e => this.2.2 (e ▸ hL), this.2.1⟩
theorem oth_off : ∀ q ∈ oth g av h, q.1 ∉ av := fun q hq => (mem_oth.mp (show (q.1, q.2) ∈ _ from hq)).2.2
theorem oth_mono (N : News g L h ex) (hk : ∀ q ∈ ex, h'.get? q.1 = some q.2) (ho : ∀ q ∈ ex, q.1 ∉ av) : ∀ q ∈ ex, q ∈ oth g av h' := fun q hq => mem_oth.mpr ⟨hk q hq, (N q hq).2.2, ho q hq⟩
theorem Sure.rep {v : Value} {d : Dt} (F : Fr g L h m) (nt : NoTup av h) (r : Rep h v d) : Sure g (oth g av h) (Rep · v d) := Sure.of F fun _ k => r.keep k nt
theorem Sure.reps {vs : List Value} {ds : List Dt} (F : Fr g L h m) (nt : NoTup av h) (r : RepAll h vs ds) : Sure g (oth g av h) (RepAll · vs ds) := Sure.of F fun _ k => r.keep k nt

/-- no tuple at the places that may change -/
noncomputable def offTup : Obj → Bool
  | ⟨.type c, none, .seq _ _, _⟩ => !(c == "tuple")
  | ⟨_, none, .seq _ _, _⟩ => true
  | ⟨_, some _, _, _⟩ => true
  | ⟨_, none, _, _⟩ => true
theorem noTup_cons {a : Addr} {o : Obj} (e : h.get? a = some o) (ho : offTup o = true) (r : NoTup av h) : NoTup (a :: av) h := fun b hb vs e' => by
  rcases List.mem_cons.mp hb with rfl | hb
  · rw [e] at e'; cases e'; simp [offTup, tupObj] at ho
  · exact r b hb vs e'
theorem noTup_L (F : Fr g L h m) (r : NoTup av h) : NoTup (L :: av) h := fun b hb vs e' => by
  rcases List.mem_cons.mp hb with rfl | hb
  · exact noTup_ns F.ns b (by simp) vs e'
  · exact r b hb vs e'
theorem off_lt {a : Addr} (h : AllLt a ex) : ∀ p ∈ ex, p.1 ≠ a := by
  induction ex with
  | nil => intro _ hp; cases hp
  | cons q r ih => intro p hp; rcases List.mem_cons.mp hp with rfl | hp; exact Nat.ne_of_lt h.1; exact ih h.2 p hp
end

section
variable {prog : Program} {w : World} {p : Program} {loose : List Str} {mean : ExcName → Option Value} {mg mb : Str → Option Value} {D U : Nat} {s : Shared} {P : Value → Heap → Prop}
/-- a contract at a call in a walk, with what lies around -/
theorem useX {A₀ : Around} {base g : Heap} {outer : List Env} {L : Addr} {m : Str → Option Value} {cn : Str} {cs : Scope} {a : Addr} {ccd : Value} {cl : List (Str × Addr)} {dp un : Nat} {f : Value} {pos : List Value} {Q E : Value → Shared → Prop}
    {news : List (Addr × Obj)} (sub kp ex : List (Addr × Obj)) (av : List Addr)
    (B : Below A₀ base outer g) (F : Fr g L s.heap m) (X : (pre.heap_1 w.params).In g) (N : News g L s.heap news) (T : Top p loose mean mg mb g) (hk : cs.kind = .function)
    (hs : ∀ q ∈ sub, q ∈ news) (hkp : ∀ q ∈ kp, q ∈ news) (hkm : ∀ q ∈ kp, q.1 ∉ sub.map (·.1)) (hex : ∀ q ∈ ex, q ∈ news) (hoff : ∀ q ∈ ex, q.1 ∉ av) (hav : ∀ b ∈ sub.map (·.1), b ∈ av)
    (C : Does prog w p loose mean mg mb (sub.map (·.1)) D U s (.call f ⟨pos, []⟩) P)
    (hd : dp ≤ D) (hu : un ≤ U)
    (ret : ∀ v h' tk ex', Fr g L h' m → News g L h' (kp ++ ex') → (∀ q ∈ ex, q ∈ ex') → (∀ q ∈ ex', q.1 ∉ av) → (ex' = oth g (L :: av) h') →
      (∀ b o', b ∈ sub.map (·.1) → h'.get? b = some o' → News g L h' [(b, o')]) → (∀ b o', s.heap.objs.size ≤ b → h'.get? b = some o' → News g L h' [(b, o')] ∧ AllLt b news) →
      g.objs.size ≤ s.heap.objs.size → P v h' → Q v { s with heap := h', toks := tk }) :
    wpAny (model prog w) (ctr dp un (envX cn cs L a ccd cl :: outer)) (call f pos) Q E s := by
  refine useM sub B F X N T hk hs C hd hu fun v h' tk F' kp' z q => ?_
  have hoff' : ∀ q ∈ ex, q.1 ∉ L :: av := fun q hq hm => by
    rcases List.mem_cons.mp hm with e | hm
    · exact (N q (hex q hq)).2.1 e
    · exact hoff q hq hm
  refine ret v h' tk _ F' (News.append (Mine.News.kept N kp' hkp hkm) (oth_news (by simp))) (oth_mono (fun q hq => N q (hex q hq)) (fun q hq => kp' _ _ (N q (hex q hq)).1 fun hm => hoff q hq (hav _ hm)) hoff') (fun q hq hm => oth_off q hq (List.mem_cons_of_mem _ hm)) rfl ?_ ?_ (Nat.le_trans F.above (Nat.le_of_lt F.ns.lt)) q
  · intro b o' hb e q hq
    simp only [List.mem_singleton] at hq
    subst hq
    obtain ⟨y, hy, rfl⟩ := List.mem_map.mp hb
    exact ⟨e, (N _ (hs _ hy)).2⟩
  · exact fun b o' hz e => ⟨News_made F hz e (List.forall_mem_nil _), allLt_of fun p hp => Nat.lt_of_lt_of_le (Heap.lt_size (N p hp).1) hz⟩
end
end
/-! ## Comp2 -/
section
theorem words0_Comp2 : True := by
  w_top off
  k_with_none
  trivial

/-! ## a comprehension over a list or a tuple of data -/
noncomputable def KeepL (g : Heap) (L : Addr) (m : Str → Option Value) (s₂ s₃ : Shared) : Prop :=
  ∃ h tk, s₃ = { s₂ with heap := h, toks := tk } ∧ (∀ b o, b ≠ L → s₂.heap.get? b = some o → h.get? b = some o) ∧ Fr g L h m

theorem fr_butL {h₀ h h' : Heap} {L : Addr} {ms : List Addr} {m : Str → Option Value} (F : Fr h₀ L h m) (hk : ∀ b o, b ∉ ms → h.get? b = some o → h'.get? b = some o) (hL : L ∉ ms) (hI : ∀ a ∈ ms, h₀.get? a = none) : Fr h₀ L h' m :=
  ⟨F.ns.at' fun o e => hk _ o hL e, fun b o e => hk b o (fun q => by rw [hI _ q] at e; cases e) (F.keep b o e), F.above⟩

section
variable {prog : Program} {w : World} {A : Around} {R : Result → Shared → Prop} {s : Shared}
theorem comp_loop2 {elt iter : Expr} {x : Str} {px : Pos} {ifs : List Expr} {scope : Scope} {pos : Pos} {I D L : Addr} {fp wr : List Addr} {St : Nat → Heap → Prop} {g : Heap} {m : Str → Option Value} {items : List Value} {as : List Dt}
    {cenv : Env} {mc : Str → Option Value} (W : Walks prog w A I fp wr items.length (fun i v => items[i]? = some v) St) (hNT : ∀ i h, St i h → NoTup wr h) (p : Dt → Bool) (G : Dt → Dt) (hit : RepAll s.heap items as)
    (hx : cenv.kindOf x = some .local) (hp : (cenv.scope.kind == .class || (cenv.scope.kind == .module && cenv.locals != cenv.globals)) = false)
    (hDC : D ≠ cenv.locals) (hDf : D ∉ fp) (hCf : cenv.locals ∉ fp) (hLf : L ∉ fp) (hLD : L ≠ D) (hLC : L ≠ cenv.locals) (hg : ∀ a ∈ cenv.locals :: D :: wr, g.get? a = none)
    (hst : St 0 s.heap) (hacc : s.heap.PlainList D #[]) (hn : s.heap.Ns cenv.locals mc) (F₀ : Fr g L s.heap m)
    (htests : ∀ i (h : i < as.length) v h₂ tk₂ m₂, items[i]? = some v → Rep h₂ v as[i] → h₂.Ns cenv.locals m₂ → m₂ x = some v → Fr g L h₂ m → (∀ b o, b ≠ cenv.locals → b ≠ L → b ∉ wr → b ≠ D → s.heap.get? b = some o → h₂.get? b = some o) →
      wpAny (model prog w) A (forIn ifs true fun c r => if r = true then do let ok ← isTrue c cenv (eval c cenv); pure (ForInStep.yield ok) else pure (ForInStep.yield r))
        (fun ok s₃ => ok = p as[i] ∧ KeepL g L m { s with heap := h₂, toks := tk₂ } s₃) (notedBy (model prog w) A cenv fun e s' => R (.error e) s') { s with heap := h₂, toks := tk₂ })
    (helt : ∀ i (h : i < as.length) v h₂ tk₂ m₂, items[i]? = some v → Rep h₂ v as[i] → p as[i] = true → h₂.Ns cenv.locals m₂ → m₂ x = some v → Fr g L h₂ m → (∀ b o, b ≠ cenv.locals → b ≠ L → b ∉ wr → b ≠ D → s.heap.get? b = some o → h₂.get? b = some o) →
      wpAny (model prog w) A (eval elt cenv) (fun y s₃ => Rep s₃.heap y (G as[i]) ∧ KeepL g L m { s with heap := h₂, toks := tk₂ } s₃) (notedBy (model prog w) A cenv fun e s' => R (.error e) s') { s with heap := h₂, toks := tk₂ })
    (hR : ∀ h' tk m' ys, h'.Ns cenv.locals m' → h'.PlainList D ys → RepAll h' ys.toList ((as.filter p).map G) → Fr g L h' m →
      (∀ b o, b ≠ cenv.locals → b ≠ L → b ∉ wr → b ≠ D → s.heap.get? b = some o → h'.get? b = some o) → R (.ok .next) { s with heap := h', toks := tk })
    (hsz : items.length ≤ sizeLine) :
    codeAny (model prog w) A (.compLoop (.ListComp elt [⟨.Name x px, iter, ifs, 0⟩] scope pos) 0 (.ref I) (.ref D) cenv) R s := by
  have hlen : as.length = items.length := hit.length.symm
  generalize hnn : items.length = n at W hsz hlen
  refine codeAny_compLoop_tests
    (fun k s' => ∃ h' tk m' ys, ∃ i : Nat, s' = { s with heap := h', toks := tk } ∧ St i h' ∧ h'.PlainList D ys ∧ h'.Ns cenv.locals m' ∧ RepAll h' items as ∧ RepAll h' ys.toList (((as.take i).filter p).map G) ∧ Fr g L h' m ∧ i ≤ n ∧ k = n + 1 - i ∧
      (∀ b o, b ≠ cenv.locals → b ≠ L → b ∉ wr → b ≠ D → s.heap.get? b = some o → h'.get? b = some o)) ?_ (n + 1)
    ⟨s.heap, s.toks, mc, #[], 0, rfl, hst, hacc, hn, hit, by simpa using RepAll.nil, F₀, Nat.zero_le _, rfl, fun _ _ _ _ _ _ e => e⟩
  intro k s' q_
  refine cutC fun C_ kC_ => ?_
  obtain ⟨H, tk, m', ys, i, rfl, hst', hacc', hn', hI', hF, FF, hi, rfl, hk⟩ := q_
  refine kC_ ?_
  clear kC_ C_
  have hCw : cenv.locals ∉ wr := fun h => hCf (W.sub _ h)
  have hDw : D ∉ wr := fun h => hDf (W.sub _ h)
  have hLw : L ∉ wr := fun h => hLf (W.sub _ h)
  have hgw : ∀ a ∈ wr, g.get? a = none := fun a ha => hg a (by simp [ha])
  by_cases hlt : i < n
  · have hia : i < as.length := hlen ▸ hlt
    refine W.item i _ _ _ hlt hst' fun v h₁ tk₁ hPv hst₁ hk₁ => ?_
    refine wpAny_assign_Name (wpAny_storeName_local hx (hn'.at' fun o e => hk₁ _ o hCw e) (fun h₂ hn₂ hs₂ => ?_) hp)
    have F₁ : Fr g L h₁ m := fr_butL FF hk₁ hLw hgw
    have F₂ : Fr g L h₂ m := fr_butL (ms := [cenv.locals]) F₁ (fun b o e q => hs₂.extBut b o (fun z => e (by simp [z])) q) (by simpa using hLC) (fun a ha => hg a (by simp at ha; simp [ha]))
    have up₂ : ∀ b o, b ≠ cenv.locals → b ∉ wr → H.get? b = some o → h₂.get? b = some o := fun b o hbC hbf e => hs₂.extBut b o hbC (hk₁ b o hbf e)
    have hst₂ : St (i + 1) h₂ := W.frame _ _ _ hst₁ fun b hb o e => hs₂.extBut b o (fun h => hCf (h ▸ hb)) e
    have nt₁ := noTup_ns (hn'.at' fun o e => hk₁ _ o hCw e)
    have kp₂ : Keep [cenv.locals] h₁ h₂ := fun b o e n => hs₂.extBut b o (fun q => n (by simp [q])) e
    have hF₂ : RepAll h₂ ys.toList (((as.take i).filter p).map G) := (hF.keep (fun b o e n => hk₁ b o n e) (hNT _ _ hst')).keep kp₂ nt₁
    have hI₂ : RepAll h₂ items as := (hI'.keep (fun b o e n => hk₁ b o n e) (hNT _ _ hst')).keep kp₂ nt₁
    have rv : Rep h₂ v as[i] := by
      have h1 : i < items.length := hnn ▸ hlt
      have := hI₂.get i h1 hia
      have hPv' := hPv
      rw [List.getElem?_eq_getElem h1, Option.some.injEq] at hPv'
      rw [← hPv']; exact this
    refine wpAny_mono (htests i hia v h₂ _ _ hPv rv hn₂ (by simp) F₂ (fun b o hbC hbL hbf hbD e => up₂ b o hbC hbf (hk b o hbC hbL hbf hbD e))) (fun ok s₃ h₃ => ?_) fun _ _ e => e
    refine cutC fun C_ kC_ => ?_
    obtain ⟨rfl, h₃, tk₃, rfl, hk₃, F₃⟩ := h₃
    refine kC_ ?_
    clear kC_ C_
    dsimp only at hk₃
    have off : ∀ b ∈ fp, b ≠ L := fun b hb q => hLf (q ▸ hb)
    have hst₃ : St (i + 1) h₃ := W.frame _ _ _ hst₂ fun b hb o e => hk₃ b o (off b hb) e
    have hacc₃ : h₃.PlainList D ys := hacc'.at fun o e => hk₃ _ o (Ne.symm hLD) (up₂ D o hDC hDw e)
    have hn₃ := hn₂.at' fun o e => hk₃ _ o (Ne.symm hLC) e
    have kp₃ : Keep [L] h₂ h₃ := fun b o e n => hk₃ b o (fun q => n (by simp [q])) e
    have nt₂ := noTup_ns F₂.ns
    have hF₃ := hF₂.keep kp₃ nt₂
    have hI₃ := hI₂.keep kp₃ nt₂
    have rv₃ := rv.keep kp₃ nt₂
    have htake : as.take (i + 1) = as.take i ++ [as[i]] := by rw [List.take_add_one]; simp [hia]
    cases hpv : p as[i] with
    | false =>
      simp only [Bool.false_eq_true, if_false]
      refine ⟨n + 1 - (i + 1), by omega, h₃, tk₃, _, ys, i + 1, rfl, hst₃, hacc₃, hn₃, hI₃, ?_, F₃, hlt, rfl, fun b o hbC hbL hbf hbD e => hk₃ b o hbL (up₂ b o hbC hbf (hk b o hbC hbL hbf hbD e))⟩
      rw [htake, List.filter_append]; simpa [hpv] using hF₃
    | true =>
      simp only [if_true]
      refine wpAny_mono (helt i hia v h₃ tk₃ _ hPv rv₃ hpv hn₃ (by simp) F₃ (fun b o hbC hbL hbf hbD e => hk₃ b o hbL (up₂ b o hbC hbf (hk b o hbC hbL hbf hbD e)))) (fun y s₄ h₄ => ?_) fun _ _ e => e
      refine cutC fun C_ kC_ => ?_
      obtain ⟨hFy, h₄, tk₄, rfl, hk₄, F₄⟩ := h₄
      refine kC_ ?_
      clear kC_ C_
      dsimp only at hk₄ hFy
      have hys : ys.size ≤ sizeLine := by
        have e1 := hF.length
        have e2 := List.length_filter_le p (as.take i)
        have e3 := List.length_take_le i as
        have e4 : ys.toList.length = ys.size := by simp
        rw [List.length_map] at e1
        omega
      refine wpAny_list_append_plain (hsz := hys) (hacc₃.at fun o e => hk₄ _ o (Ne.symm hLD) e) fun h₅ hl₅ hs₅ => ?_
      have kp₄ : Keep [L] h₃ h₄ := fun b o e n => hk₄ b o (fun q => n (by simp [q])) e
      have nt₃ := noTup_ns F₃.ns
      have up₅ : Keep [D] h₄ h₅ := fun b o e n => hs₅.extBut b o (fun q => n (by simp [q])) e
      have nt := noTup_plain (hacc₃.at fun o e => hk₄ _ o (Ne.symm hLD) e)
      have hn₄ := hn₃.at' fun o e => hk₄ _ o (Ne.symm hLC) e
      refine ⟨n + 1 - (i + 1), by omega, h₅, tk₄, _, ys.push y, i + 1, rfl, ?_, hl₅, hn₄.sameBut hs₅ (Ne.symm hDC), (hI₃.keep kp₄ nt₃).keep up₅ nt, ?_, fr_butL (ms := [D]) F₄ (fun b o e q => up₅ b o q e) (by simpa using hLD) (fun a ha => hg a (by simp at ha; simp [ha])), hlt, rfl,
        fun b o hbC hbL hbf hbD e => hs₅.extBut b o hbD (hk₄ b o hbL (hk₃ b o hbL (up₂ b o hbC hbf (hk b o hbC hbL hbf hbD e))))⟩
      · exact W.frame _ _ h₅ hst₃ fun b hb o e => hs₅.extBut b o (fun h => hDf (h ▸ hb)) (hk₄ b o (off b hb) e)
      · rw [htake, List.filter_append]
        simpa [hpv] using RepAll.append ((hF₃.keep kp₄ nt₃).keep up₅ nt) (.cons (hFy.keep up₅ nt) .nil)
  · have hin : i = n := by omega
    subst hin
    refine W.done _ _ _ hst' fun h₁ tk₁ hk₁ => ?_
    refine hR h₁ tk₁ m' ys (hn'.at' fun o e => hk₁ _ o hCw e) (hacc'.at fun o e => hk₁ _ o hDw e) ?_ (fr_butL FF hk₁ hLw hgw) fun b o hbC hbL hbf hbD e => hk₁ b o hbf (hk b o hbC hbL hbf hbD e)
    have := hF.keep (fun b o e n => hk₁ b o n e) (hNT _ _ hst')
    rw [← hlen, List.take_length] at this
    exact this
end

section
variable {prog : Program} {w : World} {A : Around} {E : Value → Shared → Prop} {env : Env} {g : Heap} {L : Addr} {m : Str → Option Value}

/-- the end of a test or of an element -/
noncomputable def ElEnd {α : Type} (g : Heap) (L : Addr) (m : Str → Option Value) (kp : List (Addr × Obj)) (s₁ : Shared) (P : α → Heap → Prop) (y : α) (s₂ : Shared) : Prop :=
  ∃ h' tk, s₂ = { s₁ with heap := h', toks := tk } ∧ Fr g L h' m ∧ News g L h' kp ∧ P y h'
theorem ElEnd.intro {α : Type} {kp news : List (Addr × Obj)} {s₁ : Shared} {P : α → Heap → Prop} {y : α} {h' : Heap} {tk : Nat} (F : Fr g L h' m) (N : News g L h' news) (hs : ∀ q ∈ kp, q ∈ news) (h : Hold (P y h')) : ElEnd g L m kp s₁ P y { s₁ with heap := h', toks := tk } :=
  ⟨h', tk, rfl, F, fun q hq => N q (hs q hq), h⟩

/-- what is asked of a test or an element (t: its tree): in each turn, with all that lies around -/
noncomputable def Turn {α : Type} (prog : Program) (w : World) (A : Around) (g : Heap) (L : Addr) (m : Str → Option Value) (news ex₀ : List (Addr × Obj)) (x : Str) (vs : List Value) (as : List Dt) (s₂ : Shared) (t : Addr → Sem α) (ok : Dt → Prop) (P : Dt → α → Heap → Prop) : Prop :=
  ∀ i (_ : i < as.length) v C oC mc h tk ex (E' : Value → Shared → Prop), ok as[i] → vs[i]? = some v → Rep h v as[i] → ex = oth g [L] h → LCg.NsObj oC mc → mc x = some v → Fr g L h m → News g L h ((C, oC) :: (news ++ ex)) → (∀ q ∈ ex₀, q ∈ ex) → AllLt C news →
    wpAny (model prog w) A (t C) (ElEnd g L m ((C, oC) :: ex) { s₂ with heap := h, toks := tk } (P as[i])) E' { s₂ with heap := h, toks := tk }

theorem keepL_of {α : Type} {C : Addr} {oC : Obj} {s₁ s₂ : Shared} {P : α → Heap → Prop} {y : α} (F : Fr g L s₁.heap m) (h : ElEnd g L m ((C, oC) :: oth g [L] s₁.heap) s₁ P y s₂) : P y s₂.heap ∧ KeepL g L m s₁ s₂ := by
  refine cutC fun C_ kC_ => ?_
  obtain ⟨h', tk, rfl, F', N, hp⟩ := h
  refine kC_ ?_
  clear kC_ C_
  refine ⟨hp, h', tk, rfl, fun b o hb e => ?_, F'⟩
  cases q : g.get? b with
  | some o' => have := F.keep _ _ q; rw [e] at this; cases this; exact F'.keep _ _ q
  | none => exact (N (b, o) (List.mem_cons_of_mem _ (mem_oth.mpr ⟨e, q, by simpa using hb⟩))).1

noncomputable def AvOk (av : List Addr) (h : Heap) : Prop := ∀ a ∈ av, ∃ o, h.get? a = some o ∧ offTup o = true
theorem avNil {h : Heap} : AvOk [] h := List.forall_mem_nil _
theorem avCons {h : Heap} {a : Addr} {o : Obj} {av : List Addr} (e : h.get? a = some o) (ho : offTup o = true) (r : AvOk av h) : AvOk (a :: av) h := List.forall_mem_cons.mpr ⟨⟨o, e, ho⟩, r⟩
theorem AvOk.noTup {av : List Addr} {h : Heap} (x : AvOk av h) : NoTup av h := noTup_of fun a ha => by
  obtain ⟨o, e, ho⟩ := x a ha
  exact ⟨o, e, fun vs q => by subst q; simp [offTup] at ho⟩
theorem AvOk.keepL {av : List Addr} {h h' : Heap} (x : AvOk av h) (F : Fr g L h' m) (k : ∀ b o, b ≠ L → h.get? b = some o → h'.get? b = some o) : NoTup (L :: av) h' := fun b hb vs e => by
  by_cases hL : b = L
  · subst hL; exact noTup_ns F.ns b (by simp) vs e
  · rcases List.mem_cons.mp hb with rfl | hb
    · exact hL rfl
    · obtain ⟨o, eo, ho⟩ := x b hb
      rw [k b o hL eo] at e
      cases e
      simp [offTup] at ho

theorem Sure.tup {av : List Addr} {h : Heap} {b : Addr} {vs : List Value} (F : Fr g L h m) (nt : NoTup av h) (e : h.get? b = some (tupObj vs)) : Sure g (oth g av h) (fun h' => h'.get? b = some (tupObj vs)) :=
  Sure.of F fun h'' k => k b _ e fun hb => nt b hb vs e
theorem isTup_sure {ex news : List (Addr × Obj)} {h : Heap} {b : Addr} {vs : List Value} (S : Sure g ex (fun h' => h'.get? b = some (tupObj vs))) (F : Fr g L h m) (N : News g L h news) (hs : ∀ q ∈ ex, q ∈ news) : IsTup h b vs.toArray := ⟨_, S.now F N hs, rfl, 0, rfl⟩

noncomputable def CompIn (prog : Program) (w : World) (A : Around) (g : Heap) (L : Addr) (m : Str → Option Value) (env : Env) (elt : Expr) (x : Str) (ifs : List Expr) (scope : Scope) (cl : List (Str × Addr)) (mm : Addr → Str → Option Value) (QQ : Addr → Shared → Prop) (xv : Value) (s₁ : Shared) : Prop :=
  ∀ C : Prop, (∀ (ax : Addr) (items : List Value) (as : List Dt) (kp ex : List (Addr × Obj)) (av : List Addr) (p : Dt → Bool) (G : Dt → Dt), xv = .ref ax → A.handled = none → Fr g L s₁.heap m → News g L s₁.heap (kp ++ ex) → (s₁.heap.IsList ax items.toArray ∨ s₁.heap.IsTuple ax items.toArray) → RepAll s₁.heap items as → items.length ≤ sizeLine → (∀ q ∈ ex, q.1 ∉ av) → AvOk av s₁.heap → (∀ h, Turn prog w A g L m kp ex x items as { s₁ with heap := h } (fun C => forIn ifs true fun c r => if r = true then do let ok ← isTrue c (compEnvC scope cl C env) (eval c (compEnvC scope cl C env)); pure (ForInStep.yield ok) else pure (ForInStep.yield r)) (fun _ => True) (fun d ok _ => ok = p d)) → (∀ h, Turn prog w A g L m kp ex x items as { s₁ with heap := h } (fun C => eval elt (compEnvC scope cl C env)) (fun d => p d = true) (fun d y h' => Rep h' y (G d))) → (∀ D h tk ys k ex', Fr g L h (mm D) → News g L h ((D, W.listOf ys.toArray k) :: (kp ++ ex')) → AllLt D kp → (∀ q ∈ ex, q ∈ ex') → (∀ q ∈ ex', q.1 ∉ av) → Sure g ex' (RepAll · ys ((as.filter p).map G)) → QQ D { s₁ with heap := h, toks := tk }) → C) → C

theorem comp_block2 {elt iter : Expr} {x : Str} {px : Pos} {ifs : List Expr} {scope : Scope} {cl : List (Str × Addr)} {pos : Pos} {s₂ : Shared} {I : Addr} {fp : List Addr} {St : Nat → Heap → Prop} {items : List Value} {as : List Dt} {kp ex : List (Addr × Obj)}
    (W : Walks prog w A I fp [I] items.length (fun i v => items[i]? = some v) St) (hNT : ∀ i h, St i h → NoTup [I] h) (hsz : items.length ≤ sizeLine) (p : Dt → Bool) (G : Dt → Dt) {RR : Value → Addr → Result → Shared → Prop}
    (hcell : ∀ y ∈ scope.names, y.2 ≠ .cell) (hkind : scope.kind = .function) (hx : scope.names.lookup x = some .local) (hst : St 0 s₂.heap) (hfp : ∀ b ∈ fp, b < s₂.heap.objs.size) (hLf : L ∉ fp) (hgI : g.get? I = none) (hnI : ∀ q ∈ kp ++ ex, q.1 ≠ I)
    (hit : RepAll s₂.heap items as) (F : Fr g L s₂.heap m) (N : News g L s₂.heap (kp ++ ex))
    (ht : Turn prog w A g L m kp ex x items as s₂ (fun C => forIn ifs true fun c r => if r = true then do let ok ← isTrue c (compEnvC scope cl C env) (eval c (compEnvC scope cl C env)); pure (ForInStep.yield ok) else pure (ForInStep.yield r)) (fun _ => True) (fun d ok _ => ok = p d))
    (he : Turn prog w A g L m kp ex x items as s₂ (fun C => eval elt (compEnvC scope cl C env)) (fun d => p d = true) (fun d y h' => Rep h' y (G d)))
    (hRR : ∀ D C h' tk m' ys, D = s₂.heap.objs.size → C = s₂.heap.objs.size + 1 → h'.Ns C m' → h'.PlainList D ys → RepAll h' ys.toList ((as.filter p).map G) → Fr g L h' m →
      (∀ b o, b ≠ L → b ≠ I → s₂.heap.get? b = some o → h'.get? b = some o) → RR (.ref D) C (.ok .next) { s₂ with heap := h', toks := tk }) :
    wpAny (model prog w) A (newList []) (fun acc s₃ => wpAny (model prog w) A (newFunctionEnv scope env.globals cl [] env.qual none .none (some env)) (fun cenv s₄ =>
      codeAny (model prog w) A (.compStart (.ListComp elt [⟨.Name x px, iter, ifs, 0⟩] scope pos) 0 (.ref I) acc { cenv with scope := relabel scope env }) (RR acc cenv.locals) s₄) E s₃) E s₂ := by
  refine wpAny_newObj_type (wpAny_newFunctionEnv hcell (by intro y hy; simp at hy) (fun h₁ hns₁ hsb₁ => ?_) hkind)
  dsimp only at hns₁ hsb₁ ⊢
  generalize hH2 : s₂.heap.push { cls := .type "list", dict := none, data := .seq ([] : List Value).toArray } = H2 at hns₁ hsb₁ ⊢
  have hC : H2.objs.size = s₂.heap.objs.size + 1 := by rw [← hH2, Heap.size_push]
  have hDC : s₂.heap.objs.size ≠ H2.objs.size := by rw [hC]; exact Nat.ne_of_lt (Nat.lt_succ_self _)
  have below : ∀ b, b < s₂.heap.objs.size → b ≠ H2.objs.size ∧ b ≠ s₂.heap.objs.size := fun b hb => ⟨by rw [hC]; exact Nat.ne_of_lt (Nat.lt_succ_of_lt hb), Nat.ne_of_lt hb⟩
  have hDf : s₂.heap.objs.size ∉ fp := fun hm => Nat.lt_irrefl _ (hfp _ hm)
  have hCf : H2.objs.size ∉ fp := fun hm => by have := hfp _ hm; rw [hC] at this; exact Nat.lt_irrefl _ (Nat.lt_of_succ_lt this)
  have old : ∀ b o, s₂.heap.get? b = some o → h₁.get? b = some o := fun b o e => hsb₁.extBut b o (below b (Heap.lt_size e)).1 (Heap.get?_push_of_some _ (hH2 ▸ Heap.get?_push_of_some _ e))
  have hacc : h₁.PlainList s₂.heap.objs.size #[] := ⟨_, hsb₁.extBut _ _ hDC (Heap.get?_push_of_some _ (hH2 ▸ Heap.get?_push_size _ rfl))⟩
  have hst₁ : St 0 h₁ := W.frame _ _ _ hst fun b _ o e => old b o e
  have fresh : ∀ a, s₂.heap.objs.size ≤ a → g.get? a = none := fun a ha => by
    cases e : g.get? a with
    | none => rfl
    | some o' => exact absurd (Heap.lt_size (F.keep _ _ e)) (Nat.not_lt.mpr ha)
  have hLs : L < s₂.heap.objs.size := F.ns.lt
  have hIf : I ∈ fp := W.sub _ (by simp)
  have turn : ∀ {α : Type} {t : Addr → Sem α} {ok : Dt → Prop} {P : Dt → α → Heap → Prop} {E' : Value → Shared → Prop}, Turn prog w A g L m kp ex x items as s₂ t ok P → ∀ i (h : i < as.length) v h₂ tk₂ m₂, ok as[i] → items[i]? = some v → Rep h₂ v as[i] → h₂.Ns H2.objs.size m₂ → m₂ x = some v → Fr g L h₂ m →
      (∀ b o, b ≠ H2.objs.size → b ≠ L → b ∉ [I] → b ≠ s₂.heap.objs.size → h₁.get? b = some o → h₂.get? b = some o) →
      wpAny (model prog w) A (t H2.objs.size) (fun y s₃ => P as[i] y s₃.heap ∧ KeepL g L m { s₂ with heap := h₂, toks := tk₂ } s₃) E' { s₂ with heap := h₂, toks := tk₂ } := by
    intro α t ok P E' T i hi v h₂ tk₂ m₂ hok hv rv hn hmx F₂ hk
    obtain ⟨oC, eC, hoC⟩ := LCg.ns_obj hn
    have now : ∀ q ∈ kp ++ ex, h₂.get? q.1 = some q.2 := fun q hq => by
      have hb := below _ (Heap.lt_size (N q hq).1)
      exact hk _ _ hb.1 (N q hq).2.1 (by simpa using hnI q hq) hb.2 (old _ _ (N q hq).1)
    refine wpAny_mono (T i hi v _ oC m₂ h₂ tk₂ (oth g [L] h₂) E' hok hv rv rfl hoC hmx F₂ ?_ ?_ ?_) (fun y s₃ q => keepL_of (s₁ := { s₂ with heap := h₂, toks := tk₂ }) F₂ q) fun _ _ e => e
    · intro q hq
      rcases List.mem_cons.mp hq with rfl | hq
      · exact ⟨eC, by rw [hC]; exact Nat.ne_of_gt (Nat.lt_succ_of_lt hLs), fresh _ (by rw [hC]; exact Nat.le_succ _)⟩
      rcases List.mem_append.mp hq with hq | hq
      · exact ⟨now q (List.mem_append_left _ hq), (N q (List.mem_append_left _ hq)).2⟩
      · exact oth_news (by simp) q hq
    · exact fun q hq => mem_oth.mpr ⟨now q (List.mem_append_right _ hq), (N q (List.mem_append_right _ hq)).2.2, by simpa using (N q (List.mem_append_right _ hq)).2.1⟩
    · refine allLt_of fun q hq => ?_
      rw [hC]; exact Nat.lt_succ_of_lt (Heap.lt_size (N q (List.mem_append_left _ hq)).1)
  have loop : ∀ s₃ : Shared, s₃ = { s₂ with heap := h₁, toks := s₂.toks + ([] : List (Str × Value)).length } →
      codeAny (model prog w) A (.compLoop (.ListComp elt [⟨.Name x px, iter, ifs, 0⟩] scope pos) 0 (.ref I) (.ref s₂.heap.objs.size) (compEnvC scope cl H2.objs.size env))
        (RR (.ref s₂.heap.objs.size) H2.objs.size) s₃ := by
    rintro s₃ rfl
    refine comp_loop2 (g := g) (L := L) (m := m) (as := as) (hsz := hsz) (cenv := compEnvC scope cl H2.objs.size env) W hNT p G (hit.grow old) (lookup_relabel_local hx) (by simp [compEnvC, relabel, hkind]) hDC hDf hCf hLf (Nat.ne_of_lt hLs) (by show L ≠ H2.objs.size; rw [hC]; exact Nat.ne_of_lt (Nat.lt_succ_of_lt hLs)) ?_ hst₁ hacc hns₁ (F.keeps old)
      (fun i hi v h₂ tk₂ m₂ hv rv hn hm F₂ hk => wpAny_mono (turn ht i hi v h₂ tk₂ m₂ trivial hv rv hn hm F₂ hk) (fun _ _ q => q) fun _ _ e => e)
      (fun i hi v h₂ tk₂ m₂ hv rv hpv hn hm F₂ hk => wpAny_mono (turn he i hi v h₂ tk₂ m₂ hpv hv rv hn hm F₂ hk) (fun _ _ q => q) fun _ _ e => e) fun h' tk m' ys hn hpl hF F' hk => ?_
    · intro a ha
      rcases List.mem_cons.mp ha with rfl | ha
      · exact fresh _ (by show _ ≤ H2.objs.size; rw [hC]; exact Nat.le_succ _)
      rcases List.mem_cons.mp ha with rfl | ha
      · exact fresh _ (Nat.le_refl _)
      · rw [List.mem_singleton.mp ha]; exact hgI
    · exact hRR _ _ h' tk m' ys rfl hC hn hpl hF F' fun b o hbL hbI e =>
        hk b o (below b (Heap.lt_size e)).1 hbL (by simpa using hbI) (below b (Heap.lt_size e)).2 (old b o e)
  exact codeAny_compStart_list (loop _ rfl) (W.self 0 _ _ _ hst₁ (loop _ rfl))

theorem comp_core {elt iter : Expr} {x : Str} {px : Pos} {ifs : List Expr} {scope : Scope} {cl : List (Str × Addr)} {pos : Pos} {mm : Addr → Str → Option Value} {QQ : Addr → Shared → Prop} {RR : Value → Addr → Result → Shared → Prop} {xv : Value} {s₁ : Shared}
    (hcell : ∀ y ∈ scope.names, y.2 ≠ .cell) (hkind : scope.kind = .function) (hx : scope.names.lookup x = some .local)
    (hRR : ∀ D C h tk mc, h.Ns C mc → Fr g L h m → C ≠ L → g.get? C = none →
      (∀ h' tk', Fr g L h' (mm D) → (∀ b o, b ≠ L → b ≠ C → h.get? b = some o → h'.get? b = some o) → QQ D { s₁ with heap := h', toks := tk' }) → RR (.ref D) C (.ok .next) { s₁ with heap := h, toks := tk })
    (c : CompIn prog w A g L m env elt x ifs scope cl mm QQ xv s₁) :
    wpAny (model prog w) A (pyIter xv) (fun it s₂ => wpAny (model prog w) A (newList []) (fun acc s₃ => wpAny (model prog w) A (newFunctionEnv scope env.globals cl [] env.qual none .none (some env)) (fun cenv s₄ =>
      codeAny (model prog w) A (.compStart (.ListComp elt [⟨.Name x px, iter, ifs, 0⟩] scope pos) 0 it acc { cenv with scope := relabel scope env }) (RR acc cenv.locals) s₄) E s₃) E s₂) E s₁ := by
  refine c _ fun ax items as kp ex av p G hxv hh F N hsrc hit hsz hoff hav ht he hfin => ?_
  subst hxv
  have up : ∀ (o' : Obj) b o, s₁.heap.get? b = some o → (s₁.heap.push o').get? b = some o := fun o' b o e => Heap.get?_push_of_some _ e
  have fin : ∀ (o' : Obj) (hI : ∀ vs, o' ≠ tupObj vs), ∀ D C h' tk m' ys, D = (s₁.heap.push o').objs.size → C = (s₁.heap.push o').objs.size + 1 → h'.Ns C m' → h'.PlainList D ys → RepAll h' ys.toList ((as.filter p).map G) → Fr g L h' m →
      (∀ b o, b ≠ L → b ≠ s₁.heap.objs.size → (s₁.heap.push o').get? b = some o → h'.get? b = some o) → RR (.ref D) C (.ok .next) { s₁ with heap := h', toks := tk } := by
    intro o' hI D C h' tk m' ys hD hC hn hpl hF F' hk
    rw [Heap.size_push] at hD hC
    have hLs : L < s₁.heap.objs.size := F.ns.lt
    have fresh : ∀ a, s₁.heap.objs.size ≤ a → g.get? a = none := fun a ha => by
      cases e : g.get? a with
      | none => rfl
      | some o' => exact absurd (Heap.lt_size (F.keep _ _ e)) (Nat.not_lt.mpr ha)
    have hzC : s₁.heap.objs.size ≤ C := by rw [hC]; exact Nat.le_trans (Nat.le_succ _) (Nat.le_succ _)
    have hzD : s₁.heap.objs.size ≤ D := by rw [hD]; exact Nat.le_succ _
    refine hRR D C h' tk m' hn F' (Nat.ne_of_gt (Nat.lt_of_lt_of_le hLs hzC)) (fresh _ hzC) fun h₂ tk₂ F₂ hk₂ => ?_
    have k₂ : ∀ b o, b ≠ L → s₁.heap.get? b = some o → h₂.get? b = some o := fun b o hb e => by
      have := Heap.lt_size e
      exact hk₂ b o hb (Nat.ne_of_lt (Nat.lt_of_lt_of_le this hzC)) (hk b o hb (Nat.ne_of_lt this) (up _ b o e))
    have DL : D ≠ L := Nat.ne_of_gt (Nat.lt_of_lt_of_le hLs hzD)
    have DC : D ≠ C := by rw [hC, hD]; exact Nat.ne_of_lt (Nat.lt_succ_self _)
    obtain ⟨k, hpl⟩ := hpl
    have eD := hk₂ _ _ DL DC hpl
    refine hfin D h₂ tk₂ ys.toList k _ F₂ (List.forall_mem_cons.mpr ⟨⟨by simpa [W.listOf] using eD, DL, fresh _ hzD⟩, News.append (fun q hq => ?_) (oth_news (av := L :: av) (by simp))⟩) ?_ ?_ ?_ ?_
    · have := N q (List.mem_append_left _ hq)
      exact ⟨k₂ _ _ this.2.1 this.1, this.2⟩
    · refine allLt_of fun q hq => ?_
      have := Heap.lt_size (N q (List.mem_append_left _ hq)).1
      rw [hD]; exact Nat.lt_succ_of_lt this
    · refine oth_mono (L := L) (h := s₁.heap) (fun q hq => N q (List.mem_append_right _ hq)) (fun q hq => ?_) fun q hq hm => ?_
      · have := N q (List.mem_append_right _ hq)
        exact k₂ _ _ this.2.1 this.1
      · rcases List.mem_cons.mp hm with e | hm
        · exact (N q (List.mem_append_right _ hq)).2.1 e
        · exact hoff q hq hm
    · exact fun q hq hm => oth_off q hq (List.mem_cons_of_mem _ hm)
    · refine Sure.reps F₂ (hav.keepL F₂ k₂) ?_
      refine hF.keep (ms := [L, C]) (fun b o e n => ?_) fun b hb vs e => ?_
      · simp only [List.mem_cons, List.not_mem_nil, or_false, not_or] at n
        exact hk₂ b o n.1 n.2 e
      · simp only [List.mem_cons, List.not_mem_nil, or_false] at hb
        rcases hb with rfl | rfl
        · exact noTup_ns F'.ns _ (by simp) vs e
        · exact noTup_ns hn _ (by simp) vs e
  have nI : ∀ q ∈ kp ++ ex, q.1 ≠ s₁.heap.objs.size := fun q hq => Nat.ne_of_lt (Heap.lt_size (N q hq).1)
  rcases hsrc with hl | hl
  · have hlt : ax < s₁.heap.objs.size := by obtain ⟨_, e, _⟩ := hl; exact Heap.lt_size e
    refine wpAny_pyIter_list hl ?_
    have W := Walks.list (prog := prog) (w := w) hh s₁.heap.objs.size ax (Nat.ne_of_lt hlt) items.toArray
    refine comp_block2 (kp := kp) (ex := ex) (St := fun i h => h.IsListIter s₁.heap.objs.size ax i ∧ h.IsList ax items.toArray) (by simpa using W) ?_ hsz p G hcell hkind hx ⟨⟨_, Heap.get?_push_size _ rfl, rfl, rfl⟩, hl.push _⟩ ?_ ?_ (next_is_new F) nI (hit.grow (up _)) (F.keeps (up _)) (N.grown (up _)) (ht _) (he _) (fin _ (fun vs q => by simp [tupObj] at q))
    · intro i h st
      refine cutC fun C_ kC_ => ?_
      obtain ⟨⟨o, e, hc, hd⟩, _⟩ := st
      refine kC_ ?_
      clear kC_ C_
      exact noTup_of fun b hb => by rw [List.mem_singleton.mp hb]; exact ⟨o, e, fun vs q => by subst q; cases hd⟩
    · intro b hb
      rw [Heap.size_push]
      rcases List.mem_cons.mp hb with rfl | hb
      · exact Nat.lt_succ_self _
      · rw [List.mem_singleton.mp hb]; exact Nat.lt_succ_of_lt hlt
    · intro hm
      rcases List.mem_cons.mp hm with e | hm
      · exact Nat.ne_of_lt F.ns.lt e
      · refine cutC fun C_ kC_ => ?_
        obtain ⟨oL, es, ep, hL, hd, _⟩ := F.ns
        refine kC_ ?_
        clear kC_ C_
        refine cutC fun C_ kC_ => ?_
        obtain ⟨o, e, hc, n, hd'⟩ := hl
        refine kC_ ?_
        clear kC_ C_
        rw [List.mem_singleton.mp hm] at hL
        rw [hL] at e; cases e; rw [hd] at hd'; cases hd'
  · have hlt : ax < s₁.heap.objs.size := by obtain ⟨_, e, _⟩ := hl; exact Heap.lt_size e
    refine wpAny_pyIter_tuple hl ?_
    have W := Walks.tuple (prog := prog) (w := w) hh s₁.heap.objs.size ax (Nat.ne_of_lt hlt) items.toArray
    refine comp_block2 (kp := kp) (ex := ex) (St := fun i h => h.IsTupleIter s₁.heap.objs.size ax i ∧ h.IsTuple ax items.toArray) (by simpa using W) ?_ hsz p G hcell hkind hx ⟨⟨_, Heap.get?_push_size _ rfl, rfl, rfl⟩, hl.push _⟩ ?_ ?_ (next_is_new F) nI (hit.grow (up _)) (F.keeps (up _)) (N.grown (up _)) (ht _) (he _) (fin _ (fun vs q => by simp [tupObj] at q))
    · intro i h st
      refine cutC fun C_ kC_ => ?_
      obtain ⟨⟨o, e, hc, hd⟩, _⟩ := st
      refine kC_ ?_
      clear kC_ C_
      exact noTup_of fun b hb => by rw [List.mem_singleton.mp hb]; exact ⟨o, e, fun vs q => by subst q; cases hd⟩
    · intro b hb
      rw [Heap.size_push]
      rcases List.mem_cons.mp hb with rfl | hb
      · exact Nat.lt_succ_self _
      · rw [List.mem_singleton.mp hb]; exact Nat.lt_succ_of_lt hlt
    · intro hm
      rcases List.mem_cons.mp hm with e | hm
      · exact Nat.ne_of_lt F.ns.lt e
      · refine cutC fun C_ kC_ => ?_
        obtain ⟨oL, es, ep, hL, hd, _⟩ := F.ns
        refine kC_ ?_
        clear kC_ C_
        refine cutC fun C_ kC_ => ?_
        obtain ⟨o, e, hc, n, hd'⟩ := hl
        refine kC_ ?_
        clear kC_ C_
        rw [List.mem_singleton.mp hm] at hL
        rw [hL] at e; cases e; rw [hd] at hd'; cases hd'

theorem comp_K {s : Shared} {elt iter : Expr} {x : Str} {px : Pos} {ifs : List Expr} {scope : Scope} {cl : List (Str × Addr)} {pos : Pos} {Q : Value → Shared → Prop} (F₀ : Fr g L s.heap m)
    (hclos : closureFor scope env = pure cl) (hcell : ∀ y ∈ scope.names, y.2 ≠ .cell) (hkind : scope.kind = .function)
    (hnames : ∀ y ∈ scope.names, y.2 = .local → scope.names.lookup y.1 = some .local) (hx : scope.names.lookup x = some .local)
    (h : wpAny (model prog w) A (eval iter env) (CompIn prog w A g L m env elt x ifs scope cl (fun _ => m) (fun D s' => Q (.ref D) s')) E s)
    (hs : ∀ x, foldedSetIterable iter env x = pure x := by intro _; rfl) :
    wpAny (model prog w) A (eval (.ListComp elt [⟨.Name x px, iter, ifs, 0⟩] scope pos) env) Q E s := by
  rw [eval_ListComp]
  refine wpAny_comprehension_free (use := none) rfl hs hclos hkind hnames (wpAny_mono h (fun xv s₁ c => ?_) fun _ _ e => e)
  refine comp_core (RR := fun acc C => compPost (model prog w) A E none Q acc C) hcell hkind hx (fun D C h tk mc hn F hCL hC k => ?_) c
  exact ⟨mc, hn, fun h'' hs'' => k h'' tk (fr_butL (ms := [C]) F (fun b o e q => hs''.extBut b o (fun z => e (by simp [z])) q) (by simpa using Ne.symm hCL) (by simpa using hC)) fun b o _ hb e => hs''.extBut b o hb e⟩

theorem compA_K {s : Shared} {elt iter : Expr} {x y : Str} {px py : Pos} {ifs : List Expr} {scope : Scope} {cl : List (Str × Addr)} {pos spos : Pos} {Q : Flow → Shared → Prop} (F₀ : Fr g L s.heap m) (hLe : env.locals = L)
    (hsw : swapsWith (.ListComp elt [⟨.Name x px, iter, ifs, 0⟩] scope pos) (some (.Name y py)) spos.line env = pure true)
    (hclos : closureFor scope env = pure cl) (hcell : ∀ y ∈ scope.names, y.2 ≠ .cell) (hkind : scope.kind = .function)
    (hnames : ∀ y ∈ scope.names, y.2 = .local → scope.names.lookup y.1 = some .local) (hx : scope.names.lookup x = some .local)
    (hy : env.kindOf y = some .local) (hp : (env.scope.kind == .class || (env.scope.kind == .module && env.locals != env.globals)) = false)
    (h : wpAny (model prog w) A (eval iter env) (CompIn prog w A g L m env elt x ifs scope cl (fun D z => if z = y then some (.ref D) else m z) (fun _ s' => Q .next s')) E s)
    (hs : ∀ x, foldedSetIterable iter env x = pure x := by intro _; rfl) :
    wpAny (model prog w) A (exec (.Assign [.Name y py] (.ListComp elt [⟨.Name x px, iter, ifs, 0⟩] scope pos) spos) env) Q E s := by
  subst hLe
  rw [exec_Assign_Name_used _ _ _ _ hsw]
  refine wpAny_bind (wpAny_standAt (wpAny_bind ?_))
  show wpAny _ A (do let _ ← comprehension (.ListComp elt [⟨.Name x px, iter, ifs, 0⟩] scope pos) scope env _ (newList []) false (eval iter env) (some (assign (.Name y py) env))) _ _ s
  refine wpAny_bind (wpAny_mono (wpAny_comprehension_free (use := some (assign (.Name y py) env)) (Q := fun _ s' => Q .next s') rfl hs hclos hkind hnames
    (wpAny_mono h (fun xv s₁ c => ?_) fun _ _ e => e)) (fun _ s' hq => wpAny_pure (wpAny_pure hq)) fun _ _ e => e)
  refine comp_core (RR := fun acc C => compPost (model prog w) A E (some (assign (.Name y py) env)) (fun _ s' => Q .next s') acc C) hcell hkind hx (fun D C h tk mc hn F hCL hC k => ?_) c
  show wpAny _ A (assign (.Name y py) env (.ref D)) _ _ _
  refine wpAny_assign_Name (wpAny_storeName_local hy F.ns (fun h₂ hn₂ hs₂ => ?_) hp)
  refine ⟨mc, hn.sameBut hs₂ hCL, fun h'' hs'' => k h'' _ ?_ fun b o hb hb' e => hs''.extBut b o hb' (hs₂.extBut b o hb e)⟩
  have hL₀ : g.get? env.locals = none := Heap.get?_none_of_le F.above
  exact fr_butL (ms := [C]) ⟨hn₂, fun b o e => hs₂.extBut b o (fun q => by rw [q, hL₀] at e; cases e) (F.keep b o e), F.above⟩ (fun b o e q => hs''.extBut b o (fun z => e (by simp [z])) q) (by simpa using Ne.symm hCL) (by simpa using hC)

theorem CompIn.mk0 {elt : Expr} {x : Str} {scope : Scope} {cl : List (Str × Addr)} {mm : Addr → Str → Option Value} {QQ : Addr → Shared → Prop} {s₁ : Shared} {ax : Addr} {items : List Value} {as : List Dt} {news : List (Addr × Obj)} (kp ex : List (Addr × Obj)) (av : List Addr) (G : Dt → Dt)
    (hh : A.handled = none) (F : Fr g L s₁.heap m) (N : News g L s₁.heap news) (hn : news = kp ++ ex) (hsrc : s₁.heap.IsList ax items.toArray ∨ s₁.heap.IsTuple ax items.toArray) (hit : RepAll s₁.heap items as) (hsz : items.length ≤ sizeLine) (hoff : ∀ q ∈ ex, q.1 ∉ av) (hav : AvOk av s₁.heap)
    (he : ∀ h, Turn prog w A g L m kp ex x items as { s₁ with heap := h } (fun C => eval elt (compEnvC scope cl C env)) (fun _ => True) (fun d y h' => Rep h' y (G d)))
    (hf : ∀ D h tk ys k ex', Fr g L h (mm D) → News g L h ((D, W.listOf ys.toArray k) :: (kp ++ ex')) → AllLt D kp → (∀ q ∈ ex, q ∈ ex') → (∀ q ∈ ex', q.1 ∉ av) → Sure g ex' (RepAll · ys (as.map G)) → QQ D { s₁ with heap := h, toks := tk }) :
    CompIn prog w A g L m env elt x [] scope cl mm QQ (.ref ax) s₁ :=
  fun C k_ => k_ ax items as kp ex av (fun _ => true) G rfl hh F (hn ▸ N) hsrc hit hsz hoff hav (fun _ i _ v C oC mc h tk ex' E' _ _ _ _ _ _ F' N' _ _ => wpAny_pure (ElEnd.intro F' N' (fun q hq => by rcases List.mem_cons.mp hq with rfl | hq; exact List.Mem.head _; exact List.mem_cons_of_mem _ (List.mem_append_right _ hq)) rfl)) (fun h i hi v C oC mc h' tk ex' E' _ => he h i hi v C oC mc h' tk ex' E' trivial) (fun D h tk ys k ex' F' N' l1 l2 l3 S => hf D h tk ys k ex' F' N' l1 l2 l3 (by rwa [List.filter_eq_self.mpr (fun _ _ => rfl)] at S))

theorem CompIn.mk1 {elt c : Expr} {x : Str} {scope : Scope} {cl : List (Str × Addr)} {mm : Addr → Str → Option Value} {QQ : Addr → Shared → Prop} {s₁ : Shared} {ax : Addr} {items : List Value} {as : List Dt} {news : List (Addr × Obj)} (kp ex : List (Addr × Obj)) (av : List Addr) (p : Dt → Bool) (G : Dt → Dt)
    (hh : A.handled = none) (F : Fr g L s₁.heap m) (N : News g L s₁.heap news) (hn : news = kp ++ ex) (hsrc : s₁.heap.IsList ax items.toArray ∨ s₁.heap.IsTuple ax items.toArray) (hit : RepAll s₁.heap items as) (hsz : items.length ≤ sizeLine) (hoff : ∀ q ∈ ex, q.1 ∉ av) (hav : AvOk av s₁.heap)
    (ht : ∀ h, Turn prog w A g L m kp ex x items as { s₁ with heap := h } (fun C => isTrue c (compEnvC scope cl C env) (eval c (compEnvC scope cl C env))) (fun _ => True) (fun d ok _ => ok = p d))
    (he : ∀ h, Turn prog w A g L m kp ex x items as { s₁ with heap := h } (fun C => eval elt (compEnvC scope cl C env)) (fun d => p d = true) (fun d y h' => Rep h' y (G d)))
    (hf : ∀ D h tk ys k ex', Fr g L h (mm D) → News g L h ((D, W.listOf ys.toArray k) :: (kp ++ ex')) → AllLt D kp → (∀ q ∈ ex, q ∈ ex') → (∀ q ∈ ex', q.1 ∉ av) → Sure g ex' (RepAll · ys ((as.filter p).map G)) → QQ D { s₁ with heap := h, toks := tk }) :
    CompIn prog w A g L m env elt x [c] scope cl mm QQ (.ref ax) s₁ :=
  fun C k_ => k_ ax items as kp ex av p G rfl hh F (hn ▸ N) hsrc hit hsz hoff hav (fun h i hi v C oC mc h' tk ex' E' o1 o2 o3 o4 o5 o6 o7 o8 o9 oa => by
      exact wpAny_bind (wpAny_bind (wpAny_mono (ht h i hi v C oC mc h' tk ex' E' o1 o2 o3 o4 o5 o6 o7 o8 o9 oa) (fun ok s' q => wpAny_pure (wpAny_pure q)) fun _ _ e => e))) he hf
end
end
/-! ## Srt -/
section
theorem words0_Srt : True := by
  w_top off
  k_with_none
  trivial

/-! ## the values of a dict, whatever its keys -/
noncomputable def RawD (h : Heap) (d : Addr) (es : Array DictEntry) (ep : Nat) : Prop := ∃ o, h.get? d = some o ∧ o.ExactDict ∧ o.data = .dict es ep
theorem RawD.at' {h h' : Heap} {d : Addr} {es : Array DictEntry} {ep : Nat} (x : RawD h d es ep) (e : ∀ o, h.get? d = some o → h'.get? d = some o) : RawD h' d es ep := let ⟨o, ho, r⟩ := x; ⟨o, e _ ho, r⟩
theorem RawD.typeIs {s : Shared} {d : Addr} {es : Array DictEntry} {ep : Nat} (x : RawD s.heap d es ep) : s.TypeIs (.ref d) "dict" := let ⟨o, ho, hc, _⟩ := x; ⟨o, ho, hc.1⟩
section
variable {prog : Program} {w : World} {A : Around} {E : Value → Shared → Prop} {s : Shared} {d : Addr} {es : Array DictEntry} {ep : Nat}

theorem raw_len {Q : Value → Shared → Prop} (hd : (d == sysModules) = false) (hm : RawD s.heap d es ep) (hfit : (es.size : Int) < 2 ^ 63) (h : Q (.int es.size (s.toks + 1)) { s with toks := s.toks + 1 + 1 }) :
    wpAny (model prog w) A (call (.builtin "len") [.ref d]) Q E s := by
  have M : MeetsIn prog w (Builtin.«dict.__len__» ⟨[.ref d], []⟩) (fun _ R s => RawD s.heap d es ep ∧ R (.ok (.ret (.int es.size s.toks))) { s with toks := s.toks + 1 }) := .of_wp fun A R s ⟨⟨o, ho, hc, hdat⟩, h⟩ => by
    show wpAny _ _ (dictSize d >>= _) _ _ s
    unfold dictSize
    refine wpAny_bind (wpAny_bind (wpAny_dictEntries ho hdat (wpAny_pure ?_)))
    show wpAny _ _ (Builtin.Dict.pendingCount d >>= _) _ _ s
    refine wpAny_bind (wpAny_pendingCount_other hd ?_)
    refine wpAny_ret_mkInt ?_
    rw [Nat.add_zero]; exact h
  refine Calls.call_function_entry kind_len plain_len entry_len (args_len1 _) ?_
  unfold Builtin.«len»
  refine wpAny_bind (m := oneArg "len" _) (wpAny_pure ?_)
  refine wpAny_bind (m := callSpecial? (.ref d) (Str.ofString "__len__")) (wpAny_callSpecial?_slot (name := Str.ofString "__len__") hm.typeIs PySem.F.slot_dict_len
    (call_meetsIn PySem.F.slot_dict_len hm.typeIs PySem.F.entry_dict_len (PySem.F.args_dict_len_1 _) M ⟨hm, ?_⟩))
  show wpAny _ _ _ _ _ { s with toks := s.toks + 1 }
  refine wpAny_bind (wpAny_holding (wpAny_pure ?_))
  refine wpAny_bind (wpAny_letGo ?_)
  show wpAny _ _ (if ((es.size : Nat) : Int) < 0 then _ else _) _ _ _
  rw [if_neg (by omega)]
  show wpAny _ _ (if ((es.size : Nat) : Int) ≥ 2 ^ 63 then _ else _) _ _ _
  rw [if_neg (by omega)]
  exact wpAny_bind (wpAny_mkInt (wpAny_pure ⟨_, rfl, h⟩))

theorem raw_values {Q : Value → Shared → Prop} (hd : (d == sysModules) = false) (hm : RawD s.heap d es ep) (h : Q (.ref s.heap.objs.size) { s with heap := s.heap.push { cls := .type "dict_values", data := .fields #[.ref d] } }) :
    wpAny (model prog w) A (call (.builtin "dict.values") [.ref d]) Q E s := by
  have M : MeetsIn prog w (Builtin.«dict.values» ⟨[.ref d], []⟩) (fun _ R s => RawD s.heap d es ep ∧ R (.ok (.ret (.ref s.heap.objs.size))) { s with heap := s.heap.push { cls := .type "dict_values", data := .fields #[.ref d] } }) :=
    .of_wp fun A R s ⟨hm, h⟩ => by
      refine wpAny_bind ?_
      unfold Builtin.Dict.noArgs
      refine wpAny_bind (wpAny_notOrdered_dict hm.typeIs ?_)
      show wpAny _ _ (pure d) _ _ s
      refine wpAny_pure ?_
      show wpAny _ _ (Builtin.Dict.showsAll d >>= _) _ _ s
      unfold Builtin.Dict.showsAll
      rw [if_neg (by rw [hd]; exact Bool.false_ne_true)]
      refine wpAny_bind (wpAny_pure ?_)
      exact wpAny_bind (wpAny_newObj_type (wpAny_pure ⟨_, rfl, h⟩))
  exact call_meetsIn PySem.F.slot_dict_values hm.typeIs PySem.F.entry_dict_values (PySem.F.args_dict_values_1 _) M ⟨hm, h⟩

theorem raw_iter {v : Addr} {Q : Value → Shared → Prop} (hv : s.heap.IsValuesView v d) (hm : RawD s.heap d es ep)
    (hQ : Q (.ref s.heap.objs.size) { s with heap := s.heap.push { cls := .type "dict_valueiterator", data := .fields #[.ref d, .int 0 0, .int es.size 0, .int ep 0] } }) :
    wpAny (model prog w) A (pyIter (.ref v)) Q E s := by
  obtain ⟨ov, hov, hcv, hdv⟩ := id hv
  obtain ⟨o, ho, hc, hdat⟩ := id hm
  refine wpAny_pyIter_slot hv.typeIs PySem.F.slot_dict_values_iter (wpAny_call_entry PySem.F.slot_dict_values_iter hv.typeIs PySem.F.entry_dict_values_iter ?_ (PySem.F.args_dict_values_iter_1 _))
  unfold Builtin.«dict_values.__iter__»
  refine wpAny_bind (wpAny_pure ?_)
  refine wpAny_bind ?_
  unfold Builtin.Dict_items.dictOf
  refine wpAny_bind (wpAny_field hov hdv (x := .ref d) rfl (wpAny_pure ?_))
  refine wpAny_bind ?_
  unfold Builtin.Dict_items.newIterator
  refine wpAny_bind (wpAny_dictEntries ho hdat ?_)
  refine wpAny_bind (wpAny_dictEpoch ho hdat ?_)
  have hown : Builtin.Dict_items.ownsTuple "dict_valueiterator" = false := by decide
  simp only [hown, Bool.false_eq_true, if_false]
  refine wpAny_newObj_type (wpAny_pure ⟨_, rfl, "dict_valueiterator", _, ⟨_, Heap.get?_push_size _ rfl, rfl⟩, PySem.F.slot_dict_valueiterator_next.lookup, ?_⟩)
  simpa [rawInt] using hQ

theorem raw_item {it : Addr} {i : Nat} {Q : Option Value → Shared → Prop} (hit : s.heap.IsValIter it d i es.size ep)
    (hm : RawD s.heap d es ep) (hlt : i < es.size)
    (hQ : ∀ h', h'.IsValIter it d (i + 1) es.size ep → Heap.SameBut it s.heap h' → Q (some es[i].val) { s with heap := h' }) :
    wpAny (model prog w) A (pyNext (.ref it)) Q E s := by
  obtain ⟨o, ho, hc, hd⟩ := id hit
  obtain ⟨od, hod, hcd, hdd⟩ := id hm
  unfold pyNext
  refine wpAny_bind (wpAny_attempt (wpAny_callSpecial?_slot (name := Str.ofString "__next__") hit.typeIs PySem.F.slot_dict_valueiterator_next
    (wpAny_call_entry PySem.F.slot_dict_valueiterator_next hit.typeIs PySem.F.entry_dict_valueiterator_next ?_ (PySem.F.args_dict_valueiterator_next_1 _))))
  refine wpAny_bind (wpAny_pure ?_)
  refine wpAny_bind ?_
  refine wpAny_bind ?_
  first | refine wpAny_bind (wpAny_typeNameOfWhole_valiter hit.typeIs (wpAny_pure ?_)) | refine wpAny_bind (wpAny_typeNameOf_valiter hit.typeIs (wpAny_pure ?_))
  refine wpAny_bind (wpAny_fieldsOf ho hd ?_)
  have hown : Builtin.Dict_items.ownsTuple "dict_valueiterator" = false := by decide
  simp only [hown, Bool.false_eq_true, if_false]
  show wpAny _ _ (if (Value.ref d == Value.none) = true then _ else _) _ _ s
  rw [if_neg (show ¬ ((Value.ref d == Value.none) = true) from Bool.false_ne_true)]
  refine wpAny_bind (wpAny_pure ?_)
  refine wpAny_bind (wpAny_dictEntries hod hdd ?_)
  rw [if_neg (by simp)]
  refine wpAny_bind (wpAny_pure ?_)
  refine wpAny_bind (wpAny_dictEpoch hod hdd ?_)
  rw [if_neg (by simp)]
  refine wpAny_pure ?_
  simp only [show ¬ ((i : Int) < 0) from by omega, if_false, Int.toNat_natCast, Array.getElem?_eq_getElem hlt]
  refine wpAny_bind ?_
  first | refine wpAny_bind (wpAny_typeNameOfWhole_valiter hit.typeIs (wpAny_pure ?_)) | refine wpAny_bind (wpAny_typeNameOf_valiter hit.typeIs (wpAny_pure ?_))
  refine wpAny_bind (wpAny_isOneOf_valiter hit.typeIs ?_)
  show wpAny _ _ (setField (.ref it) 1 (rawInt ((i : Int) + 1)) >>= _) _ _ s
  refine wpAny_bind (wpAny_setField ho hd (by simp) ?_)
  have hit' : (s.heap.update it (Obj.mapFields (·.setIfInBounds 1 (rawInt ((i : Int) + 1))))).IsValIter it d (i + 1) es.size ep :=
    ⟨_, Heap.get?_update_self _ ho (Obj.isFreed_of_fields (Obj.data_mapFields hd _)), (Obj.cls_mapFields ..).trans hc, by rw [Obj.data_mapFields hd]; simp [rawInt]⟩
  refine wpAny_bind (wpAny_holding ?_)
  refine wpAny_bind (wpAny_isOneOf_valiter (s := { s with heap := s.heap.update it (Obj.mapFields (·.setIfInBounds 1 (rawInt ((i : Int) + 1)))) }) hit'.typeIs ?_)
  refine wpAny_bind (wpAny_isOneOf_valiter (s := { s with heap := s.heap.update it (Obj.mapFields (·.setIfInBounds 1 (rawInt ((i : Int) + 1)))) }) hit'.typeIs ?_)
  show wpAny _ _ (pure es[i].val) _ _ _
  exact wpAny_pure (wpAny_pure ⟨_, rfl, wpAny_pure (hQ _ hit' (Heap.SameBut.update ..))⟩)

theorem raw_end {it : Addr} {Q : Option Value → Shared → Prop} (hh : A.handled = none) (hit : s.heap.IsValIter it d es.size es.size ep)
    (hm : RawD s.heap d es ep)
    (hQ : ∀ h', Heap.ExtBut it s.heap h' → Q none { s with heap := h' }) : wpAny (model prog w) A (pyNext (.ref it)) Q E s := by
  obtain ⟨o, ho, hc, hd⟩ := id hit
  obtain ⟨od, hod, hcd, hdd⟩ := id hm
  unfold pyNext
  refine wpAny_bind (wpAny_attempt (wpAny_callSpecial?_slot (name := Str.ofString "__next__") hit.typeIs PySem.F.slot_dict_valueiterator_next
    (wpAny_call_entry PySem.F.slot_dict_valueiterator_next hit.typeIs PySem.F.entry_dict_valueiterator_next ?_ (PySem.F.args_dict_valueiterator_next_1 _))))
  refine wpAny_bind (wpAny_pure ?_)
  refine wpAny_bind ?_
  refine wpAny_bind ?_
  first | refine wpAny_bind (wpAny_typeNameOfWhole_valiter hit.typeIs (wpAny_pure ?_)) | refine wpAny_bind (wpAny_typeNameOf_valiter hit.typeIs (wpAny_pure ?_))
  refine wpAny_bind (wpAny_fieldsOf ho hd ?_)
  have hown : Builtin.Dict_items.ownsTuple "dict_valueiterator" = false := by decide
  simp only [hown, Bool.false_eq_true, if_false]
  show wpAny _ _ (if (Value.ref d == Value.none) = true then _ else _) _ _ s
  rw [if_neg (show ¬ ((Value.ref d == Value.none) = true) from Bool.false_ne_true)]
  refine wpAny_bind (wpAny_pure ?_)
  refine wpAny_bind (wpAny_dictEntries hod hdd ?_)
  rw [if_neg (by simp)]
  refine wpAny_bind (wpAny_pure ?_)
  refine wpAny_bind (wpAny_dictEpoch hod hdd ?_)
  rw [if_neg (by simp)]
  refine wpAny_pure ?_
  simp only [show ¬ ((es.size : Int) < 0) from by omega, if_false, Int.toNat_natCast, Array.getElem?_eq_none (Nat.le_refl _)]
  refine wpAny_bind ?_
  first | refine wpAny_bind (wpAny_typeNameOfWhole_valiter hit.typeIs (wpAny_pure ?_)) | refine wpAny_bind (wpAny_typeNameOf_valiter hit.typeIs (wpAny_pure ?_))
  show wpAny _ _ (setField (.ref it) 0 .none >>= _) _ _ s
  refine wpAny_bind (wpAny_setField ho hd (by simp) ?_)
  show wpAny _ _ (newExc (.type "StopIteration") [] >>= _) _ _ _
  refine wpAny_bind ?_
  simp only [newExc, newTuple]
  refine wpAny_bind (wpAny_newObj_type ?_ (by size_fits))
  refine wpAny_bind (m := firstArgMember _ _) (wpAny_of_eq (a := Value.none) (by first | rfl | (simp only [firstArgMember]; rfl)) ?_)
  refine wpAny_newObj_type ?_ (by size_fits)
  simp only [raiseNew]
  refine wpAny_bind (wpAny_handled ?_)
  rw [show A.in1.handled = none from hh]
  refine wpAny_bind (wpAny_pure (wpAny_throw ?_))
  refine wpAny_bind (wpAny_isInstance (T := "StopIteration") (b := true) ⟨_, Heap.get?_push_size _ rfl, rfl⟩ isSubtype_stop ?_)
  exact wpAny_pure (hQ _ (((Heap.SameBut.update ..).extBut.push _).push _))
end

theorem Walks.raw {prog : Program} {w : World} {A : Around} (hh : A.handled = none) (I d : Addr) (hne : d ≠ I) (es : Array DictEntry) (ep : Nat) :
    Walks prog w A I [I, d] [I] es.size (fun i v => es[i]?.map (·.val) = some v) (fun i h => h.IsValIter I d i es.size ep ∧ RawD h d es ep) where
  sub := fun b hb => by simp at hb; simp [hb]
  frame := fun _ _ _ st hk => ⟨st.1.at fun o e => hk I (by simp) o e, st.2.at' fun o e => hk d (by simp) o e⟩
  item := fun i s Q E hi st hQ => raw_item st.1 st.2 hi fun h' hit' hs' => hQ es[i].val h' s.toks (by simp [hi]) ⟨hit', st.2.at' fun o e => hs'.extBut _ o hne e⟩ fun b o hb e => hs'.extBut b o (fun h => hb (by simp [h])) e
  done := fun s Q E st hQ => raw_end hh st.1 st.2 fun h' he' => hQ h' s.toks fun b o hb e => he' b o (fun h => hb (by simp [h])) e
  self := fun _ _ _ _ st hQ => wpAny_pyIter_valiter st.1 hQ

theorem kdl_raw {prog : Program} {w : World} {r d : Addr} {es : Array DictEntry} {ep : Nat} : KdlSrc prog w "dict_values" r d es.size (fun i v => es[i]?.map (·.val) = some v) (fun h => h.IsValuesView r d ∧ RawD h d es ep) where
  type := fun _ hm => hm.1.typeIs
  there := fun _ hm => ⟨let ⟨_, ho, _⟩ := hm.1; Heap.lt_size ho, let ⟨_, ho, _⟩ := hm.2; Heap.lt_size ho⟩
  keep := fun _ _ hm hk => ⟨let ⟨o, ho, x⟩ := hm.1; ⟨o, hk r (.inl rfl) o ho, x⟩, hm.2.at' fun o e => hk d (.inr rfl) o e⟩
  notList := by decide
  notTuple := by decide
  hint := fun _ _ _ _ hm hq => kdl_hint_values hm.1.typeIs hq
  iter := fun _ _ hh hm => ⟨_, _, (fun _ _ hq => raw_iter hm.1 hm.2 hq), Walks.raw hh _ d (Nat.ne_of_lt (let ⟨_, ho, _⟩ := hm.2; Heap.lt_size ho)) es ep, ⟨⟨_, Heap.get?_push_size _ rfl, rfl, rfl⟩, hm.2.at' fun _ e => Heap.get?_push_of_some _ e⟩⟩

section
variable {prog : Program} {w : World} {A : Around} {E : Value → Shared → Prop} {s : Shared} {T : String} {r d : Addr} {n : Nat} {P : Nat → Value → Prop} {OK : Heap → Prop}
theorem iadd_src {R : Result → Shared → Prop} {S : Addr} (K : KdlSrc prog w T r d n P OK) (hh : A.handled = none) (hok : OK s.heap) (hSr : S ≠ r) (hSd : S ≠ d) (hS : s.heap.get? S = some (seqObj "list" #[] 0)) (hn : n ≤ sizeLine)
    (hR : ∀ h' tk acc' c', (∀ b o, b ≠ S → s.heap.get? b = some o → h'.get? b = some o) → h'.get? S = some { cls := .type "list", dict := none, data := .seq acc' c', slots := #[] } → ItemsOf P acc' n → R (.ok (.ret (.ref S))) { s with heap := h', toks := tk }) :
    codeAny (model prog w) A (.builtin "list.__iadd__" ⟨[.ref S, .ref r], []⟩) R s := by
  refine codeAny_builtin entry_list_iadd' ?_
  rw [Around.under_plainId (show plainId "list.__iadd__" = true by decide +kernel) _]
  exact kdl_extend (A := A) K hh hok S hSr hSd (.ref S) 0 hS hR hn
theorem collect_src {Q : List Value → Shared → Prop} (K : KdlSrc prog w T r d n P OK) (hh : A.handled = none) (hok : OK s.heap) (hn : n ≤ sizeLine)
    (h : ∀ h' tk (vs : List Value), (∀ b o, s.heap.get? b = some o → h'.get? b = some o) → vs.length = n → (∀ j v, vs[j]? = some v → P j v) → Q vs { s with heap := h', toks := tk }) :
    wpAny (model prog w) A (collect (.ref r)) Q E s := by
  unfold collect
  refine wpAny_bind (wpAny_runValue (codeAny_builtin entry_proto_collect' ?_))
  show wpAny _ _ (do again (.builtin "list.__iadd__" ⟨[← newList [], .ref r], []⟩)) _ _ s
  have hlt := K.there _ hok
  refine wpAny_bind (wpAny_newList (wpAny_pure ⟨Code.quiet_builtin _ (by decide +kernel), iadd_src (s := { s with heap := s.heap.push (seqObj "list" #[] 0) }) K hh (K.keep _ _ hok fun b _ o e => Heap.get?_push_of_some _ e) (Nat.ne_of_gt hlt.1) (Nat.ne_of_gt hlt.2) (Heap.get?_push_size _ rfl) hn fun h' tk acc' c' hk hS' hacc => ?_⟩))
  show wpAny (model prog w) A (do
      let o ← load s.heap.objs.size
      match o.data with
      | .seq xs _ => pure xs.toList
      | _ => unsupported "internal:collect") Q E { s with heap := h', toks := tk }
  refine wpAny_bind (wpAny_load hS' ?_)
  show wpAny _ _ (pure acc'.toList) Q E _
  exact wpAny_pure (h h' tk acc'.toList (fun b o e => hk b o (Nat.ne_of_lt (Heap.lt_size e)) (Heap.get?_push_of_some _ e)) (by rw [Array.length_toList]; exact hacc.1) fun j v e => hacc.2 j v (by rw [← Array.getElem?_toList]; exact e))

theorem sorted_src {h₀ : Heap} {L : Addr} {m : Str → Option Value} {news : List (Addr × Obj)} {b : Bool} {kz : List Int} {f : Value} {kw : List (Str × Value)} {vs : List Value} {Q : Value → Shared → Prop} (K : KdlSrc prog w T r d n P OK) (hh : A.handled = none) (hok : OK s.heap)
    (hP : ∀ us : List Value, us.length = n → (∀ j v, us[j]? = some v → P j v) → us = vs)
    (F : Fr h₀ L s.heap m) (N : News h₀ L s.heap news) (hlen : kz.length = vs.length) (hn : vs.length = n) (h64 : vs.length < 64)
    (ha1 : argsOk "sorted" ⟨[.ref r], kw⟩) (ha2 : ∀ x, argsOk "list.sort" ⟨[.ref x], kw⟩) (ht : ∀ x, Builtin.«list.sort» ⟨[.ref x], kw⟩ = ksk_tree x f b)
    (turn : ∀ (i : Nat) (v : Value) (k : Int), vs[i]? = some v → kz[i]? = some k → ∀ (h : Heap) (tk : Nat) (own : List (Addr × Obj)), Fr h₀ L h m → News h₀ L h (news ++ own) →
      wpAny (model prog w) A.in1.in1 (call f [v]) (KskEnd h₀ L m (news ++ own) k { s with heap := h, toks := tk }) (fun _ _ => False) { s with heap := h, toks := tk })
    (h : ∀ D h' tk out c, Fr h₀ L h' m → News h₀ L h' ((D, seqObj "list" out c) :: news) → (∀ q ∈ news, q.1 < D) → KskOut b kz vs out.toList → Q (.ref D) { s with heap := h', toks := tk }) :
    wpAny (model prog w) A (call (.builtin "sorted") [.ref r] kw) Q E s := by
  refine call_function_entry_kw kind_sorted plain_sorted entry_sorted ha1 ?_
  unfold Builtin.«sorted»
  refine wpAny_bind (m := checkCount "sorted" 1 1 _) (wpAny_pure ?_)
  refine wpAny_bind (collect_src (A := A.in1) K hh hok (by rw [sizeLine_eq]; omega) fun h₁ tk₁ us hk₁ hl hp => ?_)
  have := hP us hl hp
  subst this
  refine wpAny_bind (wpAny_newList ?_ (by rw [sizeLine_eq]; omega))
  have F₁ := F.keeps hk₁
  have N₁ := N.grown hk₁
  have hoL : (h₁.push (seqObj "list" us.toArray 0)).get? h₁.objs.size = some (seqObj "list" us.toArray 0) := Heap.get?_push_size _ rfl
  have hL : L < h₁.objs.size := F₁.ns.lt
  show wpAny _ _ _ _ _ { s with heap := h₁.push (seqObj "list" us.toArray 0), toks := tk₁ }
  refine wpAny_bind (wpAny_holding (wpAny_call_entry_kw slot_list_sort ⟨_, hoL, rfl⟩ entry_list_sort ?body (ha2 _)))
  case body =>
    have ht' := ht h₁.objs.size
    show wpAny (model prog w) A.in1.in1 (Builtin.«list.sort» ⟨[.ref h₁.objs.size], kw⟩) _ _ _
    rw [ht']
    refine ksk_sort (s := { s with heap := h₁.push (seqObj "list" us.toArray 0), toks := tk₁ })
      (F₁.push _) (N₁.grown fun _ _ e => Heap.get?_push_of_some _ e) hoL (Nat.ne_of_gt hL) (Heap.get?_none_of_le (Nat.le_trans F.above (Nat.le_of_lt hL)))
      (fun p hp => Nat.ne_of_lt (Heap.lt_size (N₁ p hp).1)) hlen h64 turn fun h' tk out c F' N' k' => ⟨_, rfl, ?_⟩
    exact wpAny_pure ⟨_, rfl, h _ h' tk out c F' N' (fun q hq => Heap.lt_size (N₁ q hq).1) k'⟩

/-- what is sorted already stays as it is -/
theorem out_sorted {kz : List Int} {vs out : List Value} (hl : kz.length = vs.length) (hs : kz.Pairwise (· < ·)) (h : KskOut false kz vs out) : out = vs := by
  obtain ⟨ps, hp, rfl, ho⟩ := h
  have e1 : (kz.zip vs).map Prod.snd = vs := List.map_snd_zip (by omega)
  have e2 : (kz.zip vs).map Prod.fst = kz := List.map_fst_zip (by omega)
  have hz : (kz.zip vs).Pairwise fun p q => p.1 < q.1 := by
    rw [← List.pairwise_map (f := Prod.fst) (R := (· < ·)), e2]; exact hs
  have : ps = kz.zip vs := by
    clear e1 e2 hs hl
    simp only [Bool.false_eq_true, if_false] at ho
    generalize kz.zip vs = qs at hp hz
    induction qs generalizing ps with
    | nil => exact hp.eq_nil
    | cons q qs ih =>
      cases ps with
      | nil => exact absurd hp.length_eq (by simp)
      | cons p ps =>
        have hpq : p = q := by
          have h1 : p ∈ q :: qs := hp.mem_iff.mp (by simp)
          rcases List.mem_cons.mp h1 with h1 | h1
          · exact h1
          · have h2 : q ∈ p :: ps := hp.mem_iff.mpr (by simp)
            rcases List.mem_cons.mp h2 with h2 | h2
            · exact h2.symm
            · have a1 := (List.pairwise_cons.mp hz).1 p h1
              have a2 := (List.pairwise_cons.mp ho).1 q h2
              omega
        subst hpq
        rw [ih (hz := (List.pairwise_cons.mp hz).2) (hp := (List.perm_cons p).mp hp) (ho := (List.pairwise_cons.mp ho).2)]
  rw [this, e1]
end
end
/-! ## Loop -/
section
theorem words0_Loop : True := by
  w_top off
  k_with_none
  trivial
section
variable {prog : Program} {w : World} {A : Around} {E : Value → Shared → Prop} {s : Shared} {env : Env} {g : Heap} {target : Expr} {body : List Stmt} {Q : Flow → Shared → Prop}

noncomputable def LoopNext (g : Heap) (L : Addr) (fp : List Addr) (h₁ : Heap) (J : Heap → (Str → Option Value) → Prop) (s s' : Shared) : Prop :=
  ∃ h' tk m', s' = { s with heap := h', toks := tk } ∧ Fr g L h' m' ∧ (∀ b ∈ fp, ∀ o, h₁.get? b = some o → h'.get? b = some o) ∧ J h' m'
noncomputable def ForEnd (g : Heap) (L : Addr) (fp : List Addr) (h₁ : Heap) (J : Heap → (Str → Option Value) → Prop) (s : Shared) (Q : Flow → Shared → Prop) (f : Flow) (s' : Shared) : Prop :=
  match f with
  | .ret v => Q (.ret v) s'
  | .brk => Q .next s'
  | _ => LoopNext g L fp h₁ J s s'
theorem ForEnd.next {L : Addr} {fp : List Addr} {h₁ h' : Heap} {J : Heap → (Str → Option Value) → Prop} {tk : Nat} {m' : Str → Option Value} (F : Fr g L h' m') (k : ∀ b ∈ fp, ∀ o, h₁.get? b = some o → h'.get? b = some o) (j : J h' m') :
    ForEnd g L fp h₁ J s Q .next { s with heap := h', toks := tk } := ⟨h', tk, m', rfl, F, k, j⟩

/-- a turn's end that the walk sees as one letter -/
noncomputable def ForR (R : Flow → Shared → Prop) (f : Flow) (s' : Shared) : Prop := R f s'
noncomputable def ForNext (g : Heap) (L : Addr) (fp : List Addr) (h₁ : Heap) (J : Heap → (Str → Option Value) → Prop) (s : Shared) (R : Flow → Shared → Prop) : Prop :=
  ∀ h' tk m', Fr g L h' m' → (∀ b ∈ fp, ∀ o, h₁.get? b = some o → h'.get? b = some o) → J h' m' → R .next { s with heap := h', toks := tk }
noncomputable def ForRet (Q R : Flow → Shared → Prop) : Prop := ∀ v s', Q (.ret v) s' → R (.ret v) s'
theorem ForR.next {L : Addr} {fp : List Addr} {h₁ h' : Heap} {J : Heap → (Str → Option Value) → Prop} {tk : Nat} {m' : Str → Option Value} {R : Flow → Shared → Prop} (H : ForNext g L fp h₁ J s R) (F : Fr g L h' m') (k : ∀ b ∈ fp, ∀ o, h₁.get? b = some o → h'.get? b = some o) (j : J h' m') :
    ForR R .next { s with heap := h', toks := tk } := H _ _ _ F k j
theorem ForR.ret {R : Flow → Shared → Prop} {v : Value} {s' : Shared} (H : ForRet Q R) (q : Q (.ret v) s') : ForR R (.ret v) s' := H _ _ q
theorem forNext_end {L : Addr} {fp : List Addr} {h₁ : Heap} {J : Heap → (Str → Option Value) → Prop} : ForNext g L fp h₁ J s (ForEnd g L fp h₁ J s Q) := fun _ _ _ F k j => ForEnd.next F k j
theorem forRet_end {L : Addr} {fp : List Addr} {h₁ : Heap} {J : Heap → (Str → Option Value) → Prop} : ForRet Q (ForEnd g L fp h₁ J s Q) := fun _ _ q => q

noncomputable def ForAt (prog : Program) (w : World) (A : Around) (g : Heap) (env : Env) (target : Expr) (body : List Stmt) (Q : Flow → Shared → Prop) (E : Value → Shared → Prop) (it : Value) (s₂ : Shared) : Prop :=
  ∀ C : Prop, (∀ (I : Addr) (fp wr : List Addr) (n : Nat) (P Md : Nat → Value → Heap → Prop) (St : Nat → Heap → Prop) (m : Str → Option Value) (J : Nat → Heap → (Str → Option Value) → Prop),
    it = .ref I → KTurns prog w A target I fp wr n P Md St → env.locals ∉ fp → (∀ b ∈ wr, g.get? b = none) → (∀ i h, St i h → NoTup wr h) → St 0 s₂.heap → Fr g env.locals s₂.heap m → J 0 s₂.heap m → (∀ i h h' m, J i h m → Keep wr h h' → NoTup wr h → J i h' m) → (∀ i v m₁ h₁ tk₁, i < n → P i v h₁ → J i h₁ m₁ → St (i + 1) h₁ → Fr g env.locals h₁ m₁ →
      wpAny (model prog w) A (assign target env v) (fun _ s₃ => wpAny (model prog w) A (execs body env) (ForEnd g env.locals fp h₁ (J (i + 1)) s₂ Q) E s₃) E { s₂ with heap := h₁, toks := tk₁ }) → (∀ h' tk m', Fr g env.locals h' m' → J n h' m' → Q .next { s₂ with heap := h', toks := tk }) → C) → C

theorem for_K {iter : Expr} {pos : Pos} {L : Addr} {m : Str → Option Value} (_F : Fr g L s.heap m)
    (h : wpAny (model prog w) A (eval iter env) (fun xv s₁ => wpAny (model prog w) A (pyIter xv) (fun it s₂ => ForAt prog w A g env target body Q E it s₂) E s₁) E s)
    (hs : ∀ x, foldedSetIterable iter env x = pure x := by intro _; rfl)
    (hE : PassesOwn (model prog w) A env E := by passes_own) :
    wpAny (model prog w) A (exec (.For target iter body [] pos) env) Q E s := by
  refine wpAny_For (wpAny_mono h (fun xv s₁ h₁ => wpAny_mono h₁ (fun it s₂ h₂ => ?_) fun _ _ e => e) fun _ _ e => e) hs
  refine h₂ _ fun I fp wr n P Md St m J hit W hLf hwr hwt hst F h0 hJ step hQ => ?_
  subst hit
  have hLw : env.locals ∉ wr := fun h => hLf (W.sub _ h)
  refine codeAny_forLoop_any
    (fun k s' => ∃ h' tk m' i, s' = { s₂ with heap := h', toks := tk } ∧ St i h' ∧ Fr g env.locals h' m' ∧ J i h' m' ∧ i ≤ n ∧ k = n + 1 - i) ?_ (n + 1)
    ⟨s₂.heap, s₂.toks, m, 0, rfl, hst, F, h0, Nat.zero_le _, rfl⟩
  intro k s' q_
  refine cutC fun C_ kC_ => ?_
  obtain ⟨h', tk, m', i, rfl, hst', F', hJ', hi, rfl⟩ := q_
  refine kC_ ?_
  clear kC_ C_
  by_cases hlt : i < n
  · refine W.item i _ _ _ hlt hst' fun v h₁ tk₁ hMd hk₁ => ?_
    refine W.go i v _ _ _ hMd fun h₂ hP hst₂ hk₂ => ?_
    have hk : Keep wr h' h₂ := fun b o e hb => hk₂ b o hb (hk₁ b o hb e)
    have F₂ : Fr g env.locals h₂ m' := fr_butL F' (fun b o hb e => hk b o e hb) hLw hwr
    refine wpAny_mono (step i v m' h₂ tk₁ hlt hP (hJ i _ _ _ hJ' hk (hwt i h' hst')) hst₂ F₂) (fun _ s₂ h₂' => wpAny_passesOwn hE (wpAny_mono h₂' (fun f s₃ h₃ => ?_) fun _ _ e => e)) hE
    cases f with
    | ret v => exact h₃
    | brk => exact h₃
    | cont =>
      refine cutC fun C_ kC_ => ?_
      obtain ⟨h₃', tk₃, m₂, rfl, F₃, kf, hJ₃⟩ := h₃
      refine kC_ ?_
      clear kC_ C_
      exact ⟨n + 1 - (i + 1), by omega, h₃', tk₃, m₂, i + 1, rfl, W.frame _ _ _ hst₂ kf, F₃, hJ₃, hlt, rfl⟩
    | next =>
      refine cutC fun C_ kC_ => ?_
      obtain ⟨h₃', tk₃, m₂, rfl, F₃, kf, hJ₃⟩ := h₃
      refine kC_ ?_
      clear kC_ C_
      exact ⟨n + 1 - (i + 1), by omega, h₃', tk₃, m₂, i + 1, rfl, W.frame _ _ _ hst₂ kf, F₃, hJ₃, hlt, rfl⟩
  · have hin : i = n := by omega
    subst hin
    refine W.done _ _ _ hst' fun h₁ tk₁ hk₁ => wpAny_execs_nil ?_
    have hk : Keep wr h' h₁ := fun b o e hb => hk₁ b o hb e
    exact hQ h₁ tk₁ m' (fr_butL F' hk₁ hLw hwr) (hJ i _ _ _ hJ' hk (hwt i h' hst'))

/-- over a list -/
theorem forAt_list {ax : Addr} {vs : List Value} {m : Str → Option Value} (J : Nat → Heap → (Str → Option Value) → Prop) (hh : A.handled = none) (F : Fr g env.locals s.heap m) (hl : s.heap.IsList ax vs.toArray)
    (h0 : ∀ h, (∀ b o, s.heap.get? b = some o → h.get? b = some o) → J 0 h m) (hJ : ∀ i I h h' m, s.heap.objs.size ≤ I → J i h m → Keep [I] h h' → NoTup [I] h → J i h' m)
    (step : ∀ i v m₁ h₁ tk₁ I, vs[i]? = some v → J i h₁ m₁ → Fr g env.locals h₁ m₁ → s.heap.objs.size ≤ I → g.get? I = none → (∃ o, h₁.get? I = some o) →
      ∀ s₂ (R : Flow → Shared → Prop), ForNext g env.locals [I, ax] h₁ (J (i + 1)) { s with heap := s₂ } R → ForRet Q R → wpAny (model prog w) A (assign target env v) (fun _ s₃ => wpAny (model prog w) A (execs body env) (ForR R) E s₃) E { s with heap := h₁, toks := tk₁ })
    (fin : ∀ h' tk m', Fr g env.locals h' m' → J vs.length h' m' → Q .next { s with heap := h', toks := tk }) :
    wpAny (model prog w) A (pyIter (.ref ax)) (fun it s₂ => ForAt prog w A g env target body Q E it s₂) E s := by
  have hlt : ax < s.heap.objs.size := by obtain ⟨_, e, _⟩ := hl; exact Heap.lt_size e
  have up : ∀ (o' : Obj) b o, s.heap.get? b = some o → (s.heap.push o').get? b = some o := fun o' b o e => Heap.get?_push_of_some _ e
  refine wpAny_pyIter_list hl ?_
  refine fun C k_ => k_ s.heap.objs.size _ _ _ _ _ _ m J rfl (KTurns.ofWalks (Walks.list hh s.heap.objs.size ax (Nat.ne_of_lt hlt) vs.toArray) fun i v s Q E st q => letGo_listiter st.1 q) (?_) (?_) (?_) ⟨⟨_, Heap.get?_push_size _ rfl, rfl, rfl⟩, hl.push _⟩ (F.keeps (up _)) (h0 _ (up _)) (fun i h h' m j k n => hJ i _ h h' m (Nat.le_refl _) j k n) (?_) (?_)
  · intro hm
    rcases List.mem_cons.mp hm with e | hm
    · exact Nat.ne_of_lt F.ns.lt e
    · refine cutC fun C_ kC_ => ?_
      obtain ⟨oL, es, ep, hL, hd, _⟩ := F.ns
      refine kC_ ?_
      clear kC_ C_
      refine cutC fun C_ kC_ => ?_
      obtain ⟨o, e, hc, n, hd'⟩ := hl
      refine kC_ ?_
      clear kC_ C_
      rw [List.mem_singleton.mp hm] at hL
      rw [hL] at e; cases e; rw [hd] at hd'; cases hd'
  · intro b hb; rw [List.mem_singleton.mp hb]; exact next_is_new F
  · intro i h st
    refine cutC fun C_ kC_ => ?_
    obtain ⟨⟨o, e, hc, hd⟩, _⟩ := st
    refine kC_ ?_
    clear kC_ C_
    exact noTup_of fun b hb => by rw [List.mem_singleton.mp hb]; exact ⟨o, e, fun vs q => by subst q; cases hd⟩
  · intro i v m₁ h₁ tk₁ hi hP hj st F₁
    obtain ⟨⟨o, e, _⟩, _⟩ := st
    exact step i v m₁ h₁ tk₁ _ (by simpa using hP) hj F₁ (Nat.le_refl _) (next_is_new F) ⟨o, e⟩ _ _ forNext_end forRet_end
  · intro h' tk m' F' hj
    exact fin h' tk m' F' (by simpa using hj)

/-- over a range -/
theorem forAt_range {r : Addr} {t u v' : Tok} {n : Nat} {m : Str → Option Value} (J : Nat → Heap → (Str → Option Value) → Prop) (hh : A.handled = none) (F : Fr g env.locals s.heap m) (hr : IsRange s.heap r 0 (n : Int) 1 t u v') (hsm : Builtin.Range.small 0 (n : Int) 1 = true)
    (h0 : ∀ h, (∀ b o, s.heap.get? b = some o → h.get? b = some o) → J 0 h m) (hJ : ∀ i I h h' m, s.heap.objs.size ≤ I → J i h m → Keep [I] h h' → NoTup [I] h → J i h' m)
    (hgo : ∀ (s' : Shared) (I : Addr) i v (Q' : Unit → Shared → Prop) (E' : Value → Shared → Prop), IsRangeIter s'.heap I (0 + (i : Nat) * 1) ((n : Int) - (i : Nat)) 1 → Q' () s' → wpAny (model prog w) A (letOwnedTupleGo target (.ref I) v) Q' E' s')
    (step : ∀ i t m₁ h₁ tk₁ I, i < n → J i h₁ m₁ → Fr g env.locals h₁ m₁ → s.heap.objs.size ≤ I → g.get? I = none → (∃ o, h₁.get? I = some o) →
      ∀ s₂ (R : Flow → Shared → Prop), ForNext g env.locals [I] h₁ (J (i + 1)) { s with heap := s₂ } R → ForRet Q R → wpAny (model prog w) A (assign target env (.int i t)) (fun _ s₃ => wpAny (model prog w) A (execs body env) (ForR R) E s₃) E { s with heap := h₁, toks := tk₁ })
    (fin : ∀ h' tk m', Fr g env.locals h' m' → J n h' m' → Q .next { s with heap := h', toks := tk }) :
    wpAny (model prog w) A (pyIter (.ref r)) (fun it s₂ => ForAt prog w A g env target body Q E it s₂) E s := by
  have up : ∀ (o' : Obj) b o, s.heap.get? b = some o → (s.heap.push o').get? b = some o := fun o' b o e => Heap.get?_push_of_some _ e
  have hsz : Builtin.Range.rangeSize 0 (n : Int) 1 = n := by simp [Builtin.Range.rangeSize]; omega
  refine wpAny_pyIter_range hr hsm ?_
  refine fun C k_ => k_ s.heap.objs.size ([s.heap.objs.size]) ([s.heap.objs.size]) n _ _ (fun i h => IsRangeIter h s.heap.objs.size (0 + (i : Nat) * 1) ((n : Int) - (i : Nat)) 1) m J rfl (KTurns.ofWalks (Walks.range hh s.heap.objs.size 0 1 n) fun i v s Q E st q => hgo s _ i v Q E st q) (?_) (?_) (?_) (?_) (F.keeps (up _)) (h0 _ (up _)) (fun i h h' m j k n => hJ i _ h h' m (Nat.le_refl _) j k n) (?_) (?_)
  · intro hm
    exact Nat.ne_of_lt F.ns.lt (List.mem_singleton.mp hm)
  · intro b hb; rw [List.mem_singleton.mp hb]; exact next_is_new F
  · intro i h st
    exact noTup_of fun b hb => by rw [List.mem_singleton.mp hb]; exact ⟨_, st, fun vs q => by simp [tupObj] at q⟩
  · show IsRangeIter _ _ _ _ _
    rw [hsz]; simpa using Heap.get?_push_size _ rfl
  · intro i v m₁ h₁ tk₁ hi hP hj st F₁
    obtain ⟨t, rfl⟩ := hP
    have := step i t m₁ h₁ tk₁ _ hi hj F₁ (Nat.le_refl _) (next_is_new F) ⟨_, st⟩
    simp only [Int.mul_one, Int.zero_add]
    exact this _ _ forNext_end forRet_end
  · intro h' tk m' F' hj
    exact fin h' tk m' F' hj

/-- over a list, with its numbers -/
theorem forAt_enum {elts : List Expr} {k : Nat} {pos : Pos} {l : Addr} {vs : List Value} {m : Str → Option Value} (J : Nat → Heap → (Str → Option Value) → Prop) (hh : A.handled = none) (F : Fr g env.locals s.heap m) (hl : s.heap.IsList l vs.toArray)
    (h0 : ∀ h, (∀ b o, s.heap.get? b = some o → h.get? b = some o) → J 0 h m) (hJ : ∀ i I h h' m, s.heap.objs.size ≤ I → J i h m → Keep [I + 1, I] h h' → NoTup [I + 1, I] h → J i h' m)
    (step : ∀ (i : Nat) v m₁ h₁ tk₁ I T t, vs[i]? = some v → IsTup h₁ T #[.int i t, v] → J i h₁ m₁ → Fr g env.locals h₁ m₁ → s.heap.objs.size ≤ I → (∀ b, I ≤ b → g.get? b = none) → (∃ o, h₁.get? I = some o) → (∃ o, h₁.get? (I + 1 : Nat) = some o) →
      ∀ s₂ (R : Flow → Shared → Prop), ForNext g env.locals [(I + 1 : Nat), I, l] h₁ (J (i + 1)) { s with heap := s₂ } R → ForRet Q R → wpAny (model prog w) A (assign (.Tuple elts k pos) env (.ref T)) (fun _ s₃ => wpAny (model prog w) A (execs body env) (ForR R) E s₃) E { s with heap := h₁, toks := tk₁ })
    (fin : ∀ h' tk m', Fr g env.locals h' m' → J vs.length h' m' → Q .next { s with heap := h', toks := tk }) :
    wpAny (model prog w) A (call (.type "enumerate") [.ref l]) (fun xv s₁ => wpAny (model prog w) A (pyIter xv) (fun it s₂ => ForAt prog w A g env (.Tuple elts k pos) body Q E it s₂) E s₁) E s := by
  have hlt : l < s.heap.objs.size := by obtain ⟨_, e, _⟩ := hl; exact Heap.lt_size e
  have hLs : env.locals < s.heap.objs.size := F.ns.lt
  refine call_enumerate_list hl fun h' hE hI hsz hk => ?_
  refine wpAny_pyIter_enum hE ?_
  refine fun C k_ => k_ (s.heap.objs.size + 1) _ _ _ _ _ _ m J rfl (KTurns.ofWalksU (WalksT.enumerate hh (s.heap.objs.size + 1) s.heap.objs.size l (Nat.succ_ne_self _) (ktu_ne 1 hlt) (Nat.ne_of_lt hlt) vs.toArray).toU) (?_) (?_) (?_) ⟨⟨.none, hE⟩, hI, hl.at fun o e => hk l o e⟩ (F.keeps hk) (h0 _ hk) (fun i h h' m j k n => hJ i _ h h' m (Nat.le_refl _) j k n) (?_) (?_)
  · intro hm
    have hb' : env.locals = s.heap.objs.size + 1 ∨ env.locals = s.heap.objs.size ∨ env.locals = l := by simpa using hm
    rcases hb' with e | e | e
    · exact ktu_ne 1 hLs e
    · exact Nat.ne_of_lt hLs e
    · refine cutC fun C_ kC_ => ?_
      obtain ⟨oL, es, ep, hL, hd, _⟩ := F.ns
      refine kC_ ?_
      clear kC_ C_
      refine cutC fun C_ kC_ => ?_
      obtain ⟨o, e', hc, n, hd'⟩ := hl
      refine kC_ ?_
      clear kC_ C_
      rw [e] at hL
      rw [hL] at e'; cases e'; rw [hd] at hd'; cases hd'
  · intro b hb
    have hb' : b = s.heap.objs.size + 1 ∨ b = s.heap.objs.size := by simpa using hb
    rcases hb' with rfl | rfl
    · exact ktu_new F (Nat.le_add_right _ _)
    · exact ktu_new F (Nat.le_refl _)
  · rintro i h ⟨⟨old, he⟩, ⟨oi, hoi, hic, hid⟩, _⟩
    refine noTup_of fun b hb => ?_
    have hb' : b = s.heap.objs.size + 1 ∨ b = s.heap.objs.size := by simpa using hb
    rcases hb' with rfl | rfl
    · exact ⟨_, he, fun vs q => by simp [tupObj] at q⟩
    · exact ⟨oi, hoi, fun vs q => by subst q; cases hid⟩
  · rintro i v m₁ h₁ tk₁ hi ⟨T, vals, rfl, ⟨t, x, hx, rfl⟩, hT⟩ hj ⟨⟨old, he⟩, ⟨oi, hoi, _⟩, _⟩ F₁
    exact step i x m₁ h₁ tk₁ _ T t (by simpa using hx) hT hj F₁ (Nat.le_refl _) (fun b hb => ktu_new F hb) ⟨_, hoi⟩ ⟨_, he⟩ _ _ forNext_end forRet_end
  · intro h' tk m' F' hj
    exact fin h' tk m' F' (by simpa using hj)
end
end
/-! ## Sls -/
section
theorem words0_Sls : True := by
  w_top off
  k_with_none
  trivial
section
variable {prog : Program} {w : World} {A : Around} {E : Value → Shared → Prop} {s : Shared}
/-- l[:] = r -/
theorem setAll_P {l r sl n k : Nat} {items new : List Value} {Q : Unit → Shared → Prop} (ho : s.heap.get? l = some (W.listOf items.toArray n)) (hr : s.heap.get? r = some (W.listOf new.toArray k)) (hlr : l ≠ r)
    (hs : s.heap.IsSliceOf sl .none .none .none) (hz1 : items.length ≤ 1000) (hz2 : new.length ≤ 1000)
    (hQ : ∀ h' n', h'.get? l = some (W.listOf new.toArray n') → Heap.SameBut l s.heap h' → Q () { s with heap := h' }) :
    wpAny (model prog w) A (setItem (.ref l) (.ref sl) (.ref r)) Q E s := by
  have hl : s.heap.IsList l items.toArray := ⟨_, ho, rfl, n, rfl⟩
  obtain ⟨os, hos, hcs, hds⟩ := id hs
  have hTs : s.TypeIs (.ref sl) "slice" := ⟨os, hos, hcs⟩
  unfold setItem
  try with_reducible refine wpAny_holding ?_
  first | refine wpAny_bind (wpAny_pure ?_) | skip
  refine wpAny_bind (wpAny_sequenceKey hl.typeIs (by decide) ?_)
  refine wpAny_bind (wpAny_callSpecial?_slot (name := Str.ofString "__setitem__") hl.typeIs slot_list_setitem
    (wpAny_call_entry slot_list_setitem hl.typeIs entry_list_setitem ?_ (args_list_setitem _ _ _)))
  show wpAny _ _ (Builtin.List.listSubscript? (.ref sl) >>= _) _ _ s
  refine wpAny_bind ?_
  unfold Builtin.List.listSubscript?
  refine wpAny_bind (wpAny_specialOf hTs slice_no_index ?_)
  simp only [Option.isNone_none, if_true]
  refine wpAny_pure ?_
  show wpAny _ _ (typeOf (.ref sl) >>= _) _ _ s
  refine wpAny_bind (wpAny_typeOf hTs ?_)
  rw [if_neg (by decide)]
  rw [listSliceParts_eq]
  have hstep : ¬ ((rawPart none == rawInt 0) = true) := Bool.false_ne_true
  refine wpAny_bind (wpAny_bind (wpAny_field hos hds (x := .none) rfl (wpAny_bind (wpAny_listPart .none ?_))))
  rw [if_neg hstep]
  refine wpAny_bind (wpAny_field hos hds (x := .none) rfl (wpAny_bind (wpAny_listPart .none ?_)))
  refine wpAny_bind (wpAny_field hos hds (x := .none) rfl (wpAny_bind (wpAny_listPart .none (wpAny_pure ?_))))
  have hsame : Builtin.List.listSameRef (.ref l) (.ref r) = false := by simp [Builtin.List.listSameRef, hlr]
  simp only [hsame, Bool.false_eq_true, if_false]
  refine wpAny_bind (m := Builtin.List.listAllItems (.ref r) _) ?_
  unfold Builtin.List.listAllItems
  refine wpAny_bind (wpAny_typeOf (T := "list") ⟨_, hr, rfl⟩ ?_)
  rw [if_pos (by decide)]
  first
    | refine listItems_at hr rfl ?_
    | refine wpAny_bind (listItems_at hr rfl (wpAny_pure ?_))
  refine wpAny_bind (listItems_at ho rfl ?_)
  refine wpAny_bind (wpAny_of_eq (sliceIndices_raw none none none items.toArray.size (by simp)) ?_)
  have hb : sliceBounds none none none items.toArray.size = (0, (items.length : Int), 1) := by simp [sliceBounds]
  rw [hb]
  dsimp only
  rw [if_pos (by decide)]
  refine wpAny_bind (wpAny_rule ?_)
  have hlong : Builtin.List.listTooLong (items.toArray.size + new.toArray.size) = false := by
    simp only [Builtin.List.listTooLong, List.size_toArray, decide_eq_false_iff_not, sizeLine_eq]; omega
  rw [hlong]
  simp only [Bool.false_eq_true, if_false]
  have hcut : items.toArray.extract 0 (0 : Int).toNat ++ new.toArray ++ items.toArray.extract (max (0 : Int) (items.length : Int)).toNat items.toArray.size = new.toArray := by
    have : (max (0 : Int) (items.length : Int)).toNat = items.toArray.size := by simp
    rw [this]
    simp
  have hfin := get?_update_seq (c := "list") ho (fun xs => xs.extract 0 (0 : Int).toNat ++ new.toArray ++ xs.extract (max (0 : Int) (items.length : Int)).toNat xs.size)

  rw [hcut] at hfin
  refine wpAny_bind (listUpdate_at (f := fun xs => xs.extract 0 (0 : Int).toNat ++ new.toArray ++ xs.extract (max (0 : Int) (items.length : Int)).toNat xs.size) ho rfl ?_ (by rw [List.size_toArray, sizeLine_eq]; omega) (by rw [hcut, List.size_toArray, sizeLine_eq]; omega))
  refine wpAny_bind (wpAny_letGo ?_)
  exact wpAny_pure ⟨.none, rfl, wpAny_pure (hQ _ _ (by simpa [seqObj] using hfin) (Heap.SameBut.update ..))⟩
end
end
/-! ## Vk -/
section
theorem words0_Vk : True := by
  w_top off
  k_with_none
  trivial
variable {prog : Program} {w : World} {p : Program} {loose : List Str} {mean : ExcName → Option Value} {mg mb : Str → Option Value} {s : Shared}

theorem kit_base {h₀ h : Heap} {L a : Addr} {m : Str → Option Value} {vs : List Value} (F : Fr h₀ L h m) (e : h₀.get? a = some (tupObj vs)) : KitAt a "tuple" h := ⟨_, F.keep _ _ e, rfl⟩
theorem isTup_base {h₀ h : Heap} {L a : Addr} {m : Str → Option Value} {vs : List Value} (F : Fr h₀ L h m) (e : h₀.get? a = some (tupObj vs)) : IsTup h a vs.toArray := ⟨_, F.keep _ _ e, rfl, 0, rfl⟩

/-- value_tag -/
noncomputable def tagD : Dt → Option Str
  | .none => some (S "nil")
  | .bool _ => some (S "bool")
  | .int _ => some (S "int")
  | .bytes _ => some (S "text")
  | .tup (.str x :: _) => some x
  | _ => none
theorem item_head {A : Around} {E : Value → Shared → Prop} {value slice : Expr} {h₀ : Heap} {L a : Addr} {m : Str → Option Value} {x : Value} {vs : List Value} {u : Nat} {Q : Value → Shared → Prop} (F : Fr h₀ L s.heap m) (e : h₀.get? a = some (tupObj (x :: vs))) (h : Q x s)
    (hs : subscripted slice false (.ref a) (.int 0 u) = operate [.ref a, .int 0 u] (getItem (.ref a) (.int 0 u)) := by with_unfolding_all rfl) : wpAny (model prog w) A (subscriptTail value slice (.ref a) (.int 0 u)) Q E s :=
  item_tupleT (j := 0) (isTup_base F e) (by decide) (by decide) (by simp [seqIndex?]) rfl h hs
noncomputable def strIs (x : Str) : Value → Bool
  | .str z _ => z == x
  | _ => false
noncomputable def isStrV : Value → Bool
  | .str _ _ => true
  | _ => false
theorem in_strs {A : Around} {E : Value → Shared → Prop} {x : Str} {t n : Nat} {a : Addr} {items : List Value} {Q : Value → Shared → Prop} (e : s.heap.get? a = some { cls := .type "tuple", data := .seq items.toArray n }) (hi : items.all isStrV = true)
    (h : Q (.bool (items.any (strIs x))) s) : wpAny (model prog w) A (compareOp .In (.str x t) (.ref a)) Q E s := by
  refine SeqAt.in_tupleAt (strIs x) (l := a) (items := items.toArray) ⟨_, e, rfl, n, rfl⟩ (fun y hy => ?_) (by simpa using h)
  have := List.all_eq_true.mp hi y (by simpa using hy)
  cases y <;> simp [isStrV] at this
  exact SeqAt.EqAt.str_str _ _ _ _
theorem in_top {h₀ h : Heap} {L a : Addr} {m : Str → Option Value} {o : Obj} (F : Fr h₀ L h m) (X : (pre.heap_1 w.params).In h₀) (e : (pre.heap_1 w.params).lookup a = some o) : h.get? a = some o := F.keep _ _ (X _ _ e)
theorem words_Vk4 : True := by
  k_with "m_ex" => (first | with_reducible exact exAt0 | with_reducible exact exAt1 | with_reducible exact exAt2 | with_reducible exact exAt3 | with_reducible exact exAt4 | with_reducible exact exAt5 | with_reducible exact exAt6 | with_reducible exact exAt7 | with_reducible exact exAt8 | with_reducible exact exAt9 | with_reducible exact exAt10 | with_reducible exact exAt11 | with_reducible exact exAt12 | with_reducible exact exAt13 | with_reducible exact exAt14 | with_reducible exact exAt15 | with_reducible exact exAt16 | with_reducible exact exAt17 | with_reducible exact exAt18 | with_reducible exact exAt19 | with_reducible exact exAt20 | with_reducible exact exAt21 | with_reducible exact exAt22 | with_reducible exact exAt23)
  k_with "m_enter" => ((case ho => k_is); (case hcd => k_is); (case hro => decide); (case hb => exact BindsTo.of_eq rfl); (case hl => exact locs rfl); (case c2 => exact rfl); (case c3 => exact rfl); (case c4 => exact rfl); (case c5 => decide))
  k_with "m_enterC" => ((case ho => k_is); (case hcd => k_is); (case hro => decide); (case hb => exact BindsTo.of_eq rfl); (case hl => exact rfl); (case hnd => decide +kernel); (case c2 => exact rfl); (case c3 => exact rfl); (case c4 => exact rfl))
  k_with "EndR" => (refine endR (by with_reducible assumption) (by k_asm) ?_)
  k_with "k_mem" => first | with_reducible exact inAt0 | with_reducible exact inAt1 | with_reducible exact inAt2 | with_reducible exact inAt3 | with_reducible exact inAt4 | with_reducible exact inAt5 | with_reducible exact inAt6 | with_reducible exact inAt7 | with_reducible exact inAt8 | with_reducible exact inAt9 | with_reducible exact inAt10 | with_reducible exact inAt11 | with_reducible exact inAt12 | with_reducible exact inAt13 | with_reducible exact inAt14 | with_reducible exact inAt15 | with_reducible exact inAt16 | with_reducible exact inAt17 | with_reducible exact inAt18 | with_reducible exact inAt19 | with_reducible exact inAt20 | with_reducible exact inAt21 | with_reducible exact inAt22 | with_reducible exact inAt23
  k_with "k_ne" => first | with_reducible assumption | exact neSym (by with_reducible assumption) | exact neLt (by with_reducible assumption) | exact neGt (by with_reducible assumption) | fail
  k_with "call builtin:isinstance" => (k_here; (with_reducible show wpAny _ _ (call _ [Value.ref _, Value.type _]) _ _ _); k_dflt (refine kia_one kitx_tuple (by k_in) (by exact kit_base (by k_asm) (by assumption)) (by kit_is) (by kit_nb) ?_; k_whole); intro _)
  k_with "subscriptTail" => (k_here; (with_reducible show wpAny _ _ (subscriptTail _ _ (Value.ref _) (Value.int _ _)) _ _ _); k_dflt (refine item_tupleT (by first | exact isTup_base (by k_asm) (by assumption) | exact isTup_sure (by assumption) (by k_asm) (by k_asm) (by walk_at "m_ex")) (by decide) (by decide) (by rfl) (by rfl) ?_; k_whole))
  k_with "ElEnd" => (refine ElEnd.intro (by k_asm) (by k_asm) (fmc (by k_mem) (by walk_at "m_ex")) ?_)
  k_with "call type:tuple" => (k_here; (with_reducible show wpAny _ _ (call (Value.type _) [Value.ref _]) _ _ _); k_dflt (refine kde_tupleOf (by k_asm) (by k_asm) (by exact News.isList (by k_asm) (by k_mem)) (by (simp only [List.size_toArray]; omega)) (by exact rfl) ?_; k_whole); intro D' h' F' N' l1; (try k_lt l1); (try k_sweep))
  k_with "m_use" => ((case B => k_asm); (case F => k_asm); (case X => k_asm); (case N => k_asm); (case T => k_asm); (case hk => exact rfl); (case hd => exact Nat.le_of_ble_eq_true rfl); (case hu => exact Nat.le_of_ble_eq_true rfl))
  k_with "m_rep" => ((rename News _ _ _ _ => N9); repeat' (first | with_unfolding_all exact RepAll.nil | with_unfolding_all exact Rep.none | with_unfolding_all exact Rep.bool _ | with_unfolding_all exact Rep.int _ _ | with_unfolding_all exact Rep.str _ _ | with_unfolding_all exact Rep.bytes _ _ | with_unfolding_all refine RepAll.cons ?_ ?_ | with_unfolding_all refine Rep.tup (News.get N9 (by k_mem)) ?_))
  trivial

theorem words_Vk5 : True := by
  k_with "subscriptTail" => (k_here; (with_reducible show wpAny _ _ (subscriptTail _ _ (Value.ref _) (Value.int 0 _)) _ _ _); k_dflt (refine item_head (by k_asm) (by assumption) ?_ (by with_unfolding_all rfl); k_whole))
  trivial
theorem vt_does {v : Value} {d : Dt} {x : Str} (hv : Rep s.heap v d) (ht : tagD d = some x) :
    Does prog w p loose mean mg mb [] 380 400 s (.call (.ref 70) ⟨[v], []⟩) (fun r h' => ∃ t, r = .str x t) := by
  refine' enterM (news := []) (binds := [("value", v)]) ?hm ?hN ?ho ?hcd ?hro ?hb ?hl ?_ ?c2 ?c3 ?c4 ?c5
  case hm => exact rfl
  case hN => exact List.forall_mem_nil _
  walk_at "m_enter"
  intro l A₀ base g L' h' KG hz F' N' ll B' X' T' Rz hRz
  apply cutV (v := v)
  intro C_ kC_
  cases hv
  case str => cases ht
  case tup a vs ds h0 hr =>
    cases hr with
    | nil => cases ht
    | cons hx hr =>
      cases hx with
      | str y t =>
        simp only [tagD, Option.some.injEq] at ht
        subst ht
        replace h0 := KG _ _ h0 (by simp)
        refine kC_ _ ?_
        clear kC_ C_
        try dsimp only
        try k_fold
        k_steps
        all_goals (unfold Hold; exact ⟨_, rfl⟩)
      | _ => cases ht
  all_goals (
    simp only [tagD, Option.some.injEq] at ht
    subst ht
    refine kC_ _ ?_
    clear kC_ C_
    try dsimp only
    try k_fold
    k_steps
    all_goals (unfold Hold; exact ⟨_, rfl⟩))
theorem rep_now {h₀ h : Heap} {L : Addr} {m : Str → Option Value} {v : Value} {d : Dt} (F : Fr h₀ L h m) (r : Rep h₀ v d) : Rep h v d := r.grow F.keep

/-- value_tag at a call -/
theorem words_Vk6 : True := by
  k_with "call ref" => (k_here; (with_reducible show wpAny _ _ (call (Value.ref 70) _ _) _ _ _); (with_unfolding_all refine useP (by k_dflt (k_asm)) (by k_dflt (k_asm)) (by k_dflt (k_asm)) (by k_dflt (k_asm)) (by k_dflt (k_asm)) (by k_dflt (exact rfl)) (vt_does (by k_dflt (first | exact rep_now (by k_asm) (by assumption) | exact Sure.now (by assumption) (by k_asm) (by k_asm) (by walk_at "m_ex"))) (by k_dflt (with_unfolding_all exact rfl))) (by k_dflt (exact Nat.le_of_ble_eq_true rfl)) (by k_dflt (exact Nat.le_of_ble_eq_true rfl)) ?_); (intro v9 h9 tk9 lt9 F9 N9 K9 z9 q9); (obtain ⟨t9, e9⟩ := q9); (subst e9); (clear K9 z9 lt9); (try dsimp only); (try k_sweep))
  trivial

noncomputable def leafD : Dt → Bool
  | .none => true
  | .bool _ => true
  | .int _ => true
  | .bytes _ => true
  | .tup (.str x :: _) => x == S "ptr"
  | _ => false
theorem in_strsB {A : Around} {E : Value → Shared → Prop} {x : Str} {t n : Nat} {a : Addr} {items : List Value} {Q : Value → Shared → Prop} {b : Bool} (e : s.heap.get? a = some { cls := .type "tuple", data := .seq items.toArray n }) (hi : items.all isStrV = true) (hb : items.any (strIs x) = b)
    (h : Q (.bool b) s) : wpAny (model prog w) A (compareOp .In (.str x t) (.ref a)) Q E s := in_strs e hi (hb ▸ h)
theorem eq_strB {A : Around} {E : Value → Shared → Prop} {x y : Str} {t u : Nat} {Q : Value → Shared → Prop} {b : Bool} (hb : (x == y) = b)
    (h : Q (.bool b) s) : wpAny (model prog w) A (compareOp .Eq (.str x t) (.str y u)) Q E s := eq_str (hb ▸ h)
theorem words_Vk7 : True := by
  k_with "compareOp Eq str str" => first | refine eq_strB (b := false) (by decide +kernel) ?_ | refine eq_strB (b := true) (by decide +kernel) ?_
  k_with "compareOp In str ref" => (k_here; (with_reducible show wpAny _ _ (compareOp CmpOp.In (Value.str _ _) (Value.ref _)) _ _ _); k_dflt (first | (refine in_strsB (b := false) (by exact in_top (by k_asm) (by k_asm) (by k_is)) (by rfl) (by (simp only [List.any_cons, List.any_nil, strIs]; decide +kernel)) ?_) | (refine in_strsB (b := true) (by exact in_top (by k_asm) (by k_asm) (by k_is)) (by rfl) (by (simp only [List.any_cons, List.any_nil, strIs]; decide +kernel)) ?_) | (refine in_strsB (b := false) (by exact News.get (by k_asm) (by k_mem)) (by rfl) (by (simp only [List.any_cons, List.any_nil, strIs]; decide +kernel)) ?_) | (refine in_strsB (b := true) (by exact News.get (by k_asm) (by k_mem)) (by rfl) (by (simp only [List.any_cons, List.any_nil, strIs]; decide +kernel)) ?_)))
  trivial
theorem vkLeaf_does {v : Value} {d : Dt} {x : Str} (hv : Rep s.heap v d) (hl : leafD d = true) (ht : tagD d = some x) :
    Does prog w p loose mean mg mb [] 370 360 s (.call (.ref 75) ⟨[v, .ref 234], []⟩) (fun r h' => ∃ a t, r = .ref a ∧ s.heap.objs.size ≤ a ∧ h'.get? a = some (tupObj [.str x t, v])) := by
  refine' enterMC (news := []) (binds := [("value", v), ("may_compare", .ref 234)]) ?hm ?hN ?ho ?hcd ?hro ?hb ?hl ?hnd ?_ ?c2 ?c3 ?c4
  case hm => exact rfl
  case hN => exact List.forall_mem_nil _
  walk_at "m_enterC"
  intro l A₀ base g L' h' tk cells KG hz F' N' Y' ll B' X' T' Rz hRz
  k_cells Y'; (try dsimp only [List.cons_append, List.nil_append] at N')
  replace hv := hv.grow fun a o e => KG a o e (by simp)
  have hv0 := hv
  apply cutV (v := v)
  intro C_ kC_
  cases hv with
  | str => cases ht
  | @tup a vs ds h0 hr =>
    cases hr with
    | nil => cases ht
    | cons hx hr =>
      cases hx with
      | str y t =>
        simp only [tagD, Option.some.injEq] at ht
        subst ht
        simp only [leafD, beq_iff_eq] at hl
        subst hl
        refine kC_ _ ?_
        clear kC_ C_
        try dsimp only
        try k_fold
        k_steps
        all_goals (
          unfold Hold
          (rename Fr _ _ _ _ => F9)
          (rename News _ _ _ _ => N9)
          have l9 := F9.above
          exact ⟨_, _, rfl, by omega, News.get N9 (by k_mem)⟩)
      | _ => cases ht
  | _ => 
    simp only [tagD, Option.some.injEq] at ht
    subst ht
    refine kC_ _ ?_
    clear kC_ C_
    try dsimp only
    try k_fold
    k_steps
    all_goals (
          unfold Hold
          (rename Fr _ _ _ _ => F9)
          (rename News _ _ _ _ => N9)
          have l9 := F9.above
          exact ⟨_, _, rfl, by omega, News.get N9 (by k_mem)⟩)
theorem may_does {v : Value} {y : Str} {ts : List Dt} (hv : Rep s.heap v (.tup (.str y :: ts))) :
    Does prog w p loose mean mg mb [] 380 400 s (.call (.ref 234) ⟨[v], []⟩) (fun r h' => r = .bool (!(y == S "slice"))) := by
  refine' enterM (news := []) (binds := [("t", v)]) ?hm ?hN ?ho ?hcd ?hro ?hb ?hl ?_ ?c2 ?c3 ?c4 ?c5
  case hm => exact rfl
  case hN => exact List.forall_mem_nil _
  walk_at "m_enter"
  intro l A₀ base g L' h' KG hz F' N' ll B' X' T' Rz hRz
  apply cutV (v := v)
  intro C_ kC_
  cases hv with
  | @tup a vs ds h0 hr =>
    cases hr with
    | cons hx hr =>
      cases hx with
      | str y t =>
        replace h0 := KG _ _ h0 (by simp)
        refine kC_ _ ?_
        clear kC_ C_
        try dsimp only
        try k_fold
        k_steps
        all_goals (unfold Hold; exact rfl)
theorem words_Vk8 : True := by
  k_with "call ref" => (k_here; (with_reducible show wpAny _ _ (call (Value.ref 234) _ _) _ _ _); (with_unfolding_all refine useP (by k_dflt (k_asm)) (by k_dflt (k_asm)) (by k_dflt (k_asm)) (by k_dflt (k_asm)) (by k_dflt (k_asm)) (by k_dflt (exact rfl)) (may_does (by k_dflt (first | exact rep_now (by k_asm) (by assumption) | exact Sure.now (by assumption) (by k_asm) (by k_asm) (by walk_at "m_ex")))) (by k_dflt (exact Nat.le_of_ble_eq_true rfl)) (by k_dflt (exact Nat.le_of_ble_eq_true rfl)) ?_); (intro v9 h9 tk9 lt9 F9 N9 K9 z9 q9); (subst q9); (clear K9 z9 lt9); (try dsimp only); (try k_sweep))
  k_with "call ref" => (k_here; (with_reducible show wpAny _ _ (call (Value.ref 75) _ _) _ _ _); (with_unfolding_all refine useP (by k_dflt (k_asm)) (by k_dflt (k_asm)) (by k_dflt (k_asm)) (by k_dflt (k_asm)) (by k_dflt (k_asm)) (by k_dflt (exact rfl)) (vkLeaf_does (by k_dflt (first | exact rep_now (by k_asm) (by assumption) | exact Sure.now (by assumption) (by k_asm) (by k_asm) (by walk_at "m_ex"))) (by k_dflt (first | assumption | (apply And.left; assumption))) (by k_dflt (first | assumption | (apply And.right; assumption)))) (by k_dflt (exact Nat.le_of_ble_eq_true rfl)) (by k_dflt (exact Nat.le_of_ble_eq_true rfl)) ?_); (intro v9 h9 tk9 lt9 F9 N9 K9 z9 q9); (obtain ⟨a9, t9, e9, l9, q9⟩ := q9); (subst e9); (replace lt9 := lt9 _ _ l9 q9); (replace N9 := lt9.1); (replace l9 := lt9.2); (simp only [AllLt, and_true] at l9); (clear K9 z9 q9 lt9); (try dsimp only); (try k_sweep))
  trivial
theorem vkFace_does {v : Value} {d : Dt} {x y : Str} {ts : List Dt} (hv : Rep s.heap v (.tup [.str (S "face"), .tup (.str y :: ts), d])) (hy : (!(y == S "slice")) = true) (hl : leafD d = true) (ht : tagD d = some x) :
    Does prog w p loose mean mg mb [] 360 320 s (.call (.ref 75) ⟨[v, .ref 234], []⟩) (fun r h' => ∃ a, r = .ref a ∧ s.heap.objs.size ≤ a ∧ Rep h' r (.tup [.str (S "face"), .tup (.str y :: ts), .tup [.str x, d]])) := by
  refine' enterMC (news := []) (binds := [("value", v), ("may_compare", .ref 234)]) ?hm ?hN ?ho ?hcd ?hro ?hb ?hl ?hnd ?_ ?c2 ?c3 ?c4
  case hm => exact rfl
  case hN => exact List.forall_mem_nil _
  walk_at "m_enterC"
  intro l A₀ base g L' h' tk cells KG hz F' N' Y' ll B' X' T' Rz hRz
  k_cells Y'; (try dsimp only [List.cons_append, List.nil_append] at N')
  replace hv := hv.grow fun a o e => KG a o e (by simp)
  have hv0 := hv
  apply cutV (v := v)
  intro C_ kC_
  cases hv with
  | @tup a vs ds h0 hr =>
  cases hr with
  | cons hx hr =>
  cases hx with
  | str _ t =>
  cases hr with
  | cons hty hr =>
  have hty0 := hty
  cases hty with
  | @tup b us es hb hrb =>
  cases hr with
  | cons hd hr =>
  cases hr with
  | nil =>
    rename_i vd
    refine kC_ _ ?_
    clear kC_ C_
    try dsimp only
    try k_fold
    k_steps
    all_goals (
      unfold Hold
      (rename Fr _ _ _ _ => F9)
      (rename News _ _ _ _ => N9)
      have l9 := F9.above
      exact ⟨_, rfl, by omega, .tup (News.get N9 (by k_mem)) (.cons (.str _ _) (.cons (hty0.grow F9.keep) (.cons (.tup (News.get N9 (by k_mem)) (.cons (.str _ _) (.cons (hd.grow F9.keep) .nil))) .nil)))⟩)


theorem words_Vk9 : True := by
  k_with "eval ListComp" => (k_here; k_dflt (refine comp_K (F₀ := by k_asm) (by with_unfolding_all rfl) (by decide) (by rfl) (by decide) (by rfl) ?_))
  trivial
noncomputable def keyOf (d : Dt) : Dt := .tup [.str ((tagD d).getD (S "")), d]
noncomputable def LeafOk (d : Dt) : Prop := leafD d = true ∧ tagD d = some ((tagD d).getD (S ""))
theorem vkStruct_does {v : Value} {ds : List Dt} (hv : Rep s.heap v (.tup [.str (S "struct"), .tup ds])) (hl : ∀ i (h : i < ds.length), LeafOk ds[i]) (hz : ds.length ≤ 7) :
    Does prog w p loose mean mg mb [] 360 320 s (.call (.ref 75) ⟨[v, .ref 234], []⟩) (fun r h' => ∃ a, r = .ref a ∧ s.heap.objs.size ≤ a ∧ Rep h' r (.tup [.str (S "struct"), .tup (ds.map keyOf)])) := by
  refine' enterMC (news := []) (binds := [("value", v), ("may_compare", .ref 234)]) ?hm ?hN ?ho ?hcd ?hro ?hb ?hl ?hnd ?_ ?c2 ?c3 ?c4
  case hm => exact rfl
  case hN => exact List.forall_mem_nil _
  walk_at "m_enterC"
  intro l A₀ base g L' h' tk cells KG hz F' N' Y' ll B' X' T' Rz hRz
  k_cells Y'; (try dsimp only [List.cons_append, List.nil_append] at N')
  replace hv := hv.grow fun a o e => KG a o e (by simp)
  have hv0 := hv
  apply cutV (v := v)
  intro C_ kC_
  cases hv with
  | @tup a vs _ h0 hr =>
  cases hr with
  | cons hx hr =>
  cases hx with
  | str _ t =>
  cases hr with
  | cons hty hr =>
  cases hr with
  | nil =>
  cases hty with
  | @tup b us _ hb hrb =>
    have hlen := hrb.length
    refine kC_ _ ?_
    clear kC_ C_
    try dsimp only
    try k_fold
    k_steps
    (rename Fr _ _ _ _ => F9)
    (rename News _ _ _ _ => N9)
    refine CompIn.mk0 _ [] [] keyOf rfl F9 N9 (List.append_nil _).symm (Or.inr (isTup_base F9 hb)) (hrb.grow F9.keep) (by rw [sizeLine_eq]; omega) (List.forall_mem_nil _) avNil ?el ?fin
    case el =>
      intro h i hi v C oC mc h2 tk2 ex' E' _ _ rv hxe hoC hmx F' N' hex hlt
      replace rv := hxe ▸ Sure.rep F' (noTup_ns F'.ns) rv
      have hlo1 := (hl i hi).1
      have hlo2 := (hl i hi).2
      (try dsimp only [List.cons_append, List.nil_append] at N')
      (try simp only [AllLt, and_true] at hlt)
      clear F9 N9
      try dsimp only
      k_steps
      unfold Hold
      (rename Fr _ _ _ _ => F9)
      (rename News _ _ _ _ => N9)
      exact .tup (News.get N9 (by k_mem)) (.cons (.str _ _) (.cons (Sure.now rv F9 N9 (by walk_at "m_ex")) .nil))
    case fin =>
      intro D h2 tk2 ys k ex' F' N' hlt hex hoff hS
      (try dsimp only [List.cons_append, List.nil_append] at N')
      (try simp only [AllLt, and_true] at hlt)
      clear F9 N9
      try dsimp only
      have hyl := (Sure.now hS F' N' (by walk_at "m_ex")).length
      rw [List.length_map] at hyl
      k_steps
      unfold Hold
      (rename Fr _ _ _ _ => F9)
      (rename News _ _ _ _ => N9)
      have l9 := F9.above
      exact ⟨_, rfl, by omega, .tup (News.get N9 (by k_mem)) (.cons (.str _ _) (.cons (.tup (News.get N9 (by k_mem)) (Sure.now hS F9 N9 (by walk_at "m_ex"))) .nil))⟩
end
/-! ## Tab -/
section
theorem words0_Tab : True := by
  w_top off
  k_with_none
  trivial
variable {prog : Program} {w : World} {p : Program} {loose : List Str} {mean : ExcName → Option Value} {mg mb : Str → Option Value} {s : Shared}

theorem Does.lower {ms : List Addr} {D U D' U' : Nat} {c : Code} {P : Value → Heap → Prop} (x : Does prog w p loose mean mg mb ms D U s c P) (hd : D' ≤ D) (hu : U' ≤ U) : Does prog w p loose mean mg mb ms D' U' s c P :=
  fun l A₀ base X T B => codeAny_ctr (x l A₀ base X T B) hd hu

theorem fin8 : ∀ k : _root_.Fin 8, k = 0 ∨ k = 1 ∨ k = 2 ∨ k = 3 ∨ k = 4 ∨ k = 5 ∨ k = 6 ∨ k = 7 := by decide
/-- value_key on the eight keys -/
theorem vk_does {v : Value} {k : _root_.Fin 8} (hv : Rep s.heap v (keyD k)) :
    Does prog w p loose mean mg mb [] 360 320 s (.call (.ref 75) ⟨[v, .ref 234], []⟩) (fun r h' => ∃ a, r = .ref a ∧ s.heap.objs.size ≤ a ∧ Rep h' r (markD k)) := by
  have leaf : ∀ {x : Str}, leafD (keyD k) = true → tagD (keyD k) = some x → Dt.tup [.str x, keyD k] = markD k → Does prog w p loose mean mg mb [] 360 320 s (.call (.ref 75) ⟨[v, .ref 234], []⟩) (fun r h' => ∃ a, r = .ref a ∧ s.heap.objs.size ≤ a ∧ Rep h' r (markD k)) := by
    intro x h1 h2 h3
    refine ((vkLeaf_does hv h1 h2).lower (D' := 360) (U' := 320) (by decide) (by decide)).mono fun r h' kp q => ?_
    refine cutC fun C_ kC_ => ?_
    obtain ⟨a, t, rfl, hz, e⟩ := q
    refine kC_ ?_
    clear kC_ C_
    exact ⟨a, rfl, hz, h3 ▸ .tup e (.cons (.str _ _) (.cons (hv.grow fun b o e => kp b o e (by simp)) .nil))⟩
  rcases fin8 k with rfl | rfl | rfl | rfl | rfl | rfl | rfl | rfl
  · exact (vkFace_does (y := S "int") (x := S "int") hv (by decide +kernel) rfl rfl)
  · exact (vkFace_does (y := S "bool") (x := S "bool") hv (by decide +kernel) rfl rfl)
  · exact (vkFace_does (y := S "int") (x := S "int") hv (by decide +kernel) rfl rfl)
  · exact leaf (x := S "text") rfl rfl rfl
  · exact (vkStruct_does hv (by intro i h; match i, h with | 0, _ => exact ⟨rfl, rfl⟩ | 1, _ => exact ⟨rfl, rfl⟩) (by decide))
  · exact (vkStruct_does hv (by intro i h; match i, h with | 0, _ => exact ⟨rfl, rfl⟩ | 1, _ => exact ⟨rfl, rfl⟩) (by decide))
  · exact leaf (x := S "nil") rfl rfl rfl
  · exact leaf (x := S "ptr") rfl rfl rfl

noncomputable abbrev fldE (w : World) (name : Str) (t : Nat) (v : Value) : DictEntry := ⟨PyData.keyHash w.params name, .str name t, v⟩
noncomputable abbrev tdObj (w : World) (t1 t2 t3 ent : Nat) (c : Int) (tc n : Nat) : Obj := dictOf [fldE w (Str.ofString "may_compare") t1 (.ref 234), fldE w (Str.ofString "entries") t2 (.ref ent), fldE w (Str.ofString "coming") t3 (.int c tc)] 3
theorem inst_base {h₀ h : Heap} {L x dx C : Addr} {od : Obj} {m : Str → Option Value} (F : Fr h₀ L h m) (e1 : h₀.get? x = some (instObj C dx)) (e2 : h₀.get? dx = some od) : InstAt h x (instObj C dx) C (some od) := ⟨F.keep _ _ e1, rfl, rfl, F.keep _ _ e2⟩
theorem words_Tab10 : True := by
  k_with "m_ex" => (first | with_reducible exact exAt0 | with_reducible exact exAt1 | with_reducible exact exAt2 | with_reducible exact exAt3 | with_reducible exact exAt4 | with_reducible exact exAt5 | with_reducible exact exAt6 | with_reducible exact exAt7 | with_reducible exact exAt8 | with_reducible exact exAt9 | with_reducible exact exAt10 | with_reducible exact exAt11 | with_reducible exact exAt12 | with_reducible exact exAt13 | with_reducible exact exAt14 | with_reducible exact exAt15 | with_reducible exact exAt16 | with_reducible exact exAt17 | with_reducible exact exAt18 | with_reducible exact exAt19 | with_reducible exact exAt20 | with_reducible exact exAt21 | with_reducible exact exAt22 | with_reducible exact exAt23)
  k_with "m_enter" => ((case ho => k_is); (case hcd => k_is); (case hro => decide); (case hb => exact BindsTo.of_eq rfl); (case hl => exact locs rfl); (case c2 => exact rfl); (case c3 => exact rfl); (case c4 => exact rfl); (case c5 => decide))
  k_with "m_enterC" => ((case ho => k_is); (case hcd => k_is); (case hro => decide); (case hb => exact BindsTo.of_eq rfl); (case hl => exact rfl); (case hnd => decide +kernel); (case c2 => exact rfl); (case c3 => exact rfl); (case c4 => exact rfl))
  k_with "EndR" => (refine endR (by with_reducible assumption) (by k_asm) ?_)
  k_with "k_mem" => first | with_reducible exact inAt0 | with_reducible exact inAt1 | with_reducible exact inAt2 | with_reducible exact inAt3 | with_reducible exact inAt4 | with_reducible exact inAt5 | with_reducible exact inAt6 | with_reducible exact inAt7 | with_reducible exact inAt8 | with_reducible exact inAt9 | with_reducible exact inAt10 | with_reducible exact inAt11 | with_reducible exact inAt12 | with_reducible exact inAt13 | with_reducible exact inAt14 | with_reducible exact inAt15 | with_reducible exact inAt16 | with_reducible exact inAt17 | with_reducible exact inAt18 | with_reducible exact inAt19 | with_reducible exact inAt20 | with_reducible exact inAt21 | with_reducible exact inAt22 | with_reducible exact inAt23
  k_with "k_ne" => first | with_reducible assumption | exact neSym (by with_reducible assumption) | exact neLt (by with_reducible assumption) | exact neGt (by with_reducible assumption) | fail
  k_with "call builtin:isinstance" => (k_here; (with_reducible show wpAny _ _ (call _ [Value.ref _, Value.type _]) _ _ _); k_dflt (refine kia_one kitx_tuple (by k_in) (by exact kit_base (by k_asm) (by assumption)) (by kit_is) (by kit_nb) ?_; k_whole); intro _)
  k_with "subscriptTail" => (k_here; (with_reducible show wpAny _ _ (subscriptTail _ _ (Value.ref _) (Value.int _ _)) _ _ _); k_dflt (refine item_tupleT (by first | exact isTup_base (by k_asm) (by assumption) | exact isTup_sure (by assumption) (by k_asm) (by k_asm) (by walk_at "m_ex")) (by decide) (by decide) (by rfl) (by rfl) ?_; k_whole))
  k_with "ElEnd" => (refine ElEnd.intro (by k_asm) (by k_asm) (fmc (by k_mem) (by walk_at "m_ex")) ?_)
  k_with "call type:tuple" => (k_here; (with_reducible show wpAny _ _ (call (Value.type _) [Value.ref _]) _ _ _); k_dflt (refine kde_tupleOf (by k_asm) (by k_asm) (by exact News.isList (by k_asm) (by k_mem)) (by (simp only [List.size_toArray]; omega)) (by exact rfl) ?_; k_whole); intro D' h' F' N' l1; (try k_lt l1); (try k_sweep))
  k_with "m_use" => ((case B => k_asm); (case F => k_asm); (case X => k_asm); (case N => k_asm); (case T => k_asm); (case hk => exact rfl); (case hd => exact Nat.le_of_ble_eq_true rfl); (case hu => exact Nat.le_of_ble_eq_true rfl))
  k_with "m_rep" => ((rename News _ _ _ _ => N9); repeat' (first | with_unfolding_all exact RepAll.nil | with_unfolding_all exact Rep.none | with_unfolding_all exact Rep.bool _ | with_unfolding_all exact Rep.int _ _ | with_unfolding_all exact Rep.str _ _ | with_unfolding_all exact Rep.bytes _ _ | with_unfolding_all refine RepAll.cons ?_ ?_ | with_unfolding_all refine Rep.tup (News.get N9 (by k_mem)) ?_))
  trivial

theorem words_Tab11 : True := by
  k_with "k_inst" => exact inst_base (by k_asm) (by assumption) (by assumption)
  k_with "call ref" => (k_here; (with_reducible show wpAny _ _ (call (Value.ref 75) _ _) _ _ _); (with_unfolding_all refine useP (by k_dflt (k_asm)) (by k_dflt (k_asm)) (by k_dflt (k_asm)) (by k_dflt (k_asm)) (by k_dflt (k_asm)) (by k_dflt (exact rfl)) (vk_does (by k_dflt (first | exact rep_now (by k_asm) (by assumption) | exact Sure.now (by assumption) (by k_asm) (by k_asm) (by walk_at "m_ex")))) (by k_dflt (exact Nat.le_of_ble_eq_true rfl)) (by k_dflt (exact Nat.le_of_ble_eq_true rfl)) ?_); (intro v9 h9 tk9 lt9 F9 N9 K9 z9 q9); (obtain ⟨a9, e9, l9, q9⟩ := q9); (subst e9); (replace l9 := Nat.le_trans z9 l9); (clear lt9); (try dsimp only); (try k_sweep))
  trivial
/-- Table.mark_of -/
theorem markOf_does {tab td ent t1 t2 t3 tc n : Nat} {c : Int} {v : Value} {k : _root_.Fin 8} (h1 : s.heap.get? tab = some (instObj 134 td)) (h2 : s.heap.get? td = some (tdObj w t1 t2 t3 ent c tc n)) (hv : Rep s.heap v (keyD k)) :
    Does prog w p loose mean mg mb [] 350 280 s (.call (.ref 96) ⟨[.ref tab, v], []⟩) (fun r h' => ∃ a, r = .ref a ∧ s.heap.objs.size ≤ a ∧ Rep h' r (markD k)) := by
  refine' enterM (news := []) (binds := [("self", .ref tab), ("key", v)]) ?hm ?hN ?ho ?hcd ?hro ?hb ?hl ?_ ?c2 ?c3 ?c4 ?c5
  case hm => exact rfl
  case hN => exact List.forall_mem_nil _
  walk_at "m_enter"
  intro l A₀ base g L' h' KG hz F' N' ll B' X' T' Rz hRz
  replace h1 := KG _ _ h1 (by simp)
  replace h2 := KG _ _ h2 (by simp)
  replace hv := hv.grow fun a o e => KG a o e (by simp)
  try dsimp only
  try k_fold
  k_steps
  unfold Hold
  exact ⟨_, rfl, by rw [← hz]; assumption, by assumption⟩

noncomputable def Stop (q : Prop) : Prop := q
theorem stop {q : Prop} (h : Stop q) : q := h
theorem words_Tab12 : True := by
  k_with "call ref" => (k_here; (with_reducible show wpAny _ _ (call (Value.ref 96) _ _) _ _ _); refine stop ?_)
  trivial
structure Row where
  n : Int
  k : _root_.Fin 8
  v : Int
noncomputable def rowD (r : Row) : Dt := .tup [.int r.n, keyD r.k, .int r.v]
/-- what stands in the entries -/
structure EntOk (h : Heap) (xs : List (_root_.Fin 8 × Addr × Value)) (rs : List Row) : Prop where
  keys : xs.map (·.1) = rs.map Row.k
  mks : RepAll h (xs.map fun x => .ref x.2.1) (rs.map fun r => markD r.k)
  vals : RepAll h (xs.map (·.2.2)) (rs.map rowD)
theorem EntOk.keep {ms : List Addr} {h h' : Heap} (k : Keep ms h h') (n : NoTup ms h) {xs : List (_root_.Fin 8 × Addr × Value)} {rs : List Row} (x : EntOk h xs rs) : EntOk h' xs rs := ⟨x.keys, x.mks.keep k n, x.vals.keep k n⟩
theorem EntOk.grow {h h' : Heap} (k : ∀ a o, h.get? a = some o → h'.get? a = some o) {xs : List (_root_.Fin 8 × Addr × Value)} {rs : List Row} (x : EntOk h xs rs) : EntOk h' xs rs := x.keep (ms := []) (fun a o e _ => k a o e) (noTup_nil _)
/-- the entries' own object -/
noncomputable def EntIs (prog : Program) (w : World) (o : Obj) (xs : List (_root_.Fin 8 × Addr × Value)) : Prop := o.ExactDict ∧ ∃ es ep, o.data = .dict es ep ∧ es.toList = xs.map (entryOfKey (marks prog w))
theorem EntIs.off {o : Obj} {xs : List (_root_.Fin 8 × Addr × Value)} (x : EntIs prog w o xs) : offTup o = true := by
  obtain ⟨-, es, ep, hd, -⟩ := x
  obtain ⟨c, d, dt, sl⟩ := o
  cases hd
  cases d <;> cases c <;> rfl
theorem dictOfH_of {h : Heap} {ent : Addr} {o : Obj} {xs : List (_root_.Fin 8 × Addr × Value)} {rs : List Row} (e : h.get? ent = some o) (x : EntIs prog w o xs) (y : EntOk h xs rs) (hnd : (rs.map Row.k).Nodup) : h.DictOfH (marks prog w) ent xs := by
  obtain ⟨hc, es, ep, hd, he⟩ := x
  refine ⟨o, es, ep, e, hc, hd, he, fun z hz => ?_, y.keys ▸ hnd⟩
  obtain ⟨i, hi, rfl⟩ := List.getElem_of_mem hz
  have hl := y.mks.length
  have hk : xs.length = rs.length := by simpa using hl
  have := y.mks.get i (by simpa using hi) (by simpa [← hk] using hi)
  have ek : (xs.map (·.1))[i]'(by simpa using hi) = (rs.map Row.k)[i]'(by simpa [← hk] using hi) := by simp only [y.keys]
  simp only [List.getElem_map] at this ek
  show Rep h (.ref xs[i].2.1) (markD xs[i].1)
  rw [ek]; exact this
theorem EntOk.at {h : Heap} {k : _root_.Fin 8} : ∀ {xs : List (_root_.Fin 8 × Addr × Value)} {rs : List Row}, EntOk h xs rs →
    match rs.find? (fun r => decide (r.k = k)) with
    | none => atKey xs k = none
    | some r => ∃ a v, atKey xs k = some (a, v) ∧ Rep h v (rowD r) ∧ Rep h (.ref a) (markD k)
  | [], [], _ => rfl
  | [], _ :: _, x => by have := x.keys; cases this
  | _ :: _, [], x => by have := x.keys; cases this
  | y :: xs, r :: rs, x => by
    obtain ⟨hk, hm, hv⟩ := x
    simp only [List.map_cons, List.cons.injEq] at hk
    cases hm with
    | cons m1 hm =>
    cases hv with
    | cons v1 hv =>
    have ih := EntOk.at (k := k) (xs := xs) (rs := rs) ⟨hk.2, hm, hv⟩
    by_cases e : r.k = k
    · have e' : y.1 = k := hk.1.trans e
      simp only [List.find?_cons, e, decide_true, if_true]
      exact ⟨y.2.1, y.2.2, by simp [atKey, e'], v1, e ▸ m1⟩
    · have e' : ¬ y.1 = k := fun q => e (hk.1.symm.trans q)
      simp only [List.find?_cons, e, decide_false]
      have : atKey (y :: xs) k = atKey xs k := by simp [atKey, e']
      rw [this]; exact ih
section
variable {A : Around} {E : Value → Shared → Prop}
theorem dget_K {h₁ : Heap} {ent a : Addr} {o : Obj} {xs : List (_root_.Fin 8 × Addr × Value)} {rs : List Row} {k : _root_.Fin 8} {Q : Value → Shared → Prop} (hu : A.in1.units + 8 < cLine) (hs : (ent == sysModules) = false) (e : s.heap.get? ent = some o) (x : EntIs prog w o xs) (y : EntOk h₁ xs rs) (hnd : (rs.map Row.k).Nodup)
    (kp : ∀ b o, h₁.get? b = some o → s.heap.get? b = some o) (hm : Rep s.heap (.ref a) (markD k))
    (hnone : rs.find? (fun r => decide (r.k = k)) = none → Q .none { s with toks := s.toks + ddraws (markD k) })
    (hsome : ∀ r b t kv t', rs.find? (fun r => decide (r.k = k)) = some r → h₁.get? b = some (tupObj [.int r.n t, kv, .int r.v t']) → Rep h₁ kv (keyD r.k) → Q (.ref b) { s with toks := s.toks + ddraws (markD k) }) :
    wpAny (model prog w) A (call (.builtin "dict.get") [.ref ent, .ref a]) Q E s := by
  have D := dictOfH_of e x (y.grow kp) hnd
  have hy := y.at (k := k)
  refine call_meetsIn PySem.F.slot_dict_get D.typeIs PySem.F.entry_dict_get (PySem.F.args_dict_get_2 _ _) (meetsH_dict_get (marks prog w) ent a hs) ⟨hu, k, xs, hm, D, ?_⟩
  cases hf : rs.find? (fun r => decide (r.k = k)) with
  | none => rw [hf] at hy; dsimp only at hy; rw [hy]; exact hnone hf
  | some r =>
    rw [hf] at hy
    refine cutC fun C_ kC_ => ?_
    obtain ⟨a', v, e', rv, -⟩ := hy
    refine kC_ ?_
    clear kC_ C_
    rw [e']
    cases rv with
    | @tup b vs _ eb hr =>
      cases hr with
      | cons n1 hr =>
      cases n1 with
      | int _ t =>
      cases hr with
      | cons kv hr =>
      cases hr with
      | cons v1 hr =>
      cases v1 with
      | int _ t' =>
      cases hr with
      | nil => exact hsome r b t _ t' hf eb kv
theorem dmeth {name : Str} {id : String} {pl : Sem Bool} {Q : Value × List Value → Shared → Prop} {d : Addr} {o : Obj} {xs : List (_root_.Fin 8 × Addr × Value)} (slot : Slot "dict" name id) (ty : typeOf (.builtin id) = pure (.type "method_descriptor")) (e : s.heap.get? d = some o) (x : EntIs prog w o xs) (h : Q (.builtin id, [.ref d]) s) :
    wpAny (model prog w) A (getMethod (.ref d) name pl) Q E s :=
  getMethod_builtin (s := s) ⟨o, e, x.1.1⟩ PySem.F.plainAttrs_dict slot ty (fun a q => by cases q; exact ⟨o, e, x.1.2.1⟩) h
end
/-- what get hands back -/
noncomputable def getD (rs : List Row) (k : _root_.Fin 8) : Dt := match rs.find? fun r => decide (r.k = k) with
  | some r => .tup [.int r.v, .bool true]
  | none => .tup [.none, .bool false]
theorem words_Tab13 : True := by
  k_with "getMethod ref" => (k_here; (with_reducible show wpAny _ _ (getMethod (Value.ref _) (Str.ofString "get") _) _ _ _); (with_unfolding_all refine dmeth PySem.F.slot_dict_get PySem.F.type_dict_get (by k_dflt (first | exact Fr.keep (by k_asm) _ _ (by assumption) | exact News.get (by k_asm) (by k_mem))) (by k_dflt (assumption)) ?_))
  k_with "call builtin:dict.get" => (k_here; refine stop ?_)
  k_with "call builtin:len" => (k_here; refine stop ?_)
  k_with "call builtin:dict.values" => (k_here; refine stop ?_)
  k_with "call builtin:sorted" => (k_here; refine stop ?_)
  trivial
theorem get_does {tab td ent t1 t2 t3 tc n : Nat} {c : Int} {v : Value} {k : _root_.Fin 8} {xs : List (_root_.Fin 8 × Addr × Value)} {rs : List Row} (h1 : s.heap.get? tab = some (instObj 134 td)) (h2 : s.heap.get? td = some (tdObj w t1 t2 t3 ent c tc n)) {o : Obj} (h3 : s.heap.get? ent = some o) (ho : EntIs prog w o xs) (hsm : (ent == sysModules) = false) (hx : EntOk s.heap xs rs) (hnd : (rs.map Row.k).Nodup) (hv : Rep s.heap v (keyD k)) :
    Does prog w p loose mean mg mb [] 340 240 s (.call (.ref 110) ⟨[.ref tab, v], []⟩) (fun r h' => ∃ a, r = .ref a ∧ Rep h' r (getD rs k)) := by
  refine' enterM (news := []) (binds := [("self", .ref tab), ("key", v)]) ?hm ?hN ?ho ?hcd ?hro ?hb ?hl ?_ ?c2 ?c3 ?c4 ?c5
  case hm => exact rfl
  case hN => exact List.forall_mem_nil _
  walk_at "m_enter"
  intro l A₀ base g L' h' KG hz F' N' ll B' X' T' Rz hRz
  replace h1 := KG _ _ h1 (by simp)
  replace h2 := KG _ _ h2 (by simp)
  replace h3 := KG _ _ h3 (by simp)
  replace hv := hv.grow fun a o e => KG a o e (by simp)
  replace hx := hx.grow fun a o e => KG a o e (by simp)
  try dsimp only
  try k_fold
  k_steps
  unfold Stop
  with_unfolding_all refine' useP ?B ?F ?X ?N ?T ?hk (markOf_does ?h1 ?h2 ?hv) ?hd ?hu ?_
  walk_at "m_use"
  case h1 => exact Fr.keep (by k_asm) _ _ h1
  case h2 => exact Fr.keep (by k_asm) _ _ h2
  case hv => exact rep_now (by k_asm) hv
  intro v9 h9 tk9 lt9 F9 N9 K9 z9 q9
  apply cutV (v := v9)
  intro C_ kC_
  obtain ⟨a9, rfl, l9, q9⟩ := q9
  refine kC_ _ ?_
  clear kC_ C_
  clear F' N'
  try dsimp only
  k_steps
  try unfold Stop
  refine dget_K (h₁ := g) (Nat.le_of_ble_eq_true rfl) hsm (F9.keep _ _ h3) ho hx hnd F9.keep q9 ?n ?s
  case n =>
    intro e
    try dsimp only
    k_steps
    unfold Hold
    (rename News _ _ _ _ => N9)
    refine ⟨_, rfl, ?_⟩
    rw [getD, e]
    exact .tup (News.get N9 (by k_mem)) (.cons .none (.cons (.bool _) .nil))
  case s =>
    intro r b t kv t' e eb rk
    try dsimp only
    k_steps
    unfold Hold
    (rename News _ _ _ _ => N9)
    refine ⟨_, rfl, ?_⟩
    rw [getD, e]
    exact .tup (News.get N9 (by k_mem)) (.cons (.int _ _) (.cons (.bool _) .nil))

/-- Table.size -/
theorem size_does {tab td ent t1 t2 t3 tc n : Nat} {c : Int} {xs : List (_root_.Fin 8 × Addr × Value)} (h1 : s.heap.get? tab = some (instObj 134 td)) (h2 : s.heap.get? td = some (tdObj w t1 t2 t3 ent c tc n)) {o : Obj} (h3 : s.heap.get? ent = some o) (ho : EntIs prog w o xs) (hsm : (ent == sysModules) = false) (hz7 : xs.length ≤ 40) :
    Does prog w p loose mean mg mb [] 340 240 s (.call (.ref 103) ⟨[.ref tab], []⟩) (fun r h' => ∃ t, r = .int xs.length t) := by
  refine' enterM (news := []) (binds := [("self", .ref tab)]) ?hm ?hN ?ho ?hcd ?hro ?hb ?hl ?_ ?c2 ?c3 ?c4 ?c5
  case hm => exact rfl
  case hN => exact List.forall_mem_nil _
  walk_at "m_enter"
  intro l A₀ base g L' h' KG hz F' N' ll B' X' T' Rz hRz
  replace h1 := KG _ _ h1 (by simp)
  replace h2 := KG _ _ h2 (by simp)
  replace h3 := KG _ _ h3 (by simp)
  try dsimp only
  try k_fold
  k_steps
  try unfold Stop
  (rename Fr _ _ _ _ => F9)
  refine cutC fun C_ kC_ => ?_
  obtain ⟨hc, es, ep, hd, he⟩ := ho
  refine kC_ ?_
  clear kC_ C_
  have hsz : es.size = xs.length := by rw [← Array.length_toList, he, List.length_map]
  refine raw_len hsm ⟨o, F9.keep _ _ h3, hc, hd⟩ (by omega) ?_
  rw [hsz]
  try dsimp only
  k_steps
  unfold Hold
  exact ⟨_, rfl⟩
/-- entry_number -/
theorem num_does {v : Value} {r : Row} (hv : Rep s.heap v (rowD r)) : Does prog w p loose mean mg mb [] 380 400 s (.call (.ref 145) ⟨[v], []⟩) (fun r' h' => ∃ t, r' = .int r.n t) := by
  refine' enterM (news := []) (binds := [("entry", v)]) ?hm ?hN ?ho ?hcd ?hro ?hb ?hl ?_ ?c2 ?c3 ?c4 ?c5
  case hm => exact rfl
  case hN => exact List.forall_mem_nil _
  walk_at "m_enter"
  intro l A₀ base g L' h' KG hz F' N' ll B' X' T' Rz hRz
  replace hv := hv.grow fun a o e => KG a o e (by simp)
  cases hv with
  | @tup a vs _ h0 hr =>
  cases hr with
  | cons hn hr =>
  cases hn with
  | int _ t =>
  cases hr with
  | cons hk hr =>
  cases hr with
  | cons hw hr =>
  cases hr with
  | nil =>
    try dsimp only
    try k_fold
    k_steps
    unfold Hold
    exact ⟨_, rfl⟩
theorem words_Tab14 : True := by
  k_with "getMethod ref" => (k_here; (with_reducible show wpAny _ _ (getMethod (Value.ref _) (Str.ofString "values") _) _ _ _); (with_unfolding_all refine dmeth PySem.F.slot_dict_values PySem.F.type_dict_values (by k_dflt (first | exact Fr.keep (by k_asm) _ _ (by assumption) | exact News.get (by k_asm) (by k_mem))) (by k_dflt (assumption)) ?_))
  trivial
inductive ListP (ds : List Dt) (v : Value) (h : Heap) : Prop
  | mk (a k : Nat) (vs : List Value) (e : v = .ref a) (e1 : h.get? a = some (W.listOf vs.toArray k)) (r : RepAll h vs ds) : ListP ds v h
theorem rows_does {tab td ent t1 t2 t3 tc n : Nat} {c : Int} {xs : List (_root_.Fin 8 × Addr × Value)} {rs : List Row} (h1 : s.heap.get? tab = some (instObj 134 td)) (h2 : s.heap.get? td = some (tdObj w t1 t2 t3 ent c tc n)) {o : Obj} (h3 : s.heap.get? ent = some o) (ho : EntIs prog w o xs) (hsm : (ent == sysModules) = false) (hx : EntOk s.heap xs rs) (hz7 : rs.length ≤ 40) (hlt : (rs.map Row.n).Pairwise (· < ·)) :
    Does prog w p loose mean mg mb [] 340 240 s (.call (.ref 131) ⟨[.ref tab], []⟩) (ListP (rs.map rowD)) := by
  refine' enterM (news := []) (binds := [("self", .ref tab)]) ?hm ?hN ?ho ?hcd ?hro ?hb ?hl ?_ ?c2 ?c3 ?c4 ?c5
  case hm => exact rfl
  case hN => exact List.forall_mem_nil _
  walk_at "m_enter"
  intro l A₀ base g L' h' KG hz F' N' ll B' X' T' Rz hRz
  replace h1 := KG _ _ h1 (by simp)
  replace h2 := KG _ _ h2 (by simp)
  replace h3 := KG _ _ h3 (by simp)
  replace hx := hx.grow fun a o e => KG a o e (by simp)
  try dsimp only
  try k_fold
  k_steps
  try unfold Stop
  (rename Fr _ _ _ _ => F9)
  (rename News _ _ _ _ => N9)
  have ho' := ho
  refine cutC fun C_ kC_ => ?_
  obtain ⟨hc, es, ep, hd, he⟩ := ho'
  refine kC_ ?_
  clear kC_ C_
  have hes : es.size = xs.length := by rw [← Array.length_toList, he, List.length_map]
  have hxs : xs.length = rs.length := by simpa using hx.vals.length
  have eD : ∀ {h : Heap} {m : Str → Option Value}, Fr g L' h m → RawD h ent es ep := fun F => ⟨o, F.keep _ _ h3, hc, hd⟩
  refine raw_values hsm (eD F9) ?_
  generalize hD : h'.objs.size = D
  have hv : (h'.push { cls := .type "dict_values", data := .fields #[.ref ent] }).get? D = some { cls := .type "dict_values", data := .fields #[.ref ent] } := hD ▸ Heap.get?_push_size _ rfl
  have F8 := F9.push { cls := .type "dict_values", data := .fields #[.ref ent] }
  have N8 := News.push F9 N9 { cls := .type "dict_values", data := .fields #[.ref ent] }
  generalize h'.push { cls := .type "dict_values", data := .fields #[.ref ent] } = h8 at hv F8 N8 ⊢
  clear F9 N9
  try dsimp only
  k_steps
  try unfold Stop
  with_unfolding_all show wpAny (model prog w) _ (call (.builtin "sorted") [.ref D] [(Str.ofString "key", .ref 145)]) _ _ _
  have hvs : (xs.map (·.2.2)).length = es.size := by rw [List.length_map, hes]
  refine sorted_src (kz := rs.map Row.n) (vs := xs.map (·.2.2)) (b := false) (kdl_raw (r := D) (d := ent) (es := es) (ep := ep)) rfl ⟨⟨_, hv, rfl, rfl⟩, eD F8⟩ ?hP F8 N8 ?hlen hvs ?h64 (ksk_s1 _ _) (fun x => ksk_l1 _ _) (fun x => ksk_t1 _ _) ?turn ?fin
  case hP =>
    intro us hl hp
    apply List.ext_getElem (by omega)
    intro j h1 h2
    have e1 := hp j us[j] (List.getElem?_eq_getElem h1)
    have hj : j < es.size := by omega
    have e2 : es[j] = (xs.map (entryOfKey (marks prog w)))[j]'(by rw [List.length_map]; omega) := by
      have : es.toList[j]'(by simpa using hj) = es[j] := Array.getElem_toList ..
      rw [← this]; simp only [he]
    rw [Array.getElem?_eq_getElem hj, e2] at e1
    simpa [entryOfKey] using e1.symm
  case hlen => simp [hxs]
  case h64 => simp; omega
  case turn =>
    intro i v k hv' hk' h tk own F N
    have hi : i < rs.length := by
      rcases Nat.lt_or_ge i rs.length with q | q
      · exact q
      · rw [List.getElem?_eq_none (by simpa using q)] at hk'; cases hk'
    have rv := hx.vals.get i (by simp; omega) (by simpa using hi)
    rw [List.getElem?_eq_getElem (by simp; omega), Option.some.injEq] at hv'
    rw [List.getElem?_eq_getElem (by simpa using hi), Option.some.injEq] at hk'
    rw [hv'] at rv
    simp only [List.getElem_map] at rv hk'
    refine useP B' F X' N T' rfl (num_does (rep_now F rv)) (Nat.le_of_ble_eq_true rfl) (Nat.le_of_ble_eq_true rfl) ?_
    intro v9 h9 tk9 lt9 F9 N9 K9 z9 q9
    apply cutV (v := v9)
    intro C_ kC_
    obtain ⟨t, rfl⟩ := q9
    refine kC_ _ ?_
    clear kC_ C_
    rw [hk']
    exact ⟨h9, tk9, t, rfl, rfl, F9, N9⟩
  case fin =>
    intro D' h' tk out c' F N ll' ho'
    have := out_sorted (by simp [hxs]) hlt ho'
    refine endR hRz F ⟨D', c', out.toList, rfl, by simpa [W.listOf] using News.get N (List.Mem.head _), ?_⟩
    rw [this]
    exact hx.vals.grow F.keep
end
/-! ## Tab2 -/
section
theorem words0_Tab2 : True := by
  w_top off
  k_with_none
  trivial
variable {prog : Program} {w : World} {p : Program} {loose : List Str} {mean : ExcName → Option Value} {mg mb : Str → Option Value} {s : Shared}
noncomputable abbrev K8 := _root_.Fin 8
noncomputable abbrev Ents := List (K8 × Addr × Value)
noncomputable def hasK (rs : List Row) (k : K8) : Bool := rs.any fun r => decide (r.k = k)
noncomputable def putRow (rs : List Row) (k : K8) (v c : Int) : List Row := if hasK rs k then rs.map fun r => if r.k = k then { r with v := v } else r else rs ++ [⟨c, k, v⟩]
noncomputable def putC (rs : List Row) (k : K8) (c : Int) : Int := if hasK rs k then c else c + 1
noncomputable def dropRow (rs : List Row) (k : K8) : List Row := rs.filter fun r => !decide (r.k = k)

theorem hasK_none {rs : List Row} {k : K8} (h : rs.find? (fun r => decide (r.k = k)) = none) : hasK rs k = false := by
  rw [List.find?_eq_none] at h
  simpa [hasK] using h
theorem hasK_some {rs : List Row} {k : K8} {r : Row} (h : rs.find? (fun r => decide (r.k = k)) = some r) : hasK rs k = true := by
  have h1 := List.mem_of_find?_eq_some h
  have h2 := List.find?_some h
  exact List.any_eq_true.mpr ⟨r, h1, h2⟩
theorem EntOk.snoc {h : Heap} {xs : Ents} {rs : List Row} {k : K8} {a : Addr} {v : Value} {r : Row} (x : EntOk h xs rs) (hk : r.k = k) (hm : Rep h (.ref a) (markD k)) (hv : Rep h v (rowD r)) : EntOk h (xs ++ [(k, a, v)]) (rs ++ [r]) := by
  obtain ⟨a1, a2, a3⟩ := x
  refine ⟨by simp [a1, hk], ?_, ?_⟩
  · rw [List.map_append, List.map_append]
    exact a2.append (.cons (by subst hk; exact hm) .nil)
  · rw [List.map_append, List.map_append]
    exact a3.append (.cons hv .nil)
theorem EntOk.upd {h : Heap} {k : K8} {v : Value} {f : Row → Row} (hf : ∀ r, (f r).k = r.k) : ∀ {xs : Ents} {rs : List Row}, EntOk h xs rs → (∀ r ∈ rs, r.k = k → Rep h v (rowD (f r))) → EntOk h (xs.map (putAt k v)) (rs.map fun r => if r.k = k then f r else r)
  | [], [], x, _ => x
  | [], _ :: _, x, _ => by have := x.keys; cases this
  | _ :: _, [], x, _ => by have := x.keys; cases this
  | y :: xs, r :: rs, x, hv => by
    obtain ⟨hk, hm, hvs⟩ := x
    simp only [List.map_cons, List.cons.injEq] at hk
    cases hm with
    | cons m1 hm =>
    cases hvs with
    | cons v1 hvs =>
    have ih := EntOk.upd hf (k := k) (v := v) (xs := xs) (rs := rs) ⟨hk.2, hm, hvs⟩ fun r hr => hv r (List.mem_cons_of_mem _ hr)
    obtain ⟨b1, b2, b3⟩ := ih
    by_cases e : r.k = k
    · have e' : y.1 = k := hk.1.trans e
      have e2 : putAt k v y = (y.1, y.2.1, v) := by simp [putAt, e']
      simp only [List.map_cons, e2, if_pos e]
      exact ⟨by simp only [List.map_cons, hf, b1, hk.1], .cons (by show Rep h _ (markD (f r).k); rw [hf]; exact m1) b2, .cons (hv r (by simp) e) b3⟩
    · have e' : ¬ y.1 = k := fun q => e (hk.1.symm.trans q)
      have e2 : putAt k v y = y := by simp [putAt, e']
      simp only [List.map_cons, e2, if_neg e]
      exact ⟨by simp only [List.map_cons, b1, hk.1], .cons m1 b2, .cons v1 b3⟩
theorem EntOk.drop {h : Heap} {k : K8} : ∀ {xs : Ents} {rs : List Row} {j : Nat} {q : Addr × Value}, EntOk h xs rs → (rs.map Row.k).Nodup → xs[j]? = some (k, q) → EntOk h (xs.eraseIdx j) (dropRow rs k)
  | [], _, j, q, _, _, e => by simp at e
  | _ :: _, [], _, _, x, _, _ => by have := x.keys; cases this
  | y :: xs, r :: rs, j, q, x, hn, e => by
    obtain ⟨hk, hm, hvs⟩ := x
    simp only [List.map_cons, List.cons.injEq] at hk
    rw [List.map_cons, List.nodup_cons] at hn
    cases hm with
    | cons m1 hm =>
    cases hvs with
    | cons v1 hvs =>
    cases j with
    | zero =>
      simp only [List.getElem?_cons_zero, Option.some.injEq] at e
      subst e
      have hrk : r.k = k := hk.1.symm
      have : dropRow (r :: rs) k = rs := by
        unfold dropRow
        rw [List.filter_cons_of_neg (by simp [hrk]), List.filter_eq_self.mpr]
        intro r' hr'
        have : r'.k ≠ r.k := fun q => hn.1 (List.mem_map.mpr ⟨r', hr', q⟩)
        simpa [hrk] using this
      rw [this]
      exact ⟨hk.2, hm, hvs⟩
    | succ j =>
      simp only [List.getElem?_cons_succ] at e
      obtain ⟨b1, b2, b3⟩ := EntOk.drop (k := k) (xs := xs) (rs := rs) ⟨hk.2, hm, hvs⟩ hn.2 e
      have hrk : r.k ≠ k := fun q => by
        apply hn.1
        rw [q, ← hk.2]
        exact List.mem_map.mpr ⟨_, List.mem_of_getElem? e, rfl⟩
      have : dropRow (r :: rs) k = r :: dropRow rs k := by
        unfold dropRow
        rw [List.filter_cons_of_pos (by simp [hrk])]
      rw [this, List.eraseIdx_cons_succ]
      exact ⟨by simp only [List.map_cons, b1, hk.1], .cons m1 b2, .cons v1 b3⟩
theorem EntOk.drop_none {h : Heap} {k : K8} {xs : Ents} {rs : List Row} (x : EntOk h xs rs) (hno : ∀ (j : Nat) (q : Addr × Value), xs[j]? ≠ some (k, q)) : dropRow rs k = rs := by
  unfold dropRow
  rw [List.filter_eq_self]
  intro r hr
  have : r.k ≠ k := fun q => by
    have hm : r.k ∈ rs.map Row.k := List.mem_map.mpr ⟨r, hr, rfl⟩
    rw [← x.keys, q] at hm
    obtain ⟨y, hy, e⟩ := List.mem_map.mp hm
    obtain ⟨j, hj, e2⟩ := List.getElem_of_mem hy
    exact hno j y.2 (by rw [List.getElem?_eq_getElem hj, e2, ← e])
  simpa using this

theorem entIs_of {h : Heap} {d : Addr} {xs : Ents} (D : h.DictOfH (marks prog w) d xs) : ∃ o, h.get? d = some o ∧ EntIs prog w o xs := by
  refine cutC fun C_ kC_ => ?_
  obtain ⟨o, es, ep, e, hc, hd, he, -, -⟩ := D
  refine kC_ ?_
  clear kC_ C_
  exact ⟨o, e, hc, es, ep, hd, he⟩

section
variable {A : Around} {E : Value → Shared → Prop} {g h₁ : Heap} {L : Addr} {m : Str → Option Value} {news : List (Addr × Obj)} {gf : Obj → List (Addr × Obj)}
theorem fr_same {d : Addr} {o : Obj} {h h' : Heap} (F : Fr g L h m) (N : News g L h news) (hm : (d, o) ∈ news) (hs : Heap.SameBut d h h') : Fr g L h' m :=
  fr_butL (ms := [d]) F (fun b o e q => hs.extBut b o (fun z => e (by simp [z])) q) (by simpa using (N _ hm).2.1.symm) (by simpa using (N _ hm).2.2)
theorem news_upd {d : Addr} {o o' : Obj} {h h' : Heap} (N : News g L h news) (U : UpdF d o news gf) (hs : Heap.SameBut d h h') (e : h'.get? d = some o') : News g L h' (gf o') := by
  refine cutC fun C_ kC_ => ?_
  obtain ⟨pre, post, rfl, hg, a, b⟩ := U.split
  refine kC_ ?_
  clear kC_ C_
  rw [hg]
  intro q hq
  rcases List.mem_append.mp hq with hq | hq
  · have := N q (List.mem_append_left _ hq)
    exact ⟨hs.extBut _ _ (a q hq) this.1, this.2⟩
  · rcases List.mem_cons.mp hq with rfl | hq
    · exact ⟨e, (N (d, o) (by simp)).2⟩
    · have := N q (by simp [hq])
      exact ⟨hs.extBut _ _ (b q hq) this.1, this.2⟩
theorem UpdF.mem {d : Addr} {o : Obj} : ∀ {l : List (Addr × Obj)} {g : Obj → List (Addr × Obj)}, UpdF d o l g → (d, o) ∈ l
  | _, _, .head _ => List.Mem.head _
  | _, _, .tail _ r => List.mem_cons_of_mem _ (UpdF.mem r)
theorem dset_K {ent a : Addr} {o : Obj} {xs : Ents} {rs : List Row} {k : K8} {v : Value} {Q : Unit → Shared → Prop} (hu : A.in1.units + 8 < cLine) (F : Fr g L s.heap m) (N : News g L s.heap news) (U : UpdF ent o news gf) (x : EntIs prog w o xs) (y : EntOk g xs rs) (hnd : (rs.map Row.k).Nodup) (hz : rs.length ≤ 40)
    (hm : Rep s.heap (.ref a) (markD k))
    (h : ∀ h' o' tk, Fr g L h' m → News g L h' (gf o') → EntIs prog w o' (storedH xs k a v) → Q () { s with heap := h', toks := tk }) :
    wpAny (model prog w) A (setItem (.ref ent) (.ref a) v) Q E s := by
  have D := dictOfH_of (N _ (UpdF.mem U)).1 x (y.grow F.keep) hnd
  have hxs : xs.length = rs.length := by simpa using y.vals.length
  refine wpAny_setItem_heap (knd := marks prog w) hu hm D (fun h' D' hs => ?_) (by rw [sizeLine_eq]; omega)
  obtain ⟨o', e, x'⟩ := entIs_of D'
  exact h h' o' _ (fr_same F N (UpdF.mem U) hs) (news_upd N U hs e) x'
theorem dpop_K {ent a : Addr} {o : Obj} {xs : Ents} {rs : List Row} {k : K8} {Q : Value → Shared → Prop} (hu : A.in1.units + 8 < cLine) (F : Fr g L s.heap m) (N : News g L s.heap news) (U : UpdF ent o news gf) (x : EntIs prog w o xs) (y : EntOk g xs rs) (hnd : (rs.map Row.k).Nodup) (hz : rs.length ≤ 40) (hs : (ent == sysModules) = false)
    (hm : Rep s.heap (.ref a) (markD k))
    (h : ∀ v h' o' tk xs', Fr g L h' m → News g L h' (gf o') → EntIs prog w o' xs' → EntOk g xs' (dropRow rs k) → Q v { s with heap := h', toks := tk }) :
    wpAny (model prog w) A (call (.builtin "dict.pop") [.ref ent, .ref a, .none]) Q E s := by
  have D := dictOfH_of (N _ (UpdF.mem U)).1 x (y.grow F.keep) hnd
  have hxs : xs.length = rs.length := by simpa using y.vals.length
  refine dpop_heap (knd := marks prog w) hu hm hs D (by rw [sizeLine_eq]; omega) (fun hno tk => ?_) (fun j q hj h' tk D' hs' => ?_)
  · refine h .none s.heap o tk xs F ?_ x (by rw [y.drop_none hno]; exact y)
    refine cutC fun C_ kC_ => ?_
    obtain ⟨pre, post, rfl, hg, -, -⟩ := U.split
    refine kC_ ?_
    clear kC_ C_
    rw [hg]; exact N
  · obtain ⟨o', e, x'⟩ := entIs_of D'
    exact h q.2 h' o' tk _ (fr_same F N (UpdF.mem U) hs') (news_upd N U hs' e) x' (y.drop hnd hj)
end

theorem find_nodup {k : K8} : ∀ {rs : List Row} {r : Row}, (rs.map Row.k).Nodup → r ∈ rs → r.k = k → rs.find? (fun r => decide (r.k = k)) = some r
  | [], _, _, h, _ => nomatch h
  | y :: rs, r, hn, hr, e => by
    rw [List.map_cons, List.nodup_cons] at hn
    rcases List.mem_cons.mp hr with rfl | hr
    · simp [e]
    · have : y.k ≠ k := fun q => hn.1 (List.mem_map.mpr ⟨r, hr, e.trans q.symm⟩)
      rw [List.find?_cons_of_neg (by simpa using this)]
      exact find_nodup hn.2 hr e
theorem EntIs.tup {o : Obj} {xs : Ents} (x : EntIs prog w o xs) : ∀ vs, o ≠ tupObj vs := fun vs q => by have := x.off; subst q; simp [offTup] at this

inductive TabAt (prog : Program) (w : World) (h : Heap) (tab td ent : Nat) (c : Int) (rs : List Row) : Prop
  | mk (t1 t2 t3 tc n : Nat) (o : Obj) (xs : Ents) (e3 : h.get? tab = some (instObj 134 td)) (e4 : h.get? td = some (tdObj w t1 t2 t3 ent c tc n)) (e5 : h.get? ent = some o) (ho : EntIs prog w o xs) (hx : EntOk h xs rs) : TabAt prog w h tab td ent c rs
theorem words_Tab215 : True := by
  k_with "m_ex" => (first | with_reducible exact exAt0 | with_reducible exact exAt1 | with_reducible exact exAt2 | with_reducible exact exAt3 | with_reducible exact exAt4 | with_reducible exact exAt5 | with_reducible exact exAt6 | with_reducible exact exAt7 | with_reducible exact exAt8 | with_reducible exact exAt9 | with_reducible exact exAt10 | with_reducible exact exAt11 | with_reducible exact exAt12 | with_reducible exact exAt13 | with_reducible exact exAt14 | with_reducible exact exAt15 | with_reducible exact exAt16 | with_reducible exact exAt17 | with_reducible exact exAt18 | with_reducible exact exAt19 | with_reducible exact exAt20 | with_reducible exact exAt21 | with_reducible exact exAt22 | with_reducible exact exAt23)
  k_with "m_enter" => ((case ho => k_is); (case hcd => k_is); (case hro => decide); (case hb => exact BindsTo.of_eq rfl); (case hl => exact locs rfl); (case c2 => exact rfl); (case c3 => exact rfl); (case c4 => exact rfl); (case c5 => decide))
  k_with "m_enterC" => ((case ho => k_is); (case hcd => k_is); (case hro => decide); (case hb => exact BindsTo.of_eq rfl); (case hl => exact rfl); (case hnd => decide +kernel); (case c2 => exact rfl); (case c3 => exact rfl); (case c4 => exact rfl))
  k_with "EndR" => (refine endR (by with_reducible assumption) (by k_asm) ?_)
  k_with "k_mem" => first | with_reducible exact inAt0 | with_reducible exact inAt1 | with_reducible exact inAt2 | with_reducible exact inAt3 | with_reducible exact inAt4 | with_reducible exact inAt5 | with_reducible exact inAt6 | with_reducible exact inAt7 | with_reducible exact inAt8 | with_reducible exact inAt9 | with_reducible exact inAt10 | with_reducible exact inAt11 | with_reducible exact inAt12 | with_reducible exact inAt13 | with_reducible exact inAt14 | with_reducible exact inAt15 | with_reducible exact inAt16 | with_reducible exact inAt17 | with_reducible exact inAt18 | with_reducible exact inAt19 | with_reducible exact inAt20 | with_reducible exact inAt21 | with_reducible exact inAt22 | with_reducible exact inAt23
  k_with "k_ne" => first | with_reducible assumption | exact neSym (by with_reducible assumption) | exact neLt (by with_reducible assumption) | exact neGt (by with_reducible assumption) | fail
  k_with "call builtin:isinstance" => (k_here; (with_reducible show wpAny _ _ (call _ [Value.ref _, Value.type _]) _ _ _); k_dflt (refine kia_one kitx_tuple (by k_in) (by exact kit_base (by k_asm) (by assumption)) (by kit_is) (by kit_nb) ?_; k_whole); intro _)
  k_with "subscriptTail" => (k_here; (with_reducible show wpAny _ _ (subscriptTail _ _ (Value.ref _) (Value.int _ _)) _ _ _); k_dflt (refine item_tupleT (by first | exact isTup_base (by k_asm) (by assumption) | exact isTup_sure (by assumption) (by k_asm) (by k_asm) (by walk_at "m_ex")) (by decide) (by decide) (by rfl) (by rfl) ?_; k_whole))
  k_with "ElEnd" => (refine ElEnd.intro (by k_asm) (by k_asm) (fmc (by k_mem) (by walk_at "m_ex")) ?_)
  k_with "call type:tuple" => (k_here; (with_reducible show wpAny _ _ (call (Value.type _) [Value.ref _]) _ _ _); k_dflt (refine kde_tupleOf (by k_asm) (by k_asm) (by exact News.isList (by k_asm) (by k_mem)) (by (simp only [List.size_toArray]; omega)) (by exact rfl) ?_; k_whole); intro D' h' F' N' l1; (try k_lt l1); (try k_sweep))
  k_with "m_use" => ((case B => k_asm); (case F => k_asm); (case X => k_asm); (case N => k_asm); (case T => k_asm); (case hk => exact rfl); (case hd => exact Nat.le_of_ble_eq_true rfl); (case hu => exact Nat.le_of_ble_eq_true rfl))
  k_with "m_rep" => ((rename News _ _ _ _ => N9); repeat' (first | with_unfolding_all exact RepAll.nil | with_unfolding_all exact Rep.none | with_unfolding_all exact Rep.bool _ | with_unfolding_all exact Rep.int _ _ | with_unfolding_all exact Rep.str _ _ | with_unfolding_all exact Rep.bytes _ _ | with_unfolding_all refine RepAll.cons ?_ ?_ | with_unfolding_all refine Rep.tup (News.get N9 (by k_mem)) ?_))
  trivial

theorem words_Tab216 : True := by
  k_with "k_inst" => exact inst_base (by k_asm) (by assumption) (by assumption)
  k_with "k_all" => first | assumption | exact off_lt (by assumption)
  k_with "call ref" => (k_here; (with_reducible show wpAny _ _ (call (Value.ref 96) _ _) _ _ _); refine stop ?_)
  k_with "getMethod ref" => (k_here; (with_reducible show wpAny _ _ (getMethod (Value.ref _) (Str.ofString "get") _) _ _ _); (with_unfolding_all refine dmeth PySem.F.slot_dict_get PySem.F.type_dict_get (by k_dflt (first | exact Fr.keep (by k_asm) _ _ (by assumption) | exact News.get (by k_asm) (by k_mem))) (by k_dflt (assumption)) ?_))
  k_with "getMethod ref" => (k_here; (with_reducible show wpAny _ _ (getMethod (Value.ref _) (Str.ofString "pop") _) _ _ _); (with_unfolding_all refine dmeth PySem.F.slot_dict_pop PySem.F.type_dict_pop (by k_dflt (first | exact Fr.keep (by k_asm) _ _ (by assumption) | exact News.get (by k_asm) (by k_mem))) (by k_dflt (assumption)) ?_))
  k_with "call builtin:dict.get" => (k_here; refine stop ?_)
  k_with "call builtin:dict.pop" => (k_here; refine stop ?_)
  k_with "setItem ref" => (k_here; refine stop ?_)
  trivial
theorem put_does {tab td ent t1 t2 t3 tc n tv : Nat} {c x : Int} {v : Value} {k : K8} {xs : Ents} {rs : List Row} (h1 : s.heap.get? tab = some (instObj 134 td)) (h2 : s.heap.get? td = some (tdObj w t1 t2 t3 ent c tc n)) {o : Obj} (h3 : s.heap.get? ent = some o) (ho : EntIs prog w o xs) (hsm : (ent == sysModules) = false) (hx : EntOk s.heap xs rs) (hnd : (rs.map Row.k).Nodup) (hz7 : rs.length ≤ 40) (hv : Rep s.heap v (keyD k))
    (n1 : tab ≠ td) (n2 : tab ≠ ent) (n3 : td ≠ ent) :
    Does prog w p loose mean mg mb [tab, td, ent] 340 240 s (.call (.ref 117) ⟨[.ref tab, v, .int x tv], []⟩) (fun r h' => TabAt prog w h' tab td ent (putC rs k c) (putRow rs k x c)) := by
  refine' enterM (news := [(tab, instObj 134 td), (td, tdObj w t1 t2 t3 ent c tc n), (ent, o)]) (binds := [("self", .ref tab), ("key", v), ("value", .int x tv)]) ?hm ?hN ?ho ?hcd ?hro ?hb ?hl ?_ ?c2 ?c3 ?c4 ?c5
  case hm => exact rfl
  case hN => (intro q hq; simp only [List.mem_cons, List.not_mem_nil, or_false] at hq; rcases hq with rfl | rfl | rfl; exact h1; exact h2; exact h3)
  walk_at "m_enter"
  intro l A₀ base g L' h' KG hz F' N' ll B' X' T' Rz hRz
  have nt : NoTup [tab, td, ent] s.heap := AvOk.noTup (avCons h1 rfl (avCons h2 rfl (avCons h3 ho.off avNil)))
  replace hv := hv.keep KG nt
  replace hx := hx.keep KG nt
  clear nt
  try dsimp only
  try k_fold
  try k_lt ll
  k_steps
  unfold Stop
  (rename Fr _ _ _ _ => F0)
  (rename News _ _ _ _ => N0)
  refine useX (sub := []) (kp := _) (ex := []) (av := [tab, td, ent]) B' F0 X' N0 T' rfl (List.forall_mem_nil _) (fun _ h => h) (fun _ _ => List.not_mem_nil) (List.forall_mem_nil _) (List.forall_mem_nil _) (List.forall_mem_nil _) (markOf_does (k := k) (News.get N0 (by k_mem)) (News.get N0 (by k_mem)) (rep_now F0 hv)) (Nat.le_of_ble_eq_true rfl) (Nat.le_of_ble_eq_true rfl) ?_
  intro v9 h9 tk9 ex F9 N9 _ hoff hex _ _ _ q9
  apply cutV (v := v9)
  intro C_ kC_
  obtain ⟨a9, rfl, -, q9⟩ := q9
  refine kC_ _ ?_
  clear kC_ C_
  dsimp only [List.cons_append, List.nil_append] at N9
  have av9 : AvOk [tab, td, ent] h9 := avCons (News.get N9 (by k_mem)) rfl (avCons (News.get N9 (by k_mem)) rfl (avCons (News.get N9 (by k_mem)) ho.off avNil))
  have S9 : Sure g ex (Rep · (.ref a9) (markD k)) := hex ▸ Sure.rep F9 (noTup_L F9 av9.noTup) q9
  have o1 : ∀ q ∈ ex, q.1 ≠ tab := fun q hq e => hoff q hq (by simp [e])
  have o2 : ∀ q ∈ ex, q.1 ≠ td := fun q hq e => hoff q hq (by simp [e])
  have o3 : ∀ q ∈ ex, q.1 ≠ ent := fun q hq e => hoff q hq (by simp [e])
  clear F0 N0 hex av9 q9 hoff
  try dsimp only
  k_steps
  try unfold Stop
  (rename Fr _ _ _ _ => F8)
  (rename News _ _ _ _ => N8)
  refine dget_K (h₁ := g) (Nat.le_of_ble_eq_true rfl) hsm (News.get N8 (by k_mem)) ho hx hnd F8.keep (S9.now F8 N8 (by walk_at "m_ex")) ?n ?s
  case n =>
    intro e
    try dsimp only
    k_steps
    try unfold Stop
    (rename Fr _ _ _ _ => F7)
    (rename News _ _ _ _ => N7)
    refine' dset_K (k := k) ?u F7 N7 ?U ho hx hnd hz7 (S9.now F7 N7 (by walk_at "m_ex")) ?_
    case u => exact Nat.le_of_ble_eq_true rfl
    case U => k_updF
    intro h6 o6 tk6 F6 N6 x6
    clear F7 N7
    try dsimp only
    k_steps
    unfold Hold
    (rename Fr _ _ _ _ => F5)
    (rename News _ _ _ _ => N5)
    have ha := hx.at (k := k)
    rw [e] at ha
    rw [storedH_new ha] at x6
    rw [putC, putRow, hasK_none e]
    exact ⟨_, _, _, _, n, _, _, News.get N5 (by k_mem), News.get N5 (by k_mem), News.get N5 (by k_mem), x6, (hx.grow F5.keep).snoc rfl (S9.now F5 N5 (by walk_at "m_ex")) (.tup (News.get N5 (by k_mem)) (.cons (.int _ _) (.cons (rep_now F5 hv) (.cons (.int _ _) .nil))))⟩
  case s =>
    intro r b t kv t' e eb rk
    try dsimp only
    k_steps
    try unfold Stop
    (rename Fr _ _ _ _ => F7)
    (rename News _ _ _ _ => N7)
    refine' dset_K (k := k) ?u F7 N7 ?U ho hx hnd hz7 (S9.now F7 N7 (by walk_at "m_ex")) ?_
    case u => exact Nat.le_of_ble_eq_true rfl
    case U => k_updF
    intro h6 o6 tk6 F6 N6 x6
    clear F7 N7
    try dsimp only
    k_steps
    unfold Hold
    have ha := hx.at (k := k)
    rw [e] at ha
    refine cutC fun C_ kC_ => ?_
    obtain ⟨a', v', ha, -, -⟩ := ha
    refine kC_ ?_
    clear kC_ C_
    rw [storedH_old ha] at x6
    rw [putC, putRow, hasK_some e]
    refine ⟨_, _, _, _, n, _, _, News.get N6 (by k_mem), News.get N6 (by k_mem), News.get N6 (by k_mem), x6, (hx.grow F6.keep).upd (f := fun r => { r with v := x }) (fun _ => rfl) fun r' hr' hk' => ?_⟩
    have := find_nodup hnd hr' hk'
    rw [e, Option.some.injEq] at this
    subst this
    exact .tup (News.get N6 (by k_mem)) (.cons (.int _ _) (.cons (rep_now F6 rk) (.cons (.int _ _) .nil)))
theorem rem_does {tab td ent t1 t2 t3 tc n : Nat} {c : Int} {v : Value} {k : K8} {xs : Ents} {rs : List Row} (h1 : s.heap.get? tab = some (instObj 134 td)) (h2 : s.heap.get? td = some (tdObj w t1 t2 t3 ent c tc n)) {o : Obj} (h3 : s.heap.get? ent = some o) (ho : EntIs prog w o xs) (hsm : (ent == sysModules) = false) (hx : EntOk s.heap xs rs) (hnd : (rs.map Row.k).Nodup) (hz7 : rs.length ≤ 40) (hv : Rep s.heap v (keyD k))
    (n2 : tab ≠ ent) (n3 : td ≠ ent) :
    Does prog w p loose mean mg mb [ent] 340 240 s (.call (.ref 124) ⟨[.ref tab, v], []⟩) (fun r h' => TabAt prog w h' tab td ent c (dropRow rs k)) := by
  refine' enterM (news := [(ent, o)]) (binds := [("self", .ref tab), ("key", v)]) ?hm ?hN ?ho ?hcd ?hro ?hb ?hl ?_ ?c2 ?c3 ?c4 ?c5
  case hm => exact rfl
  case hN => (intro q hq; simp only [List.mem_cons, List.not_mem_nil, or_false] at hq; rcases hq with rfl; exact h3)
  walk_at "m_enter"
  intro l A₀ base g L' h' KG hz F' N' ll B' X' T' Rz hRz
  have nt : NoTup [ent] s.heap := AvOk.noTup (avCons h3 ho.off avNil)
  replace h1 := KG _ _ h1 (by simpa using n2)
  replace h2 := KG _ _ h2 (by simpa using n3)
  replace hv := hv.keep KG nt
  replace hx := hx.keep KG nt
  clear nt h3
  try dsimp only
  try k_fold
  try k_lt ll
  k_steps
  unfold Stop
  (rename Fr _ _ _ _ => F0)
  (rename News _ _ _ _ => N0)
  refine useP B' F0 X' N0 T' rfl (markOf_does (k := k) (F0.keep _ _ h1) (F0.keep _ _ h2) (rep_now F0 hv)) (Nat.le_of_ble_eq_true rfl) (Nat.le_of_ble_eq_true rfl) ?_
  intro v9 h9 tk9 _ F9 N9 _ _ q9
  apply cutV (v := v9)
  intro C_ kC_
  obtain ⟨a9, rfl, -, q9⟩ := q9
  refine kC_ _ ?_
  clear kC_ C_
  clear F0 N0
  try dsimp only
  k_steps
  try unfold Stop
  refine' dpop_K (k := k) ?u F9 N9 ?U ho hx hnd hz7 hsm q9 ?_
  case u => exact Nat.le_of_ble_eq_true rfl
  case U => k_updF
  intro v8 h8 o8 tk8 xs8 F8 N8 x8 y8
  clear F9 N9
  try dsimp only
  k_steps
  unfold Hold
  exact ⟨_, _, _, _, _, _, _, F8.keep _ _ h1, F8.keep _ _ h2, News.get N8 (by k_mem), x8, y8.grow F8.keep⟩
end
/-! ## Bk -/
section
theorem words0_Bk : True := by
  w_top off
  k_with_none
  trivial
variable {prog : Program} {w : World} {p : Program} {loose : List Str} {mean : ExcName → Option Value} {mg mb : Str → Option Value} {s : Shared}
noncomputable def keyList : List Dt := [keyD 0, keyD 1, keyD 2, keyD 3, keyD 4, keyD 5, keyD 6, keyD 7]
theorem words_Bk17 : True := by
  k_with "m_ex" => (first | with_reducible exact exAt0 | with_reducible exact exAt1 | with_reducible exact exAt2 | with_reducible exact exAt3 | with_reducible exact exAt4 | with_reducible exact exAt5 | with_reducible exact exAt6 | with_reducible exact exAt7 | with_reducible exact exAt8 | with_reducible exact exAt9 | with_reducible exact exAt10 | with_reducible exact exAt11 | with_reducible exact exAt12 | with_reducible exact exAt13 | with_reducible exact exAt14 | with_reducible exact exAt15 | with_reducible exact exAt16 | with_reducible exact exAt17 | with_reducible exact exAt18 | with_reducible exact exAt19 | with_reducible exact exAt20 | with_reducible exact exAt21 | with_reducible exact exAt22 | with_reducible exact exAt23)
  k_with "m_enter" => ((case ho => k_is); (case hcd => k_is); (case hro => decide); (case hb => exact BindsTo.of_eq rfl); (case hl => exact locs rfl); (case c2 => exact rfl); (case c3 => exact rfl); (case c4 => exact rfl); (case c5 => decide))
  k_with "m_enterC" => ((case ho => k_is); (case hcd => k_is); (case hro => decide); (case hb => exact BindsTo.of_eq rfl); (case hl => exact rfl); (case hnd => decide +kernel); (case c2 => exact rfl); (case c3 => exact rfl); (case c4 => exact rfl))
  k_with "EndR" => (refine endR (by with_reducible assumption) (by k_asm) ?_)
  k_with "k_mem" => first | with_reducible exact inAt0 | with_reducible exact inAt1 | with_reducible exact inAt2 | with_reducible exact inAt3 | with_reducible exact inAt4 | with_reducible exact inAt5 | with_reducible exact inAt6 | with_reducible exact inAt7 | with_reducible exact inAt8 | with_reducible exact inAt9 | with_reducible exact inAt10 | with_reducible exact inAt11 | with_reducible exact inAt12 | with_reducible exact inAt13 | with_reducible exact inAt14 | with_reducible exact inAt15 | with_reducible exact inAt16 | with_reducible exact inAt17 | with_reducible exact inAt18 | with_reducible exact inAt19 | with_reducible exact inAt20 | with_reducible exact inAt21 | with_reducible exact inAt22 | with_reducible exact inAt23
  k_with "k_ne" => first | with_reducible assumption | exact neSym (by with_reducible assumption) | exact neLt (by with_reducible assumption) | exact neGt (by with_reducible assumption) | fail
  k_with "call builtin:isinstance" => (k_here; (with_reducible show wpAny _ _ (call _ [Value.ref _, Value.type _]) _ _ _); k_dflt (refine kia_one kitx_tuple (by k_in) (by exact kit_base (by k_asm) (by assumption)) (by kit_is) (by kit_nb) ?_; k_whole); intro _)
  k_with "subscriptTail" => (k_here; (with_reducible show wpAny _ _ (subscriptTail _ _ (Value.ref _) (Value.int _ _)) _ _ _); k_dflt (refine item_tupleT (by first | exact isTup_base (by k_asm) (by assumption) | exact isTup_sure (by assumption) (by k_asm) (by k_asm) (by walk_at "m_ex")) (by decide) (by decide) (by rfl) (by rfl) ?_; k_whole))
  k_with "ElEnd" => (refine ElEnd.intro (by k_asm) (by k_asm) (fmc (by k_mem) (by walk_at "m_ex")) ?_)
  k_with "call type:tuple" => (k_here; (with_reducible show wpAny _ _ (call (Value.type _) [Value.ref _]) _ _ _); k_dflt (refine kde_tupleOf (by k_asm) (by k_asm) (by exact News.isList (by k_asm) (by k_mem)) (by (simp only [List.size_toArray]; omega)) (by exact rfl) ?_; k_whole); intro D' h' F' N' l1; (try k_lt l1); (try k_sweep))
  k_with "m_use" => ((case B => k_asm); (case F => k_asm); (case X => k_asm); (case N => k_asm); (case T => k_asm); (case hk => exact rfl); (case hd => exact Nat.le_of_ble_eq_true rfl); (case hu => exact Nat.le_of_ble_eq_true rfl))
  k_with "m_rep" => ((rename News _ _ _ _ => N9); repeat' (first | with_unfolding_all exact RepAll.nil | with_unfolding_all exact Rep.none | with_unfolding_all exact Rep.bool _ | with_unfolding_all exact Rep.int _ _ | with_unfolding_all exact Rep.str _ _ | with_unfolding_all exact Rep.bytes _ _ | with_unfolding_all refine RepAll.cons ?_ ?_ | with_unfolding_all refine Rep.tup (News.get N9 (by k_mem)) ?_))
  trivial

theorem words_Bk18 : True := by
  k_with "k_all" => first | assumption | exact off_lt (by assumption)
  trivial
/-- a list of data -/
inductive KeysP (z : Heap) (v : Value) (h : Heap) : Prop
  | mk (a n : Nat) (vs : List Value) (e : v = .ref a) (e0 : z.get? a = none) (e1 : h.get? a = some (W.listOf vs.toArray n)) (r : RepAll h vs keyList) : KeysP z v h
inductive OneP (src lst : Nat) (vs : List Value) (v : Value) (h : Heap) : Prop
  | mk (S : SrcAt src lst h) (j : Nat) (hj : j < vs.length) (e : v = vs[j]) : OneP src lst vs v h
/-- _law_keys -/
theorem keys_does : Does prog w p loose mean mg mb [] 380 400 s (.call (.ref 241) ⟨[], []⟩) (KeysP s.heap) := by
  refine' enterM (news := []) (binds := []) ?hm ?hN ?ho ?hcd ?hro ?hb ?hl ?_ ?c2 ?c3 ?c4 ?c5
  case hm => exact rfl
  case hN => exact List.forall_mem_nil _
  walk_at "m_enter"
  intro l A₀ base g L' h' KG hz F' N' ll B' X' T' Rz hRz
  try dsimp only
  try k_fold
  k_steps
  unfold Hold
  (rename News _ _ _ _ => N8)
  refine ⟨_, _, _, rfl, ?_, News.get N8 (by k_mem), ?_⟩
  · have hn := (N8 (_, _) (List.Mem.head _)).2.2
    cases e : s.heap.get? _ with
    | none => rfl
    | some o => rw [KG _ _ e (by simp)] at hn; cases hn
  unfold keyList
  walk_at "m_rep"
theorem item_K {A : Around} {E : Value → Shared → Prop} {value slice : Expr} {a n u : Nat} {i : Int} {vs : List Value} {Q : Value → Shared → Prop} (hl : s.heap.get? a = some (W.listOf vs.toArray n)) (h0 : 0 ≤ i) (h1 : i < (vs.length : Int)) (hfit : i < 2 ^ 63) (h : ∀ hj : i.toNat < vs.length, Q vs[i.toNat] s)
    (hs : subscripted slice false (.ref a) (.int i u) = operate [.ref a, .int i u] (getItem (.ref a) (.int i u)) := by with_unfolding_all rfl) :
    wpAny (model prog w) A (subscriptTail value slice (.ref a) (.int i u)) Q E s := by
  have hlt : i.toNat < vs.length := by omega
  have hl' : s.heap.IsList a vs.toArray := ⟨_, hl, rfl, n, rfl⟩
  exact tail_any hl'.typeIs slot_list_getitem.lookup (wpAny_getItem_list hl' h0 hfit (x := vs[i.toNat]) (by simp [hlt]) (h hlt)) hs
theorem words_Bk19 : True := by
  k_with "call ref" => (k_here; (with_reducible show wpAny _ _ (call (Value.ref 220) _ _) _ _ _); refine stop ?_)
  k_with "call builtin:len" => (k_here; refine stop ?_)
  k_with "subscriptTail Name Call ref int" => (k_here; refine stop ?_)
  trivial
/-- _law_one -/
theorem one_does {src lst a n : Nat} {vs : List Value} (hS : SrcAt src lst s.heap) (hlt : lst < src) (h1 : s.heap.get? a = some (W.listOf vs.toArray n)) (n1 : a ≠ src) (n2 : a ≠ lst) (hz : 0 < vs.length) (hz9 : vs.length ≤ 9) :
    Does prog w p loose mean mg mb [src, lst] 370 360 s (.call (.ref 227) ⟨[.ref src, .ref a], []⟩) (OneP src lst vs) := by
  obtain ⟨b, m, t1, t2, k1, k2, us, ns, e1, e2, hI, hv, hm0, hm1⟩ := hS
  refine' enterM (news := [(src, W.listOf [.int b t1, .int m t2, .ref lst].toArray k1), (lst, W.listOf us.toArray k2)]) (binds := [("source", .ref src), ("things", .ref a)]) ?hm ?hN ?ho ?hcd ?hro ?hb ?hl ?_ ?c2 ?c3 ?c4 ?c5
  case hm => exact rfl
  case hN => (intro q hq; simp only [List.mem_cons, List.not_mem_nil, or_false] at hq; rcases hq with rfl | rfl; exact e1; exact e2)
  walk_at "m_enter"
  intro l A₀ base g L' h' KG hz' F' N' ll B' X' T' Rz hRz
  replace h1 := KG _ _ h1 (by simp [n1, n2])
  have h1l : g.IsList a vs.toArray := ⟨_, h1, rfl, n, rfl⟩
  try dsimp only
  try k_fold
  try k_lt ll
  k_steps
  try unfold Stop
  have F0 := F'
  have N0 := N'
  refine call_len_list (items := vs.toArray) (h1l.at fun o e => F0.keep _ _ e) (by simp; omega) ?_
  simp only [List.size_toArray]
  try dsimp only
  k_steps
  unfold Stop
  refine useX (sub := [_, _]) (kp := []) (ex := []) (av := [src, lst]) B' F0 X' N0 T' rfl (fun _ h => h) (List.forall_mem_nil _) (List.forall_mem_nil _) (List.forall_mem_nil _) (List.forall_mem_nil _) (fun _ h => h) (take_does ⟨_, _, _, _, _, _, _, _, News.get N0 (by k_mem), News.get N0 (by k_mem), hI, hv, hm0, hm1⟩ hlt (by omega) (by omega)) (Nat.le_of_ble_eq_true rfl) (Nat.le_of_ble_eq_true rfl) ?_
  intro v9 h9 tk9 ex F9 N9 _ hoff hex nw _ _ q9
  apply cutV (v := v9)
  intro C_ kC_
  obtain ⟨S9, d, t, rfl, d0, d1⟩ := q9
  refine kC_ _ ?_
  clear kC_ C_
  clear F0 N0 F' N'
  try dsimp only
  k_steps
  try unfold Stop
  refine item_K (vs := vs) (n := n) (F9.keep _ _ h1) d0 d1 (by omega) fun hj => ?_
  try dsimp only
  k_steps
  unfold Hold
  exact ⟨S9, _, hj, rfl⟩
end
/-! ## Pool -/
section
theorem words0_Pool : True := by
  w_top off
  k_with_none
  trivial
variable {prog : Program} {w : World} {p : Program} {loose : List Str} {mean : ExcName → Option Value} {mg mb : Str → Option Value} {s : Shared}
theorem words_Pool20 : True := by
  k_with "m_ex" => (first | with_reducible exact exAt0 | with_reducible exact exAt1 | with_reducible exact exAt2 | with_reducible exact exAt3 | with_reducible exact exAt4 | with_reducible exact exAt5 | with_reducible exact exAt6 | with_reducible exact exAt7 | with_reducible exact exAt8 | with_reducible exact exAt9 | with_reducible exact exAt10 | with_reducible exact exAt11 | with_reducible exact exAt12 | with_reducible exact exAt13 | with_reducible exact exAt14 | with_reducible exact exAt15 | with_reducible exact exAt16 | with_reducible exact exAt17 | with_reducible exact exAt18 | with_reducible exact exAt19 | with_reducible exact exAt20 | with_reducible exact exAt21 | with_reducible exact exAt22 | with_reducible exact exAt23)
  k_with "m_enter" => ((case ho => k_is); (case hcd => k_is); (case hro => decide); (case hb => exact BindsTo.of_eq rfl); (case hl => exact locs rfl); (case c2 => exact rfl); (case c3 => exact rfl); (case c4 => exact rfl); (case c5 => decide))
  k_with "m_enterC" => ((case ho => k_is); (case hcd => k_is); (case hro => decide); (case hb => exact BindsTo.of_eq rfl); (case hl => exact rfl); (case hnd => decide +kernel); (case c2 => exact rfl); (case c3 => exact rfl); (case c4 => exact rfl))
  k_with "EndR" => (refine endR (by with_reducible assumption) (by k_asm) ?_)
  k_with "k_mem" => first | with_reducible exact inAt0 | with_reducible exact inAt1 | with_reducible exact inAt2 | with_reducible exact inAt3 | with_reducible exact inAt4 | with_reducible exact inAt5 | with_reducible exact inAt6 | with_reducible exact inAt7 | with_reducible exact inAt8 | with_reducible exact inAt9 | with_reducible exact inAt10 | with_reducible exact inAt11 | with_reducible exact inAt12 | with_reducible exact inAt13 | with_reducible exact inAt14 | with_reducible exact inAt15 | with_reducible exact inAt16 | with_reducible exact inAt17 | with_reducible exact inAt18 | with_reducible exact inAt19 | with_reducible exact inAt20 | with_reducible exact inAt21 | with_reducible exact inAt22 | with_reducible exact inAt23
  k_with "k_ne" => first | with_reducible assumption | exact neSym (by with_reducible assumption) | exact neLt (by with_reducible assumption) | exact neGt (by with_reducible assumption) | fail
  k_with "call builtin:isinstance" => (k_here; (with_reducible show wpAny _ _ (call _ [Value.ref _, Value.type _]) _ _ _); k_dflt (refine kia_one kitx_tuple (by k_in) (by exact kit_base (by k_asm) (by assumption)) (by kit_is) (by kit_nb) ?_; k_whole); intro _)
  k_with "subscriptTail" => (k_here; (with_reducible show wpAny _ _ (subscriptTail _ _ (Value.ref _) (Value.int _ _)) _ _ _); k_dflt (refine item_tupleT (by first | exact isTup_base (by k_asm) (by assumption) | exact isTup_sure (by assumption) (by k_asm) (by k_asm) (by walk_at "m_ex")) (by decide) (by decide) (by rfl) (by rfl) ?_; k_whole))
  k_with "ElEnd" => (refine ElEnd.intro (by k_asm) (by k_asm) (fmc (by k_mem) (by walk_at "m_ex")) ?_)
  k_with "call type:tuple" => (k_here; (with_reducible show wpAny _ _ (call (Value.type _) [Value.ref _]) _ _ _); k_dflt (refine kde_tupleOf (by k_asm) (by k_asm) (by exact News.isList (by k_asm) (by k_mem)) (by (simp only [List.size_toArray]; omega)) (by exact rfl) ?_; k_whole); intro D' h' F' N' l1; (try k_lt l1); (try k_sweep))
  k_with "m_use" => ((case B => k_asm); (case F => k_asm); (case X => k_asm); (case N => k_asm); (case T => k_asm); (case hk => exact rfl); (case hd => exact Nat.le_of_ble_eq_true rfl); (case hu => exact Nat.le_of_ble_eq_true rfl))
  k_with "m_rep" => ((rename News _ _ _ _ => N9); repeat' (first | with_unfolding_all exact RepAll.nil | with_unfolding_all exact Rep.none | with_unfolding_all exact Rep.bool _ | with_unfolding_all exact Rep.int _ _ | with_unfolding_all exact Rep.str _ _ | with_unfolding_all exact Rep.bytes _ _ | with_unfolding_all refine RepAll.cons ?_ ?_ | with_unfolding_all refine Rep.tup (News.get N9 (by k_mem)) ?_))
  trivial

theorem item0_K {A : Around} {E : Value → Shared → Prop} {value slice : Expr} {a u : Nat} {x : Value} {vs : List Value} {Q : Value → Shared → Prop} (hl : s.heap.IsList a (x :: vs).toArray) (h : Q x s)
    (hs : subscripted slice false (.ref a) (.int 0 u) = operate [.ref a, .int 0 u] (getItem (.ref a) (.int 0 u)) := by with_unfolding_all rfl) :
    wpAny (model prog w) A (subscriptTail value slice (.ref a) (.int 0 u)) Q E s :=
  tail_any hl.typeIs slot_list_getitem.lookup (wpAny_getItem_list hl (by decide) (by decide) (x := x) (by simp) h) hs
theorem words_Pool21 : True := by
  k_with "subscriptTail" => (k_here; (with_reducible show wpAny _ _ (subscriptTail _ _ (Value.ref _) (Value.int 0 _)) _ _ _); (refine item0_K (by is_list) ?_ (by with_unfolding_all rfl)))
  trivial
inductive PoolP (z : Heap) (row : Nat) (v : Value) (h : Heap) : Prop
  | mk (src lst : Nat) (e : v = .ref src) (S : SrcAt src lst h) (h1 : lst < src) (h2 : z.get? src = none) (h3 : lst = row ∨ z.get? lst = none) (h4 : row ≤ lst) : PoolP z row v h
/-- _law_pool -/
theorem pool_does {sc row rk : Nat} {vs rv : List Value} {ns rs : List Int} (hs : s.heap.IsList sc vs.toArray) (hI : IntsAre vs ns) (hz : ns.length ≤ 63) (hr : s.heap.get? row = some (W.listOf rv.toArray rk)) (hR : IntsAre rv rs) (hrz : rv.length ≤ 7) (hne : sc ≠ row) :
    Does prog w p loose mean mg mb [row] 380 400 s (.call (.ref 213) ⟨[.ref sc, .ref row], []⟩) (PoolP s.heap row) := by
  refine' enterM (news := [(row, W.listOf rv.toArray rk)]) (binds := [("script", .ref sc), ("row", .ref row)]) ?hm ?hN ?ho ?hcd ?hro ?hb ?hl ?_ ?c2 ?c3 ?c4 ?c5
  case hm => exact rfl
  case hN => (intro q hq; rw [List.mem_singleton.mp hq]; exact hr)
  walk_at "m_enter"
  intro l A₀ base g L' h' KG hz' F' N' ll B' X' T' Rz hRz
  have hs' : g.IsList sc vs.toArray := hs.at fun o e => KG _ _ e (by simpa using hne)
  have new : ∀ {b : Nat} {o : Obj} {h9 : Heap}, News g L' h9 [(b, o)] → b ≠ row → s.heap.get? b = none := fun {b o h9} N nb => by
    cases e : s.heap.get? b with
    | none => rfl
    | some o' => have := KG _ _ e (by simpa using nb); rw [(N _ (List.mem_singleton.mpr rfl)).2.2] at this; cases this
  cases hI
  all_goals (
    try dsimp only
    try k_fold
    try k_lt ll
    k_steps)
  all_goals (
    unfold Hold
    (rename News _ _ _ _ => N9)
    have e1 := News.get N9 (List.Mem.head _)
    first
    | exact ⟨_, _, rfl, ⟨_, _, _, _, _, _, _, _, e1, News.get N9 (by k_mem), hR, hrz, Int.fmod_nonneg_of_pos _ (by omega), Int.fmod_lt_of_pos _ (by omega)⟩, by omega, new (fun q hq => N9 q (by rw [List.mem_singleton.mp hq]; exact List.Mem.head _)) (by omega), Or.inl rfl, Nat.le_refl _⟩
    | exact ⟨_, _, rfl, ⟨_, _, _, _, _, _, _, _, e1, News.get N9 (List.Mem.tail _ (List.Mem.head _)), .nil, by simp, Int.fmod_nonneg_of_pos _ (by omega), Int.fmod_lt_of_pos _ (by omega)⟩, by omega, new (fun q hq => N9 q (by rw [List.mem_singleton.mp hq]; exact List.Mem.head _)) (by omega), Or.inr (new (fun q hq => N9 q (by rw [List.mem_singleton.mp hq]; exact List.Mem.tail _ (List.Mem.head _))) (by omega)), by omega⟩)
end
/-! ## Bk2 -/
section
theorem words0_Bk2 : True := by
  w_top off
  k_with_none
  trivial
variable {prog : Program} {w : World} {p : Program} {loose : List Str} {mean : ExcName → Option Value} {mg mb : Str → Option Value} {s : Shared}
section
variable {A : Around} {E : Value → Shared → Prop} {g : Heap} {L : Addr} {m : Str → Option Value} {news : List (Addr × Obj)}
theorem short_k : ∀ k : K8, dshort (keyD k) = true ∧ (dtext (keyD k)).length ≤ 1000 ∧ deep (keyD k) ≤ 4 := by decide +kernel
theorem repr_L {v : Value} {k : K8} {Q : Value → Shared → Prop} (F : Fr g L s.heap m) (N : News g L s.heap news) (hv : Rep s.heap v (keyD k)) (hr : A.units + 8 < cLine) (h : ∀ h' tk t, Fr g L h' m → News g L h' news → Q (.str (dtext (keyD k)) t) { s with heap := h', toks := tk }) (hg : A.guards = some [] := by rfl) :
    wpAny (model prog w) A (call (.builtin "repr") [v]) Q E s :=
  repr_data hv (short_k k).1 (short_k k).2.1 hg (by have := (short_k k).2.2; omega) fun h' u tk kp => h h' tk u (F.keeps kp) (N.grown kp)
theorem text_eq {j k : K8} : (dtext (keyD j) == dtext (keyD k)) = decide (j = k) := text_keys j k
theorem eq_text_t {j k : K8} {t u : Nat} {Q : Value → Shared → Prop} (e : j = k) (h : Q (.bool true) s) : wpAny (model prog w) A (compareOp .Eq (.str (dtext (keyD j)) t) (.str (dtext (keyD k)) u)) Q E s := eq_str (by rw [text_eq]; simpa [e] using h)
theorem eq_text_f {j k : K8} {t u : Nat} {Q : Value → Shared → Prop} (e : ¬ j = k) (h : Q (.bool false) s) : wpAny (model prog w) A (compareOp .Eq (.str (dtext (keyD j)) t) (.str (dtext (keyD k)) u)) Q E s := eq_str (by rw [text_eq]; simpa [e] using h)
theorem ne_text_t {j k : K8} {t u : Nat} {Q : Value → Shared → Prop} (e : j = k) (h : Q (.bool false) s) : wpAny (model prog w) A (compareOp .NotEq (.str (dtext (keyD j)) t) (.str (dtext (keyD k)) u)) Q E s := ne_str (by rw [bne, text_eq]; simpa [e] using h)
theorem ne_text_f {j k : K8} {t u : Nat} {Q : Value → Shared → Prop} (e : ¬ j = k) (h : Q (.bool true) s) : wpAny (model prog w) A (compareOp .NotEq (.str (dtext (keyD j)) t) (.str (dtext (keyD k)) u)) Q E s := ne_str (by rw [bne, text_eq]; simpa [e] using h)
theorem eq_key_t {x y : K8} {v u : Value} {Q : Value → Shared → Prop} (e : x = y) (hv : Rep s.heap v (keyD x)) (hu : Rep s.heap u (keyD y)) (hr : A.units + 8 < cLine) (h : Q (.bool true) s) : wpAny (model prog w) A (compareOp .Eq v u) Q E s := eq_key hv hu hr (by simpa [e] using h)
theorem eq_key_f {x y : K8} {v u : Value} {Q : Value → Shared → Prop} (e : ¬ x = y) (hv : Rep s.heap v (keyD x)) (hu : Rep s.heap u (keyD y)) (hr : A.units + 8 < cLine) (h : Q (.bool false) s) : wpAny (model prog w) A (compareOp .Eq v u) Q E s := eq_key hv hu hr (by simpa [e] using h)
theorem Rep.tupInv {h : Heap} {v : Value} {ds : List Dt} (x : Rep h v (.tup ds)) : ∃ a vs, v = .ref a ∧ h.get? a = some (tupObj vs) ∧ RepAll h vs ds := by
  cases x with
  | tup e r => exact ⟨_, _, rfl, e, r⟩
theorem Rep.intInv {h : Heap} {v : Value} {i : Int} (x : Rep h v (.int i)) : ∃ t, v = .int i t := by
  cases x with
  | int _ t => exact ⟨t, rfl⟩
theorem RepAll.consInv {h : Heap} {vs : List Value} {d : Dt} {ds : List Dt} (x : RepAll h vs (d :: ds)) : ∃ v r, vs = v :: r ∧ Rep h v d ∧ RepAll h r ds := by
  cases x with
  | cons a r => exact ⟨_, _, rfl, a, r⟩
theorem RepAll.nilInv {h : Heap} {vs : List Value} (x : RepAll h vs []) : vs = [] := by
  cases x with
  | nil => rfl
theorem rowD_open {h : Heap} {v : Value} {r : Row} (x : Rep h v (rowD r)) : ∃ b t kv t', v = .ref b ∧ h.get? b = some (tupObj [.int r.n t, kv, .int r.v t']) ∧ Rep h kv (keyD r.k) := by
  obtain ⟨b, vs, hv, e, xa⟩ := Rep.tupInv x
  obtain ⟨v1, r1, e1, x1, xb⟩ := xa.consInv
  obtain ⟨v2, r2, e2, x2, xc⟩ := xb.consInv
  obtain ⟨v3, r3, e3, x3, xd⟩ := xc.consInv
  obtain ⟨t, e4⟩ := x1.intInv
  obtain ⟨t', e5⟩ := x3.intInv
  have e6 := xd.nilInv
  subst e6 e5 e4 e3 e2 e1
  exact ⟨b, t, v2, t', hv, e, x2⟩
theorem setItem_P {l n : Nat} {items : List Value} {k : Int} {t : Nat} {v : Value} {Q : Unit → Shared → Prop} (ho : s.heap.get? l = some (W.listOf items.toArray n)) (h0 : 0 ≤ k) (hfit : k < 2 ^ 63) (hn : k < (items.length : Int))
    (hQ : ∀ h', h'.get? l = some (W.listOf (items.set k.toNat v).toArray n) → Heap.SameBut l s.heap h' → Q () { s with heap := h' }) :
    wpAny (model prog w) A (setItem (.ref l) (.int k t) v) Q E s := by
  have hl : s.heap.IsList l items.toArray := ⟨_, ho, rfl, n, rfl⟩
  unfold setItem
  try with_reducible refine wpAny_holding ?_
  first | refine wpAny_bind (wpAny_pure ?_) | skip
  refine wpAny_bind (wpAny_sequenceKey hl.typeIs (by decide) ?_)
  refine wpAny_bind (wpAny_callSpecial?_slot (name := Str.ofString "__setitem__") hl.typeIs slot_list_setitem
    (wpAny_call_entry slot_list_setitem hl.typeIs entry_list_setitem ?_ (args_list_setitem _ _ _)))
  show wpAny _ _ (Builtin.List.listSubscript? (.int k t) >>= _) _ _ s
  refine wpAny_bind (wpAny_listSubscript_int (fitsIndex_of h0 hfit) ?_)
  clear hfit
  obtain ⟨j, rfl⟩ := Int.eq_ofNat_of_zero_le h0
  have hj : j < items.length := by omega
  have hx' : items.toArray[j]? = some items[j] := by simp [hj]
  show wpAny _ _ ((seqItemAt l j >>= fun r => pure (r.map (j, ·))) >>= _) _ _ s
  refine wpAny_bind (wpAny_bind (wpAny_seqItemAt ho rfl (wpAny_pure ?_)))
  rw [hx']
  show wpAny _ _ (setSeqItemAt l j v >>= _) _ _ s
  have hfin : (s.heap.update l (Obj.mapSeq (·.setIfInBounds j v))).get? l = some (W.listOf (items.set j v).toArray n) := by
    have := get?_update_seq (c := "list") ho (·.setIfInBounds j v)
    simpa [seqObj] using this
  refine wpAny_bind (wpAny_setSeqItemAt ho rfl ?_)
  first
    | exact wpAny_bind (wpAny_pure (wpAny_pure ⟨.none, rfl, wpAny_pure (hQ _ hfin (Heap.SameBut.update ..))⟩))
    | exact wpAny_pure ⟨.none, rfl, wpAny_pure (hQ _ hfin (Heap.SameBut.update ..))⟩
theorem append_P {l n : Nat} {items : List Value} {v : Value} {Q : Value → Shared → Prop} (ho : s.heap.get? l = some (W.listOf items.toArray n)) (hz : items.length ≤ 1000)
    (hQ : ∀ h' n', h'.get? l = some (W.listOf (items ++ [v]).toArray n') → Heap.SameBut l s.heap h' → Q .none { s with heap := h' }) :
    wpAny (model prog w) A (call (.builtin "list.append") [.ref l, v]) Q E s :=
  wpAny_list_append_plain (items := items.toArray) ⟨n, ho⟩ (fun h' ⟨n', e⟩ hs => hQ h' n' (by simpa using e) hs) (by rw [sizeLine_eq]; simp; omega)
theorem keep_fp {ex : List (Addr × Obj)} {av : List Addr} {h₁ h' : Heap} {m₁ m' : Str → Option Value} (F₁ : Fr g L h₁ m₁) (hex : ex = oth g (L :: av) h₁) (F : Fr g L h' m') (N : News g L h' news) (hs : ∀ q ∈ ex, q ∈ news) : ∀ b, b ∉ L :: av → ∀ o, h₁.get? b = some o → h'.get? b = some o := fun b hb o e => by
  cases q : g.get? b with
  | some o' => have := F₁.keep _ _ q; rw [e] at this; cases this; exact F.keep _ _ q
  | none => exact (N (b, o) (hs _ (hex ▸ mem_oth.mpr ⟨e, q, hb⟩))).1
theorem RepAll.set {h : Heap} {v : Value} {d : Dt} : ∀ {vs : List Value} {ds : List Dt} {i : Nat}, RepAll h vs ds → Rep h v d → RepAll h (vs.set i v) (ds.set i d)
  | _, _, _, .nil, _ => .nil
  | _, _, 0, .cons _ r, x => .cons x r
  | _, _, i + 1, .cons y r, x => .cons y (RepAll.set (i := i) r x)
theorem map_set {rs : List Row} {k : K8} {f : Row → Row} {i : Nat} (hi : i < rs.length) (hnd : (rs.map Row.k).Nodup) (e : rs[i].k = k) : (rs.map fun r => if r.k = k then f r else r) = rs.set i (f rs[i]) := by
  apply List.ext_getElem (by simp)
  intro j h1 h2
  simp only [List.getElem_map, List.getElem_set]
  by_cases hj : i = j
  · subst hj; simp [e]
  · have h3 : j < rs.length := by simpa using h1
    have hne : rs[j].k ≠ k := fun q => by
      have hp := List.pairwise_iff_getElem.mp hnd
      rcases Nat.lt_or_gt_of_ne hj with q' | q'
      · have := hp i j (by simpa using hi) (by simpa using h3) q'
        simp only [List.getElem_map] at this
        exact this (e.trans q.symm)
      · have := hp j i (by simpa using h3) (by simpa using hi) q'
        simp only [List.getElem_map] at this
        exact this (q.trans e.symm)
    simp [hne, hj]
theorem norm_none2 {α : Type} {m0 : Str → Option α} {x y : Str} (hx : m0 x = none) (hy : m0 y = none) : m0 = fun z => if z = x then none else if z = y then none else m0 z := funext fun z => by
  by_cases h1 : z = x
  · subst h1; simp [hx]
  · by_cases h2 : z = y
    · subst h2; simp [h1, hy]
    · simp [h1, h2]
theorem led (F : Fr g L s.heap m) (kp : List (Addr × Obj)) (av : List Addr) (hk : ∀ q ∈ kp, s.heap.get? q.1 = some q.2 ∧ q.1 ≠ L ∧ g.get? q.1 = none) : ∃ ex, News g L s.heap (kp ++ ex) ∧ (∀ q ∈ ex, q.1 ∉ av) ∧ ex = oth g (L :: av) s.heap :=
  ⟨_, News.append hk (oth_news (by simp)), fun q hq hm => oth_off q hq (List.mem_cons_of_mem _ hm), rfl⟩
end
theorem words_Bk222 : True := by
  k_with "m_ex" => (first | with_reducible exact exAt0 | with_reducible exact exAt1 | with_reducible exact exAt2 | with_reducible exact exAt3 | with_reducible exact exAt4 | with_reducible exact exAt5 | with_reducible exact exAt6 | with_reducible exact exAt7 | with_reducible exact exAt8 | with_reducible exact exAt9 | with_reducible exact exAt10 | with_reducible exact exAt11 | with_reducible exact exAt12 | with_reducible exact exAt13 | with_reducible exact exAt14 | with_reducible exact exAt15 | with_reducible exact exAt16 | with_reducible exact exAt17 | with_reducible exact exAt18 | with_reducible exact exAt19 | with_reducible exact exAt20 | with_reducible exact exAt21 | with_reducible exact exAt22 | with_reducible exact exAt23)
  k_with "m_enter" => ((case ho => k_is); (case hcd => k_is); (case hro => decide); (case hb => exact BindsTo.of_eq rfl); (case hl => exact locs rfl); (case c2 => exact rfl); (case c3 => exact rfl); (case c4 => exact rfl); (case c5 => decide))
  k_with "m_enterC" => ((case ho => k_is); (case hcd => k_is); (case hro => decide); (case hb => exact BindsTo.of_eq rfl); (case hl => exact rfl); (case hnd => decide +kernel); (case c2 => exact rfl); (case c3 => exact rfl); (case c4 => exact rfl))
  k_with "EndR" => (refine endR (by with_reducible assumption) (by k_asm) ?_)
  k_with "k_mem" => first | with_reducible exact inAt0 | with_reducible exact inAt1 | with_reducible exact inAt2 | with_reducible exact inAt3 | with_reducible exact inAt4 | with_reducible exact inAt5 | with_reducible exact inAt6 | with_reducible exact inAt7 | with_reducible exact inAt8 | with_reducible exact inAt9 | with_reducible exact inAt10 | with_reducible exact inAt11 | with_reducible exact inAt12 | with_reducible exact inAt13 | with_reducible exact inAt14 | with_reducible exact inAt15 | with_reducible exact inAt16 | with_reducible exact inAt17 | with_reducible exact inAt18 | with_reducible exact inAt19 | with_reducible exact inAt20 | with_reducible exact inAt21 | with_reducible exact inAt22 | with_reducible exact inAt23
  k_with "k_ne" => first | with_reducible assumption | exact neSym (by with_reducible assumption) | exact neLt (by with_reducible assumption) | exact neGt (by with_reducible assumption) | fail
  k_with "call builtin:isinstance" => (k_here; (with_reducible show wpAny _ _ (call _ [Value.ref _, Value.type _]) _ _ _); k_dflt (refine kia_one kitx_tuple (by k_in) (by exact kit_base (by k_asm) (by assumption)) (by kit_is) (by kit_nb) ?_; k_whole); intro _)
  k_with "subscriptTail" => (k_here; (with_reducible show wpAny _ _ (subscriptTail _ _ (Value.ref _) (Value.int _ _)) _ _ _); k_dflt (refine item_tupleT (by first | exact isTup_base (by k_asm) (by assumption) | exact isTup_sure (by assumption) (by k_asm) (by k_asm) (by walk_at "m_ex")) (by decide) (by decide) (by rfl) (by rfl) ?_; k_whole))
  k_with "ElEnd" => (refine ElEnd.intro (by k_asm) (by k_asm) (fmc (by k_mem) (by walk_at "m_ex")) ?_)
  k_with "call type:tuple" => (k_here; (with_reducible show wpAny _ _ (call (Value.type _) [Value.ref _]) _ _ _); k_dflt (refine kde_tupleOf (by k_asm) (by k_asm) (by exact News.isList (by k_asm) (by k_mem)) (by (simp only [List.size_toArray]; omega)) (by exact rfl) ?_; k_whole); intro D' h' F' N' l1; (try k_lt l1); (try k_sweep))
  k_with "m_use" => ((case B => k_asm); (case F => k_asm); (case X => k_asm); (case N => k_asm); (case T => k_asm); (case hk => exact rfl); (case hd => exact Nat.le_of_ble_eq_true rfl); (case hu => exact Nat.le_of_ble_eq_true rfl))
  k_with "m_rep" => ((rename News _ _ _ _ => N9); repeat' (first | with_unfolding_all exact RepAll.nil | with_unfolding_all exact Rep.none | with_unfolding_all exact Rep.bool _ | with_unfolding_all exact Rep.int _ _ | with_unfolding_all exact Rep.str _ _ | with_unfolding_all exact Rep.bytes _ _ | with_unfolding_all refine RepAll.cons ?_ ?_ | with_unfolding_all refine Rep.tup (News.get N9 (by k_mem)) ?_))
  k_with "m_repin" => (first | assumption | exact rep_now (by k_asm) (by assumption) | exact Sure.now (by assumption) (by k_asm) (by k_asm) (by walk_at "m_ex"))
  k_with "call builtin:repr" => (k_here; (with_reducible show wpAny _ _ (call (Value.builtin "repr") [_]) _ _ _); (refine repr_L (by k_asm) (by k_asm) (by walk_at "m_repin") (by exact Nat.le_of_ble_eq_true rfl) ?_); (intro h9 tk9 t9 F9 N9); (try dsimp only); (try k_sweep))
  k_with "compareOp Eq str str" => (k_here; first | refine eq_text_t (by assumption) ?_ | refine eq_text_f (by assumption) ?_)
  k_with "compareOp NotEq str str" => (k_here; first | refine ne_text_t (by assumption) ?_ | refine ne_text_f (by assumption) ?_)
  k_with "compareOp Eq" => (k_here; first | (refine eq_key_t (by assumption) (by walk_at "m_repin") (by walk_at "m_repin") (by exact Nat.le_of_ble_eq_true rfl) ?_) | (refine eq_key_f (by assumption) (by walk_at "m_repin") (by walk_at "m_repin") (by exact Nat.le_of_ble_eq_true rfl) ?_))
  k_with "k_inst" => exact inst_base (by k_asm) (by assumption) (by assumption)
  k_with "m_subs" => first | exact List.forall_mem_nil _ | (refine fmc (by k_mem) ?_; walk_at "m_subs")
  k_with "m_avs" => (intro q hq; simpa using hq)
  k_with "m_off1" => first | exact List.not_mem_nil | (refine nmc (by k_ne) ?_; walk_at "m_off1")
  k_with "m_offs" => first | exact List.forall_mem_nil _ | (refine fmc ?_ ?_; (· (dsimp only [List.map_cons, List.map_nil]; walk_at "m_off1")); walk_at "m_offs")
  k_with "m_sa" => first | exact List.forall_mem_nil _ | (refine fmc (by k_mem) ?_; walk_at "m_sa")
  trivial

theorem words_Bk223 : True := by
  k_with "call builtin:list.append" => (k_here; refine stop ?_)
  k_with "k_all" => first | assumption | exact off_lt (by assumption)
  k_with "exec For Tuple Call" => (k_here; refine stop ?_)
  k_with "exec For Tuple Call cons nil" => (k_here; refine stop ?_)
  trivial
/-- a book of rows -/
inductive BookAt (h : Heap) (book : Nat) (rs : List Row) : Prop
  | mk (bs : List Value) (n : Nat) (e : h.get? book = some (W.listOf bs.toArray n)) (r : RepAll h bs (rs.map rowD)) : BookAt h book rs
theorem words_Bk224 : True := by
  k_with "setItem ref int" => (k_here; refine stop ?_)
  trivial
/-- _law_put -/
theorem put2_does {book tc tv n : Nat} {c x : Int} {v : Value} {k : K8} {bs : List Value} {rs : List Row} (h1 : s.heap.get? book = some (W.listOf bs.toArray n)) (hx : RepAll s.heap bs (rs.map rowD)) (hnd : (rs.map Row.k).Nodup) (hz7 : rs.length ≤ 40) (hv : Rep s.heap v (keyD k)) :
    Does prog w p loose mean mg mb [book] 350 300 s (.call (.ref 248) ⟨[.ref book, v, .int x tv, .int c tc], []⟩) (fun r h' => BookAt h' book (putRow rs k x c) ∧ ∃ t, r = .int (putC rs k c) t) := by
  refine' enterM (news := [(book, W.listOf bs.toArray n)]) (binds := [("book", .ref book), ("key", v), ("value", .int x tv), ("coming", .int c tc)]) ?hm ?hN ?ho ?hcd ?hro ?hb ?hl ?_ ?c2 ?c3 ?c4 ?c5
  case hm => exact rfl
  case hN => (intro q hq; simp only [List.mem_cons, List.not_mem_nil, or_false] at hq; rcases hq with rfl; exact h1)
  walk_at "m_enter"
  intro l A₀ base g L' h' KG hz' F' N' ll B' X' T' Rz hRz
  have nt : NoTup [book] s.heap := AvOk.noTup (avCons h1 rfl avNil)
  replace hv := hv.keep KG nt
  replace hx := hx.keep KG nt
  clear nt h1
  try dsimp only
  try k_fold
  try k_lt ll
  k_steps
  unfold Stop
  (rename Fr _ _ _ _ => F0)
  (rename News _ _ _ _ => N0)
  refine for_K F0 ?_
  try dsimp only
  k_steps
  have hbk := N0 _ (List.Mem.head _)
  refine forAt_enum (vs := bs) (g := g) (J := fun i h m => (∃ a b, m = fun y => if y = Str.ofString "row" then a else if y = Str.ofString "place" then b else List.lookup y [(Str.ofString "book", Value.ref book), (Str.ofString "key", v), (Str.ofString "value", Value.int x tv), (Str.ofString "coming", Value.int c tc)].reverse) ∧ h.get? book = some (W.listOf bs.toArray n) ∧ ∀ r ∈ rs.take i, ¬ r.k = k) rfl F0 (News.isList N0 (by k_mem)) ?h0 ?hJ ?step ?fin
  case h0 =>
    intro h kp
    exact ⟨⟨none, none, norm_none2 rfl rfl⟩, kp _ _ hbk.1, by simp⟩
  case hJ =>
    rintro i I h h2 m hI ⟨hm, hb, hp⟩ kp nt
    have := Heap.lt_size hbk.1
    have h1 : (book : Nat) ≠ I + 1 := Nat.ne_of_lt (Nat.lt_succ_of_lt (Nat.lt_of_lt_of_le this hI))
    have h2 : (book : Nat) ≠ I := Nat.ne_of_lt (Nat.lt_of_lt_of_le this hI)
    exact ⟨hm, kp _ _ hb (by simp [h1, h2]), hp⟩
  case step =>
    rintro i vi m₁ h₁ tk₁ I T t hi hT ⟨⟨a, b, rfl⟩, hb1, hpre⟩ F₁ hI hg hoI hoI1 s₂ R9 hN9 hR9
    have hlen := hx.length
    rw [List.length_map] at hlen
    have hi1 : i < bs.length := by
      rcases Nat.lt_or_ge i bs.length with q | q
      · exact q
      · rw [List.getElem?_eq_none q] at hi; cases hi
    rw [List.getElem?_eq_getElem hi1, Option.some.injEq] at hi
    have hi2 : i < rs.length := hlen ▸ hi1
    have rv := hx.get i hi1 (by simpa using hi2)
    rw [hi] at rv
    simp only [List.getElem_map] at rv
    generalize hr : rs[i] = r at rv
    refine cutC fun C_ kC_ => ?_
    obtain ⟨bb, t1, kv, t2, rfl, eb, rk⟩ := rowD_open rv
    refine kC_ ?_
    clear kC_ C_
    obtain ⟨ex, N₁, hoff, hex⟩ := led (s := { s with heap := h₁ }) F₁ [(book, W.listOf bs.toArray n)] [book] (by intro q hq; rw [List.mem_singleton.mp hq]; exact ⟨hb1, hbk.2⟩)
    dsimp only [List.cons_append, List.nil_append] at N₁
    have o1 : ∀ q ∈ ex, q.1 ≠ book := fun q hq e => hoff q hq (by simp [e])
    have hF0 := F0.ns.lt
    have kf : ∀ {h' : Heap} {m' : Str → Option Value} {news : List (Addr × Obj)}, Fr g L' h' m' → News g L' h' news → (∀ q ∈ ex, q ∈ news) → ∀ b, b ∉ L' :: [book] → ∀ o, h₁.get? b = some o → h'.get? b = some o := fun F N hs => keep_fp F₁ hex F N hs
    clear F0 N0
    by_cases e : r.k = k
    · try dsimp only
      k_steps
      try unfold Stop
      (rename Fr _ _ _ _ => F8)
      (rename News _ _ _ _ => N8)
      refine setItem_P (News.get N8 (by k_mem)) (Int.natCast_nonneg i) (Int.lt_of_lt_of_le (Int.ofNat_lt.mpr hi1) (by omega)) (Int.ofNat_lt.mpr hi1) fun h7 e7 s7 => ?_
      rw [Int.toNat_natCast] at e7
      have F7 := fr_same F8 N8 (by k_mem) s7
      have N7 := news_upd N8 (by k_updF) s7 e7
      clear F8 N8
      try dsimp only at N7 ⊢
      k_steps
      refine ForR.ret hR9 ?_
      try dsimp only
      refine endR hRz F7 ?_
      unfold Hold
      refine ⟨⟨_, _, News.get N7 (by k_mem), ?_⟩, ?_⟩
      · have hk : hasK rs k = true := List.any_eq_true.mpr ⟨r, hr ▸ List.getElem_mem hi2, by simp [e]⟩
        rw [putRow, if_pos hk, map_set (f := fun r => { r with v := x }) hi2 hnd (hr ▸ e), List.map_set]
        refine RepAll.set (hx.grow F7.keep) ?_
        rw [hr]
        exact .tup (News.get N7 (by k_mem)) (.cons (.int _ _) (.cons (by show Rep _ _ (keyD r.k); rw [e]; exact rep_now F7 hv) (.cons (.int _ _) .nil)))
      · have hk : hasK rs k = true := List.any_eq_true.mpr ⟨r, hr ▸ List.getElem_mem hi2, by simp [e]⟩
        rw [putC, if_pos hk]
        exact ⟨_, rfl⟩
    · try dsimp only
      k_steps
      (rename Fr _ _ _ _ => F8)
      (rename News _ _ _ _ => N8)
      refine ForR.next hN9 F8 ?_ ⟨⟨some (.ref bb), some (.int i t), ?_⟩, News.get N8 (by k_mem), ?_⟩
      · intro b' hb' o' eo
        have hbs := Heap.lt_size hbk.1
        simp only [List.mem_cons, List.not_mem_nil, or_false] at hb'
        have off : ∀ c : Addr, I ≤ c → c ∉ L' :: [book] := fun c hc hm => by
          simp only [List.mem_cons, List.not_mem_nil, or_false] at hm
          rcases hm with e | e
          · have := hF0; rw [e] at hc; exact Nat.not_lt.mpr (Nat.le_trans hI hc) this
          · rw [e] at hc; exact Nat.not_lt.mpr (Nat.le_trans hI hc) hbs
        rcases hb' with rfl | rfl | rfl
        · exact kf F8 N8 (by walk_at "m_ex") _ (off _ (Nat.le_succ _)) _ eo
        · exact kf F8 N8 (by walk_at "m_ex") _ (off _ (Nat.le_refl _)) _ eo
        · rw [hb1] at eo; cases eo; exact News.get N8 (by k_mem)
      · funext z
        by_cases h1 : z = Str.ofString "row"
        · simp [h1]
        · by_cases h2 : z = Str.ofString "place"
          · simp [h1, h2]
          · simp [h1, h2]
      · intro r' hr'
        rw [List.take_add_one, List.getElem?_eq_getElem hi2, hr] at hr'
        rcases List.mem_append.mp hr' with q | q
        · exact hpre r' q
        · simp at q; rw [q]; exact e
  case fin =>
    rintro h₁ tk₁ m₁ F₁ ⟨⟨a, b, rfl⟩, hb1, hpre⟩
    have N₁ : News g L' h₁ [(book, W.listOf bs.toArray n)] := by intro q hq; rw [List.mem_singleton.mp hq]; exact ⟨hb1, hbk.2⟩
    clear F0 N0
    try dsimp only
    k_steps
    (rename Fr _ _ _ _ => F8)
    (rename News _ _ _ _ => N8)
    unfold Stop
    refine append_P (News.get N8 (by k_mem)) (by have := hx.length; simp at this; omega) fun h7 n7 e7 s7 => ?_
    have F7 := fr_same F8 N8 (by k_mem) s7
    have N7 := news_upd N8 (by k_updF) s7 e7
    clear F8 N8
    try dsimp only at N7 ⊢
    k_steps
    have hlen := hx.length
    rw [List.length_map] at hlen
    have hk : hasK rs k = false := by
      rw [hlen, List.take_length] at hpre
      simpa [hasK] using hpre
    unfold Hold
    refine ⟨⟨_, _, News.get N7 (by k_mem), ?_⟩, _, by rw [putC, if_neg (by simp [hk])]⟩
    rw [putRow, if_neg (by simp [hk]), List.map_append]
    exact (hx.grow F7.keep).append (.cons (.tup (News.get N7 (by k_mem)) (.cons (.int _ _) (.cons (rep_now F7 hv) (.cons (.int _ _) .nil)))) .nil)
end
/-! ## Bk3 -/
section
theorem words0_Bk3 : True := by
  w_top off
  k_with_none
  trivial
variable {prog : Program} {w : World} {p : Program} {loose : List Str} {mean : ExcName → Option Value} {mg mb : Str → Option Value} {s : Shared}
noncomputable def rowKey : Dt → Dt
  | .tup [_, kd, _] => kd
  | _ => .none
noncomputable def otherKey (k : K8) (d : Dt) : Bool := !(dtext (rowKey d) == dtext (keyD k))
theorem drop_map (rs : List Row) (k : K8) : (rs.map rowD).filter (otherKey k) = (dropRow rs k).map rowD := by
  rw [List.filter_map, dropRow]
  congr 2
  funext r
  simp [otherKey, rowD, rowKey, text_eq]
theorem words_Bk325 : True := by
  k_with "m_ex" => (first | with_reducible exact exAt0 | with_reducible exact exAt1 | with_reducible exact exAt2 | with_reducible exact exAt3 | with_reducible exact exAt4 | with_reducible exact exAt5 | with_reducible exact exAt6 | with_reducible exact exAt7 | with_reducible exact exAt8 | with_reducible exact exAt9 | with_reducible exact exAt10 | with_reducible exact exAt11 | with_reducible exact exAt12 | with_reducible exact exAt13 | with_reducible exact exAt14 | with_reducible exact exAt15 | with_reducible exact exAt16 | with_reducible exact exAt17 | with_reducible exact exAt18 | with_reducible exact exAt19 | with_reducible exact exAt20 | with_reducible exact exAt21 | with_reducible exact exAt22 | with_reducible exact exAt23)
  k_with "m_enter" => ((case ho => k_is); (case hcd => k_is); (case hro => decide); (case hb => exact BindsTo.of_eq rfl); (case hl => exact locs rfl); (case c2 => exact rfl); (case c3 => exact rfl); (case c4 => exact rfl); (case c5 => decide))
  k_with "m_enterC" => ((case ho => k_is); (case hcd => k_is); (case hro => decide); (case hb => exact BindsTo.of_eq rfl); (case hl => exact rfl); (case hnd => decide +kernel); (case c2 => exact rfl); (case c3 => exact rfl); (case c4 => exact rfl))
  k_with "EndR" => (refine endR (by with_reducible assumption) (by k_asm) ?_)
  k_with "k_mem" => first | with_reducible exact inAt0 | with_reducible exact inAt1 | with_reducible exact inAt2 | with_reducible exact inAt3 | with_reducible exact inAt4 | with_reducible exact inAt5 | with_reducible exact inAt6 | with_reducible exact inAt7 | with_reducible exact inAt8 | with_reducible exact inAt9 | with_reducible exact inAt10 | with_reducible exact inAt11 | with_reducible exact inAt12 | with_reducible exact inAt13 | with_reducible exact inAt14 | with_reducible exact inAt15 | with_reducible exact inAt16 | with_reducible exact inAt17 | with_reducible exact inAt18 | with_reducible exact inAt19 | with_reducible exact inAt20 | with_reducible exact inAt21 | with_reducible exact inAt22 | with_reducible exact inAt23
  k_with "k_ne" => first | with_reducible assumption | exact neSym (by with_reducible assumption) | exact neLt (by with_reducible assumption) | exact neGt (by with_reducible assumption) | fail
  k_with "call builtin:isinstance" => (k_here; (with_reducible show wpAny _ _ (call _ [Value.ref _, Value.type _]) _ _ _); k_dflt (refine kia_one kitx_tuple (by k_in) (by exact kit_base (by k_asm) (by assumption)) (by kit_is) (by kit_nb) ?_; k_whole); intro _)
  k_with "subscriptTail" => (k_here; (with_reducible show wpAny _ _ (subscriptTail _ _ (Value.ref _) (Value.int _ _)) _ _ _); k_dflt (refine item_tupleT (by first | exact isTup_base (by k_asm) (by assumption) | exact isTup_sure (by assumption) (by k_asm) (by k_asm) (by walk_at "m_ex")) (by decide) (by decide) (by rfl) (by rfl) ?_; k_whole))
  k_with "ElEnd" => (refine ElEnd.intro (by k_asm) (by k_asm) (fmc (by k_mem) (by walk_at "m_ex")) ?_)
  k_with "call type:tuple" => (k_here; (with_reducible show wpAny _ _ (call (Value.type _) [Value.ref _]) _ _ _); k_dflt (refine kde_tupleOf (by k_asm) (by k_asm) (by exact News.isList (by k_asm) (by k_mem)) (by (simp only [List.size_toArray]; omega)) (by exact rfl) ?_; k_whole); intro D' h' F' N' l1; (try k_lt l1); (try k_sweep))
  k_with "m_use" => ((case B => k_asm); (case F => k_asm); (case X => k_asm); (case N => k_asm); (case T => k_asm); (case hk => exact rfl); (case hd => exact Nat.le_of_ble_eq_true rfl); (case hu => exact Nat.le_of_ble_eq_true rfl))
  k_with "m_rep" => ((rename News _ _ _ _ => N9); repeat' (first | with_unfolding_all exact RepAll.nil | with_unfolding_all exact Rep.none | with_unfolding_all exact Rep.bool _ | with_unfolding_all exact Rep.int _ _ | with_unfolding_all exact Rep.str _ _ | with_unfolding_all exact Rep.bytes _ _ | with_unfolding_all refine RepAll.cons ?_ ?_ | with_unfolding_all refine Rep.tup (News.get N9 (by k_mem)) ?_))
  k_with "m_repin" => (first | assumption | exact rep_now (by k_asm) (by assumption) | exact Sure.now (by assumption) (by k_asm) (by k_asm) (by walk_at "m_ex"))
  k_with "call builtin:repr" => (k_here; (with_reducible show wpAny _ _ (call (Value.builtin "repr") [_]) _ _ _); (refine repr_L (by k_asm) (by k_asm) (by walk_at "m_repin") (by exact Nat.le_of_ble_eq_true rfl) ?_); (intro h9 tk9 t9 F9 N9); (try dsimp only); (try k_sweep))
  k_with "compareOp Eq str str" => (k_here; first | refine eq_text_t (by assumption) ?_ | refine eq_text_f (by assumption) ?_)
  k_with "compareOp NotEq str str" => (k_here; first | refine ne_text_t (by assumption) ?_ | refine ne_text_f (by assumption) ?_)
  k_with "compareOp Eq" => (k_here; first | (refine eq_key_t (by assumption) (by walk_at "m_repin") (by walk_at "m_repin") (by exact Nat.le_of_ble_eq_true rfl) ?_) | (refine eq_key_f (by assumption) (by walk_at "m_repin") (by walk_at "m_repin") (by exact Nat.le_of_ble_eq_true rfl) ?_))
  k_with "k_inst" => exact inst_base (by k_asm) (by assumption) (by assumption)
  k_with "m_subs" => first | exact List.forall_mem_nil _ | (refine fmc (by k_mem) ?_; walk_at "m_subs")
  k_with "m_avs" => (intro q hq; simpa using hq)
  k_with "m_off1" => first | exact List.not_mem_nil | (refine nmc (by k_ne) ?_; walk_at "m_off1")
  k_with "m_offs" => first | exact List.forall_mem_nil _ | (refine fmc ?_ ?_; (· (dsimp only [List.map_cons, List.map_nil]; walk_at "m_off1")); walk_at "m_offs")
  k_with "m_sa" => first | exact List.forall_mem_nil _ | (refine fmc (by k_mem) ?_; walk_at "m_sa")
  trivial

theorem words_Bk326 : True := by
  k_with "k_all" => first | assumption | exact off_lt (by assumption)
  k_with "eval ListComp" => (k_here; k_dflt (refine comp_K (F₀ := by k_asm) (by with_unfolding_all rfl) (by decide) (by rfl) (by decide) (by rfl) ?_))
  trivial
theorem drop_does {book n : Nat} {v : Value} {k : K8} {bs : List Value} {rs : List Row} (h1 : s.heap.get? book = some (W.listOf bs.toArray n)) (hx : RepAll s.heap bs (rs.map rowD)) (hz7 : rs.length ≤ 40) (hv : Rep s.heap v (keyD k)) :
    Does prog w p loose mean mg mb [book] 350 300 s (.call (.ref 253) ⟨[.ref book, v], []⟩) (fun r h' => BookAt h' book (dropRow rs k)) := by
  refine' enterMC (news := [(book, W.listOf bs.toArray n)]) (binds := [("book", .ref book), ("key", v)]) ?hm ?hN ?ho ?hcd ?hro ?hb ?hl ?hnd ?_ ?c2 ?c3 ?c4
  case hm => exact rfl
  case hN => (intro q hq; simp only [List.mem_cons, List.not_mem_nil, or_false] at hq; rcases hq with rfl; exact h1)
  walk_at "m_enterC"
  intro l A₀ base g L' h' tk cells KG hz' F' N' Y' ll B' X' T' Rz hRz
  k_cells Y'; (try dsimp only [List.cons_append, List.nil_append] at N')
  have nt : NoTup [book] s.heap := AvOk.noTup (avCons h1 rfl avNil)
  replace hv := hv.keep KG nt
  replace hx := hx.keep KG nt
  clear nt h1
  try dsimp only
  try k_fold
  try k_lt ll
  k_steps
  (rename Fr _ _ _ _ => F0)
  (rename News _ _ _ _ => N0)
  have hlen := hx.length
  rw [List.length_map] at hlen
  refine CompIn.mk1 _ [] [book] (otherKey k) id rfl F0 N0 (List.append_nil _).symm (Or.inl (News.isList N0 (by k_mem))) (hx.grow F0.keep) (by rw [sizeLine_eq]; omega) (List.forall_mem_nil _) (avCons (News.get N0 (by k_mem)) rfl avNil) ?ht ?el ?fin
  case ht =>
    intro h i hi v9 C oC mc h2 tk2 ex' E' _ hv9 _ hxe hoC hmx F9 N9 hex hlt
    have hi2 : i < rs.length := by simpa using hi
    have rv := hx.get i (by omega) hi
    rw [List.getElem?_eq_getElem (by omega), Option.some.injEq] at hv9
    rw [hv9] at rv
    simp only [List.getElem_map] at rv ⊢
    generalize rs[i] = r at rv
    refine cutC fun C_ kC_ => ?_
    obtain ⟨b, t, kv, t', rfl, eb, rk⟩ := rowD_open rv
    refine kC_ ?_
    clear kC_ C_
    (try dsimp only [List.cons_append, List.nil_append] at N9)
    (try simp only [AllLt, and_true] at hlt)
    clear F0 N0
    by_cases e : r.k = k
    · have hp : otherKey k (rowD r) = false := by simp [otherKey, rowD, rowKey, text_eq, e]
      rw [hp]
      try dsimp only
      k_steps
      unfold Hold
      exact rfl
    · have hp : otherKey k (rowD r) = true := by simp [otherKey, rowD, rowKey, text_eq, e]
      rw [hp]
      try dsimp only
      k_steps
      unfold Hold
      exact rfl
  case el =>
    intro h i hi v9 C oC mc h2 tk2 ex' E' _ hv9 rv hxe hoC hmx F9 N9 hex hlt
    (try dsimp only [List.cons_append, List.nil_append] at N9)
    (try simp only [AllLt, and_true] at hlt)
    replace rv := hxe ▸ Sure.rep F9 (noTup_ns F9.ns) rv
    clear F0 N0
    try dsimp only
    k_steps
    unfold Hold
    (rename Fr _ _ _ _ => F8)
    (rename News _ _ _ _ => N8)
    exact Sure.now rv F8 N8 (by walk_at "m_ex")
  case fin =>
    intro D h2 tk2 ys k' ex' F9 N9 hlt hex hoff hS
    (try dsimp only [List.cons_append, List.nil_append] at N9)
    (try simp only [AllLt, and_true] at hlt)
    clear F0 N0
    try dsimp only
    have hF9 := F9.ns.lt
    k_steps
    have hyl := (hS.now F9 N9 (by walk_at "m_ex")).length
    rw [drop_map, List.map_id, List.length_map] at hyl
    have hdl : (dropRow rs k).length ≤ rs.length := List.length_filter_le _ _
    have up : ∀ b o, h2.get? b = some o → (h2.push { cls := Value.type "slice", data := Data.fields #[Value.none, Value.none, Value.none] }).get? b = some o := fun b o e => Heap.get?_push_of_some _ e
    have F8 := F9.keeps up
    have N8 := N9.grown up
    refine setAll_P (items := bs) (new := ys) (News.get N8 (by k_mem)) (News.get N8 (by k_mem)) (by k_ne) (Heap.IsSliceOf.new _ _ _ _) (by omega) (by omega) fun h7 n7 e7 s7 => ?_
    have F7 := fr_same F8 N8 (by k_mem) s7
    have S7 : RepAll h7 ys ((dropRow rs k).map rowD) := by
      have := hS.now F8 N8 (by walk_at "m_ex")
      rw [drop_map, List.map_id] at this
      exact this.keep (ms := [book]) (fun b o e n => s7.extBut b o (fun z => n (by simp [z])) e) (AvOk.noTup (avCons (News.get N8 (by k_mem)) rfl avNil))
    clear F8 N8 F9 N9
    try dsimp only
    k_steps
    unfold Hold
    exact ⟨_, _, e7, S7⟩
end
/-! ## St -/
section
theorem words0_St : True := by
  w_top off
  k_with_none
  trivial
variable {prog : Program} {w : World} {p : Program} {loose : List Str} {mean : ExcName → Option Value} {mg mb : Str → Option Value} {s : Shared}
noncomputable def tailD (r : Row) : Dt := .tup [keyD r.k, .int r.v]
/-- the state that the law keeps beside the table -/
structure Good (rs : List Row) (c : Int) : Prop where
  keys : (rs.map Row.k).Nodup
  num : (rs.map Row.n).Pairwise (· < ·)
  below : ∀ r ∈ rs, r.n < c
  small : rs.length ≤ 40
noncomputable def dtail : Dt → Dt
  | .tup (_ :: r) => .tup r
  | d => d
theorem tail_map (rs : List Row) : (rs.map rowD).map dtail = rs.map tailD := by simp [rowD, dtail, tailD, Function.comp_def]
theorem deep_tails : ∀ rs : List Row, deepAll (rs.map tailD) ≤ 6
  | [] => by simp [deepAll]
  | r :: rs => by
    have h1 := deep_tails rs
    have h2 := (short_k r.k).2.2
    simp only [List.map_cons, deepAll, tailD, deep]
    omega
noncomputable def sameKey (k : K8) (d : Dt) : Bool := dtext (rowKey d) == dtext (keyD k)
noncomputable def dval : Dt → Dt
  | .tup [_, _, v] => v
  | d => d
theorem held_none {rs : List Row} {k : K8} (h : rs.find? (fun r => decide (r.k = k)) = none) : ((rs.map rowD).filter (sameKey k)).map dval = [] := by
  rw [List.find?_eq_none] at h
  have : (rs.map rowD).filter (sameKey k) = [] := by
    rw [List.filter_eq_nil_iff]
    intro d hd
    obtain ⟨r, hr, rfl⟩ := List.mem_map.mp hd
    simpa [sameKey, rowD, rowKey, text_eq] using h r hr
  rw [this]; rfl
theorem held_some {k : K8} : ∀ {rs : List Row} {r : Row}, (rs.map Row.k).Nodup → rs.find? (fun r => decide (r.k = k)) = some r → ((rs.map rowD).filter (sameKey k)).map dval = [.int r.v]
  | [], _, _, h => by simp at h
  | y :: rs, r, hn, h => by
    rw [List.map_cons, List.nodup_cons] at hn
    by_cases e : y.k = k
    · have : y = r := by simpa [e] using h
      subst this
      have hno : rs.find? (fun r => decide (r.k = k)) = none := by
        rw [List.find?_eq_none]
        intro z hz q
        exact hn.1 (List.mem_map.mpr ⟨z, hz, by simpa [e] using q⟩)
      have h1 := held_none hno
      rw [List.map_cons, List.filter_cons_of_pos (by simp [sameKey, rowD, rowKey, text_eq, e]), List.map_cons, h1]
      rfl
    · have h' : rs.find? (fun r => decide (r.k = k)) = some r := by simpa [e] using h
      have h1 := held_some hn.2 h'
      rw [List.map_cons, List.filter_cons_of_neg (by simp [sameKey, rowD, rowKey, text_eq, e]), h1]
theorem norm_none1 {α : Type} {m0 : Str → Option α} {x : Str} (hx : m0 x = none) : m0 = fun z => if z = x then none else m0 z := funext fun z => by
  by_cases h1 : z = x
  · subst h1; simp [hx]
  · simp [h1]
theorem key_at {i : Nat} (h : i < keyList.length) : ∃ k : K8, keyList[i] = keyD k := by
  have : i < 8 := h
  match i, this with
  | 0, _ => exact ⟨0, rfl⟩
  | 1, _ => exact ⟨1, rfl⟩
  | 2, _ => exact ⟨2, rfl⟩
  | 3, _ => exact ⟨3, rfl⟩
  | 4, _ => exact ⟨4, rfl⟩
  | 5, _ => exact ⟨5, rfl⟩
  | 6, _ => exact ⟨6, rfl⟩
  | 7, _ => exact ⟨7, rfl⟩
theorem ne_same {A : Around} {E : Value → Shared → Prop} {v u : Value} {ds : List Dt} {Q : Value → Shared → Prop} (hv : Rep s.heap v (.tup ds)) (hu : Rep s.heap u (.tup ds)) (hr : A.units + deepAll ds + 1 < cLine) (h : Q (.bool false) s) : wpAny (model prog w) A (compareOp .NotEq v u) Q E s := by
  cases hv with
  | tup e1 r1 =>
  cases hu with
  | tup e2 r2 => exact ne_tup e1 e2 r1 r2 hr (by rw [eqvAll_self]; exact h)
theorem forAt_listM {A : Around} {E : Value → Shared → Prop} {env : Env} {g : Heap} {target : Expr} {body : List Stmt} {Q : Flow → Shared → Prop} {ax : Addr} {vs : List Value} {m : Str → Option Value} (JJ : (Str → Option Value) → Nat → Heap → (Str → Option Value) → Prop) (hh : A.handled = none) (F : Fr g env.locals s.heap m) (hl : s.heap.IsList ax vs.toArray)
    (h0 : ∀ h, (∀ b o, s.heap.get? b = some o → h.get? b = some o) → JJ m 0 h m) (hJ : ∀ i I h h' m', s.heap.objs.size ≤ I → JJ m i h m' → Keep [I] h h' → NoTup [I] h → JJ m i h' m')
    (step : ∀ i v m₁ h₁ tk₁ I, vs[i]? = some v → JJ m i h₁ m₁ → Fr g env.locals h₁ m₁ → s.heap.objs.size ≤ I → g.get? I = none → (∃ o, h₁.get? I = some o) →
      ∀ s₂ (R : Flow → Shared → Prop), ForNext g env.locals [I, ax] h₁ (JJ m (i + 1)) { s with heap := s₂ } R → ForRet Q R → wpAny (model prog w) A (assign target env v) (fun _ s₃ => wpAny (model prog w) A (execs body env) (ForR R) E s₃) E { s with heap := h₁, toks := tk₁ })
    (fin : ∀ h' tk m', Fr g env.locals h' m' → JJ m vs.length h' m' → Q .next { s with heap := h', toks := tk }) :
    wpAny (model prog w) A (pyIter (.ref ax)) (fun it s₂ => ForAt prog w A g env target body Q E it s₂) E s := forAt_list (JJ m) hh F hl h0 hJ step fin
theorem offTup_cell {o : Obj} {v : Option Value} (h : o.data = .cell v) : offTup o = true := by
  obtain ⟨c, d, dt, sl⟩ := o
  cases h
  cases d <;> cases c <;> rfl
theorem tup_of {h : Heap} {b : Addr} {vs : List Value} (e : h.get? b = some (tupObj vs)) : IsTup h b vs.toArray := ⟨_, e, rfl, 0, rfl⟩
theorem words_St27 : True := by
  k_with "m_ex" => (first | with_reducible exact exAt0 | with_reducible exact exAt1 | with_reducible exact exAt2 | with_reducible exact exAt3 | with_reducible exact exAt4 | with_reducible exact exAt5 | with_reducible exact exAt6 | with_reducible exact exAt7 | with_reducible exact exAt8 | with_reducible exact exAt9 | with_reducible exact exAt10 | with_reducible exact exAt11 | with_reducible exact exAt12 | with_reducible exact exAt13 | with_reducible exact exAt14 | with_reducible exact exAt15 | with_reducible exact exAt16 | with_reducible exact exAt17 | with_reducible exact exAt18 | with_reducible exact exAt19 | with_reducible exact exAt20 | with_reducible exact exAt21 | with_reducible exact exAt22 | with_reducible exact exAt23)
  k_with "m_enter" => ((case ho => k_is); (case hcd => k_is); (case hro => decide); (case hb => exact BindsTo.of_eq rfl); (case hl => exact locs rfl); (case c2 => exact rfl); (case c3 => exact rfl); (case c4 => exact rfl); (case c5 => decide))
  k_with "m_enterC" => ((case ho => k_is); (case hcd => k_is); (case hro => decide); (case hb => exact BindsTo.of_eq rfl); (case hl => exact rfl); (case hnd => decide +kernel); (case c2 => exact rfl); (case c3 => exact rfl); (case c4 => exact rfl))
  k_with "EndR" => (refine endR (by with_reducible assumption) (by k_asm) ?_)
  k_with "k_mem" => first | with_reducible exact inAt0 | with_reducible exact inAt1 | with_reducible exact inAt2 | with_reducible exact inAt3 | with_reducible exact inAt4 | with_reducible exact inAt5 | with_reducible exact inAt6 | with_reducible exact inAt7 | with_reducible exact inAt8 | with_reducible exact inAt9 | with_reducible exact inAt10 | with_reducible exact inAt11 | with_reducible exact inAt12 | with_reducible exact inAt13 | with_reducible exact inAt14 | with_reducible exact inAt15 | with_reducible exact inAt16 | with_reducible exact inAt17 | with_reducible exact inAt18 | with_reducible exact inAt19 | with_reducible exact inAt20 | with_reducible exact inAt21 | with_reducible exact inAt22 | with_reducible exact inAt23
  k_with "k_ne" => first | with_reducible assumption | exact neSym (by with_reducible assumption) | exact neLt (by with_reducible assumption) | exact neGt (by with_reducible assumption) | fail
  k_with "call builtin:isinstance" => (k_here; (with_reducible show wpAny _ _ (call _ [Value.ref _, Value.type _]) _ _ _); k_dflt (refine kia_one kitx_tuple (by k_in) (by exact kit_base (by k_asm) (by assumption)) (by kit_is) (by kit_nb) ?_; k_whole); intro _)
  k_with "subscriptTail" => (k_here; (with_reducible show wpAny _ _ (subscriptTail _ _ (Value.ref _) (Value.int _ _)) _ _ _); k_dflt (refine item_tupleT (by first | exact isTup_base (by k_asm) (by assumption) | exact isTup_sure (by assumption) (by k_asm) (by k_asm) (by walk_at "m_ex")) (by decide) (by decide) (by rfl) (by rfl) ?_; k_whole))
  k_with "ElEnd" => (refine ElEnd.intro (by k_asm) (by k_asm) (fmc (by k_mem) (by walk_at "m_ex")) ?_)
  k_with "call type:tuple" => (k_here; (with_reducible show wpAny _ _ (call (Value.type _) [Value.ref _]) _ _ _); k_dflt (refine kde_tupleOf (by k_asm) (by k_asm) (by exact News.isList (by k_asm) (by k_mem)) (by (simp only [List.size_toArray]; omega)) (by exact rfl) ?_; k_whole); intro D' h' F' N' l1; (try k_lt l1); (try k_sweep))
  k_with "m_use" => ((case B => k_asm); (case F => k_asm); (case X => k_asm); (case N => k_asm); (case T => k_asm); (case hk => exact rfl); (case hd => exact Nat.le_of_ble_eq_true rfl); (case hu => exact Nat.le_of_ble_eq_true rfl))
  k_with "m_rep" => ((rename News _ _ _ _ => N9); repeat' (first | with_unfolding_all exact RepAll.nil | with_unfolding_all exact Rep.none | with_unfolding_all exact Rep.bool _ | with_unfolding_all exact Rep.int _ _ | with_unfolding_all exact Rep.str _ _ | with_unfolding_all exact Rep.bytes _ _ | with_unfolding_all refine RepAll.cons ?_ ?_ | with_unfolding_all refine Rep.tup (News.get N9 (by k_mem)) ?_))
  k_with "m_repin" => (first | assumption | exact rep_now (by k_asm) (by assumption) | exact Sure.now (by assumption) (by k_asm) (by k_asm) (by walk_at "m_ex"))
  k_with "call builtin:repr" => (k_here; (with_reducible show wpAny _ _ (call (Value.builtin "repr") [_]) _ _ _); (refine repr_L (by k_asm) (by k_asm) (by walk_at "m_repin") (by exact Nat.le_of_ble_eq_true rfl) ?_); (intro h9 tk9 t9 F9 N9); (try dsimp only); (try k_sweep))
  k_with "compareOp Eq str str" => (k_here; first | refine eq_text_t (by assumption) ?_ | refine eq_text_f (by assumption) ?_)
  k_with "compareOp NotEq str str" => (k_here; first | refine ne_text_t (by assumption) ?_ | refine ne_text_f (by assumption) ?_)
  k_with "compareOp Eq" => (k_here; first | (refine eq_key_t (by assumption) (by walk_at "m_repin") (by walk_at "m_repin") (by exact Nat.le_of_ble_eq_true rfl) ?_) | (refine eq_key_f (by assumption) (by walk_at "m_repin") (by walk_at "m_repin") (by exact Nat.le_of_ble_eq_true rfl) ?_))
  k_with "k_inst" => exact inst_base (by k_asm) (by assumption) (by assumption)
  k_with "m_subs" => first | exact List.forall_mem_nil _ | (refine fmc (by k_mem) ?_; walk_at "m_subs")
  k_with "m_avs" => (intro q hq; simpa using hq)
  k_with "m_off1" => first | exact List.not_mem_nil | (refine nmc (by k_ne) ?_; walk_at "m_off1")
  k_with "m_offs" => first | exact List.forall_mem_nil _ | (refine fmc ?_ ?_; (· (dsimp only [List.map_cons, List.map_nil]; walk_at "m_off1")); walk_at "m_offs")
  k_with "m_sa" => first | exact List.forall_mem_nil _ | (refine fmc (by k_mem) ?_; walk_at "m_sa")
  trivial

local macro_rules | `(tactic| k_lt $h:ident) => `(tactic| (replace $h := ltAll_of $h; dsimp only [List.map] at $h:ident))
theorem words_St28 : True := by
  k_with "k_ne" => first | with_reducible assumption | exact neSym (by with_reducible assumption) | exact neLt (by with_reducible assumption) | exact neGt (by with_reducible assumption) | exact ltGt (by with_reducible assumption) (by k_extra "k_mem") | exact ltLt (by with_reducible assumption) (by k_extra "k_mem") | exact ltTr (by with_reducible assumption) (by with_reducible assumption) (by k_extra "k_mem") | exact ltTr' (by with_reducible assumption) (by with_reducible assumption) (by k_extra "k_mem") | exact ltU1 (by with_reducible assumption) (by k_extra "k_mem") | exact ltU2 (by with_reducible assumption) (by k_extra "k_mem") | exact ltU3 (by with_reducible assumption) (by k_extra "k_mem") | exact ltV1 (by with_reducible assumption) (by k_extra "k_mem") | exact ltV2 (by with_reducible assumption) (by k_extra "k_mem") | exact ltV3 (by with_reducible assumption) (by k_extra "k_mem") | exact ne12 | exact ne13 | exact ne23 | exact ne21 | exact ne31 | exact ne32 | exact neN (And.left (by with_reducible assumption)) | exact neSym (And.left (by with_reducible assumption)) | exact neN (And.left (And.right (by with_reducible assumption))) | exact neSym (And.left (And.right (by with_reducible assumption))) | exact neN (And.left (And.right (And.right (by with_reducible assumption)))) | exact neSym (And.left (And.right (And.right (by with_reducible assumption)))) | exact neN (And.left (And.right (And.right (And.right (by with_reducible assumption))))) | exact neSym (And.left (And.right (And.right (And.right (by with_reducible assumption))))) | exact neN (And.left (And.right (And.right (And.right (And.right (by with_reducible assumption)))))) | exact neSym (And.left (And.right (And.right (And.right (And.right (by with_reducible assumption)))))) | exact neN (And.left (And.right (And.right (And.right (And.right (And.right (by with_reducible assumption))))))) | exact neSym (And.left (And.right (And.right (And.right (And.right (And.right (by with_reducible assumption))))))) | exact neN (And.left (And.right (And.right (And.right (And.right (And.right (And.right (by with_reducible assumption)))))))) | exact neSym (And.left (And.right (And.right (And.right (And.right (And.right (And.right (by with_reducible assumption)))))))) | exact neN (And.left (And.right (And.right (And.right (And.right (And.right (And.right (And.right (by with_reducible assumption))))))))) | exact neSym (And.left (And.right (And.right (And.right (And.right (And.right (And.right (And.right (by with_reducible assumption))))))))) | exact neN (And.left (And.right (And.right (And.right (And.right (And.right (And.right (And.right (And.right (by with_reducible assumption)))))))))) | exact neSym (And.left (And.right (And.right (And.right (And.right (And.right (And.right (And.right (And.right (by with_reducible assumption)))))))))) | exact neN (And.left (And.right (And.right (And.right (And.right (And.right (And.right (And.right (And.right (And.right (by with_reducible assumption))))))))))) | exact neSym (And.left (And.right (And.right (And.right (And.right (And.right (And.right (And.right (And.right (And.right (by with_reducible assumption))))))))))) | fail
  k_with "subscriptTail" => (k_here; (with_reducible show wpAny _ _ (subscriptTail _ _ (Value.ref _) (Value.ref _)) _ _ _); refine stop ?_)
  k_with "subscriptTail Name" => (k_here; (with_reducible show wpAny _ _ (subscriptTail _ _ (Value.ref _) (Value.ref _)) _ _ _); refine stop ?_)
  k_with "subscriptTail Name Slice ref ref" => (k_here; (with_reducible show wpAny _ _ (subscriptTail _ _ (Value.ref _) (Value.ref _)) _ _ _); refine stop ?_)
  k_with "call builtin:len" => (k_here; (with_reducible show wpAny _ _ (call (Value.builtin "len") [Value.ref book]) _ _ _); refine stop ?_)
  k_with "compareOp NotEq ref ref" => (k_here; refine stop ?_)
  k_with "k_all" => first | assumption | exact off_lt (by assumption)
  k_with "eval ListComp" => (k_here; k_dflt (refine comp_K (F₀ := by k_asm) (by with_unfolding_all rfl) (by decide) (by rfl) (by decide) (by rfl) ?_))
  k_with "exec Assign cons ListComp" => (k_here; k_dflt (refine compA_K (F₀ := by k_asm) (by rfl) (by with_unfolding_all rfl) (by with_unfolding_all rfl) (by decide) (by rfl) (by decide) (by rfl) (by rfl) (by rfl) ?_))
  k_with "exec For Name Call" => (k_here; refine stop ?_)
  k_with "exec For Name Call cons nil" => (k_here; refine stop ?_)
  k_with "call ref" => (k_here; (first | (with_reducible show wpAny _ _ (call (Value.ref 103) _ _) _ _ _) | (with_reducible show wpAny _ _ (call (Value.ref 131) _ _) _ _ _) | (with_reducible show wpAny _ _ (call (Value.ref 241) _ _) _ _ _) | (with_reducible show wpAny _ _ (call (Value.ref 110) _ _) _ _ _)); refine stop ?_)
  trivial
theorem stands_does {tab td ent book t1 t2 t3 tc n bn : Nat} {c : Int} {xs : Ents} {rs : List Row} {bs : List Value} {o : Obj} (h1 : s.heap.get? tab = some (instObj 134 td)) (h2 : s.heap.get? td = some (tdObj w t1 t2 t3 ent c tc n)) (h3 : s.heap.get? ent = some o) (ho : EntIs prog w o xs) (hsm : (ent == sysModules) = false) (hx : EntOk s.heap xs rs)
    (h4 : s.heap.get? book = some (W.listOf bs.toArray bn)) (hb : RepAll s.heap bs (rs.map rowD)) (hg : Good rs c) :
    Does prog w p loose mean mg mb [] 330 200 s (.call (.ref 258) ⟨[.ref tab, .ref book], []⟩) (fun r h' => r = .bool true) := by
  refine' enterMC (news := []) (binds := [("table", .ref tab), ("book", .ref book)]) ?hm ?hN ?ho ?hcd ?hro ?hb ?hl ?hnd ?_ ?c2 ?c3 ?c4
  case hm => exact rfl
  case hN => exact List.forall_mem_nil _
  walk_at "m_enterC"
  intro l A₀ base g L' h' tk cells KG hz' F' N' Y' ll B' X' T' Rz hRz
  k_cells Y'; (try dsimp only [List.cons_append, List.nil_append] at N')
  replace h1 := KG _ _ h1 (by simp)
  replace h2 := KG _ _ h2 (by simp)
  replace h3 := KG _ _ h3 (by simp)
  replace h4 := KG _ _ h4 (by simp)
  replace hx := hx.grow fun a o e => KG a o e (by simp)
  replace hb := hb.grow fun a o e => KG a o e (by simp)
  have hxs : xs.length = rs.length := by simpa using hx.vals.length
  have hbs : bs.length = rs.length := by simpa using hb.length
  try dsimp only
  try k_fold
  k_steps
  unfold Stop
  (rename Fr _ _ _ _ => F0)
  (rename News _ _ _ _ => N0)
  refine useP B' F0 X' N0 T' rfl (size_does (F0.keep _ _ h1) (F0.keep _ _ h2) (F0.keep _ _ h3) ho hsm (by have := hg.small; omega)) (Nat.le_of_ble_eq_true rfl) (Nat.le_of_ble_eq_true rfl) ?_
  intro v9 h9 tk9 lt9 F9 N9 K9 z9 q9
  apply cutV (v := v9)
  intro C_ kC_
  obtain ⟨t9, rfl⟩ := q9
  refine kC_ _ ?_
  clear kC_ C_
  clear F0 N0 lt9 K9 z9
  try dsimp only
  k_steps
  have h4l : g.IsList book bs.toArray := ⟨_, h4, rfl, bn, rfl⟩
  try unfold Stop
  refine call_len_list (items := bs.toArray) (h4l.at fun o e => F9.keep _ _ e) (by have := hg.small; simp; omega) ?_
  simp only [List.size_toArray, hxs, hbs]
  try dsimp only
  k_steps
  any_goals (exfalso; omega)
  unfold Stop
  (rename Fr _ _ _ _ => F0)
  (rename News _ _ _ _ => N0)
  refine useX (sub := []) (kp := _) (ex := []) (av := []) B' F0 X' N0 T' rfl (List.forall_mem_nil _) (fun _ h => h) (fun _ _ => List.not_mem_nil) (List.forall_mem_nil _) (List.forall_mem_nil _) (List.forall_mem_nil _) (rows_does (F0.keep _ _ h1) (F0.keep _ _ h2) (F0.keep _ _ h3) ho hsm (hx.grow F0.keep) hg.small hg.num) (Nat.le_of_ble_eq_true rfl) (Nat.le_of_ble_eq_true rfl) ?_
  intro v9 h9 tk9 ex F9 N9 _ hoff hex _ _ _ q9
  apply cutV (v := v9)
  intro C_ kC_
  obtain ⟨a9, k9, vs9, rfl, e9, r9⟩ := q9
  refine kC_ _ ?_
  clear kC_ C_
  dsimp only [List.cons_append, List.nil_append] at N9
  have hvl := r9.length
  rw [List.length_map] at hvl
  clear F0 N0
  refine CompIn.mk0 [_] ex [] dtail rfl F9 N9 rfl (Or.inl ⟨_, e9, rfl, k9, rfl⟩) r9 (by rw [sizeLine_eq]; have := hg.small; omega) (fun _ _ => List.not_mem_nil) avNil ?el ?fin
  case el =>
    intro h i hi v8 C oC mc h2' tk2 ex2 E' _ hv8 rv hxe hoC hmx F8 N8 hex2 hlt
    have hi2 : i < rs.length := by simpa using hi
    simp only [List.getElem_map] at rv ⊢
    generalize rs[i] = r at rv
    refine cutC fun C_ kC_ => ?_
    obtain ⟨b, t, kv, t', rfl, eb, rk⟩ := rowD_open rv
    refine kC_ ?_
    clear kC_ C_
    have hT := tup_of eb
    have Sk := hxe ▸ Sure.rep F8 (noTup_ns F8.ns) rk
    (try dsimp only [List.cons_append, List.nil_append] at N8)
    (try simp only [AllLt, and_true] at hlt)
    clear F9 N9
    try dsimp only
    k_steps
    try unfold Stop
    refine slice_tuple_from (a := 1) F8 N8 hT (by decide) (by simp) (fun h7 F7 N7 => ?_) (by with_unfolding_all rfl) (by intro _; with_unfolding_all rfl) (by simp [sizeLine_eq])
    clear F8 N8
    try dsimp only
    k_steps
    unfold Hold
    exact .tup (News.get N7 (by k_mem)) (.cons (Sk.now F7 N7 (by walk_at "m_ex")) (.cons (.int _ _) .nil))
  case fin =>
    intro D h8 tk8 ys k8 ex8 F8 N8 hlt hex8 hoff8 hS
    (try dsimp only [List.cons_append, List.nil_append] at N8)
    (try simp only [AllLt, and_true] at hlt)
    rw [tail_map] at hS
    clear F9 N9
    try dsimp only
    k_steps
    refine CompIn.mk0 [_, _] ex8 [] dtail rfl F8 N8 rfl (Or.inl (h4l.at fun o e => F8.keep _ _ e)) (hb.grow F8.keep) (by rw [sizeLine_eq]; have := hg.small; omega) (fun _ _ => List.not_mem_nil) avNil ?el2 ?fin2
    case el2 =>
      intro h i hi v8 C oC mc h2' tk2 ex2 E' _ hv8 rv hxe hoC hmx F7 N7 hex2 hlt2
      have hi2 : i < rs.length := by simpa using hi
      simp only [List.getElem_map] at rv ⊢
      generalize rs[i] = r at rv
      refine cutC fun C_ kC_ => ?_
      obtain ⟨b, t, kv, t', rfl, eb, rk⟩ := rowD_open rv
      refine kC_ ?_
      clear kC_ C_
      have hT := tup_of eb
      have Sk := hxe ▸ Sure.rep F7 (noTup_ns F7.ns) rk
      (try dsimp only [List.cons_append, List.nil_append] at N7)
      (try simp only [AllLt, and_true] at hlt2)
      clear F8 N8
      try dsimp only
      k_steps
      try unfold Stop
      refine slice_tuple_from (a := 1) F7 N7 hT (by decide) (by simp) (fun h6 F6 N6 => ?_) (by with_unfolding_all rfl) (by intro _; with_unfolding_all rfl) (by simp [sizeLine_eq])
      clear F7 N7
      try dsimp only
      k_steps
      unfold Hold
      exact .tup (News.get N6 (by k_mem)) (.cons (Sk.now F6 N6 (by walk_at "m_ex")) (.cons (.int _ _) .nil))
    case fin2 =>
      intro D2 h7 tk7 ys2 k7 ex7 F7 N7 hlt7 hex7 hoff7 hS2
      (try dsimp only [List.cons_append, List.nil_append] at N7)
      (try simp only [AllLt, and_true] at hlt7)
      rw [tail_map] at hS2
      replace hS := hS.mono hex7
      clear F8 N8
      try dsimp only
      k_steps
      unfold Stop
      refine ne_list (News.get N7 (by k_mem)) (News.get N7 (by k_mem)) (hS.now F7 N7 (by walk_at "m_ex")) (hS2.now F7 N7 (by walk_at "m_ex")) (by have := deep_tails rs; show (_ : Nat) < 9900; show 200 + 3 + deepAll (rs.map tailD) + 1 < 9900; omega) ?_
      rw [eqvAll_self]
      try dsimp only
      k_steps
      unfold Stop
      refine for_K F7 ?_
      try dsimp only
      k_steps
      unfold Stop
      refine useX (sub := []) (kp := [_, _, _]) (ex := ex7) (av := []) B' F7 X' N7 T' rfl (List.forall_mem_nil _) (fun _ h => by simpa using List.mem_append_left ex7 h) (fun _ _ => List.not_mem_nil) (by walk_at "m_ex") (fun _ _ => List.not_mem_nil) (List.forall_mem_nil _) keys_does (Nat.le_of_ble_eq_true rfl) (Nat.le_of_ble_eq_true rfl) ?_
      intro v9 h9 tk9 ex F9 N9 hex9 hoff hex _ _ _ q9
      apply cutV (v := v9)
      intro C_ kC_
      obtain ⟨a9, n9, vs9, rfl, -, e9, r9⟩ := q9
      refine kC_ _ ?_
      clear kC_ C_
      dsimp only [List.cons_append, List.nil_append] at N9
      have c9 := N9 (L' + 1, _) (by k_mem)
      clear F7 N7
      try dsimp only
      k_steps
      have hvl9 := r9.length
      have hc9 : (L' + 1 : Nat) < h9.objs.size := Heap.lt_size c9.1
      have ha9 : (a9 : Nat) < h9.objs.size := Heap.lt_size e9
      have hL9 : (L' : Nat) < h9.objs.size := F9.ns.lt
      have hac : a9 ≠ L' + 1 := fun e => by
        rw [e] at e9
        have := c9.1
        rw [e9] at this
        injection this with this
        rename_i o9 d9 _ _
        subst this
        cases ‹_ = Data.cell _›
      have haL : a9 ≠ L' := fun e => by
        refine cutC fun C_ kC_ => ?_
        obtain ⟨oL, es, ep, hL, hd, _⟩ := F9.ns
        refine kC_ ?_
        clear kC_ C_
        rw [e, hL] at e9
        cases e9; cases hd
      refine forAt_listM (vs := vs9) (g := g) (JJ := fun M0 i h m => (∃ a, m = fun z => if z = Str.ofString "held" then a else M0 z) ∧ (∃ oc v, h.get? (L' + 1 : Nat) = some oc ∧ oc.data = .cell v) ∧ h.get? a9 = some (W.listOf vs9.toArray n9) ∧ RepAll h vs9 keyList) rfl F9 ⟨_, e9, rfl, n9, rfl⟩ ?h0 ?hJ ?step ?fin3
      case h0 =>
        intro h kp
        refine ⟨⟨none, norm_none1 rfl⟩, ⟨_, _, kp _ _ c9.1, by assumption⟩, kp _ _ e9, r9.grow kp⟩
      case hJ =>
        rintro i I h h' m hI ⟨hm, ⟨oc, vc, hc, hcd⟩, hl, hr⟩ kp nt
        have n1 : (L' + 1 : Nat) ≠ I := Nat.ne_of_lt (Nat.lt_of_lt_of_le hc9 hI)
        have n2 : (a9 : Nat) ≠ I := Nat.ne_of_lt (Nat.lt_of_lt_of_le ha9 hI)
        exact ⟨hm, ⟨oc, vc, kp _ _ hc (by simpa using n1), hcd⟩, kp _ _ hl (by simpa using n2), hr.keep kp nt⟩
      case step =>
        rintro i vi m₁ h₁ tk₁ I hi ⟨⟨a, rfl⟩, ⟨oc, vc, hc, hcd⟩, hl, hr⟩ F₁ hI hgI hoI s₂ R9 hN9 hR9
        have hi1 : i < vs9.length := by
          rcases Nat.lt_or_ge i vs9.length with q | q
          · exact q
          · rw [List.getElem?_eq_none q] at hi; cases hi
        rw [List.getElem?_eq_getElem hi1, Option.some.injEq] at hi
        have hi2 : i < keyList.length := hvl9 ▸ hi1
        have rv := hr.get i hi1 hi2
        rw [hi] at rv
        obtain ⟨k, ek⟩ := key_at hi2
        rw [ek] at rv
        obtain ⟨ex1, N₁, hoff1, hex1⟩ := led (s := { s with heap := h₁ }) F₁ [(L' + 1, oc)] [L' + 1] (by intro q hq; rw [List.mem_singleton.mp hq]; exact ⟨hc, c9.2⟩)
        dsimp only [List.cons_append, List.nil_append] at N₁
        have o1 : ∀ q ∈ ex1, q.1 ≠ L' + 1 := fun q hq e => hoff1 q hq (by simp [e])
        have av1 : AvOk [(L' + 1 : Nat)] h₁ := avCons hc (offTup_cell hcd) avNil
        have nt1 := noTup_L F₁ av1.noTup
        have Sv := hex1 ▸ Sure.rep F₁ nt1 rv
        have Sr := hex1 ▸ Sure.reps F₁ nt1 hr
        have Sl : Sure g ex1 (fun h => h.get? a9 = some (W.listOf vs9.toArray n9)) := hex1 ▸ Sure.of F₁ fun h'' kk => kk a9 _ hl (fun hm => by rcases List.mem_cons.mp hm with e | e; exact haL e; exact hac (List.mem_singleton.mp e))
        have kf : ∀ {h' : Heap} {m' : Str → Option Value} {news : List (Addr × Obj)}, Fr g L' h' m' → News g L' h' news → (∀ q ∈ ex1, q ∈ news) → ∀ b, b ∉ L' :: [L' + 1] → ∀ o, h₁.get? b = some o → h'.get? b = some o := fun F N hs => keep_fp F₁ hex1 F N hs
        clear F9 N9 hex hex1 av1 nt1
        try dsimp only
        k_steps
        (rename Fr _ _ _ _ => F2)
        (rename News _ _ _ _ => N2)
        refine CompIn.mk1 [_] ex1 [L' + 1] (sameKey k) dval rfl F2 N2 rfl (Or.inl (h4l.at fun o e => F2.keep _ _ e)) (hb.grow F2.keep) (by rw [sizeLine_eq]; have := hg.small; omega) hoff1 (avCons (News.get N2 (by k_mem)) (offTup_cell (by assumption)) avNil) ?ht3 ?el3 ?fin4
        case ht3 =>
          intro h j hj v8 C oC mc h2' tk2 ex2 E' _ hv8 _ hxe hoC hmx F3 N3 hex2 hlt2
          have hj2 : j < rs.length := by simpa using hj
          have rr := hb.get j (by omega) hj
          rw [List.getElem?_eq_getElem (by omega), Option.some.injEq] at hv8
          rw [hv8] at rr
          simp only [List.getElem_map] at rr ⊢
          generalize rs[j] = r at rr
          refine cutC fun C_ kC_ => ?_
          obtain ⟨b, t, kv, t', rfl, eb, rk⟩ := rowD_open rr
          refine kC_ ?_
          clear kC_ C_
          (try dsimp only [List.cons_append, List.nil_append] at N3)
          (try simp only [AllLt, and_true] at hlt2)
          have Sv3 := Sv.mono hex2
          clear F2 N2 Sv
          by_cases e : r.k = k
          · have hp : sameKey k (rowD r) = true := by simp [sameKey, rowD, rowKey, text_eq, e]
            rw [hp]
            try dsimp only
            k_steps
            unfold Hold
            exact rfl
          · have hp : sameKey k (rowD r) = false := by simp [sameKey, rowD, rowKey, text_eq, e]
            rw [hp]
            try dsimp only
            k_steps
            unfold Hold
            exact rfl
        case el3 =>
          intro h j hj v8 C oC mc h2' tk2 ex2 E' _ hv8 _ hxe hoC hmx F3 N3 hex2 hlt2
          have hj2 : j < rs.length := by simpa using hj
          have rr := hb.get j (by omega) hj
          rw [List.getElem?_eq_getElem (by omega), Option.some.injEq] at hv8
          rw [hv8] at rr
          simp only [List.getElem_map] at rr ⊢
          generalize rs[j] = r at rr
          refine cutC fun C_ kC_ => ?_
          obtain ⟨b, t, kv, t', rfl, eb, rk⟩ := rowD_open rr
          refine kC_ ?_
          clear kC_ C_
          (try dsimp only [List.cons_append, List.nil_append] at N3)
          (try simp only [AllLt, and_true] at hlt2)
          clear F2 N2
          try dsimp only
          k_steps
          unfold Hold
          exact .int _ _
        case fin4 =>
          intro D3 h3' tk3 ys3 k3 ex3 F3 N3 hlt3 hex3 hoff3 hS3
          (try dsimp only [List.cons_append, List.nil_append] at N3)
          (try simp only [AllLt, and_true] at hlt3)
          replace Sv := Sv.mono hex3
          replace Sr := Sr.mono hex3
          replace Sl := Sl.mono hex3
          have hIe := fun o (eo : h₁.get? I = some o) => kf F3 N3 (fun q hq => by simp [hex3 q hq])
          have o3 : ∀ q ∈ ex3, q.1 ≠ L' + 1 := fun q hq e => hoff3 q hq (by simp [e])
          clear F2 N2
          cases hf : rs.find? (fun r => decide (r.k = k)) with
          | none =>
            rw [held_none hf] at hS3
            have ey : ys3 = [] := by have := hS3.now F3 N3 (by walk_at "m_ex"); cases this; rfl
            subst ey
            try dsimp only
            k_steps
            unfold Stop
            (rename Fr _ _ _ _ => F4)
            (rename News _ _ _ _ => N4)
            refine useX (sub := []) (kp := [_, _]) (ex := ex3) (av := [L' + 1]) B' F4 X' N4 T' rfl (List.forall_mem_nil _) (fun _ h => by simpa using List.mem_append_left ex3 h) (fun _ _ => List.not_mem_nil) (by walk_at "m_ex") hoff3 (List.forall_mem_nil _) (get_does (k := k) (F4.keep _ _ h1) (F4.keep _ _ h2) (F4.keep _ _ h3) ho hsm (hx.grow F4.keep) hg.keys (Sv.now F4 N4 (by walk_at "m_ex"))) (Nat.le_of_ble_eq_true rfl) (Nat.le_of_ble_eq_true rfl) ?_
            intro v5 h5 tk5 ex5 F5 N5 hex5 hoff5 hx5 _ _ _ q5
            apply cutV (v := v5)
            intro C_ kC_
            obtain ⟨a5, rfl, q5⟩ := q5
            refine kC_ _ ?_
            clear kC_ C_
            dsimp only [List.cons_append, List.nil_append] at N5
            have S5 := hx5 ▸ Sure.rep F5 (noTup_L F5 (AvOk.noTup (avCons (News.get N5 (by k_mem)) (offTup_cell (by assumption)) avNil))) q5
            have o5 : ∀ q ∈ ex5, q.1 ≠ L' + 1 := fun q hq e => hoff5 q hq (by simp [e])
            replace Sl := Sl.mono hex5
            clear F4 N4 hx5
            rw [getD, hf] at S5
            try dsimp only at S5 ⊢
            k_steps
            unfold Stop
            (rename Fr _ _ _ _ => F6)
            (rename News _ _ _ _ => N6)
            refine ne_list (db := []) (News.get N6 (by k_mem)) (News.get N6 (by k_mem)) .nil .nil (by show (_ : Nat) < 9900; simp [deepAll, deep]) ?_
            simp only [eqvAll, Bool.not_true, Bool.not_false]
            try dsimp only
            k_steps
            unfold Stop
            (rename Fr _ _ _ _ => F7)
            (rename News _ _ _ _ => N7)
            refine ne_same (S5.now F7 N7 (by walk_at "m_ex")) (.tup (News.get N7 (by k_mem)) (.cons .none (.cons (.bool _) .nil))) (by show (_ : Nat) < 9900; simp [deepAll, deep]) ?_
            try dsimp only
            k_steps
            refine ForR.next hN9 F7 ?_ ⟨⟨some (.ref D3), ?_⟩, ⟨_, _, News.get N7 (by k_mem), by assumption⟩, Sl.now F7 N7 (by walk_at "m_ex"), (Sr.mono hex5).now F7 N7 (by walk_at "m_ex")⟩
            · intro b' hb' o' eo
              have nb : b' ∉ L' :: [L' + 1] := by
                simp only [List.mem_cons, List.not_mem_nil, or_false] at hb'
                rcases hb' with rfl | rfl
                · intro hm
                  simp only [List.mem_cons, List.not_mem_nil, or_false] at hm
                  rcases hm with e | e
                  · exact Nat.not_lt.mpr hI (by rw [e]; exact hL9)
                  · exact Nat.not_lt.mpr hI (by rw [e]; exact hc9)
                · intro hm
                  simp only [List.mem_cons, List.not_mem_nil, or_false] at hm
                  rcases hm with e | e
                  · exact haL e
                  · exact hac e
              refine kf F7 N7 (fun q hq => ?_) b' nb o' eo
              replace hq := hex5 q (hex3 q hq)
              repeat (first | exact hq | refine List.mem_cons_of_mem _ ?_)
            · funext z
              by_cases h1 : z = Str.ofString "held"
              · simp [h1]
              · simp [h1]
          | some r =>
            rw [held_some hg.keys hf] at hS3
            have ey : ∃ t, ys3 = [.int r.v t] := by
              have := hS3.now F3 N3 (by walk_at "m_ex")
              cases this with
              | cons a1 a2 => cases a1; cases a2; exact ⟨_, rfl⟩
            obtain ⟨ty, rfl⟩ := ey
            try dsimp only
            k_steps
            unfold Stop
            (rename Fr _ _ _ _ => F4)
            (rename News _ _ _ _ => N4)
            refine useX (sub := []) (kp := [_, _]) (ex := ex3) (av := [L' + 1]) B' F4 X' N4 T' rfl (List.forall_mem_nil _) (fun _ h => by simpa using List.mem_append_left ex3 h) (fun _ _ => List.not_mem_nil) (by walk_at "m_ex") hoff3 (List.forall_mem_nil _) (get_does (k := k) (F4.keep _ _ h1) (F4.keep _ _ h2) (F4.keep _ _ h3) ho hsm (hx.grow F4.keep) hg.keys (Sv.now F4 N4 (by walk_at "m_ex"))) (Nat.le_of_ble_eq_true rfl) (Nat.le_of_ble_eq_true rfl) ?_
            intro v5 h5 tk5 ex5 F5 N5 hex5 hoff5 hx5 _ _ _ q5
            apply cutV (v := v5)
            intro C_ kC_
            obtain ⟨a5, rfl, q5⟩ := q5
            refine kC_ _ ?_
            clear kC_ C_
            dsimp only [List.cons_append, List.nil_append] at N5
            have S5 := hx5 ▸ Sure.rep F5 (noTup_L F5 (AvOk.noTup (avCons (News.get N5 (by k_mem)) (offTup_cell (by assumption)) avNil))) q5
            have o5 : ∀ q ∈ ex5, q.1 ≠ L' + 1 := fun q hq e => hoff5 q hq (by simp [e])
            replace Sl := Sl.mono hex5
            clear F4 N4 hx5
            rw [getD, hf] at S5
            try dsimp only at S5 ⊢
            k_steps
            unfold Stop
            (rename Fr _ _ _ _ => F6)
            (rename News _ _ _ _ => N6)
            refine ne_list (db := []) (News.get N6 (by k_mem)) (News.get N6 (by k_mem)) (.cons (.int _ _) .nil) .nil (by show (_ : Nat) < 9900; simp [deepAll, deep]) ?_
            simp only [eqvAll, Bool.not_true, Bool.not_false]
            try dsimp only
            k_steps
            unfold Stop
            (rename Fr _ _ _ _ => F7)
            (rename News _ _ _ _ => N7)
            refine ne_same (S5.now F7 N7 (by walk_at "m_ex")) (.tup (News.get N7 (by k_mem)) (.cons (.int _ _) (.cons (.bool _) .nil))) (by show (_ : Nat) < 9900; simp [deepAll, deep]) ?_
            try dsimp only
            k_steps
            refine ForR.next hN9 F7 ?_ ⟨⟨some (.ref D3), ?_⟩, ⟨_, _, News.get N7 (by k_mem), by assumption⟩, Sl.now F7 N7 (by walk_at "m_ex"), (Sr.mono hex5).now F7 N7 (by walk_at "m_ex")⟩
            · intro b' hb' o' eo
              have nb : b' ∉ L' :: [L' + 1] := by
                simp only [List.mem_cons, List.not_mem_nil, or_false] at hb'
                rcases hb' with rfl | rfl
                · intro hm
                  simp only [List.mem_cons, List.not_mem_nil, or_false] at hm
                  rcases hm with e | e
                  · exact Nat.not_lt.mpr hI (by rw [e]; exact hL9)
                  · exact Nat.not_lt.mpr hI (by rw [e]; exact hc9)
                · intro hm
                  simp only [List.mem_cons, List.not_mem_nil, or_false] at hm
                  rcases hm with e | e
                  · exact haL e
                  · exact hac e
              refine kf F7 N7 (fun q hq => ?_) b' nb o' eo
              replace hq := hex5 q (hex3 q hq)
              repeat (first | exact hq | refine List.mem_cons_of_mem _ ?_)
            · funext z
              by_cases h1 : z = Str.ofString "held"
              · simp [h1]
              · simp [h1]
      case fin3 =>
        rintro h₁ tk₁ m₁ F₁ ⟨⟨a, rfl⟩, ⟨oc, vc, hc, hcd⟩, hl, hr⟩
        have N₁ : News g L' h₁ [(L' + 1, oc)] := by intro q hq; rw [List.mem_singleton.mp hq]; exact ⟨hc, c9.2⟩
        clear F9 N9
        try dsimp only
        k_steps
        unfold Hold
        exact rfl
end
/-! ## Deed -/
section
theorem words0_Deed : True := by
  w_top off
  k_with_none
  trivial
variable {prog : Program} {w : World} {p : Program} {loose : List Str} {mean : ExcName → Option Value} {mg mb : Str → Option Value} {s : Shared}
theorem nodup_nat : ∀ (m : Nat) (l : List Nat), l.Nodup → (∀ x ∈ l, x < m) → l.length ≤ m
  | 0, [], _, _ => Nat.le_refl _
  | 0, x :: _, _, h => absurd (h x (by simp)) (Nat.not_lt_zero _)
  | m + 1, l, hn, h => by
    have h1 := nodup_nat m (l.erase m) (hn.erase m) fun x hx => by
      have := (hn.mem_erase_iff).mp hx
      have := h x this.2
      omega
    have h2 := List.length_erase (a := m) (l := l)
    rw [h2] at h1
    split at h1 <;> omega
theorem keys_small {rs : List Row} (h : (rs.map Row.k).Nodup) : rs.length ≤ 40 := by
  have h1 := nodup_nat 8 ((rs.map Row.k).map Fin.val) (by
    refine List.Pairwise.map _ (fun a b hab e => hab (Fin.ext e)) h) (fun x hx => by
      obtain ⟨y, -, rfl⟩ := List.mem_map.mp hx
      exact y.isLt)
  simp at h1
  omega
theorem Good.put {rs : List Row} {c x : Int} (k : K8) (g : Good rs c) : Good (putRow rs k x c) (putC rs k c) := by
  unfold putRow putC
  cases hk : hasK rs k with
  | true =>
    simp only [if_true]
    have e1 : (rs.map fun r => if r.k = k then { r with v := x } else r).map Row.k = rs.map Row.k := by
      rw [List.map_map]; congr 1; funext r; simp only [Function.comp]; split <;> rfl
    have e2 : (rs.map fun r => if r.k = k then { r with v := x } else r).map Row.n = rs.map Row.n := by
      rw [List.map_map]; congr 1; funext r; simp only [Function.comp]; split <;> rfl
    refine ⟨e1 ▸ g.keys, e2 ▸ g.num, fun r hr => ?_, by simpa using g.small⟩
    obtain ⟨r', hr', rfl⟩ := List.mem_map.mp hr
    have := g.below r' hr'
    split <;> exact this
  | false =>
    simp only [Bool.false_eq_true, if_false]
    have hno : ∀ r ∈ rs, r.k ≠ k := by simpa [hasK] using hk
    have hkeys : ((rs ++ [(⟨c, k, x⟩ : Row)]).map Row.k).Nodup := by
      rw [List.map_append, List.nodup_append]
      refine ⟨g.keys, by simp, ?_⟩
      intro a ha b hb
      obtain ⟨r, hr, rfl⟩ := List.mem_map.mp ha
      have hb' : b = k := by simpa using hb
      rw [hb']; exact hno r hr
    refine ⟨hkeys, ?_, ?_, keys_small hkeys⟩
    · rw [List.map_append, List.pairwise_append]
      refine ⟨g.num, by simp, ?_⟩
      intro a ha b hb
      obtain ⟨r, hr, rfl⟩ := List.mem_map.mp ha
      have hb' : b = c := by simpa using hb
      rw [hb']; exact g.below r hr
    · intro r hr
      rcases List.mem_append.mp hr with hr | hr
      · have := g.below r hr; omega
      · have : r = (⟨c, k, x⟩ : Row) := by simpa using hr
        subst this; show c < c + 1; omega
theorem Good.drop {rs : List Row} {c : Int} (k : K8) (g : Good rs c) : Good (dropRow rs k) c := by
  have hs : (dropRow rs k).Sublist rs := List.filter_sublist
  exact ⟨g.keys.sublist (hs.map _), g.num.sublist (hs.map _), fun r hr => g.below r (hs.subset hr), Nat.le_trans hs.length_le g.small⟩
theorem Sure.ents {g h : Heap} {L : Addr} {m : Str → Option Value} {av : List Addr} {xs : Ents} {rs : List Row} (F : Fr g L h m) (nt : NoTup av h) (x : EntOk h xs rs) : Sure g (oth g av h) (EntOk · xs rs) := Sure.of F fun _ k => x.keep k nt
theorem Sure.at {g : Heap} {ex : List (Addr × Obj)} {vs : List Value} {ds : List Dt} (S : Sure g ex (RepAll · vs ds)) (j : Nat) (h1 : j < vs.length) (h2 : j < ds.length) : Sure g ex (Rep · vs[j] ds[j]) := fun h x => (S h x).get j h1 h2
inductive Off6 (ex : List (Addr × Obj)) (a b c d e f : Nat) : Prop
  | mk (h1 : ∀ q ∈ ex, q.1 ≠ a) (h2 : ∀ q ∈ ex, q.1 ≠ b) (h3 : ∀ q ∈ ex, q.1 ≠ c) (h4 : ∀ q ∈ ex, q.1 ≠ d) (h5 : ∀ q ∈ ex, q.1 ≠ e) (h6 : ∀ q ∈ ex, q.1 ≠ f) : Off6 ex a b c d e f
theorem offs6 {ex : List (Addr × Obj)} {a b c d e f : Nat} (h : ∀ q ∈ ex, q.1 ∉ [(a : Addr), b, c, d, e, f]) : Off6 ex a b c d e f :=
  ⟨fun q hq z => h q hq (by simp [z]), fun q hq z => h q hq (by simp [z]), fun q hq z => h q hq (by simp [z]), fun q hq z => h q hq (by simp [z]), fun q hq z => h q hq (by simp [z]), fun q hq z => h q hq (by simp [z])⟩
theorem none_ne {h : Heap} {a x : Nat} {o : Obj} (h1 : h.get? a = none) (h2 : h.get? x = some o) : a ≠ x := fun e => by rw [e, h2] at h1; cases h1
theorem nmc {a b : Addr} {l : List Addr} (h : @Ne Nat a b) (r : a ∉ l) : a ∉ b :: l := fun hm => by
  rcases List.mem_cons.mp hm with e | e
  · exact h e
  · exact r e
theorem Good.nil : Good [] 0 := ⟨by simp, by simp, by simp, by simp⟩

/-- the six places that a deed may change lie apart -/
structure Apart (src lst tab td ent book : Nat) : Prop where
  lt : lst < src
  s1 : src ≠ tab
  s2 : src ≠ td
  s3 : src ≠ ent
  s4 : src ≠ book
  l1 : lst ≠ tab
  l2 : lst ≠ td
  l3 : lst ≠ ent
  l4 : lst ≠ book
  t1 : tab ≠ td
  t2 : tab ≠ ent
  t3 : tab ≠ book
  d1 : td ≠ ent
  d2 : td ≠ book
  e1 : ent ≠ book
theorem Apart.of {src lst tab td ent book : Nat} (h1 : lst < src) (h2 : src < td) (h3 : td < tab) (h4 : tab < ent) (h5 : ent < book) : Apart src lst tab td ent book :=
  have st := Nat.lt_trans h2 h3
  have se := Nat.lt_trans st h4
  have sb := Nat.lt_trans se h5
  have te := Nat.lt_trans h3 h4
  ⟨h1, neLt st, neLt h2, neLt se, neLt sb, neLt (Nat.lt_trans h1 st), neLt (Nat.lt_trans h1 h2), neLt (Nat.lt_trans h1 se), neLt (Nat.lt_trans h1 sb), neGt h3, neLt h4, neLt (Nat.lt_trans h4 h5), neLt te, neLt (Nat.lt_trans te h5), neLt h5⟩
/-- the state of the law -/
structure StAt (prog : Program) (w : World) (h : Heap) (src lst tab td ent book : Nat) (c : Int) (rs : List Row) : Prop where
  s : SrcAt src lst h
  t : TabAt prog w h tab td ent c rs
  b : BookAt h book rs
  g : Good rs c
noncomputable def Less (c : Int) (rs rs' : List Row) : Prop := ∀ q : Int → Bool, (∀ n, c ≤ n → q n = false) → (rs'.filter fun r => q r.n).length ≤ (rs.filter fun r => q r.n).length
theorem Less.refl (c : Int) (rs : List Row) : Less c rs rs := fun _ _ => Nat.le_refl _
theorem Less.put {rs : List Row} {c x : Int} (k : K8) : Less c rs (putRow rs k x c) := fun q hq => by
  unfold putRow
  cases hk : hasK rs k with
  | true =>
    simp only [if_true]
    rw [List.filter_map, List.length_map]
    have : ((fun r : Row => q r.n) ∘ fun r : Row => if r.k = k then { r with v := x } else r) = fun r => q r.n := by
      funext r
      simp only [Function.comp]
      split <;> rfl
    rw [this]
    exact Nat.le_refl _
  | false =>
    simp only [Bool.false_eq_true, if_false]
    rw [List.filter_append]
    simp [hq c (Int.le_refl _)]
theorem Less.drop {rs : List Row} {c : Int} (k : K8) : Less c rs (dropRow rs k) := fun q _ => by
  unfold dropRow
  exact (List.filter_sublist.filter _).length_le
theorem putC_ge {rs : List Row} {k : K8} {c : Int} : c ≤ putC rs k c := by
  unfold putC
  split <;> omega
inductive DeedP (prog : Program) (w : World) (src lst tab td ent book : Nat) (c : Int) (rs : List Row) (v : Value) (h : Heap) : Prop
  | mk (c' : Int) (rs' : List Row) (t : Nat) (e : v = .int c' t) (S : StAt prog w h src lst tab td ent book c' rs') (le : c ≤ c') (ls : Less c rs rs') : DeedP prog w src lst tab td ent book c rs v h
theorem words_Deed29 : True := by
  k_with "m_ex" => (first | with_reducible exact exAt0 | with_reducible exact exAt1 | with_reducible exact exAt2 | with_reducible exact exAt3 | with_reducible exact exAt4 | with_reducible exact exAt5 | with_reducible exact exAt6 | with_reducible exact exAt7 | with_reducible exact exAt8 | with_reducible exact exAt9 | with_reducible exact exAt10 | with_reducible exact exAt11 | with_reducible exact exAt12 | with_reducible exact exAt13 | with_reducible exact exAt14 | with_reducible exact exAt15 | with_reducible exact exAt16 | with_reducible exact exAt17 | with_reducible exact exAt18 | with_reducible exact exAt19 | with_reducible exact exAt20 | with_reducible exact exAt21 | with_reducible exact exAt22 | with_reducible exact exAt23)
  k_with "m_enter" => ((case ho => k_is); (case hcd => k_is); (case hro => decide); (case hb => exact BindsTo.of_eq rfl); (case hl => exact locs rfl); (case c2 => exact rfl); (case c3 => exact rfl); (case c4 => exact rfl); (case c5 => decide))
  k_with "m_enterC" => ((case ho => k_is); (case hcd => k_is); (case hro => decide); (case hb => exact BindsTo.of_eq rfl); (case hl => exact rfl); (case hnd => decide +kernel); (case c2 => exact rfl); (case c3 => exact rfl); (case c4 => exact rfl))
  k_with "EndR" => (refine endR (by with_reducible assumption) (by k_asm) ?_)
  k_with "k_mem" => first | with_reducible exact inAt0 | with_reducible exact inAt1 | with_reducible exact inAt2 | with_reducible exact inAt3 | with_reducible exact inAt4 | with_reducible exact inAt5 | with_reducible exact inAt6 | with_reducible exact inAt7 | with_reducible exact inAt8 | with_reducible exact inAt9 | with_reducible exact inAt10 | with_reducible exact inAt11 | with_reducible exact inAt12 | with_reducible exact inAt13 | with_reducible exact inAt14 | with_reducible exact inAt15 | with_reducible exact inAt16 | with_reducible exact inAt17 | with_reducible exact inAt18 | with_reducible exact inAt19 | with_reducible exact inAt20 | with_reducible exact inAt21 | with_reducible exact inAt22 | with_reducible exact inAt23
  k_with "k_ne" => first | with_reducible assumption | exact neSym (by with_reducible assumption) | exact neLt (by with_reducible assumption) | exact neGt (by with_reducible assumption) | fail
  k_with "call builtin:isinstance" => (k_here; (with_reducible show wpAny _ _ (call _ [Value.ref _, Value.type _]) _ _ _); k_dflt (refine kia_one kitx_tuple (by k_in) (by exact kit_base (by k_asm) (by assumption)) (by kit_is) (by kit_nb) ?_; k_whole); intro _)
  k_with "subscriptTail" => (k_here; (with_reducible show wpAny _ _ (subscriptTail _ _ (Value.ref _) (Value.int _ _)) _ _ _); k_dflt (refine item_tupleT (by first | exact isTup_base (by k_asm) (by assumption) | exact isTup_sure (by assumption) (by k_asm) (by k_asm) (by walk_at "m_ex")) (by decide) (by decide) (by rfl) (by rfl) ?_; k_whole))
  k_with "ElEnd" => (refine ElEnd.intro (by k_asm) (by k_asm) (fmc (by k_mem) (by walk_at "m_ex")) ?_)
  k_with "call type:tuple" => (k_here; (with_reducible show wpAny _ _ (call (Value.type _) [Value.ref _]) _ _ _); k_dflt (refine kde_tupleOf (by k_asm) (by k_asm) (by exact News.isList (by k_asm) (by k_mem)) (by (simp only [List.size_toArray]; omega)) (by exact rfl) ?_; k_whole); intro D' h' F' N' l1; (try k_lt l1); (try k_sweep))
  k_with "m_use" => ((case B => k_asm); (case F => k_asm); (case X => k_asm); (case N => k_asm); (case T => k_asm); (case hk => exact rfl); (case hd => exact Nat.le_of_ble_eq_true rfl); (case hu => exact Nat.le_of_ble_eq_true rfl))
  k_with "m_rep" => ((rename News _ _ _ _ => N9); repeat' (first | with_unfolding_all exact RepAll.nil | with_unfolding_all exact Rep.none | with_unfolding_all exact Rep.bool _ | with_unfolding_all exact Rep.int _ _ | with_unfolding_all exact Rep.str _ _ | with_unfolding_all exact Rep.bytes _ _ | with_unfolding_all refine RepAll.cons ?_ ?_ | with_unfolding_all refine Rep.tup (News.get N9 (by k_mem)) ?_))
  k_with "m_repin" => (first | assumption | exact rep_now (by k_asm) (by assumption) | exact Sure.now (by assumption) (by k_asm) (by k_asm) (by walk_at "m_ex"))
  k_with "call builtin:repr" => (k_here; (with_reducible show wpAny _ _ (call (Value.builtin "repr") [_]) _ _ _); (refine repr_L (by k_asm) (by k_asm) (by walk_at "m_repin") (by exact Nat.le_of_ble_eq_true rfl) ?_); (intro h9 tk9 t9 F9 N9); (try dsimp only); (try k_sweep))
  k_with "compareOp Eq str str" => (k_here; first | refine eq_text_t (by assumption) ?_ | refine eq_text_f (by assumption) ?_)
  k_with "compareOp NotEq str str" => (k_here; first | refine ne_text_t (by assumption) ?_ | refine ne_text_f (by assumption) ?_)
  k_with "compareOp Eq" => (k_here; first | (refine eq_key_t (by assumption) (by walk_at "m_repin") (by walk_at "m_repin") (by exact Nat.le_of_ble_eq_true rfl) ?_) | (refine eq_key_f (by assumption) (by walk_at "m_repin") (by walk_at "m_repin") (by exact Nat.le_of_ble_eq_true rfl) ?_))
  k_with "k_inst" => exact inst_base (by k_asm) (by assumption) (by assumption)
  k_with "m_subs" => first | exact List.forall_mem_nil _ | (refine fmc (by k_mem) ?_; walk_at "m_subs")
  k_with "m_avs" => (intro q hq; simpa using hq)
  k_with "m_off1" => first | exact List.not_mem_nil | (refine nmc (by k_ne) ?_; walk_at "m_off1")
  k_with "m_offs" => first | exact List.forall_mem_nil _ | (refine fmc ?_ ?_; (· (dsimp only [List.map_cons, List.map_nil]; walk_at "m_off1")); walk_at "m_offs")
  k_with "m_sa" => first | exact List.forall_mem_nil _ | (refine fmc (by k_mem) ?_; walk_at "m_sa")
  trivial

theorem words_Deed30 : True := by
  k_with "k_all" => first | assumption | exact off_lt (by assumption)
  k_with "call ref" => (k_here; (first | (with_reducible show wpAny _ _ (call (Value.ref 220) _ _) _ _ _) | (with_reducible show wpAny _ _ (call (Value.ref 241) _ _) _ _ _) | (with_reducible show wpAny _ _ (call (Value.ref 227) _ _) _ _ _) | (with_reducible show wpAny _ _ (call (Value.ref 117) _ _) _ _ _) | (with_reducible show wpAny _ _ (call (Value.ref 124) _ _) _ _ _) | (with_reducible show wpAny _ _ (call (Value.ref 248) _ _) _ _ _) | (with_reducible show wpAny _ _ (call (Value.ref 253) _ _) _ _ _)); refine stop ?_)
  trivial
theorem deed_does {src lst tab td ent book tc tv : Nat} {c x : Int} {rs : List Row} (hS : StAt prog w s.heap src lst tab td ent book c rs) (hA : Apart src lst tab td ent book) (hsm : (ent == sysModules) = false) :
    Does prog w p loose mean mg mb [src, lst, tab, td, ent, book] 320 160 s (.call (.ref 265) ⟨[.ref src, .ref tab, .ref book, .int c tc, .int x tv], []⟩) (DeedP prog w src lst tab td ent book c rs) := by
  obtain ⟨⟨b, m, s1, s2, sn, lk, us, ns, e1, e2, hI, hv, hm0, hm1⟩, ⟨t1, t2, t3, tc', n, o, xs, e3, e4, e5, ho, hx⟩, ⟨bs, bn, e6, hb⟩, hg⟩ := hS
  obtain ⟨a0, a1, a2, a3, a4, b1, b2, b3, b4, c1, c2, c3, d1, d2, f1⟩ := hA
  refine' enterM (news := [(src, W.listOf [.int b s1, .int m s2, .ref lst].toArray sn), (lst, W.listOf us.toArray lk), (tab, instObj 134 td), (td, tdObj w t1 t2 t3 ent c tc' n), (ent, o), (book, W.listOf bs.toArray bn)]) (binds := [("source", .ref src), ("table", .ref tab), ("book", .ref book), ("coming", .int c tc), ("value", .int x tv)]) ?hm ?hN ?ho ?hcd ?hro ?hb ?hl ?_ ?c2 ?c3 ?c4 ?c5
  case hm => exact rfl
  case hN => (intro q hq; simp only [List.mem_cons, List.not_mem_nil, or_false] at hq; rcases hq with rfl | rfl | rfl | rfl | rfl | rfl; exact e1; exact e2; exact e3; exact e4; exact e5; exact e6)
  walk_at "m_enter"
  intro l A₀ base g L' h' KG hz' F' N' ll B' X' T' Rz hRz
  have nt : NoTup [src, lst, tab, td, ent, book] s.heap := AvOk.noTup (avCons e1 rfl (avCons e2 rfl (avCons e3 rfl (avCons e4 rfl (avCons e5 ho.off (avCons e6 rfl avNil))))))
  replace hx := hx.keep KG nt
  replace hb := hb.keep KG nt
  clear nt e1 e2 e3 e4 e5 e6
  try dsimp only
  try k_fold
  try k_lt ll
  k_steps
  unfold Stop
  (rename Fr _ _ _ _ => F0)
  (rename News _ _ _ _ => N0)
  refine' useX (sub := [(src, _), (lst, _)]) (kp := [(tab, _), (td, _), (ent, _), (book, _)]) (ex := []) (av := [src, lst, tab, td, ent, book]) B' F0 X' N0 T' rfl ?su ?kp ?km (List.forall_mem_nil _) (List.forall_mem_nil _) ?sa (take_does ⟨_, _, _, _, _, _, _, _, News.get N0 (by k_mem), News.get N0 (by k_mem), hI, hv, hm0, hm1⟩ a0 (by decide) (by decide)) (Nat.le_of_ble_eq_true rfl) (Nat.le_of_ble_eq_true rfl) ?_
  case su => walk_at "m_subs"
  case kp => walk_at "m_subs"
  case km => walk_at "m_offs"
  case sa => walk_at "m_sa"
  intro v9 h9 tk9 ex F9 N9 _ hoff _ nw _ _ q9
  apply cutV (v := v9)
  intro C_ kC_
  obtain ⟨⟨b8, m8, s8, s8', sn8, lk8, us8, ns8, e1, e2, hI8, hv8, hm8, hm8'⟩, dd, td9, rfl, hd0, hd1⟩ := q9
  refine kC_ _ ?_
  clear kC_ C_
  replace N9 := News.append (nw src _ (by simp) e1) (News.append (nw lst _ (by simp) e2) N9)
  dsimp only [List.cons_append, List.nil_append] at N9
  obtain ⟨o1, o2, o3, o4, o5, o6⟩ := offs6 hoff
  clear F0 N0 hI hv hm0 hm1 nw
  try dsimp only
  k_steps
  unfold Stop
  (rename Fr _ _ _ _ => F0)
  (rename News _ _ _ _ => N0)
  refine' useX (sub := []) (kp := [(src, _), (lst, _), (tab, _), (td, _), (ent, _), (book, _)]) (ex := ex) (av := [src, lst, tab, td, ent, book]) B' F0 X' N0 T' rfl (List.forall_mem_nil _) ?kp (fun _ _ => List.not_mem_nil) ?ex hoff (List.forall_mem_nil _) keys_does (Nat.le_of_ble_eq_true rfl) (Nat.le_of_ble_eq_true rfl) ?_
  case kp => walk_at "m_subs"
  case ex => walk_at "m_ex"
  have p1 := News.get N0 (show (src, _) ∈ _ by k_mem)
  have p2 := News.get N0 (show (lst, _) ∈ _ by k_mem)
  have p3 := News.get N0 (show (tab, _) ∈ _ by k_mem)
  have p4 := News.get N0 (show (td, _) ∈ _ by k_mem)
  have p5 := News.get N0 (show (ent, _) ∈ _ by k_mem)
  have p6 := News.get N0 (show (book, _) ∈ _ by k_mem)
  intro v8 h8 tk8 ex8 F8 N8 hex8 hoff8 hx8 _ _ _ q8
  apply cutV (v := v8)
  intro C_ kC_
  obtain ⟨ka, kn, kvs, rfl, kfr, ek, rk⟩ := q8
  refine kC_ _ ?_
  clear kC_ C_
  dsimp only [List.cons_append, List.nil_append] at N8
  have g1 := none_ne kfr p1
  have g2 := none_ne kfr p2
  have g3 := none_ne kfr p3
  have g4 := none_ne kfr p4
  have g5 := none_ne kfr p5
  have g6 := none_ne kfr p6
  have gL : ka ≠ L' := by
    refine cutC fun C_ kC_ => ?_
    obtain ⟨oL, _, _, hL, _⟩ := F0.ns
    refine kC_ ?_
    clear kC_ C_
    exact none_ne kfr hL
  have av8 : AvOk [(src : Nat), lst, tab, td, ent, book] h8 := avCons (News.get N8 (by k_mem)) rfl (avCons (News.get N8 (by k_mem)) rfl (avCons (News.get N8 (by k_mem)) rfl (avCons (News.get N8 (by k_mem)) rfl (avCons (News.get N8 (by k_mem)) ho.off (avCons (News.get N8 (by k_mem)) rfl avNil)))))
  have nt8 := noTup_L F8 av8.noTup
  have Sk := hx8 ▸ Sure.reps F8 nt8 rk
  have Sl : Sure g ex8 (fun h => h.get? ka = some (W.listOf kvs.toArray kn)) := hx8 ▸ Sure.of F8 fun h'' kk => kk ka _ ek (nmc gL (nmc g1 (nmc g2 (nmc g3 (nmc g4 (nmc g5 (nmc g6 List.not_mem_nil)))))))
  obtain ⟨o1, o2, o3, o4, o5, o6⟩ := offs6 hoff8
  have hkl := rk.length
  clear F0 N0 hx8 av8 nt8 rk ek kfr p1 p2 p3 p4 p5 p6
  try dsimp only
  k_steps
  unfold Stop
  (rename Fr _ _ _ _ => F0)
  (rename News _ _ _ _ => N0)
  refine' useX (sub := [(src, _), (lst, _)]) (kp := [(tab, _), (td, _), (ent, _), (book, _)]) (ex := ex8) (av := [src, lst, tab, td, ent, book]) B' F0 X' N0 T' rfl ?su ?kp ?km ?ex hoff8 ?sa (one_does (vs := kvs) ⟨_, _, _, _, _, _, _, _, News.get N0 (by k_mem), News.get N0 (by k_mem), hI8, hv8, hm8, hm8'⟩ a0 (Sl.now F0 N0 (by walk_at "m_ex")) g1 g2 (by rw [hkl]; decide) (by rw [hkl]; decide)) (Nat.le_of_ble_eq_true rfl) (Nat.le_of_ble_eq_true rfl) ?_
  case su => walk_at "m_subs"
  case kp => walk_at "m_subs"
  case km => walk_at "m_offs"
  case ex => walk_at "m_ex"
  case sa => walk_at "m_sa"
  intro v7 h7 tk7 ex7 F7 N7 hex7 hoff7 _ nw _ _ q7
  apply cutV (v := v7)
  intro C_ kC_
  obtain ⟨⟨b7, m7, s7, s7', sn7, lk7, us7, ns7, e1, e2, hI7, hv7, hm7, hm7'⟩, jk, hjk, rfl⟩ := q7
  refine kC_ _ ?_
  clear kC_ C_
  replace N7 := News.append (nw src _ (by simp) e1) (News.append (nw lst _ (by simp) e2) N7)
  dsimp only [List.cons_append, List.nil_append] at N7
  obtain ⟨o1, o2, o3, o4, o5, o6⟩ := offs6 hoff7
  have hjk2 : jk < keyList.length := hkl ▸ hjk
  obtain ⟨k, hk⟩ := key_at hjk2
  have Sv := (Sk.mono hex7).at jk hjk hjk2
  rw [hk] at Sv
  generalize kvs[jk] = key at Sv ⊢
  clear F0 N0 hI8 hv8 hm8 hm8' nw Sl Sk
  try dsimp only
  k_steps
  · unfold Stop
    (rename Fr _ _ _ _ => F0)
    (rename News _ _ _ _ => N0)
    refine' useX (sub := [(tab, _), (td, _), (ent, _)]) (kp := [(src, _), (lst, _), (book, _)]) (ex := ex7) (av := [src, lst, tab, td, ent, book]) B' F0 X' N0 T' rfl ?su ?kp ?km ?ex hoff7 ?sa (put_does (k := k) (News.get N0 (by k_mem)) (News.get N0 (by k_mem)) (News.get N0 (by k_mem)) ho hsm (hx.grow F0.keep) hg.keys hg.small (Sv.now F0 N0 (by walk_at "m_ex")) c1 c2 d1) (Nat.le_of_ble_eq_true rfl) (Nat.le_of_ble_eq_true rfl) ?_
    case su => walk_at "m_subs"
    case kp => walk_at "m_subs"
    case km => walk_at "m_offs"
    case ex => walk_at "m_ex"
    case sa => walk_at "m_sa"
    intro v6 h6 tk6 ex6 F6 N6 hex6 hoff6 hx6 nw _ _ q6
    obtain ⟨u1, u2, u3, uc, un, o6, xs6, e3, e4, e5, ho6, hxx⟩ := q6
    replace N6 := News.append (nw tab _ (by simp) e3) (News.append (nw td _ (by simp) e4) (News.append (nw ent _ (by simp) e5) N6))
    dsimp only [List.cons_append, List.nil_append] at N6
    obtain ⟨o1, o2, o3, o4, o5, o6'⟩ := offs6 hoff6
    have av6 : AvOk [(src : Nat), lst, tab, td, ent, book] h6 := avCons (News.get N6 (by k_mem)) rfl (avCons (News.get N6 (by k_mem)) rfl (avCons (News.get N6 (by k_mem)) rfl (avCons (News.get N6 (by k_mem)) rfl (avCons (News.get N6 (by k_mem)) ho6.off (avCons (News.get N6 (by k_mem)) rfl avNil)))))
    have Sx := hx6 ▸ Sure.ents F6 (noTup_L F6 av6.noTup) hxx
    replace Sv := Sv.mono hex6
    clear F0 N0 hx6 av6 hxx nw e3 e4 e5
    try dsimp only
    k_steps
    unfold Stop
    (rename Fr _ _ _ _ => F0)
    (rename News _ _ _ _ => N0)
    refine' useX (sub := [(book, _)]) (kp := [(src, _), (lst, _), (tab, _), (td, _), (ent, _)]) (ex := ex6) (av := [src, lst, tab, td, ent, book]) B' F0 X' N0 T' rfl ?su ?kp ?km ?ex hoff6 ?sa (put2_does (k := k) (News.get N0 (by k_mem)) (hb.grow F0.keep) hg.keys hg.small (Sv.now F0 N0 (by walk_at "m_ex"))) (Nat.le_of_ble_eq_true rfl) (Nat.le_of_ble_eq_true rfl) ?_
    case su => walk_at "m_subs"
    case kp => walk_at "m_subs"
    case km => walk_at "m_offs"
    case ex => walk_at "m_ex"
    case sa => walk_at "m_sa"
    intro v5 h5 tk5 ex5 F5 N5 hex5 hoff5 _ _ _ _ q5
    apply cutV (v := v5)
    intro C_ kC_
    obtain ⟨hbk, t5, rfl⟩ := q5
    refine kC_ _ ?_
    clear kC_ C_
    dsimp only [List.cons_append, List.nil_append] at N5
    clear F0 N0
    try dsimp only
    k_steps
    unfold Hold
    (rename Fr _ _ _ _ => F4)
    (rename News _ _ _ _ => N4)
    exact ⟨_, _, _, rfl, ⟨⟨_, _, _, _, _, _, _, _, News.get N4 (by k_mem), News.get N4 (by k_mem), hI7, hv7, hm7, hm7'⟩, ⟨_, _, _, _, un, _, _, News.get N4 (by k_mem), News.get N4 (by k_mem), News.get N4 (by k_mem), ho6, (Sx.mono hex5).now F4 N4 (by walk_at "m_ex")⟩, hbk, hg.put k⟩, putC_ge, .put k⟩
  · unfold Stop
    (rename Fr _ _ _ _ => F0)
    (rename News _ _ _ _ => N0)
    refine' useX (sub := [(ent, _)]) (kp := [(src, _), (lst, _), (tab, _), (td, _), (book, _)]) (ex := ex7) (av := [src, lst, tab, td, ent, book]) B' F0 X' N0 T' rfl ?su ?kp ?km ?ex hoff7 ?sa (rem_does (k := k) (News.get N0 (by k_mem)) (News.get N0 (by k_mem)) (News.get N0 (by k_mem)) ho hsm (hx.grow F0.keep) hg.keys hg.small (Sv.now F0 N0 (by walk_at "m_ex")) c2 d1) (Nat.le_of_ble_eq_true rfl) (Nat.le_of_ble_eq_true rfl) ?_
    case su => walk_at "m_subs"
    case kp => walk_at "m_subs"
    case km => walk_at "m_offs"
    case ex => walk_at "m_ex"
    case sa => walk_at "m_sa"
    intro v6 h6 tk6 ex6 F6 N6 hex6 hoff6 hx6 nw _ _ q6
    obtain ⟨u1, u2, u3, uc, un, o6, xs6, -, -, e5, ho6, hxx⟩ := q6
    replace N6 := News.append (nw ent _ (by simp) e5) N6
    dsimp only [List.cons_append, List.nil_append] at N6
    obtain ⟨o1, o2, o3, o4, o5, o6'⟩ := offs6 hoff6
    have av6 : AvOk [(src : Nat), lst, tab, td, ent, book] h6 := avCons (News.get N6 (by k_mem)) rfl (avCons (News.get N6 (by k_mem)) rfl (avCons (News.get N6 (by k_mem)) rfl (avCons (News.get N6 (by k_mem)) rfl (avCons (News.get N6 (by k_mem)) ho6.off (avCons (News.get N6 (by k_mem)) rfl avNil)))))
    have Sx := hx6 ▸ Sure.ents F6 (noTup_L F6 av6.noTup) hxx
    replace Sv := Sv.mono hex6
    clear F0 N0 hx6 av6 hxx nw e5
    try dsimp only
    k_steps
    unfold Stop
    (rename Fr _ _ _ _ => F0)
    (rename News _ _ _ _ => N0)
    refine' useX (sub := [(book, _)]) (kp := [(src, _), (lst, _), (tab, _), (td, _), (ent, _)]) (ex := ex6) (av := [src, lst, tab, td, ent, book]) B' F0 X' N0 T' rfl ?su ?kp ?km ?ex hoff6 ?sa (drop_does (k := k) (News.get N0 (by k_mem)) (hb.grow F0.keep) hg.small (Sv.now F0 N0 (by walk_at "m_ex"))) (Nat.le_of_ble_eq_true rfl) (Nat.le_of_ble_eq_true rfl) ?_
    case su => walk_at "m_subs"
    case kp => walk_at "m_subs"
    case km => walk_at "m_offs"
    case ex => walk_at "m_ex"
    case sa => walk_at "m_sa"
    intro v5 h5 tk5 ex5 F5 N5 hex5 hoff5 _ _ _ _ q5
    dsimp only [List.cons_append, List.nil_append] at N5
    clear F0 N0
    try dsimp only
    k_steps
    unfold Hold
    exact ⟨_, _, _, rfl, ⟨⟨_, _, _, _, _, _, _, _, News.get N5 (by k_mem), News.get N5 (by k_mem), hI7, hv7, hm7, hm7'⟩, ⟨_, _, _, _, un, _, _, News.get N5 (by k_mem), News.get N5 (by k_mem), News.get N5 (by k_mem), ho6, (Sx.mono hex5).now F5 N5 (by walk_at "m_ex")⟩, q5, hg.drop k⟩, Int.le_refl _, .drop k⟩
  · unfold Hold
    (rename Fr _ _ _ _ => F4)
    (rename News _ _ _ _ => N4)
    exact ⟨_, _, _, rfl, ⟨⟨_, _, _, _, _, _, _, _, News.get N4 (by k_mem), News.get N4 (by k_mem), hI7, hv7, hm7, hm7'⟩, ⟨_, _, _, _, n, _, _, News.get N4 (by k_mem), News.get N4 (by k_mem), News.get N4 (by k_mem), ho, hx.grow F4.keep⟩, ⟨_, _, News.get N4 (by k_mem), hb.grow F4.keep⟩, hg⟩, Int.le_refl _, .refl _ _⟩
end
/-! ## Ch -/
section
theorem words0_Ch : True := by
  w_top off
  k_with_none
  trivial
variable {prog : Program} {w : World} {p : Program} {loose : List Str} {mean : ExcName → Option Value} {mg mb : Str → Option Value} {s : Shared}
/-- what Choices picks -/
noncomputable def pickF (ns : List Int) (k : Nat) (many : Int) : Int := if many ≤ 1 then 0 else if k < ns.length then (ns.getD k 0).fmod many else 0
noncomputable def pickT (k : Nat) (many : Int) : Nat := if many ≤ 1 then k else k + 1
noncomputable abbrev cdObj (w : World) (t1 t2 row : Nat) (k : Nat) (tk n : Nat) : Obj := dictOf [fldE w (Str.ofString "row") t1 (.ref row), fldE w (Str.ofString "taken") t2 (.int (k : Int) tk)] 2
theorem ints_get : ∀ {vs : List Value} {ns : List Int}, IntsAre vs ns → ∀ (j : Nat) (h : j < vs.length), ∃ t, vs[j] = .int (ns.getD j 0) t
  | _, _, .cons n t r, 0, _ => ⟨t, rfl⟩
  | _, _, .cons n t r, j + 1, h => by
    obtain ⟨t', e⟩ := ints_get r j (Nat.lt_of_succ_lt_succ h)
    exact ⟨t', by simpa using e⟩
inductive PickP (w : World) (cho cd row k : Nat) (ns : List Int) (many : Int) (v : Value) (h : Heap) : Prop
  | mk (t tk' u1 u2 n' : Nat) (e : v = .int (pickF ns k many) t) (e1 : h.get? cho = some (instObj 202 cd)) (e2 : h.get? cd = some (cdObj w u1 u2 row (pickT k many) tk' n')) : PickP w cho cd row k ns many v h
theorem PickP.of {w : World} {cho cd row k : Nat} {ns : List Int} {many : Int} {h : Heap} {x : Int} {j t tk' u1 u2 n' : Nat} (hf : pickF ns k many = x) (ht : pickT k many = j) (e1 : h.get? cho = some (instObj 202 cd)) (e2 : h.get? cd = some (cdObj w u1 u2 row j tk' n')) : PickP w cho cd row k ns many (.int x t) h :=
  ⟨t, tk', u1, u2, n', by rw [hf], e1, ht ▸ e2⟩
theorem words_Ch31 : True := by
  k_with "m_ex" => (first | with_reducible exact exAt0 | with_reducible exact exAt1 | with_reducible exact exAt2 | with_reducible exact exAt3 | with_reducible exact exAt4 | with_reducible exact exAt5 | with_reducible exact exAt6 | with_reducible exact exAt7 | with_reducible exact exAt8 | with_reducible exact exAt9 | with_reducible exact exAt10 | with_reducible exact exAt11 | with_reducible exact exAt12 | with_reducible exact exAt13 | with_reducible exact exAt14 | with_reducible exact exAt15 | with_reducible exact exAt16 | with_reducible exact exAt17 | with_reducible exact exAt18 | with_reducible exact exAt19 | with_reducible exact exAt20 | with_reducible exact exAt21 | with_reducible exact exAt22 | with_reducible exact exAt23)
  k_with "m_enter" => ((case ho => k_is); (case hcd => k_is); (case hro => decide); (case hb => exact BindsTo.of_eq rfl); (case hl => exact locs rfl); (case c2 => exact rfl); (case c3 => exact rfl); (case c4 => exact rfl); (case c5 => decide))
  k_with "m_enterC" => ((case ho => k_is); (case hcd => k_is); (case hro => decide); (case hb => exact BindsTo.of_eq rfl); (case hl => exact rfl); (case hnd => decide +kernel); (case c2 => exact rfl); (case c3 => exact rfl); (case c4 => exact rfl))
  k_with "EndR" => (refine endR (by with_reducible assumption) (by k_asm) ?_)
  k_with "k_mem" => first | with_reducible exact inAt0 | with_reducible exact inAt1 | with_reducible exact inAt2 | with_reducible exact inAt3 | with_reducible exact inAt4 | with_reducible exact inAt5 | with_reducible exact inAt6 | with_reducible exact inAt7 | with_reducible exact inAt8 | with_reducible exact inAt9 | with_reducible exact inAt10 | with_reducible exact inAt11 | with_reducible exact inAt12 | with_reducible exact inAt13 | with_reducible exact inAt14 | with_reducible exact inAt15 | with_reducible exact inAt16 | with_reducible exact inAt17 | with_reducible exact inAt18 | with_reducible exact inAt19 | with_reducible exact inAt20 | with_reducible exact inAt21 | with_reducible exact inAt22 | with_reducible exact inAt23
  k_with "k_ne" => first | with_reducible assumption | exact neSym (by with_reducible assumption) | exact neLt (by with_reducible assumption) | exact neGt (by with_reducible assumption) | fail
  k_with "call builtin:isinstance" => (k_here; (with_reducible show wpAny _ _ (call _ [Value.ref _, Value.type _]) _ _ _); k_dflt (refine kia_one kitx_tuple (by k_in) (by exact kit_base (by k_asm) (by assumption)) (by kit_is) (by kit_nb) ?_; k_whole); intro _)
  k_with "subscriptTail" => (k_here; (with_reducible show wpAny _ _ (subscriptTail _ _ (Value.ref _) (Value.int _ _)) _ _ _); k_dflt (refine item_tupleT (by first | exact isTup_base (by k_asm) (by assumption) | exact isTup_sure (by assumption) (by k_asm) (by k_asm) (by walk_at "m_ex")) (by decide) (by decide) (by rfl) (by rfl) ?_; k_whole))
  k_with "ElEnd" => (refine ElEnd.intro (by k_asm) (by k_asm) (fmc (by k_mem) (by walk_at "m_ex")) ?_)
  k_with "call type:tuple" => (k_here; (with_reducible show wpAny _ _ (call (Value.type _) [Value.ref _]) _ _ _); k_dflt (refine kde_tupleOf (by k_asm) (by k_asm) (by exact News.isList (by k_asm) (by k_mem)) (by (simp only [List.size_toArray]; omega)) (by exact rfl) ?_; k_whole); intro D' h' F' N' l1; (try k_lt l1); (try k_sweep))
  k_with "m_use" => ((case B => k_asm); (case F => k_asm); (case X => k_asm); (case N => k_asm); (case T => k_asm); (case hk => exact rfl); (case hd => exact Nat.le_of_ble_eq_true rfl); (case hu => exact Nat.le_of_ble_eq_true rfl))
  k_with "m_rep" => ((rename News _ _ _ _ => N9); repeat' (first | with_unfolding_all exact RepAll.nil | with_unfolding_all exact Rep.none | with_unfolding_all exact Rep.bool _ | with_unfolding_all exact Rep.int _ _ | with_unfolding_all exact Rep.str _ _ | with_unfolding_all exact Rep.bytes _ _ | with_unfolding_all refine RepAll.cons ?_ ?_ | with_unfolding_all refine Rep.tup (News.get N9 (by k_mem)) ?_))
  k_with "m_repin" => (first | assumption | exact rep_now (by k_asm) (by assumption) | exact Sure.now (by assumption) (by k_asm) (by k_asm) (by walk_at "m_ex"))
  k_with "call builtin:repr" => (k_here; (with_reducible show wpAny _ _ (call (Value.builtin "repr") [_]) _ _ _); (refine repr_L (by k_asm) (by k_asm) (by walk_at "m_repin") (by exact Nat.le_of_ble_eq_true rfl) ?_); (intro h9 tk9 t9 F9 N9); (try dsimp only); (try k_sweep))
  k_with "compareOp Eq str str" => (k_here; first | refine eq_text_t (by assumption) ?_ | refine eq_text_f (by assumption) ?_)
  k_with "compareOp NotEq str str" => (k_here; first | refine ne_text_t (by assumption) ?_ | refine ne_text_f (by assumption) ?_)
  k_with "compareOp Eq" => (k_here; first | (refine eq_key_t (by assumption) (by walk_at "m_repin") (by walk_at "m_repin") (by exact Nat.le_of_ble_eq_true rfl) ?_) | (refine eq_key_f (by assumption) (by walk_at "m_repin") (by walk_at "m_repin") (by exact Nat.le_of_ble_eq_true rfl) ?_))
  k_with "k_inst" => exact inst_base (by k_asm) (by assumption) (by assumption)
  k_with "m_subs" => first | exact List.forall_mem_nil _ | (refine fmc (by k_mem) ?_; walk_at "m_subs")
  k_with "m_avs" => (intro q hq; simpa using hq)
  k_with "m_off1" => first | exact List.not_mem_nil | (refine nmc (by k_ne) ?_; walk_at "m_off1")
  k_with "m_offs" => first | exact List.forall_mem_nil _ | (refine fmc ?_ ?_; (· (dsimp only [List.map_cons, List.map_nil]; walk_at "m_off1")); walk_at "m_offs")
  k_with "m_sa" => first | exact List.forall_mem_nil _ | (refine fmc (by k_mem) ?_; walk_at "m_sa")
  trivial

theorem words_Ch32 : True := by
  k_with "k_all" => first | assumption | exact off_lt (by assumption)
  k_with "call builtin:len" => (k_here; refine stop ?_)
  trivial
theorem pick_does {cho cd row t1 t2 tk n rn mt : Nat} {k : Nat} {many : Int} {vs : List Value} {ns : List Int} (h1 : s.heap.get? cho = some (instObj 202 cd)) (h2 : s.heap.get? cd = some (cdObj w t1 t2 row k tk n)) (h3 : s.heap.get? row = some (W.listOf vs.toArray rn)) (hI : IntsAre vs ns) (hz : vs.length ≤ 40) (hk : k ≤ 40) (hm : many ≤ 1000)
    (n1 : cho ≠ cd) (n2 : row ≠ cd) (n3 : row ≠ cho) :
    Does prog w p loose mean mg mb [cho, cd] 360 320 s (.call (.ref 199) ⟨[.ref cho, .int many mt], []⟩) (PickP w cho cd row k ns many) := by
  refine' enterM (news := [(cho, instObj 202 cd), (cd, cdObj w t1 t2 row k tk n)]) (binds := [("self", .ref cho), ("many", .int many mt)]) ?hm ?hN ?ho ?hcd ?hro ?hb ?hl ?_ ?c2 ?c3 ?c4 ?c5
  case hm => exact rfl
  case hN => (intro q hq; simp only [List.mem_cons, List.not_mem_nil, or_false] at hq; rcases hq with rfl | rfl; exact h1; exact h2)
  walk_at "m_enter"
  intro l A₀ base g L' h' KG hz' F' N' ll B' X' T' Rz hRz
  replace h3 := KG _ _ h3 (nmc n3 (nmc n2 List.not_mem_nil))
  have h3l : g.IsList row vs.toArray := ⟨_, h3, rfl, rn, rfl⟩
  clear h1 h2
  try dsimp only
  try k_fold
  try k_lt ll
  k_steps
  · unfold Hold
    (rename News _ _ _ _ => N8)
    rename many ≤ 1 => hm1
    exact PickP.of (n' := n) (if_pos hm1) (if_pos hm1) (News.get N8 (by k_mem)) (News.get N8 (by k_mem))
  · (rename Fr _ _ _ _ => F8)
    (rename News _ _ _ _ => N8)
    rename ¬ many ≤ 1 => hm1
    have hln : ns.length = vs.length := (PyProof.Rows.IntsAre.length hI).symm
    try unfold Stop
    refine call_len_list (items := vs.toArray) (h3l.at fun o e => F8.keep _ _ e) (by simp; omega) ?_
    simp only [List.size_toArray]
    try dsimp only
    k_steps
    · unfold Hold
      rename (k : Int) < _ => hk1
      have hk2 : k < ns.length := by omega
      exact PickP.of (n' := n) ((if_neg hm1).trans (if_pos hk2)) (if_neg hm1) (News.get N8 (by k_mem)) (News.get N8 (by k_mem))
    · unfold Hold
      rename ¬ (k : Int) < _ => hk1
      have hk2 : ¬ k < ns.length := by omega
      exact PickP.of (n' := n) ((if_neg hm1).trans (if_neg hk2)) (if_neg hm1) (News.get N8 (by k_mem)) (News.get N8 (by k_mem))
end
/-! ## Wk -/
section
theorem words0_Wk : True := by
  w_top off
  k_with_none
  trivial
variable {prog : Program} {w : World} {p : Program} {loose : List Str} {mean : ExcName → Option Value} {mg mb : Str → Option Value} {s : Shared}
noncomputable abbrev wdObj (w : World) (t1 t2 t3 tab told : Nat) (e : Int) (te n : Nat) : Obj := dictOf [fldE w (Str.ofString "table") t1 (.ref tab), fldE w (Str.ofString "end") t2 (.int e te), fldE w (Str.ofString "told") t3 (.ref told)] 3
noncomputable def leftOf (rs : List Row) (e : Int) (p : Int → Bool) : List Row := rs.filter fun r => decide (r.n < e) && !p r.n
noncomputable def leftD (e : Int) (p : Int → Bool) : Dt → Bool
  | .tup [.int n, _, _] => decide (n < e) && !p n
  | _ => true
theorem left_map (rs : List Row) (e : Int) (p : Int → Bool) : (rs.map rowD).filter (leftD e p) = (leftOf rs e p).map rowD := by
  rw [List.filter_map, leftOf]
  rfl
noncomputable def inT (kvs : List (Int × Value)) (n : Int) : Bool := (valueAt kvs n).isSome
inductive LeftP (told : Nat) (ot : Obj) (ds : List Dt) (v : Value) (h : Heap) : Prop
  | mk (e0 : h.get? told = some ot) (a k : Nat) (vs : List Value) (e : v = .ref a) (e1 : h.get? a = some (W.listOf vs.toArray k)) (r : RepAll h vs ds) : LeftP told ot ds v h
theorem words_Wk33 : True := by
  k_with "m_ex" => (first | with_reducible exact exAt0 | with_reducible exact exAt1 | with_reducible exact exAt2 | with_reducible exact exAt3 | with_reducible exact exAt4 | with_reducible exact exAt5 | with_reducible exact exAt6 | with_reducible exact exAt7 | with_reducible exact exAt8 | with_reducible exact exAt9 | with_reducible exact exAt10 | with_reducible exact exAt11 | with_reducible exact exAt12 | with_reducible exact exAt13 | with_reducible exact exAt14 | with_reducible exact exAt15 | with_reducible exact exAt16 | with_reducible exact exAt17 | with_reducible exact exAt18 | with_reducible exact exAt19 | with_reducible exact exAt20 | with_reducible exact exAt21 | with_reducible exact exAt22 | with_reducible exact exAt23)
  k_with "m_enter" => ((case ho => k_is); (case hcd => k_is); (case hro => decide); (case hb => exact BindsTo.of_eq rfl); (case hl => exact locs rfl); (case c2 => exact rfl); (case c3 => exact rfl); (case c4 => exact rfl); (case c5 => decide))
  k_with "m_enterC" => ((case ho => k_is); (case hcd => k_is); (case hro => decide); (case hb => exact BindsTo.of_eq rfl); (case hl => exact rfl); (case hnd => decide +kernel); (case c2 => exact rfl); (case c3 => exact rfl); (case c4 => exact rfl))
  k_with "EndR" => (refine endR (by with_reducible assumption) (by k_asm) ?_)
  k_with "k_mem" => first | with_reducible exact inAt0 | with_reducible exact inAt1 | with_reducible exact inAt2 | with_reducible exact inAt3 | with_reducible exact inAt4 | with_reducible exact inAt5 | with_reducible exact inAt6 | with_reducible exact inAt7 | with_reducible exact inAt8 | with_reducible exact inAt9 | with_reducible exact inAt10 | with_reducible exact inAt11 | with_reducible exact inAt12 | with_reducible exact inAt13 | with_reducible exact inAt14 | with_reducible exact inAt15 | with_reducible exact inAt16 | with_reducible exact inAt17 | with_reducible exact inAt18 | with_reducible exact inAt19 | with_reducible exact inAt20 | with_reducible exact inAt21 | with_reducible exact inAt22 | with_reducible exact inAt23
  k_with "k_ne" => first | with_reducible assumption | exact neSym (by with_reducible assumption) | exact neLt (by with_reducible assumption) | exact neGt (by with_reducible assumption) | fail
  k_with "call builtin:isinstance" => (k_here; (with_reducible show wpAny _ _ (call _ [Value.ref _, Value.type _]) _ _ _); k_dflt (refine kia_one kitx_tuple (by k_in) (by exact kit_base (by k_asm) (by assumption)) (by kit_is) (by kit_nb) ?_; k_whole); intro _)
  k_with "subscriptTail" => (k_here; (with_reducible show wpAny _ _ (subscriptTail _ _ (Value.ref _) (Value.int _ _)) _ _ _); k_dflt (refine item_tupleT (by first | exact isTup_base (by k_asm) (by assumption) | exact isTup_sure (by assumption) (by k_asm) (by k_asm) (by walk_at "m_ex")) (by decide) (by decide) (by rfl) (by rfl) ?_; k_whole))
  k_with "ElEnd" => (refine ElEnd.intro (by k_asm) (by k_asm) (fmc (by k_mem) (by walk_at "m_ex")) ?_)
  k_with "call type:tuple" => (k_here; (with_reducible show wpAny _ _ (call (Value.type _) [Value.ref _]) _ _ _); k_dflt (refine kde_tupleOf (by k_asm) (by k_asm) (by exact News.isList (by k_asm) (by k_mem)) (by (simp only [List.size_toArray]; omega)) (by exact rfl) ?_; k_whole); intro D' h' F' N' l1; (try k_lt l1); (try k_sweep))
  k_with "m_use" => ((case B => k_asm); (case F => k_asm); (case X => k_asm); (case N => k_asm); (case T => k_asm); (case hk => exact rfl); (case hd => exact Nat.le_of_ble_eq_true rfl); (case hu => exact Nat.le_of_ble_eq_true rfl))
  k_with "m_rep" => ((rename News _ _ _ _ => N9); repeat' (first | with_unfolding_all exact RepAll.nil | with_unfolding_all exact Rep.none | with_unfolding_all exact Rep.bool _ | with_unfolding_all exact Rep.int _ _ | with_unfolding_all exact Rep.str _ _ | with_unfolding_all exact Rep.bytes _ _ | with_unfolding_all refine RepAll.cons ?_ ?_ | with_unfolding_all refine Rep.tup (News.get N9 (by k_mem)) ?_))
  k_with "m_repin" => (first | assumption | exact rep_now (by k_asm) (by assumption) | exact Sure.now (by assumption) (by k_asm) (by k_asm) (by walk_at "m_ex"))
  k_with "call builtin:repr" => (k_here; (with_reducible show wpAny _ _ (call (Value.builtin "repr") [_]) _ _ _); (refine repr_L (by k_asm) (by k_asm) (by walk_at "m_repin") (by exact Nat.le_of_ble_eq_true rfl) ?_); (intro h9 tk9 t9 F9 N9); (try dsimp only); (try k_sweep))
  k_with "compareOp Eq str str" => (k_here; first | refine eq_text_t (by assumption) ?_ | refine eq_text_f (by assumption) ?_)
  k_with "compareOp NotEq str str" => (k_here; first | refine ne_text_t (by assumption) ?_ | refine ne_text_f (by assumption) ?_)
  k_with "compareOp Eq" => (k_here; first | (refine eq_key_t (by assumption) (by walk_at "m_repin") (by walk_at "m_repin") (by exact Nat.le_of_ble_eq_true rfl) ?_) | (refine eq_key_f (by assumption) (by walk_at "m_repin") (by walk_at "m_repin") (by exact Nat.le_of_ble_eq_true rfl) ?_))
  k_with "k_inst" => exact inst_base (by k_asm) (by assumption) (by assumption)
  k_with "m_subs" => first | exact List.forall_mem_nil _ | (refine fmc (by k_mem) ?_; walk_at "m_subs")
  k_with "m_avs" => (intro q hq; simpa using hq)
  k_with "m_off1" => first | exact List.not_mem_nil | (refine nmc (by k_ne) ?_; walk_at "m_off1")
  k_with "m_offs" => first | exact List.forall_mem_nil _ | (refine fmc ?_ ?_; (· (dsimp only [List.map_cons, List.map_nil]; walk_at "m_off1")); walk_at "m_offs")
  k_with "m_sa" => first | exact List.forall_mem_nil _ | (refine fmc (by k_mem) ?_; walk_at "m_sa")
  trivial

theorem words_Wk34 : True := by
  k_with "k_all" => first | assumption | exact off_lt (by assumption)
  k_with "eval ListComp" => (k_here; k_dflt (refine comp_K (F₀ := by k_asm) (by with_unfolding_all rfl) (by decide) (by rfl) (by decide) (by rfl) ?_))
  k_with "call ref" => (k_here; (with_reducible show wpAny _ _ (call (Value.ref 131) _ _) _ _ _); refine stop ?_)
  k_with "compareOp NotIn int ref" => (k_here; refine stop ?_)
  trivial
theorem left_does {wk wd told tab td ent t1 t2 t3 tc n u1 u2 u3 te un : Nat} {c e : Int} {xs : Ents} {rs : List Row} {o ot : Obj} {kvs : List (Int × Value)} (w1 : s.heap.get? wk = some (instObj 174 wd)) (w2 : s.heap.get? wd = some (wdObj w u1 u2 u3 tab told e te un)) (w3 : s.heap.get? told = some ot) (hot : ot.IsDictOf (intKind prog w) kvs)
    (h1 : s.heap.get? tab = some (instObj 134 td)) (h2 : s.heap.get? td = some (tdObj w t1 t2 t3 ent c tc n)) (h3 : s.heap.get? ent = some o) (ho : EntIs prog w o xs) (hsm : (ent == sysModules) = false) (hx : EntOk s.heap xs rs) (hg : Good rs c)
    (n1 : told ≠ wk) (n2 : told ≠ wd) (n3 : told ≠ tab) (n4 : told ≠ td) (n5 : told ≠ ent) (hott : offTup ot = true) (hsm2 : (told == sysModules) = false) :
    Does prog w p loose mean mg mb [told] 330 200 s (.call (.ref 164) ⟨[.ref wk], []⟩) (LeftP told ot ((leftOf rs e (inT kvs)).map rowD)) := by
  refine' enterMC (news := [(told, ot)]) (binds := [("self", .ref wk)]) ?hm ?hN ?ho ?hcd ?hro ?hb ?hl ?hnd ?_ ?c2 ?c3 ?c4
  case hm => exact rfl
  case hN => (intro q hq; simp only [List.mem_cons, List.not_mem_nil, or_false] at hq; rcases hq with rfl; exact w3)
  walk_at "m_enterC"
  intro l A₀ base g L' h' tk cells KG hz' F' N' Y' ll B' X' T' Rz hRz
  k_cells Y'; (try dsimp only [List.cons_append, List.nil_append] at N')
  have nt : NoTup [told] s.heap := AvOk.noTup (avCons w3 hott avNil)
  replace w1 := KG _ _ w1 (nmc n1.symm List.not_mem_nil)
  replace w2 := KG _ _ w2 (nmc n2.symm List.not_mem_nil)
  replace h1 := KG _ _ h1 (nmc n3.symm List.not_mem_nil)
  replace h2 := KG _ _ h2 (nmc n4.symm List.not_mem_nil)
  replace h3 := KG _ _ h3 (nmc n5.symm List.not_mem_nil)
  replace hx := hx.keep KG nt
  clear nt w3
  try dsimp only
  try k_fold
  try k_lt ll
  k_steps
  unfold Stop
  (rename Fr _ _ _ _ => F0)
  (rename News _ _ _ _ => N0)
  refine' useX (sub := []) (kp := [(L' + 1, _), (told, _)]) (ex := []) (av := [told]) B' F0 X' N0 T' rfl (List.forall_mem_nil _) ?kp (fun _ _ => List.not_mem_nil) (List.forall_mem_nil _) (List.forall_mem_nil _) (List.forall_mem_nil _) (rows_does (F0.keep _ _ h1) (F0.keep _ _ h2) (F0.keep _ _ h3) ho hsm (hx.grow F0.keep) hg.small hg.num) (Nat.le_of_ble_eq_true rfl) (Nat.le_of_ble_eq_true rfl) ?_
  case kp => walk_at "m_subs"
  intro v9 h9 tk9 ex F9 N9 _ hoff hex _ _ _ q9
  apply cutV (v := v9)
  intro C_ kC_
  obtain ⟨a9, k9, vs9, rfl, e9, r9⟩ := q9
  refine kC_ _ ?_
  clear kC_ C_
  dsimp only [List.cons_append, List.nil_append] at N9
  have hvl := r9.length
  rw [List.length_map] at hvl
  clear F0 N0
  refine CompIn.mk1 [_, _] ex [told] (leftD e (inT kvs)) id rfl F9 N9 rfl (Or.inl ⟨_, e9, rfl, k9, rfl⟩) r9 (by rw [sizeLine_eq]; have := hg.small; omega) hoff (avCons (News.get N9 (by k_mem)) hott avNil) ?ht ?el ?fin
  case ht =>
    intro h i hi v8 C oC mc h2' tk2 ex2 E' _ hv8 rv hxe hoC hmx F8 N8 hex2 hlt
    have hi2 : i < rs.length := by simpa using hi
    simp only [List.getElem_map] at rv ⊢
    generalize rs[i] = r at rv
    refine cutC fun C_ kC_ => ?_
    obtain ⟨b, t, kv, t', rfl, eb, rk⟩ := rowD_open rv
    refine kC_ ?_
    clear kC_ C_
    have St := hxe ▸ Sure.tup F8 (noTup_ns F8.ns) eb
    (try dsimp only [List.cons_append, List.nil_append] at N8)
    (try simp only [AllLt, and_true] at hlt)
    clear F9 N9 eb
    try dsimp only
    k_steps
    · try unfold Stop
      (rename News _ _ _ _ => N7)
      rename r.n < e => hlt9
      cases hb : inT kvs r.n with
      | true =>
        refine kdg_notin (knd := intKind prog w) N7 (by k_mem) hot hsm2 (intKind_is _ _ _ _) true hb ?_
        try dsimp only [Bool.not_true, Bool.not_false]
        k_steps
        unfold Hold
        simp [rowD, leftD, hb]
      | false =>
        refine kdg_notin (knd := intKind prog w) N7 (by k_mem) hot hsm2 (intKind_is _ _ _ _) false hb ?_
        try dsimp only [Bool.not_true, Bool.not_false]
        k_steps
        unfold Hold
        simp [rowD, leftD, hb, hlt9]
    · unfold Hold
      rename ¬ r.n < e => hlt9
      simp [rowD, leftD, hlt9]
  case el =>
    intro h i hi v8 C oC mc h2' tk2 ex2 E' _ hv8 rv hxe hoC hmx F8 N8 hex2 hlt
    (try dsimp only [List.cons_append, List.nil_append] at N8)
    (try simp only [AllLt, and_true] at hlt)
    replace rv := hxe ▸ Sure.rep F8 (noTup_ns F8.ns) rv
    clear F9 N9
    try dsimp only
    k_steps
    unfold Hold
    (rename Fr _ _ _ _ => F7)
    (rename News _ _ _ _ => N7)
    exact Sure.now rv F7 N7 (by walk_at "m_ex")
  case fin =>
    intro D h8 tk8 ys k8 ex8 F8 N8 hlt hex8 hoff8 hS
    (try dsimp only [List.cons_append, List.nil_append] at N8)
    (try simp only [AllLt, and_true] at hlt)
    clear F9 N9
    try dsimp only
    k_steps
    unfold Hold
    (rename Fr _ _ _ _ => F7)
    (rename News _ _ _ _ => N7)
    have h7 := hS.now F7 N7 (by walk_at "m_ex")
    rw [left_map, List.map_id] at h7
    exact ⟨News.get N7 (by k_mem), _, _, _, rfl, News.get N7 (by k_mem), h7⟩
end
/-! ## Nx -/
section
theorem words0_Nx : True := by
  w_top off
  k_with_none
  trivial
variable {prog : Program} {w : World} {p : Program} {loose : List Str} {mean : ExcName → Option Value} {mg mb : Str → Option Value} {s : Shared}
theorem rcAt_list {A : Around} {a b : Addr} {vs us : List Value} {n k : Nat} {ds es : List Dt} (ha : s.heap.get? a = some (W.listOf vs.toArray n)) (hb : s.heap.get? b = some (W.listOf us.toArray k)) (r : RepAll s.heap vs ds) (r' : RepAll s.heap us es) (hu : A.units + deepAll ds + 1 < cLine) :
    SeqAt.RcAt A s (.ref a) (.ref b) (eqvAll ds es) := by
  obtain ⟨e, h1, h2⟩ := range_eqv r r' hu
  rw [← h1]
  by_cases hl : vs.length = us.length
  · have q := SeqAt.RcAt.lists (PySem.IsL.isList ha) (PySem.IsL.isList hb) (by simpa using hl) (A := A) (by omega) h2
    simpa [hl] using q
  · have q := SeqAt.RcAt.lists_lengths (A := A) (PySem.IsL.isList ha) (PySem.IsL.isList hb) (by simpa using hl) (by omega)
    have z : (vs.length == us.length) = false := by simpa using hl
    rw [z, Bool.and_false]
    exact q
theorem eq_list {A : Around} {E : Value → Shared → Prop} {a b : Addr} {va vb : List Value} {n k : Nat} {da db : List Dt} {Q : Value → Shared → Prop} (ha : s.heap.get? a = some (W.listOf va.toArray n)) (hb : s.heap.get? b = some (W.listOf vb.toArray k)) (ra : RepAll s.heap va da) (rb : RepAll s.heap vb db) (hr : A.units + deepAll da + 1 < cLine)
    (h : Q (.bool (eqvAll da db)) s) : wpAny (model prog w) A (compareOp .Eq (.ref a) (.ref b)) Q E s := rcAt_list ha hb ra rb hr prog w E Q h
theorem deep_rows : ∀ rs : List Row, deepAll (rs.map rowD) ≤ 6
  | [] => by simp [deepAll]
  | r :: rs => by
    have h1 := deep_rows rs
    have h2 := (short_k r.k).2.2
    simp only [List.map_cons, deepAll, rowD, deep]
    omega
theorem dict_ne_list {o : Obj} {kvs : List (Int × Value)} {vs : List Value} {n : Nat} (h : o.IsDictOf (intKind prog w) kvs) : o ≠ W.listOf vs.toArray n := fun e => by
  subst e
  refine cutC fun C_ kC_ => ?_
  obtain ⟨es, ep, _, hd, _⟩ := h
  refine kC_ ?_
  clear kC_ C_
  cases hd
theorem dict_off {o : Obj} {kvs : List (Int × Value)} (h : o.IsDictOf (intKind prog w) kvs) : offTup o = true := by
  refine cutC fun C_ kC_ => ?_
  obtain ⟨es, ep, _, hd, _⟩ := h
  refine kC_ ?_
  clear kC_ C_
  obtain ⟨c, d, dt, sl⟩ := o
  cases hd
  cases d <;> cases c <;> rfl
theorem inT_stored {kvs : List (Int × Value)} {k n : Int} {v : Value} : inT (stored kvs k v) n = (decide (n = k) || inT kvs n) := by
  unfold inT
  rw [valueAt_isSome_eq_any, valueAt_isSome_eq_any]
  unfold stored
  split
  · rename_i h
    have e : (kvs.map fun kv => if kv.1 = k then (kv.1, v) else kv).any (fun kv => decide (kv.1 = n)) = kvs.any (fun kv => decide (kv.1 = n)) := by
      rw [List.any_map]
      congr 1
      funext kv
      simp only [Function.comp]
      split <;> rfl
    rw [e]
    by_cases hn : n = k
    · subst hn; simp [h]
    · simp [hn]
  · rw [List.any_append]
    by_cases hn : n = k
    · subst hn; simp
    · have : ¬ k = n := fun q => hn q.symm
      simp [hn, this]
theorem stored_len {kvs : List (Int × Value)} {k : Int} {v : Value} : (stored kvs k v).length ≤ kvs.length + 1 := by
  unfold stored
  split <;> simp
theorem pickF_bound {ns : List Int} {k : Nat} {many : Int} (h : 0 < many) : 0 ≤ pickF ns k many ∧ pickF ns k many < many := by
  unfold pickF
  split
  · omega
  · split
    · exact ⟨Int.fmod_nonneg_of_pos _ h, Int.fmod_lt_of_pos _ h⟩
    · omega
inductive NextP (prog : Program) (w : World) (cho cd told row k : Nat) (ns : List Int) (rs : List Row) (e : Int) (ot : Obj) (kvs : List (Int × Value)) (r : Value) (h : Heap) : Prop
  | no (e0 : leftOf rs e (inT kvs) = []) (hr : r = .none) (e1 : h.get? told = some ot) (e2 : h.get? cho = some (instObj 202 cd)) (p1 p2 ptk pn : Nat) (e3 : h.get? cd = some (cdObj w p1 p2 row k ptk pn)) : NextP prog w cho cd told row k ns rs e ot kvs r h
  | yes (r0 : Row) (ot' : Obj) (kvs' : List (Int × Value)) (p1 p2 ptk pn : Nat) (hr0 : (leftOf rs e (inT kvs))[(pickF ns k (leftOf rs e (inT kvs)).length).toNat]? = some r0) (hr : Rep h r (tailD r0)) (e2 : h.get? cho = some (instObj 202 cd)) (e3 : h.get? cd = some (cdObj w p1 p2 row (pickT k (leftOf rs e (inT kvs)).length) ptk pn))
      (e1 : h.get? told = some ot') (hd : ot'.IsDictOf (intKind prog w) kvs') (hof : offTup ot' = true) (hz : kvs'.length ≤ kvs.length + 1) (hin : ∀ n, inT kvs' n = (decide (n = r0.n) || inT kvs n)) : NextP prog w cho cd told row k ns rs e ot kvs r h
theorem words_Nx35 : True := by
  k_with "m_ex" => (first | with_reducible exact exAt0 | with_reducible exact exAt1 | with_reducible exact exAt2 | with_reducible exact exAt3 | with_reducible exact exAt4 | with_reducible exact exAt5 | with_reducible exact exAt6 | with_reducible exact exAt7 | with_reducible exact exAt8 | with_reducible exact exAt9 | with_reducible exact exAt10 | with_reducible exact exAt11 | with_reducible exact exAt12 | with_reducible exact exAt13 | with_reducible exact exAt14 | with_reducible exact exAt15 | with_reducible exact exAt16 | with_reducible exact exAt17 | with_reducible exact exAt18 | with_reducible exact exAt19 | with_reducible exact exAt20 | with_reducible exact exAt21 | with_reducible exact exAt22 | with_reducible exact exAt23)
  k_with "m_enter" => ((case ho => k_is); (case hcd => k_is); (case hro => decide); (case hb => exact BindsTo.of_eq rfl); (case hl => exact locs rfl); (case c2 => exact rfl); (case c3 => exact rfl); (case c4 => exact rfl); (case c5 => decide))
  k_with "m_enterC" => ((case ho => k_is); (case hcd => k_is); (case hro => decide); (case hb => exact BindsTo.of_eq rfl); (case hl => exact rfl); (case hnd => decide +kernel); (case c2 => exact rfl); (case c3 => exact rfl); (case c4 => exact rfl))
  k_with "EndR" => (refine endR (by with_reducible assumption) (by k_asm) ?_)
  k_with "k_mem" => first | with_reducible exact inAt0 | with_reducible exact inAt1 | with_reducible exact inAt2 | with_reducible exact inAt3 | with_reducible exact inAt4 | with_reducible exact inAt5 | with_reducible exact inAt6 | with_reducible exact inAt7 | with_reducible exact inAt8 | with_reducible exact inAt9 | with_reducible exact inAt10 | with_reducible exact inAt11 | with_reducible exact inAt12 | with_reducible exact inAt13 | with_reducible exact inAt14 | with_reducible exact inAt15 | with_reducible exact inAt16 | with_reducible exact inAt17 | with_reducible exact inAt18 | with_reducible exact inAt19 | with_reducible exact inAt20 | with_reducible exact inAt21 | with_reducible exact inAt22 | with_reducible exact inAt23
  k_with "k_ne" => first | with_reducible assumption | exact neSym (by with_reducible assumption) | exact neLt (by with_reducible assumption) | exact neGt (by with_reducible assumption) | fail
  k_with "call builtin:isinstance" => (k_here; (with_reducible show wpAny _ _ (call _ [Value.ref _, Value.type _]) _ _ _); k_dflt (refine kia_one kitx_tuple (by k_in) (by exact kit_base (by k_asm) (by assumption)) (by kit_is) (by kit_nb) ?_; k_whole); intro _)
  k_with "subscriptTail" => (k_here; (with_reducible show wpAny _ _ (subscriptTail _ _ (Value.ref _) (Value.int _ _)) _ _ _); k_dflt (refine item_tupleT (by first | exact isTup_base (by k_asm) (by assumption) | exact isTup_sure (by assumption) (by k_asm) (by k_asm) (by walk_at "m_ex")) (by decide) (by decide) (by rfl) (by rfl) ?_; k_whole))
  k_with "ElEnd" => (refine ElEnd.intro (by k_asm) (by k_asm) (fmc (by k_mem) (by walk_at "m_ex")) ?_)
  k_with "call type:tuple" => (k_here; (with_reducible show wpAny _ _ (call (Value.type _) [Value.ref _]) _ _ _); k_dflt (refine kde_tupleOf (by k_asm) (by k_asm) (by exact News.isList (by k_asm) (by k_mem)) (by (simp only [List.size_toArray]; omega)) (by exact rfl) ?_; k_whole); intro D' h' F' N' l1; (try k_lt l1); (try k_sweep))
  k_with "m_use" => ((case B => k_asm); (case F => k_asm); (case X => k_asm); (case N => k_asm); (case T => k_asm); (case hk => exact rfl); (case hd => exact Nat.le_of_ble_eq_true rfl); (case hu => exact Nat.le_of_ble_eq_true rfl))
  k_with "m_rep" => ((rename News _ _ _ _ => N9); repeat' (first | with_unfolding_all exact RepAll.nil | with_unfolding_all exact Rep.none | with_unfolding_all exact Rep.bool _ | with_unfolding_all exact Rep.int _ _ | with_unfolding_all exact Rep.str _ _ | with_unfolding_all exact Rep.bytes _ _ | with_unfolding_all refine RepAll.cons ?_ ?_ | with_unfolding_all refine Rep.tup (News.get N9 (by k_mem)) ?_))
  k_with "m_repin" => (first | assumption | exact rep_now (by k_asm) (by assumption) | exact Sure.now (by assumption) (by k_asm) (by k_asm) (by walk_at "m_ex"))
  k_with "call builtin:repr" => (k_here; (with_reducible show wpAny _ _ (call (Value.builtin "repr") [_]) _ _ _); (refine repr_L (by k_asm) (by k_asm) (by walk_at "m_repin") (by exact Nat.le_of_ble_eq_true rfl) ?_); (intro h9 tk9 t9 F9 N9); (try dsimp only); (try k_sweep))
  k_with "compareOp Eq str str" => (k_here; first | refine eq_text_t (by assumption) ?_ | refine eq_text_f (by assumption) ?_)
  k_with "compareOp NotEq str str" => (k_here; first | refine ne_text_t (by assumption) ?_ | refine ne_text_f (by assumption) ?_)
  k_with "compareOp Eq" => (k_here; first | (refine eq_key_t (by assumption) (by walk_at "m_repin") (by walk_at "m_repin") (by exact Nat.le_of_ble_eq_true rfl) ?_) | (refine eq_key_f (by assumption) (by walk_at "m_repin") (by walk_at "m_repin") (by exact Nat.le_of_ble_eq_true rfl) ?_))
  k_with "k_inst" => exact inst_base (by k_asm) (by assumption) (by assumption)
  k_with "m_subs" => first | exact List.forall_mem_nil _ | (refine fmc (by k_mem) ?_; walk_at "m_subs")
  k_with "m_avs" => (intro q hq; simpa using hq)
  k_with "m_off1" => first | exact List.not_mem_nil | (refine nmc (by k_ne) ?_; walk_at "m_off1")
  k_with "m_offs" => first | exact List.forall_mem_nil _ | (refine fmc ?_ ?_; (· (dsimp only [List.map_cons, List.map_nil]; walk_at "m_off1")); walk_at "m_offs")
  k_with "m_sa" => first | exact List.forall_mem_nil _ | (refine fmc (by k_mem) ?_; walk_at "m_sa")
  trivial

local macro_rules | `(tactic| k_lt $h:ident) => `(tactic| (replace $h := ltAll_of $h; dsimp only [List.map] at $h:ident))
theorem words_Nx36 : True := by
  k_with "k_ne" => first | with_reducible assumption | exact neSym (by with_reducible assumption) | exact neLt (by with_reducible assumption) | exact neGt (by with_reducible assumption) | exact ltGt (by with_reducible assumption) (by k_extra "k_mem") | exact ltLt (by with_reducible assumption) (by k_extra "k_mem") | exact ltTr (by with_reducible assumption) (by with_reducible assumption) (by k_extra "k_mem") | exact ltTr' (by with_reducible assumption) (by with_reducible assumption) (by k_extra "k_mem") | exact ltU1 (by with_reducible assumption) (by k_extra "k_mem") | exact ltU2 (by with_reducible assumption) (by k_extra "k_mem") | exact ltU3 (by with_reducible assumption) (by k_extra "k_mem") | exact ltV1 (by with_reducible assumption) (by k_extra "k_mem") | exact ltV2 (by with_reducible assumption) (by k_extra "k_mem") | exact ltV3 (by with_reducible assumption) (by k_extra "k_mem") | exact ne12 | exact ne13 | exact ne23 | exact ne21 | exact ne31 | exact ne32 | exact neN (And.left (by with_reducible assumption)) | exact neSym (And.left (by with_reducible assumption)) | exact neN (And.left (And.right (by with_reducible assumption))) | exact neSym (And.left (And.right (by with_reducible assumption))) | exact neN (And.left (And.right (And.right (by with_reducible assumption)))) | exact neSym (And.left (And.right (And.right (by with_reducible assumption)))) | exact neN (And.left (And.right (And.right (And.right (by with_reducible assumption))))) | exact neSym (And.left (And.right (And.right (And.right (by with_reducible assumption))))) | exact neN (And.left (And.right (And.right (And.right (And.right (by with_reducible assumption)))))) | exact neSym (And.left (And.right (And.right (And.right (And.right (by with_reducible assumption)))))) | exact neN (And.left (And.right (And.right (And.right (And.right (And.right (by with_reducible assumption))))))) | exact neSym (And.left (And.right (And.right (And.right (And.right (And.right (by with_reducible assumption))))))) | exact neN (And.left (And.right (And.right (And.right (And.right (And.right (And.right (by with_reducible assumption)))))))) | exact neSym (And.left (And.right (And.right (And.right (And.right (And.right (And.right (by with_reducible assumption)))))))) | exact neN (And.left (And.right (And.right (And.right (And.right (And.right (And.right (And.right (by with_reducible assumption))))))))) | exact neSym (And.left (And.right (And.right (And.right (And.right (And.right (And.right (And.right (by with_reducible assumption))))))))) | exact neN (And.left (And.right (And.right (And.right (And.right (And.right (And.right (And.right (And.right (by with_reducible assumption)))))))))) | exact neSym (And.left (And.right (And.right (And.right (And.right (And.right (And.right (And.right (And.right (by with_reducible assumption)))))))))) | exact neN (And.left (And.right (And.right (And.right (And.right (And.right (And.right (And.right (And.right (And.right (by with_reducible assumption))))))))))) | exact neSym (And.left (And.right (And.right (And.right (And.right (And.right (And.right (And.right (And.right (And.right (by with_reducible assumption))))))))))) | fail
  k_with "subscriptTail" => (k_here; (with_reducible show wpAny _ _ (subscriptTail _ _ (Value.ref _) (Value.int (pickF _ _ _) _)) _ _ _); refine stop ?_)
  k_with "subscriptTail Name" => (k_here; (with_reducible show wpAny _ _ (subscriptTail _ _ (Value.ref _) (Value.int (pickF _ _ _) _)) _ _ _); refine stop ?_)
  k_with "call builtin:len" => (k_here; (with_reducible show wpAny _ _ (call (Value.builtin "len") [Value.ref la]) _ _ _); refine stop ?_)
  k_with "k_all" => first | assumption | exact off_lt (by assumption)
  k_with "compareOp Eq ref ref" => (k_here; refine stop ?_)
  k_with "call ref" => (k_here; (first | (with_reducible show wpAny _ _ (call (Value.ref 164) _ _) _ _ _) | (with_reducible show wpAny _ _ (call (Value.ref 199) _ _) _ _ _)); refine stop ?_)
  k_with "setItem ref int" => (k_here; refine stop ?_)
  trivial
theorem next_does {wk wd told tab td ent cho cd row t1 t2 t3 tc n u1 u2 u3 te un p1 p2 ptk pn rn : Nat} {c e : Int} {k : Nat} {xs : Ents} {rs : List Row} {o ot : Obj} {kvs : List (Int × Value)} {pv : List Value} {ns : List Int} (w1 : s.heap.get? wk = some (instObj 174 wd)) (w2 : s.heap.get? wd = some (wdObj w u1 u2 u3 tab told e te un)) (w3 : s.heap.get? told = some ot) (hot : ot.IsDictOf (intKind prog w) kvs) (hkz : kvs.length ≤ 40)
    (h1 : s.heap.get? tab = some (instObj 134 td)) (h2 : s.heap.get? td = some (tdObj w t1 t2 t3 ent c tc n)) (h3 : s.heap.get? ent = some o) (ho : EntIs prog w o xs) (hsm : (ent == sysModules) = false) (hx : EntOk s.heap xs rs) (hg : Good rs c)
    (c1 : s.heap.get? cho = some (instObj 202 cd)) (c2 : s.heap.get? cd = some (cdObj w p1 p2 row k ptk pn)) (c3 : s.heap.get? row = some (W.listOf pv.toArray rn)) (hI : IntsAre pv ns) (hpz : pv.length ≤ 40) (hk : k ≤ 40)
    (n1 : told ≠ wk) (n2 : told ≠ wd) (n3 : told ≠ tab) (n4 : told ≠ td) (n5 : told ≠ ent) (hott : offTup ot = true) (hsm2 : (told == sysModules) = false)
    (m1 : cho ≠ cd) (m2 : cho ≠ told) (m3 : cd ≠ told) (m4 : row ≠ cd ∧ row ≠ cho ∧ row ≠ told) (m5 : cho ≠ wk ∧ cho ≠ wd ∧ cho ≠ tab ∧ cho ≠ td ∧ cho ≠ ent) (m6 : cd ≠ wk ∧ cd ≠ wd ∧ cd ≠ tab ∧ cd ≠ td ∧ cd ≠ ent) :
    Does prog w p loose mean mg mb [cho, cd, told] 320 160 s (.call (.ref 171) ⟨[.ref wk, .ref cho], []⟩) (NextP prog w cho cd told row k ns rs e ot kvs) := by
  refine' enterM (news := [(cho, instObj 202 cd), (cd, cdObj w p1 p2 row k ptk pn), (told, ot)]) (binds := [("self", .ref wk), ("choices", .ref cho)]) ?hm ?hN ?ho ?hcd ?hro ?hb ?hl ?_ ?c2 ?c3 ?c4 ?c5
  case hm => exact rfl
  case hN => (intro q hq; simp only [List.mem_cons, List.not_mem_nil, or_false] at hq; rcases hq with rfl | rfl | rfl; exact c1; exact c2; exact w3)
  walk_at "m_enter"
  intro l A₀ base g L' h' KG hz' F' N' ll B' X' T' Rz hRz
  have nt : NoTup [cho, cd, told] s.heap := AvOk.noTup (avCons c1 rfl (avCons c2 rfl (avCons w3 hott avNil)))
  replace w1 := KG _ _ w1 (nmc m5.1.symm (nmc m6.1.symm (nmc n1.symm List.not_mem_nil)))
  replace w2 := KG _ _ w2 (nmc m5.2.1.symm (nmc m6.2.1.symm (nmc n2.symm List.not_mem_nil)))
  replace h1 := KG _ _ h1 (nmc m5.2.2.1.symm (nmc m6.2.2.1.symm (nmc n3.symm List.not_mem_nil)))
  replace h2 := KG _ _ h2 (nmc m5.2.2.2.1.symm (nmc m6.2.2.2.1.symm (nmc n4.symm List.not_mem_nil)))
  replace h3 := KG _ _ h3 (nmc m5.2.2.2.2.symm (nmc m6.2.2.2.2.symm (nmc n5.symm List.not_mem_nil)))
  replace c3 := KG _ _ c3 (nmc m4.2.1 (nmc m4.1 (nmc m4.2.2 List.not_mem_nil)))
  replace hx := hx.keep KG nt
  clear nt c1 c2 w3
  try dsimp only
  try k_fold
  try k_lt ll
  k_steps
  unfold Stop
  (rename Fr _ _ _ _ => F0)
  (rename News _ _ _ _ => N0)
  refine' useX (sub := [(told, _)]) (kp := [(cho, _), (cd, _)]) (ex := []) (av := [cho, cd, told]) B' F0 X' N0 T' rfl ?su ?kp ?km (List.forall_mem_nil _) (List.forall_mem_nil _) ?sa (left_does (F0.keep _ _ w1) (F0.keep _ _ w2) (News.get N0 (by k_mem)) hot (F0.keep _ _ h1) (F0.keep _ _ h2) (F0.keep _ _ h3) ho hsm (hx.grow F0.keep) hg n1 n2 n3 n4 n5 hott hsm2) (Nat.le_of_ble_eq_true rfl) (Nat.le_of_ble_eq_true rfl) ?_
  case su => walk_at "m_subs"
  case kp => walk_at "m_subs"
  case km => walk_at "m_offs"
  case sa => walk_at "m_sa"
  intro v9 h9 tk9 ex F9 N9 _ hoff hex nw _ _ q9
  apply cutV (v := v9)
  intro C_ kC_
  obtain ⟨e9, la, ln, lvs, rfl, el, rl⟩ := q9
  refine kC_ _ ?_
  clear kC_ C_
  replace N9 := News.append (nw told _ (by simp) e9) N9
  dsimp only [List.cons_append, List.nil_append] at N9
  have o1 : ∀ q ∈ ex, q.1 ≠ cho := fun q hq e => hoff q hq (by simp [e])
  have o2 : ∀ q ∈ ex, q.1 ≠ cd := fun q hq e => hoff q hq (by simp [e])
  have o3 : ∀ q ∈ ex, q.1 ≠ told := fun q hq e => hoff q hq (by simp [e])
  have a1 : la ≠ cho := fun e => by have := News.get N9 (show (cho, _) ∈ _ by k_mem); rw [e, this] at el; simp at el
  have a2 : la ≠ cd := fun e => by have := News.get N9 (show (cd, _) ∈ _ by k_mem); rw [e, this] at el; simp at el
  have a3 : la ≠ told := fun e => by rw [e, e9] at el; exact dict_ne_list hot (Option.some.inj el)
  have aL : la ≠ L' := fun e => by
    refine cutC fun C_ kC_ => ?_
    obtain ⟨oL, es, ep, hL, hd, _⟩ := F9.ns
    refine kC_ ?_
    clear kC_ C_
    rw [e, hL] at el
    cases el; cases hd
  have av9 : AvOk [(cho : Nat), cd, told] h9 := avCons (News.get N9 (by k_mem)) rfl (avCons (News.get N9 (by k_mem)) rfl (avCons (News.get N9 (by k_mem)) hott avNil))
  have Sr := hex ▸ Sure.reps F9 (noTup_L F9 av9.noTup) rl
  have Sl : Sure g ex (fun h => h.get? la = some (W.listOf lvs.toArray ln)) := hex ▸ Sure.of F9 fun h'' kk => kk la _ el (nmc aL (nmc a1 (nmc a2 (nmc a3 List.not_mem_nil))))
  have hll := rl.length
  rw [List.length_map] at hll
  have hlz : (leftOf rs e (inT kvs)).length ≤ rs.length := List.length_filter_le _ _
  have hrs := hg.small
  clear F0 N0 hex av9 nw e9 el rl
  try dsimp only
  k_steps
  unfold Stop
  (rename Fr _ _ _ _ => F8)
  (rename News _ _ _ _ => N8)
  refine eq_list (db := []) (Sl.now F8 N8 (by walk_at "m_ex")) (News.get N8 (by k_mem)) (Sr.now F8 N8 (by walk_at "m_ex")) .nil (by have := deep_rows (leftOf rs e (inT kvs)); show (_ : Nat) < 9900; show 160 + 3 + deepAll ((leftOf rs e (inT kvs)).map rowD) + 1 < 9900; omega) ?_
  cases hlf : leftOf rs e (inT kvs) with
  | nil =>
    simp only [List.map_nil, eqvAll]
    try dsimp only
    k_steps
    unfold Hold
    (rename News _ _ _ _ => N7)
    exact .no (by first | exact hlf | trivial | rfl) rfl (News.get N7 (by k_mem)) (News.get N7 (by k_mem)) _ _ _ _ (News.get N7 (by k_mem))
  | cons r1 rest =>
    simp only [List.map_cons, eqvAll]
    try dsimp only
    k_steps
    (rename Fr _ _ _ _ => F7)
    (rename News _ _ _ _ => N7)
    try rw [← hlf]
    try unfold Stop
    refine call_len_list (items := lvs.toArray) ⟨_, Sl.now F7 N7 (by walk_at "m_ex"), rfl, ln, rfl⟩ (by simp; omega) ?_
    simp only [List.size_toArray, hll]
    have hpos : 0 < (leftOf rs e (inT kvs)).length := by rw [hlf]; simp
    try dsimp only
    k_steps
    unfold Stop
    (rename Fr _ _ _ _ => F6)
    (rename News _ _ _ _ => N6)
    refine' useX (sub := [(cho, _), (cd, _)]) (kp := [(told, _)]) (ex := ex) (av := [cho, cd, told]) B' F6 X' N6 T' rfl ?su ?kp ?km ?ex hoff ?sa (pick_does (News.get N6 (by k_mem)) (News.get N6 (by k_mem)) (F6.keep _ _ c3) hI hpz hk (by omega) m1 m4.1 m4.2.1) (Nat.le_of_ble_eq_true rfl) (Nat.le_of_ble_eq_true rfl) ?_
    case su => walk_at "m_subs"
    case kp => walk_at "m_subs"
    case km => walk_at "m_offs"
    case ex => walk_at "m_ex"
    case sa => walk_at "m_sa"
    intro v5 h5 tk5 ex5 F5 N5 hex5 hoff5 hx5 nw _ _ q5
    apply cutV (v := v5)
    intro C_ kC_
    obtain ⟨t5, tk6, p1', p2', pn', rfl, f1, f2⟩ := q5
    refine kC_ _ ?_
    clear kC_ C_
    replace N5 := News.append (nw cho _ (by simp) f1) (News.append (nw cd _ (by simp) f2) N5)
    dsimp only [List.cons_append, List.nil_append] at N5
    replace Sl := Sl.mono hex5
    replace Sr := Sr.mono hex5
    have o4 : ∀ q ∈ ex5, q.1 ≠ cho := fun q hq e => hoff5 q hq (by simp [e])
    have o5 : ∀ q ∈ ex5, q.1 ≠ cd := fun q hq e => hoff5 q hq (by simp [e])
    have o6 : ∀ q ∈ ex5, q.1 ≠ told := fun q hq e => hoff5 q hq (by simp [e])
    obtain ⟨pb0, pb1⟩ := pickF_bound (ns := ns) (k := k) (many := ((leftOf rs e (inT kvs)).length : Int)) (by omega)
    clear F6 N6 nw f1 f2
    try dsimp only
    k_steps
    try unfold Stop
    refine item_K (vs := lvs) (n := ln) (Sl.now F5 N5 (by walk_at "m_ex")) pb0 (by omega) (by omega) fun hj => ?_
    have hj2 : (pickF ns k ((leftOf rs e (inT kvs)).length : Int)).toNat < (leftOf rs e (inT kvs)).length := by omega
    have rv := (Sr.now F5 N5 (by walk_at "m_ex")).get _ hj (by simpa using hj2)
    simp only [List.getElem_map] at rv
    have hr0 := List.getElem?_eq_getElem hj2
    generalize (leftOf rs e (inT kvs))[(pickF ns k ((leftOf rs e (inT kvs)).length : Int)).toNat] = r0 at rv hr0
    refine cutC fun C_ kC_ => ?_
    obtain ⟨b, t, kv, t', hb, eb, rk⟩ := rowD_open rv
    refine kC_ ?_
    clear kC_ C_
    rw [hb]
    have hT := tup_of eb
    have av5 : AvOk [(cho : Nat), cd, told] h5 := avCons (News.get N5 (by k_mem)) rfl (avCons (News.get N5 (by k_mem)) rfl (avCons (News.get N5 (by k_mem)) hott avNil))
    have Sk := hx5 ▸ Sure.rep F5 (noTup_L F5 av5.noTup) rk
    clear av5 hx5 rv eb rk
    try dsimp only
    k_steps
    try unfold Stop
    (rename Fr _ _ _ _ => F4)
    (rename News _ _ _ _ => N4)
    refine' kda_set (knd := intKind prog w) F4 N4 ?U hot (intKind_is _ _ _ _) ?z ?_
    case U => k_updF
    case z => (rw [sizeLine_eq]; omega)
    intro h2' ot' F3 N3 hd'
    clear F4 N4
    try dsimp only at N3 ⊢
    k_steps
    unfold Hold
    (rename Fr _ _ _ _ => F2)
    (rename News _ _ _ _ => N2)
    exact .yes r0 ot' (stored kvs r0.n (.bool true)) _ _ _ _ hr0 (.tup (News.get N2 (by k_mem)) (.cons (Sk.now F2 N2 (by walk_at "m_ex")) (.cons (.int _ _) .nil))) (News.get N2 (by k_mem)) (News.get N2 (by k_mem)) (News.get N2 (by k_mem)) hd' (dict_off hd') stored_len (fun n => inT_stored)
end
/-! ## Lr0 -/
section
theorem words0_Lr0 : True := by
  w_top off
  k_with_none
  trivial
variable {prog : Program} {w : World} {p : Program} {loose : List Str} {mean : ExcName → Option Value} {mg mb : Str → Option Value} {s : Shared}
theorem left_shrink {rs : List Row} {e : Int} {p p' : Int → Bool} {r0 : Row} {i : Nat} (h : (leftOf rs e p)[i]? = some r0) (hp : ∀ n, p' n = (decide (n = r0.n) || p n)) : (leftOf rs e p').length + 1 ≤ (leftOf rs e p).length := by
  have h1 : leftOf rs e p' = (leftOf rs e p).filter fun r => !decide (r.n = r0.n) := by
    unfold leftOf
    rw [List.filter_filter]
    congr 1
    funext r
    rw [hp]
    cases decide (r.n < e) <;> cases decide (r.n = r0.n) <;> cases p r.n <;> rfl
  rw [h1]
  exact List.length_filter_lt_length_iff_exists.mpr ⟨r0, List.mem_of_getElem? h, by simp⟩
theorem left_less {rs rs' : List Row} {c e : Int} {p : Int → Bool} (h : Less c rs rs') (he : e ≤ c) : (leftOf rs' e p).length ≤ (leftOf rs e p).length :=
  h (fun n => decide (n < e) && !p n) fun n hn => by
    have : ¬ n < e := by omega
    simp [this]
theorem left_congr {rs : List Row} {e : Int} {p p' : Int → Bool} (h : ∀ n, p n = p' n) : leftOf rs e p = leftOf rs e p' := by
  rw [show p = p' from funext h]
theorem keys8 {rs : List Row} (h : (rs.map Row.k).Nodup) : rs.length ≤ 8 := by
  have h1 := nodup_nat 8 ((rs.map Row.k).map Fin.val) (by
    refine List.Pairwise.map _ (fun a b hab e => hab (Fin.ext e)) h) (fun x hx => by
      obtain ⟨y, -, rfl⟩ := List.mem_map.mp hx
      exact y.isLt)
  simpa using h1
theorem StAt.keep {ms : List Addr} {h h' : Heap} {src lst tab td ent book : Nat} {c : Int} {rs : List Row} (S : StAt prog w h src lst tab td ent book c rs) (k : Keep ms h h') (nt : NoTup ms h)
    (o1 : src ∉ ms) (o2 : lst ∉ ms) (o3 : tab ∉ ms) (o4 : td ∉ ms) (o5 : ent ∉ ms) (o6 : book ∉ ms) : StAt prog w h' src lst tab td ent book c rs := by
  obtain ⟨⟨b, m, s1, s2, sn, lk, us, ns, e1, e2, hI, hv, hm0, hm1⟩, ⟨t1, t2, t3, tc', n, o, xs, e3, e4, e5, ho, hx⟩, ⟨bs, bn, e6, hb⟩, hg⟩ := S
  exact ⟨⟨b, m, s1, s2, sn, lk, us, ns, k _ _ e1 o1, k _ _ e2 o2, hI, hv, hm0, hm1⟩, ⟨t1, t2, t3, tc', n, o, xs, k _ _ e3 o3, k _ _ e4 o4, k _ _ e5 o5, ho, hx.keep k nt⟩, ⟨bs, bn, k _ _ e6 o6, hb.keep k nt⟩, hg⟩
theorem intsPush {vs : List Value} {ns : List Int} {n : Int} {t : Nat} (h : IntsAre vs ns) : IntsAre (vs ++ [.int n t]) (ns ++ [n]) := by
  induction h with
  | nil => exact .cons _ _ .nil
  | cons a b _ ih => exact .cons _ _ ih
theorem anyPush {tl : List Int} {p p' : Int → Bool} {k : Int} (h : ∀ n, tl.any (· == n) = p n) (h' : ∀ n, p' n = (decide (n = k) || p n)) : ∀ n, (tl ++ [k]).any (· == n) = p' n := fun n => by
  rw [List.any_append, h, h']
  by_cases e : n = k
  · subst e; simp
  · have : ¬ k = n := fun q => e q.symm
    simp [e, this]
theorem norm2 {α : Type} {m' m0 : Str → Option α} {x1 x2 : Str} {v1 v2 : Option α} (h1 : m' x1 = v1) (h2 : m' x2 = v2) (hr : ∀ z, ¬ z = x1 → ¬ z = x2 → m' z = m0 z) :
    m' = fun z => if z = x1 then v1 else if z = x2 then v2 else m0 z := by
  funext z
  by_cases e1 : z = x1
  · subst e1; simpa using h1
  by_cases e2 : z = x2
  · subst e2; simpa [e1] using h2
  simpa [e1, e2] using hr z e1 e2
theorem norm6 {α : Type} {m' m0 : Str → Option α} {x1 x2 x3 x4 x5 x6 : Str} {v1 v2 v3 v4 v5 v6 : Option α} (h1 : m' x1 = v1) (h2 : m' x2 = v2) (h3 : m' x3 = v3) (h4 : m' x4 = v4) (h5 : m' x5 = v5) (h6 : m' x6 = v6) (hr : ∀ z, ¬ z = x1 → ¬ z = x2 → ¬ z = x3 → ¬ z = x4 → ¬ z = x5 → ¬ z = x6 → m' z = m0 z) :
    m' = fun z => if z = x1 then v1 else if z = x2 then v2 else if z = x3 then v3 else if z = x4 then v4 else if z = x5 then v5 else if z = x6 then v6 else m0 z := funext fun z => by
  by_cases e1 : z = x1
  · subst e1; simpa using h1
  by_cases e2 : z = x2
  · subst e2; simpa [e1] using h2
  by_cases e3 : z = x3
  · subst e3; simpa [e1, e2] using h3
  by_cases e4 : z = x4
  · subst e4; simpa [e1, e2, e3] using h4
  by_cases e5 : z = x5
  · subst e5; simpa [e1, e2, e3, e4] using h5
  by_cases e6 : z = x6
  · subst e6; simpa [e1, e2, e3, e4, e5] using h6
  simpa [e1, e2, e3, e4, e5, e6] using hr z e1 e2 e3 e4 e5 e6
theorem forAt_rangeM {A : Around} {E : Value → Shared → Prop} {env : Env} {g : Heap} {target : Expr} {body : List Stmt} {Q : Flow → Shared → Prop} {r : Addr} {t u v' : Tok} {n : Nat} {m : Str → Option Value} (JJ : (Str → Option Value) → Nat → Heap → (Str → Option Value) → Prop) (hh : A.handled = none) (F : Fr g env.locals s.heap m) (hr : IsRange s.heap r 0 (n : Int) 1 t u v') (hsm : Builtin.Range.small 0 (n : Int) 1 = true)
    (h0 : ∀ h, (∀ b o, s.heap.get? b = some o → h.get? b = some o) → JJ m 0 h m) (hJ : ∀ i I h h' m', s.heap.objs.size ≤ I → JJ m i h m' → Keep [I] h h' → NoTup [I] h → JJ m i h' m')
    (hgo : ∀ (s' : Shared) (I : Addr) i v (Q' : Unit → Shared → Prop) (E' : Value → Shared → Prop), IsRangeIter s'.heap I (0 + (i : Nat) * 1) ((n : Int) - (i : Nat)) 1 → Q' () s' → wpAny (model prog w) A (letOwnedTupleGo target (.ref I) v) Q' E' s')
    (step : ∀ i t m₁ h₁ tk₁ I, i < n → JJ m i h₁ m₁ → Fr g env.locals h₁ m₁ → s.heap.objs.size ≤ I → g.get? I = none → (∃ o, h₁.get? I = some o) →
      ∀ s₂ (R : Flow → Shared → Prop), ForNext g env.locals [I] h₁ (JJ m (i + 1)) { s with heap := s₂ } R → ForRet Q R → wpAny (model prog w) A (assign target env (.int i t)) (fun _ s₃ => wpAny (model prog w) A (execs body env) (ForR R) E s₃) E { s with heap := h₁, toks := tk₁ })
    (fin : ∀ h' tk m', Fr g env.locals h' m' → JJ m n h' m' → Q .next { s with heap := h', toks := tk }) :
    wpAny (model prog w) A (pyIter (.ref r)) (fun it s₂ => ForAt prog w A g env target body Q E it s₂) E s := forAt_range (JJ m) hh F hr hsm h0 hJ hgo step fin
/-- the list of what was told -/
inductive TlaAt (h : Heap) (tla i : Nat) (kvs : List (Int × Value)) : Prop
  | mk (tvs : List Value) (tn : Nat) (tl : List Int) (e : h.get? tla = some (W.listOf tvs.toArray tn)) (hI : IntsAre tvs tl) (hz : tl.length ≤ i) (hc : ∀ n, tl.any (· == n) = inT kvs n) : TlaAt h tla i kvs
inductive ToldAt (prog : Program) (w : World) (h : Heap) (toldd tla i : Nat) (e : Int) (rs : List Row) : Prop
  | mk (ot : Obj) (kvs : List (Int × Value)) (e1 : h.get? toldd = some ot) (hd : ot.IsDictOf (intKind prog w) kvs) (hof : offTup ot = true) (hz : kvs.length ≤ i) (T : TlaAt h tla i kvs) (hl : i + (leftOf rs e (inT kvs)).length ≤ 8) : ToldAt prog w h toldd tla i e rs
inductive CdAt (w : World) (h : Heap) (cd row k : Nat) : Prop
  | mk (p1 p2 ptk pn : Nat) (e : h.get? cd = some (cdObj w p1 p2 row k ptk pn)) : CdAt w h cd row k
/-- what holds of the loop's state at a turn -/
structure TurnAt (prog : Program) (w : World) (src lst tab td ent book row cho cd wk wd toldd tla u1 u2 u3 te un rn : Nat) (oT oE oS : Obj) (L : Nat) (e : Int) (pv : List Value) (ns : List Int) (i : Nat) (h : Heap) (c : Int) (rs : List Row) (k : Nat) : Prop where
  st : StAt prog w h src lst tab td ent book c rs
  le : e ≤ c
  td' : ToldAt prog w h toldd tla i e rs
  cho : h.get? cho = some (instObj 202 cd)
  cd : CdAt w h cd row k
  kle : k ≤ i
  row : h.get? row = some (W.listOf pv.toArray rn)
  wk : h.get? wk = some (instObj 174 wd)
  wd : h.get? wd = some (wdObj w u1 u2 u3 tab toldd e te un)
  c3 : h.get? (L + 1 + 1 + 1 : Nat) = some oT
  c2 : h.get? (L + 1 + 1 : Nat) = some oE
  c1 : h.get? (L + 1 : Nat) = some oS
theorem TurnAt.keep {src lst tab td ent book row cho cd wk wd toldd tla u1 u2 u3 te un rn : Nat} {oT oE oS : Obj} {L : Nat} {e : Int} {pv : List Value} {ns : List Int} {i : Nat} {h h' : Heap} {c : Int} {rs : List Row} {k I z : Nat}
    (S : TurnAt prog w src lst tab td ent book row cho cd wk wd toldd tla u1 u2 u3 te un rn oT oE oS L e pv ns i h c rs k) (hk : Keep [(I : Addr)] h h') (nt : NoTup [(I : Addr)] h) (hz : z ≤ I)
    (l : src < z ∧ lst < z ∧ tab < z ∧ td < z ∧ ent < z ∧ book < z ∧ row < z ∧ cho < z ∧ cd < z ∧ wk < z ∧ wd < z ∧ toldd < z ∧ tla < z ∧ L + 1 + 1 + 1 < z) :
    TurnAt prog w src lst tab td ent book row cho cd wk wd toldd tla u1 u2 u3 te un rn oT oE oS L e pv ns i h' c rs k := by
  have off : ∀ {x : Nat}, x < z → (x : Addr) ∉ [(I : Addr)] := fun {x} hx hm => by
    have e : x = I := List.mem_singleton.mp hm
    omega
  refine cutC fun C_ kC_ => ?_
  obtain ⟨l1, l2, l3, l4, l5, l6, l7, l8, l9, l10, l11, l12, l13, l14⟩ := l
  refine kC_ ?_
  clear kC_ C_
  obtain ⟨ot, kvs, a1, a2, a3, a4, ⟨tvs, tn, tl, b1, b2, b3, b4⟩, a5⟩ := S.td'
  obtain ⟨p1, p2, ptk, pn, d1⟩ := S.cd
  exact ⟨S.st.keep hk nt (off l1) (off l2) (off l3) (off l4) (off l5) (off l6), S.le, ⟨ot, kvs, hk _ _ a1 (off l12), a2, a3, a4, ⟨tvs, tn, tl, hk _ _ b1 (off l13), b2, b3, b4⟩, a5⟩, hk _ _ S.cho (off l8), ⟨p1, p2, ptk, pn, hk _ _ d1 (off l9)⟩, S.kle, hk _ _ S.row (off l7), hk _ _ S.wk (off l10), hk _ _ S.wd (off l11), hk _ _ S.c3 (off l14), hk _ _ S.c2 (off (by omega)), hk _ _ S.c1 (off (by omega))⟩
theorem newsOff {g h : Heap} {L a : Addr} {o : Obj} {l : List (Addr × Obj)} (N : News g L h l) (hm : (a, o) ∈ l) : a ≠ L ∧ g.get? a = none := (N _ hm).2
/-- the state between the turns -/
inductive TurnJ (prog : Program) (w : World) (src lst tab td ent book row cho cd wk wd toldd tla u1 u2 u3 te un rn : Nat) (oT oE oS : Obj) (L : Nat) (e : Int) (pv : List Value) (ns : List Int) (M0 : Str → Option Value) (i : Nat) (h : Heap) (m : Str → Option Value) : Prop
  | mk (va vb vc vd : Option Value) (c : Int) (tc2 : Nat) (rs : List Row) (k tk2 : Nat) (hm : m = fun z => if z = Str.ofString "left" then va else if z = Str.ofString "found" then vb else if z = Str.ofString "pick" then vc else if z = Str.ofString "at_choice" then some (.int (k : Nat) tk2) else if z = Str.ofString "coming" then some (.int c tc2) else if z = Str.ofString "turn" then vd else M0 z)
      (S : TurnAt prog w src lst tab td ent book row cho cd wk wd toldd tla u1 u2 u3 te un rn oT oE oS L e pv ns i h c rs k) : TurnJ prog w src lst tab td ent book row cho cd wk wd toldd tla u1 u2 u3 te un rn oT oE oS L e pv ns M0 i h m
/-- the drawn row, as it grows -/
inductive RowJ (src lst : Nat) (A B : List (Addr × Obj)) (i : Nat) (ys : List Value) (news : List (Addr × Obj)) : Prop
  | mk (ms : List Int) (b m : Int) (s1 s2 sn lk : Nat) (us : List Value) (ns : List Int) (hy : IntsAre ys ms) (hl : ms.length = i) (hI : IntsAre us ns) (hv : us.length ≤ 7) (h0 : 0 ≤ m) (h1 : m < 2147483647)
      (e : news = A ++ ((src, W.listOf [.int b s1, .int m s2, .ref lst].toArray sn) :: (lst, W.listOf us.toArray lk) :: B)) : RowJ src lst A B i ys news
theorem newsTail {g h : Heap} {L : Addr} {a : Addr × Obj} {l : List (Addr × Obj)} (N : News g L h (a :: l)) : News g L h l := fun q hq => N q (List.mem_cons_of_mem _ hq)
/-- two ways of an if that meet: a letter for the end -/
noncomputable def JoinR (g : Heap) (L : Addr) (m : Str → Option Value) (news : List (Addr × Obj)) (x y : Str) (a b : Int) (s : Shared) (R : Flow → Shared → Prop) : Prop :=
  ∀ h' tk ta tb m', Fr g L h' m' → News g L h' news → (m' = fun z => if z = x then some (.int a ta) else if z = y then some (.int b tb) else m z) → R .next { s with heap := h', toks := tk }
theorem joinIf {A : Around} {E : Value → Shared → Prop} {g : Heap} {L : Addr} {m : Str → Option Value} {news : List (Addr × Obj)} {st : Stmt} {env : Env} {Q : Flow → Shared → Prop} (_F : Fr g L s.heap m) (_N : News g L s.heap news) (x y : Str) (a b : Int)
    (first : ∀ R : Flow → Shared → Prop, JoinR g L m news x y a b s R → wpAny (model prog w) A (exec st env) (ForR R) E s)
    (rest : ∀ h' tk ta tb, Fr g L h' (fun z => if z = x then some (.int a ta) else if z = y then some (.int b tb) else m z) → News g L h' news → Q .next { s with heap := h', toks := tk }) :
    wpAny (model prog w) A (exec st env) Q E s :=
  wpAny_mono (first (fun f s' => f = .next ∧ Q .next s') fun h' tk ta tb m' F N e => ⟨rfl, rest h' tk ta tb (e ▸ F) N⟩) (fun f s' ⟨e, q⟩ => by subst e; exact q) fun _ _ e => e
theorem pickT_le {k : Nat} {many : Int} : pickT k many ≤ k + 1 := by unfold pickT; split <;> omega
end
/-! ## Lr -/
section
theorem words0_Lr : True := by
  w_top off
  k_with_none
  trivial
variable {prog : Program} {w : World} {p : Program} {loose : List Str} {mean : ExcName → Option Value} {mg mb : Str → Option Value} {s : Shared}
theorem rest_ind {A : Around} {h₀ : Heap} {L : Addr} {m : Str → Option Value} {env : Env} {elt : Expr} {x : Str} {scope : Scope} {cl : List (Str × Addr)} {P : Nat → Value → Prop} {Fin : List Value → List (Addr × Obj) → Prop} (Inv : Nat → List Value → List (Addr × Obj) → Prop) (n : Nat)
    (step : ∀ i ys news v I oI C oC D m₂ h tk (E' : Value → Shared → Prop), i < n → Inv i ys news → P i v → LCg.NsObj oC m₂ → m₂ x = some v → Fr h₀ L h m → News h₀ L h ((I, oI) :: (C, oC) :: (D, LCg.lst ys) :: news) → LCg.Off3 I C D news → ((@Ne Nat I C) ∧ (@Ne Nat I D) ∧ (@Ne Nat C D)) →
      wpAny (model prog w) A (eval elt (compEnvC scope cl C env)) (LCg.CompEnd h₀ L m { s with heap := h, toks := tk } I oI C oC D (LCg.lst ys) (fun _ => True) (fun y news' => Inv (i + 1) (ys ++ [y]) news')) E' { s with heap := h, toks := tk })
    (fin : ∀ ys news, Inv n ys news → Fin ys news) : ∀ k i, i + k = n → ∀ ys news, Inv i ys news → LCg.CompRest prog w A h₀ L m env elt x scope cl s (fun _ => True) P Fin k i ys news
  | 0, i, e, ys, news, h => LCg.CompRest.zero (fin ys news ((show i = n by omega) ▸ h))
  | k + 1, i, e, ys, news, h => LCg.CompRest.succ fun v I oI C oC D m₂ hh tk E' hP hC hx F N off ne =>
      wpAny_mono (step i ys news v I oI C oC D m₂ hh tk E' (by omega) h hP hC hx F N off ne) (fun y s₂ ⟨h', tk', news', e', F', N', o', _, r⟩ => ⟨h', tk', news', e', F', N', o', trivial, rest_ind Inv n step fin k (i + 1) (by omega) _ _ r⟩) fun _ _ q => q
theorem row_kp {a1 a2 a3 a4 a5 a6 s l b1 b2 b3 b4 : Addr × Obj} : ∀ q ∈ [a1, a2, a3, a4, a5, a6, b1, b2, b3, b4], q ∈ [a1, a2, a3, a4, a5, a6, s, l, b1, b2, b3, b4] := (fmc (memAt 0 rfl) (fmc (memAt 1 rfl) (fmc (memAt 2 rfl) (fmc (memAt 3 rfl) (fmc (memAt 4 rfl) (fmc (memAt 5 rfl) (fmc (memAt 8 rfl) (fmc (memAt 9 rfl) (fmc (memAt 10 rfl) (fmc (memAt 11 rfl) (List.forall_mem_nil _)))))))))))
theorem row_km {a1 a2 a3 a4 a5 a6 b1 b2 b3 b4 : Addr × Obj} {s l : Nat} (h1 : @Ne Nat a1.1 s ∧ @Ne Nat a1.1 l) (h2 : @Ne Nat a2.1 s ∧ @Ne Nat a2.1 l) (h3 : @Ne Nat a3.1 s ∧ @Ne Nat a3.1 l) (h4 : @Ne Nat a4.1 s ∧ @Ne Nat a4.1 l) (h5 : @Ne Nat a5.1 s ∧ @Ne Nat a5.1 l) (h6 : @Ne Nat a6.1 s ∧ @Ne Nat a6.1 l) (h7 : @Ne Nat b1.1 s ∧ @Ne Nat b1.1 l) (h8 : @Ne Nat b2.1 s ∧ @Ne Nat b2.1 l) (h9 : @Ne Nat b3.1 s ∧ @Ne Nat b3.1 l) (h10 : @Ne Nat b4.1 s ∧ @Ne Nat b4.1 l) :
    ∀ q ∈ [a1, a2, a3, a4, a5, a6, b1, b2, b3, b4], q.1 ∉ [(s : Addr), l] := by
  intro q hq
  simp only [List.mem_cons, List.not_mem_nil, or_false] at hq
  rcases hq with rfl | rfl | rfl | rfl | rfl | rfl | rfl | rfl | rfl | rfl
  · exact nmc h1.1 (nmc h1.2 List.not_mem_nil)
  · exact nmc h2.1 (nmc h2.2 List.not_mem_nil)
  · exact nmc h3.1 (nmc h3.2 List.not_mem_nil)
  · exact nmc h4.1 (nmc h4.2 List.not_mem_nil)
  · exact nmc h5.1 (nmc h5.2 List.not_mem_nil)
  · exact nmc h6.1 (nmc h6.2 List.not_mem_nil)
  · exact nmc h7.1 (nmc h7.2 List.not_mem_nil)
  · exact nmc h8.1 (nmc h8.2 List.not_mem_nil)
  · exact nmc h9.1 (nmc h9.2 List.not_mem_nil)
  · exact nmc h10.1 (nmc h10.2 List.not_mem_nil)
theorem ne_up1 {n x : Nat} (h : x < n) : @Ne Nat (n + 1) x := by omega
theorem ne_up2 {n x : Nat} (h : x < n) : @Ne Nat (n + 1 + 1) x := by omega
theorem ne_up3 {n x : Nat} (h : x < n) : @Ne Nat (n + 1 + 1 + 1) x := by omega
theorem row_sub {a1 a2 a3 a4 a5 a6 s l b1 b2 b3 b4 : Addr × Obj} {ex : List (Addr × Obj)} : ∀ q ∈ [a1, a2, a3, a4, a5, a6, s, l, b1, b2, b3, b4], q ∈ s :: l :: a1 :: a2 :: a3 :: a4 :: a5 :: a6 :: b1 :: b2 :: b3 :: b4 :: ex := (fmc (memAt 2 rfl) (fmc (memAt 3 rfl) (fmc (memAt 4 rfl) (fmc (memAt 5 rfl) (fmc (memAt 6 rfl) (fmc (memAt 7 rfl) (fmc (memAt 0 rfl) (fmc (memAt 1 rfl) (fmc (memAt 8 rfl) (fmc (memAt 9 rfl) (fmc (memAt 10 rfl) (fmc (memAt 11 rfl) (List.forall_mem_nil _)))))))))))))
theorem tri {x a b c : Nat} (h1 : x ≠ a) (h2 : x ≠ b) (h3 : x ≠ c) : (x : Addr) ∉ [(a : Addr), b, c] := nmc h1 (nmc h2 (nmc h3 List.not_mem_nil))
theorem lowTri {x L a b c : Nat} (hx : x ≤ L + 1 + 1 + 1) (h : L + 1 + 1 + 1 < a ∧ L + 1 + 1 + 1 < b ∧ L + 1 + 1 + 1 < c) : (x : Addr) ∉ [(a : Addr), b, c] :=
  tri (neLt (Nat.lt_of_le_of_lt hx h.1)) (neLt (Nat.lt_of_le_of_lt hx h.2.1)) (neLt (Nat.lt_of_le_of_lt hx h.2.2))
theorem up0 {x L : Nat} (h : x < L) : x ≤ L + 1 + 1 + 1 := by omega
theorem up1 {L : Nat} : L + 1 ≤ L + 1 + 1 + 1 := by omega
theorem up2 {L : Nat} : L + 1 + 1 ≤ L + 1 + 1 + 1 := by omega
theorem sixOff {x L a b c d e f : Nat} (hx : L ≤ x) (h : a < L ∧ b < L ∧ c < L ∧ d < L ∧ e < L ∧ f < L) : (x : Addr) ∉ [(a : Addr), b, c, d, e, f] :=
  nmc (neGt (Nat.lt_of_lt_of_le h.1 hx)) (nmc (neGt (Nat.lt_of_lt_of_le h.2.1 hx)) (nmc (neGt (Nat.lt_of_lt_of_le h.2.2.1 hx)) (nmc (neGt (Nat.lt_of_lt_of_le h.2.2.2.1 hx)) (nmc (neGt (Nat.lt_of_lt_of_le h.2.2.2.2.1 hx)) (nmc (neGt (Nat.lt_of_lt_of_le h.2.2.2.2.2 hx)) List.not_mem_nil)))))
theorem dn3 {L x : Nat} (h : L + 1 + 1 + 1 < x) : L ≤ x := by omega
theorem dn3a {L x : Nat} (h : L + 1 + 1 + 1 < x) : L < x := by omega
theorem dn3b {L x : Nat} (h : L + 1 + 1 + 1 < x) : L + 1 < x := by omega
theorem dn3c {L x : Nat} (h : L + 1 + 1 + 1 < x) : L + 1 + 1 < x := by omega
theorem ge1 {L : Nat} : L ≤ L + 1 := by omega
theorem ge2 {L : Nat} : L ≤ L + 1 + 1 := by omega
theorem ge3 {L : Nat} : L ≤ L + 1 + 1 + 1 := by omega
theorem next_km {D tla wk wd row L src lst tab td ent book cho cd toldd : Nat} {o1 o2 o3 o4 o5 o6 o7 o8 o9 o10 o11 o12 o13 o14 : Obj}
    (hD : cho < D ∧ cd < D ∧ toldd < D) (hT : cho < tla ∧ cd < tla ∧ toldd < tla) (hlow : L + 1 + 1 + 1 < cho ∧ L + 1 + 1 + 1 < cd ∧ L + 1 + 1 + 1 < toldd) (hl : src < L ∧ lst < L ∧ tab < L ∧ td < L ∧ ent < L ∧ book < L)
    (h1 : cho ≠ wk ∧ cho ≠ wd) (h2 : cd ≠ wk ∧ cd ≠ wd) (h3 : toldd ≠ wk ∧ toldd ≠ wd) (h4 : row ≠ cd ∧ row ≠ cho ∧ row ≠ toldd) :
    ∀ q ∈ [((D : Addr), o1), (tla, o2), (wk, o3), (wd, o4), (row, o5), (L + 1 + 1 + 1, o6), (L + 1 + 1, o7), (L + 1, o8), (src, o9), (lst, o10), (tab, o11), (td, o12), (ent, o13), (book, o14)], q.1 ∉ [(cho : Addr), cd, toldd] :=
  (fmc (tri (neGt hD.1) (neGt hD.2.1) (neGt hD.2.2)) (fmc (tri (neGt hT.1) (neGt hT.2.1) (neGt hT.2.2)) (fmc (tri h1.1.symm h2.1.symm h3.1.symm) (fmc (tri h1.2.symm h2.2.symm h3.2.symm) (fmc (tri h4.2.1 h4.1 h4.2.2) (fmc (lowTri (Nat.le_refl _) hlow) (fmc (lowTri up2 hlow) (fmc (lowTri up1 hlow) (fmc (lowTri (up0 hl.1) hlow) (fmc (lowTri (up0 hl.2.1) hlow) (fmc (lowTri (up0 hl.2.2.1) hlow) (fmc (lowTri (up0 hl.2.2.2.1) hlow) (fmc (lowTri (up0 hl.2.2.2.2.1) hlow) (fmc (lowTri (up0 hl.2.2.2.2.2) hlow) (List.forall_mem_nil _)))))))))))))))
theorem deed_km {tla wk wd row L src lst tab td ent book cho cd toldd : Nat} {o1 o2 o3 o4 o5 o6 o7 o8 o9 o10 : Obj}
    (hl : src < L ∧ lst < L ∧ tab < L ∧ td < L ∧ ent < L ∧ book < L) (hlow : L + 1 + 1 + 1 < cho ∧ L + 1 + 1 + 1 < cd ∧ L + 1 + 1 + 1 < toldd) (hlow2 : L + 1 + 1 + 1 < wk ∧ L + 1 + 1 + 1 < wd ∧ L + 1 + 1 + 1 < tla) (hr : src ≠ row ∧ lst ≠ row ∧ tab ≠ row ∧ td ≠ row ∧ ent ≠ row ∧ book ≠ row) :
    ∀ q ∈ [((tla : Addr), o1), (toldd, o2), (wk, o3), (wd, o4), (cho, o5), (cd, o6), (row, o7), (L + 1 + 1 + 1, o8), (L + 1 + 1, o9), (L + 1, o10)], q.1 ∉ [(src : Addr), lst, tab, td, ent, book] :=
  (fmc (sixOff (dn3 hlow2.2.2) hl) (fmc (sixOff (dn3 hlow.2.2) hl) (fmc (sixOff (dn3 hlow2.1) hl) (fmc (sixOff (dn3 hlow2.2.1) hl) (fmc (sixOff (dn3 hlow.1) hl) (fmc (sixOff (dn3 hlow.2.1) hl) (fmc (nmc hr.1.symm (nmc hr.2.1.symm (nmc hr.2.2.1.symm (nmc hr.2.2.2.1.symm (nmc hr.2.2.2.2.1.symm (nmc hr.2.2.2.2.2.symm List.not_mem_nil)))))) (fmc (sixOff ge3 hl) (fmc (sixOff ge2 hl) (fmc (sixOff ge1 hl) (List.forall_mem_nil _)))))))))))
theorem off_I {I tla wk wd row L src lst tab td ent book cho cd toldd : Nat} (hI : tla < I)
    (hz : src < tla ∧ lst < tla ∧ tab < tla ∧ td < tla ∧ ent < tla ∧ book < tla ∧ row < tla ∧ cho < tla ∧ cd < tla ∧ wk < tla ∧ wd < tla ∧ toldd < tla ∧ L + 1 + 1 + 1 < tla) :
    (I : Addr) ∉ L :: [tla, toldd, wk, wd, cho, cd, row, L + 1 + 1 + 1, L + 1 + 1, L + 1, src, lst, tab, td, ent, book] :=
  (nmc (neGt (Nat.lt_trans (dn3a hz.2.2.2.2.2.2.2.2.2.2.2.2) hI)) (nmc (neGt hI) (nmc (neGt (Nat.lt_trans (hz.2.2.2.2.2.2.2.2.2.2.2.1) hI)) (nmc (neGt (Nat.lt_trans (hz.2.2.2.2.2.2.2.2.2.1) hI)) (nmc (neGt (Nat.lt_trans (hz.2.2.2.2.2.2.2.2.2.2.1) hI)) (nmc (neGt (Nat.lt_trans (hz.2.2.2.2.2.2.2.1) hI)) (nmc (neGt (Nat.lt_trans (hz.2.2.2.2.2.2.2.2.1) hI)) (nmc (neGt (Nat.lt_trans (hz.2.2.2.2.2.2.1) hI)) (nmc (neGt (Nat.lt_trans (hz.2.2.2.2.2.2.2.2.2.2.2.2) hI)) (nmc (neGt (Nat.lt_trans (dn3c hz.2.2.2.2.2.2.2.2.2.2.2.2) hI)) (nmc (neGt (Nat.lt_trans (dn3b hz.2.2.2.2.2.2.2.2.2.2.2.2) hI)) (nmc (neGt (Nat.lt_trans (hz.1) hI)) (nmc (neGt (Nat.lt_trans (hz.2.1) hI)) (nmc (neGt (Nat.lt_trans (hz.2.2.1) hI)) (nmc (neGt (Nat.lt_trans (hz.2.2.2.1) hI)) (nmc (neGt (Nat.lt_trans (hz.2.2.2.2.1) hI)) (nmc (neGt (Nat.lt_trans (hz.2.2.2.2.2.1) hI)) List.not_mem_nil)))))))))))))))))
theorem ne_cls {h : Heap} {a b : Addr} {oa ob : Obj} (ha : h.get? a = some oa) (hb : h.get? b = some ob) (hc : oa.cls ≠ ob.cls) : a ≠ b := fun e => hc (by subst e; rw [ha] at hb; cases hb; rfl)
theorem words_Lr37 : True := by
  k_with "m_ex" => (first | with_reducible exact exAt0 | with_reducible exact exAt1 | with_reducible exact exAt2 | with_reducible exact exAt3 | with_reducible exact exAt4 | with_reducible exact exAt5 | with_reducible exact exAt6 | with_reducible exact exAt7 | with_reducible exact exAt8 | with_reducible exact exAt9 | with_reducible exact exAt10 | with_reducible exact exAt11 | with_reducible exact exAt12 | with_reducible exact exAt13 | with_reducible exact exAt14 | with_reducible exact exAt15 | with_reducible exact exAt16 | with_reducible exact exAt17 | with_reducible exact exAt18 | with_reducible exact exAt19 | with_reducible exact exAt20 | with_reducible exact exAt21 | with_reducible exact exAt22 | with_reducible exact exAt23)
  k_with "m_enter" => ((case ho => k_is); (case hcd => k_is); (case hro => decide); (case hb => exact BindsTo.of_eq rfl); (case hl => exact locs rfl); (case c2 => exact rfl); (case c3 => exact rfl); (case c4 => exact rfl); (case c5 => decide))
  k_with "m_enterC" => ((case ho => k_is); (case hcd => k_is); (case hro => decide); (case hb => exact BindsTo.of_eq rfl); (case hl => exact rfl); (case hnd => decide +kernel); (case c2 => exact rfl); (case c3 => exact rfl); (case c4 => exact rfl))
  k_with "EndR" => (refine endR (by with_reducible assumption) (by k_asm) ?_)
  k_with "k_mem" => first | with_reducible exact inAt0 | with_reducible exact inAt1 | with_reducible exact inAt2 | with_reducible exact inAt3 | with_reducible exact inAt4 | with_reducible exact inAt5 | with_reducible exact inAt6 | with_reducible exact inAt7 | with_reducible exact inAt8 | with_reducible exact inAt9 | with_reducible exact inAt10 | with_reducible exact inAt11 | with_reducible exact inAt12 | with_reducible exact inAt13 | with_reducible exact inAt14 | with_reducible exact inAt15 | with_reducible exact inAt16 | with_reducible exact inAt17 | with_reducible exact inAt18 | with_reducible exact inAt19 | with_reducible exact inAt20 | with_reducible exact inAt21 | with_reducible exact inAt22 | with_reducible exact inAt23
  k_with "k_ne" => first | with_reducible assumption | exact neSym (by with_reducible assumption) | exact neLt (by with_reducible assumption) | exact neGt (by with_reducible assumption) | fail
  k_with "call builtin:isinstance" => (k_here; (with_reducible show wpAny _ _ (call _ [Value.ref _, Value.type _]) _ _ _); k_dflt (refine kia_one kitx_tuple (by k_in) (by exact kit_base (by k_asm) (by assumption)) (by kit_is) (by kit_nb) ?_; k_whole); intro _)
  k_with "subscriptTail" => (k_here; (with_reducible show wpAny _ _ (subscriptTail _ _ (Value.ref _) (Value.int _ _)) _ _ _); k_dflt (refine item_tupleT (by first | exact isTup_base (by k_asm) (by assumption) | exact isTup_sure (by assumption) (by k_asm) (by k_asm) (by walk_at "m_ex")) (by decide) (by decide) (by rfl) (by rfl) ?_; k_whole))
  k_with "ElEnd" => (refine ElEnd.intro (by k_asm) (by k_asm) (fmc (by k_mem) (by walk_at "m_ex")) ?_)
  k_with "call type:tuple" => (k_here; (with_reducible show wpAny _ _ (call (Value.type _) [Value.ref _]) _ _ _); k_dflt (refine kde_tupleOf (by k_asm) (by k_asm) (by exact News.isList (by k_asm) (by k_mem)) (by (simp only [List.size_toArray]; omega)) (by exact rfl) ?_; k_whole); intro D' h' F' N' l1; (try k_lt l1); (try k_sweep))
  k_with "m_use" => ((case B => k_asm); (case F => k_asm); (case X => k_asm); (case N => k_asm); (case T => k_asm); (case hk => exact rfl); (case hd => exact Nat.le_of_ble_eq_true rfl); (case hu => exact Nat.le_of_ble_eq_true rfl))
  k_with "m_rep" => ((rename News _ _ _ _ => N9); repeat' (first | with_unfolding_all exact RepAll.nil | with_unfolding_all exact Rep.none | with_unfolding_all exact Rep.bool _ | with_unfolding_all exact Rep.int _ _ | with_unfolding_all exact Rep.str _ _ | with_unfolding_all exact Rep.bytes _ _ | with_unfolding_all refine RepAll.cons ?_ ?_ | with_unfolding_all refine Rep.tup (News.get N9 (by k_mem)) ?_))
  k_with "m_repin" => (first | assumption | exact rep_now (by k_asm) (by assumption) | exact Sure.now (by assumption) (by k_asm) (by k_asm) (by walk_at "m_ex"))
  k_with "call builtin:repr" => (k_here; (with_reducible show wpAny _ _ (call (Value.builtin "repr") [_]) _ _ _); (refine repr_L (by k_asm) (by k_asm) (by walk_at "m_repin") (by exact Nat.le_of_ble_eq_true rfl) ?_); (intro h9 tk9 t9 F9 N9); (try dsimp only); (try k_sweep))
  k_with "compareOp Eq str str" => (k_here; first | refine eq_text_t (by assumption) ?_ | refine eq_text_f (by assumption) ?_)
  k_with "compareOp NotEq str str" => (k_here; first | refine ne_text_t (by assumption) ?_ | refine ne_text_f (by assumption) ?_)
  k_with "compareOp Eq" => (k_here; first | (refine eq_key_t (by assumption) (by walk_at "m_repin") (by walk_at "m_repin") (by exact Nat.le_of_ble_eq_true rfl) ?_) | (refine eq_key_f (by assumption) (by walk_at "m_repin") (by walk_at "m_repin") (by exact Nat.le_of_ble_eq_true rfl) ?_))
  k_with "k_inst" => exact inst_base (by k_asm) (by assumption) (by assumption)
  k_with "m_subs" => first | exact List.forall_mem_nil _ | (refine fmc (by k_mem) ?_; walk_at "m_subs")
  k_with "m_avs" => (intro q hq; simpa using hq)
  k_with "m_off1" => first | exact List.not_mem_nil | (refine nmc (by k_ne) ?_; walk_at "m_off1")
  k_with "m_offs" => first | exact List.forall_mem_nil _ | (refine fmc ?_ ?_; (· (dsimp only [List.map_cons, List.map_nil]; walk_at "m_off1")); walk_at "m_offs")
  k_with "m_sa" => first | exact List.forall_mem_nil _ | (refine fmc (by k_mem) ?_; walk_at "m_sa")
  trivial

local macro_rules | `(tactic| k_lt $h:ident) => `(tactic| (replace $h := ltAll_of $h; dsimp only [List.map] at $h:ident))
theorem words_Lr38 : True := by
  k_with "k_ne" => first | with_reducible assumption | exact neSym (by with_reducible assumption) | exact neLt (by with_reducible assumption) | exact neGt (by with_reducible assumption) | exact ltGt (by with_reducible assumption) (by k_extra "k_mem") | exact ltLt (by with_reducible assumption) (by k_extra "k_mem") | exact ltTr (by with_reducible assumption) (by with_reducible assumption) (by k_extra "k_mem") | exact ltTr' (by with_reducible assumption) (by with_reducible assumption) (by k_extra "k_mem") | exact ltU1 (by with_reducible assumption) (by k_extra "k_mem") | exact ltU2 (by with_reducible assumption) (by k_extra "k_mem") | exact ltU3 (by with_reducible assumption) (by k_extra "k_mem") | exact ltV1 (by with_reducible assumption) (by k_extra "k_mem") | exact ltV2 (by with_reducible assumption) (by k_extra "k_mem") | exact ltV3 (by with_reducible assumption) (by k_extra "k_mem") | exact ne12 | exact ne13 | exact ne23 | exact ne21 | exact ne31 | exact ne32 | exact neN (And.left (by with_reducible assumption)) | exact neSym (And.left (by with_reducible assumption)) | exact neN (And.left (And.right (by with_reducible assumption))) | exact neSym (And.left (And.right (by with_reducible assumption))) | exact neN (And.left (And.right (And.right (by with_reducible assumption)))) | exact neSym (And.left (And.right (And.right (by with_reducible assumption)))) | exact neN (And.left (And.right (And.right (And.right (by with_reducible assumption))))) | exact neSym (And.left (And.right (And.right (And.right (by with_reducible assumption))))) | exact neN (And.left (And.right (And.right (And.right (And.right (by with_reducible assumption)))))) | exact neSym (And.left (And.right (And.right (And.right (And.right (by with_reducible assumption)))))) | exact neN (And.left (And.right (And.right (And.right (And.right (And.right (by with_reducible assumption))))))) | exact neSym (And.left (And.right (And.right (And.right (And.right (And.right (by with_reducible assumption))))))) | exact neN (And.left (And.right (And.right (And.right (And.right (And.right (And.right (by with_reducible assumption)))))))) | exact neSym (And.left (And.right (And.right (And.right (And.right (And.right (And.right (by with_reducible assumption)))))))) | exact neN (And.left (And.right (And.right (And.right (And.right (And.right (And.right (And.right (by with_reducible assumption))))))))) | exact neSym (And.left (And.right (And.right (And.right (And.right (And.right (And.right (And.right (by with_reducible assumption))))))))) | exact neN (And.left (And.right (And.right (And.right (And.right (And.right (And.right (And.right (And.right (by with_reducible assumption)))))))))) | exact neSym (And.left (And.right (And.right (And.right (And.right (And.right (And.right (And.right (And.right (by with_reducible assumption)))))))))) | exact neN (And.left (And.right (And.right (And.right (And.right (And.right (And.right (And.right (And.right (And.right (by with_reducible assumption))))))))))) | exact neSym (And.left (And.right (And.right (And.right (And.right (And.right (And.right (And.right (And.right (And.right (by with_reducible assumption))))))))))) | fail
  k_with "subscriptTail" => (k_here; (with_reducible show wpAny _ _ (subscriptTail _ _ (Value.ref _) (Value.int (pickF _ _ _) _)) _ _ _); refine stop ?_)
  k_with "subscriptTail Name" => (k_here; (with_reducible show wpAny _ _ (subscriptTail _ _ (Value.ref _) (Value.int (pickF _ _ _) _)) _ _ _); refine stop ?_)
  k_with "subscriptTail" => (k_here; (with_reducible show wpAny _ _ (subscriptTail (Expr.Name _ _) _ (Value.ref _) (Value.ref _)) _ _ _); refine stop ?_)
  k_with "subscriptTail Name" => (k_here; (with_reducible show wpAny _ _ (subscriptTail (Expr.Name _ _) _ (Value.ref _) (Value.ref _)) _ _ _); refine stop ?_)
  k_with "subscriptTail Name Slice ref ref" => (k_here; (with_reducible show wpAny _ _ (subscriptTail (Expr.Name _ _) _ (Value.ref _) (Value.ref _)) _ _ _); refine stop ?_)
  k_with "call builtin:len" => (k_here; (with_reducible show wpAny _ _ (call (Value.builtin "len") [Value.ref D]) _ _ _); refine stop ?_)
  k_with "k_all" => first | assumption | exact off_lt (by assumption)
  k_with "exec For Name Call" => (k_here; refine stop ?_)
  k_with "exec For Name Call cons nil" => (k_here; refine stop ?_)
  k_with "call ref" => (k_here; (first | (with_reducible show wpAny _ _ (call (Value.ref 220) _ _) _ _ _) | (with_reducible show wpAny _ _ (call (Value.ref 171) _ _) _ _ _) | (with_reducible show wpAny _ _ (call (Value.ref 265) _ _) _ _ _) | (with_reducible show wpAny _ _ (call (Value.ref 258) _ _) _ _ _)); refine stop ?_)
  k_with "exec If" => (k_here; (fail_if_success (with_reducible show wpAny _ _ _ (ForR _) _ _)); (with_reducible show wpAny _ _ (exec (Stmt.If (Expr.Compare (Expr.Call _ _ _ _) _ _ _) _ _ _) _) _ _ _); refine stop ?_)
  k_with "exec If Compare cons nil" => (k_here; (fail_if_success (with_reducible show wpAny _ _ _ (ForR _) _ _)); (with_reducible show wpAny _ _ (exec (Stmt.If (Expr.Compare (Expr.Call _ _ _ _) _ _ _) _ _ _) _) _ _ _); refine stop ?_)
  k_with "exec Assign cons ListComp" => (k_here; refine stop ?_)
  k_with "CompSrc" => (k_here; refine stop ?_)
  k_with "m_av" => first | exact avNil | (refine avCons (News.get (by k_asm) (by k_mem)) ?_ ?_; (first | rfl | assumption | exact offTup_cell (by assumption) | exact EntIs.off (by assumption)); walk_at "m_av")
  k_with "compareOp Eq ref ref" => (k_here; refine stop ?_)
  k_with "compareOp NotEq ref ref" => (k_here; refine stop ?_)
  k_with "call builtin:list.append" => (k_here; refine stop ?_)
  k_with "pyIter ref" => (k_here; refine stop ?_)
  trivial
theorem loop_does {src lst tab td ent book tc : Nat} {c : Int} {rs : List Row} (hS : StAt prog w s.heap src lst tab td ent book c rs) (hA : Apart src lst tab td ent book) (hsm : (ent == sysModules) = false) :
    Does prog w p loose mean mg mb [src, lst, tab, td, ent, book] 310 120 s (.call (.ref 270) ⟨[.ref src, .ref tab, .ref book, .int c tc], []⟩) (fun r h' => r = .bool true) := by
  obtain ⟨⟨b, m, s1, s2, sn, lk, us, ns, e1, e2, hI, hv, hm0, hm1⟩, ⟨t1, t2, t3, tc', n, o, xs, e3, e4, e5, ho, hx⟩, ⟨bs, bn, e6, hb⟩, hg⟩ := hS
  have hA' := hA
  obtain ⟨a0, a1, a2, a3, a4, b1, b2', b3, b4, c1, c2, c3, d1, d2, f1⟩ := hA
  refine' enterMC (news := [(src, W.listOf [.int b s1, .int m s2, .ref lst].toArray sn), (lst, W.listOf us.toArray lk), (tab, instObj 134 td), (td, tdObj w t1 t2 t3 ent c tc' n), (ent, o), (book, W.listOf bs.toArray bn)]) (binds := [("source", .ref src), ("table", .ref tab), ("book", .ref book), ("coming", .int c tc)]) ?hm ?hN ?ho ?hcd ?hro ?hb ?hl ?hnd ?_ ?c2 ?c3 ?c4
  case hm => exact rfl
  case hN => (intro q hq; simp only [List.mem_cons, List.not_mem_nil, or_false] at hq; rcases hq with rfl | rfl | rfl | rfl | rfl | rfl; exact e1; exact e2; exact e3; exact e4; exact e5; exact e6)
  walk_at "m_enterC"
  intro l A₀ base g L' h' tk cells KG hz' F' N' Y' ll B' X' T' Rz hRz
  k_cells Y'; (try dsimp only [List.cons_append, List.nil_append] at N')
  rename_i oA oB oS dA dB dS
  have nt : NoTup [src, lst, tab, td, ent, book] s.heap := AvOk.noTup (avCons e1 rfl (avCons e2 rfl (avCons e3 rfl (avCons e4 rfl (avCons e5 ho.off (avCons e6 rfl avNil))))))
  replace hx := hx.keep KG nt
  replace hb := hb.keep KG nt
  clear nt e1 e2 e3 e4 e5 e6
  try dsimp only
  try k_fold
  try k_lt ll
  have lc : @LT.lt Nat _ src L' ∧ @LT.lt Nat _ lst L' ∧ @LT.lt Nat _ tab L' ∧ @LT.lt Nat _ td L' ∧ @LT.lt Nat _ ent L' ∧ @LT.lt Nat _ book L' := ⟨ll _ (memAt 0 rfl), ll _ (memAt 1 rfl), ll _ (memAt 2 rfl), ll _ (memAt 3 rfl), ll _ (memAt 4 rfl), ll _ (memAt 5 rfl)⟩
  k_steps
  unfold Stop
  (rename Fr _ _ _ _ => F0)
  (rename News _ _ _ _ => N0)
  refine LCg.Assign_ListComp_U (F₀ := F0) (by rfl) (by with_unfolding_all rfl) (by with_unfolding_all rfl) (by decide) (by rfl) (by decide) (by rfl) (by rfl) (by rfl) ?_
  try dsimp only
  k_steps
  unfold Stop
  (rename Fr _ _ _ _ => F1)
  (rename News _ _ _ _ => N1)
  refine LCg.CompSrc.range (n := 8) rfl F1 N1 (by assumption) (by first | decide | rfl) (by first | rfl | decide) (by rw [sizeLine_eq]; omega) ?_
  intro g'
  refine rest_ind (Inv := RowJ src lst [(L' + 1 + 1 + 1, _), (L' + 1 + 1, _), (L' + 1, _)] [(tab, instObj 134 td), (td, tdObj w t1 t2 t3 ent c tc' n), (ent, o), (book, W.listOf bs.toArray bn)]) 8 ?step ?fin 8 0 rfl _ _ ⟨[], _, _, _, _, _, _, _, _, .nil, rfl, hI, hv, hm0, hm1, rfl⟩
  case step =>
    rintro i ys news vv I oI C oC D mx hh tkx E9 hin ⟨ms, b2, m2, s1', s2', sn', lk', us', ns', hy, hyl, hI', hv', hm0', hm1', rfl⟩ hP hC hxv F2 N2 off ne
    dsimp only [List.cons_append, List.nil_append] at off N2
    (try simp only [LCg.Off3, and_true] at off)
    try dsimp only
    k_steps
    unfold Stop
    (rename Fr _ _ _ _ => F3)
    (rename News _ _ _ _ => N3)
    refine' useX (sub := [(src, _), (lst, _)]) (kp := [(I, _), (C, _), (D, _), (L' + 1 + 1 + 1, _), (L' + 1 + 1, _), (L' + 1, _), (tab, _), (td, _), (ent, _), (book, _)]) (ex := []) (av := [src, lst]) B' F3 X' N3 T' rfl ?su ?kp ?km (List.forall_mem_nil _) (List.forall_mem_nil _) ?sa (take_does ⟨_, _, _, _, _, _, _, _, News.get N3 (by k_mem), News.get N3 (by k_mem), hI', hv', hm0', hm1'⟩ a0 (by decide) (by decide)) (Nat.le_of_ble_eq_true rfl) (Nat.le_of_ble_eq_true rfl) ?_
    case su => walk_at "m_subs"
    case kp => exact row_kp
    case km =>
      have ⟨_, _, _, ⟨p1, p2, p3⟩, ⟨q1, q2, q3⟩, _⟩ := off
      exact row_km ⟨p1.symm, q1.symm⟩ ⟨p2.symm, q2.symm⟩ ⟨p3.symm, q3.symm⟩ ⟨ne_up3 lc.1, ne_up3 lc.2.1⟩ ⟨ne_up2 lc.1, ne_up2 lc.2.1⟩ ⟨ne_up1 lc.1, ne_up1 lc.2.1⟩ ⟨a1.symm, b1.symm⟩ ⟨a2.symm, b2'.symm⟩ ⟨a3.symm, b3.symm⟩ ⟨a4.symm, b4.symm⟩
    case sa => exact fun q hq => hq
    intro v9 h9 tk9 ex F9 N9 _ hoff _ nw _ _ q9
    apply cutV (v := v9)
    intro C_ kC_
    obtain ⟨⟨b8, m8, s8, s8', sn8, lk8, us8, ns8, e1, e2, hI8, hv8, hm8, hm8'⟩, dd, td9, rfl, hd0, hd1⟩ := q9
    refine kC_ _ ?_
    clear kC_ C_
    have N8 := News.append (nw src _ (by simp) e1) (News.append (nw lst _ (by simp) e2) N9)
    dsimp only [List.cons_append, List.nil_append] at N8
    try dsimp only
    refine LCg.CompEnd.intro F9 N8 _ row_sub ?off trivial ⟨ms ++ [dd], _, _, _, _, _, _, _, _, intsPush hy, by simp [hyl], hI8, hv8, hm8, hm8', rfl⟩
    case off => simp only [LCg.Off3, and_true]; exact off
  case fin =>
    rintro ys news ⟨ms, b2, m2, s1', s2', sn', lk', us', ns', hy, hyl, hI', hv', hm0', hm1', rfl⟩
    clear hI hv hm0 hm1
    dsimp only [List.cons_append, List.nil_append]
    k_steps
    rename_i row _ _ k1 cho cd _ k2 k3 gX1 LX1 _ BX1 XX1 TX1 qk0 ek0 tkc _ _ fX1 nX1 _ _ wk wd _ k4 k5 gX2 LX2 _ BX2 XX2 TX2 tkw _ _ toldd _ ot hlo _ _ hdi _ k6 _ fX2 nX2 _ _ tla _ k7 tpl _ k8 _ _ _ _ oE dE _ oT dT _ _ _
    clear fX1 nX1 fX2 nX2 BX1 XX1 TX1 BX2 XX2 TX2
    unfold Stop
    (rename Fr _ _ _ _ => F0)
    (rename News _ _ _ _ => N0)
    refine for_K F0 ?_
    try dsimp only
    k_steps
    try unfold Stop
    (rename Fr _ _ _ _ => F9)
    (rename News _ _ _ _ => N9)
    have hsz : @LT.lt Nat _ src tla ∧ @LT.lt Nat _ lst tla ∧ @LT.lt Nat _ tab tla ∧ @LT.lt Nat _ td tla ∧ @LT.lt Nat _ ent tla ∧ @LT.lt Nat _ book tla ∧ @LT.lt Nat _ row tla ∧ @LT.lt Nat _ cho tla ∧ @LT.lt Nat _ cd tla ∧ @LT.lt Nat _ wk tla ∧ @LT.lt Nat _ wd tla ∧ @LT.lt Nat _ toldd tla ∧ @LT.lt Nat _ (L' + 1 + 1 + 1) tla := by
      (repeat' refine And.intro ?_ ?_) <;> exact k7 _ (by k_mem)
    have hne : @Ne Nat toldd wk ∧ @Ne Nat toldd wd ∧ @Ne Nat toldd tab ∧ @Ne Nat toldd td ∧ @Ne Nat toldd ent ∧ @Ne Nat cho cd ∧ @Ne Nat cho toldd ∧ @Ne Nat cd toldd ∧ (@Ne Nat row cd ∧ @Ne Nat row cho ∧ @Ne Nat row toldd) ∧ (@Ne Nat cho wk ∧ @Ne Nat cho wd ∧ @Ne Nat cho tab ∧ @Ne Nat cho td ∧ @Ne Nat cho ent) ∧ (@Ne Nat cd wk ∧ @Ne Nat cd wd ∧ @Ne Nat cd tab ∧ @Ne Nat cd td ∧ @Ne Nat cd ent) := by
      clear k8 hsz
      (repeat' refine And.intro ?_ ?_) <;> k_ne
    have hlow : (@LT.lt Nat _ (L' + 1 + 1 + 1) cho ∧ @LT.lt Nat _ (L' + 1 + 1 + 1) cd ∧ @LT.lt Nat _ (L' + 1 + 1 + 1) toldd) ∧ (@LT.lt Nat _ (L' + 1 + 1 + 1) wk ∧ @LT.lt Nat _ (L' + 1 + 1 + 1) wd ∧ @LT.lt Nat _ (L' + 1 + 1 + 1) tla) := by
      clear hne k8
      (repeat' refine And.intro ?_ ?_) <;> first | exact k2 _ (by k_mem) | exact k4 _ (by k_mem) | exact k6 _ (by k_mem) | exact k7 _ (by k_mem) | exact Nat.lt_trans (k2 _ (by k_mem)) k3 | exact Nat.lt_trans (k4 _ (by k_mem)) k5
    have hys : ys.length ≤ 40 := by
      have := PyProof.Rows.IntsAre.length hy
      clear k1 k2 k3 k4 k5 k6 k7 k8
      omega
    refine forAt_rangeM (n := 9) (g := g) (JJ := TurnJ prog w src lst tab td ent book row cho cd wk wd toldd tla (tkw + 1) (tkw + 2 + 1 + 1) (tkw + 2 + 1 + 2 + 1) tc' 3 ys.length oT oE oS L' c ys ms) rfl F9 (by assumption) (by decide) ?h0 ?hJ (fun _ _ _ _ _ _ _ h => wpAny_pure h) ?step9 ?fin9
    case h0 =>
      intro h kp
      refine ⟨none, none, none, none, c, tc, rs, 0, _, norm6 rfl rfl rfl rfl rfl rfl (fun z _ _ _ _ _ _ => rfl), ?_⟩
      exact ⟨⟨⟨b2, m2, s1', s2', sn', lk', us', ns', kp _ _ (News.get N9 (by k_mem)), kp _ _ (News.get N9 (by k_mem)), hI', hv', hm0', hm1'⟩, ⟨t1, t2, t3, tc', n, o, xs, kp _ _ (News.get N9 (by k_mem)), kp _ _ (News.get N9 (by k_mem)), kp _ _ (News.get N9 (by k_mem)), ho, hx.grow fun a o e => kp _ _ (F9.keep _ _ e)⟩, ⟨bs, bn, kp _ _ (News.get N9 (by k_mem)), hb.grow fun a o e => kp _ _ (F9.keep _ _ e)⟩, hg⟩, Int.le_refl _,
        ⟨ot, [], kp _ _ (News.get N9 (by k_mem)), hdi, dict_off hdi, Nat.le_refl _, ⟨[], 0, [], kp _ _ (News.get N9 (by k_mem)), .nil, Nat.le_refl _, fun n => by simp [inT, valueAt]⟩, by
          have h1 : (leftOf rs c (inT [])).length ≤ rs.length := List.length_filter_le _ _
          have h2 := keys8 hg.keys
          omega⟩,
        kp _ _ (News.get N9 (by k_mem)), ⟨_, _, _, 0, kp _ _ (News.get N9 (by k_mem))⟩, Nat.le_refl _, kp _ _ (News.get N9 (by k_mem)), kp _ _ (News.get N9 (by k_mem)), kp _ _ (News.get N9 (by k_mem)), kp _ _ (News.get N9 (by k_mem)), kp _ _ (News.get N9 (by k_mem)), kp _ _ (News.get N9 (by k_mem))⟩
    case hJ =>
      rintro i I h h2 mm hI ⟨va, vb, vc, vd, c', tc2, rs', k, tk2, hm, S⟩ kp nt
      exact ⟨va, vb, vc, vd, c', tc2, rs', k, tk2, hm, S.keep (z := tla + 1) kp nt (Nat.lt_of_lt_of_le (Heap.lt_size (News.get N9 (show (tla, _) ∈ _ by k_mem))) hI) (by clear k1 k2 k3 k4 k5 k6 k7 k8; omega)⟩
    case fin9 =>
      rintro h5 tk5 m5 F5 ⟨va, vb, vc, vd, c', tc2, rs', k, tk2, hm, S⟩
      obtain ⟨ot', kvs, _, _, _, _, _, hle⟩ := S.td'
      exfalso
      clear k1 k2 k3 k4 k5 k6 k7 k8
      omega
    case step9 =>
      rintro i ti m₁ h₁ tk₁ I hi ⟨va, vb, vc, vd, c', tc2, rs', k, tk2, rfl, S⟩ F₁ hI hgI hoI s₂ R9 hN9 hR9
      replace F₁ : Fr g L' h₁ _ := F₁
      have htI : @LT.lt Nat _ tla I := Nat.lt_of_lt_of_le (Heap.lt_size (News.get N9 (show (tla, _) ∈ _ by k_mem))) hI
      obtain ⟨⟨⟨b3, m3, q1, q2, q3, q4, us3, ns3, e1, e2, hI3, hv3, hm3, hm3'⟩, ⟨y1, y2, y3, yc, yn, oe, xs3, e3, e4, e5, ho3, hx3⟩, ⟨bs3, bn3, e6, hb3⟩, hg3⟩, hec, ⟨ot3, kvs, e7, hd3, hof3, hkz3, ⟨tvs, tn, tl, e8, hTI, htz, hcont⟩, hle3⟩, e9, ⟨p1, p2, ptk, pn, e10⟩, hk3, e11, e12, e13, e14, e15, e16⟩ := S
      obtain ⟨ex1, N1, hoff1, hex1⟩ := led (s := { s with heap := h₁ }) F₁ [(tla, _), (toldd, _), (wk, _), (wd, _), (cho, _), (cd, _), (row, _), (L' + 1 + 1 + 1, _), (L' + 1 + 1, _), (L' + 1, _), (src, _), (lst, _), (tab, _), (td, _), (ent, _), (book, _)] [tla, toldd, wk, wd, cho, cd, row, L' + 1 + 1 + 1, L' + 1 + 1, L' + 1, src, lst, tab, td, ent, book] (fmc ⟨e8, newsOff (a := tla) N9 (by k_mem)⟩ (fmc ⟨e7, newsOff (a := toldd) N9 (by k_mem)⟩ (fmc ⟨e12, newsOff (a := wk) N9 (by k_mem)⟩ (fmc ⟨e13, newsOff (a := wd) N9 (by k_mem)⟩ (fmc ⟨e9, newsOff (a := cho) N9 (by k_mem)⟩ (fmc ⟨e10, newsOff (a := cd) N9 (by k_mem)⟩ (fmc ⟨e11, newsOff (a := row) N9 (by k_mem)⟩ (fmc ⟨e14, newsOff (a := L' + 1 + 1 + 1) N9 (by k_mem)⟩ (fmc ⟨e15, newsOff (a := L' + 1 + 1) N9 (by k_mem)⟩ (fmc ⟨e16, newsOff (a := L' + 1) N9 (by k_mem)⟩ (fmc ⟨e1, newsOff (a := src) N9 (by k_mem)⟩ (fmc ⟨e2, newsOff (a := lst) N9 (by k_mem)⟩ (fmc ⟨e3, newsOff (a := tab) N9 (by k_mem)⟩ (fmc ⟨e4, newsOff (a := td) N9 (by k_mem)⟩ (fmc ⟨e5, newsOff (a := ent) N9 (by k_mem)⟩ (fmc ⟨e6, newsOff (a := book) N9 (by k_mem)⟩ (List.forall_mem_nil _)))))))))))))))))
      dsimp only [List.cons_append, List.nil_append] at N1
      have nt1 := noTup_L F₁ (AvOk.noTup (avCons e8 rfl (avCons e7 hof3 (avCons e12 rfl (avCons e13 rfl (avCons e9 rfl (avCons e10 rfl (avCons e11 rfl (avCons e14 (offTup_cell dT) (avCons e15 (offTup_cell dE) (avCons e16 (offTup_cell dS) (avCons e1 rfl (avCons e2 rfl (avCons e3 rfl (avCons e4 rfl (avCons e5 ho3.off (avCons e6 rfl avNil)))))))))))))))))
      have Sx := hex1 ▸ Sure.ents F₁ nt1 hx3
      have Sb := hex1 ▸ Sure.reps F₁ nt1 hb3
      have kf : ∀ {h' : Heap} {m' : Str → Option Value} {news : List (Addr × Obj)}, Fr g L' h' m' → News g L' h' news → (∀ q ∈ ex1, q ∈ news) → ∀ b, b ∉ L' :: [tla, toldd, wk, wd, cho, cd, row, L' + 1 + 1 + 1, L' + 1 + 1, L' + 1, src, lst, tab, td, ent, book] → ∀ o, h₁.get? b = some o → h'.get? b = some o := fun F N hs => keep_fp F₁ hex1 F N hs
      have hbl := hb3.length
      rw [List.length_map] at hbl
      have oALL : ∀ q ∈ ex1, q.1 ≠ tla ∧ q.1 ≠ toldd ∧ q.1 ≠ wk ∧ q.1 ≠ wd ∧ q.1 ≠ cho ∧ q.1 ≠ cd ∧ q.1 ≠ row ∧ q.1 ≠ L' + 1 + 1 + 1 ∧ q.1 ≠ L' + 1 + 1 ∧ q.1 ≠ L' + 1 ∧ q.1 ≠ src ∧ q.1 ≠ lst ∧ q.1 ≠ tab ∧ q.1 ≠ td ∧ q.1 ≠ ent ∧ q.1 ≠ book := fun q hq => by simpa only [List.mem_cons, List.not_mem_nil, or_false, not_or] using hoff1 q hq
      clear F9 N9 hex1 nt1 hx3 hb3 e1 e2 e3 e4 e5 e6 e7 e8 e9 e10 e11 e12 e13 e14 e15 e16 qk ek qk0 ek0
      try dsimp only
      k_steps
      unfold Stop
      (rename Fr _ _ _ _ => F2)
      (rename News _ _ _ _ => N2)
      refine compA_K (F₀ := F2) (by rfl) (by with_unfolding_all rfl) (by with_unfolding_all rfl) (by decide) (by rfl) (by decide) (by rfl) (by rfl) (by rfl) ?_
      try dsimp only
      k_steps
      refine CompIn.mk1 [_, _, _, _, _, _, _, _, _, _, _, _, _, _, _, _] ex1 [tla, toldd, wk, wd, cho, cd, row, L' + 1 + 1 + 1, L' + 1 + 1, L' + 1, src, lst, tab, td, ent, book] (leftD c (fun n => tl.any (· == n))) id rfl F2 N2 rfl (Or.inl (News.isList N2 (by k_mem))) (Sb.now F2 N2 (by walk_at "m_ex")) (by rw [sizeLine_eq]; have := hg3.small; omega) hoff1 ?av ?ht ?el ?fin2
      case av => walk_at "m_av"
      case ht =>
        intro h j hj v8 C oC mc h2' tk2' ex2 E' _ hv8 rv hxe hoC hmx F8 N8 hex2 hlt
        have hj2 : j < rs'.length := by simpa using hj
        simp only [List.getElem_map] at rv ⊢
        generalize rs'[j] = r at rv
        refine cutC fun C_ kC_ => ?_
        obtain ⟨b, t, kv, t', rfl, eb, rk⟩ := rowD_open rv
        refine kC_ ?_
        clear kC_ C_
        have St := hxe ▸ Sure.tup F8 (noTup_ns F8.ns) eb
        (try dsimp only [List.cons_append, List.nil_append] at N8)
        (try simp only [AllLt, and_true] at hlt)
        clear F2 N2 eb
        try dsimp only
        k_steps
        · unfold Hold
          rename (tl.any _) = true => hb
          simp only [rowD, leftD, hb, Bool.not_true, Bool.and_false]
        · unfold Hold
          rename (tl.any _) = false => hb
          rename r.n < c => hlt9
          simp only [rowD, leftD, hb, hlt9, Bool.not_false, Bool.and_true, decide_true]
        · unfold Hold
          rename ¬ r.n < c => hlt9
          simp only [rowD, leftD, hlt9, decide_false, Bool.false_and]
      case el =>
        intro h j hj v8 C oC mc h2' tk2' ex2 E' _ hv8 rv hxe hoC hmx F8 N8 hex2 hlt
        (try dsimp only [List.cons_append, List.nil_append] at N8)
        (try simp only [AllLt, and_true] at hlt)
        replace rv := hxe ▸ Sure.rep F8 (noTup_ns F8.ns) rv
        clear F2 N2
        try dsimp only
        k_steps
        unfold Hold
        (rename Fr _ _ _ _ => F7)
        (rename News _ _ _ _ => N7)
        exact Sure.now rv F7 N7 (by walk_at "m_ex")
      case fin2 =>
        intro D h8 tk8 ls lk8 ex2 F8 N8 hlt8 hex2 hoff2 Sl
        (try dsimp only [List.cons_append, List.nil_append] at N8)
        (try simp only [AllLt, and_true] at hlt8)
        rw [left_map, List.map_id, left_congr hcont] at Sl
        have hll := (Sl.now F8 N8 (by walk_at "m_ex")).length
        rw [List.length_map] at hll
        replace Sx := Sx.mono hex2
        replace Sb := Sb.mono hex2
        clear F2 N2
        try dsimp only
        k_steps
        unfold Stop
        (rename Fr _ _ _ _ => F0)
        (rename News _ _ _ _ => N0)
        refine' useX (sub := [(cho, _), (cd, _), (toldd, _)]) (kp := [(D, _), (tla, _), (wk, _), (wd, _), (row, _), (L' + 1 + 1 + 1, _), (L' + 1 + 1, _), (L' + 1, _), (src, _), (lst, _), (tab, _), (td, _), (ent, _), (book, _)]) (ex := ex2) (av := [tla, toldd, wk, wd, cho, cd, row, L' + 1 + 1 + 1, L' + 1 + 1, L' + 1, src, lst, tab, td, ent, book]) B' F0 X' N0 T' rfl ?su ?kp ?km ?ex hoff2 ?sa (next_does (n := 0) (un := 0) (pn := 0) (News.get N0 (by k_mem)) (News.get N0 (by k_mem)) (News.get N0 (by k_mem)) hd3 (by omega) (News.get N0 (by k_mem)) (News.get N0 (by k_mem)) (News.get N0 (by k_mem)) ho3 hsm (Sx.now F0 N0 (by walk_at "m_ex")) hg3 (News.get N0 (by k_mem)) (News.get N0 (by k_mem)) (News.get N0 (by k_mem)) hy hys (by omega) hne.1 hne.2.1 hne.2.2.1 hne.2.2.2.1 hne.2.2.2.2.1 hof3 hlo hne.2.2.2.2.2.1 hne.2.2.2.2.2.2.1 hne.2.2.2.2.2.2.2.1 hne.2.2.2.2.2.2.2.2.1 hne.2.2.2.2.2.2.2.2.2.1 hne.2.2.2.2.2.2.2.2.2.2) (Nat.le_of_ble_eq_true rfl) (Nat.le_of_ble_eq_true rfl) ?_
        case su => walk_at "m_subs"
        case kp => walk_at "m_subs"
        case km => exact next_km ⟨hlt8.2.2.2.2.1, hlt8.2.2.2.2.2.1, hlt8.2.1⟩ ⟨hsz.2.2.2.2.2.2.2.1, hsz.2.2.2.2.2.2.2.2.1, hsz.2.2.2.2.2.2.2.2.2.2.2.1⟩ hlow.1 ⟨lc.1, lc.2.1, lc.2.2.1, lc.2.2.2.1, lc.2.2.2.2.1, lc.2.2.2.2.2⟩ ⟨hne.2.2.2.2.2.2.2.2.2.1.1, hne.2.2.2.2.2.2.2.2.2.1.2.1⟩ ⟨hne.2.2.2.2.2.2.2.2.2.2.1, hne.2.2.2.2.2.2.2.2.2.2.2.1⟩ ⟨hne.1, hne.2.1⟩ hne.2.2.2.2.2.2.2.2.1
        case ex => walk_at "m_ex"
        case sa => walk_at "m_sa"
        intro v7 h7 tk7 ex3 F7 N7 hex3 hoff3 hx7 nw _ _ q7
        dsimp only at q7
        replace Sl := Sl.mono hex3
        replace Sx := Sx.mono hex3
        replace Sb := Sb.mono hex3
        clear F0 N0
        rcases q7 with ⟨hl0, rfl, f1, f2, p1', p2', ptk', pn', f3⟩ | ⟨r0, ot4, kvs4, p1', p2', ptk', pn', hr0, rk, f2, f3, f1, hd4, hof4, hkz4, hin⟩
        · replace N7 := News.append (nw cho _ (by simp) f2) (News.append (nw cd _ (by simp) f3) (News.append (nw toldd _ (by simp) f1) N7))
          dsimp only [List.cons_append, List.nil_append] at N7
          rw [hl0] at Sl
          clear nw hx7 f1 f2 f3
          try dsimp only
          k_steps
          unfold Stop
          (rename Fr _ _ _ _ => F6)
          (rename News _ _ _ _ => N6)
          refine eq_list (db := []) (News.get N6 (by k_mem)) (News.get N6 (by k_mem)) (Sl.now F6 N6 (by walk_at "m_ex")) .nil (by show (_ : Nat) < 9900; simp [deepAll]) ?_
          simp only [List.map_nil, eqvAll]
          try dsimp only
          k_steps
          refine ForR.ret hR9 ?_
          dsimp only
          refine endR hRz (by k_asm) ?_
          unfold Hold
          rfl
        · replace N7 := News.append (nw cho _ (by simp) f2) (News.append (nw cd _ (by simp) f3) (News.append (nw toldd _ (by simp) f1) N7))
          dsimp only [List.cons_append, List.nil_append] at N7
          have av7 : AvOk [tla, toldd, wk, wd, cho, cd, row, L' + 1 + 1 + 1, L' + 1 + 1, L' + 1, src, lst, tab, td, ent, book] h7 := by walk_at "m_av"
          have nt7 := noTup_L F7 av7.noTup
          obtain ⟨a7, rfl⟩ : ∃ a7, v7 = .ref a7 := by
            cases rk with
            | tup e r => exact ⟨_, rfl⟩
          have Sk := hx7 ▸ Sure.rep F7 nt7 rk
          obtain ⟨hj2, er⟩ := List.getElem?_eq_some_iff.mp hr0
          have hj1 : (pickF ms k ((leftOf rs' c (inT kvs)).length : Int)).toNat < ls.length := by rw [hll]; exact hj2
          have rv := (Sl.now F7 N7 (by walk_at "m_ex")).get _ hj1 (by rw [List.length_map]; exact hj2)
          simp only [List.getElem_map, er] at rv
          refine cutC fun C_ kC_ => ?_
          obtain ⟨bt, tt, kv, tt', hb, eb, rkv⟩ := rowD_open rv
          refine kC_ ?_
          clear kC_ C_
          have hbq : ls[(pickF ms k ((leftOf rs' c (inT kvs)).length : Int)).toNat]? = some (.ref bt) := by rw [List.getElem?_eq_getElem hj1, hb]
          have St := hx7 ▸ Sure.tup F7 nt7 eb
          have Skv := hx7 ▸ Sure.rep F7 nt7 rkv
          have oT3 : ∀ q ∈ ex3, q.1 ≠ tla := fun q hq e => hoff3 q hq (by simp [e])
          obtain ⟨r1, rest, hlf⟩ : ∃ r1 rest, leftOf rs' c (inT kvs) = r1 :: rest := by
            cases hlf : leftOf rs' c (inT kvs) with
            | nil => rw [hlf] at hr0; simp at hr0
            | cons r1 rest => exact ⟨r1, rest, rfl⟩
          have hpos : 0 < (leftOf rs' c (inT kvs)).length := by rw [hlf]; simp
          obtain ⟨pb0, pb1⟩ := pickF_bound (ns := ms) (k := k) (many := ((leftOf rs' c (inT kvs)).length : Int)) (by omega)
          clear nw hx7 f1 f2 f3 av7 nt7 rk rv eb rkv hb er hj1 hj2
          try dsimp only
          k_steps
          unfold Stop
          (rename Fr _ _ _ _ => F6)
          (rename News _ _ _ _ => N6)
          refine eq_list (db := []) (News.get N6 (by k_mem)) (News.get N6 (by k_mem)) (Sl.now F6 N6 (by walk_at "m_ex")) .nil (by have := deep_rows (leftOf rs' c (inT kvs)); show (_ : Nat) < 9900; show 120 + 3 + deepAll ((leftOf rs' c (inT kvs)).map rowD) + 1 < 9900; omega) ?_
          rw [show eqvAll ((leftOf rs' c (inT kvs)).map rowD) [] = false by rw [hlf]; rfl]
          try dsimp only
          k_steps
          unfold Stop
          (rename Fr _ _ _ _ => F5)
          (rename News _ _ _ _ => N5)
          refine joinIf F5 N5 (Str.ofString "pick") (Str.ofString "at_choice") (pickF ms k ((leftOf rs' c (inT kvs)).length : Int)) ((pickT k ((leftOf rs' c (inT kvs)).length : Int) : Nat) : Int) ?first ?rest
          case first =>
            intro Rj hRj
            try dsimp only
            k_steps
            try unfold Stop
            refine call_len_list (items := ls.toArray) (News.isList N5 (by k_mem)) (by simp; omega) ?_
            simp only [List.size_toArray, hll]
            try dsimp only
            k_steps
            · have hp : pickF ms k ((leftOf rs' c (inT kvs)).length : Int) = (ms.getD (k : Int).toNat 0).fmod ((leftOf rs' c (inT kvs)).length : Int) := by
                unfold pickF
                rw [if_neg (by omega), if_pos (by omega)]
                rfl
              have hq : pickT k ((leftOf rs' c (inT kvs)).length : Int) = k + 1 := if_neg (by omega)
              (rename News _ _ _ _ => N5)
              try unfold Stop
              refine call_len_list (items := ls.toArray) (News.isList N5 (by k_mem)) (by simp; omega) ?_
              simp only [List.size_toArray, hll]
              try dsimp only
              k_steps
              (rename Fr _ _ _ _ => F4)
              (rename News _ _ _ _ => N4)
              exact hRj _ _ _ _ _ F4 (newsTail N4) (norm2 (congrArg (fun v => some (Value.int v _)) hp.symm) (congrArg (fun v : Nat => some (Value.int (v : Int) _)) hq.symm) (fun z n1 n2 => by (try dsimp only); repeat (first | exact rfl | refine (if_neg (by with_reducible assumption)).trans ?_)))
            · have hp : pickF ms k ((leftOf rs' c (inT kvs)).length : Int) = 0 := by
                unfold pickF
                rw [if_pos (by omega)]
              have hq : pickT k ((leftOf rs' c (inT kvs)).length : Int) = k := if_pos (by omega)
              (rename Fr _ _ _ _ => F4)
              (rename News _ _ _ _ => N4)
              exact hRj _ _ _ _ _ F4 N4 (norm2 (congrArg (fun v => some (Value.int v _)) hp.symm) (congrArg (fun v : Nat => some (Value.int (v : Int) _)) hq.symm) (fun z n1 n2 => rfl))
          case rest =>
            intro hj9 tkj taj tbj Fj Nj
            clear F5 N5
            try dsimp only
            k_steps
            (rename Fr _ _ _ _ => F4)
            (rename News _ _ _ _ => N4)
            try unfold Stop
            refine item_K (vs := ls) (n := lk8) (News.get N4 (by k_mem)) pb0 (by omega) (by omega) fun hj => ?_
            rw [Option.some.inj ((List.getElem?_eq_getElem hj).symm.trans hbq)]
            have hT := isTup_sure St F4 N4 (by walk_at "m_ex")
            try dsimp only
            k_steps
            try unfold Stop
            refine slice_tuple_from (a := 1) F4 N4 hT (by decide) (by simp) (fun h6 F6 N6 => ?_) (by with_unfolding_all rfl) (by intro _; with_unfolding_all rfl) (by simp [sizeLine_eq])
            clear F4 N4 hT
            try dsimp only
            k_steps
            unfold Stop
            (rename Fr _ _ _ _ => F4)
            (rename News _ _ _ _ => N4)
            refine ne_same (Sk.now F4 N4 (by walk_at "m_ex")) (.tup (News.get N4 (by k_mem)) (.cons (Skv.now F4 N4 (by walk_at "m_ex")) (.cons (.int _ _) .nil))) (by have := (short_k r0.k).2.2; show (_ : Nat) < 9900; show 120 + 3 + deepAll [keyD r0.k, .int r0.v] + 1 < 9900; simp only [deepAll, deep]; omega) ?_
            try dsimp only
            k_steps
            (rename News _ _ _ _ => N3)
            try unfold Stop
            refine item_K (vs := ls) (n := lk8) (News.get N3 (by k_mem)) pb0 (by omega) (by omega) fun hj => ?_
            rw [Option.some.inj ((List.getElem?_eq_getElem hj).symm.trans hbq)]
            try dsimp only
            k_steps
            (try unfold Stop)
            (rename Fr _ _ _ _ => F8)
            (rename News _ _ _ _ => N8)
            refine append_P (items := tvs) (n := tn) (News.get N8 (by k_mem)) (by clear k1 k2 k3 k4 k5 k6 k7 k8; have := PyProof.Rows.IntsAre.length hTI; omega) fun hb5 nb5 eb5 sb5 => ?_
            have F9 := fr_same F8 N8 (by k_mem) sb5
            have N9 := news_upd N8 (UpdF.tail (ne_cls (N8 _ (List.mem_cons_self ..)).1 (News.get N8 (show (tla, W.listOf tvs.toArray tn) ∈ _ by k_mem)) (fun q => absurd (Value.type.inj q) (by decide))) (by k_updF)) sb5 eb5
            clear F8 N8
            (try dsimp only at N9 ⊢)
            k_steps
            (try unfold Stop)
            (rename Fr _ _ _ _ => F0)
            (rename News _ _ _ _ => N0)
            refine' useX (sub := [(src, _), (lst, _), (tab, _), (td, _), (ent, _), (book, _)]) (kp := [(tla, _), (toldd, _), (wk, _), (wd, _), (cho, _), (cd, _), (row, _), (L' + 1 + 1 + 1, _), (L' + 1 + 1, _), (L' + 1, _)]) (ex := ex3) (av := [tla, toldd, wk, wd, cho, cd, row, L' + 1 + 1 + 1, L' + 1 + 1, L' + 1, src, lst, tab, td, ent, book]) B' F0 X' N0 T' rfl ?su ?kp ?km ?ex hoff3 ?sa (deed_does (hS := ⟨⟨_, _, _, _, _, _, _, _, News.get N0 (by k_mem), News.get N0 (by k_mem), hI3, hv3, hm3, hm3'⟩, ⟨_, _, _, _, 0, _, _, News.get N0 (by k_mem), News.get N0 (by k_mem), News.get N0 (by k_mem), ho3, Sx.now F0 N0 (by walk_at "m_ex")⟩, ⟨_, _, News.get N0 (by k_mem), Sb.now F0 N0 (by walk_at "m_ex")⟩, hg3⟩) hA' hsm) (Nat.le_of_ble_eq_true rfl) (Nat.le_of_ble_eq_true rfl) ?_
            case su => walk_at "m_subs"
            case kp => walk_at "m_subs"
            case km => exact deed_km ⟨lc.1, lc.2.1, lc.2.2.1, lc.2.2.2.1, lc.2.2.2.2.1, lc.2.2.2.2.2⟩ hlow.1 hlow.2 (by simpa only [and_true] using k1.2.2.2)
            case ex => walk_at "m_ex"
            case sa => walk_at "m_sa"
            intro v6 h6 tk6 ex4 F6 N6 hex4 hoff4 hx6 nw _ _ q6
            apply cutV (v := v6)
            intro C_ kC_
            obtain ⟨c4, rs4, t4, rfl, ⟨⟨b4, m4, s4, s4', sn4, lk4, us4, ns4, e1, e2, hI4, hv4, hm4, hm4'⟩, ⟨u1, u2, u3, uc, un, o4, xs4, e3, e4, e5, ho4, hxx⟩, ⟨bs4, bn4, e6, hb4⟩, hg4⟩, hcc, hle4⟩ := q6
            refine kC_ _ ?_
            clear kC_ C_
            replace N6 := News.append (nw src _ (by simp) e1) (News.append (nw lst _ (by simp) e2) (News.append (nw tab _ (by simp) e3) (News.append (nw td _ (by simp) e4) (News.append (nw ent _ (by simp) e5) (News.append (nw book _ (by simp) e6) N6)))))
            dsimp only [List.cons_append, List.nil_append] at N6
            have av6 : AvOk [tla, toldd, wk, wd, cho, cd, row, L' + 1 + 1 + 1, L' + 1 + 1, L' + 1, src, lst, tab, td, ent, book] h6 := by walk_at "m_av"
            have nt6 := noTup_L F6 av6.noTup
            have Sx4 := hx6 ▸ Sure.ents F6 nt6 hxx
            have Sb4 := hx6 ▸ Sure.reps F6 nt6 hb4
            clear nw hx6 e1 e2 e3 e4 e5 e6 av6 nt6 hxx hb4 F0 N0 Sl Sx Sb
            try dsimp only
            k_steps
            (try unfold Stop)
            (rename Fr _ _ _ _ => F8)
            (rename News _ _ _ _ => N8)
            refine' useX (sub := []) (kp := [(src, _), (lst, _), (tab, _), (td, _), (ent, _), (book, _), (tla, _), (toldd, _), (wk, _), (wd, _), (cho, _), (cd, _), (row, _), (L' + 1 + 1 + 1, _), (L' + 1 + 1, _), (L' + 1, _)]) (ex := ex4) (av := [tla, toldd, wk, wd, cho, cd, row, L' + 1 + 1 + 1, L' + 1 + 1, L' + 1, src, lst, tab, td, ent, book]) B' F8 X' N8 T' rfl ?su ?kp (fun _ _ => List.not_mem_nil) ?ex hoff4 (List.forall_mem_nil _) (stands_does (n := 0) (News.get N8 (by k_mem)) (News.get N8 (by k_mem)) (News.get N8 (by k_mem)) ho4 hsm (Sx4.now F8 N8 (by walk_at "m_ex")) (News.get N8 (by k_mem)) (Sb4.now F8 N8 (by walk_at "m_ex")) hg4) (Nat.le_of_ble_eq_true rfl) (Nat.le_of_ble_eq_true rfl) ?_
            case su => walk_at "m_subs"
            case kp => walk_at "m_subs"
            case ex => walk_at "m_ex"
            intro v5 h5 tk5 ex5 F5 N5 hex5 hoff5 hx5 nw _ _ q5
            obtain rfl := q5
            dsimp only [List.cons_append, List.nil_append] at N5
            clear nw hx5 F8 N8
            try dsimp only
            k_steps
            (rename Fr _ _ _ _ => F0)
            (rename News _ _ _ _ => N0)
            have hsh := left_shrink hr0 hin
            have hls := left_less (p := inT kvs4) hle4 hec
            refine ForR.next hN9 F0 ?keep ⟨_, _, _, _, _, _, rs4, pickT k ((leftOf rs' c (inT kvs)).length : Int), _, norm6 (v1 := some _) (v2 := some _) (v3 := some _) (v4 := some _) (v5 := some _) (v6 := some _) rfl rfl rfl rfl rfl rfl (fun z n1 n2 n3 n4 n5 n6 => by (try dsimp only); repeat (first | exact rfl | refine (if_neg (by with_reducible assumption)).trans ?_)), ?turn⟩
            case keep =>
              intro b' hb' o' eo
              obtain rfl := List.mem_singleton.mp hb'
              exact kf F0 N0 (by intro q hq; replace hq := hex5 q (hex4 q (hex3 q (hex2 q hq))); repeat (first | exact hq | refine List.mem_cons_of_mem _ ?_)) _ (off_I htI hsz) o' eo
            case turn =>
              refine ⟨⟨⟨_, _, _, _, _, _, _, _, News.get N0 (by k_mem), News.get N0 (by k_mem), hI4, hv4, hm4, hm4'⟩, ⟨_, _, _, _, _, _, _, News.get N0 (by k_mem), News.get N0 (by k_mem), News.get N0 (by k_mem), ho4, (Sx4.mono hex5).now F0 N0 (by walk_at "m_ex")⟩, ⟨_, _, News.get N0 (by k_mem), (Sb4.mono hex5).now F0 N0 (by walk_at "m_ex")⟩, hg4⟩, Int.le_trans hec hcc, ⟨ot4, kvs4, News.get N0 (by k_mem), hd4, hof4, Nat.le_trans hkz4 (Nat.succ_le_succ hkz3), ⟨_, nb5, tl ++ [r0.n], News.get N0 (by k_mem), intsPush hTI, by simpa using htz, anyPush hcont hin⟩, by omega⟩, News.get N0 (by k_mem), ⟨_, _, _, _, News.get N0 (by k_mem)⟩, Nat.le_trans pickT_le (Nat.succ_le_succ hk3), News.get N0 (by k_mem), News.get N0 (by k_mem), News.get N0 (by k_mem), News.get N0 (by k_mem), News.get N0 (by k_mem), News.get N0 (by k_mem)⟩
end
/-! ## Exi -/
section
theorem words0_Exi : True := by
  w_top off
  k_with_none
  trivial
variable {prog : Program} {w : World} {A : Around} {E : Value → Shared → Prop} {s : Shared}
noncomputable def excObj (C : Addr) (t : Nat) (dv : Option Addr) : Obj := { cls := .ref C, dict := dv, data := .fields #[.ref t, .none, .none, .none, .bool false, .none] }
section
variable {h : Heap} {g : Array GenState} {d : Drawn} {t : Nat} {os : OsState}
variable {nm q : Str} {C N : Addr} {bs bm : List Value} {hdct : Bool} {sn : List Str} {sub : List Value} {ab : Bool} {col : Option Bool} {dd : Option Addr} {k0 k1 k2 k3 k5 : Option Value} {newId : String}
theorem chk_init {M : Model} {e : Addr} {oe : Obj} {rest : List Value} {Q : Unit → Shared → Prop} (hC : h.get? C = some (excClassObj nm q C N bs bm hdct sn sub ab col dd k0 k1 k2 k3 k5 newId)) (hb : bm.contains (.type "Exception") = true)
    (he : h.get? e = some oe) (hcls : oe.cls = .ref C) (hq : Q () ⟨h, g, d, t, os⟩) : wpAny M A (checkBuiltinCall "Exception.__init__" ⟨.ref e :: rest, []⟩) Q E ⟨h, g, d, t, os⟩ := by
  have F := PySem.F.excBase_Exception
  have hcB : (Value.ref C :: bm).contains (.type "Exception") = true := by rw [List.contains_cons, hb, Bool.or_true]
  have hshort := F.noStar
  simp only [checkBuiltinCall, F.initKind, F.initSplit, F.initRow]
  repeat (first | (with_reducible refine wpAny_loadPart_at he ?_; rw [hcls]) | with_reducible refine wpAny_loadPart_at hC ?_ | (with_reducible refine wpAny_isSubtype_exc hC ?_; rw [hcB]) | wp_step)
  refine wpAny_onRaise ?_
  rw [show ∀ (a b : String) (n : Nat), Bind.check ⟨.positional, "*", "Exception", .self, [⟨"args", .varPos, false⟩]⟩ a b n (List.map (fun x => x.fst) ({ pos := Value.ref e :: rest } : Args).kw) = pure () from fun a b n => check_star_args _ _ _ _ _ _]
  exact wpAny_pure hq
end
/-- Exception.__init__(self, v): the arguments' tuple anew -/
theorem exc_init {h₀ : Heap} {L e : Nat} {m : Str → Option Value} {news : List (Addr × Obj)} {gf : Obj → List (Addr × Obj)} {C : Addr} {t0 : Nat} {dv : Option Addr} {v : Value} {Q : Value → Shared → Prop} {K : Frag} (F : Fr h₀ L s.heap m) (X : K.In h₀) (hk : ktsIn K C "Exception" = true)
    (N : News h₀ L s.heap news) (U : UpdF e (excObj C t0 dv) news gf)
    (hQ : ∀ h' (tt : Nat), Fr h₀ L h' m → News h₀ L h' ((tt, tupObj [v]) :: gf (excObj C tt dv)) → (∀ p ∈ news, p.1 < tt) → Q .none { s with heap := h' }) :
    wpAny (model prog w) A (call (.builtin "Exception.__init__") [.ref e, v]) Q E s := by
  refine cutC fun C_ kC_ => ?_
  obtain ⟨nm, qn, N', bs, bm, hdct, sn, sub, ab, col, dd, k0, k1, k2, k3, k5, newId, hC, -, hb⟩ := kts_cls (X.keeps F.keep) hk
  refine kC_ ?_
  clear kC_ C_
  have F0 := PySem.F.excBase_Exception
  refine cutC fun C_ kC_ => ?_
  obtain ⟨hp, g, d, t, os⟩ := s
  refine kC_ ?_
  clear kC_ C_
  have he : hp.get? e = some (excObj C t0 dv) := by
    refine cutC fun C_ kC_ => ?_
    obtain ⟨pre, post, rfl, -, -, -⟩ := U.split
    refine kC_ ?_
    clear kC_ C_
    exact (N (e, excObj C t0 dv) (by simp)).1
  refine wpAny_call (codeAny_call_builtin F0.init.plain F0.initEntry (chk_init hC hb he rfl ?_))
  wp_walk
  have F1 : Fr h₀ L (hp.push (tupObj [v])) m := F.push _
  have N1 : News h₀ L (hp.push (tupObj [v])) ((hp.objs.size, tupObj [v]) :: news) := N.push F _
  have lt : ∀ p ∈ news, p.1 < hp.objs.size := fun p hp' => Heap.lt_size (N p hp').1
  have ne : e ≠ hp.objs.size := Nat.ne_of_lt (Heap.lt_size he)
  have U1 := UpdF.tail (p := (hp.objs.size, tupObj [v])) (Ne.symm ne) U
  have sb : Heap.SameBut e (hp.push (tupObj [v])) ((hp.push (tupObj [v])).update e (Obj.mapFields fun x => x.setIfInBounds 0 (Value.ref hp.objs.size))) := Heap.SameBut.update ..
  have he1 : (hp.push (tupObj [v])).get? e = some (excObj C t0 dv) := Heap.get?_push_of_some _ he
  have he2 : ((hp.push (tupObj [v])).update e (Obj.mapFields fun x => x.setIfInBounds 0 (Value.ref hp.objs.size))).get? e = some (excObj C hp.objs.size dv) := by
    rw [Heap.get?_update_self _ he1 rfl]
    rfl
  have hm : (e, excObj C t0 dv) ∈ (hp.objs.size, tupObj [v]) :: news := by
    refine cutC fun C_ kC_ => ?_
    obtain ⟨pre, post, rfl, -, -, -⟩ := U.split
    refine kC_ ?_
    clear kC_ C_
    simp
  exact hQ _ hp.objs.size (fr_same F1 N1 hm sb) (news_upd N1 U1 sb he2) lt
end
/-! ## Exs -/
section
theorem words0_Exs : True := by
  w_top off
  k_with_none
  trivial
section
open Builtin Builtin.ObjectAttr
variable {prog : Program} {w : World} {A : Around} {E : Value → Shared → Prop} {s : Shared} {h₀ : Heap} {L x : Addr} {m : Str → Option Value} {news : List (Addr × Obj)} {gf : Obj → List (Addr × Obj)} {K : Frag} {C : Addr} {name : Str} {v : Value} {es es' : List DictEntry} {n n' : Nat}
noncomputable def onlyExc : List Value → Bool
  | [.type a, .type b, .type c] => a == "Exception" && b == "BaseException" && c == "object"
  | .ref _ :: r => onlyExc r
  | _ => false
theorem refuse_three (self : Value) : refuseLoop self "__setattr__" [.type "Exception", .type "BaseException", .type "object"] = pure () := by kernel_rfl
theorem refuse_exc (self : Value) : ∀ {l : List Value}, onlyExc l = true → refuseLoop self "__setattr__" l = pure ()
  | [.type a, .type b, .type c], e => by
    simp only [onlyExc, Bool.and_eq_true, beq_iff_eq] at e
    obtain ⟨⟨rfl, rfl⟩, rfl⟩ := e
    exact refuse_three self
  | .ref c :: r, e => by
    rw [refuseLoop_ref]
    exact refuse_exc self (by unfold onlyExc at e; exact e)
theorem exc_has : ∀ {l : List Value}, onlyExc l = true → l.contains (.type "object") = true
  | [.type a, .type b, .type c], e => by
    simp only [onlyExc, Bool.and_eq_true, beq_iff_eq] at e
    obtain ⟨⟨rfl, rfl⟩, rfl⟩ := e
    simp
  | .ref c :: r, e => by
    rw [List.contains_cons, exc_has (l := r) (by unfold onlyExc at e; exact e), Bool.or_true]
noncomputable def excOver (K : Frag) (C : Addr) : Bool := (clsIn K C).any fun cd => onlyExc cd.mro
theorem exs_open {R : Result → Shared → Prop} {ox : Obj} {od : Option Obj} {tk : Tok} (X : K.In s.heap) (I : InstAt s.heap x ox C od) (hp : excOver K C = true) (ht : takerIn K C name = some none)
    (h : ∀ b, wpAny (model prog w) A.in1 (storeInOwnDict (.ref x) (.ref C) (.str name tk) name v b)
      (fun fin s' => match fin with | .done f => R (.ok f) s' | .again c' => c'.quiet = true ∧ codeAny (model prog w) A c' R s') (fun e s' => R (.error e) s') s) :
    codeAny (model prog w) A (.call (.builtin "object.__setattr__") ⟨[.ref x, .str name tk, v], []⟩) R s := by
  have SF := PySem.F.store_object
  obtain ⟨cd, hc, ho⟩ := any_some hp
  have ne : cd.mro.isEmpty = false := by cases q : cd.mro with | nil => rw [q] at ho; cases ho | cons _ _ => rfl
  have sub : Looks (model prog w) s.heap (isInstance (.ref x) (.type "object")) true := I.type.andThen (looks_mroIn X (by unfold mroIn; rw [hc, Option.bind_some, if_neg (by rw [ne]; decide), exc_has ho]))
  refine codeAny_call_builtin SF.slot.plain SF.entry (@check_slot (model prog w) _ _ s "object.__setattr__" "object" "__setattr__" (.ref x) [.str name tk, v] [] _ SF.kind SF.split sub (SF.args (.ref x) (.str name tk) v) ?_)
  obtain ⟨attr, ha, hr⟩ := Option.bind_eq_some_iff.mp ht
  have hm : Looks (model prog w) s.heap (mroOf (.ref C)) cd.mro := (looks_clsIn X hc).andThen .now
  have L3 : Looks (model prog w) s.heap (storeTaker? attr) none := by
    cases attr with
    | none => exact .now
    | some a =>
      obtain ⟨b, hb, hbb⟩ := Option.map_eq_some_iff.mp hr
      refine (looks_takesIn X hb).andThen ?_
      cases b
      · exact .now
      · cases hbb
  rw [osa_eq, refuse_eq]
  refine wpAny_bind (wpAny_bind (I.type.here (wpAny_bind (hm.here ?_))))
  rw [refuse_exc _ ho]
  refine wpAny_pure (wpAny_bind (I.type.here (wpAny_bind ((looks_findIn X ha).here (wpAny_bind (L3.here ?_))))))
  exact h _
theorem store_tail {dx : Addr} {tk : Tok} {Q : Fin → Shared → Prop} (F : Fr h₀ L s.heap m) (N : News h₀ L s.heap news) (U : UpdF dx (dictOf es n) news gf) (hl : (getL name es).isSome = true)
    (e : (putL name (PyData.keyHash w.params name) (.str name s.toks) v es, putN name es n) = (es', n')) (hz : es'.length ≤ 1000)
    (h : ∀ h', Fr h₀ L h' m → News h₀ L h' (gf (dictOf es' n')) → Q (.done (.ret .none)) { s with heap := h', toks := s.toks + 1 }) :
    wpAny (model prog w) A (storeInDict dx (.str name tk) name v) Q E s := by
  refine cutC fun C_ kC_ => ?_
  obtain ⟨pre, post, rfl, hg, h1, h2⟩ := U.split
  refine kC_ ?_
  clear kC_ C_
  obtain ⟨e1, e2⟩ := Prod.mk.inj e
  have ee : Obj.putName name (PyData.keyHash w.params name) (.str name s.toks) v (dictOf es n) = dictOf es' n' := by rw [putName_dict, e1, e2]
  obtain ⟨U1, U2⟩ := PySem.W.news_upd (f := Obj.putName name (PyData.keyHash w.params name) (.str name s.toks) v) F N h1 h2 ee rfl
  have D := (N (dx, dictOf es n) (by simp)).1
  have D' := (U2 (dx, dictOf es' n') (by simp)).1
  unfold storeInDict newKeyGuard
  refine wpAny_bind (wpAny_pure (wpAny_bind ?_))
  unfold nsSet
  refine wpAny_bind (wpAny_bind (wpAny_askSetting (wpAny_pure (wpAny_bind (wpAny_mkText (wpAny_bind (wpAny_loadPart D ?_)))))))
  dsimp only
  have c : (!es.toArray.any (·.key.isStr name) && es.toArray.any (·.refKey)) = false := by
    have hl' : (lookIn name (dictOf es n)).isSome = true := hl
    unfold lookIn at hl'
    dsimp only at hl'
    rw [← Array.any_toList, ← Array.any_toList]
    cases hf : List.find? (fun x => x.key.isStr name) es.toArray.toList with
    | some en => rw [List.any_eq_true.mpr ⟨en, List.mem_of_find?_eq_some hf, List.find?_some hf⟩]; rfl
    | none =>
      rw [hf] at hl'
      dsimp only at hl'
      cases z : es.toArray.toList.any fun x => x.refKey with
      | true => rw [z] at hl'; cases hl'
      | false => rw [Bool.and_false]
  rw [aRefKeyMayBeTheName_at, c]
  refine wpAny_updatePart D ?_
  refine wpAny_bind (wpAny_lookBehind D' (by rw [show (dx, dictOf es' n').snd.data = .dict es'.toArray n' from rfl]; exact pastItsLine_dict (by rw [List.size_toArray, sizeLine_eq]; omega)) ?_)
  exact wpAny_pure (h _ U1 (by rw [hg]; exact U2))
theorem exc_set1 {t0 dx : Nat} {Q : Unit → Shared → Prop} (F : Fr h₀ L s.heap m) (X₀ : K.In h₀) (N : News h₀ L s.heap news) (he : (x, excObj C t0 (some dx)) ∈ news)
    (hs : findIn K (.ref C) "__setattr__" = some (some (.builtin "object.__setattr__"))) (hp : excOver K C = true) (ht : takerIn K C name = some none) (hh : hasDictIn K C = true) (hl : (getL name es).isSome = true)
    (e : (putL name (PyData.keyHash w.params name) (.str name (s.toks + 1)) v es, putN name es n) = (es', n')) (U : UpdF dx (dictOf es n) news gf) (hz : es'.length ≤ 1000)
    (h : ∀ h', Fr h₀ L h' m → News h₀ L h' (gf (dictOf es' n')) → Q () { s with heap := h', toks := s.toks + 2 }) : wpAny (model prog w) A (setAttr (.ref x) name v) Q E s := by
  have hx := (N _ he).1
  have hdx : s.heap.get? dx = some (dictOf es n) := by
    refine cutC fun C_ kC_ => ?_
    obtain ⟨pre, post, rfl, -, -, -⟩ := U.split
    refine kC_ ?_
    clear kC_ C_
    exact (N (dx, dictOf es n) (by simp)).1
  have I : InstAt s.heap x (excObj C t0 (some dx)) C (some (dictOf es n)) := ⟨hx, rfl, rfl, hdx⟩
  have X := X₀.keeps F.keep
  obtain ⟨cd, hc, hd'⟩ := any_some hh
  refine set_plain X I hs (exs_open (s := { s with toks := s.toks + 1 }) X I hp ht fun b => ?_)
  refine wpAny_bind (wpAny_pure (wpAny_bind (wpAny_bind (wpAny_loadPart hx (wpAny_bind (looks_clsIn X hc _ _ _ _ (fun _ _ e => e) ?_))))))
  rw [hd']
  refine wpAny_pure (a := some dx) ?_
  refine store_tail (s := { s with toks := s.toks + 1 }) F N U hl e hz fun h' F' N' => ?_
  exact h h' F' N'
theorem exc_set0 {t0 : Nat} {Q : Unit → Shared → Prop} (F : Fr h₀ L s.heap m) (X₀ : K.In h₀) (N : News h₀ L s.heap news) (U0 : UpdF x (excObj C t0 none) news gf)
    (hs : findIn K (.ref C) "__setattr__" = some (some (.builtin "object.__setattr__"))) (hp : excOver K C = true) (ht : takerIn K C name = some none) (hh : hasDictIn K C = true)
    (h : ∀ h' (dx : Nat), Fr h₀ L h' m → News h₀ L h' ((dx, dictOf [⟨PyData.keyHash w.params name, .str name (s.toks + 1), v⟩] 1) :: gf (excObj C t0 (some dx))) → (∀ p ∈ news, p.1 < dx) → h₀.objs.size ≤ dx → Q () { s with heap := h', toks := s.toks + 2 }) : wpAny (model prog w) A (setAttr (.ref x) name v) Q E s := by
  have hm : (x, excObj C t0 none) ∈ news := by
    refine cutC fun C_ kC_ => ?_
    obtain ⟨pre, post, rfl, -, -, -⟩ := U0.split
    refine kC_ ?_
    clear kC_ C_
    simp
  have hx := (N _ hm).1
  have I : InstAt s.heap x (excObj C t0 none) C none := ⟨hx, rfl, rfl, True.intro⟩
  have X := X₀.keeps F.keep
  obtain ⟨cd, hc, hd'⟩ := any_some hh
  refine set_plain X I hs (exs_open (s := { s with toks := s.toks + 1 }) X I hp ht fun b => ?_)
  refine wpAny_bind (wpAny_pure (wpAny_bind (wpAny_bind (wpAny_loadPart hx (wpAny_bind (looks_clsIn X hc _ _ _ _ (fun _ _ e => e) ?_))))))
  rw [hd']
  have F1 : Fr h₀ L (s.heap.push emptyDict) m := F.push _
  have N1 : News h₀ L (s.heap.push emptyDict) ((s.heap.objs.size, emptyDict) :: news) := N.push F _
  have lt : ∀ p ∈ news, p.1 < s.heap.objs.size := fun p hp' => Heap.lt_size (N p hp').1
  have ne : x ≠ s.heap.objs.size := Nat.ne_of_lt (Heap.lt_size hx)
  have U1 := UpdF.tail (p := (s.heap.objs.size, emptyDict)) (Ne.symm ne) U0
  have sb : Heap.SameBut x (s.heap.push emptyDict) ((s.heap.push emptyDict).update x fun o => { o with dict := some s.heap.objs.size }) := Heap.SameBut.update ..
  have he1 : (s.heap.push emptyDict).get? x = some (excObj C t0 none) := Heap.get?_push_of_some _ hx
  have he2 : ((s.heap.push emptyDict).update x fun o => { o with dict := some s.heap.objs.size }).get? x = some (excObj C t0 (some s.heap.objs.size)) := by
    rw [Heap.get?_update_self _ he1 rfl]
    rfl
  have F2 := fr_same F1 N1 (List.mem_cons_of_mem _ hm) sb
  have N2 := news_upd N1 U1 sb he2
  have U2 : UpdF s.heap.objs.size (dictOf [] 0) ((s.heap.objs.size, dictOf [] 0) :: gf (excObj C t0 (some s.heap.objs.size))) (fun o' => (s.heap.objs.size, o') :: gf (excObj C t0 (some s.heap.objs.size))) := UpdF.head fun p hp' => by
    refine cutC fun C_ kC_ => ?_
    obtain ⟨pre, post, rfl, hg, -, -⟩ := U0.split
    refine kC_ ?_
    clear kC_ C_
    rw [hg] at hp'
    rcases List.mem_append.mp hp' with q | q
    · exact Nat.ne_of_lt (lt p (by simp [q]))
    · rcases List.mem_cons.mp q with rfl | q
      · exact ne
      · exact Nat.ne_of_lt (lt p (by simp [q]))
  refine wpAny_bind (wpAny_alloc ?_)
  refine wpAny_bind (wpAny_update he1 ?_)
  refine wpAny_pure ?_
  refine store_tail (s := { s with heap := (s.heap.push emptyDict).update x fun o => { o with dict := some s.heap.objs.size }, toks := s.toks + 1 }) (es := []) (n := 0) (es' := [⟨PyData.keyHash w.params name, .str name (s.toks + 1), v⟩]) (n' := 1) F2 N2 U2 rfl (by rfl) (show (1 : Nat) ≤ 1000 by decide) fun h' F' N' => ?_
  exact h h' _ F' N' lt (Nat.le_of_lt (Nat.lt_of_le_of_lt F.above F.ns.lt))
end
end
/-! ## Enc -/
section
theorem words0_Enc : True := by
  w_top off
  k_with_none
  trivial
section
open Builtin Builtin._codecs
variable {prog : Program} {w : World} {A : Around} {E : Value → Shared → Prop} {s : Shared}
theorem hash_tree (t t2 : Tok) : «str.encode» ⟨[.str (Str.ofString "hash of unhashable type") t, .str (Str.ofString "ascii") t2], []⟩ = (do ret (← mkBytes #[104,97,115,104,32,111,102,32,117,110,104,97,115,104,97,98,108,101,32,116,121,112,101])) := by kernel_rfl
theorem hash_meets (t t2 : Tok) : Meets («str.encode» ⟨[.str (Str.ofString "hash of unhashable type") t, .str (Str.ofString "ascii") t2], []⟩) (fun _ R s => ∀ t' k, R (.ok (.ret (.bytes #[104,97,115,104,32,111,102,32,117,110,104,97,115,104,97,98,108,101,32,116,121,112,101] t'))) { s with toks := k }) := by
  rw [hash_tree]
  exact .of_wp fun _ _ _ _ _ h => wpAny_bind (wpAny_mkBytes (wpAny_pure ⟨_, rfl, h _ _⟩) (by decide))
theorem hash_encode {t t2 : Tok} {Q : Value → Shared → Prop} (h : ∀ t' k, Q (.bytes #[104,97,115,104,32,111,102,32,117,110,104,97,115,104,97,98,108,101,32,116,121,112,101] t') { s with toks := k }) :
    wpAny (model prog w) A (call (.builtin "str.encode") [.str (Str.ofString "hash of unhashable type") t, .str (Str.ofString "ascii") t2]) Q E s :=
  call_meets F.slot_str_encode (typeIs_str _ _ _) F.entry_str_encode (F.args_str_encode_2 _ _) (hash_meets t t2) h
theorem hash_method {M : Model} {pl : Sem Bool} {x : PySem.Str} {t : Tok} {Q : Value × List Value → Shared → Prop} (h : Q (.builtin "str.encode", [.str x t]) s) : wpAny M A (getMethod (.str x t) "encode" pl) Q E s := by
  with_reducible exact GM.of (.str x t) (typeIs_str _ _ _) F.slot_str_encode F.type_str_encode GM.noRef h
end
end
/-! ## Fly -/
section
theorem words0_Fly : True := by
  w_top off
  k_with_none
  trivial
variable {prog : Program} {w : World} {M : Model} {A : Around} {E : Value → Shared → Prop} {s : Shared}
/-- an exception at e: fl none = no place noted yet, some f = the newest note's flight word is f -/
noncomputable def ExcAt (h B : Heap) (e : Addr) (cls : Value) (dv : Option Addr) (fl : Option Value) : Prop :=
  ∃ oe vs, h.get? e = some oe ∧ oe.cls = cls ∧ oe.dict = dv ∧ oe.data = .fields vs ∧
    (match fl with
     | none => vs[1]? = some Value.none
     | some f => ∃ T oT ts, vs[1]? = some (.ref T) ∧ B.get? T = none ∧ T ≠ e ∧ h.get? T = some oT ∧ oT.data = .fields ts ∧ ts[3]? = some f)
structure Fly (B : Heap) (l : List Env) (e : Addr) (cls : Value) (dv : Option Addr) (fl : Option Value) (h : Heap) : Prop where
  stays : B.StaysIn h
  new : B.get? e = none
  frames : h.FunFrames B l
  exc : ExcAt h B e cls dv fl
/-- objects other than the records stand, frames' slots aside -/
theorem Fly.pop {B : Heap} {env : Env} {l : List Env} {e : Addr} {cls : Value} {dv : Option Addr} {fl : Option Value} {h : Heap} (x : Fly B (env :: l) e cls dv fl h) : Fly B l e cls dv fl h := ⟨x.stays, x.new, x.frames.2.2, x.exc⟩
theorem upd_other {h : Heap} {a b : Addr} {f : Obj → Obj} (ne : b ≠ a) : (h.update a f).get? b = h.get? b := Heap.get?_update_other _ _ (Ne.symm ne)
theorem rec_ne {h : Heap} {a b : Addr} {o oa : Obj} {vs : Array Value} (ha : h.get? a = some oa) (hd : oa.data = .fields vs) (hb : h.get? b = some o) (hn : ∀ vs, o.data ≠ .fields vs) : b ≠ a := fun q => by
  subst q; rw [ha] at hb; cases hb; exact hn _ hd
theorem stays_ne {B : Heap} {a b : Addr} {o : Obj} (ha : B.get? a = none) (hb : B.get? b = some o) : b ≠ a := fun q => by
  subst q; rw [ha] at hb; cases hb
/-- a record's field written: what else stands -/
theorem upd_rec {B h : Heap} {l : List Env} {a : Addr} {oa : Obj} {vs : Array Value} {f : Array Value → Array Value} (ha : h.get? a = some oa) (hd : oa.data = .fields vs) (hB : B.get? a = none) (st : B.StaysIn h) (fr : h.FunFrames B l) :
    B.StaysIn (h.update a (Obj.mapFields f)) ∧ (h.update a (Obj.mapFields f)).FunFrames B l ∧ h.UpToSlots (h.update a (Obj.mapFields f)) :=
  ⟨fun b o e => (upd_other (stays_ne hB e)).trans (st b o e), fr.of_keeps fun b o e hn => ⟨o, (upd_other (rec_ne ha hd e hn)).trans e, rfl⟩, fun b o e hn => ⟨o.slots, (upd_other (rec_ne ha hd e hn)).trans e⟩⟩
theorem dict_mapFields (f : Array Value → Array Value) (o : Obj) : (o.mapFields f).dict = o.dict := by
  obtain ⟨_, _, dt, _⟩ := o
  cases dt <;> rfl
theorem note_new {B : Heap} {env : Env} {outer : List Env} {L e : Addr} {cls head : Value} {dv : Option Addr} {hadNext : Bool} {Q : Unit → Shared → Prop} {oe : Obj} {vs : Array Value}
    (hfr : A.frames = some (env :: outer)) (hf : env.frame = some L) (st : B.StaysIn s.heap) (hn : B.get? e = none) (fr : s.heap.FunFrames B (env :: outer))
    (he : s.heap.get? e = some oe) (hc : oe.cls = cls) (hv : oe.dict = dv) (hd : oe.data = .fields vs) (hsz : 1 < vs.size)
    (hQ : ∀ h', Fly B (env :: outer) e cls dv (some (rawInt L)) h' → s.heap.UpToSlots h' → Q () { s with heap := h' }) :
    wpAny M A (do let a ← frameOf env; let pl ← entryPlaceOf L hadNext; let b ← EntryCells.newEntry head a .none (rawInt L) .none pl; setField (.ref e) 1 b) Q E s := by
  have hee : e ∉ (env :: outer).filterMap (·.frame) := fun hm => by
    obtain ⟨_, o, ho, hnf⟩ := fr.mem hm
    exact rec_ne he hd ho hnf rfl
  refine wpAny_bind (wpAny_frameOf_fun hfr fr hf fun h₁ x => ?_)
  refine wpAny_bind (wpAny_entryPlaceOf fun pl hpl => ?_)
  unfold EntryCells.newEntry newFields
  refine wpAny_bind (wpAny_newObj_type ?_ (hpl.sizeOk5 _ _ _ _ _))
  have e₁ : h₁.get? e = some oe := (x.2.1 e hee).trans he
  have st₁ : B.StaysIn h₁ := fun b o hb => (x.2.1 b fun hm => by rw [(fr.mem hm).1] at hb; cases hb).trans (st b o hb)
  have fr₁ : h₁.FunFrames B (env :: outer) := fr.of_slotsOnly x
  have up₁ : s.heap.UpToSlots h₁ := fun b o hb _ => x.2.2 b o hb
  generalize hob : ({ cls := .type "traceback", dict := none, data := .fields ([head, .ref L, .none, rawInt L, .none] ++ (if pl.isEmpty then List.replicate 6 Value.none else pl)).toArray } : Obj) = ob
  have kp : ∀ b o, h₁.get? b = some o → (h₁.push ob).get? b = some o := fun b o hb => Heap.get?_push_of_some _ hb
  have e₂ := kp _ _ e₁
  refine wpAny_setField e₂ hd hsz (hQ _ ?_ ?_)
  · have st₂ : B.StaysIn (h₁.push ob) := fun b o hb => kp _ _ (st₁ b o hb)
    have fr₂ : (h₁.push ob).FunFrames B (env :: outer) := fr₁.of_keeps fun b o hb _ => ⟨o, kp _ _ hb, rfl⟩
    obtain ⟨z1, z2, -⟩ := upd_rec (f := (·.setIfInBounds 1 (Value.ref h₁.objs.size))) e₂ hd hn st₂ fr₂
    have hd₃ := Obj.data_mapFields hd (·.setIfInBounds 1 (Value.ref h₁.objs.size))
    have ne : h₁.objs.size ≠ e := Nat.ne_of_gt (Heap.lt_size e₁)
    refine ⟨z1, hn, z2, _, _, Heap.get?_update_self _ e₂ (Obj.isFreed_of_fields hd₃), (Obj.cls_mapFields _ _).trans hc, (dict_mapFields _ _).trans hv, hd₃, h₁.objs.size, ob, _, by simp [hsz], st₁.fresh, ne, ?_, by subst hob; rfl, ?_⟩
    · exact (upd_other ne).trans (Heap.get?_push_size h₁ (by subst hob; rfl))
    · first | (simp; done) | (rcases hpl with rfl | ⟨_, _, _, _, _, _, _, rfl⟩ <;> simp)
  · exact up₁.trans ((Heap.UpToSlots.of_keeps kp).trans (fun b o hb hnn => ⟨o.slots, (upd_other (rec_ne e₂ hd hb hnn)).trans hb⟩))
theorem note_fly {B : Heap} {env : Env} {outer : List Env} {L e : Addr} {cls : Value} {dv : Option Addr} {fl : Option Value} {Q : Unit → Shared → Prop}
    (hfr : A.frames = some (env :: outer)) (hf : env.frame = some L) (x : Fly B (env :: outer) e cls dv fl s.heap)
    (hQ : ∀ h' f', Fly B (env :: outer) e cls dv (some f') h' → s.heap.UpToSlots h' → Q () { s with heap := h' }) : wpAny M A (noteFrame (.ref e) env) Q E s := by
  have x' := x
  refine cutC fun C_ kC_ => ?_
  obtain ⟨st, hn, fr, oe, vs, he, hc, hv, hd, ht⟩ := x
  refine kC_ ?_
  clear kC_ C_
  unfold noteFrame
  simp only [hf]
  cases fl with
  | none =>
    dsimp only at ht
    refine wpAny_bind (wpAny_field he hd ht ?_)
    rw [if_neg (by decide)]
    exact note_new hfr hf st hn fr he hc hv hd (Array.getElem?_eq_some_iff.mp ht).1 fun h' a b => hQ h' _ a b
  | some f =>
    dsimp only at ht
    refine cutC fun C_ kC_ => ?_
    obtain ⟨T, oT, ts, h1, hnT, hTe, hT, hdT, h3⟩ := ht
    refine kC_ ?_
    clear kC_ C_
    refine wpAny_bind (wpAny_field he hd h1 ?_)
    rw [if_pos (show (Value.ref T != Value.none) = true from by simp)]
    refine wpAny_bind (wpAny_field hT hdT h3 ?_)
    by_cases hq : (f == rawInt L) = true
    · rw [if_pos hq]
      exact wpAny_pure (hQ s.heap f x' (Heap.UpToSlots.refl _))
    · rw [if_neg hq]
      refine wpAny_bind (wpAny_setField hT hdT (Array.getElem?_eq_some_iff.mp h3).1 ?_)
      obtain ⟨z1, z2, z3⟩ := upd_rec (f := (·.setIfInBounds 3 Value.none)) hT hdT hnT st fr
      exact note_new hfr hf z1 hn z2 ((upd_other (Ne.symm hTe)).trans he) hc hv hd (Array.getElem?_eq_some_iff.mp h1).1 fun h' a b => hQ h' _ a (z3.trans b)
theorem set_fly {B : Heap} {l : List Env} {e : Addr} {cls f : Value} {dv fo : Option Addr} {Q : Unit → Shared → Prop}
    (x : Fly B l e cls dv (some f) s.heap) (hQ : ∀ h' f', Fly B l e cls dv (some f') h' → s.heap.UpToSlots h' → Q () { s with heap := h' }) : wpAny M A (setFlight (.ref e) fo) Q E s := by
  refine cutC fun C_ kC_ => ?_
  obtain ⟨st, hn, fr, oe, vs, he, hc, hv, hd, ht⟩ := x
  refine kC_ ?_
  clear kC_ C_
  dsimp only at ht
  refine cutC fun C_ kC_ => ?_
  obtain ⟨T, oT, ts, h1, hnT, hTe, hT, hdT, h3⟩ := ht
  refine kC_ ?_
  clear kC_ C_
  have hs3 : 3 < ts.size := (Array.getElem?_eq_some_iff.mp h3).1
  unfold setFlight
  refine wpAny_bind (wpAny_field he hd h1 ?_)
  rw [if_pos (show (Value.ref T != Value.none) = true from by simp)]
  obtain ⟨z1, z2, z3⟩ := upd_rec (f := (·.setIfInBounds 3 (fo.elim Value.none fun f => rawInt f))) hT hdT hnT st fr
  exact wpAny_setField hT hdT hs3 (hQ _ (fo.elim Value.none fun f => rawInt f) ⟨z1, hn, z2, oe, vs, (upd_other (Ne.symm hTe)).trans he, hc, hv, hd, T, _, _, h1, hnT, hTe, Heap.get?_update_self _ hT (Obj.isFreed_of_fields (Obj.data_mapFields hdT _)), Obj.data_mapFields hdT _, by simp [hs3]⟩ z3)
/-- an exception leaves a frame -/
theorem leave_fly {B : Heap} {env : Env} {outer : List Env} {L e : Addr} {cls : Value} {dv : Option Addr} {fl : Option Value} {Q : Unit → Shared → Prop}
    (hfr : A.frames = some (env :: outer)) (hf : env.frame = some L) (x : Fly B (env :: outer) e cls dv fl s.heap)
    (hQ : ∀ h' f', Fly B outer e cls dv (some f') h' → s.heap.UpToSlots h' → Q () { s with heap := h' }) : wpAny M A (leaving env (.ref e)) Q E s := by
  unfold leaving
  exact wpAny_bind (note_fly hfr hf x fun h₁ f a b => set_fly a fun h₂ f' a' b' => hQ h₂ f' a'.pop (b.trans b'))
/-- passed on -/
theorem pass_fly {B : Heap} {env : Env} {l : List Env} {e : Addr} {cls f : Value} {dv : Option Addr} {what : String} {Q : Value → Shared → Prop} (x : Fly B l e cls dv (some f) s.heap)
    (hE : ∀ h' f', Fly B l e cls dv (some f') h' → s.heap.UpToSlots h' → E (.ref e) { s with heap := h' }) : wpAny M A (PySem.passOn what (.ref e) env : Sem Value) Q E s := by
  have x' := x
  refine cutC fun C_ kC_ => ?_
  obtain ⟨st, hn, fr, oe, vs, he, hc, hv, hd, ht⟩ := x
  refine kC_ ?_
  clear kC_ C_
  dsimp only at ht
  refine cutC fun C_ kC_ => ?_
  obtain ⟨T, oT, ts, h1, hnT, hTe, hT, hdT, h3⟩ := ht
  refine kC_ ?_
  clear kC_ C_
  unfold PySem.passOn
  refine wpAny_bind (wpAny_field he hd h1 ?_)
  rw [if_neg (show ¬ (Value.ref T == Value.none) = true from by simp)]
  exact wpAny_bind (set_fly x' fun h₂ f' a' b' => wpAny_throw (hE h₂ f' a' b'))
theorem Fly.shrink {B B' : Heap} {l : List Env} {e : Addr} {cls : Value} {dv : Option Addr} {fl : Option Value} {h h' : Heap} {C : Addr} (x : Fly B l e cls dv fl h) (hB : ∀ b o, B'.get? b = some o → B.get? b = some o ∧ b ≠ C) (hC : ∃ o, B.get? C = some o) (sb : Heap.SameBut C h h') : Fly B' l e cls dv fl h' := by
  refine cutC fun C_ kC_ => ?_
  obtain ⟨st, hn, fr, oe, vs, he, hc, hv, hd, ht⟩ := x
  refine kC_ ?_
  clear kC_ C_
  obtain ⟨oC, eC⟩ := hC
  have no : ∀ {b : Addr}, B.get? b = none → B'.get? b = none := fun {b} hb => by
    cases q : B'.get? b with
    | none => rfl
    | some o => rw [(hB _ _ q).1] at hb; cases hb
  have ne : ∀ {b : Addr}, B.get? b = none → b ≠ C := fun {b} hb q => by rw [q, eC] at hb; cases hb
  refine ⟨fun b o q => (sb.2 b (hB _ _ q).2).trans (st _ _ (hB _ _ q).1), no hn, ?_, oe, vs, (sb.2 e (ne hn)).trans he, hc, hv, hd, ?_⟩
  · clear ht
    induction l with
    | nil => exact True.intro
    | cons env l ih =>
      refine cutC fun C_ kC_ => ?_
      obtain ⟨f1, ⟨L', o, f2, f3, f4, f5⟩, f6⟩ := fr
      refine kC_ ?_
      clear kC_ C_
      exact ⟨f1, ⟨L', o, f2, no f3, (sb.2 L' (ne f3)).trans f4, f5⟩, ih f6⟩
  · cases fl with
    | none => exact ht
    | some f =>
      dsimp only at ht ⊢
      refine cutC fun C_ kC_ => ?_
      obtain ⟨T, oT, ts, h1, hnT, hTe, hT, hdT, h3⟩ := ht
      refine kC_ ?_
      clear kC_ C_
      exact ⟨T, oT, ts, h1, no hnT, hTe, (sb.2 T (ne hnT)).trans hT, hdT, h3⟩
end
/-! ## Mak -/
section
theorem words0_Mak : True := by
  w_top off
  k_with_none
  trivial
section
open Builtin
variable {prog : Program} {w : World} {A : Around} {E : Value → Shared → Prop} {R : Result → Shared → Prop} {h : Heap} {g : Array GenState} {d : Drawn} {t : Nat} {os : OsState}
variable {nm q : Str} {C N : Addr} {bs bm : List Value} {hdct : Bool} {sn : List Str} {sub : List Value} {ab : Bool} {col : Option Bool} {dd : Option Addr} {k0 k1 k2 k3 k5 : Option Value}
theorem chk_new {M : Model} {rest : List Value} {Q : Unit → Shared → Prop} (hC : h.get? C = some (excClassObj nm q C N bs bm hdct sn sub ab col dd k0 k1 k2 k3 k5 "Exception.__new__")) (hb : bm.contains (.type "Exception") = true)
    (hq : Q () ⟨h, g, d, t, os⟩) : wpAny M A (checkBuiltinCall "Exception.__new__" ⟨.ref C :: rest, []⟩) Q E ⟨h, g, d, t, os⟩ := by
  have F := PySem.F.excBase_Exception
  have hcont : (Value.ref C :: bm).contains (.type "Exception") = true := by rw [List.contains_cons, hb, Bool.or_true]
  have hstar := F.noStar
  simp only [checkBuiltinCall, F.newKind, F.newSplit, F.newRow]
  repeat (first | with_reducible refine wpAny_loadPart_at hC ?_ | (with_reducible refine wpAny_isSubtype_exc hC ?_; rw [hcont]) | with_reducible refine wpAny_staticBase_exc hC ?_ | with_reducible refine wpAny_madeBy_exc hC ?_ | simp only [bne_self_eq_false, Bool.false_eq_true, if_false] | wp_step)
  exact hq
theorem exc_new {rest : List Value} (hC : h.get? C = some (excClassObj nm q C N bs bm hdct sn sub ab col dd k0 k1 k2 k3 k5 "Exception.__new__")) (hb : bm.contains (.type "Exception") = true) (ha : bm.contains (.type "AttributeError") = false) (hn : bm.contains (.type "NameError") = false)
    (hq : R (.ok (.ret (.ref (h.objs.size + 1)))) ⟨(h.push (tupObj rest)).push (excObj C h.objs.size none), g, d, t, os⟩) (hrest : rest.length ≤ sizeLine := by size_fits) :
    codeAny (model prog w) A (.builtin "Exception.__new__" ⟨.ref C :: rest, []⟩) R ⟨h, g, d, t, os⟩ := by
  have F := PySem.F.excBase_Exception
  have hends := F.ends
  have hcB : (Value.ref C :: bm).contains (.type "Exception") = true := by rw [List.contains_cons, hb, Bool.or_true]
  have hcA : (Value.ref C :: bm).contains (.type "AttributeError") = false := by rw [List.contains_cons, ha]; rfl
  have hcN : (Value.ref C :: bm).contains (.type "NameError") = false := by rw [List.contains_cons, hn]; rfl
  refine codeAny_builtinAt F.entry ?_
  unfold Builtin.«BaseException.__new__»
  refine PySem.wpAt_bind ?_
  show PySem.wpAt _ _ _ (stack >>= _) _ _ _
  refine PySem.wpAt_bind (PySem.wpAt_stack fun p below => PySem.wpAt_of_wpAny ?_)
  wp_walk
  refine PySem.wpAt_of_wpAny ?_
  rw [F.owner]
  repeat (first | with_reducible refine wpAny_madeHere_exc F.canon hC ?_ | with_reducible refine wpAny_loadPart_at hC ?_ | (with_reducible refine wpAny_isSubtype_exc hC ?_; first | rw [hcB] | rw [hcA] | rw [hcN]) | wp_step)
  show R _ _
  rw [Heap.size_push]
  exact hq
theorem exc_type_call {rest : List Value} {fI : Addr} (hC : h.get? C = some (excClassObj nm q C N bs bm hdct sn sub ab col dd k0 k1 k2 k3 k5 "Exception.__new__")) (hb : bm.contains (.type "Exception") = true) (ha : bm.contains (.type "AttributeError") = false) (hn : bm.contains (.type "NameError") = false)
    (hi : Looks (model prog w) h (typeLookup (.ref C) "__init__") (some (.ref fI))) (hbd : ∀ self, Looks (model prog w) h (bindSpecial (.ref fI) self) (.ref fI, [self]))
    (hq : codeAny (model prog w) (A.under (.builtin "type.__call__" ⟨.ref C :: rest, []⟩)) (.call (.ref fI) ⟨.ref (h.objs.size + 1) :: rest, []⟩) (InitBack (h.objs.size + 1) R) ⟨(h.push (tupObj rest)).push (excObj C h.objs.size none), g, d, t, os⟩) (hrest : rest.length ≤ sizeLine := by size_fits) :
    codeAny (model prog w) A (.call (.ref C) ⟨rest, []⟩) R ⟨h, g, d, t, os⟩ := by
  have f1 := tc_lookup
  have f2 := tc_bind (.ref C)
  have F := PySem.F.excBase_Exception
  have hT : (⟨h, g, d, t, os⟩ : Shared).TypeIs (.ref C) "type" := ⟨_, hC, rfl⟩
  refine codeAny_of_tree ?_
  show wpAny _ _ (callAny (.ref C) _) _ _ _
  repeat (any_goals (first | with_reducible assumption | with_reducible refine wpAny_loadPart_at hC ?_ | wp_step))
  refine ⟨rfl, ?_⟩
  refine codeAny_call_builtin_at (Code.quiet_builtin _ (by decide +kernel)) entry_typeCall (wpAny_check_type_call_sub hC ?_)
  repeat (first | with_reducible refine wpAny_loadPart_at hC ?_ | with_reducible refine wpAny_madeBy_exc hC ?_ | wp_step)
  refine codeAny_call_builtin_code (Code.quiet_builtin _ F.quiet) (chk_new hC hb ?_)
  refine exc_new hC hb ha hn ?_ hrest
  show wpAny (model prog w) (A.under (.builtin "type.__call__" ⟨.ref C :: rest, []⟩)) _ _ _ ⟨(h.push (tupObj rest)).push (excObj C h.objs.size none), g, d, t, os⟩
  have kk : ∀ b o, h.get? b = some o → ((h.push (tupObj rest)).push (excObj C h.objs.size none)).get? b = some o := fun b o e => Heap.get?_push_of_some _ (Heap.get?_push_of_some _ e)
  have hC₁ := kk _ _ hC
  have hget : ((h.push (tupObj rest)).push (excObj C h.objs.size none)).get? (h.objs.size + 1) = some (excObj C h.objs.size none) := by heap_get
  have hcC : (Value.ref C :: bm).contains (.ref C) = true := by simp
  have t1 : Looks (model prog w) ((h.push (tupObj rest)).push (excObj C h.objs.size none)) (typeOf (.ref (h.objs.size + 1))) (.ref C) := (Looks.ld hget).andThen .now
  have s1 : Looks (model prog w) ((h.push (tupObj rest)).push (excObj C h.objs.size none)) (isSubtype (.ref C) (.ref C)) true := fun A Q E s k q => by
    refine cutC fun C_ kC_ => ?_
    obtain ⟨hh, _, _, _, _⟩ := s
    refine kC_ ?_
    clear kC_ C_
    exact wpAny_isSubtype_exc (k _ _ hC₁) (by rw [hcC]; exact q)
  have i1 := hi.keeps kk
  have b1 := (hbd (.ref (h.objs.size + 1))).keeps kk
  unfold isInstance callSpecial? specialOf
  repeat (first | with_reducible refine wpAny_call ?_ | lk)
  refine codeAny_mono hq fun r s' z => ?_
  rcases r with e | (v | _ | _ | _) <;> first | exact z | exact z.elim | skip
  obtain ⟨rfl, z⟩ := z
  exact wpAny_pure (wpAny_pure z)
theorem under_call {dp un : Nat} {l : List Env} {C : Addr} {rest : List Value} : (ctr dp un l).under (.builtin "type.__call__" ⟨.ref C :: rest, []⟩) = ctr (dp + 1) (un + 1) l := by rfl
end
end
/-! ## Pan -/
section
theorem words0_Pan : True := by
  w_top off
  k_with_none
  trivial
variable {prog : Program} {w : World} {p : Program} {loose : List Str} {mean : ExcName → Option Value} {mg mb : Str → Option Value} {s : Shared}
theorem meta_exception : typeOf (.type "Exception") = pure (.type "type") := by first | rfl | kernel_rfl
/-- enterM for a function with defaults -/
theorem enterD {ms : List Addr} {D U : Nat} {P : Value → Heap → Prop} {news : List (Addr × Obj)} {name qual : Str} {params : Arguments} {body : List Stmt} {scope : Scope} {dV kV doc pm cdv ct oc : Value} {an od : Option Addr} {osl : Array (Option Value)} {f : Addr} {args : Args} {binds : List (Str × Value)}
    (hm : news.map (·.1) = ms) (N : ∀ q ∈ news, s.heap.get? q.1 = some q.2)
    (ho : (pre.heap_1 w.params).lookup f = some ⟨oc, od, .func (fnOf name qual params body scope dV kV doc pm an cdv ct), osl⟩) (hcd : codeIn (pre.heap_1 w.params) cdv qual = true)
    (hro : D < recursionLimit)
    (hbind : ∀ S, peek (pre.heap_1 w.params) S (bindArgs (fnOf name qual params body scope dV kV doc pm an cdv ct) args) = some binds) (hloc : ∀ y ∈ binds, scope.names.lookup y.1 = some .local)
    (h : ∀ (l : List Env) (A₀ : Around) (base g : Heap) (L' : Addr) (h₁ : Heap), Keep ms s.heap g → g.objs.size = s.heap.objs.size →
      Fr g L' h₁ (fun y => binds.reverse.lookup y) → News g L' h₁ news → (∀ q ∈ news, q.1 < L') → Below A₀ base l g → (pre.heap_1 w.params).In g → Top p loose mean mg mb g →
      ∀ R : Value → Shared → Prop, Ends s g P R → wpAny (model prog w) ((ctr D U l).deeper (envOf qual scope L' f cdv)) (execs body (envOf qual scope L' f cdv))
        (fun fl s' => EndR R (match fl with | .ret v => v | _ => .none) s')
        (fun _ _ => False)
        { s with heap := h₁, toks := s.toks + binds.length })
    (hco : scope.isCoroutine = false := by rfl) (hgen : scope.isGenerator = false := by rfl) (hk : scope.kind = .function := by rfl)
    (hcell : ∀ x ∈ scope.names, x.2 ≠ .cell := by decide) : Does prog w p loose mean mg mb ms D U s (.call (.ref f) args) P := by
  intro l A₀ base X T B
  have st : ∀ b o, (hideAll s.heap ms).get? b = some o → s.heap.get? b = some o := fun b o e => of_hideAll _ e
  refine codeAny_call_def (fd := fnOf name qual params body scope dV kV doc pm an cdv ct) (body := body) (binds := binds) hro (st _ _ (X _ _ ho)) rfl (T.nolimit.keeps st) (codeRec_of (X.keeps st) hcd) rfl (kp_binds (X.keeps st) hbind) hcell hloc (fun h₁ hns hk₁ => ?_) hco hgen hk
  have K1 : Keep ms s.heap (hideAll s.heap ms) := fun a o e n => hideAll_get _ e n
  have F : Fr (hideAll s.heap ms) s.heap.objs.size h₁ (fun y => binds.reverse.lookup y) := ⟨hns, fun b o e => hk₁ b o (st b o e), Nat.le_of_eq (hideAll_size _ _)⟩
  have N' : News (hideAll s.heap ms) s.heap.objs.size h₁ news := fun q hq => ⟨hk₁ _ _ (N q hq), Nat.ne_of_lt (Heap.lt_size (N q hq)), hideAll_none _ (hm ▸ List.mem_map_of_mem hq)⟩
  refine wpAny_mono (h l A₀ base (hideAll s.heap ms) s.heap.objs.size h₁ K1 (hideAll_size _ _) F N' (fun q hq => Heap.lt_size (N q hq)) B X T _ ends) (fun fl s' hl => ?_) fun _ _ y => y.elim
  refine cutC fun C_ kC_ => ?_
  obtain ⟨L'', m', h', tk, rfl, F', hp⟩ := hl
  refine kC_ ?_
  clear kC_ C_
  refine ⟨_, h', tk, rfl, rfl, fun a o e n => F'.keep _ _ (K1 a o e n), ?_, hp⟩
  refine cutC fun C_ kC_ => ?_
  obtain ⟨oL, _, _, hL, _⟩ := F'.ns
  refine kC_ ?_
  clear kC_ C_
  have h1 := F'.above
  rw [hideAll_size] at h1
  exact Nat.le_of_lt (Nat.lt_of_le_of_lt h1 (Heap.lt_size hL))
theorem words_Pan39 : True := by
  k_with "m_ex" => (first | with_reducible exact exAt0 | with_reducible exact exAt1 | with_reducible exact exAt2 | with_reducible exact exAt3 | with_reducible exact exAt4 | with_reducible exact exAt5 | with_reducible exact exAt6 | with_reducible exact exAt7 | with_reducible exact exAt8 | with_reducible exact exAt9 | with_reducible exact exAt10 | with_reducible exact exAt11 | with_reducible exact exAt12 | with_reducible exact exAt13 | with_reducible exact exAt14 | with_reducible exact exAt15 | with_reducible exact exAt16 | with_reducible exact exAt17 | with_reducible exact exAt18 | with_reducible exact exAt19 | with_reducible exact exAt20 | with_reducible exact exAt21 | with_reducible exact exAt22 | with_reducible exact exAt23)
  k_with "m_enter" => ((case ho => k_is); (case hcd => k_is); (case hro => decide); (case hb => exact BindsTo.of_eq rfl); (case hl => exact locs rfl); (case c2 => exact rfl); (case c3 => exact rfl); (case c4 => exact rfl); (case c5 => decide))
  k_with "m_enterC" => ((case ho => k_is); (case hcd => k_is); (case hro => decide); (case hb => exact BindsTo.of_eq rfl); (case hl => exact rfl); (case hnd => decide +kernel); (case c2 => exact rfl); (case c3 => exact rfl); (case c4 => exact rfl))
  k_with "EndR" => (refine endR (by with_reducible assumption) (by k_asm) ?_)
  k_with "k_mem" => first | with_reducible exact inAt0 | with_reducible exact inAt1 | with_reducible exact inAt2 | with_reducible exact inAt3 | with_reducible exact inAt4 | with_reducible exact inAt5 | with_reducible exact inAt6 | with_reducible exact inAt7 | with_reducible exact inAt8 | with_reducible exact inAt9 | with_reducible exact inAt10 | with_reducible exact inAt11 | with_reducible exact inAt12 | with_reducible exact inAt13 | with_reducible exact inAt14 | with_reducible exact inAt15 | with_reducible exact inAt16 | with_reducible exact inAt17 | with_reducible exact inAt18 | with_reducible exact inAt19 | with_reducible exact inAt20 | with_reducible exact inAt21 | with_reducible exact inAt22 | with_reducible exact inAt23
  k_with "k_ne" => first | with_reducible assumption | exact neSym (by with_reducible assumption) | exact neLt (by with_reducible assumption) | exact neGt (by with_reducible assumption) | fail
  k_with "call builtin:isinstance" => (k_here; (with_reducible show wpAny _ _ (call _ [Value.ref _, Value.type _]) _ _ _); k_dflt (refine kia_one kitx_tuple (by k_in) (by exact kit_base (by k_asm) (by assumption)) (by kit_is) (by kit_nb) ?_; k_whole); intro _)
  k_with "subscriptTail" => (k_here; (with_reducible show wpAny _ _ (subscriptTail _ _ (Value.ref _) (Value.int _ _)) _ _ _); k_dflt (refine item_tupleT (by first | exact isTup_base (by k_asm) (by assumption) | exact isTup_sure (by assumption) (by k_asm) (by k_asm) (by walk_at "m_ex")) (by decide) (by decide) (by rfl) (by rfl) ?_; k_whole))
  k_with "ElEnd" => (refine ElEnd.intro (by k_asm) (by k_asm) (fmc (by k_mem) (by walk_at "m_ex")) ?_)
  k_with "call type:tuple" => (k_here; (with_reducible show wpAny _ _ (call (Value.type _) [Value.ref _]) _ _ _); k_dflt (refine kde_tupleOf (by k_asm) (by k_asm) (by exact News.isList (by k_asm) (by k_mem)) (by (simp only [List.size_toArray]; omega)) (by exact rfl) ?_; k_whole); intro D' h' F' N' l1; (try k_lt l1); (try k_sweep))
  k_with "m_use" => ((case B => k_asm); (case F => k_asm); (case X => k_asm); (case N => k_asm); (case T => k_asm); (case hk => exact rfl); (case hd => exact Nat.le_of_ble_eq_true rfl); (case hu => exact Nat.le_of_ble_eq_true rfl))
  k_with "m_rep" => ((rename News _ _ _ _ => N9); repeat' (first | with_unfolding_all exact RepAll.nil | with_unfolding_all exact Rep.none | with_unfolding_all exact Rep.bool _ | with_unfolding_all exact Rep.int _ _ | with_unfolding_all exact Rep.str _ _ | with_unfolding_all exact Rep.bytes _ _ | with_unfolding_all refine RepAll.cons ?_ ?_ | with_unfolding_all refine Rep.tup (News.get N9 (by k_mem)) ?_))
  k_with "m_repin" => (first | assumption | exact rep_now (by k_asm) (by assumption) | exact Sure.now (by assumption) (by k_asm) (by k_asm) (by walk_at "m_ex"))
  k_with "call builtin:repr" => (k_here; (with_reducible show wpAny _ _ (call (Value.builtin "repr") [_]) _ _ _); (refine repr_L (by k_asm) (by k_asm) (by walk_at "m_repin") (by exact Nat.le_of_ble_eq_true rfl) ?_); (intro h9 tk9 t9 F9 N9); (try dsimp only); (try k_sweep))
  k_with "compareOp Eq str str" => (k_here; first | refine eq_text_t (by assumption) ?_ | refine eq_text_f (by assumption) ?_)
  k_with "compareOp NotEq str str" => (k_here; first | refine ne_text_t (by assumption) ?_ | refine ne_text_f (by assumption) ?_)
  k_with "compareOp Eq" => (k_here; first | (refine eq_key_t (by assumption) (by walk_at "m_repin") (by walk_at "m_repin") (by exact Nat.le_of_ble_eq_true rfl) ?_) | (refine eq_key_f (by assumption) (by walk_at "m_repin") (by walk_at "m_repin") (by exact Nat.le_of_ble_eq_true rfl) ?_))
  k_with "k_inst" => exact inst_base (by k_asm) (by assumption) (by assumption)
  k_with "m_subs" => first | exact List.forall_mem_nil _ | (refine fmc (by k_mem) ?_; walk_at "m_subs")
  k_with "m_avs" => (intro q hq; simpa using hq)
  k_with "m_off1" => first | exact List.not_mem_nil | (refine nmc (by k_ne) ?_; walk_at "m_off1")
  k_with "m_offs" => first | exact List.forall_mem_nil _ | (refine fmc ?_ ?_; (· (dsimp only [List.map_cons, List.map_nil]; walk_at "m_off1")); walk_at "m_offs")
  k_with "m_sa" => first | exact List.forall_mem_nil _ | (refine fmc (by k_mem) ?_; walk_at "m_sa")
  trivial

theorem words_Pan40 : True := by
  k_with "getMethod type:Exception" => (k_here; refine method_type (by k_asm) (by k_asm) (by exact meta_exception) (by decide +kernel) (by k_dflt k_is) (by k_handed) ?_)
  k_with "call builtin:Exception.__init__" => (k_here; refine exc_init (K := pre.heap_1 _) (by k_asm) (by k_asm) ?_ (by k_asm) (by k_updF) ?_; (· kts_isx); intro h' tt F' N' l1; (try dsimp only at N'); (try k_lt l1); (try k_sweep))
  trivial
local macro_rules | `(tactic| walk_at "setAttr ref") => `(tactic| (k_here; first
  | (refine' exc_set1 (K := pre.heap_1 _) ?k1 ?k2 ?k3 ?k4 ?k5 ?k6 ?k7 ?k8 ?k9 ?k10 ?k11 ?k12 ?_; (case k1 => k_asm); (case k2 => k_asm); (case k3 => k_asm); (case k4 => k_mem); (case k11 => k_updF); (case k5 => k_is); (case k6 => kernel_rfl); (case k7 => k_is); (case k8 => k_is); (case k9 => k_get); (case k10 => k_put); (case k12 => exact Nat.le_of_ble_eq_true rfl); intro h' F' N'; (try dsimp only at N'); (try k_sweep))
  | (refine' exc_set0 (K := pre.heap_1 _) ?k1 ?k2 ?k3 ?k4 ?k5 ?k6 ?k7 ?k8 ?_; (case k1 => k_asm); (case k2 => k_asm); (case k3 => k_asm); (case k4 => k_updF); (case k5 => k_is); (case k6 => kernel_rfl); (case k7 => k_is); (case k8 => k_is); intro h' dx F' N' l1 l2; (try dsimp only at N'); (try k_lt l1); (try k_sweep))))
theorem init29_does {e t0 tm : Nat} (he : s.heap.get? e = some (excObj 52 t0 none)) :
    Does prog w p loose mean mg mb [e] 390 400 s (.call (.ref 29) ⟨[.ref e, .str (Str.ofString "panic") tm], []⟩) (fun r h' => r = .none ∧ ∃ tt dx t1 t2 ti, h'.get? e = some (excObj 52 tt (some dx)) ∧ h'.get? dx = some (dictOf [fldE w (Str.ofString "message") t1 (.str (Str.ofString "panic") tm), fldE w (Str.ofString "spot") t2 (.int 0 ti)] 2) ∧ s.heap.objs.size ≤ dx) := by
  refine' enterD (news := [(e, excObj 52 t0 none)]) (binds := [("self", .ref e), ("message", .str (Str.ofString "panic") tm), ("spot", .int 0 201)]) ?hm ?hN ?ho ?hcd ?hro ?hb ?hl ?_ ?c2 ?c3 ?c4 ?c5
  case hm => exact rfl
  case hN => (intro q hq; simp only [List.mem_cons, List.not_mem_nil, or_false] at hq; rcases hq with rfl; exact he)
  case ho => k_is
  case hcd => k_is
  case hro => decide
  case hb => exact fun _ => rfl
  case hl => exact locs rfl
  case c2 => exact rfl
  case c3 => exact rfl
  case c4 => exact rfl
  case c5 => decide
  intro l A₀ base g L' h' KG hz' F' N' ll B' X' T' Rz hRz
  try dsimp only
  try k_fold
  try k_lt ll
  k_steps
  unfold Hold
  (rename News _ _ _ _ => N9)
  exact ⟨rfl, _, _, _, _, _, News.get N9 (by k_mem), News.get N9 (by k_mem), by omega⟩
theorem words_Pan41 : True := by
  k_with "call ref" => (k_here; (first | (with_reducible show wpAny _ _ (call (Value.ref 29) _ _) _ _ _)); refine stop ?_)
  trivial
theorem init49_does {e t0 tv : Nat} (he : s.heap.get? e = some (excObj 52 t0 none)) :
    Does prog w p loose mean mg mb [e] 380 380 s (.call (.ref 49) ⟨[.ref e, .ref tv], []⟩) (fun r h' => r = .none ∧ ∃ tt dx t1 t2 t3 tm ti, h'.get? e = some (excObj 52 tt (some dx)) ∧ h'.get? dx = some (dictOf [fldE w (Str.ofString "message") t1 (.str (Str.ofString "panic") tm), fldE w (Str.ofString "spot") t2 (.int 0 ti), fldE w (Str.ofString "value") t3 (.ref tv)] 3) ∧ s.heap.objs.size ≤ dx) := by
  refine' enterM (news := [(e, excObj 52 t0 none)]) (binds := [("self", .ref e), ("value", .ref tv)]) ?hm ?hN ?ho ?hcd ?hro ?hb ?hl ?_ ?c2 ?c3 ?c4 ?c5
  case hm => exact rfl
  case hN => (intro q hq; simp only [List.mem_cons, List.not_mem_nil, or_false] at hq; rcases hq with rfl; exact he)
  walk_at "m_enter"
  intro l A₀ base g L' h' KG hz' F' N' ll B' X' T' Rz hRz
  try dsimp only
  try k_fold
  try k_lt ll
  k_steps
  unfold Stop
  (rename Fr _ _ _ _ => F0)
  (rename News _ _ _ _ => N0)
  refine useX (sub := [(e, _)]) (kp := []) (ex := []) (av := [e]) B' F0 X' N0 T' rfl (by walk_at "m_subs") (List.forall_mem_nil _) (List.forall_mem_nil _) (List.forall_mem_nil _) (List.forall_mem_nil _) (by walk_at "m_sa") (init29_does (News.get N0 (by k_mem))) (Nat.le_of_ble_eq_true rfl) (Nat.le_of_ble_eq_true rfl) ?_
  intro v9 h9 tk9 ex F9 N9 _ hoff hx nw nn gz q9
  apply cutV (v := v9)
  intro C_ kC_
  obtain ⟨rfl, tt, dx, t1, t2, ti, e1, e2, z9⟩ := q9
  refine kC_ _ ?_
  clear kC_ C_
  obtain ⟨Nd, ld⟩ := nn dx _ z9 e2
  have zz := Nat.le_trans gz z9
  (try simp only [AllLt, and_true] at ld)
  replace N9 := News.append (nw e _ (by simp) e1) Nd
  dsimp only [List.cons_append, List.nil_append] at N9
  clear nw nn hx F0 N0 e1 e2
  try dsimp only
  k_steps
  unfold Hold
  (rename News _ _ _ _ => N8)
  exact ⟨rfl, _, _, _, _, _, _, _, News.get N8 (by k_mem), News.get N8 (by k_mem), by omega⟩
noncomputable abbrev panicD (w : World) (t1 t2 t3 tm ti tv : Nat) : Obj := dictOf [fldE w (Str.ofString "message") t1 (.str (Str.ofString "panic") tm), fldE w (Str.ofString "spot") t2 (.int 0 ti), fldE w (Str.ofString "value") t3 (.ref tv)] 3
theorem make52 {A₀ : Around} {base h₀ : Heap} {outer : List Env} {L : Addr} {m : Str → Option Value} {cn : Str} {cs : Scope} {a : Addr} {ccd : Value} {cl : List (Str × Addr)} {dp un tv : Nat} {Q E : Value → Shared → Prop} {news : List (Addr × Obj)}
    (B : Below A₀ base outer h₀) (F : Fr h₀ L s.heap m) (X : (pre.heap_1 w.params).In h₀) (N : News h₀ L s.heap news) (T : Top p loose mean mg mb h₀) (hk : cs.kind = .function) (hd' : dp + 1 ≤ 380) (hu : un + 1 ≤ 380)
    (ret : ∀ h' tk (e dx tt t1 t2 t3 tm ti : Nat), Fr h₀ L h' m → News h₀ L h' ((e, excObj 52 tt (some dx)) :: (dx, panicD w t1 t2 t3 tm ti tv) :: news) → (∀ p ∈ news, p.1 < e) → s.heap.objs.size ≤ e → e < dx → Q (.ref e) { s with heap := h', toks := tk }) :
    wpAny (model prog w) (ctr dp un (envX cn cs L a ccd cl :: outer)) (call (.ref 52) [.ref tv]) Q E s := by
  refine cutC fun C_ kC_ => ?_
  obtain ⟨hp, g, d, t, os⟩ := s
  refine kC_ ?_
  clear kC_ C_
  have X1 : (pre.heap_1 w.params).In hp := X.keeps F.keep
  refine wpAny_call (exc_type_call (X1 _ _ (by k_is)) (by decide) (by decide) (by decide) (looks_findIn X1 (by k_is)) (fun self => bind_fn X1 self (by k_is)) ?_)
  rw [under_call]
  have F1 : Fr h₀ L ((hp.push (tupObj [.ref tv])).push (excObj 52 hp.objs.size none)) m := (F.push _).push _
  have N1 : News h₀ L ((hp.push (tupObj [.ref tv])).push (excObj 52 hp.objs.size none)) ((hp.objs.size + 1, excObj 52 hp.objs.size none) :: (hp.objs.size, tupObj [.ref tv]) :: news) := by
    have := (N.push F (tupObj [.ref tv])).push (F.push _) (excObj 52 hp.objs.size none)
    rwa [Heap.size_push] at this
  have Ns : News h₀ L ((hp.push (tupObj [.ref tv])).push (excObj 52 hp.objs.size none)) [(hp.objs.size + 1, excObj 52 hp.objs.size none)] := fun q hq => N1 q (by rw [List.mem_singleton.mp hq]; exact List.mem_cons_self ..)
  obtain ⟨FG, BG, st, -⟩ := groundX (s := ⟨(hp.push (tupObj [.ref tv])).push (excObj 52 hp.objs.size none), g, d, t, os⟩) (A := ctr (dp + 1) (un + 1) (envX cn cs L a ccd cl :: outer)) (env := envX cn cs L a ccd cl) (R := fun _ _ => True) B F1 Ns rfl rfl hk
  refine codeAny_mono (codeAny_ctr (init49_does (s := ⟨(hp.push (tupObj [.ref tv])).push (excObj 52 hp.objs.size none), g, d, t, os⟩) (tv := tv) (Ns _ (List.mem_cons_self ..)).1 _ _ base (X.keeps st) (T.keeps st) BG) hd' hu) fun r s' q_ => ?_
  obtain ⟨v, h', tk, e1, e2, kp, z, q⟩ := q_
  subst e1 e2
  refine cutC fun C_ kC_ => ?_
  obtain ⟨rfl, tt, dx, t1, t2, t3, tm, ti, e3, e4, z4⟩ := q
  refine kC_ ?_
  clear kC_ C_
  have F2 : Fr h₀ L h' m := by
    refine ⟨?_, fun b o e => ?_, F.above⟩
    · refine cutC fun C_ kC_ => ?_
      obtain ⟨oL, es, ep, hL, hLd, hLk, hLf⟩ := F1.ns
      refine kC_ ?_
      clear kC_ C_
      exact ⟨oL, es, ep, kp _ _ hL fun q => (Ns _ (List.mem_cons_self ..)).2.1 (List.mem_singleton.mp q).symm, hLd, hLk, hLf⟩
    · refine kp _ _ (F1.keep _ _ e) fun q => ?_
      have e' := (Ns _ (List.mem_cons_self ..)).2.2
      rw [← List.mem_singleton.mp q, e] at e'
      cases e'
  have hz : hp.objs.size < ((hp.push (tupObj [.ref tv])).push (excObj 52 hp.objs.size none)).objs.size := by rw [Heap.size_push, Heap.size_push]; omega
  have hz2 : ((hp.push (tupObj [.ref tv])).push (excObj 52 hp.objs.size none)).objs.size = hp.objs.size + 1 + 1 := by rw [Heap.size_push, Heap.size_push]
  have lt : ∀ p ∈ news, p.1 < hp.objs.size := fun p hp' => Heap.lt_size (N p hp').1
  refine ⟨rfl, ret h' tk (hp.objs.size + 1) dx tt t1 t2 t3 tm ti F2 (fun q hq => ?_) (fun p hp' => Nat.lt_succ_of_lt (lt p hp')) (Nat.le_succ _) (by rw [hz2] at z4; exact z4)⟩
  rcases List.mem_cons.mp hq with rfl | hq
  · exact ⟨e3, (Ns _ (List.mem_cons_self ..)).2⟩
  · rcases List.mem_cons.mp hq with rfl | hq
    · exact News_made (news' := []) F1 z4 e4 (List.forall_mem_nil _) _ (List.mem_cons_self ..)
    · have hlt := lt q hq
      exact ⟨kp _ _ (N1 q (by simp [hq])).1 fun e => by
        exact absurd (List.mem_singleton.mp e) (Nat.ne_of_lt (Nat.lt_succ_of_lt hlt)), (N q hq).2⟩
theorem words_Pan42 : True := by
  k_with "getMethod str" => (k_here; with_reducible refine hash_method ?_)
  k_with "call builtin:str.encode" => (k_here; with_reducible refine hash_encode ?_; intro _ _)
  k_with "call ref" => (k_here; (first | (with_reducible show wpAny _ _ (call (Value.ref 52) _ _) _ _ _)); refine stop ?_)
  trivial
/-- a panic that was made: what its attributes hold -/
structure PanicAt (w : World) (z : Heap) (e : Nat) (h : Heap) : Prop where
  at_ : ∃ dx tt tv t1 t2 t3 tm ti tf tb, h.get? e = some (excObj 52 tt (some dx)) ∧ h.get? dx = some (panicD w t1 t2 t3 tm ti tv) ∧ h.get? tv = some (tupObj [.str (Str.ofString "face") tf, .ref 55, .bytes #[104,97,115,104,32,111,102,32,117,110,104,97,115,104,97,98,108,101,32,116,121,112,101] tb]) ∧ z.get? e = none ∧ z.get? dx = none ∧ z.get? tv = none
theorem panic62_does {tm : Nat} :
    Does prog w p loose mean mg mb [] 370 360 s (.call (.ref 62) ⟨[.str (Str.ofString "hash of unhashable type") tm], []⟩) (fun r h' => ∃ e, r = .ref e ∧ PanicAt w s.heap e h') := by
  refine' enterM (news := []) (binds := [("text", .str (Str.ofString "hash of unhashable type") tm)]) ?hm ?hN ?ho ?hcd ?hro ?hb ?hl ?_ ?c2 ?c3 ?c4 ?c5
  case hm => exact rfl
  case hN => exact List.forall_mem_nil _
  walk_at "m_enter"
  intro l A₀ base g L' h' KG hz' F' N' ll B' X' T' Rz hRz
  try dsimp only
  try k_fold
  k_steps
  unfold Stop
  (rename Fr _ _ _ _ => F0)
  (rename News _ _ _ _ => N0)
  refine make52 B' F0 X' N0 T' rfl (Nat.le_of_ble_eq_true rfl) (Nat.le_of_ble_eq_true rfl) ?_
  intro h9 tk9 e dx tt t1 t2 t3 tm ti F9 N9 l1 l2 l3
  have fr : ∀ {b : Addr} {o : Obj}, News g L' h9 [(b, o)] → s.heap.get? b = none := fun {b o} N => by
    cases e : s.heap.get? b with
    | none => rfl
    | some o' =>
      have h1 := KG _ _ e List.not_mem_nil
      rw [(N _ (List.mem_cons_self ..)).2.2] at h1
      cases h1
  refine endR hRz F9 ?_
  unfold Hold
  exact ⟨e, rfl, dx, tt, _, t1, t2, t3, tm, ti, _, _, News.get N9 (by k_mem), News.get N9 (by k_mem), News.get N9 (by k_mem), fr fun q hq => N9 q (by rw [List.mem_singleton.mp hq]; k_mem), fr fun q hq => N9 q (by rw [List.mem_singleton.mp hq]; k_mem), fr fun q hq => N9 q (by rw [List.mem_singleton.mp hq]; k_mem)⟩
end
/-! ## Thr -/
section
theorem words0_Thr : True := by
  w_top off
  k_with_none
  trivial
variable {prog : Program} {w : World} {p : Program} {loose : List Str} {mean : ExcName → Option Value} {mg mb : Str → Option Value} {s : Shared} {A : Around} {E : Value → Shared → Prop}
/-- the panic's attributes in a heap -/
inductive Holds (w : World) (z : Heap) (dx : Addr) (B : Heap) : Prop
  | mk (tv t1 t2 t3 tm ti tf tb : Nat) (e1 : B.get? dx = some (panicD w t1 t2 t3 tm ti tv)) (e2 : B.get? tv = some (tupObj [.str (Str.ofString "face") tf, .ref 55, .bytes #[104,97,115,104,32,111,102,32,117,110,104,97,115,104,97,98,108,101,32,116,121,112,101] tb])) (z1 : z.get? dx = none) (z2 : z.get? tv = none) : Holds w z dx B
theorem Holds.back {z z' : Heap} {dx : Addr} {B : Heap} (x : Holds w z dx B) (k : ∀ b o, z'.get? b = some o → z.get? b = some o) : Holds w z' dx B := by
  obtain ⟨tv, t1, t2, t3, tm, ti, tf, tb, a, b, c, d⟩ := x
  have no : ∀ {b : Addr}, z.get? b = none → z'.get? b = none := fun {b} hb => by
    cases q : z'.get? b with
    | none => rfl
    | some o => rw [k _ _ q] at hb; cases hb
  exact ⟨tv, t1, t2, t3, tm, ti, tf, tb, a, b, no c, no d⟩
/-- a panic that flies out of code that began at heap z, over the frames l -/
inductive Thrown (w : World) (z : Heap) (l : List Env) (e : Addr) (h : Heap) : Prop
  | mk (B : Heap) (dx : Addr) (fl : Option Value) (k : ∀ b o, z.get? b = some o → b ∉ l.filterMap (·.frame) → B.get? b = some o) (f : Fly B l e (.ref 52) (some dx) fl h) (u : z.UpToSlots h) (x : Holds w z dx B) (n : z.get? e = none) : Thrown w z l e h
theorem none_back {z z' : Heap} (k : ∀ b o, z'.get? b = some o → z.get? b = some o) {b : Addr} (hb : z.get? b = none) : z'.get? b = none := by
  cases q : z'.get? b with
  | none => rfl
  | some o => rw [k _ _ q] at hb; cases hb
theorem Thrown.back {z z' : Heap} {l : List Env} {e : Addr} {h : Heap} (x : Thrown w z l e h) (k : ∀ b o, z'.get? b = some o → z.get? b = some o) : Thrown w z' l e h := by
  obtain ⟨B, dx, fl, a, b, c, d, e'⟩ := x
  exact ⟨B, dx, fl, fun b o q => a b o (k b o q), b, fun b o q hn => c b o (k b o q) hn, d.back k, none_back k e'⟩
/-- a panic just made -/
theorem thrown_made {z h : Heap} {l : List Env} {e : Nat} {base : Heap} (fr : z.FunFrames base l) (k : ∀ b o, z.get? b = some o → h.get? b = some o) (P : PanicAt w z e h) : Thrown w z l e h := by
  refine cutC fun C_ kC_ => ?_
  obtain ⟨dx, tt, tv, t1, t2, t3, tm, ti, tf, tb, h1, h2, h3, z1, z2, z3⟩ := P
  refine kC_ ?_
  clear kC_ C_
  have nf : ∀ {b : Addr}, z.get? b = none → b ∉ l.filterMap (·.frame) := fun {b} hb hm => by
    obtain ⟨_, o, ho, _⟩ := fr.mem hm
    rw [hb] at ho; cases ho
  have hg : ∀ {b : Addr} {o : Obj}, h.get? b = some o → b ≠ e → b ∉ l.filterMap (·.frame) → (hideAll h (e :: l.filterMap (·.frame))).get? b = some o := fun {b o} q ne nm => hideAll_get _ q fun hm => by
    rcases List.mem_cons.mp hm with r | r
    · exact ne r
    · exact nm r
  have ne1 : dx ≠ e := fun q => by rw [q, h1] at h2; cases h2
  have ne2 : tv ≠ e := fun q => by rw [q, h1] at h3; cases h3
  refine ⟨hideAll h (e :: l.filterMap (·.frame)), dx, none, fun b o q nm => hg (k _ _ q) (fun r => by rw [r, z1] at q; cases q) nm, ⟨fun b o q => of_hideAll _ q, hideAll_none _ (List.mem_cons_self ..), ?_, _, _, h1, rfl, rfl, rfl, rfl⟩, Heap.UpToSlots.of_keeps k, ⟨tv, t1, t2, t3, tm, ti, tf, tb, hg h2 ne1 (nf z2), hg h3 ne2 (nf z3), z2, z3⟩, z1⟩
  have hin : ∀ env ∈ l, ∀ b, env.frame = some b → b ∈ e :: l.filterMap (·.frame) := fun env he b hb => List.mem_cons_of_mem _ (List.mem_filterMap.mpr ⟨env, he, hb⟩)
  exact funFrames_hide (fr.of_keeps fun b o q _ => ⟨o, k _ _ q, rfl⟩) hin
/-- it leaves a frame -/
theorem leave_thrown {z z₀ : Heap} {env : Env} {outer : List Env} {L e : Addr} {Q : Unit → Shared → Prop} (hfr : A.frames = some (env :: outer)) (hf : env.frame = some L) (x : Thrown w z (env :: outer) e s.heap)
    (k : ∀ b o, z₀.get? b = some o → z.get? b = some o) (hL : z₀.get? L = none) (hQ : ∀ h', Thrown w z₀ outer e h' → Q () { s with heap := h' }) : wpAny (model prog w) A (leaving env (.ref e)) Q E s := by
  obtain ⟨B, dx, fl, a, b, c, d, e'⟩ := x
  refine leave_fly hfr hf b fun h' f' b' c' => hQ h' ⟨B, dx, some f', fun b o q nm => a b o (k b o q) fun hm => ?_, b', fun b o q hn => (c.trans c') b o (k b o q) hn, d.back k, none_back k e'⟩
  rw [List.filterMap_cons, hf] at hm
  rcases List.mem_cons.mp hm with r | r
  · rw [r, hL] at q; cases q
  · exact nm r
/-- a contract for a call that panics -/
noncomputable def Thr (prog : Program) (w : World) (p : Program) (loose : List Str) (mean : ExcName → Option Value) (mg mb : Str → Option Value) (D U : Nat) (s : Shared) (c : Code) : Prop :=
  ∀ (l : List Env) (A₀ : Around) (base : Heap), (pre.heap_1 w.params).In s.heap → Top p loose mean mg mb s.heap → Below A₀ base l s.heap →
    codeAny (model prog w) (ctr D U l) c (fun r s' => ∃ e h' tk, r = .error (.ref e) ∧ s' = { s with heap := h', toks := tk } ∧ Thrown w s.heap l e h') s
/-- where a body's panic goes -/
inductive ThrEnd (w : World) (s : Shared) (l : List Env) (e : Value) (s' : Shared) : Prop
  | mk (a : Addr) (z h' : Heap) (tk : Nat) (e1 : e = .ref a) (e2 : s' = { s with heap := h', toks := tk }) (k : ∀ b o, s.heap.get? b = some o → z.get? b = some o) (t : Thrown w z l a h') : ThrEnd w s l e s'
theorem enterT {D U : Nat} {name qual : Str} {params : Arguments} {body : List Stmt} {scope : Scope} {dV kV doc pm cdv ct oc : Value} {an od : Option Addr} {osl : Array (Option Value)} {f : Addr} {args : Args} {binds : List (Str × Value)}
    (ho : (pre.heap_1 w.params).lookup f = some ⟨oc, od, .func (fnOf name qual params body scope dV kV doc pm an cdv ct), osl⟩) (hcd : codeIn (pre.heap_1 w.params) cdv qual = true)
    (hro : D < recursionLimit)
    (hbind : BindsTo s (fnOf name qual params body scope dV kV doc pm an cdv ct) args binds) (hloc : ∀ y ∈ binds, scope.names.lookup y.1 = some .local)
    (h : ∀ (l : List Env) (A₀ : Around) (base : Heap) (L' : Addr) (h₁ : Heap),
      Fr s.heap L' h₁ (fun y => binds.reverse.lookup y) → Below A₀ base l s.heap → (pre.heap_1 w.params).In s.heap → Top p loose mean mg mb s.heap →
      wpAny (model prog w) ((ctr D U l).deeper (envOf qual scope L' f cdv)) (execs body (envOf qual scope L' f cdv))
        (fun _ _ => False)
        (ThrEnd w s (envOf qual scope L' f cdv :: l))
        { s with heap := h₁, toks := s.toks + binds.length })
    (hco : scope.isCoroutine = false := by rfl) (hgen : scope.isGenerator = false := by rfl) (hk : scope.kind = .function := by rfl)
    (hcell : ∀ x ∈ scope.names, x.2 ≠ .cell := by decide) : Thr prog w p loose mean mg mb D U s (.call (.ref f) args) := by
  intro l A₀ base X T B
  refine codeAny_call_def (fd := fnOf name qual params body scope dV kV doc pm an cdv ct) (body := body) (binds := binds) hro (X _ _ ho) rfl T.nolimit (codeRec_of X hcd) rfl hbind hcell hloc (fun h₁ hns hk₁ => ?_) hco hgen hk
  refine wpAny_mono (h l A₀ base s.heap.objs.size h₁ ⟨hns, hk₁, Nat.le_refl _⟩ B X T) (fun _ _ y => y.elim) fun e s' y => ?_
  obtain ⟨a, z, h', tk, rfl, rfl, kz, th⟩ := y
  refine leave_thrown (s := { s with heap := h', toks := tk }) (z₀ := s.heap) (Around.frames_deeper rfl) rfl th kz (Heap.get?_none_of_le (Nat.le_refl _)) fun h'' th' => ⟨a, h'', tk, rfl, rfl, th'⟩
/-- such a call in a walk -/
theorem useT {D U : Nat} {A₀ : Around} {base h₀ : Heap} {outer : List Env} {L : Addr} {m : Str → Option Value} {cn : Str} {cs : Scope} {a : Addr} {ccd : Value} {cl : List (Str × Addr)} {dp un : Nat} {f : Value} {pos : List Value} {Q E : Value → Shared → Prop}
    (B : Below A₀ base outer h₀) (F : Fr h₀ L s.heap m) (X : (pre.heap_1 w.params).In h₀) (T : Top p loose mean mg mb h₀) (hk : cs.kind = .function) (C : Thr prog w p loose mean mg mb D U s (.call f ⟨pos, []⟩))
    (hd : dp ≤ D) (hu : un ≤ U)
    (thr : ∀ e h' tk, Thrown w s.heap (envX cn cs L a ccd cl :: outer) e h' → E (.ref e) { s with heap := h', toks := tk }) :
    wpAny (model prog w) (ctr dp un (envX cn cs L a ccd cl :: outer)) (call f pos) Q E s := by
  obtain ⟨FG, BG, st, -⟩ := groundX (A := ctr dp un (envX cn cs L a ccd cl :: outer)) (env := envX cn cs L a ccd cl) (R := fun _ _ => True) B F (show News h₀ L s.heap [] from fun _ h => nomatch h) rfl rfl hk
  refine wpAny_call (codeAny_mono (codeAny_ctr (C _ _ base (X.keeps F.keep) (T.keeps F.keep) BG) hd hu) fun r s' q_ => ?_)
  obtain ⟨e, h', tk, e1, e2, th⟩ := q_
  subst e1 e2
  exact thr e h' tk th
end
/-! ## Cth -/
section
theorem words0_Cth : True := by
  w_top off
  k_with_none
  trivial
variable {prog : Program} {w : World} {p : Program} {loose : List Str} {mean : ExcName → Option Value} {mg mb : Str → Option Value} {s : Shared} {A : Around} {E : Value → Shared → Prop}
/-- where the value of a raise statement goes -/
inductive RaiseEnd (w : World) (E : Value → Shared → Prop) (v : Value) (s₁ : Shared) : Prop
  | mk (e tt dx : Nat) (e1 : v = .ref e) (X : (pre.heap_1 w.params).In s₁.heap) (e2 : s₁.heap.get? e = some (excObj 52 tt (some dx))) (h : E (.ref e) s₁) : RaiseEnd w E v s₁
theorem raise52 {env : Env} {x : Sem Value} {Q : Flow → Shared → Prop} (hk : ktsIn (pre.heap_1 w.params) 52 "Exception" = true) (hh : A.handled = none)
    (h : wpAny (model prog w) A x (RaiseEnd w E) E s) :
    wpAny (model prog w) A (raiseStmt env (some x) none) Q E s := by
  unfold raiseStmt
  refine wpAny_bind (wpAny_mono h (fun v s₁ h₁ => ?_) fun _ _ x => x)
  obtain ⟨e, tt, dx, rfl, X, he, hE⟩ := h₁
  refine cutC fun C_ kC_ => ?_
  obtain ⟨nm, qn, N', bs, bm, hdct, sn, sub, ab, col, dd, k0, k1, k2, k3, k5, newId, hC, hbase, hb⟩ := kts_cls X hk
  refine kC_ ?_
  clear kC_ C_
  have hcB : (Value.ref 52 :: bm).contains (.type "BaseException") = true := by rw [List.contains_cons, hbase, Bool.or_true]
  refine cutC fun C_ kC_ => ?_
  obtain ⟨hp, g, d, tk, os⟩ := s₁
  refine kC_ ?_
  clear kC_ C_
  unfold excObj at he
  repeat (first | with_reducible refine wpAny_loadPart_at he ?_ | with_reducible refine wpAny_loadPart_at hC ?_ | (with_reducible refine wpAny_isSubtype_exc hC ?_; rw [hcB]) | wp_step)
  exact wpAny_raiseNew_none hh hE
theorem Raise52 {env : Env} {f : Expr} {args : List Expr} {cpos pos : Pos} {Q : Flow → Shared → Prop} (hk : ktsIn (pre.heap_1 w.params) 52 "Exception" = true) (hh : A.handled = none)
    (h : wpAny (model prog w) A (eval (.Call f args [] cpos) env) (RaiseEnd w E) E s) :
    wpAny (model prog w) A (exec (.Raise (some (.Call f args [] cpos)) none pos) env) Q E s := by
  rw [arm_exec_Raise]
  refine wpAny_bind (wpAny_standAt (raise52 hk hh ?_))
  refine wpAny_bind (wpAny_mono h (fun v s₃ h₃ => wpAny_bind (wpAny_standAt (wpAny_pure h₃))) fun _ _ x => x)
/-- a body with cells that panics -/
theorem enterTC {D U : Nat} {name qual : Str} {params : Arguments} {body : List Stmt} {scope : Scope} {dV kV doc pm cdv ct oc : Value} {an od : Option Addr} {osl : Array (Option Value)} {f : Addr} {args : Args} {binds : List (Str × Value)}
    (ho : (pre.heap_1 w.params).lookup f = some ⟨oc, od, .func (fnOf name qual params body scope dV kV doc pm an cdv ct), osl⟩) (hcd : codeIn (pre.heap_1 w.params) cdv qual = true)
    (hro : D < recursionLimit)
    (hbind : BindsTo s (fnOf name qual params body scope dV kV doc pm an cdv ct) args binds) (hl : (binds.all fun y => scope.names.lookup y.1 == some .local || scope.names.lookup y.1 == some .cell) = true)
    (hnd : ((cellsFrom 0 scope.names []).map (·.1)).Nodup)
    (h : ∀ (l : List Env) (A₀ : Around) (base : Heap) (L' : Addr) (h₁ : Heap) (tk : Nat) (cells : List (Addr × Obj)),
      Fr s.heap L' h₁ (bindL (envOfC qual scope L' f cdv).kindOf binds fun _ => none) → News s.heap L' h₁ cells → CellsAre (bindC (envOfC qual scope L' f cdv).kindOf binds fun _ => none) (cellsFrom (L' + 1) scope.names []) cells →
      Below A₀ base l s.heap → (pre.heap_1 w.params).In s.heap → Top p loose mean mg mb s.heap →
      wpAny (model prog w) ((ctr D U l).deeper (envOfC qual scope L' f cdv)) (execs body (envOfC qual scope L' f cdv))
        (fun _ _ => False)
        (ThrEnd w s (envOfC qual scope L' f cdv :: l))
        { s with heap := h₁, toks := tk })
    (hco : scope.isCoroutine = false := by rfl) (hgen : scope.isGenerator = false := by rfl) (hk : scope.kind = .function := by rfl) : Thr prog w p loose mean mg mb D U s (.call (.ref f) args) := by
  intro l A₀ base X T B
  refine codeAny_call_function hro (X _ _ ho) rfl hco hgen rfl (codeRec_of X hcd) (hbind _ _ _ _ ?_)
  refine wpAny_newFunctionEnv_cells hk (kindsX hl _) fun env' he s' x => ?_
  subst he
  refine ⟨T.nolimit.keeps x.toInCall.keep, codeAny_func ?_⟩
  obtain ⟨h₁, tk, rfl, _⟩ := x.done
  have hk₁ := x.toInCall.keep
  obtain ⟨cells, NC, Y⟩ := Cl.news (h₀ := s.heap) (Nat.le_refl _) fun n c hm => ⟨x.cell n c (lookup_of_mem_nodup (cellsFrom_names scope.names 0 (s.heap.objs.size + 1) [] [] rfl ▸ hnd) hm), x.above n c hm⟩
  refine wpAny_mono (h l A₀ base s.heap.objs.size h₁ tk cells ⟨x.toInCall.ns, hk₁, Nat.le_refl _⟩ NC Y B X T) (fun _ _ y => y.elim) fun e s' y => ?_
  obtain ⟨a, z, h', tk, rfl, rfl, kz, th⟩ := y
  refine leave_thrown (s := { s with heap := h', toks := tk }) (z₀ := s.heap) (Around.frames_deeper rfl) rfl th kz (Heap.get?_none_of_le (Nat.le_refl _)) fun h'' th' => ⟨a, h'', tk, rfl, rfl, th'⟩
/-- the panic is made and raised -/
theorem panics {A₀ : Around} {base : Heap} {outer : List Env} {L : Addr} {m : Str → Option Value} {cn : Str} {cs : Scope} {a : Addr} {ccd : Value} {cl : List (Str × Addr)} {dp un tm : Nat} {s₀ : Shared} {hp : Heap} {tk₀ : Nat}
    (B : Below A₀ base outer s₀.heap) (F : Fr s₀.heap L hp m) (X : (pre.heap_1 w.params).In s₀.heap) (T : Top p loose mean mg mb s₀.heap) (hk : cs.kind = .function) (hd : dp ≤ 370) (hu : un ≤ 360) {E' : Value → Shared → Prop} :
    wpAny (model prog w) (ctr dp un (envX cn cs L a ccd cl :: outer)) (call (.ref 62) [.str (Str.ofString "hash of unhashable type") tm]) (RaiseEnd w (ThrEnd w s₀ (envX cn cs L a ccd cl :: outer))) E' { s₀ with heap := hp, toks := tk₀ } := by
  refine useP (s := { s₀ with heap := hp, toks := tk₀ }) (news := []) B F X (List.forall_mem_nil _) T hk panic62_does hd hu fun v h' tk _ F' _ kp _ q => ?_
  obtain ⟨e, rfl, P⟩ := q
  have P' := P
  refine cutC fun C_ kC_ => ?_
  obtain ⟨dx, tt, tv, t1, t2, t3, tm, ti, tf, tb, h1, -⟩ := P'
  refine kC_ ?_
  clear kC_ C_
  exact ⟨e, tt, dx, rfl, X.keeps F'.keep, h1, e, hp, h', tk, rfl, rfl, F.keep, thrown_made (pushX (env := envX cn cs L a ccd cl) B F rfl hk).frames kp P⟩
end
/-! ## Bad -/
section
theorem words0_Bad : True := by
  w_top off
  k_with_none
  trivial
variable {prog : Program} {w : World} {p : Program} {loose : List Str} {mean : ExcName → Option Value} {mg mb : Str → Option Value} {s : Shared} {A : Around} {E : Value → Shared → Prop}
theorem words_Bad43 : True := by
  k_with "m_ex" => (first | with_reducible exact exAt0 | with_reducible exact exAt1 | with_reducible exact exAt2 | with_reducible exact exAt3 | with_reducible exact exAt4 | with_reducible exact exAt5 | with_reducible exact exAt6 | with_reducible exact exAt7 | with_reducible exact exAt8 | with_reducible exact exAt9 | with_reducible exact exAt10 | with_reducible exact exAt11 | with_reducible exact exAt12 | with_reducible exact exAt13 | with_reducible exact exAt14 | with_reducible exact exAt15 | with_reducible exact exAt16 | with_reducible exact exAt17 | with_reducible exact exAt18 | with_reducible exact exAt19 | with_reducible exact exAt20 | with_reducible exact exAt21 | with_reducible exact exAt22 | with_reducible exact exAt23)
  k_with "m_enter" => ((case ho => k_is); (case hcd => k_is); (case hro => decide); (case hb => exact BindsTo.of_eq rfl); (case hl => exact locs rfl); (case c2 => exact rfl); (case c3 => exact rfl); (case c4 => exact rfl); (case c5 => decide))
  k_with "m_enterC" => ((case ho => k_is); (case hcd => k_is); (case hro => decide); (case hb => exact BindsTo.of_eq rfl); (case hl => exact rfl); (case hnd => decide +kernel); (case c2 => exact rfl); (case c3 => exact rfl); (case c4 => exact rfl))
  k_with "EndR" => (refine endR (by with_reducible assumption) (by k_asm) ?_)
  k_with "k_mem" => first | with_reducible exact inAt0 | with_reducible exact inAt1 | with_reducible exact inAt2 | with_reducible exact inAt3 | with_reducible exact inAt4 | with_reducible exact inAt5 | with_reducible exact inAt6 | with_reducible exact inAt7 | with_reducible exact inAt8 | with_reducible exact inAt9 | with_reducible exact inAt10 | with_reducible exact inAt11 | with_reducible exact inAt12 | with_reducible exact inAt13 | with_reducible exact inAt14 | with_reducible exact inAt15 | with_reducible exact inAt16 | with_reducible exact inAt17 | with_reducible exact inAt18 | with_reducible exact inAt19 | with_reducible exact inAt20 | with_reducible exact inAt21 | with_reducible exact inAt22 | with_reducible exact inAt23
  k_with "k_ne" => first | with_reducible assumption | exact neSym (by with_reducible assumption) | exact neLt (by with_reducible assumption) | exact neGt (by with_reducible assumption) | fail
  k_with "call builtin:isinstance" => (k_here; (with_reducible show wpAny _ _ (call _ [Value.ref _, Value.type _]) _ _ _); k_dflt (refine kia_one kitx_tuple (by k_in) (by exact kit_base (by k_asm) (by assumption)) (by kit_is) (by kit_nb) ?_; k_whole); intro _)
  k_with "subscriptTail" => (k_here; (with_reducible show wpAny _ _ (subscriptTail _ _ (Value.ref _) (Value.int _ _)) _ _ _); k_dflt (refine item_tupleT (by first | exact isTup_base (by k_asm) (by assumption) | exact isTup_sure (by assumption) (by k_asm) (by k_asm) (by walk_at "m_ex")) (by decide) (by decide) (by rfl) (by rfl) ?_; k_whole))
  k_with "ElEnd" => (refine ElEnd.intro (by k_asm) (by k_asm) (fmc (by k_mem) (by walk_at "m_ex")) ?_)
  k_with "call type:tuple" => (k_here; (with_reducible show wpAny _ _ (call (Value.type _) [Value.ref _]) _ _ _); k_dflt (refine kde_tupleOf (by k_asm) (by k_asm) (by exact News.isList (by k_asm) (by k_mem)) (by (simp only [List.size_toArray]; omega)) (by exact rfl) ?_; k_whole); intro D' h' F' N' l1; (try k_lt l1); (try k_sweep))
  k_with "m_use" => ((case B => k_asm); (case F => k_asm); (case X => k_asm); (case N => k_asm); (case T => k_asm); (case hk => exact rfl); (case hd => exact Nat.le_of_ble_eq_true rfl); (case hu => exact Nat.le_of_ble_eq_true rfl))
  k_with "m_rep" => ((rename News _ _ _ _ => N9); repeat' (first | with_unfolding_all exact RepAll.nil | with_unfolding_all exact Rep.none | with_unfolding_all exact Rep.bool _ | with_unfolding_all exact Rep.int _ _ | with_unfolding_all exact Rep.str _ _ | with_unfolding_all exact Rep.bytes _ _ | with_unfolding_all refine RepAll.cons ?_ ?_ | with_unfolding_all refine Rep.tup (News.get N9 (by k_mem)) ?_))
  k_with "call ref" => (k_here; (with_reducible show wpAny _ _ (call (Value.ref 70) _ _) _ _ _); (with_unfolding_all refine useP (by k_dflt (k_asm)) (by k_dflt (k_asm)) (by k_dflt (k_asm)) (by k_dflt (k_asm)) (by k_dflt (k_asm)) (by k_dflt (exact rfl)) (vt_does (by k_dflt (first | exact rep_now (by k_asm) (by assumption) | exact Sure.now (by assumption) (by k_asm) (by k_asm) (fun q hq => (by repeat (first | exact hq | refine List.mem_cons_of_mem _ ?_))))) (by k_dflt (with_unfolding_all exact rfl))) (by k_dflt (exact Nat.le_of_ble_eq_true rfl)) (by k_dflt (exact Nat.le_of_ble_eq_true rfl)) ?_); (intro v9 h9 tk9 lt9 F9 N9 K9 z9 q9); (obtain ⟨t9, e9⟩ := q9); (subst e9); (clear K9 z9 lt9); (try dsimp only); (try k_sweep))
  k_with "compareOp Eq str str" => first | refine eq_strB (b := false) (by decide +kernel) ?_ | refine eq_strB (b := true) (by decide +kernel) ?_
  k_with "compareOp In str ref" => (k_here; (with_reducible show wpAny _ _ (compareOp CmpOp.In (Value.str _ _) (Value.ref _)) _ _ _); k_dflt (first | (refine in_strsB (b := false) (by exact in_top (by k_asm) (by k_asm) (by k_is)) (by rfl) (by (simp only [List.any_cons, List.any_nil, strIs]; decide +kernel)) ?_) | (refine in_strsB (b := true) (by exact in_top (by k_asm) (by k_asm) (by k_is)) (by rfl) (by (simp only [List.any_cons, List.any_nil, strIs]; decide +kernel)) ?_) | (refine in_strsB (b := false) (by exact News.get (by k_asm) (by k_mem)) (by rfl) (by (simp only [List.any_cons, List.any_nil, strIs]; decide +kernel)) ?_) | (refine in_strsB (b := true) (by exact News.get (by k_asm) (by k_mem)) (by rfl) (by (simp only [List.any_cons, List.any_nil, strIs]; decide +kernel)) ?_)))
  k_with "call ref" => (k_here; (with_reducible show wpAny _ _ (call (Value.ref 234) _ _) _ _ _); (with_unfolding_all refine useP (by k_dflt (k_asm)) (by k_dflt (k_asm)) (by k_dflt (k_asm)) (by k_dflt (k_asm)) (by k_dflt (k_asm)) (by k_dflt (exact rfl)) (may_does (by k_dflt (first | exact rep_now (by k_asm) (by assumption) | exact Sure.now (by assumption) (by k_asm) (by k_asm) (fun q hq => (by repeat (first | exact hq | refine List.mem_cons_of_mem _ ?_)))))) (by k_dflt (exact Nat.le_of_ble_eq_true rfl)) (by k_dflt (exact Nat.le_of_ble_eq_true rfl)) ?_); (intro v9 h9 tk9 lt9 F9 N9 K9 z9 q9); (subst q9); (clear K9 z9 lt9); (try dsimp only); (try k_sweep))
  trivial

theorem words_Bad44 : True := by
  k_with "subscriptTail" => (k_here; (with_reducible show wpAny _ _ (subscriptTail _ _ (Value.ref _) (Value.int 0 _)) _ _ _); k_dflt (refine item_head (by k_asm) (by assumption) ?_ (by with_unfolding_all rfl); k_whole))
  k_with "exec Raise some none" => (k_here; (with_reducible refine Raise52 (by kts_isx) rfl ?_))
  k_with "call ref" => (k_here; (with_reducible show wpAny _ _ (call (Value.ref 62) _) _ _ _); refine stop ?_)
  trivial
theorem vkLoose_thr {v : Value} {x : Str} {ds : List Dt} (hv : Rep s.heap v (.tup (.str x :: ds))) (hx : x = S "slice" ∨ x = S "map") : Thr prog w p loose mean mg mb 364 340 s (.call (.ref 75) ⟨[v, .ref 234], []⟩) := by
  refine' enterTC (binds := [("value", v), ("may_compare", .ref 234)]) ?ho ?hcd ?hro ?hb ?hl ?hnd ?_ ?c2 ?c3 ?c4
  walk_at "m_enterC"
  intro l A₀ base L' h' tk cells F' N' Y' B' X' T'
  k_cells Y'; (try dsimp only [List.cons_append, List.nil_append] at N')
  have hv0 := hv
  apply cutV (v := v)
  intro C_ kC_
  cases hv with
  | @tup a vs _ h0 hr =>
  cases hr with
  | cons hx1 hr =>
  cases hx1 with
  | str _ t =>
  rcases hx with rfl | rfl
  all_goals (
    refine kC_ _ ?_
    clear kC_ C_
    try dsimp only
    try k_fold
    k_steps
    unfold Stop
    (rename Fr _ _ _ _ => F9)
    exact panics B' F9 X' T' rfl (Nat.le_of_ble_eq_true rfl) (Nat.le_of_ble_eq_true rfl))
theorem vkFace_thr {v : Value} {ts : List Dt} {d : Dt} (hv : Rep s.heap v (.tup [.str (S "face"), .tup (.str (S "slice") :: ts), d])) : Thr prog w p loose mean mg mb 360 320 s (.call (.ref 75) ⟨[v, .ref 234], []⟩) := by
  refine' enterTC (binds := [("value", v), ("may_compare", .ref 234)]) ?ho ?hcd ?hro ?hb ?hl ?hnd ?_ ?c2 ?c3 ?c4
  walk_at "m_enterC"
  intro l A₀ base L' h' tk cells F' N' Y' B' X' T'
  k_cells Y'; (try dsimp only [List.cons_append, List.nil_append] at N')
  have hv0 := hv
  apply cutV (v := v)
  intro C_ kC_
  cases hv with
  | @tup a vs _ h0 hr =>
  cases hr with
  | cons hx1 hr =>
  cases hx1 with
  | str _ t =>
  cases hr with
  | cons hty hr =>
  have hty0 := hty
  cases hty with
  | @tup b us _ hb hrb =>
  cases hr with
  | cons hd hr =>
  cases hr with
  | nil =>
    refine kC_ _ ?_
    clear kC_ C_
    try dsimp only
    try k_fold
    k_steps
    unfold Stop
    (rename Fr _ _ _ _ => F9)
    exact panics B' F9 X' T' rfl (Nat.le_of_ble_eq_true rfl) (Nat.le_of_ble_eq_true rfl)
end
/-! ## Cmt -/
section
theorem words0_Cmt : True := by
  w_top off
  k_with_none
  trivial
/-! ## a comprehension over a tuple one of whose elements panics -/
section
variable {prog : Program} {w : World} {A : Around} {R : Result → Shared → Prop} {s : Shared}
theorem comp_loopT {elt iter : Expr} {x : Str} {px : Pos} {scope : Scope} {pos : Pos} {I D L : Addr} {fp wr : List Addr} {St : Nat → Heap → Prop} {g : Heap} {m : Str → Option Value} {items : List Value} {as : List Dt}
    {cenv : Env} {mc : Str → Option Value} (W : Walks prog w A I fp wr items.length (fun i v => items[i]? = some v) St) (hNT : ∀ i h, St i h → NoTup wr h) (hit : RepAll s.heap items as)
    (hx : cenv.kindOf x = some .local) (hp : (cenv.scope.kind == .class || (cenv.scope.kind == .module && cenv.locals != cenv.globals)) = false)
    (hDC : D ≠ cenv.locals) (hDf : D ∉ fp) (hCf : cenv.locals ∉ fp) (hLf : L ∉ fp) (hLD : L ≠ D) (hLC : L ≠ cenv.locals) (hg : ∀ a ∈ cenv.locals :: D :: wr, g.get? a = none)
    (hst : St 0 s.heap) (hacc : s.heap.PlainList D #[]) (hn : s.heap.Ns cenv.locals mc) (F₀ : Fr g L s.heap m) (j : Nat) (hj : j < as.length)
    (helt : ∀ i (h : i < as.length) v h₂ tk₂ m₂, i < j → items[i]? = some v → Rep h₂ v as[i] → h₂.Ns cenv.locals m₂ → m₂ x = some v → Fr g L h₂ m → (∀ b o, b ≠ cenv.locals → b ≠ L → b ∉ wr → b ≠ D → s.heap.get? b = some o → h₂.get? b = some o) →
      wpAny (model prog w) A (eval elt cenv) (fun _ s₃ => KeepL g L m { s with heap := h₂, toks := tk₂ } s₃) (notedBy (model prog w) A cenv fun e s' => R (.error e) s') { s with heap := h₂, toks := tk₂ })
    (hbad : ∀ v h₂ tk₂ m₂, items[j]? = some v → Rep h₂ v as[j] → h₂.Ns cenv.locals m₂ → m₂ x = some v → Fr g L h₂ m → (∀ b o, b ≠ cenv.locals → b ≠ L → b ∉ wr → b ≠ D → s.heap.get? b = some o → h₂.get? b = some o) →
      wpAny (model prog w) A (eval elt cenv) (fun _ _ => False) (notedBy (model prog w) A cenv fun e s' => R (.error e) s') { s with heap := h₂, toks := tk₂ })
    (hsz : items.length ≤ sizeLine) :
    codeAny (model prog w) A (.compLoop (.ListComp elt [⟨.Name x px, iter, [], 0⟩] scope pos) 0 (.ref I) (.ref D) cenv) R s := by
  have hlen : as.length = items.length := hit.length.symm
  generalize hnn : items.length = n at W hsz hlen
  refine codeAny_compLoop_tests
    (fun k s' => ∃ h' tk m' ys, ∃ i : Nat, s' = { s with heap := h', toks := tk } ∧ St i h' ∧ h'.PlainList D ys ∧ h'.Ns cenv.locals m' ∧ RepAll h' items as ∧ ys.size ≤ i ∧ Fr g L h' m ∧ i ≤ j ∧ k = n + 1 - i ∧
      (∀ b o, b ≠ cenv.locals → b ≠ L → b ∉ wr → b ≠ D → s.heap.get? b = some o → h'.get? b = some o)) ?_ (n + 1)
    ⟨s.heap, s.toks, mc, #[], 0, rfl, hst, hacc, hn, hit, Nat.le_refl _, F₀, Nat.zero_le _, rfl, fun _ _ _ _ _ _ e => e⟩
  intro k s' q_
  obtain ⟨H, tk, m', ys, i, rfl, hst', hacc', hn', hI', hF, FF, hi, rfl, hk⟩ := q_
  have hCw : cenv.locals ∉ wr := fun h => hCf (W.sub _ h)
  have hDw : D ∉ wr := fun h => hDf (W.sub _ h)
  have hLw : L ∉ wr := fun h => hLf (W.sub _ h)
  have hgw : ∀ a ∈ wr, g.get? a = none := fun a ha => hg a (by simp [ha])
  have hlt : i < n := by omega
  have hia : i < as.length := hlen ▸ hlt
  refine W.item i _ _ _ hlt hst' fun v h₁ tk₁ hPv hst₁ hk₁ => ?_
  refine wpAny_assign_Name (wpAny_storeName_local hx (hn'.at' fun o e => hk₁ _ o hCw e) (fun h₂ hn₂ hs₂ => ?_) hp)
  have F₁ : Fr g L h₁ m := fr_butL FF hk₁ hLw hgw
  have F₂ : Fr g L h₂ m := fr_butL (ms := [cenv.locals]) F₁ (fun b o e q => hs₂.extBut b o (fun z => e (by simp [z])) q) (by simpa using hLC) (fun a ha => hg a (by simp at ha; simp [ha]))
  have up₂ : ∀ b o, b ≠ cenv.locals → b ∉ wr → H.get? b = some o → h₂.get? b = some o := fun b o hbC hbf e => hs₂.extBut b o hbC (hk₁ b o hbf e)
  have hst₂ : St (i + 1) h₂ := W.frame _ _ _ hst₁ fun b hb o e => hs₂.extBut b o (fun h => hCf (h ▸ hb)) e
  have nt₁ := noTup_ns (hn'.at' fun o e => hk₁ _ o hCw e)
  have kp₂ : Keep [cenv.locals] h₁ h₂ := fun b o e n => hs₂.extBut b o (fun q => n (by simp [q])) e
  have hI₂ : RepAll h₂ items as := (hI'.keep (fun b o e n => hk₁ b o n e) (hNT _ _ hst')).keep kp₂ nt₁
  have rv : Rep h₂ v as[i] := by
    have h1 : i < items.length := hnn ▸ hlt
    have := hI₂.get i h1 hia
    have hPv' := hPv
    rw [List.getElem?_eq_getElem h1, Option.some.injEq] at hPv'
    rw [← hPv']; exact this
  have kp2 : ∀ b o, b ≠ cenv.locals → b ≠ L → b ∉ wr → b ≠ D → s.heap.get? b = some o → h₂.get? b = some o := fun b o hbC hbL hbf hbD e => up₂ b o hbC hbf (hk b o hbC hbL hbf hbD e)
  show wpAny (model prog w) A (pure true) _ _ _
  refine wpAny_pure ?_
  simp only [if_true]
  by_cases hij : i = j
  · subst hij
    exact wpAny_mono (hbad v h₂ _ _ hPv rv hn₂ (by simp) F₂ kp2) (fun _ _ q => q.elim) fun _ _ e => e
  refine wpAny_mono (helt i hia v h₂ _ _ (by omega) hPv rv hn₂ (by simp) F₂ kp2) (fun y s₄ h₄ => ?_) fun _ _ e => e
  refine cutC fun C_ kC_ => ?_
  obtain ⟨h₄, tk₄, rfl, hk₄, F₄⟩ := h₄
  refine kC_ ?_
  clear kC_ C_
  dsimp only at hk₄
  have off : ∀ b ∈ fp, b ≠ L := fun b hb q => hLf (q ▸ hb)
  have hacc₂ : h₂.PlainList D ys := hacc'.at fun o e => up₂ D o hDC hDw e
  have hys : ys.size ≤ sizeLine := by omega
  refine wpAny_list_append_plain (hsz := hys) (hacc₂.at fun o e => hk₄ _ o (Ne.symm hLD) e) fun h₅ hl₅ hs₅ => ?_
  have kp₄ : Keep [L] h₂ h₄ := fun b o e n => hk₄ b o (fun q => n (by simp [q])) e
  have nt₂ := noTup_ns F₂.ns
  have up₅ : Keep [D] h₄ h₅ := fun b o e n => hs₅.extBut b o (fun q => n (by simp [q])) e
  have nt := noTup_plain (hacc₂.at fun o e => hk₄ _ o (Ne.symm hLD) e)
  have hn₄ := hn₂.at' fun o e => hk₄ _ o (Ne.symm hLC) e
  refine ⟨n + 1 - (i + 1), by omega, h₅, tk₄, _, ys.push y, i + 1, rfl, ?_, hl₅, hn₄.sameBut hs₅ (Ne.symm hDC), (hI₂.keep kp₄ nt₂).keep up₅ nt, ?_, fr_butL (ms := [D]) F₄ (fun b o e q => up₅ b o q e) (by simpa using hLD) (fun a ha => hg a (by simp at ha; simp [ha])), by omega, rfl,
    fun b o hbC hbL hbf hbD e => hs₅.extBut b o hbD (hk₄ b o hbL (up₂ b o hbC hbf (hk b o hbC hbL hbf hbD e)))⟩
  · exact W.frame _ _ h₅ hst₂ fun b hb o e => hs₅.extBut b o (fun h => hDf (h ▸ hb)) (hk₄ b o (off b hb) e)
  · rw [Array.size_push]; omega
end
theorem noteFrame_congr {e : Value} {c env : Env} (h : c.frame = env.frame) : noteFrame e c = noteFrame e env := by
  unfold noteFrame PySem.frameOf; rw [h]
/-- where an element's panic goes -/
inductive ThrAt (w : World) (s : Shared) (l : List Env) (e : Value) (s' : Shared) : Prop
  | mk (a : Addr) (h' : Heap) (tk : Nat) (e1 : e = .ref a) (e2 : s' = { s with heap := h', toks := tk }) (z : Heap) (k : ∀ b o, s.heap.get? b = some o → z.get? b = some o) (t : Thrown w z l a h') : ThrAt w s l e s'
section
variable {prog : Program} {w : World} {A A₀ : Around} {E : Value → Shared → Prop} {env : Env} {outer : List Env} {base g : Heap} {L : Addr} {m : Str → Option Value}
theorem comp_blockT {elt iter : Expr} {x : Str} {px : Pos} {scope : Scope} {cl : List (Str × Addr)} {pos : Pos} {s₂ : Shared} {I : Addr} {fp : List Addr} {St : Nat → Heap → Prop} {items : List Value} {as : List Dt} {kp ex : List (Addr × Obj)} {Q : Value → Shared → Prop}
    (W : Walks prog w A I fp [I] items.length (fun i v => items[i]? = some v) St) (hNT : ∀ i h, St i h → NoTup [I] h) (hsz : items.length ≤ sizeLine)
    (hcell : ∀ y ∈ scope.names, y.2 ≠ .cell) (hkind : scope.kind = .function) (hx : scope.names.lookup x = some .local) (hst : St 0 s₂.heap) (hfp : ∀ b ∈ fp, b < s₂.heap.objs.size) (hLf : L ∉ fp) (hgI : g.get? I = none) (hnI : ∀ q ∈ kp ++ ex, q.1 ≠ I)
    (hit : RepAll s₂.heap items as) (F : Fr g L s₂.heap m) (N : News g L s₂.heap (kp ++ ex)) (K : Below A₀ base outer g) (hA : A.frames = some (env :: outer)) (hfL : env.frame = some L) (G : Dt → Dt → Prop) (j : Nat) (hj : j < as.length)
    (ht : Turn prog w A g L m kp ex x items as s₂ (fun C => eval elt (compEnvC scope cl C env)) (fun d => G d as[j]) (fun _ _ _ => True)) (hgood : ∀ i (h : i < as.length), i < j → G as[i] as[j])
    (hb : ∀ v C oC mc h tk ex', items[j]? = some v → Rep h v as[j] → ex' = oth g [L] h → LCg.NsObj oC mc → mc x = some v → Fr g L h m → News g L h ((C, oC) :: (kp ++ ex')) → (∀ q ∈ ex, q ∈ ex') → AllLt C kp →
      wpAny (model prog w) A (eval elt (compEnvC scope cl C env)) (fun _ _ => False) (ThrAt w { s₂ with heap := h, toks := tk } (env :: outer)) { s₂ with heap := h, toks := tk })
    (hE : ∀ a h tk, Thrown w g (env :: outer) a h → E (.ref a) { s₂ with heap := h, toks := tk }) :
    wpAny (model prog w) A (newList []) (fun acc s₃ => wpAny (model prog w) A (newFunctionEnv scope env.globals cl [] env.qual none .none (some env)) (fun cenv s₄ =>
      codeAny (model prog w) A (.compStart (.ListComp elt [⟨.Name x px, iter, [], 0⟩] scope pos) 0 (.ref I) acc { cenv with scope := relabel scope env }) (compPost (model prog w) A E none Q acc cenv.locals) s₄) E s₃) E s₂ := by
  refine wpAny_newObj_type (wpAny_newFunctionEnv hcell (by intro y hy; simp at hy) (fun h₁ hns₁ hsb₁ => ?_) hkind)
  dsimp only at hns₁ hsb₁ ⊢
  generalize hH2 : s₂.heap.push { cls := .type "list", dict := none, data := .seq ([] : List Value).toArray } = H2 at hns₁ hsb₁ ⊢
  have hC : H2.objs.size = s₂.heap.objs.size + 1 := by rw [← hH2, Heap.size_push]
  have hDC : s₂.heap.objs.size ≠ H2.objs.size := by rw [hC]; exact Nat.ne_of_lt (Nat.lt_succ_self _)
  have below : ∀ b, b < s₂.heap.objs.size → b ≠ H2.objs.size ∧ b ≠ s₂.heap.objs.size := fun b hb => ⟨by rw [hC]; exact Nat.ne_of_lt (Nat.lt_succ_of_lt hb), Nat.ne_of_lt hb⟩
  have hDf : s₂.heap.objs.size ∉ fp := fun hm => Nat.lt_irrefl _ (hfp _ hm)
  have hCf : H2.objs.size ∉ fp := fun hm => by have := hfp _ hm; rw [hC] at this; exact Nat.lt_irrefl _ (Nat.lt_of_succ_lt this)
  have old : ∀ b o, s₂.heap.get? b = some o → h₁.get? b = some o := fun b o e => hsb₁.extBut b o (below b (Heap.lt_size e)).1 (Heap.get?_push_of_some _ (hH2 ▸ Heap.get?_push_of_some _ e))
  have hacc : h₁.PlainList s₂.heap.objs.size #[] := ⟨_, hsb₁.extBut _ _ hDC (Heap.get?_push_of_some _ (hH2 ▸ Heap.get?_push_size _ rfl))⟩
  have hst₁ : St 0 h₁ := W.frame _ _ _ hst fun b _ o e => old b o e
  have fresh : ∀ a, s₂.heap.objs.size ≤ a → g.get? a = none := fun a ha => by
    cases e : g.get? a with
    | none => rfl
    | some o' => exact absurd (Heap.lt_size (F.keep _ _ e)) (Nat.not_lt.mpr ha)
  have hLs : L < s₂.heap.objs.size := F.ns.lt
  have hIf : I ∈ fp := W.sub _ (by simp)
  have hgC : g.get? H2.objs.size = none := fresh _ (by rw [hC]; exact Nat.le_succ _)
  have hCfr : H2.objs.size ∉ (env :: outer).filterMap (·.frame) := fun hm => by
    rw [List.filterMap_cons, hfL] at hm
    rcases List.mem_cons.mp hm with e | hm
    · exact absurd e (by rw [hC]; exact Nat.ne_of_gt (Nat.lt_succ_of_lt hLs))
    · obtain ⟨_, o, ho, _⟩ := K.frames.mem hm
      rw [hgC] at ho; cases ho
  have now : ∀ {h₂ : Heap}, (∀ b o, b ≠ H2.objs.size → b ≠ L → b ∉ [I] → b ≠ s₂.heap.objs.size → h₁.get? b = some o → h₂.get? b = some o) → ∀ q ∈ kp ++ ex, h₂.get? q.1 = some q.2 := fun {h₂} hk q hq => by
    have hb := below _ (Heap.lt_size (N q hq).1)
    exact hk _ _ hb.1 (N q hq).2.1 (by simpa using hnI q hq) hb.2 (old _ _ (N q hq).1)
  have led : ∀ {h₂ : Heap} {oC : Obj}, (∀ b o, b ≠ H2.objs.size → b ≠ L → b ∉ [I] → b ≠ s₂.heap.objs.size → h₁.get? b = some o → h₂.get? b = some o) → h₂.get? H2.objs.size = some oC → News g L h₂ ((H2.objs.size, oC) :: (kp ++ oth g [L] h₂)) := fun {h₂ oC} hk eC q hq => by
    rcases List.mem_cons.mp hq with rfl | hq
    · exact ⟨eC, by rw [hC]; exact Nat.ne_of_gt (Nat.lt_succ_of_lt hLs), hgC⟩
    rcases List.mem_append.mp hq with hq | hq
    · exact ⟨now hk q (List.mem_append_left _ hq), (N q (List.mem_append_left _ hq)).2⟩
    · exact oth_news (by simp) q hq
  have lex : ∀ {h₂ : Heap}, (∀ b o, b ≠ H2.objs.size → b ≠ L → b ∉ [I] → b ≠ s₂.heap.objs.size → h₁.get? b = some o → h₂.get? b = some o) → ∀ q ∈ ex, q ∈ oth g [L] h₂ := fun hk q hq =>
    mem_oth.mpr ⟨now hk q (List.mem_append_right _ hq), (N q (List.mem_append_right _ hq)).2.2, by simpa using (N q (List.mem_append_right _ hq)).2.1⟩
  have lC : AllLt H2.objs.size kp := allLt_of fun q hq => by
    rw [hC]; exact Nat.lt_succ_of_lt (Heap.lt_size (N q (List.mem_append_left _ hq)).1)
  have loop : ∀ s₃ : Shared, s₃ = { s₂ with heap := h₁, toks := s₂.toks + ([] : List (Str × Value)).length } →
      codeAny (model prog w) A (.compLoop (.ListComp elt [⟨.Name x px, iter, [], 0⟩] scope pos) 0 (.ref I) (.ref s₂.heap.objs.size) (compEnvC scope cl H2.objs.size env))
        (compPost (model prog w) A E none Q (.ref s₂.heap.objs.size) H2.objs.size) s₃ := by
    rintro s₃ rfl
    refine comp_loopT (g := g) (L := L) (m := m) (as := as) (hsz := hsz) (cenv := compEnvC scope cl H2.objs.size env) W hNT (hit.grow old) (lookup_relabel_local hx) (by simp [compEnvC, relabel, hkind]) hDC hDf hCf hLf (Nat.ne_of_lt hLs) (by show L ≠ H2.objs.size; rw [hC]; exact Nat.ne_of_lt (Nat.lt_succ_of_lt hLs)) ?_ hst₁ hacc hns₁ (F.keeps old) j hj
      (fun i hi v h₂ tk₂ m₂ hij hv rv hn hmx F₂ hk => ?_) (fun v h₂ tk₂ m₂ hv rv hn hmx F₂ hk => ?_)
    · intro a ha
      rcases List.mem_cons.mp ha with rfl | ha
      · exact fresh _ (by show _ ≤ H2.objs.size; rw [hC]; exact Nat.le_succ _)
      rcases List.mem_cons.mp ha with rfl | ha
      · exact fresh _ (Nat.le_refl _)
      · rw [List.mem_singleton.mp ha]; exact hgI
    · obtain ⟨oC, eC, hoC⟩ := LCg.ns_obj hn
      exact wpAny_mono (ht i hi v _ oC m₂ h₂ tk₂ (oth g [L] h₂) _ (hgood i hi hij) hv rv rfl hoC hmx F₂ (led hk eC) (lex hk) lC) (fun y s₃ q => (keepL_of (s₁ := { s₂ with heap := h₂, toks := tk₂ }) F₂ q).2) fun _ _ e => e
    · obtain ⟨oC, eC, hoC⟩ := LCg.ns_obj hn
      refine wpAny_mono (hb v _ oC m₂ h₂ tk₂ (oth g [L] h₂) hv rv rfl hoC hmx F₂ (led hk eC) (lex hk) lC) (fun _ _ q => q.elim) fun e s₃ q => ?_
      refine cutC fun C_ kC_ => ?_
      obtain ⟨a, h', tk', rfl, rfl, z, kz, B, dx, fl, hBz, fly, usm, hold, ha⟩ := q
      refine kC_ ?_
      clear kC_ C_
      show wpAny (model prog w) A (noteFrame (.ref a) (compEnvC scope cl H2.objs.size env)) _ _ _
      rw [noteFrame_congr (env := env) (show (compEnvC scope cl H2.objs.size env).frame = env.frame from rfl)]
      refine note_fly hA hfL fly fun h'' f' fly' u'' => ?_
      have eCz : z.get? H2.objs.size = some oC := kz _ _ eC
      have eCB := hBz _ _ eCz hCfr
      refine ⟨m₂, hn.at' fun o e => ?_, fun h3 sb cenv' hc' => ?_⟩
      · have : o = oC := by rw [eC] at e; cases e; rfl
        subst this
        exact fly'.stays _ _ eCB
      have ndx : dx ≠ H2.objs.size := fun q => by
        obtain ⟨_, _, _, _, _, _, _, _, _, _, hd, _⟩ := hold
        rw [q, eCz] at hd; cases hd
      have hold' : Holds w z dx (hideAll B [H2.objs.size]) := by
        obtain ⟨tv, t1, t2, t3, tm, ti, tf, tb, q1, q2, q3, q4⟩ := hold
        have ntv : tv ≠ H2.objs.size := fun q => by rw [q, eCz] at q4; cases q4
        exact ⟨tv, t1, t2, t3, tm, ti, tf, tb, hideAll_get _ q1 (by simpa using ndx), hideAll_get _ q2 (by simpa using ntv), q3, q4⟩
      have gz : ∀ b o, g.get? b = some o → z.get? b = some o := fun b o e => kz _ _ (F₂.keep _ _ e)
      have nC : ∀ {b : Addr} {o : Obj}, g.get? b = some o → b ≠ H2.objs.size := fun {b o} e q => by rw [q, hgC] at e; cases e
      have fly3 := Fly.shrink (B' := hideAll B [H2.objs.size]) fly' (fun b o q => ⟨of_hideAll _ q, fun r => by rw [r, hideAll_none _ (List.mem_singleton.mpr rfl)] at q; cases q⟩) ⟨_, eCB⟩ sb
      refine pass_fly fly3 fun h4 f4 fly4 u4 => ?_
      refine hE a h4 _ ⟨hideAll B [H2.objs.size], dx, some f4, fun b o e nm => hideAll_get _ (hBz _ _ (gz _ _ e) nm) (by simpa using nC e), fly4, fun b o e nf => ?_, hold'.back gz, none_back gz ha⟩
      obtain ⟨sl, e1⟩ := (usm.trans u'') b o (gz _ _ e) nf
      have e2 : h3.get? b = some { o with slots := sl } := (sb.2 b (nC e)).trans e1
      obtain ⟨sl', e3⟩ := u4 b _ e2 nf
      exact ⟨sl', e3⟩
  exact codeAny_compStart_list (loop _ rfl) (W.self 0 _ _ _ hst₁ (loop _ rfl))
noncomputable def CompT (prog : Program) (w : World) (A : Around) (g : Heap) (L : Addr) (m : Str → Option Value) (env : Env) (outer : List Env) (elt : Expr) (x : Str) (scope : Scope) (cl : List (Str × Addr)) (E : Value → Shared → Prop) (xv : Value) (s₁ : Shared) : Prop :=
  ∀ C : Prop, (∀ (ax : Addr) (items : List Value) (as : List Dt) (kp ex : List (Addr × Obj)) (G : Dt → Dt → Prop) (j : Nat) (hj : j < as.length), xv = .ref ax → A.handled = none → Fr g L s₁.heap m → News g L s₁.heap (kp ++ ex) → s₁.heap.IsTuple ax items.toArray → RepAll s₁.heap items as → items.length ≤ sizeLine → (∀ h, Turn prog w A g L m kp ex x items as { s₁ with heap := h } (fun C => eval elt (compEnvC scope cl C env)) (fun d => G d as[j]) (fun _ _ _ => True)) → (∀ i (h : i < as.length), i < j → G as[i] as[j]) → (∀ v C oC mc h tk ex', items[j]? = some v → Rep h v as[j] → ex' = oth g [L] h → LCg.NsObj oC mc → mc x = some v → Fr g L h m → News g L h ((C, oC) :: (kp ++ ex')) → (∀ q ∈ ex, q ∈ ex') → AllLt C kp →
      wpAny (model prog w) A (eval elt (compEnvC scope cl C env)) (fun _ _ => False) (ThrAt w { s₁ with heap := h, toks := tk } (env :: outer)) { s₁ with heap := h, toks := tk }) → (∀ a h tk, Thrown w g (env :: outer) a h → E (.ref a) { s₁ with heap := h, toks := tk }) → C) → C
theorem CompT.intro {outer : List Env} {elt : Expr} {x : Str} {scope : Scope} {cl : List (Str × Addr)} {s₁ : Shared} {ax : Addr} {items : List Value} {as : List Dt} {kp ex : List (Addr × Obj)} (G : Dt → Dt → Prop) (j : Nat) (hj : j < as.length) (hh : A.handled = none) (F : Fr g L s₁.heap m) (N : News g L s₁.heap (kp ++ ex)) (hl : s₁.heap.IsTuple ax items.toArray) (hit : RepAll s₁.heap items as) (hsz : items.length ≤ sizeLine) (ht : (∀ h, Turn prog w A g L m kp ex x items as { s₁ with heap := h } (fun C => eval elt (compEnvC scope cl C env)) (fun d => G d as[j]) (fun _ _ _ => True))) (hgood : (∀ i (h : i < as.length), i < j → G as[i] as[j])) (hb : (∀ v C oC mc h tk ex', items[j]? = some v → Rep h v as[j] → ex' = oth g [L] h → LCg.NsObj oC mc → mc x = some v → Fr g L h m → News g L h ((C, oC) :: (kp ++ ex')) → (∀ q ∈ ex, q ∈ ex') → AllLt C kp →
      wpAny (model prog w) A (eval elt (compEnvC scope cl C env)) (fun _ _ => False) (ThrAt w { s₁ with heap := h, toks := tk } (env :: outer)) { s₁ with heap := h, toks := tk })) (hE : (∀ a h tk, Thrown w g (env :: outer) a h → E (.ref a) { s₁ with heap := h, toks := tk })) :
    CompT prog w A g L m env outer elt x scope cl E (.ref ax) s₁ := fun C k_ => k_ ax items as kp ex G j hj rfl hh F N hl hit hsz ht hgood hb hE
theorem comp_T {s : Shared} {elt iter : Expr} {x : Str} {px : Pos} {scope : Scope} {cl : List (Str × Addr)} {pos : Pos} {Q : Value → Shared → Prop} (F₀ : Fr g L s.heap m) (K : Below A₀ base outer g) (hA : A.frames = some (env :: outer)) (hfL : env.frame = some L)
    (hclos : closureFor scope env = pure cl) (hcell : ∀ y ∈ scope.names, y.2 ≠ .cell) (hkind : scope.kind = .function)
    (hnames : ∀ y ∈ scope.names, y.2 = .local → scope.names.lookup y.1 = some .local) (hx : scope.names.lookup x = some .local)
    (h : wpAny (model prog w) A (eval iter env) (CompT prog w A g L m env outer elt x scope cl E) E s)
    (hs : ∀ x, foldedSetIterable iter env x = pure x := by intro _; rfl) :
    wpAny (model prog w) A (eval (.ListComp elt [⟨.Name x px, iter, [], 0⟩] scope pos) env) Q E s := by
  rw [eval_ListComp]
  refine wpAny_comprehension_free (use := none) rfl hs hclos hkind hnames (wpAny_mono h (fun xv s₁ c => ?_) fun _ _ e => e)
  refine c _ fun ax items as kp ex G j hj hxv hh F N hl hit hsz ht hgood hb hE => ?_
  subst hxv
  have hlt : ax < s₁.heap.objs.size := by obtain ⟨_, e, _⟩ := hl; exact Heap.lt_size e
  refine wpAny_pyIter_tuple hl ?_
  have up : ∀ (o' : Obj) b o, s₁.heap.get? b = some o → (s₁.heap.push o').get? b = some o := fun o' b o e => Heap.get?_push_of_some _ e
  have nI : ∀ q ∈ kp ++ ex, q.1 ≠ s₁.heap.objs.size := fun q hq => Nat.ne_of_lt (Heap.lt_size (N q hq).1)
  have W := Walks.tuple (prog := prog) (w := w) hh s₁.heap.objs.size ax (Nat.ne_of_lt hlt) items.toArray
  refine comp_blockT (kp := kp) (ex := ex) (St := fun i h => h.IsTupleIter s₁.heap.objs.size ax i ∧ h.IsTuple ax items.toArray) (by simpa using W) ?_ hsz hcell hkind hx ⟨⟨_, Heap.get?_push_size _ rfl, rfl, rfl⟩, hl.push _⟩ ?_ ?_ (next_is_new F) nI (hit.grow (up _)) (F.keeps (up _)) (N.grown (up _)) K hA hfL G j hj (ht _) hgood (fun v C oC mc h tk ex' => hb v C oC mc h tk ex') (fun a h tk => hE a h tk)
  · intro i h st
    refine cutC fun C_ kC_ => ?_
    obtain ⟨⟨o, e, hc, hd⟩, _⟩ := st
    refine kC_ ?_
    clear kC_ C_
    exact noTup_of fun b hb => by rw [List.mem_singleton.mp hb]; exact ⟨o, e, fun vs q => by subst q; cases hd⟩
  · intro b hb
    rw [Heap.size_push]
    rcases List.mem_cons.mp hb with rfl | hb
    · exact Nat.lt_succ_self _
    · rw [List.mem_singleton.mp hb]; exact Nat.lt_succ_of_lt hlt
  · intro hm
    rcases List.mem_cons.mp hm with e | hm
    · exact Nat.ne_of_lt F.ns.lt e
    · refine cutC fun C_ kC_ => ?_
      obtain ⟨oL, es, ep, hL, hd, _⟩ := F.ns
      refine kC_ ?_
      clear kC_ C_
      refine cutC fun C_ kC_ => ?_
      obtain ⟨o, e, hc, n, hd'⟩ := hl
      refine kC_ ?_
      clear kC_ C_
      rw [List.mem_singleton.mp hm] at hL
      rw [hL] at e; cases e; rw [hd] at hd'; cases hd'
end
end
/-! ## Bst -/
section
theorem words0_Bst : True := by
  w_top off
  k_with_none
  trivial
variable {prog : Program} {w : World} {p : Program} {loose : List Str} {mean : ExcName → Option Value} {mg mb : Str → Option Value} {s : Shared} {A : Around} {E : Value → Shared → Prop}
theorem words_Bst45 : True := by
  k_with "m_ex" => (first | with_reducible exact exAt0 | with_reducible exact exAt1 | with_reducible exact exAt2 | with_reducible exact exAt3 | with_reducible exact exAt4 | with_reducible exact exAt5 | with_reducible exact exAt6 | with_reducible exact exAt7 | with_reducible exact exAt8 | with_reducible exact exAt9 | with_reducible exact exAt10 | with_reducible exact exAt11 | with_reducible exact exAt12 | with_reducible exact exAt13 | with_reducible exact exAt14 | with_reducible exact exAt15 | with_reducible exact exAt16 | with_reducible exact exAt17 | with_reducible exact exAt18 | with_reducible exact exAt19 | with_reducible exact exAt20 | with_reducible exact exAt21 | with_reducible exact exAt22 | with_reducible exact exAt23)
  k_with "m_enter" => ((case ho => k_is); (case hcd => k_is); (case hro => decide); (case hb => exact BindsTo.of_eq rfl); (case hl => exact locs rfl); (case c2 => exact rfl); (case c3 => exact rfl); (case c4 => exact rfl); (case c5 => decide))
  k_with "m_enterC" => ((case ho => k_is); (case hcd => k_is); (case hro => decide); (case hb => exact BindsTo.of_eq rfl); (case hl => exact rfl); (case hnd => decide +kernel); (case c2 => exact rfl); (case c3 => exact rfl); (case c4 => exact rfl))
  k_with "EndR" => (refine endR (by with_reducible assumption) (by k_asm) ?_)
  k_with "k_mem" => first | with_reducible exact inAt0 | with_reducible exact inAt1 | with_reducible exact inAt2 | with_reducible exact inAt3 | with_reducible exact inAt4 | with_reducible exact inAt5 | with_reducible exact inAt6 | with_reducible exact inAt7 | with_reducible exact inAt8 | with_reducible exact inAt9 | with_reducible exact inAt10 | with_reducible exact inAt11 | with_reducible exact inAt12 | with_reducible exact inAt13 | with_reducible exact inAt14 | with_reducible exact inAt15 | with_reducible exact inAt16 | with_reducible exact inAt17 | with_reducible exact inAt18 | with_reducible exact inAt19 | with_reducible exact inAt20 | with_reducible exact inAt21 | with_reducible exact inAt22 | with_reducible exact inAt23
  k_with "k_ne" => first | with_reducible assumption | exact neSym (by with_reducible assumption) | exact neLt (by with_reducible assumption) | exact neGt (by with_reducible assumption) | fail
  k_with "call builtin:isinstance" => (k_here; (with_reducible show wpAny _ _ (call _ [Value.ref _, Value.type _]) _ _ _); k_dflt (refine kia_one kitx_tuple (by k_in) (by exact kit_base (by k_asm) (by assumption)) (by kit_is) (by kit_nb) ?_; k_whole); intro _)
  k_with "subscriptTail" => (k_here; (with_reducible show wpAny _ _ (subscriptTail _ _ (Value.ref _) (Value.int _ _)) _ _ _); k_dflt (refine item_tupleT (by first | exact isTup_base (by k_asm) (by assumption) | exact isTup_sure (by assumption) (by k_asm) (by k_asm) (by walk_at "m_ex")) (by decide) (by decide) (by rfl) (by rfl) ?_; k_whole))
  k_with "ElEnd" => (refine ElEnd.intro (by k_asm) (by k_asm) (fmc (by k_mem) (by walk_at "m_ex")) ?_)
  k_with "call type:tuple" => (k_here; (with_reducible show wpAny _ _ (call (Value.type _) [Value.ref _]) _ _ _); k_dflt (refine kde_tupleOf (by k_asm) (by k_asm) (by exact News.isList (by k_asm) (by k_mem)) (by (simp only [List.size_toArray]; omega)) (by exact rfl) ?_; k_whole); intro D' h' F' N' l1; (try k_lt l1); (try k_sweep))
  k_with "m_use" => ((case B => k_asm); (case F => k_asm); (case X => k_asm); (case N => k_asm); (case T => k_asm); (case hk => exact rfl); (case hd => exact Nat.le_of_ble_eq_true rfl); (case hu => exact Nat.le_of_ble_eq_true rfl))
  k_with "m_rep" => ((rename News _ _ _ _ => N9); repeat' (first | with_unfolding_all exact RepAll.nil | with_unfolding_all exact Rep.none | with_unfolding_all exact Rep.bool _ | with_unfolding_all exact Rep.int _ _ | with_unfolding_all exact Rep.str _ _ | with_unfolding_all exact Rep.bytes _ _ | with_unfolding_all refine RepAll.cons ?_ ?_ | with_unfolding_all refine Rep.tup (News.get N9 (by k_mem)) ?_))
  k_with "call ref" => (k_here; (with_reducible show wpAny _ _ (call (Value.ref 70) _ _) _ _ _); (with_unfolding_all refine useP (by k_dflt (k_asm)) (by k_dflt (k_asm)) (by k_dflt (k_asm)) (by k_dflt (k_asm)) (by k_dflt (k_asm)) (by k_dflt (exact rfl)) (vt_does (by k_dflt (first | exact rep_now (by k_asm) (by assumption) | exact Sure.now (by assumption) (by k_asm) (by k_asm) (fun q hq => (by repeat (first | exact hq | refine List.mem_cons_of_mem _ ?_))))) (by k_dflt (with_unfolding_all exact rfl))) (by k_dflt (exact Nat.le_of_ble_eq_true rfl)) (by k_dflt (exact Nat.le_of_ble_eq_true rfl)) ?_); (intro v9 h9 tk9 lt9 F9 N9 K9 z9 q9); (obtain ⟨t9, e9⟩ := q9); (subst e9); (clear K9 z9 lt9); (try dsimp only); (try k_sweep))
  k_with "compareOp Eq str str" => first | refine eq_strB (b := false) (by decide +kernel) ?_ | refine eq_strB (b := true) (by decide +kernel) ?_
  k_with "compareOp In str ref" => (k_here; (with_reducible show wpAny _ _ (compareOp CmpOp.In (Value.str _ _) (Value.ref _)) _ _ _); k_dflt (first | (refine in_strsB (b := false) (by exact in_top (by k_asm) (by k_asm) (by k_is)) (by rfl) (by (simp only [List.any_cons, List.any_nil, strIs]; decide +kernel)) ?_) | (refine in_strsB (b := true) (by exact in_top (by k_asm) (by k_asm) (by k_is)) (by rfl) (by (simp only [List.any_cons, List.any_nil, strIs]; decide +kernel)) ?_) | (refine in_strsB (b := false) (by exact News.get (by k_asm) (by k_mem)) (by rfl) (by (simp only [List.any_cons, List.any_nil, strIs]; decide +kernel)) ?_) | (refine in_strsB (b := true) (by exact News.get (by k_asm) (by k_mem)) (by rfl) (by (simp only [List.any_cons, List.any_nil, strIs]; decide +kernel)) ?_)))
  k_with "call ref" => (k_here; (with_reducible show wpAny _ _ (call (Value.ref 234) _ _) _ _ _); (with_unfolding_all refine useP (by k_dflt (k_asm)) (by k_dflt (k_asm)) (by k_dflt (k_asm)) (by k_dflt (k_asm)) (by k_dflt (k_asm)) (by k_dflt (exact rfl)) (may_does (by k_dflt (first | exact rep_now (by k_asm) (by assumption) | exact Sure.now (by assumption) (by k_asm) (by k_asm) (fun q hq => (by repeat (first | exact hq | refine List.mem_cons_of_mem _ ?_)))))) (by k_dflt (exact Nat.le_of_ble_eq_true rfl)) (by k_dflt (exact Nat.le_of_ble_eq_true rfl)) ?_); (intro v9 h9 tk9 lt9 F9 N9 K9 z9 q9); (subst q9); (clear K9 z9 lt9); (try dsimp only); (try k_sweep))
  trivial

theorem words_Bst46 : True := by
  k_with "subscriptTail" => (k_here; (with_reducible show wpAny _ _ (subscriptTail _ _ (Value.ref _) (Value.int 0 _)) _ _ _); k_dflt (refine item_head (by k_asm) (by assumption) ?_ (by with_unfolding_all rfl); k_whole))
  k_with "call ref" => (k_here; (with_reducible show wpAny _ _ (call (Value.ref 75) _) _ _ _); refine stop ?_)
  k_with "call ref" => (k_here; (with_reducible show wpAny _ _ (call (Value.ref 75) _ _) _ _ _); (with_unfolding_all refine useP (by k_dflt (k_asm)) (by k_dflt (k_asm)) (by k_dflt (k_asm)) (by k_dflt (k_asm)) (by k_dflt (k_asm)) (by k_dflt (exact rfl)) (vkLeaf_does (by k_dflt (first | exact rep_now (by k_asm) (by assumption) | exact Sure.now (by assumption) (by k_asm) (by k_asm) (by walk_at "m_ex"))) (by k_dflt (first | assumption | (apply And.left; assumption))) (by k_dflt (first | assumption | (apply And.right; assumption)))) (by k_dflt (exact Nat.le_of_ble_eq_true rfl)) (by k_dflt (exact Nat.le_of_ble_eq_true rfl)) ?_); (intro v9 h9 tk9 lt9 F9 N9 K9 z9 q9); (obtain ⟨a9, t9, e9, l9, q9⟩ := q9); (subst e9); (replace lt9 := lt9 _ _ l9 q9); (replace N9 := lt9.1); (replace l9 := lt9.2); (simp only [AllLt, and_true] at l9); (clear K9 z9 q9 lt9); (try dsimp only); (try k_sweep))
  k_with "eval ListComp" => (k_here; k_dflt (refine comp_T (F₀ := by k_asm) (K := by k_asm) rfl rfl (by with_unfolding_all rfl) (by decide) (by rfl) (by decide) (by rfl) ?_))
  trivial
theorem vkStruct_thr {v : Value} {d : Dt} {ts : List Dt} (hv : Rep s.heap v (.tup [.str (S "struct"), .tup [d, .tup (.str (S "map") :: ts)]])) (hl : LeafOk d) : Thr prog w p loose mean mg mb 360 320 s (.call (.ref 75) ⟨[v, .ref 234], []⟩) := by
  refine' enterTC (binds := [("value", v), ("may_compare", .ref 234)]) ?ho ?hcd ?hro ?hb ?hl ?hnd ?_ ?c2 ?c3 ?c4
  walk_at "m_enterC"
  intro l A₀ base L' h' tk cells F' N' Y' B' X' T'
  k_cells Y'; (try dsimp only [List.cons_append, List.nil_append] at N')
  have hv0 := hv
  apply cutV (v := v)
  intro C_ kC_
  cases hv with
  | @tup a vs _ h0 hr =>
  cases hr with
  | cons hx1 hr =>
  cases hx1 with
  | str _ t =>
  cases hr with
  | cons hty hr =>
  have hty0 := hty
  cases hty with
  | @tup b us _ hb hrb =>
  cases hr with
  | nil =>
    have hlen := hrb.length
    refine kC_ _ ?_
    clear kC_ C_
    try dsimp only
    try k_fold
    k_steps
    (rename Fr _ _ _ _ => F9)
    (rename News _ _ _ _ => N9)
    refine CompT.intro (kp := _) (ex := []) (fun d' _ => LeafOk d') 1 (by simp) rfl F9 (by rw [List.append_nil]; exact N9) (isTup_base F9 hb) (hrb.grow F9.keep) (by rw [hlen, sizeLine_eq]; simp) ?el ?good ?bad ?fin
    case el =>
      intro h i hi v C oC mc h2 tk2 ex' E' hok _ rv hxe hoC hmx F' N' hex hlt
      replace rv := hxe ▸ Sure.rep F' (noTup_ns F'.ns) rv
      have hlo1 := hok.1
      have hlo2 := hok.2
      (try dsimp only [List.cons_append, List.nil_append] at N')
      (try simp only [AllLt, and_true] at hlt)
      clear F9 N9
      try dsimp only
      k_steps
      unfold Hold
      trivial
    case good => 
      intro i hi hi1
      match i, hi1 with
      | 0, _ => exact hl
    case bad =>
      intro v C oC mc h2 tk2 ex' _ rv hxe hoC hmx F' N' hex hlt
      replace rv := hxe ▸ Sure.rep F' (noTup_ns F'.ns) rv
      (try dsimp only [List.cons_append, List.nil_append] at N')
      (try simp only [AllLt, and_true] at hlt)
      clear F9 N9
      try dsimp only
      k_steps
      unfold Stop
      (rename Fr _ _ _ _ => F9)
      (rename News _ _ _ _ => N9)
      refine useT B' F9 X' T' rfl (vkLoose_thr (Sure.now rv F9 N9 (by walk_at "m_ex")) (Or.inr rfl)) (Nat.le_of_ble_eq_true rfl) (Nat.le_of_ble_eq_true rfl) ?_
      intro e h9 tk9 th
      exact ⟨e, h9, tk9, rfl, rfl, _, fun _ _ e => e, th⟩
    case fin =>
      intro a h tk th
      exact ⟨a, s.heap, h, tk, rfl, rfl, fun _ _ e => e, th⟩
end
/-! ## Btb -/
section
theorem words0_Btb : True := by
  w_top off
  k_with_none
  trivial
variable {prog : Program} {w : World} {p : Program} {loose : List Str} {mean : ExcName → Option Value} {mg mb : Str → Option Value} {s : Shared} {A : Around} {E : Value → Shared → Prop}
theorem Thr.lower {D U D' U' : Nat} {c : Code} (x : Thr prog w p loose mean mg mb D U s c) (hd : D' ≤ D) (hu : U' ≤ U) : Thr prog w p loose mean mg mb D' U' s c :=
  fun l A₀ base X T B => codeAny_ctr (x l A₀ base X T B) hd hu
/-- the three keys that cannot be -/
inductive BadD : Dt → Prop
  | loose (ds : List Dt) : BadD (.tup (.str (S "slice") :: ds))
  | face (ts : List Dt) (d : Dt) : BadD (.tup [.str (S "face"), .tup (.str (S "slice") :: ts), d])
  | struct (d : Dt) (ts : List Dt) (h : LeafOk d) : BadD (.tup [.str (S "struct"), .tup [d, .tup (.str (S "map") :: ts)]])
theorem vkBad_thr {v : Value} {d : Dt} (hv : Rep s.heap v d) (hb : BadD d) : Thr prog w p loose mean mg mb 360 320 s (.call (.ref 75) ⟨[v, .ref 234], []⟩) := by
  cases hb with
  | loose ds => exact (vkLoose_thr hv (Or.inl rfl)).lower (by decide) (by decide)
  | face ts d => exact vkFace_thr hv
  | struct d ts h => exact vkStruct_thr hv h
theorem words_Btb47 : True := by
  k_with "m_ex" => (first | with_reducible exact exAt0 | with_reducible exact exAt1 | with_reducible exact exAt2 | with_reducible exact exAt3 | with_reducible exact exAt4 | with_reducible exact exAt5 | with_reducible exact exAt6 | with_reducible exact exAt7 | with_reducible exact exAt8 | with_reducible exact exAt9 | with_reducible exact exAt10 | with_reducible exact exAt11 | with_reducible exact exAt12 | with_reducible exact exAt13 | with_reducible exact exAt14 | with_reducible exact exAt15 | with_reducible exact exAt16 | with_reducible exact exAt17 | with_reducible exact exAt18 | with_reducible exact exAt19 | with_reducible exact exAt20 | with_reducible exact exAt21 | with_reducible exact exAt22 | with_reducible exact exAt23)
  k_with "m_enter" => ((case ho => k_is); (case hcd => k_is); (case hro => decide); (case hb => exact BindsTo.of_eq rfl); (case hl => exact locs rfl); (case c2 => exact rfl); (case c3 => exact rfl); (case c4 => exact rfl); (case c5 => decide))
  k_with "m_enterC" => ((case ho => k_is); (case hcd => k_is); (case hro => decide); (case hb => exact BindsTo.of_eq rfl); (case hl => exact rfl); (case hnd => decide +kernel); (case c2 => exact rfl); (case c3 => exact rfl); (case c4 => exact rfl))
  k_with "EndR" => (refine endR (by with_reducible assumption) (by k_asm) ?_)
  k_with "k_mem" => first | with_reducible exact inAt0 | with_reducible exact inAt1 | with_reducible exact inAt2 | with_reducible exact inAt3 | with_reducible exact inAt4 | with_reducible exact inAt5 | with_reducible exact inAt6 | with_reducible exact inAt7 | with_reducible exact inAt8 | with_reducible exact inAt9 | with_reducible exact inAt10 | with_reducible exact inAt11 | with_reducible exact inAt12 | with_reducible exact inAt13 | with_reducible exact inAt14 | with_reducible exact inAt15 | with_reducible exact inAt16 | with_reducible exact inAt17 | with_reducible exact inAt18 | with_reducible exact inAt19 | with_reducible exact inAt20 | with_reducible exact inAt21 | with_reducible exact inAt22 | with_reducible exact inAt23
  k_with "k_ne" => first | with_reducible assumption | exact neSym (by with_reducible assumption) | exact neLt (by with_reducible assumption) | exact neGt (by with_reducible assumption) | fail
  k_with "call builtin:isinstance" => (k_here; (with_reducible show wpAny _ _ (call _ [Value.ref _, Value.type _]) _ _ _); k_dflt (refine kia_one kitx_tuple (by k_in) (by exact kit_base (by k_asm) (by assumption)) (by kit_is) (by kit_nb) ?_; k_whole); intro _)
  k_with "subscriptTail" => (k_here; (with_reducible show wpAny _ _ (subscriptTail _ _ (Value.ref _) (Value.int _ _)) _ _ _); k_dflt (refine item_tupleT (by first | exact isTup_base (by k_asm) (by assumption) | exact isTup_sure (by assumption) (by k_asm) (by k_asm) (by walk_at "m_ex")) (by decide) (by decide) (by rfl) (by rfl) ?_; k_whole))
  k_with "ElEnd" => (refine ElEnd.intro (by k_asm) (by k_asm) (fmc (by k_mem) (by walk_at "m_ex")) ?_)
  k_with "call type:tuple" => (k_here; (with_reducible show wpAny _ _ (call (Value.type _) [Value.ref _]) _ _ _); k_dflt (refine kde_tupleOf (by k_asm) (by k_asm) (by exact News.isList (by k_asm) (by k_mem)) (by (simp only [List.size_toArray]; omega)) (by exact rfl) ?_; k_whole); intro D' h' F' N' l1; (try k_lt l1); (try k_sweep))
  k_with "m_use" => ((case B => k_asm); (case F => k_asm); (case X => k_asm); (case N => k_asm); (case T => k_asm); (case hk => exact rfl); (case hd => exact Nat.le_of_ble_eq_true rfl); (case hu => exact Nat.le_of_ble_eq_true rfl))
  k_with "m_rep" => ((rename News _ _ _ _ => N9); repeat' (first | with_unfolding_all exact RepAll.nil | with_unfolding_all exact Rep.none | with_unfolding_all exact Rep.bool _ | with_unfolding_all exact Rep.int _ _ | with_unfolding_all exact Rep.str _ _ | with_unfolding_all exact Rep.bytes _ _ | with_unfolding_all refine RepAll.cons ?_ ?_ | with_unfolding_all refine Rep.tup (News.get N9 (by k_mem)) ?_))
  trivial

theorem words_Btb48 : True := by
  k_with "getMethod ref" => (k_here; (with_reducible show wpAny _ _ (getMethod (Value.ref _) (Str.ofString "get") _) _ _ _); (with_unfolding_all refine dmeth PySem.F.slot_dict_get PySem.F.type_dict_get (by k_dflt (first | exact Fr.keep (by k_asm) _ _ (by assumption) | exact News.get (by k_asm) (by k_mem))) (by k_dflt (assumption)) ?_))
  k_with "getMethod ref" => (k_here; (with_reducible show wpAny _ _ (getMethod (Value.ref _) (Str.ofString "pop") _) _ _ _); (with_unfolding_all refine dmeth PySem.F.slot_dict_pop PySem.F.type_dict_pop (by k_dflt (first | exact Fr.keep (by k_asm) _ _ (by assumption) | exact News.get (by k_asm) (by k_mem))) (by k_dflt (assumption)) ?_))
  k_with "k_inst" => exact inst_base (by k_asm) (by assumption) (by assumption)
  k_with "call ref" => (k_here; (with_reducible show wpAny _ _ (call (Value.ref 75) _) _ _ _); refine stop ?_)
  trivial
theorem markBad_thr {tab td ent t1 t2 t3 tc n : Nat} {c : Int} {v : Value} {d : Dt} (h1 : s.heap.get? tab = some (instObj 134 td)) (h2 : s.heap.get? td = some (tdObj w t1 t2 t3 ent c tc n)) (hv : Rep s.heap v d) (hb : BadD d) :
    Thr prog w p loose mean mg mb 350 280 s (.call (.ref 96) ⟨[.ref tab, v], []⟩) := by
  refine' enterT (binds := [("self", .ref tab), ("key", v)]) ?ho ?hcd ?hro ?hb ?hl ?_ ?c2 ?c3 ?c4 ?c5
  walk_at "m_enter"
  intro l A₀ base L' h' F' B' X' T'
  have N' : News s.heap L' h' [] := List.forall_mem_nil _
  try dsimp only
  try k_fold
  k_steps
  unfold Stop
  (rename Fr _ _ _ _ => F9)
  refine useT B' F9 X' T' rfl (vkBad_thr (hv.grow F9.keep) hb) (Nat.le_of_ble_eq_true rfl) (Nat.le_of_ble_eq_true rfl) ?_
  intro e h9 tk9 th
  exact ⟨e, _, h9, tk9, rfl, rfl, F9.keep, th⟩
theorem words_Btb49 : True := by
  k_with "call ref" => (k_here; (with_reducible show wpAny _ _ (call (Value.ref 96) _) _ _ _); refine stop ?_)
  trivial
theorem getBad_thr {tab td ent t1 t2 t3 tc n : Nat} {c : Int} {v : Value} {d : Dt} {xs : Ents} (h1 : s.heap.get? tab = some (instObj 134 td)) (h2 : s.heap.get? td = some (tdObj w t1 t2 t3 ent c tc n)) {o : Obj} (h3 : s.heap.get? ent = some o) (ho : EntIs prog w o xs) (hv : Rep s.heap v d) (hb : BadD d) :
    Thr prog w p loose mean mg mb 340 240 s (.call (.ref 110) ⟨[.ref tab, v], []⟩) := by
  refine' enterT (binds := [("self", .ref tab), ("key", v)]) ?ho ?hcd ?hro ?hb ?hl ?_ ?c2 ?c3 ?c4 ?c5
  walk_at "m_enter"
  intro l A₀ base L' h' F' B' X' T'
  have N' : News s.heap L' h' [] := List.forall_mem_nil _
  try dsimp only
  try k_fold
  k_steps
  unfold Stop
  (rename Fr _ _ _ _ => F9)
  refine useT B' F9 X' T' rfl (markBad_thr (F9.keep _ _ h1) (F9.keep _ _ h2) (hv.grow F9.keep) hb) (Nat.le_of_ble_eq_true rfl) (Nat.le_of_ble_eq_true rfl) ?_
  intro e h9 tk9 th
  exact ⟨e, _, h9, tk9, rfl, rfl, F9.keep, th⟩
theorem putBad_thr {tab td ent t1 t2 t3 tc n tx : Nat} {c x : Int} {v : Value} {d : Dt} (h1 : s.heap.get? tab = some (instObj 134 td)) (h2 : s.heap.get? td = some (tdObj w t1 t2 t3 ent c tc n)) (hv : Rep s.heap v d) (hb : BadD d) :
    Thr prog w p loose mean mg mb 340 240 s (.call (.ref 117) ⟨[.ref tab, v, .int x tx], []⟩) := by
  refine' enterT (binds := [("self", .ref tab), ("key", v), ("value", .int x tx)]) ?ho ?hcd ?hro ?hb ?hl ?_ ?c2 ?c3 ?c4 ?c5
  walk_at "m_enter"
  intro l A₀ base L' h' F' B' X' T'
  have N' : News s.heap L' h' [] := List.forall_mem_nil _
  try dsimp only
  try k_fold
  k_steps
  unfold Stop
  (rename Fr _ _ _ _ => F9)
  refine useT B' F9 X' T' rfl (markBad_thr (F9.keep _ _ h1) (F9.keep _ _ h2) (hv.grow F9.keep) hb) (Nat.le_of_ble_eq_true rfl) (Nat.le_of_ble_eq_true rfl) ?_
  intro e h9 tk9 th
  exact ⟨e, _, h9, tk9, rfl, rfl, F9.keep, th⟩
theorem remBad_thr {tab td ent t1 t2 t3 tc n : Nat} {c : Int} {v : Value} {d : Dt} {xs : Ents} (h1 : s.heap.get? tab = some (instObj 134 td)) (h2 : s.heap.get? td = some (tdObj w t1 t2 t3 ent c tc n)) {o : Obj} (h3 : s.heap.get? ent = some o) (ho : EntIs prog w o xs) (hv : Rep s.heap v d) (hb : BadD d) :
    Thr prog w p loose mean mg mb 340 240 s (.call (.ref 124) ⟨[.ref tab, v], []⟩) := by
  refine' enterT (binds := [("self", .ref tab), ("key", v)]) ?ho ?hcd ?hro ?hb ?hl ?_ ?c2 ?c3 ?c4 ?c5
  walk_at "m_enter"
  intro l A₀ base L' h' F' B' X' T'
  have N' : News s.heap L' h' [] := List.forall_mem_nil _
  try dsimp only
  try k_fold
  k_steps
  unfold Stop
  (rename Fr _ _ _ _ => F9)
  refine useT B' F9 X' T' rfl (markBad_thr (F9.keep _ _ h1) (F9.keep _ _ h2) (hv.grow F9.keep) hb) (Nat.le_of_ble_eq_true rfl) (Nat.le_of_ble_eq_true rfl) ?_
  intro e h9 tk9 th
  exact ⟨e, _, h9, tk9, rfl, rfl, F9.keep, th⟩
end
/-! ## Lam -/
section
theorem words0_Lam : True := by
  w_top off
  k_with_none
  trivial
variable {prog : Program} {w : World} {p : Program} {loose : List Str} {mean : ExcName → Option Value} {mg mb : Str → Option Value} {s : Shared} {A : Around} {E : Value → Shared → Prop}
/-- a lambda that panics -/
theorem enterTE {D U : Nat} {name qual : Str} {params : Arguments} {body : Expr} {scope : Scope} {cl : List (Str × Addr)} {pm ctv : Value} {c' : Addr} {f : Addr} {args : Args} {binds : List (Str × Value)}
    (ho : s.heap.get? f = some (kla_obj name qual params body scope cl pm c' ctv)) (hcd : s.heap.CodeRec (.ref c') qual) (hro : D < recursionLimit)
    (hbind : bindArgs (kla_fn name qual params body scope cl pm (.ref c') ctv) args = pure binds) (hloc : ∀ y ∈ binds, scope.names.lookup y.1 = some .local)
    (h : ∀ (l : List Env) (A₀ : Around) (base : Heap) (L' : Addr) (h₁ : Heap),
      Fr s.heap L' h₁ (fun y => binds.reverse.lookup y) → Below A₀ base l s.heap → (pre.heap_1 w.params).In s.heap → Top p loose mean mg mb s.heap →
      wpAny (model prog w) ((ctr D U l).deeper (envX qual scope L' f (.ref c') cl)) (eval body (envX qual scope L' f (.ref c') cl))
        (fun _ _ => False)
        (ThrEnd w s (envX qual scope L' f (.ref c') cl :: l))
        { s with heap := h₁, toks := s.toks + binds.length })
    (hco : scope.isCoroutine = false) (hgen : scope.isGenerator = false) (hk : scope.kind = .function)
    (hcell : ∀ x ∈ scope.names, x.2 ≠ .cell) : Thr prog w p loose mean mg mb D U s (.call (.ref f) args) := by
  intro l A₀ base X T B
  refine kla_callFunE hro ho rfl hco hgen rfl hcd ?_
  rw [hbind]
  refine wpAny_pure (wpAny_newFunctionEnv hcell hloc (fun h₁ hns hsb => ⟨T.nolimit.fresh _ hsb, ?_⟩) hk)
  show codeAny _ _ (.expr body (envX qual scope s.heap.objs.size f (.ref c') cl)) _ _
  have hk₁ : ∀ b o, s.heap.get? b = some o → h₁.get? b = some o := fun b o e => hsb.extBut b o (Nat.ne_of_lt (Heap.lt_size e)) (Heap.get?_push_of_some _ e)
  refine kla_codeExpr (wpAny_mono (h l A₀ base s.heap.objs.size h₁ ⟨hns, hk₁, Nat.le_refl _⟩ B X T) (fun _ _ y => y.elim) fun e s' y => ?_)
  refine cutC fun C_ kC_ => ?_
  obtain ⟨a, z, h', tk, rfl, rfl, kz, th⟩ := y
  refine kC_ ?_
  clear kC_ C_
  refine leave_thrown (s := { s with heap := h', toks := tk }) (z₀ := s.heap) (Around.frames_deeper rfl) rfl th kz (Heap.get?_none_of_le (Nat.le_refl _)) fun h'' th' => ⟨a, h'', tk, rfl, rfl, th'⟩
theorem nameX_G {M : Model} {h₀ : Heap} {L a : Addr} {m : Str → Option Value} {cn : Str} {cs : Scope} {ccd : Value} {cl : List (Str × Addr)} {x : Str} {pos : Pos} {v : Value} {Q : Value → Shared → Prop} {c : Addr} {o : Obj}
    (F : Fr h₀ L s.heap m) (hc : cl.lookup x = some c) (e : h₀.get? c = some o) (hd : o.data = .cell (some v)) (h : Q v s)
    (hk : cs.kind = .function := by rfl) (hx : (envX cn cs L a ccd cl).kindOf x = some .free := by rfl) (hb : (x == ("__debug__" : Str)) = false := by decide) (hn : (x == ("__classdict__" : Str)) = false := by decide) :
    wpAny M A (eval (.Name x pos) (envX cn cs L a ccd cl)) Q E s := wpAny_Name (wpAny_loadName_free hk hx hc ⟨o, F.keep _ _ e, hd⟩ h hn) hb
theorem words_Lam50 : True := by
  k_with "m_ex" => (first | with_reducible exact exAt0 | with_reducible exact exAt1 | with_reducible exact exAt2 | with_reducible exact exAt3 | with_reducible exact exAt4 | with_reducible exact exAt5 | with_reducible exact exAt6 | with_reducible exact exAt7 | with_reducible exact exAt8 | with_reducible exact exAt9 | with_reducible exact exAt10 | with_reducible exact exAt11 | with_reducible exact exAt12 | with_reducible exact exAt13 | with_reducible exact exAt14 | with_reducible exact exAt15 | with_reducible exact exAt16 | with_reducible exact exAt17 | with_reducible exact exAt18 | with_reducible exact exAt19 | with_reducible exact exAt20 | with_reducible exact exAt21 | with_reducible exact exAt22 | with_reducible exact exAt23)
  k_with "m_enter" => ((case ho => k_is); (case hcd => k_is); (case hro => decide); (case hb => exact BindsTo.of_eq rfl); (case hl => exact locs rfl); (case c2 => exact rfl); (case c3 => exact rfl); (case c4 => exact rfl); (case c5 => decide))
  k_with "m_enterC" => ((case ho => k_is); (case hcd => k_is); (case hro => decide); (case hb => exact BindsTo.of_eq rfl); (case hl => exact rfl); (case hnd => decide +kernel); (case c2 => exact rfl); (case c3 => exact rfl); (case c4 => exact rfl))
  k_with "EndR" => (refine endR (by with_reducible assumption) (by k_asm) ?_)
  k_with "k_mem" => first | with_reducible exact inAt0 | with_reducible exact inAt1 | with_reducible exact inAt2 | with_reducible exact inAt3 | with_reducible exact inAt4 | with_reducible exact inAt5 | with_reducible exact inAt6 | with_reducible exact inAt7 | with_reducible exact inAt8 | with_reducible exact inAt9 | with_reducible exact inAt10 | with_reducible exact inAt11 | with_reducible exact inAt12 | with_reducible exact inAt13 | with_reducible exact inAt14 | with_reducible exact inAt15 | with_reducible exact inAt16 | with_reducible exact inAt17 | with_reducible exact inAt18 | with_reducible exact inAt19 | with_reducible exact inAt20 | with_reducible exact inAt21 | with_reducible exact inAt22 | with_reducible exact inAt23
  k_with "k_ne" => first | with_reducible assumption | exact neSym (by with_reducible assumption) | exact neLt (by with_reducible assumption) | exact neGt (by with_reducible assumption) | fail
  k_with "call builtin:isinstance" => (k_here; (with_reducible show wpAny _ _ (call _ [Value.ref _, Value.type _]) _ _ _); k_dflt (refine kia_one kitx_tuple (by k_in) (by exact kit_base (by k_asm) (by assumption)) (by kit_is) (by kit_nb) ?_; k_whole); intro _)
  k_with "subscriptTail" => (k_here; (with_reducible show wpAny _ _ (subscriptTail _ _ (Value.ref _) (Value.int _ _)) _ _ _); k_dflt (refine item_tupleT (by first | exact isTup_base (by k_asm) (by assumption) | exact isTup_sure (by assumption) (by k_asm) (by k_asm) (by walk_at "m_ex")) (by decide) (by decide) (by rfl) (by rfl) ?_; k_whole))
  k_with "ElEnd" => (refine ElEnd.intro (by k_asm) (by k_asm) (fmc (by k_mem) (by walk_at "m_ex")) ?_)
  k_with "call type:tuple" => (k_here; (with_reducible show wpAny _ _ (call (Value.type _) [Value.ref _]) _ _ _); k_dflt (refine kde_tupleOf (by k_asm) (by k_asm) (by exact News.isList (by k_asm) (by k_mem)) (by (simp only [List.size_toArray]; omega)) (by exact rfl) ?_; k_whole); intro D' h' F' N' l1; (try k_lt l1); (try k_sweep))
  k_with "m_use" => ((case B => k_asm); (case F => k_asm); (case X => k_asm); (case N => k_asm); (case T => k_asm); (case hk => exact rfl); (case hd => exact Nat.le_of_ble_eq_true rfl); (case hu => exact Nat.le_of_ble_eq_true rfl))
  k_with "m_rep" => ((rename News _ _ _ _ => N9); repeat' (first | with_unfolding_all exact RepAll.nil | with_unfolding_all exact Rep.none | with_unfolding_all exact Rep.bool _ | with_unfolding_all exact Rep.int _ _ | with_unfolding_all exact Rep.str _ _ | with_unfolding_all exact Rep.bytes _ _ | with_unfolding_all refine RepAll.cons ?_ ?_ | with_unfolding_all refine Rep.tup (News.get N9 (by k_mem)) ?_))
  trivial

theorem words_Lam51 : True := by
  k_with "k_inst" => exact inst_base (by k_asm) (by assumption) (by assumption)
  trivial
local macro_rules | `(tactic| walk_at "eval Name") => `(tactic| (k_here; k_dflt (refine' nameX_G ?F ?c ?e ?d ?_ ?a ?b; (case F => k_asm); (case a => rfl); (case b => rfl); (case c => rfl); (case e => assumption); (case d => assumption); k_whole)))
theorem words_Lam52 : True := by
  k_with "call ref" => (k_here; (with_reducible show wpAny _ _ (call (Value.ref _) _) _ _ _); refine stop ?_)
  trivial
/-- what the lambdas of _law_refused keep -/
noncomputable abbrev lamSc : Scope := { kind := .function, names := [(Str.ofString "key", .free), (Str.ofString "table", .free)], isGenerator := false, isCoroutine := false }
noncomputable abbrev noPar : Arguments := { posonlyargs := [], args := [], vararg := none, kwonlyargs := [], kw_defaults := [], kwarg := none, defaults := [] }
section
variable {name qual : Str} {pm ctv : Value} {c' f c1 c2 : Addr} {o1 o2 : Obj} {tab td ent t1 t2 t3 tc n : Nat} {c : Int} {v : Value} {d : Dt} {xs : Ents} {o : Obj}
theorem lamGet_thr (hf : s.heap.get? f = some (kla_obj name qual noPar (((Expr.Name (Str.ofString "table") ⟨173, 8, 173, 13⟩).Attribute (Str.ofString "get") ⟨173, 8, 173, 17⟩).Call [Expr.Name (Str.ofString "key") ⟨173, 18, 173, 21⟩] [] ⟨173, 8, 173, 22⟩) lamSc [(Str.ofString "table", c1), (Str.ofString "key", c2)] pm c' ctv))
    (hcd : s.heap.CodeRec (.ref c') qual) (e1 : s.heap.get? c1 = some o1) (d1 : o1.data = .cell (some (.ref tab))) (e2 : s.heap.get? c2 = some o2) (d2 : o2.data = .cell (some v))
    (h1 : s.heap.get? tab = some (instObj 134 td)) (h2 : s.heap.get? td = some (tdObj w t1 t2 t3 ent c tc n)) (h3 : s.heap.get? ent = some o) (ho : EntIs prog w o xs) (hv : Rep s.heap v d) (hb : BadD d) :
    Thr prog w p loose mean mg mb 335 220 s (.call (.ref f) ⟨[], []⟩) := by
  refine' enterTE (binds := []) hf hcd (by decide) (by exact rfl) (List.forall_mem_nil _) ?_ rfl rfl rfl (by decide)
  intro l A₀ base L' h' F' B' X' T'
  have N' : News s.heap L' h' [] := List.forall_mem_nil _
  try dsimp only
  try k_fold
  k_steps
  unfold Stop
  (rename Fr _ _ _ _ => F9)
  refine useT B' F9 X' T' rfl (getBad_thr (F9.keep _ _ h1) (F9.keep _ _ h2) (F9.keep _ _ h3) ho (hv.grow F9.keep) hb) (Nat.le_of_ble_eq_true rfl) (Nat.le_of_ble_eq_true rfl) ?_
  intro e h9 tk9 th
  exact ⟨e, _, h9, tk9, rfl, rfl, F9.keep, th⟩
theorem lamPut_thr (hf : s.heap.get? f = some (kla_obj name qual noPar (((Expr.Name (Str.ofString "table") ⟨174, 8, 174, 13⟩).Attribute (Str.ofString "put") ⟨174, 8, 174, 17⟩).Call [Expr.Name (Str.ofString "key") ⟨174, 18, 174, 21⟩, Expr.Constant (Const.int 1) 0 ⟨174, 23, 174, 24⟩] [] ⟨174, 8, 174, 25⟩) lamSc [(Str.ofString "table", c1), (Str.ofString "key", c2)] pm c' ctv))
    (hcd : s.heap.CodeRec (.ref c') qual) (e1 : s.heap.get? c1 = some o1) (d1 : o1.data = .cell (some (.ref tab))) (e2 : s.heap.get? c2 = some o2) (d2 : o2.data = .cell (some v))
    (h1 : s.heap.get? tab = some (instObj 134 td)) (h2 : s.heap.get? td = some (tdObj w t1 t2 t3 ent c tc n)) (hv : Rep s.heap v d) (hb : BadD d) :
    Thr prog w p loose mean mg mb 335 220 s (.call (.ref f) ⟨[], []⟩) := by
  refine' enterTE (binds := []) hf hcd (by decide) (by exact rfl) (List.forall_mem_nil _) ?_ rfl rfl rfl (by decide)
  intro l A₀ base L' h' F' B' X' T'
  have N' : News s.heap L' h' [] := List.forall_mem_nil _
  try dsimp only
  try k_fold
  k_steps
  unfold Stop
  (rename Fr _ _ _ _ => F9)
  refine useT B' F9 X' T' rfl (putBad_thr (F9.keep _ _ h1) (F9.keep _ _ h2) (hv.grow F9.keep) hb) (Nat.le_of_ble_eq_true rfl) (Nat.le_of_ble_eq_true rfl) ?_
  intro e h9 tk9 th
  exact ⟨e, _, h9, tk9, rfl, rfl, F9.keep, th⟩
theorem lamRem_thr (hf : s.heap.get? f = some (kla_obj name qual noPar (((Expr.Name (Str.ofString "table") ⟨175, 8, 175, 13⟩).Attribute (Str.ofString "remove") ⟨175, 8, 175, 20⟩).Call [Expr.Name (Str.ofString "key") ⟨175, 21, 175, 24⟩] [] ⟨175, 8, 175, 25⟩) lamSc [(Str.ofString "table", c1), (Str.ofString "key", c2)] pm c' ctv))
    (hcd : s.heap.CodeRec (.ref c') qual) (e1 : s.heap.get? c1 = some o1) (d1 : o1.data = .cell (some (.ref tab))) (e2 : s.heap.get? c2 = some o2) (d2 : o2.data = .cell (some v))
    (h1 : s.heap.get? tab = some (instObj 134 td)) (h2 : s.heap.get? td = some (tdObj w t1 t2 t3 ent c tc n)) (h3 : s.heap.get? ent = some o) (ho : EntIs prog w o xs) (hv : Rep s.heap v d) (hb : BadD d) :
    Thr prog w p loose mean mg mb 335 220 s (.call (.ref f) ⟨[], []⟩) := by
  refine' enterTE (binds := []) hf hcd (by decide) (by exact rfl) (List.forall_mem_nil _) ?_ rfl rfl rfl (by decide)
  intro l A₀ base L' h' F' B' X' T'
  have N' : News s.heap L' h' [] := List.forall_mem_nil _
  try dsimp only
  try k_fold
  k_steps
  unfold Stop
  (rename Fr _ _ _ _ => F9)
  refine useT B' F9 X' T' rfl (remBad_thr (F9.keep _ _ h1) (F9.keep _ _ h2) (F9.keep _ _ h3) ho (hv.grow F9.keep) hb) (Nat.le_of_ble_eq_true rfl) (Nat.le_of_ble_eq_true rfl) ?_
  intro e h9 tk9 th
  exact ⟨e, _, h9, tk9, rfl, rfl, F9.keep, th⟩
end
end
/-! ## Cat -/
section
theorem words0_Cat : True := by
  w_top off
  k_with_none
  trivial
noncomputable def AllNe (d : Nat) : List (Addr × Obj) → Prop
  | [] => True
  | p :: r => @Ne Nat p.1 d ∧ AllNe d r
theorem allNe_of {d : Addr} : ∀ {l : List (Addr × Obj)}, (∀ p ∈ l, p.1 ≠ d) → AllNe d l
  | [], _ => trivial
  | p :: _, h => ⟨h p (.head _), allNe_of fun q hq => h q (.tail _ hq)⟩
/-- the same object, its slots aside -/
noncomputable def SlotsOf (o o' : Obj) : Prop := ∃ sl, o' = { o with slots := sl }
theorem SlotsOf.refl (o : Obj) : SlotsOf o o := ⟨o.slots, rfl⟩
theorem SlotsOf.trans {o o' o'' : Obj} (x : SlotsOf o o') (y : SlotsOf o' o'') : SlotsOf o o'' := by
  obtain ⟨sl, rfl⟩ := x
  obtain ⟨sl', rfl⟩ := y
  exact ⟨sl', rfl⟩
theorem SlotsOf.data {o o' : Obj} (x : SlotsOf o o') : o'.data = o.data := by
  obtain ⟨sl, rfl⟩ := x
  rfl
section
variable {prog : Program} {w : World} {A₀ : Around} {E : Value → Shared → Prop} {s s' : Shared} {base g G : Heap} {oenv : Env} {L a e Lw : Nat} {ow : Obj} {m : Str → Option Value} {name : Str} {scope : Scope} {cd : Value} {cl : List (Str × Addr)}
  {n : Str} {b₀ : Stmt} {suite : List Stmt} {pos np : Pos} {rest : List ExceptHandler} {Q : Flow → Shared → Prop} {news : List (Addr × Obj)} {gu : Obj → List (Addr × Obj)}
  {p : Program} {loose : List Str} {mean : ExcName → Option Value} {mg mb : Str → Option Value} {x : Str}
theorem mem2 {b : Addr} (hw : oenv.frame = some Lw) (hm : b ∈ [envX name scope L a cd cl, oenv].filterMap (·.frame)) : b = L ∨ b = Lw := by
  obtain ⟨env, he, hf⟩ := List.mem_filterMap.mp hm
  rcases List.mem_cons.mp he with rfl | he
  · exact .inl (Option.some.inj hf).symm
  · rw [List.mem_singleton.mp he, hw] at hf
    exact .inr (Option.some.inj hf).symm
/-- a panic is caught, and bound to a name (one frame below, which lies in the ledger) -/
theorem caught_T (hw : oenv.frame = some Lw) (R : Thrown w G [envX name scope L a cd cl, oenv] e s'.heap) (F : Fr g L G m) (N : News g L G news) (U : UpdF Lw ow news gu) (hwd : ∀ vs, ow.data ≠ .fields vs) (hst : A₀.frames = some [oenv])
    (X : (pre.heap_1 w.params).In g) (T : Top p loose mean mg mb g)
    (ex : nsIn (pre.heap_1 w.params) mainGlobals x = some (some (.ref 52))) (q : ktsIn (pre.heap_1 w.params) 52 "Exception" = true)
    (k : ∀ h' tk oe (dx tv t1 t2 t3 tm ti tf tb : Nat) ow', SlotsOf ow ow' → Fr g L h' (fun y => if y = n then some (.ref e) else m y) →
      News g L h' ((e, oe) :: (dx, panicD w t1 t2 t3 tm ti tv) :: (tv, tupObj [.str (Str.ofString "face") tf, .ref 55, .bytes #[104,97,115,104,32,111,102,32,117,110,104,97,115,104,97,98,108,101,32,116,121,112,101] tb]) :: gu ow') → oe.cls = .ref 52 → oe.dict = some dx → notCls oe = true → AllNe e (gu ow') → AllNe dx (gu ow') → AllNe tv (gu ow') →
      wpAny (model prog w) ((A₀.deeper (envX name scope L a cd cl)).mark (some (.ref e))) (execs (b₀ :: suite) (envX name scope L a cd cl))
        (fun f s₄ => wpAny (model prog w) (A₀.deeper (envX name scope L a cd cl)) (do bindName (envX name scope L a cd cl) n .none; unbindBehindTheSuite (envX name scope L a cd cl) n pos) (fun _ s₅ => Q f s₅) E s₄)
        (AsSuiteRaised (model prog w) ((A₀.deeper (envX name scope L a cd cl)).mark (some (.ref e))) (envX name scope L a cd cl) n pos (notedBy (model prog w) ((A₀.deeper (envX name scope L a cd cl)).mark (some (.ref e))) (envX name scope L a cd cl) (cameBackBy (model prog w) (A₀.deeper (envX name scope L a cd cl)) (envX name scope L a cd cl) E)))
        { s' with heap := h', toks := tk })
    (hk : scope.kind = .function := by rfl) (hlo : (envX name scope L a cd cl).kindOf n = some .local := by rfl) (hx : (envX name scope L a cd cl).kindOf x = some .globalImplicit := by rfl) (hd' : (x == ("__debug__" : Str)) = false := by decide) :
    wpAny (model prog w) (A₀.deeper (envX name scope L a cd cl)) (noteFrame (.ref e) (envX name scope L a cd cl))
      (fun _ s₂ => wpAny (model prog w) (A₀.deeper (envX name scope L a cd cl)) (setFlight (.ref e) none) (fun _ s₃ =>
        wpAny (model prog w) (A₀.deeper (envX name scope L a cd cl)) (handleBy (.ref e) (envX name scope L a cd cl) (.ExceptHandler (some (.Name x np)) (some n) (b₀ :: suite) pos :: rest)) Q E s₃) E s₂) E s' := by
  obtain ⟨B, dx, fl, hBG, fly, hsm, hold, heG⟩ := R
  obtain ⟨tv, t1, t2, t3, tm, ti, tf, tb, hdx, htv, hdxG, htvG⟩ := hold
  refine cutC fun C_ kC_ => ?_
  obtain ⟨pre, post, rfl, hgu, hp1, hp2⟩ := U.split
  refine kC_ ?_
  clear kC_ C_
  have Nw := N (Lw, ow) (by simp)
  have hL : B.get? L = none := by
    refine cutC fun C_ kC_ => ?_
    obtain ⟨_, ⟨L', _, hf, hn', _⟩, _⟩ := fly.frames
    refine kC_ ?_
    clear kC_ C_
    obtain rfl : L = L' := Option.some.inj hf
    exact hn'
  have old : ∀ {b : Addr}, G.get? b = none → g.get? b = none := fun {b} hb => kts_none F.keep hb
  have gB : ∀ b o, g.get? b = some o → B.get? b = some o := fun b o e => hBG _ _ (F.keep _ _ e) fun hm => by
    rcases mem2 hw hm with z | z
    · rw [z, kts_self F] at e; cases e
    · rw [z, Nw.2.2] at e; cases e
  refine note_fly (Around.frames_deeper hst) rfl fly fun h₄ f₄ fly₄ u₄ => ?_
  refine set_fly fly₄ fun h₅ f₅ fly₅ u₅ => ?_
  have hsm₅ := (hsm.trans u₄).trans u₅
  have F₅ : Fr g L h₅ m := ⟨hsm₅.ns F.ns, fun b o e => fly₅.stays _ _ (gB b o e), F.above⟩
  have P₅ : TopRead p loose mg mb g := topRead_of T
  refine cutC fun C_ kC_ => ?_
  obtain ⟨oe₅, vs₅, hoe₅, hoc₅, hov₅, hod₅, _⟩ := fly₅.exc
  refine kC_ ?_
  clear kC_ C_
  refine cutC fun C_ kC_ => ?_
  obtain ⟨nm, q', N', bs, bm, hdct, sn, sub, ab, col, dd, k0, k1, k2, k3, k5, newId, hC, hbase, hbT⟩ := kts_cls X q
  refine kC_ ?_
  clear kC_ C_
  have hC₅ := F₅.keep _ _ hC
  refine wpAny_handleBy_cons (codeAny_handlers_test (nameX_K F₅ X P₅ ex ?_ hk hx hd')) (by intro q; cases q)
  refine wpAny_excMatches_sub_self hC₅ hoe₅ hoc₅ hbase (codeAny_handlers_suite_as ?_)
  refine set_fly fly₅ fun h₆ f₆ fly₆ u₆ => ?_
  have hsm₆ := hsm₅.trans u₆
  have F₆ : Fr g L h₆ m := ⟨hsm₆.ns F.ns, fun b o e => fly₆.stays _ _ (gB b o e), F.above⟩
  refine cutC fun C_ kC_ => ?_
  obtain ⟨oe, vs, hoe, hoc, hov, hod, _⟩ := fly₆.exc
  refine kC_ ?_
  clear kC_ C_
  obtain ⟨sl, hwo⟩ := hsm₆ _ _ Nw.1 hwd
  have ap : ∀ {b : Addr}, G.get? b = none → ∀ y ∈ gu { ow with slots := sl }, y.1 ≠ b := fun {b} hb y hy z => by
    rw [hgu] at hy
    have hG : ∃ o, G.get? y.1 = some o := by
      rcases List.mem_append.mp hy with hy | hy
      · exact ⟨_, (N y (by simp [hy])).1⟩
      · rcases List.mem_cons.mp hy with rfl | hy
        · exact ⟨_, Nw.1⟩
        · exact ⟨_, (N y (by simp [hy])).1⟩
    obtain ⟨o, hG⟩ := hG
    rw [z, hb] at hG; cases hG
  have eL : e ≠ L := fun z => by
    refine cutC fun C_ kC_ => ?_
    obtain ⟨oL, _, _, hLG, _⟩ := F.ns
    refine kC_ ?_
    clear kC_ C_
    rw [z, hLG] at heG; cases heG
  have dL : dx ≠ L := fun z => by rw [z, hL] at hdx; cases hdx
  have vL : tv ≠ L := fun z => by rw [z, hL] at htv; cases htv
  have oth : ∀ y ∈ pre ++ (Lw, ow) :: post, y.1 ≠ Lw → h₆.get? y.1 = some y.2 := fun y hy ne =>
    fly₆.stays _ _ (hBG _ _ (N y hy).1 fun hm => by
      rcases mem2 hw hm with z | z
      · exact (N y hy).2.1 z
      · exact ne z)
  have Nl : News g L h₆ (gu { ow with slots := sl }) := fun y hy => by
    rw [hgu] at hy
    rcases List.mem_append.mp hy with hy | hy
    · exact ⟨oth y (by simp [hy]) (hp1 _ hy), (N y (by simp [hy])).2⟩
    · rcases List.mem_cons.mp hy with rfl | hy
      · exact ⟨hwo, Nw.2⟩
      · exact ⟨oth y (by simp [hy]) (hp2 _ hy), (N y (by simp [hy])).2⟩
  have Na : News g L h₆ ((e, oe) :: (dx, panicD w t1 t2 t3 tm ti tv) :: (tv, tupObj [.str (Str.ofString "face") tf, .ref 55, .bytes #[104,97,115,104,32,111,102,32,117,110,104,97,115,104,97,98,108,101,32,116,121,112,101] tb]) :: gu { ow with slots := sl }) :=
    List.forall_mem_cons.mpr ⟨⟨hoe, eL, old heG⟩, List.forall_mem_cons.mpr ⟨⟨fly₆.stays _ _ hdx, dL, old hdxG⟩, List.forall_mem_cons.mpr ⟨⟨fly₆.stays _ _ htv, vL, old htvG⟩, Nl⟩⟩⟩
  refine storeX_L F₆ Na (fun h₇ F₇ N₇ => ?_) hk hlo
  exact k h₇ _ oe dx tv t1 t2 t3 tm ti tf tb _ ⟨sl, rfl⟩ F₇ N₇ hoc hov (by unfold notCls; rw [hod]) (allNe_of (ap heG)) (allNe_of (ap hdxG)) (allNe_of (ap htvG))
/-- a call that panics, one frame below -/
theorem useT2 {D U dp un : Nat} {f : Value} {ps : List Value} {Q : Value → Shared → Prop}
    (hb : base.StaysIn g) (hw : oenv.frame = some Lw) (hwk : oenv.scope.kind ≠ .module) (hwb : base.get? Lw = none) (F : Fr g L s.heap m) (N : News g L s.heap news) (hm : (Lw, ow) ∈ news) (hwd : ∀ vs, ow.data ≠ .fields vs) (X : (pre.heap_1 w.params).In g) (T : Top p loose mean mg mb g) (hk : scope.kind = .function) (C : Thr prog w p loose mean mg mb D U s (.call f ⟨ps, []⟩))
    (hd : dp ≤ D) (hu : un ≤ U)
    (thr : ∀ e h' tk, Thrown w s.heap [envX name scope L a cd cl, oenv] e h' → E (.ref e) { s with heap := h', toks := tk }) :
    wpAny (model prog w) (ctr dp un [envX name scope L a cd cl, oenv]) (call f ps) Q E s := by
  have hbL : base.get? L = none := by
    cases q : base.get? L with
    | none => rfl
    | some o => have := hb _ _ q; rw [kts_self F] at this; cases this
  have BG : Below (ctr dp un [envX name scope L a cd cl, oenv]) base [envX name scope L a cd cl, oenv] s.heap := ⟨rfl, fun b o e => F.keep _ _ (hb _ _ e), Heap.FunFrames.cons (by show scope.kind ≠ .module; rw [hk]; decide) rfl F.ns hbL ⟨hwk, ⟨Lw, ow, hw, hwb, N.get hm, hwd⟩, trivial⟩⟩
  refine wpAny_call (codeAny_mono (codeAny_ctr (C _ _ base (X.keeps F.keep) (T.keeps F.keep) BG) hd hu) fun r s' q_ => ?_)
  obtain ⟨e, h', tk, e1, e2, th⟩ := q_
  subst e1 e2
  exact thr e h' tk th
end
theorem nameX_goes {M : Model} {A : Around} {E : Value → Shared → Prop} {s : Shared} {name : Str} {scope : Scope} {L a : Addr} {cd : Value} {cl : List (Str × Addr)} {h₀ : Heap} {m : Str → Option Value} {news : List (Addr × Obj)} {n : Str} {pos : Pos} {Q : Unit → Shared → Prop} (F : Fr h₀ L s.heap m) (N : News h₀ L s.heap news)
    (h : ∀ h' v, Fr h₀ L h' (fun x => if x = n then v else m x) → News h₀ L h' news → Q () { s with heap := h', toks := s.toks + 1 })
    (hk : scope.kind = .function := by rfl) (hl : (envX name scope L a cd cl).kindOf n = some .local := by rfl) :
    wpAny M A (do bindName (envX name scope L a cd cl) n .none; unbindBehindTheSuite (envX name scope L a cd cl) n pos) Q E s :=
  wpAny_nameGoes_keeps hl F.ns (by show (scope.kind == .class || (scope.kind == .module && L != mainGlobals)) = false; rw [hk]; rfl) fun h' v hn hs => h h' v (F.set hn hs) (N.set hs)
theorem News.drop3 {g h : Heap} {L : Addr} {a b c : Addr × Obj} {r : List (Addr × Obj)} (N : News g L h (a :: b :: c :: r)) : News g L h r := fun q hq => N q (List.mem_cons_of_mem _ (List.mem_cons_of_mem _ (List.mem_cons_of_mem _ hq)))
end
/-! ## Exg -/
section
theorem words0_Exg : True := by
  w_top off
  k_with_none
  trivial
section
open Builtin
variable {prog : Program} {w : World} {A : Around} {E : Value → Shared → Prop} {s : Shared} {K : Frag} {x C : Addr} {ox od : Obj} {name : Str} {expr : Bool} {Q : Value → Shared → Prop} {v : Value}
theorem exc_ga_check {tk : Tok} {nameV : Value} {Q : Unit → Shared → Prop} {od : Option Obj} (X : K.In s.heap) (I : InstAt s.heap x ox C od) (hb : mroIn K C (.type "BaseException") = some true) (hq : Q () s) :
    wpAny (model prog w) A (checkBuiltinCall "BaseException.__getattribute__" ⟨[.ref x, nameV], []⟩) Q E s := by
  have hk : builtinKind "BaseException.__getattribute__" = some .slot := by decide +kernel
  have hsplit : splitId "BaseException.__getattribute__" = some ("BaseException", "__getattribute__") := by decide +kernel
  have ha := F.args_bexc_ga (.ref x) nameV
  have sub : Looks (model prog w) s.heap (isInstance (.ref x) (.type "BaseException")) true := I.type.andThen (looks_mroIn X hb)
  simp only [checkBuiltinCall, hk, hsplit]
  refine wpAny_bind (sub.here ?_)
  repeat (first | assumption | wp_step)
theorem exc_get (X : K.In s.heap) (I : InstAt s.heap x ox C (some od)) (hga : findIn K (.ref C) "__getattribute__" = some (some (.builtin "BaseException.__getattribute__"))) (hk : findIn K (.ref C) "__getattr__" = some none) (hb : mroIn K C (.type "BaseException") = some true)
    (hf : findObj K C (some od) name = some (.value v)) (hh : handedIn v = true) (h : Q v { s with toks := s.toks + 1 }) : wpAny (model prog w) A (getAttr (.ref x) name expr) Q E s := by
  refine cutC fun C_ kC_ => ?_
  obtain ⟨hp, g, d, t, os⟩ := s
  refine kC_ ?_
  clear kC_ C_
  have L0 := I.type (M := model prog w)
  have L1 := looks_findIn (M := model prog w) X hga
  have L2 := looks_findIn (M := model prog w) X hk
  have L3 := looks_find (M := model prog w) X I hf
  have f3 := PySem.F.attr_Exception.ga.bind (.ref x)
  have hx0 : (expr && onTheHeap (Value.builtin "BaseException.__getattribute__")) = false := by cases expr <;> rfl
  have hx2 : (Value.builtin "BaseException.__getattribute__" == Value.builtin "object.__getattribute__") = false := by decide +kernel
  have hx1 : (onTheHeap (Value.ref C) && Value.builtin "BaseException.__getattribute__" == Value.builtin "object.__getattribute__") = false := by rw [hx2]; rfl
  unfold getAttr getAttrBy
  refine wpAny_bind (wpAny_mkText (wpAny_holding (wpAny_bind (L0.at (wpAny_bind (L1.at ?_))))))
  dsimp only
  rw [if_neg (by rw [hx1]; decide)]
  unfold getAttrByItsOwn hookBefore
  repeat (any_goals (first | assumption | with_reducible refine L2.at ?_ | with_reducible refine L0.at ?_ | wp_step))
  refine codeAny_call_builtin PySem.F.attr_Exception.ga.plain F.entry_bexc_ga (exc_ga_check (tk := t) X I hb ?_)
  unfold Builtin.«object.__getattribute__»
  repeat (any_goals (first | assumption | with_reducible refine L3.at ?_ | with_reducible refine L0.at ?_ | wp_step))
  all_goals (show wpAny _ _ (handedOut v) _ _ _; rw [handedOut_of hh]; exact wpAny_pure h)
theorem exc_own {h₀ : Heap} {L : Addr} {m : Str → Option Value} {es : List DictEntry} {n : Nat} {attr : Option Value} (F : Fr h₀ L s.heap m) (X₀ : K.In h₀) (I : InstAt s.heap x ox C (some (dictOf es n))) (hga : findIn K (.ref C) "__getattribute__" = some (some (.builtin "BaseException.__getattribute__"))) (hk : findIn K (.ref C) "__getattr__" = some none) (hb : mroIn K C (.type "BaseException") = some true) (hh : hasDictIn K C = true)
    (ha : findIn K (.ref C) name = some attr) (hn : noGet K attr = true) (hl : getL name es = some (some v)) (hv : handedIn v = true) (h : Q v { s with toks := s.toks + 1 }) :
    wpAny (model prog w) A (getAttr (.ref x) name expr) Q E s :=
  exc_get (X₀.keeps F.keep) I hga hk hb (findObj_own hh ha hn hl) hv h
theorem inst_exc {g h : Heap} {L e dx : Addr} {oe od : Obj} {news : List (Addr × Obj)} (N : News g L h news) (m1 : (e, oe) ∈ news) (hc : oe.cls = .ref C) (hv : oe.dict = some dx) (hn : notCls oe = true) (m2 : (dx, od) ∈ news) : InstAt h e oe C (some od) := ⟨N.get m1, hc, hn, by rw [hv]; exact N.get m2⟩
end
end
/-! ## Ref -/
section
theorem words0_Ref : True := by
  w_top off
  k_with_none
  trivial
variable {prog : Program} {w : World} {p : Program} {loose : List Str} {mean : ExcName → Option Value} {mg mb : Str → Option Value} {s : Shared} {A : Around} {E : Value → Shared → Prop}
/-- a contract of a call that catches: the one frame below may have got its frame object; fs: places that are not that frame -/
noncomputable def DoesC (prog : Program) (w : World) (p : Program) (loose : List Str) (mean : ExcName → Option Value) (mg mb : Str → Option Value) (fs : List Addr) (D U : Nat) (s : Shared) (c : Code) (P : Value → Heap → Prop) : Prop :=
  ∀ (oenv : Env) (Lw : Nat) (ow : Obj) (base : Heap), oenv.frame = some Lw → oenv.scope.kind ≠ .module → base.get? Lw = none → s.heap.get? Lw = some ow → (∃ es n, ow.data = .dict es n) → (∀ b ∈ fs, b ≠ Lw) →
    base.StaysIn (hideAll s.heap [Lw, 272]) → (pre.heap_1 w.params).In (hideAll s.heap [Lw, 272]) → Top p loose mean mg mb (hideAll s.heap [Lw, 272]) →
    codeAny (model prog w) (ctr D U [oenv]) c (fun r s' => ∃ v h' tk, r = .ok (.ret v) ∧ s' = { s with heap := h', toks := tk } ∧ (∀ b o, s.heap.get? b = some o → b ≠ Lw → b ≠ 272 → h'.get? b = some o) ∧ (∃ ow', SlotsOf ow ow' ∧ h'.get? Lw = some ow') ∧ s.heap.objs.size ≤ h'.objs.size ∧ P v h') s
noncomputable def EndC (s : Shared) (g : Heap) (Lw : Addr) (ow : Obj) (P : Value → Heap → Prop) (v : Value) (s' : Shared) : Prop :=
  ∃ L' m' h' tk ow', s' = { s with heap := h', toks := tk } ∧ Fr g L' h' m' ∧ SlotsOf ow ow' ∧ h'.get? Lw = some ow' ∧ P v h'
theorem enterC {fs : List Addr} {D U : Nat} {P : Value → Heap → Prop} {name qual : Str} {params : Arguments} {body : List Stmt} {scope : Scope} {dV kV doc pm cdv ct oc : Value} {an od : Option Addr} {osl : Array (Option Value)} {f : Addr} {args : Args} {binds : List (Str × Value)}
    (h272 : s.heap.get? 272 = some (tabObj #[]))
    (ho : (pre.heap_1 w.params).lookup f = some ⟨oc, od, .func (fnOf name qual params body scope dV kV doc pm an cdv ct), osl⟩) (hcd : codeIn (pre.heap_1 w.params) cdv qual = true)
    (hro : D < recursionLimit)
    (hbind : BindsTo s (fnOf name qual params body scope dV kV doc pm an cdv ct) args binds) (hl : (binds.all fun y => scope.names.lookup y.1 == some .local || scope.names.lookup y.1 == some .cell) = true)
    (hnd : ((cellsFrom 0 scope.names []).map (·.1)).Nodup)
    (h : ∀ (oenv : Env) (Lw : Nat) (ow : Obj) (base g : Heap) (L' : Addr) (h₁ : Heap) (tk : Nat) (cells : List (Addr × Obj)), oenv.frame = some Lw → oenv.scope.kind ≠ .module → base.get? Lw = none → (∃ es n, ow.data = .dict es n) → (∀ b ∈ fs, b ≠ Lw) → s.heap.get? Lw = some ow → @Ne Nat Lw 272 → base.StaysIn g → Keep [Lw, 272] s.heap g →
      Fr g L' h₁ (bindL (envOfC qual scope L' f cdv).kindOf binds fun _ => none) → News g L' h₁ (cells ++ [(Lw, ow), (272, tabObj #[])]) → CellsAre (bindC (envOfC qual scope L' f cdv).kindOf binds fun _ => none) (cellsFrom (L' + 1) scope.names []) cells →
      (∀ q ∈ [(Lw, ow), (272, tabObj #[])], q.1 < L') → (pre.heap_1 w.params).In g → Top p loose mean mg mb g →
      wpAny (model prog w) ((ctr D U [oenv]).deeper (envOfC qual scope L' f cdv)) (execs body (envOfC qual scope L' f cdv))
        (fun fl s' => EndC s g Lw ow P (match fl with | .ret v => v | _ => .none) s')
        (fun _ _ => False)
        { s with heap := h₁, toks := tk })
    (hco : scope.isCoroutine = false := by rfl) (hgen : scope.isGenerator = false := by rfl) (hk : scope.kind = .function := by rfl) : DoesC prog w p loose mean mg mb fs D U s (.call (.ref f) args) P := by
  intro oenv Lw ow base hw hwk hwb hwo hwd hfs hb X T
  have st : ∀ b o, (hideAll s.heap [Lw, 272]).get? b = some o → s.heap.get? b = some o := fun b o e => of_hideAll _ e
  have ne : @Ne Nat Lw 272 := fun q => by
    obtain ⟨es, n, hd⟩ := hwd
    subst q
    rw [h272] at hwo; cases hwo; cases hd
  refine codeAny_call_function hro (st _ _ (X _ _ ho)) rfl hco hgen rfl (codeRec_of (X.keeps st) hcd) (hbind _ _ _ _ ?_)
  refine wpAny_newFunctionEnv_cells hk (kindsX hl _) fun env' he s' x => ?_
  subst he
  refine ⟨(T.nolimit.keeps st).keeps x.toInCall.keep, codeAny_func ?_⟩
  obtain ⟨h₁, tk, rfl, _⟩ := x.done
  have hk₁ := x.toInCall.keep
  obtain ⟨cells, NC, Y⟩ := Cl.news (h₀ := s.heap) (Nat.le_refl _) fun n c hm => ⟨x.cell n c (lookup_of_mem_nodup (cellsFrom_names scope.names 0 (s.heap.objs.size + 1) [] [] rfl ▸ hnd) hm), x.above n c hm⟩
  have N : ∀ q ∈ [(Lw, ow), (272, tabObj #[])], s.heap.get? q.1 = some q.2 := fun q hq => by
    simp only [List.mem_cons, List.not_mem_nil, or_false] at hq
    rcases hq with rfl | rfl
    · exact hwo
    · exact h272
  have K1 : Keep [Lw, 272] s.heap (hideAll s.heap [Lw, 272]) := fun a o e n => hideAll_get _ e n
  refine wpAny_mono (h oenv Lw ow base (hideAll s.heap [Lw, 272]) s.heap.objs.size h₁ tk cells hw hwk hwb hwd hfs hwo ne hb K1 ⟨x.toInCall.ns, fun b o e => hk₁ b o (of_hideAll _ e), Nat.le_of_eq (hideAll_size _ _)⟩ (fun q hq => ?_) Y (fun q hq => Heap.lt_size (N q hq)) X T) (fun fl s' hl => ?_) fun _ _ y => y.elim
  · rcases List.mem_append.mp hq with hq | hq
    · refine ⟨(NC q hq).1, (NC q hq).2.1, ?_⟩
      cases e : (hideAll s.heap [Lw, 272]).get? q.1 with
      | none => rfl
      | some o => have := of_hideAll _ e; rw [(NC q hq).2.2] at this; cases this
    · refine ⟨hk₁ _ _ (N q hq), Nat.ne_of_lt (Heap.lt_size (N q hq)), hideAll_none _ ?_⟩
      simp only [List.mem_cons, List.not_mem_nil, or_false] at hq ⊢
      rcases hq with rfl | rfl
      · exact .inl rfl
      · exact .inr rfl
  · refine cutC fun C_ kC_ => ?_
    obtain ⟨L'', m', h', tk, ow', rfl, F', so, hwo', hp⟩ := hl
    refine kC_ ?_
    clear kC_ C_
    refine ⟨_, h', tk, rfl, rfl, fun b o e n1 n2 => F'.keep _ _ (K1 b o e (by simp [n1, n2])), ⟨ow', so, hwo'⟩, ?_, hp⟩
    have h1 := F'.above
    rw [hideAll_size] at h1
    exact Nat.le_of_lt (Nat.lt_of_le_of_lt h1 F'.ns.lt)
theorem words_Ref53 : True := by
  k_with "m_ex" => (first | with_reducible exact exAt0 | with_reducible exact exAt1 | with_reducible exact exAt2 | with_reducible exact exAt3 | with_reducible exact exAt4 | with_reducible exact exAt5 | with_reducible exact exAt6 | with_reducible exact exAt7 | with_reducible exact exAt8 | with_reducible exact exAt9 | with_reducible exact exAt10 | with_reducible exact exAt11 | with_reducible exact exAt12 | with_reducible exact exAt13 | with_reducible exact exAt14 | with_reducible exact exAt15 | with_reducible exact exAt16 | with_reducible exact exAt17 | with_reducible exact exAt18 | with_reducible exact exAt19 | with_reducible exact exAt20 | with_reducible exact exAt21 | with_reducible exact exAt22 | with_reducible exact exAt23)
  k_with "m_enter" => ((case ho => k_is); (case hcd => k_is); (case hro => decide); (case hb => exact BindsTo.of_eq rfl); (case hl => exact locs rfl); (case c2 => exact rfl); (case c3 => exact rfl); (case c4 => exact rfl); (case c5 => decide))
  k_with "m_enterC" => ((case ho => k_is); (case hcd => k_is); (case hro => decide); (case hb => exact BindsTo.of_eq rfl); (case hl => exact rfl); (case hnd => decide +kernel); (case c2 => exact rfl); (case c3 => exact rfl); (case c4 => exact rfl))
  k_with "EndR" => (refine endR (by with_reducible assumption) (by k_asm) ?_)
  k_with "k_mem" => first | with_reducible exact inAt0 | with_reducible exact inAt1 | with_reducible exact inAt2 | with_reducible exact inAt3 | with_reducible exact inAt4 | with_reducible exact inAt5 | with_reducible exact inAt6 | with_reducible exact inAt7 | with_reducible exact inAt8 | with_reducible exact inAt9 | with_reducible exact inAt10 | with_reducible exact inAt11 | with_reducible exact inAt12 | with_reducible exact inAt13 | with_reducible exact inAt14 | with_reducible exact inAt15 | with_reducible exact inAt16 | with_reducible exact inAt17 | with_reducible exact inAt18 | with_reducible exact inAt19 | with_reducible exact inAt20 | with_reducible exact inAt21 | with_reducible exact inAt22 | with_reducible exact inAt23
  k_with "k_ne" => first | with_reducible assumption | exact neSym (by with_reducible assumption) | exact neLt (by with_reducible assumption) | exact neGt (by with_reducible assumption) | fail
  k_with "call builtin:isinstance" => (k_here; (with_reducible show wpAny _ _ (call _ [Value.ref _, Value.type _]) _ _ _); k_dflt (refine kia_one kitx_tuple (by k_in) (by exact kit_base (by k_asm) (by assumption)) (by kit_is) (by kit_nb) ?_; k_whole); intro _)
  k_with "subscriptTail" => (k_here; (with_reducible show wpAny _ _ (subscriptTail _ _ (Value.ref _) (Value.int _ _)) _ _ _); k_dflt (refine item_tupleT (by first | exact isTup_base (by k_asm) (by assumption) | exact isTup_sure (by assumption) (by k_asm) (by k_asm) (by walk_at "m_ex")) (by decide) (by decide) (by rfl) (by rfl) ?_; k_whole))
  k_with "ElEnd" => (refine ElEnd.intro (by k_asm) (by k_asm) (fmc (by k_mem) (by walk_at "m_ex")) ?_)
  k_with "call type:tuple" => (k_here; (with_reducible show wpAny _ _ (call (Value.type _) [Value.ref _]) _ _ _); k_dflt (refine kde_tupleOf (by k_asm) (by k_asm) (by exact News.isList (by k_asm) (by k_mem)) (by (simp only [List.size_toArray]; omega)) (by exact rfl) ?_; k_whole); intro D' h' F' N' l1; (try k_lt l1); (try k_sweep))
  k_with "m_use" => ((case B => k_asm); (case F => k_asm); (case X => k_asm); (case N => k_asm); (case T => k_asm); (case hk => exact rfl); (case hd => exact Nat.le_of_ble_eq_true rfl); (case hu => exact Nat.le_of_ble_eq_true rfl))
  k_with "m_rep" => ((rename News _ _ _ _ => N9); repeat' (first | with_unfolding_all exact RepAll.nil | with_unfolding_all exact Rep.none | with_unfolding_all exact Rep.bool _ | with_unfolding_all exact Rep.int _ _ | with_unfolding_all exact Rep.str _ _ | with_unfolding_all exact Rep.bytes _ _ | with_unfolding_all refine RepAll.cons ?_ ?_ | with_unfolding_all refine Rep.tup (News.get N9 (by k_mem)) ?_))
  trivial

theorem words_Ref54 : True := by
  k_with "k_ne" => first | exact neN (And.left (by with_reducible assumption)) | exact neSym (And.left (by with_reducible assumption)) | exact neN (And.left (And.right (by with_reducible assumption))) | exact neSym (And.left (And.right (by with_reducible assumption))) | exact neN (And.right (by with_reducible assumption)) | exact neSym (And.right (by with_reducible assumption)) | exact neN (And.left (And.right (And.right (by with_reducible assumption)))) | exact neSym (And.left (And.right (And.right (by with_reducible assumption)))) | exact neN (And.right (And.right (by with_reducible assumption))) | exact neSym (And.right (And.right (by with_reducible assumption))) | exact neN (And.left (And.right (And.right (And.right (by with_reducible assumption))))) | exact neSym (And.left (And.right (And.right (And.right (by with_reducible assumption))))) | exact neN (And.right (And.right (And.right (by with_reducible assumption)))) | exact neSym (And.right (And.right (And.right (by with_reducible assumption)))) | exact neN (And.left (And.right (And.right (And.right (And.right (by with_reducible assumption)))))) | exact neSym (And.left (And.right (And.right (And.right (And.right (by with_reducible assumption)))))) | exact neN (And.right (And.right (And.right (And.right (by with_reducible assumption))))) | exact neSym (And.right (And.right (And.right (And.right (by with_reducible assumption))))) | exact neN (And.left (And.right (And.right (And.right (And.right (And.right (by with_reducible assumption))))))) | exact neSym (And.left (And.right (And.right (And.right (And.right (And.right (by with_reducible assumption))))))) | exact neN (And.right (And.right (And.right (And.right (And.right (by with_reducible assumption)))))) | exact neSym (And.right (And.right (And.right (And.right (And.right (by with_reducible assumption)))))) | exact neN (And.left (And.right (And.right (And.right (And.right (And.right (And.right (by with_reducible assumption)))))))) | exact neSym (And.left (And.right (And.right (And.right (And.right (And.right (And.right (by with_reducible assumption)))))))) | exact neN (And.right (And.right (And.right (And.right (And.right (And.right (by with_reducible assumption))))))) | exact neSym (And.right (And.right (And.right (And.right (And.right (And.right (by with_reducible assumption))))))) | exact neN (And.left (And.right (And.right (And.right (And.right (And.right (And.right (And.right (by with_reducible assumption))))))))) | exact neSym (And.left (And.right (And.right (And.right (And.right (And.right (And.right (And.right (by with_reducible assumption))))))))) | exact neN (And.right (And.right (And.right (And.right (And.right (And.right (And.right (by with_reducible assumption)))))))) | exact neSym (And.right (And.right (And.right (And.right (And.right (And.right (And.right (by with_reducible assumption)))))))) | exact neN (And.left (And.right (And.right (And.right (And.right (And.right (And.right (And.right (And.right (by with_reducible assumption)))))))))) | exact neSym (And.left (And.right (And.right (And.right (And.right (And.right (And.right (And.right (And.right (by with_reducible assumption)))))))))) | exact neN (And.right (And.right (And.right (And.right (And.right (And.right (And.right (And.right (by with_reducible assumption))))))))) | exact neSym (And.right (And.right (And.right (And.right (And.right (And.right (And.right (And.right (by with_reducible assumption))))))))) | exact neN (And.left (And.right (And.right (And.right (And.right (And.right (And.right (And.right (And.right (And.right (by with_reducible assumption))))))))))) | exact neSym (And.left (And.right (And.right (And.right (And.right (And.right (And.right (And.right (And.right (And.right (by with_reducible assumption))))))))))) | exact neN (And.right (And.right (And.right (And.right (And.right (And.right (And.right (And.right (And.right (by with_reducible assumption)))))))))) | exact neSym (And.right (And.right (And.right (And.right (And.right (And.right (And.right (And.right (And.right (by with_reducible assumption)))))))))) | exact neN (And.left (And.right (And.right (And.right (And.right (And.right (And.right (And.right (And.right (And.right (And.right (by with_reducible assumption)))))))))))) | exact neSym (And.left (And.right (And.right (And.right (And.right (And.right (And.right (And.right (And.right (And.right (And.right (by with_reducible assumption)))))))))))) | exact neN (And.right (And.right (And.right (And.right (And.right (And.right (And.right (And.right (And.right (And.right (by with_reducible assumption))))))))))) | exact neSym (And.right (And.right (And.right (And.right (And.right (And.right (And.right (And.right (And.right (And.right (by with_reducible assumption))))))))))) | exact neN (And.left (And.right (And.right (And.right (And.right (And.right (And.right (And.right (And.right (And.right (And.right (And.right (by with_reducible assumption))))))))))))) | exact neSym (And.left (And.right (And.right (And.right (And.right (And.right (And.right (And.right (And.right (And.right (And.right (And.right (by with_reducible assumption))))))))))))) | exact neN (And.right (And.right (And.right (And.right (And.right (And.right (And.right (And.right (And.right (And.right (And.right (by with_reducible assumption)))))))))))) | exact neSym (And.right (And.right (And.right (And.right (And.right (And.right (And.right (And.right (And.right (And.right (And.right (by with_reducible assumption)))))))))))) | exact neN (And.left (And.right (And.right (And.right (And.right (And.right (And.right (And.right (And.right (And.right (And.right (And.right (And.right (by with_reducible assumption)))))))))))))) | exact neSym (And.left (And.right (And.right (And.right (And.right (And.right (And.right (And.right (And.right (And.right (And.right (And.right (And.right (by with_reducible assumption)))))))))))))) | exact neN (And.right (And.right (And.right (And.right (And.right (And.right (And.right (And.right (And.right (And.right (And.right (And.right (by with_reducible assumption))))))))))))) | exact neSym (And.right (And.right (And.right (And.right (And.right (And.right (And.right (And.right (And.right (And.right (And.right (And.right (by with_reducible assumption))))))))))))) | exact neN (And.left (And.right (And.right (And.right (And.right (And.right (And.right (And.right (And.right (And.right (And.right (And.right (And.right (And.right (by with_reducible assumption))))))))))))))) | exact neSym (And.left (And.right (And.right (And.right (And.right (And.right (And.right (And.right (And.right (And.right (And.right (And.right (And.right (And.right (by with_reducible assumption))))))))))))))) | exact neN (And.right (And.right (And.right (And.right (And.right (And.right (And.right (And.right (And.right (And.right (And.right (And.right (And.right (by with_reducible assumption)))))))))))))) | exact neSym (And.right (And.right (And.right (And.right (And.right (And.right (And.right (And.right (And.right (And.right (And.right (And.right (And.right (by with_reducible assumption)))))))))))))) | fail
  trivial
local macro_rules | `(tactic| k_lt $h:ident) => `(tactic| (replace $h := ltAll_of $h; dsimp only [List.map] at $h:ident))
theorem words_Ref55 : True := by
  k_with "k_ne" => first | with_reducible assumption | exact neSym (by with_reducible assumption) | exact neLt (by with_reducible assumption) | exact neGt (by with_reducible assumption) | exact ltGt (by with_reducible assumption) (by k_extra "k_mem") | exact ltLt (by with_reducible assumption) (by k_extra "k_mem") | exact ltTr (by with_reducible assumption) (by with_reducible assumption) (by k_extra "k_mem") | exact ltTr' (by with_reducible assumption) (by with_reducible assumption) (by k_extra "k_mem") | exact ltU1 (by with_reducible assumption) (by k_extra "k_mem") | exact ltU2 (by with_reducible assumption) (by k_extra "k_mem") | exact ltU3 (by with_reducible assumption) (by k_extra "k_mem") | exact ltV1 (by with_reducible assumption) (by k_extra "k_mem") | exact ltV2 (by with_reducible assumption) (by k_extra "k_mem") | exact ltV3 (by with_reducible assumption) (by k_extra "k_mem") | exact ne12 | exact ne13 | exact ne23 | exact ne21 | exact ne31 | exact ne32 | exact neN (And.left (by with_reducible assumption)) | exact neSym (And.left (by with_reducible assumption)) | exact neN (And.left (And.right (by with_reducible assumption))) | exact neSym (And.left (And.right (by with_reducible assumption))) | exact neN (And.left (And.right (And.right (by with_reducible assumption)))) | exact neSym (And.left (And.right (And.right (by with_reducible assumption)))) | exact neN (And.left (And.right (And.right (And.right (by with_reducible assumption))))) | exact neSym (And.left (And.right (And.right (And.right (by with_reducible assumption))))) | exact neN (And.left (And.right (And.right (And.right (And.right (by with_reducible assumption)))))) | exact neSym (And.left (And.right (And.right (And.right (And.right (by with_reducible assumption)))))) | exact neN (And.left (And.right (And.right (And.right (And.right (And.right (by with_reducible assumption))))))) | exact neSym (And.left (And.right (And.right (And.right (And.right (And.right (by with_reducible assumption))))))) | exact neN (And.left (And.right (And.right (And.right (And.right (And.right (And.right (by with_reducible assumption)))))))) | exact neSym (And.left (And.right (And.right (And.right (And.right (And.right (And.right (by with_reducible assumption)))))))) | exact neN (And.left (And.right (And.right (And.right (And.right (And.right (And.right (And.right (by with_reducible assumption))))))))) | exact neSym (And.left (And.right (And.right (And.right (And.right (And.right (And.right (And.right (by with_reducible assumption))))))))) | exact neN (And.left (And.right (And.right (And.right (And.right (And.right (And.right (And.right (And.right (by with_reducible assumption)))))))))) | exact neSym (And.left (And.right (And.right (And.right (And.right (And.right (And.right (And.right (And.right (by with_reducible assumption)))))))))) | exact neN (And.left (And.right (And.right (And.right (And.right (And.right (And.right (And.right (And.right (And.right (by with_reducible assumption))))))))))) | exact neSym (And.left (And.right (And.right (And.right (And.right (And.right (And.right (And.right (And.right (And.right (by with_reducible assumption))))))))))) | fail
  k_with "EndC" => refine stop ?_
  k_with "exec Try" => (k_here; refine wpAny_Try_except ?_)
  k_with "call ref" => (k_here; (with_reducible show wpAny _ _ (call (Value.ref _) _) _ _ _); refine stop ?_)
  k_with "k_inst" => exact inst_exc (by k_asm) (by k_mem) (by assumption) (by assumption) (by assumption) (by k_mem)
  k_with "getAttr ref" => (k_here; k_dflt (refine exc_own (K := pre.heap_1 _) (by k_asm) (by k_asm) (by k_inst) (by k_is) (by k_is) (by k_is) (by k_is) (by k_is) (by k_is) (by k_get) (by k_handed) ?_; k_whole))
  trivial
theorem Const_bytes {M : Model} {env : Env} {b : List UInt8} {i : Nat} {pos : Pos} {Q : Value → Shared → Prop} (h : Q (.bytes b.toArray s.toks) { s with toks := s.toks + 1 }) : wpAny M A (eval (.Constant (.bytes b) i pos) env) Q E s := by
  show wpAny M A (mkTextBytes b.toArray) Q E s
  exact wpAny_mkTextBytes h
theorem words_Ref56 : True := by
  k_with "eval Constant" => (k_here; (with_reducible refine Const_bytes ?_))
  k_with "compareOp Eq" => refine stop ?_
  k_with "subscriptTail Attribute" => (k_here; k_dflt (refine item_tupleT (News.isTup (by with_reducible assumption) (by k_mem)) (by decide) (by decide) (by rfl) (by rfl) ?_; k_whole))
  trivial
theorem ref_does {tab td ent t1 t2 t3 tc n : Nat} {c : Int} {v : Value} {d : Dt} {xs : Ents} (h0 : s.heap.get? 272 = some (tabObj #[])) (h1 : s.heap.get? tab = some (instObj 134 td)) (h2 : s.heap.get? td = some (tdObj w t1 t2 t3 ent c tc n)) {o : Obj} (h3 : s.heap.get? ent = some o) (ho : EntIs prog w o xs) (hv : Rep s.heap v d) (hb : BadD d) :
    DoesC prog w p loose mean mg mb [tab, td, ent] 320 160 s (.call (.ref 277) ⟨[.ref tab, v], []⟩) (fun r h' => r = .bool true ∧ ∃ ps, h'.get? 272 = some (tabObj ps)) := by
  refine' enterC (binds := [("table", .ref tab), ("key", v)]) h0 ?ho ?hcd ?hro ?hb ?hl ?hnd ?_ ?c2 ?c3 ?c4
  walk_at "m_enterC"
  intro oenv Lw ow base g L' h' tk cells hw hwk hwb hwd hfs hwo n0 hbg KG F' N' Y' ll X' T'
  k_cells Y'; (try dsimp only [List.cons_append, List.nil_append] at N')
  have hwf : ∀ vs, ow.data ≠ .fields vs := fun vs q => by obtain ⟨_, _, e⟩ := hwd; rw [e] at q; cases q
  have nt : NoTup [Lw, 272] s.heap := noTup_of fun b hb => by
    simp only [List.mem_cons, List.not_mem_nil, or_false] at hb
    rcases hb with rfl | rfl
    · exact ⟨ow, hwo, fun vs q => by obtain ⟨_, _, e⟩ := hwd; rw [q] at e; cases e⟩
    · exact ⟨_, h0, fun vs q => by cases q⟩
  have n1 : tab ≠ 272 := fun q => by rw [q, h0] at h1; cases h1
  have n2 : td ≠ 272 := fun q => by rw [q, h0] at h2; cases h2
  have n3 : ent ≠ 272 := fun q => by
    rw [q, h0] at h3
    cases h3
    refine cutC fun C_ kC_ => ?_
    obtain ⟨-, es, ep, hd, -⟩ := ho
    refine kC_ ?_
    clear kC_ C_
    cases hd
  replace h1 := KG _ _ h1 (by simp [n1, hfs tab])
  replace h2 := KG _ _ h2 (by simp [n2, hfs td])
  replace h3 := KG _ _ h3 (by simp [n3, hfs ent])
  replace hv := hv.keep KG nt
  clear nt n1 n2 n3 KG hwo hwd hfs h0
  have C' : CodeHd g 276 272 := codeHd_of_K X' (by kernel_rfl)
  have S0 := SlotsOf.refl ow
  try dsimp only
  try k_fold
  try k_lt ll
  k_steps
  -- turn 1
  unfold Stop
  (rename Fr _ _ _ _ => F0)
  (rename News _ _ _ _ => N0)
  refine useT2 hbg hw hwk hwb F0 N0 (by k_mem) (fun vs q => hwf vs (S0.data ▸ q)) X' T' rfl (lamGet_thr (News.get N0 (by k_mem)) (codeRec_news (by k_asm) (by k_mem) (by assumption) (by assumption)) (News.get N0 (by k_mem)) (by assumption) (News.get N0 (by k_mem)) (by assumption) (F0.keep _ _ h1) (F0.keep _ _ h2) (F0.keep _ _ h3) ho (hv.grow F0.keep) hb) (Nat.le_of_ble_eq_true rfl) (Nat.le_of_ble_eq_true rfl) ?_
  intro e h9 tk9 th
  refine caught_T hw th F0 N0 (by k_updF) (fun vs q => hwf vs (S0.data ▸ q)) rfl X' T' (by k_is) (by kts_isx) ?_
  clear th F0 N0
  (try k_sweep)
  intro h8 tk8 oe dx tv u1 u2 u3 um ui uf ub ow2 S1 F8 N8 hoc hov hon a1 a2 a3
  replace S0 := S0.trans S1
  clear S1
  simp only [AllNe, and_true] at a1 a2 a3
  try dsimp only at N8
  try dsimp only
  k_steps
  (rename Fr _ _ _ _ => F0)
  (rename News _ _ _ _ => N0)
  refine nameX_goes F0 N0 ?_
  intro h9 v9 F9 N9
  replace N9 := News.drop3 N9
  clear F0 N0 a1 a2 a3 hoc hov hon
  try dsimp only
  k_steps
  -- turn 2
  unfold Stop
  (rename Fr _ _ _ _ => F0)
  (rename News _ _ _ _ => N0)
  refine useT2 hbg hw hwk hwb F0 N0 (by k_mem) (fun vs q => hwf vs (S0.data ▸ q)) X' T' rfl (lamPut_thr (News.get N0 (by k_mem)) (codeRec_news (by k_asm) (by k_mem) (by assumption) (by assumption)) (News.get N0 (by k_mem)) (by assumption) (News.get N0 (by k_mem)) (by assumption) (F0.keep _ _ h1) (F0.keep _ _ h2) (hv.grow F0.keep) hb) (Nat.le_of_ble_eq_true rfl) (Nat.le_of_ble_eq_true rfl) ?_
  intro e h9 tk9 th
  refine caught_T hw th F0 N0 (by k_updF) (fun vs q => hwf vs (S0.data ▸ q)) rfl X' T' (by k_is) (by kts_isx) ?_
  clear th F0 N0
  (try k_sweep)
  intro h8 tk8 oe dx tv u1 u2 u3 um ui uf ub ow2 S1 F8 N8 hoc hov hon a1 a2 a3
  replace S0 := S0.trans S1
  clear S1
  simp only [AllNe, and_true] at a1 a2 a3
  try dsimp only at N8
  try dsimp only
  k_steps
  (rename Fr _ _ _ _ => F0)
  (rename News _ _ _ _ => N0)
  refine nameX_goes F0 N0 ?_
  intro h9 v9 F9 N9
  replace N9 := News.drop3 N9
  clear F0 N0 a1 a2 a3 hoc hov hon
  try dsimp only
  k_steps
  -- turn 3
  unfold Stop
  (rename Fr _ _ _ _ => F0)
  (rename News _ _ _ _ => N0)
  refine useT2 hbg hw hwk hwb F0 N0 (by k_mem) (fun vs q => hwf vs (S0.data ▸ q)) X' T' rfl (lamRem_thr (News.get N0 (by k_mem)) (codeRec_news (by k_asm) (by k_mem) (by assumption) (by assumption)) (News.get N0 (by k_mem)) (by assumption) (News.get N0 (by k_mem)) (by assumption) (F0.keep _ _ h1) (F0.keep _ _ h2) (F0.keep _ _ h3) ho (hv.grow F0.keep) hb) (Nat.le_of_ble_eq_true rfl) (Nat.le_of_ble_eq_true rfl) ?_
  intro e h9 tk9 th
  refine caught_T hw th F0 N0 (by k_updF) (fun vs q => hwf vs (S0.data ▸ q)) rfl X' T' (by k_is) (by kts_isx) ?_
  clear th F0 N0
  (try k_sweep)
  intro h8 tk8 oe dx tv u1 u2 u3 um ui uf ub ow2 S1 F8 N8 hoc hov hon a1 a2 a3
  replace S0 := S0.trans S1
  clear S1
  simp only [AllNe, and_true] at a1 a2 a3
  try dsimp only at N8
  try dsimp only
  k_steps
  (rename Fr _ _ _ _ => F0)
  (rename News _ _ _ _ => N0)
  refine nameX_goes F0 N0 ?_
  intro h9 v9 F9 N9
  replace N9 := News.drop3 N9
  clear F0 N0 a1 a2 a3 hoc hov hon
  try dsimp only
  iterate 16 (try (walk1; try dsimp only))
  (rename Fr _ _ _ _ => F9)
  (rename News _ _ _ _ => N9)
  have hq : eqvAll [.bytes #[104,97,115,104,32,111,102,32,117,110,104,97,115,104,97,98,108,101,32,116,121,112,101], .bytes #[104,97,115,104,32,111,102,32,117,110,104,97,115,104,97,98,108,101,32,116,121,112,101], .bytes #[104,97,115,104,32,111,102,32,117,110,104,97,115,104,97,98,108,101,32,116,121,112,101]] [.bytes #[104,97,115,104,32,111,102,32,117,110,104,97,115,104,97,98,108,101,32,116,121,112,101], .bytes #[104,97,115,104,32,111,102,32,117,110,104,97,115,104,97,98,108,101,32,116,121,112,101], .bytes #[104,97,115,104,32,111,102,32,117,110,104,97,115,104,97,98,108,101,32,116,121,112,101]] = true := eqvAll_self _
  refine eq_list (da := [.bytes #[104,97,115,104,32,111,102,32,117,110,104,97,115,104,97,98,108,101,32,116,121,112,101], .bytes #[104,97,115,104,32,111,102,32,117,110,104,97,115,104,97,98,108,101,32,116,121,112,101], .bytes #[104,97,115,104,32,111,102,32,117,110,104,97,115,104,97,98,108,101,32,116,121,112,101]]) (db := [.bytes #[104,97,115,104,32,111,102,32,117,110,104,97,115,104,97,98,108,101,32,116,121,112,101], .bytes #[104,97,115,104,32,111,102,32,117,110,104,97,115,104,97,98,108,101,32,116,121,112,101], .bytes #[104,97,115,104,32,111,102,32,117,110,104,97,115,104,97,98,108,101,32,116,121,112,101]]) (News.get N9 (by k_mem)) (News.get N9 (by k_mem)) (.cons (.bytes _ _) (.cons (.bytes _ _) (.cons (.bytes _ _) .nil))) (.cons (.bytes _ _) (.cons (.bytes _ _) (.cons (.bytes _ _) .nil))) (Nat.le_of_ble_eq_true rfl) ?_
  rw [hq]
  exact ⟨_, _, _, _, _, rfl, F9, S0, News.get N9 (by k_mem), rfl, _, News.get N9 (by k_mem)⟩
/-- such a call in the law's own walk -/
theorem useC {D U dp un : Nat} {fs : List Addr} {g : Heap} {L a : Addr} {m : Str → Option Value} {cn : Str} {cs : Scope} {ccd : Value} {cl : List (Str × Addr)} {f : Value} {ps : List Value} {Q : Value → Shared → Prop} {P : Value → Heap → Prop} {news kp : List (Addr × Obj)} {o2 : Obj} {A₀ : Around}
    (B : Below A₀ g [] g) (F : Fr g L s.heap m) (N : News g L s.heap news) (h2 : (272, o2) ∈ news) (hfs : ∀ b ∈ fs, b ≠ L) (hkp : ∀ q ∈ kp, q ∈ news) (hkm : ∀ q ∈ kp, q.1 ≠ 272) (X : (pre.heap_1 w.params).In g) (T : Top p loose mean mg mb g) (hk : cs.kind = .function) (C : DoesC prog w p loose mean mg mb fs D U s (.call f ⟨ps, []⟩) P)
    (hd : dp ≤ D) (hu : un ≤ U)
    (ret : ∀ v h' tk, Fr g L h' m → News g L h' kp → (∀ o, h'.get? 272 = some o → News g L h' [(272, o)]) → (∀ b o, b ≠ L → b ≠ 272 → s.heap.get? b = some o → h'.get? b = some o) → P v h' → Q v { s with heap := h', toks := tk }) :
    wpAny (model prog w) (ctr dp un [envX cn cs L a ccd cl]) (call f ps) Q E s := by
  refine cutC fun C_ kC_ => ?_
  obtain ⟨oL, es, ep, hL, hLd, hLk, hLf⟩ := F.ns
  refine kC_ ?_
  clear kC_ C_
  have gb : ∀ b o, g.get? b = some o → (hideAll s.heap [L, 272]).get? b = some o := fun b o e => hideAll_get _ (F.keep _ _ e) fun hm => by
    simp only [List.mem_cons, List.not_mem_nil, or_false] at hm
    rcases hm with rfl | rfl
    · rw [kts_self F] at e; cases e
    · rw [(N _ h2).2.2] at e; cases e
  refine wpAny_call (codeAny_mono (codeAny_ctr (C (envX cn cs L a ccd cl) L oL g rfl (by show cs.kind ≠ .module; rw [hk]; decide) (kts_self F) hL ⟨es, ep, hLd⟩ hfs gb (X.keeps gb) (T.keeps gb)) hd hu) fun r s' q_ => ?_)
  obtain ⟨v, h', tk, e1, e2, kp', ⟨ow, so, hw⟩, z, q⟩ := q_
  subst e1 e2
  have keep : ∀ b o, b ≠ L → b ≠ 272 → s.heap.get? b = some o → h'.get? b = some o := fun b o n1 n2 e => kp' b o e n1 n2
  have F' : Fr g L h' m := ⟨⟨ow, es, ep, hw, so.data ▸ hLd, hLk, hLf⟩, fun b o e => keep b o (fun r => by rw [r, kts_self F] at e; cases e) (fun r => by rw [r, (N _ h2).2.2] at e; cases e) (F.keep _ _ e), F.above⟩
  refine ret v h' tk F' (fun q hq => ⟨keep _ _ (N q (hkp q hq)).2.1 (hkm q hq) (N q (hkp q hq)).1, (N q (hkp q hq)).2⟩) (fun o e q hq => ?_) keep q
  rw [List.mem_singleton.mp hq]
  exact ⟨e, (N _ h2).2⟩
end
/-! ## Law -/
section
theorem words0_Law : True := by
  w_top off
  k_with_none
  trivial
section
variable {prog : Program} {w : World} {p : Program} {loose : List Str} {mean : ExcName → Option Value} {mg mb : Str → Option Value} {s : Shared}
theorem mutable_ne {g h : Heap} {L sc row : Nat} {o : Obj} {news : List (Addr × Obj)} {vs : Array Value} (hs : g.IsList sc vs) (N : News g L h news) (hm : (row, o) ∈ news) : sc ≠ row := fun q => by
  obtain ⟨o', e, _⟩ := hs
  rw [q, (N _ hm).2.2] at e; cases e
/-- the ledger behind _law_pool -/
theorem pool_led {g h h9 : Heap} {L row src lst : Nat} {m : Str → Option Value} {o o1 o2 oP : Obj} {news : List (Addr × Obj)} (F : Fr g L h m) (N : News g L h news) (hm : (row, o) ∈ news) (hs : h.get? src = none) (hl : lst = row ∨ h.get? lst = none) (e1 : h9.get? src = some o1) (e2 : h9.get? lst = some o2) (N9 : News g L h9 [(272, oP)]) : News g L h9 [(src, o1), (lst, o2), (272, oP)] := by
  refine cutC fun C_ kC_ => ?_
  obtain ⟨oL, _, _, hL, _⟩ := F.ns
  refine kC_ ?_
  clear kC_ C_
  refine fmc ⟨e1, fun q => ?_, kts_none F.keep hs⟩ (fmc ⟨e2, ?_⟩ N9)
  · have q' : src = L := q
    rw [q', hL] at hs; cases hs
  · rcases hl with rfl | hl
    · exact (N _ hm).2
    · refine ⟨fun q => ?_, kts_none F.keep hl⟩
      have q' : lst = L := q
      rw [q', hL] at hl; cases hl
theorem entIs_nil {o : Obj} (h : o.IsDictOf (intKind prog w) []) : EntIs prog w o [] := by
  refine cutC fun C_ kC_ => ?_
  obtain ⟨es, ep, hx, hd, -, hp, -⟩ := h
  refine kC_ ?_
  clear kC_ C_
  refine ⟨hx, es, ep, hd, ?_⟩
  cases e : es.toList with
  | nil => rfl
  | cons a r => rw [e] at hp; cases hp
/-- the end and the raised end of the law as letters -/
theorem lawR {α : Type} {M : Model} {A : Around} {x : Sem α} {Q : α → Shared → Prop} {E : Value → Shared → Prop} {s₁ : Shared} (h : ∀ R : α → Shared → Prop, (∀ v s', Q v s' → R v s') → wpAny M A x R (fun _ _ => False) s₁) : wpAny M A x Q E s₁ := wpAny_mono (h Q fun _ _ h => h) (fun _ _ h => h) fun _ _ h => h.elim
/-- the law's state between the turns -/
inductive LawJ (prog : Program) (w : World) (src lst tab td ent book : Nat) (M0 : Str → Option Value) (i : Nat) (h : Heap) (m : Str → Option Value) : Prop
  | mk (va : Option Value) (c' : Int) (tc2 : Nat) (rs' : List Row) (hm : m = fun z => if z = Str.ofString "coming" then some (.int c' tc2) else if z = Str.ofString "turn" then va else M0 z) (S : StAt prog w h src lst tab td ent book c' rs') (hP : h.get? 272 = some (tabObj #[])) : LawJ prog w src lst tab td ent book M0 i h m
theorem small_dn : ∀ n : Nat, n < 9 → Builtin.Range.small 0 ((2 + n : Nat) : Int) 1 = true := by decide
theorem six_km {src lst tab td ent book : Nat} {o : Obj} (k : 272 < lst ∧ lst < src) (a : src < td ∧ td < tab ∧ tab < ent ∧ ent < book) : ∀ q ∈ [((272 : Addr), o)], q.1 ∉ ([src, lst, tab, td, ent, book] : List Addr) := fun q hq hm => by
  rw [List.mem_singleton.mp hq] at hm
  simp only [List.mem_cons, List.not_mem_nil, or_false] at hm
  rcases hm with h | h | h | h | h | h
  all_goals (have h' : (272 : Nat) = _ := h; omega)
/-- the bad keys of the law -/
noncomputable def badList : List Dt := [.tup [.str (S "slice"), .int 1, .int 0, .int 1, .int 1], .tup [.str (S "face"), .tup [.str (S "slice"), .tup [.str (S "bool")]], .none], .tup [.str (S "struct"), .tup [.int 1, .tup [.str (S "map"), .int 2]]]]
theorem badList_bad : ∀ (j : Nat) (hj : j < badList.length), BadD badList[j]
  | 0, _ => .loose _
  | 1, _ => .face _ _
  | 2, _ => .struct _ _ ⟨rfl, rfl⟩
  | _ + 3, h => absurd h (by simp [badList])
theorem words_Law57 : True := by
  k_with "m_ex" => (first | with_reducible exact exAt0 | with_reducible exact exAt1 | with_reducible exact exAt2 | with_reducible exact exAt3 | with_reducible exact exAt4 | with_reducible exact exAt5 | with_reducible exact exAt6 | with_reducible exact exAt7 | with_reducible exact exAt8 | with_reducible exact exAt9 | with_reducible exact exAt10 | with_reducible exact exAt11 | with_reducible exact exAt12 | with_reducible exact exAt13 | with_reducible exact exAt14 | with_reducible exact exAt15 | with_reducible exact exAt16 | with_reducible exact exAt17 | with_reducible exact exAt18 | with_reducible exact exAt19 | with_reducible exact exAt20 | with_reducible exact exAt21 | with_reducible exact exAt22 | with_reducible exact exAt23)
  k_with "m_enter" => ((case ho => k_is); (case hcd => k_is); (case hro => decide); (case hb => exact BindsTo.of_eq rfl); (case hl => exact locs rfl); (case c2 => exact rfl); (case c3 => exact rfl); (case c4 => exact rfl); (case c5 => decide))
  k_with "m_enterC" => ((case ho => k_is); (case hcd => k_is); (case hro => decide); (case hb => exact BindsTo.of_eq rfl); (case hl => exact rfl); (case hnd => decide +kernel); (case c2 => exact rfl); (case c3 => exact rfl); (case c4 => exact rfl))
  k_with "EndR" => (refine endR (by with_reducible assumption) (by k_asm) ?_)
  k_with "k_mem" => first | with_reducible exact inAt0 | with_reducible exact inAt1 | with_reducible exact inAt2 | with_reducible exact inAt3 | with_reducible exact inAt4 | with_reducible exact inAt5 | with_reducible exact inAt6 | with_reducible exact inAt7 | with_reducible exact inAt8 | with_reducible exact inAt9 | with_reducible exact inAt10 | with_reducible exact inAt11 | with_reducible exact inAt12 | with_reducible exact inAt13 | with_reducible exact inAt14 | with_reducible exact inAt15 | with_reducible exact inAt16 | with_reducible exact inAt17 | with_reducible exact inAt18 | with_reducible exact inAt19 | with_reducible exact inAt20 | with_reducible exact inAt21 | with_reducible exact inAt22 | with_reducible exact inAt23
  k_with "k_ne" => first | with_reducible assumption | exact neSym (by with_reducible assumption) | exact neLt (by with_reducible assumption) | exact neGt (by with_reducible assumption) | fail
  k_with "call builtin:isinstance" => (k_here; (with_reducible show wpAny _ _ (call _ [Value.ref _, Value.type _]) _ _ _); k_dflt (refine kia_one kitx_tuple (by k_in) (by exact kit_base (by k_asm) (by assumption)) (by kit_is) (by kit_nb) ?_; k_whole); intro _)
  k_with "subscriptTail" => (k_here; (with_reducible show wpAny _ _ (subscriptTail _ _ (Value.ref _) (Value.int _ _)) _ _ _); k_dflt (refine item_tupleT (by first | exact isTup_base (by k_asm) (by assumption) | exact isTup_sure (by assumption) (by k_asm) (by k_asm) (by walk_at "m_ex")) (by decide) (by decide) (by rfl) (by rfl) ?_; k_whole))
  k_with "ElEnd" => (refine ElEnd.intro (by k_asm) (by k_asm) (fmc (by k_mem) (by walk_at "m_ex")) ?_)
  k_with "call type:tuple" => (k_here; (with_reducible show wpAny _ _ (call (Value.type _) [Value.ref _]) _ _ _); k_dflt (refine kde_tupleOf (by k_asm) (by k_asm) (by exact News.isList (by k_asm) (by k_mem)) (by (simp only [List.size_toArray]; omega)) (by exact rfl) ?_; k_whole); intro D' h' F' N' l1; (try k_lt l1); (try k_sweep))
  k_with "m_use" => ((case B => k_asm); (case F => k_asm); (case X => k_asm); (case N => k_asm); (case T => k_asm); (case hk => exact rfl); (case hd => exact Nat.le_of_ble_eq_true rfl); (case hu => exact Nat.le_of_ble_eq_true rfl))
  k_with "m_rep" => ((rename News _ _ _ _ => N9); repeat' (first | with_unfolding_all exact RepAll.nil | with_unfolding_all exact Rep.none | with_unfolding_all exact Rep.bool _ | with_unfolding_all exact Rep.int _ _ | with_unfolding_all exact Rep.str _ _ | with_unfolding_all exact Rep.bytes _ _ | with_unfolding_all refine RepAll.cons ?_ ?_ | with_unfolding_all refine Rep.tup (News.get N9 (by k_mem)) ?_))
  k_with "m_repin" => (first | assumption | exact rep_now (by k_asm) (by assumption) | exact Sure.now (by assumption) (by k_asm) (by k_asm) (by walk_at "m_ex"))
  k_with "call builtin:repr" => (k_here; (with_reducible show wpAny _ _ (call (Value.builtin "repr") [_]) _ _ _); (refine repr_L (by k_asm) (by k_asm) (by walk_at "m_repin") (by exact Nat.le_of_ble_eq_true rfl) ?_); (intro h9 tk9 t9 F9 N9); (try dsimp only); (try k_sweep))
  k_with "compareOp Eq str str" => (k_here; first | refine eq_text_t (by assumption) ?_ | refine eq_text_f (by assumption) ?_)
  k_with "compareOp NotEq str str" => (k_here; first | refine ne_text_t (by assumption) ?_ | refine ne_text_f (by assumption) ?_)
  k_with "compareOp Eq" => (k_here; first | (refine eq_key_t (by assumption) (by walk_at "m_repin") (by walk_at "m_repin") (by exact Nat.le_of_ble_eq_true rfl) ?_) | (refine eq_key_f (by assumption) (by walk_at "m_repin") (by walk_at "m_repin") (by exact Nat.le_of_ble_eq_true rfl) ?_))
  k_with "k_inst" => exact inst_base (by k_asm) (by assumption) (by assumption)
  k_with "m_subs" => first | exact List.forall_mem_nil _ | (refine fmc (by k_mem) ?_; walk_at "m_subs")
  k_with "m_avs" => (intro q hq; simpa using hq)
  k_with "m_off1" => first | exact List.not_mem_nil | (refine nmc (by k_ne) ?_; walk_at "m_off1")
  k_with "m_offs" => first | exact List.forall_mem_nil _ | (refine fmc ?_ ?_; (· (dsimp only [List.map_cons, List.map_nil]; walk_at "m_off1")); walk_at "m_offs")
  k_with "m_sa" => first | exact List.forall_mem_nil _ | (refine fmc (by k_mem) ?_; walk_at "m_sa")
  trivial

local macro_rules | `(tactic| k_lt $h:ident) => `(tactic| (replace $h := ltAll_of $h; dsimp only [List.map] at $h:ident))
theorem words_Law58 : True := by
  k_with "k_ne" => first | with_reducible assumption | exact neSym (by with_reducible assumption) | exact neLt (by with_reducible assumption) | exact neGt (by with_reducible assumption) | exact ltGt (by with_reducible assumption) (by k_extra "k_mem") | exact ltLt (by with_reducible assumption) (by k_extra "k_mem") | exact ltTr (by with_reducible assumption) (by with_reducible assumption) (by k_extra "k_mem") | exact ltTr' (by with_reducible assumption) (by with_reducible assumption) (by k_extra "k_mem") | exact ltU1 (by with_reducible assumption) (by k_extra "k_mem") | exact ltU2 (by with_reducible assumption) (by k_extra "k_mem") | exact ltU3 (by with_reducible assumption) (by k_extra "k_mem") | exact ltV1 (by with_reducible assumption) (by k_extra "k_mem") | exact ltV2 (by with_reducible assumption) (by k_extra "k_mem") | exact ltV3 (by with_reducible assumption) (by k_extra "k_mem") | exact ne12 | exact ne13 | exact ne23 | exact ne21 | exact ne31 | exact ne32 | exact neN (And.left (by with_reducible assumption)) | exact neSym (And.left (by with_reducible assumption)) | exact neN (And.left (And.right (by with_reducible assumption))) | exact neSym (And.left (And.right (by with_reducible assumption))) | exact neN (And.left (And.right (And.right (by with_reducible assumption)))) | exact neSym (And.left (And.right (And.right (by with_reducible assumption)))) | exact neN (And.left (And.right (And.right (And.right (by with_reducible assumption))))) | exact neSym (And.left (And.right (And.right (And.right (by with_reducible assumption))))) | exact neN (And.left (And.right (And.right (And.right (And.right (by with_reducible assumption)))))) | exact neSym (And.left (And.right (And.right (And.right (And.right (by with_reducible assumption)))))) | exact neN (And.left (And.right (And.right (And.right (And.right (And.right (by with_reducible assumption))))))) | exact neSym (And.left (And.right (And.right (And.right (And.right (And.right (by with_reducible assumption))))))) | exact neN (And.left (And.right (And.right (And.right (And.right (And.right (And.right (by with_reducible assumption)))))))) | exact neSym (And.left (And.right (And.right (And.right (And.right (And.right (And.right (by with_reducible assumption)))))))) | exact neN (And.left (And.right (And.right (And.right (And.right (And.right (And.right (And.right (by with_reducible assumption))))))))) | exact neSym (And.left (And.right (And.right (And.right (And.right (And.right (And.right (And.right (by with_reducible assumption))))))))) | exact neN (And.left (And.right (And.right (And.right (And.right (And.right (And.right (And.right (And.right (by with_reducible assumption)))))))))) | exact neSym (And.left (And.right (And.right (And.right (And.right (And.right (And.right (And.right (And.right (by with_reducible assumption)))))))))) | exact neN (And.left (And.right (And.right (And.right (And.right (And.right (And.right (And.right (And.right (And.right (by with_reducible assumption))))))))))) | exact neSym (And.left (And.right (And.right (And.right (And.right (And.right (And.right (And.right (And.right (And.right (by with_reducible assumption))))))))))) | fail
  k_with "m_av" => first | exact avNil | (refine avCons (News.get (by k_asm) (by k_mem)) ?_ ?_; (first | rfl | assumption | exact offTup_cell (by assumption) | exact EntIs.off (by assumption)); walk_at "m_av")
  k_with "call ref" => (k_here; (with_reducible show wpAny _ _ (call (Value.ref 213) _) _ _ _); refine stop ?_)
  k_with "call ref" => (k_here; (with_reducible show wpAny _ _ (call (Value.ref 220) _) _ _ _); refine stop ?_)
  k_with "call ref" => (k_here; (with_reducible show wpAny _ _ (call (Value.ref 265) _) _ _ _); refine stop ?_)
  k_with "call ref" => (k_here; (with_reducible show wpAny _ _ (call (Value.ref 258) _) _ _ _); refine stop ?_)
  k_with "call ref" => (k_here; (with_reducible show wpAny _ _ (call (Value.ref 227) _) _ _ _); refine stop ?_)
  k_with "call ref" => (k_here; (with_reducible show wpAny _ _ (call (Value.ref 277) _) _ _ _); refine stop ?_)
  k_with "call ref" => (k_here; (with_reducible show wpAny _ _ (call (Value.ref 270) _) _ _ _); refine stop ?_)
  k_with "exec For" => (k_here; refine stop ?_)
  k_with "exec For Name Call" => (k_here; refine stop ?_)
  k_with "exec For Name Call cons nil" => (k_here; refine stop ?_)
  k_with "callWith ref" => (k_here; k_dflt (refine callWith_K0 (Frag.In.keeps (by with_reducible assumption) (Fr.keep (by with_reducible assumption))) (by k_is) ?_); k_whole)
  k_with "callWith ref" => (k_here; k_dflt (refine callWith_K (by with_reducible assumption) (by k_is) ?_); k_whole)
  k_with "GrownAll" => refine stop ?_
  trivial
noncomputable def law_holds.tw13529306864941475948 : Unit := ()
noncomputable def law_holds.tw5389484754426515990 : Unit := ()
noncomputable def law_holds.tw12185813521663953344 : Unit := ()
noncomputable def law_holds.tw6700112342534006690 : Unit := ()
noncomputable def law_holds.tw14284148017834432800 : Unit := ()
noncomputable def law_holds.tw15759456685926392790 : Unit := ()
noncomputable def law_holds.tw17120909763851287664 : Unit := ()
noncomputable def law_holds.tw6969255593111687635 : Unit := ()
noncomputable def law_holds.tw12941704145708800945 : Unit := ()
noncomputable def law_holds.tw7897602043232517924 : Unit := ()
noncomputable def law_holds.tw10609929442622069884 : Unit := ()
noncomputable def law_holds.tw11885607885636368867 : Unit := ()
noncomputable def law_holds.tw8549365171731915398 : Unit := ()
noncomputable def law_holds.tw10250492657576779755 : Unit := ()
noncomputable def law_holds.tw6727219029552735585 : Unit := ()
noncomputable def law_holds.tw16611002227686233599 : Unit := ()
noncomputable def law_holds.tw1767730674963353768 : Unit := ()
noncomputable def law_holds.tw15472126771306010800 : Unit := ()
noncomputable def law_holds.tw14794473197723012142 : Unit := ()
noncomputable def law_holds.tw12116493165278983582 : Unit := ()
noncomputable def law_holds.tw6765152471904792315 : Unit := ()
noncomputable def law_holds.tw4441770287765753910 : Unit := ()
noncomputable def law_holds.tw17993387198741990920 : Unit := ()
noncomputable def law_holds.tw6861490101519172755 : Unit := ()
noncomputable def law_holds.tw17253691774821329096 : Unit := ()
noncomputable def law_holds.tw11803358882649189518 : Unit := ()
noncomputable def law_holds.tw1670043908289496885 : Unit := ()
noncomputable def law_holds.tw11126432536435168541 : Unit := ()
noncomputable def law_holds.tw4370086069003782432 : Unit := ()
noncomputable def law_holds.tw3253820488102484341 : Unit := ()
noncomputable def law_holds.tw17713402740875732926 : Unit := ()
noncomputable def law_holds.tw14390095281932903014 : Unit := ()
noncomputable def law_holds.tw2075624079617657780 : Unit := ()
noncomputable def law_holds.tw2322801206320994539 : Unit := ()
noncomputable def law_holds.tw13431030151845061361 : Unit := ()
noncomputable def law_holds.tw17911580528928914924 : Unit := ()
noncomputable def law_holds.tw1385162719727133579 : Unit := ()
noncomputable def law_holds.tw13028658284911697911 : Unit := ()
noncomputable def law_holds.tw3910120701321347557 : Unit := ()
noncomputable def law_holds.tw2558664710541493025 : Unit := ()
noncomputable def law_holds.tw11232796583565578275 : Unit := ()
noncomputable def law_holds.tw7820799176418779761 : Unit := ()
noncomputable def law_holds.tw7356724547972884604 : Unit := ()
noncomputable def law_holds.tw9069877914133315304 : Unit := ()
noncomputable def law_holds.tw5731563423909890137 : Unit := ()
noncomputable def law_holds.tw3426384778480675251 : Unit := ()
noncomputable def law_holds.tw6723812968561706957 : Unit := ()
noncomputable def law_holds.tw6499956759230125245 : Unit := ()
noncomputable def law_holds.tw15694993059591697976 : Unit := ()
noncomputable def law_holds.tw6709271908398517637 : Unit := ()
noncomputable def law_holds.tw3438298445031660282 : Unit := ()
noncomputable def law_holds.tw3943428198234077543 : Unit := ()
noncomputable def law_holds.tw12459966957829302596 : Unit := ()
noncomputable def law_holds.tw11404014056486942332 : Unit := ()
noncomputable def law_holds.tw16273140198857503625 : Unit := ()
noncomputable def law_holds.tw15607887362523206001 : Unit := ()
noncomputable def law_holds.tw15617896438947887921 : Unit := ()
noncomputable def law_holds.tw13182730311906835528 : Unit := ()
noncomputable def law_holds.tw18269650602155537469 : Unit := ()
noncomputable def law_holds.tw10841264019214440115 : Unit := ()
noncomputable def law_holds.tw1832781179975386347 : Unit := ()
noncomputable def law_holds.tw653560878884961445 : Unit := ()
noncomputable def law_holds.tw2136269947727277649 : Unit := ()
noncomputable def law_holds.tw179590077315354965 : Unit := ()
noncomputable def law_holds.tw498061464947678834 : Unit := ()
noncomputable def law_holds.tw602461330855297101 : Unit := ()
noncomputable def law_holds.tw11484002064277903863 : Unit := ()
noncomputable def law_holds.tw9168033884955339765 : Unit := ()
noncomputable def law_holds.tw6896717019858035522 : Unit := ()
noncomputable def law_holds.tw10007947361888340627 : Unit := ()
noncomputable def law_holds.tw4515466672771955728 : Unit := ()
noncomputable def law_holds.tw4464252984393422682 : Unit := ()
noncomputable def law_holds.tw576407869801174206 : Unit := ()
noncomputable def law_holds.tw11625900857008200698 : Unit := ()
noncomputable def law_holds.tw907578622648922086 : Unit := ()
noncomputable def law_holds.tw4593294709026258786 : Unit := ()
noncomputable def law_holds.tw14498155544194170393 : Unit := ()
noncomputable def law_holds.tw8970147916757833333 : Unit := ()
noncomputable def law_holds.tw10666784280354678857 : Unit := ()
noncomputable def law_holds.tw6776455111828631412 : Unit := ()
noncomputable def law_holds.tw8191475993861738794 : Unit := ()
noncomputable def law_holds.tw3742325753681652743 : Unit := ()
noncomputable def law_holds.tw12732824653754844360 : Unit := ()
noncomputable def law_holds.tw4916342969005030805 : Unit := ()
noncomputable def law_holds.tw9423440377400516374 : Unit := ()
noncomputable def law_holds.tw3912811242725288453 : Unit := ()
noncomputable def law_holds.tw699380112222796084 : Unit := ()
noncomputable def law_holds.tw9682718004065560343 : Unit := ()
noncomputable def law_holds.tw14822640431511872941 : Unit := ()
noncomputable def law_holds.tw15162217921772873613 : Unit := ()
noncomputable def law_holds.tw4329158554759489670 : Unit := ()
noncomputable def law_holds.tw13392613628428298086 : Unit := ()
noncomputable def law_holds.tw7019463264422422977 : Unit := ()
noncomputable def law_holds.tw14335913921861858828 : Unit := ()
noncomputable def law_holds.tw11223184984439025696 : Unit := ()
noncomputable def law_holds.tw16805829885119392726 : Unit := ()
noncomputable def law_holds.tw16099233806120587224 : Unit := ()
noncomputable def law_holds.tw4581845663705801772 : Unit := ()
noncomputable def law_holds.tw8634839017697508684 : Unit := ()
noncomputable def law_holds.tw9779807473162285230 : Unit := ()
noncomputable def law_holds.tw6159533029260741167 : Unit := ()
noncomputable def law_holds.tw3756308257209627903 : Unit := ()
noncomputable def law_holds.tw14925382992726071281 : Unit := ()
noncomputable def law_holds.tw1285599515219305098 : Unit := ()
noncomputable def law_holds.tw11182679623053108816 : Unit := ()
noncomputable def law_holds.tw2644310842459337959 : Unit := ()
noncomputable def law_holds.tw14160533322030094474 : Unit := ()
noncomputable def law_holds.tw9207643191828677137 : Unit := ()
noncomputable def law_holds.tw14883556706271630602 : Unit := ()
noncomputable def law_holds.tw18090433342136740992 : Unit := ()
noncomputable def law_holds.tw10368410895845634921 : Unit := ()
noncomputable def law_holds.tw2055734563569237896 : Unit := ()
noncomputable def law_holds.tw11100686419730198450 : Unit := ()
noncomputable def law_holds.tw2102315897755806987 : Unit := ()
noncomputable def law_holds.tw15448297888555860652 : Unit := ()
noncomputable def law_holds.tw11924911360389889469 : Unit := ()
noncomputable def law_holds.tw12342728606916771844 : Unit := ()
noncomputable def law_holds.tw445335354869643106 : Unit := ()
noncomputable def law_holds.tw18326849912455186884 : Unit := ()
noncomputable def law_holds.tw8330938851228082562 : Unit := ()
noncomputable def law_holds.tw10188763426450519768 : Unit := ()
noncomputable def law_holds.tw15609566024721092083 : Unit := ()
noncomputable def law_holds.tw2295933128562542503 : Unit := ()
noncomputable def law_holds.tw8720880381367431298 : Unit := ()
noncomputable def law_holds.tw6564709946809587534 : Unit := ()
noncomputable def law_holds.tw7696488724909661519 : Unit := ()
noncomputable def law_holds.tw10486713781251687710 : Unit := ()
noncomputable def law_holds.tw17237755526102222789 : Unit := ()
noncomputable def law_holds.tw1186782194237197914 : Unit := ()
noncomputable def law_holds.tw8857742495270377987 : Unit := ()
noncomputable def law_holds.tw8652346329174877282 : Unit := ()
noncomputable def law_holds.tw5640673133297012132 : Unit := ()
noncomputable def law_holds.tw9849722394096787677 : Unit := ()
noncomputable def law_holds.tw11633083819707477107 : Unit := ()
noncomputable def law_holds.tw9992725586745946429 : Unit := ()
noncomputable def law_holds.tw15352839923633478061 : Unit := ()
noncomputable def law_holds.tw11690447701083486646 : Unit := ()
noncomputable def law_holds.tw1989176631692091739 : Unit := ()
noncomputable def law_holds.tw7636989558263936852 : Unit := ()
noncomputable def law_holds.tw14571795756577361901 : Unit := ()
noncomputable def law_holds.tw11764581739189218997 : Unit := ()
noncomputable def law_holds.tw8266603773606604290 : Unit := ()
noncomputable def law_holds.tw10958410103948607464 : Unit := ()
noncomputable def law_holds.tw8176227357466254829 : Unit := ()
noncomputable def law_holds.tw16893121556090616931 : Unit := ()
noncomputable def law_holds.tw12831907817818079685 : Unit := ()
noncomputable def law_holds.tw3850404396616230974 : Unit := ()
noncomputable def law_holds.tw10371022188087798493 : Unit := ()
noncomputable def law_holds.tw13154458805202713791 : Unit := ()
noncomputable def law_holds.tw11098625913536864229 : Unit := ()
noncomputable def law_holds.tw6869992995446874880 : Unit := ()
noncomputable def law_holds.tw12134408205421670959 : Unit := ()
noncomputable def law_holds.tw13397297893571687751 : Unit := ()
noncomputable def law_holds.tw12303009252429188658 : Unit := ()
noncomputable def law_holds.tw3776956092104397036 : Unit := ()
noncomputable def law_holds.tw2856731137302751260 : Unit := ()
noncomputable def law_holds.tw15661869461025623997 : Unit := ()
noncomputable def law_holds.tw5112083995522966620 : Unit := ()
noncomputable def law_holds.tw10024239376800412576 : Unit := ()
noncomputable def law_holds.tw12835091436910803158 : Unit := ()
noncomputable def law_holds.tw5212653520564569363 : Unit := ()
noncomputable def law_holds.tw8249079356659094474 : Unit := ()
noncomputable def law_holds.tw8984712037535005518 : Unit := ()
noncomputable def law_holds.tw1689763614830377041 : Unit := ()
noncomputable def law_holds.tw8666519363043736892 : Unit := ()
noncomputable def law_holds.tw7304591109411159013 : Unit := ()
noncomputable def law_holds.tw12476058986133298565 : Unit := ()
noncomputable def law_holds.tw2643271747718453845 : Unit := ()
noncomputable def law_holds.tw14997073306097389879 : Unit := ()
noncomputable def law_holds.tw14904137174637212347 : Unit := ()
noncomputable def law_holds.tw3943369040547089442 : Unit := ()
noncomputable def law_holds.tw13800757232730249582 : Unit := ()
noncomputable def law_holds.tw18254337876149969668 : Unit := ()
noncomputable def law_holds.tw9255152265573255198 : Unit := ()
noncomputable def law_holds.tw302768837105346163 : Unit := ()
noncomputable def law_holds.tw12889056044993165476 : Unit := ()
noncomputable def law_holds.tw519298541982818421 : Unit := ()
noncomputable def law_holds.tw16836969012518115619 : Unit := ()
noncomputable def law_holds.tw17180001009569633970 : Unit := ()
noncomputable def law_holds.tw4030767218360268280 : Unit := ()
noncomputable def law_holds.tw6860709855171689206 : Unit := ()
noncomputable def law_holds.tw3366817510852727610 : Unit := ()
noncomputable def law_holds.tw16614716721108272449 : Unit := ()
noncomputable def law_holds.tw1928719863018725356 : Unit := ()
noncomputable def law_holds.tw5062152199769849712 : Unit := ()
noncomputable def law_holds.tw10566571302883470556 : Unit := ()
noncomputable def law_holds.tw15191720212996534143 : Unit := ()
noncomputable def law_holds.tw8785698371604719795 : Unit := ()
noncomputable def law_holds.tw3956099054510807996 : Unit := ()
noncomputable def law_holds.tw18234560199702728603 : Unit := ()
set_option Elab.async true in
theorem law_holds : PySem.Challenge.rw_on0008_01.Holds := by
  w_on
  o_law
  k_head
  (case hw => w_witness2)
  show WalkO _ _ _ (kmHook pre.heap_1 _ _ _).says _ _ _ _
  k_go0
  all_goals try k_fold
  refine lawR fun Rl hRl => ?_
  k_steps
  rename World => w0
  rename Shared => sS
  rename IntsAre _ _ => hInts
  rename Heap.IsList (ghostOf _ _) _ _ => hScr
  rename Below callerA _ _ _ => B'
  (rename Frag.In _ (ghostOf _ _) => X')
  (rename Top topProg _ _ _ _ (ghostOf _ _) => T')
  rename ¬ _ => hCond
  unfold Stop
  (rename Fr _ _ _ _ => F0)
  (rename News _ _ _ _ => N0)
  rename_i hl0 row hh0 hl1
  refine useX (sub := [(row, _)]) (kp := [(272, tabObj #[])]) (ex := []) (av := [row, 272]) B' F0 X' N0 T' rfl (by walk_at "m_subs") ?kp ?km (List.forall_mem_nil _) (List.forall_mem_nil _) (by walk_at "m_sa") (pool_does (rs := [1, 0, 0, 0, 3, 0, 0]) (hScr.at fun o e => F0.keep _ _ e) hInts ?hz (News.get N0 (List.Mem.head _)) ?hR ?hrz (mutable_ne hScr N0 (List.Mem.head _))) (Nat.le_of_ble_eq_true rfl) (Nat.le_of_ble_eq_true rfl) ?ret
  case kp => walk_at "m_subs"
  case km => walk_at "m_offs"
  case hz => (clear hl0 hl1; omega)
  case hR => l_ints
  case hrz => exact Nat.le_refl 7
  case ret =>
    intro v9 h9 tk9 ex9 F9 N9 _ _ hx9 nw nn gz q9
    apply cutV (v := v9)
    intro C_ kC_
    obtain ⟨src, lst, rfl, ⟨b, m, s1, s2, sn, lk, us, ns, e1, e2, hI, hv, hm0, hm1⟩, hls, hsn, hln, hrl⟩ := q9
    refine kC_ _ ?_
    clear kC_ C_
    have N1 := pool_led F0 N0 (List.Mem.head _) hsn hln e1 e2 (fun q hq => N9 q (List.mem_append_left _ hq))
    have k1 : 272 < lst ∧ lst < src := ⟨Nat.lt_of_lt_of_le (hl1 _ (memAt 0 rfl)) hrl, hls⟩
    clear N9 F0 N0 hx9 nw nn gz hsn hln hrl hls hl1 e1 e2
    try dsimp only
    k_steps
    rename_i tab td _ kl1 kl2 g8 L8 _ B8 X8 T8 _ _ ent _ oE hsm hsE fsE hiE fiE kl3 _ _ F8 N8 Tc8 kX8 book _ kl4 D6 _ kl5 _ _ _ _ _ F1 N1
    clear N8 F8 B8 X8 T8 Tc8 kX8 fsE hsE fiE
    have hent := entIs_nil hiE
    unfold Stop
    refine for_K F1 ?_
    try dsimp only
    k_steps
    unfold Stop
    (rename Fr _ _ _ _ => F2)
    (rename News _ _ _ _ => N2)
    refine' useX (sub := [(src, _), (lst, _)]) (kp := [(book, _), (ent, _), (tab, _), (td, _), (272, _)]) (ex := []) (av := [src, lst, tab, td, ent, book, 272]) B' F2 X' N2 T' rfl ?su ?kp ?km (List.forall_mem_nil _) (List.forall_mem_nil _) ?sa (take_does ⟨_, _, _, _, _, _, _, _, News.get N2 (by k_mem), News.get N2 (by k_mem), hI, hv, hm0, hm1⟩ k1.2 (by decide) (by decide)) (Nat.le_of_ble_eq_true rfl) (Nat.le_of_ble_eq_true rfl) ?ret
    case su => walk_at "m_subs"
    case kp => walk_at "m_subs"
    case km => walk_at "m_offs"
    case sa => (intro q hq; simp only [List.map_cons, List.map_nil, List.mem_cons, List.not_mem_nil, or_false] at hq ⊢; rcases hq with rfl | rfl <;> simp)
    case ret =>
      intro v9 h9 tk9 ex9 F9 N9 _ hoff9 hx9 nw _ _ q9
      apply cutV (v := v9)
      intro C_ kC_
      obtain ⟨⟨b, m, s1, s2, sn, lk, us, ns, e1, e2, hI, hv, hm0, hm1⟩, d, td9, rfl, hd0, hd1⟩ := q9
      refine kC_ _ ?_
      clear kC_ C_
      replace N9 := News.append (nw src _ (by simp) e1) (News.append (nw lst _ (by simp) e2) N9)
      dsimp only [List.cons_append, List.nil_append] at N9
      clear F2 N2 nw e1 e2 hx9
      obtain ⟨dn, rfl⟩ : ∃ dn : Nat, d = (dn : Int) := ⟨d.toNat, by clear kl1 kl2 kl3 kl4 kl5; omega⟩
      try dsimp only
      k_steps
      rename_i hpp tkp _ _ _ hR F3 N3 K3
      clear K3 hl0
      have kb : @LT.lt Nat _ book hpp.objs.size := Heap.lt_size (News.get N3 (show (book, _) ∈ _ by k_mem))
      have k2 : @LT.lt Nat _ src td ∧ @LT.lt Nat _ td tab ∧ @LT.lt Nat _ tab ent ∧ @LT.lt Nat _ ent book := by
        clear kb
        (try simp only [LtAll, List.forall_mem_cons, List.forall_mem_nil, and_true] at kl1); (try simp only [LtAll, List.forall_mem_cons, List.forall_mem_nil, and_true] at kl2); (try simp only [LtAll, List.forall_mem_cons, List.forall_mem_nil, and_true] at kl3); (try simp only [LtAll, List.forall_mem_cons, List.forall_mem_nil, and_true] at kl4); (try simp only [LtAll, List.forall_mem_cons, List.forall_mem_nil, and_true] at kl5)
        omega
      have hAp : Apart src lst tab td ent book := by
        exact Apart.of k1.2 k2.1 k2.2.1 k2.2.2.1 k2.2.2.2
      clear kl1 kl2 kl3 kl4 kl5
      rw [show (2 : Int) + (dn : Int) = ((2 + dn : Nat) : Int) by omega] at hR
      refine forAt_rangeM (n := 2 + dn) (JJ := LawJ PySem.Challenge.rw_on0008_01.row.prog w0 src lst tab td ent book) rfl F3 hR ?hsm ?h0 ?hJ (fun _ _ _ _ _ _ _ h => wpAny_pure h) ?step ?fin
      case hsm => 
        exact small_dn dn (by clear kb; omega)
      case h0 =>
        intro h kp
        refine ⟨none, 0, _, [], norm2 rfl rfl (fun z _ _ => rfl), ⟨⟨b, m, s1, s2, sn, lk, us, ns, kp _ _ (News.get N3 (by k_mem)), kp _ _ (News.get N3 (by k_mem)), hI, hv, hm0, hm1⟩, ⟨_, _, _, _, 3, oE, [], kp _ _ (News.get N3 (by k_mem)), kp _ _ (News.get N3 (by k_mem)), kp _ _ (News.get N3 (by k_mem)), hent, ⟨rfl, .nil, .nil⟩⟩, ⟨[], 0, kp _ _ (News.get N3 (by k_mem)), .nil⟩, ⟨by simp, by simp, by simp, by simp⟩⟩, kp _ _ (News.get N3 (by k_mem))⟩
      case hJ =>
        rintro i I h h2 m' hI2 ⟨va, c', tc2, rs', hm, S, hP⟩ kp nt
        have hI3 : @LT.lt Nat _ book I := Nat.lt_of_lt_of_le kb hI2
        have ne : ∀ {x : Nat}, @LT.lt Nat _ x I → (x : Addr) ∉ [(I : Addr)] := fun hx hm => Nat.ne_of_lt hx (List.mem_singleton.mp hm)
        exact ⟨va, c', tc2, rs', hm, S.keep kp nt (ne (by omega)) (ne (by omega)) (ne (by omega)) (ne (by omega)) (ne (by omega)) (ne (by omega)), kp _ _ hP (ne (by omega))⟩
      case fin =>
        rintro h₁ tk₁ m₁ F₁ ⟨va, c', tc2, rs', rfl, S, hP⟩
        obtain ⟨⟨b3, m3, q1, q2, q3, q4, us3, ns3, e1, e2, hI4, hv3, hm3, hm3'⟩, ⟨y1, y2, y3, yc, yn, oe, xs3, e3, e4, e5, ho3, hx3⟩, ⟨bs3, bn3, e6, hb3⟩, hg3⟩ := S
        obtain ⟨ex1, N1, hoff1, hex1⟩ := led (s := { sS with heap := h₁ }) F₁ [(src, _), (lst, _), (tab, _), (td, _), (ent, _), (book, _), (272, _)] [src, lst, tab, td, ent, book, 272] (fmc ⟨e1, newsOff (a := src) N3 (by k_mem)⟩ (fmc ⟨e2, newsOff (a := lst) N3 (by k_mem)⟩ (fmc ⟨e3, newsOff (a := tab) N3 (by k_mem)⟩ (fmc ⟨e4, newsOff (a := td) N3 (by k_mem)⟩ (fmc ⟨e5, newsOff (a := ent) N3 (by k_mem)⟩ (fmc ⟨e6, newsOff (a := book) N3 (by k_mem)⟩ (fmc ⟨hP, newsOff (a := 272) N3 (by k_mem)⟩ (List.forall_mem_nil _))))))))
        dsimp only [List.cons_append, List.nil_append] at N1
        have nt1 := noTup_L F₁ (AvOk.noTup (avCons e1 rfl (avCons e2 rfl (avCons e3 rfl (avCons e4 rfl (avCons e5 ho3.off (avCons e6 rfl (avCons hP rfl avNil))))))))
        have Sx := hex1 ▸ Sure.ents F₁ nt1 hx3
        have Sb := hex1 ▸ Sure.reps F₁ nt1 hb3
        clear N3 F3 hex1 nt1 hx3 hb3 e1 e2 e3 e4 e5 e6 hP kb
        try dsimp only
        k_steps
        unfold Stop
        (rename Fr _ _ _ _ => F0)
        (rename News _ _ _ _ => N0)
        rename_i D6 _ g1 D5 _ g2 D4 _ g3 D3 _ g4 D2 _ g5 D1 _ g6 D0 _ g7 lB hc g8
        have hv8 : RepAll hc [.ref D6, .ref D3, .ref D0] badList := by
          unfold badList
          walk_at "m_rep"
        have nt2 := noTup_L F0 (AvOk.noTup (by walk_at "m_av" : AvOk [src, lst, tab, td, ent, book, 272] hc))
        have hx2 := Sx.now F0 N0 (by walk_at "m_ex")
        have hb2 := Sb.now F0 N0 (by walk_at "m_ex")
        obtain ⟨ex2, N2, hoff2, hex2⟩ := led (s := { sS with heap := hc }) F0 [(src, _), (lst, _), (tab, _), (td, _), (ent, _), (book, _), (272, _)] [src, lst, tab, td, ent, book, 272] (fmc (N0 (src, _) (by k_mem)) (fmc (N0 (lst, _) (by k_mem)) (fmc (N0 (tab, _) (by k_mem)) (fmc (N0 (td, _) (by k_mem)) (fmc (N0 (ent, _) (by k_mem)) (fmc (N0 (book, _) (by k_mem)) (fmc (N0 (272, _) (by k_mem)) (List.forall_mem_nil _))))))))
        dsimp only [List.cons_append, List.nil_append] at N2
        have Sx2 := hex2 ▸ Sure.ents F0 nt2 hx2
        have Sb2 := hex2 ▸ Sure.reps F0 nt2 hb2
        have Sv := hex2 ▸ Sure.reps F0 nt2 hv8
        have hlB : hc.get? lB = some (W.listOf [.ref D6, .ref D3, .ref D0].toArray 0) := News.get N0 (by k_mem)
        have nB : @Ne Nat lB src ∧ @Ne Nat lB lst := by
          clear g1 g2 g3 g4 g5 g6 g7
          (try simp only [LtAll, List.forall_mem_cons, List.forall_mem_nil, and_true] at g8)
          omega
        clear g1 g2 g3 g4 g5 g6 g7 g8 N0 Sx Sb hx2 hb2 hex2 nt2 hv8
        refine' useX (sub := [(src, _), (lst, _)]) (kp := [(tab, _), (td, _), (ent, _), (book, _), (272, _)]) (ex := ex2) (av := [src, lst, tab, td, ent, book, 272]) B' F0 X' N2 T' rfl ?su ?kp ?km ?ex hoff2 ?sa (one_does (vs := [.ref D6, .ref D3, .ref D0]) (n := 0) ⟨_, _, _, _, _, _, _, _, News.get N2 (by k_mem), News.get N2 (by k_mem), hI4, hv3, hm3, hm3'⟩ k1.2 hlB nB.1 nB.2 (Nat.succ_pos _) (Nat.le_of_ble_eq_true rfl)) (Nat.le_of_ble_eq_true rfl) (Nat.le_of_ble_eq_true rfl) ?_
        case su => walk_at "m_subs"
        case kp => walk_at "m_subs"
        case km => walk_at "m_offs"
        case ex => walk_at "m_ex"
        case sa => (intro q hq; simp only [List.map_cons, List.map_nil, List.mem_cons, List.not_mem_nil, or_false] at hq ⊢; rcases hq with rfl | rfl <;> simp)
        intro v6 h6 tk6 ex3 F6 N6 hex3 hoff3 _ nw _ _ q6
        apply cutV (v := v6)
        intro C_ kC_
        obtain ⟨⟨b4, m4, s4, s4', sn4, lk4, us4, ns4, e1, e2, hI5, hv4, hm4, hm4'⟩, j, hj, rfl⟩ := q6
        refine kC_ _ ?_
        clear kC_ C_
        have hj3 : j < badList.length := hj
        have Sd : Sure _ ex3 (fun h => Rep h [Value.ref D6, Value.ref D3, Value.ref D0][j] badList[j]) := fun h x => ((Sv.mono hex3) h x).get j hj hj3
        have hbd := badList_bad j hj3
        generalize [Value.ref D6, Value.ref D3, Value.ref D0][j] = vb at Sd ⊢
        generalize badList[j] = db at Sd hbd
        replace N6 := News.append (nw src _ (by simp) e1) (News.append (nw lst _ (by simp) e2) N6)
        dsimp only [List.cons_append, List.nil_append] at N6
        replace Sx2 := Sx2.mono hex3
        replace Sb2 := Sb2.mono hex3
        clear nw e1 e2 F0 N2 Sv hlB nB
        try dsimp only
        k_steps
        unfold Stop
        (rename Fr _ _ _ _ => F0)
        (rename News _ _ _ _ => N0)
        refine' useC (kp := (src, _) :: (lst, _) :: (tab, _) :: (td, _) :: (ent, _) :: (book, _) :: ex3) B' F0 N0 (o2 := tabObj #[]) (by k_mem) ?fs ?kp ?km X' T' rfl (ref_does (n := 0) (News.get N0 (by k_mem)) (News.get N0 (by k_mem)) (News.get N0 (by k_mem)) (News.get N0 (by k_mem)) ho3 (Sd.now F0 N0 (by walk_at "m_ex")) hbd) (Nat.le_of_ble_eq_true rfl) (Nat.le_of_ble_eq_true rfl) ?_
        case fs => exact fmc ((N0 (tab, _) (by k_mem)).2.1) (fmc ((N0 (td, _) (by k_mem)).2.1) (fmc ((N0 (ent, _) (by k_mem)).2.1) (List.forall_mem_nil _)))
        case kp => exact fmc (by k_mem) (fmc (by k_mem) (fmc (by k_mem) (fmc (by k_mem) (fmc (by k_mem) (fmc (by k_mem) (by walk_at "m_ex"))))))
        case km =>
          have h7 : ∀ q ∈ ex3, q.1 ≠ 272 := fun q hq e => hoff3 q hq (by simp [e])
          have k3 : @Ne Nat src 272 ∧ @Ne Nat lst 272 ∧ @Ne Nat tab 272 ∧ @Ne Nat td 272 ∧ @Ne Nat ent 272 ∧ @Ne Nat book 272 := by omega
          exact fmc k3.1 (fmc k3.2.1 (fmc k3.2.2.1 (fmc k3.2.2.2.1 (fmc k3.2.2.2.2.1 (fmc k3.2.2.2.2.2 h7)))))
        intro v7 h7 tk7 F7 N7 n272 _ q7
        apply cutV (v := v7)
        intro C_ kC_
        obtain ⟨rfl, ps, eps⟩ := q7
        refine kC_ _ ?_
        clear kC_ C_
        replace N7 := News.append (n272 _ eps) N7
        dsimp only [List.cons_append, List.nil_append] at N7
        clear n272 eps F0 N0 Sd hbd
        try dsimp only
        k_steps
        unfold Stop
        (rename Fr _ _ _ _ => F8)
        (rename News _ _ _ _ => N8)
        refine' useX (sub := []) (kp := [(src, _), (lst, _), (tab, _), (td, _), (ent, _), (book, _), (272, tabObj ps)]) (ex := ex3) (av := [src, lst, tab, td, ent, book, 272]) B' F8 X' N8 T' rfl ?su ?kp (fun _ _ => List.not_mem_nil) ?ex hoff3 (List.forall_mem_nil _) (stands_does (n := 0) (News.get N8 (by k_mem)) (News.get N8 (by k_mem)) (News.get N8 (by k_mem)) ho3 hsm (Sx2.now F8 N8 (by walk_at "m_ex")) (News.get N8 (by k_mem)) (Sb2.now F8 N8 (by walk_at "m_ex")) hg3) (Nat.le_of_ble_eq_true rfl) (Nat.le_of_ble_eq_true rfl) ?_
        case su => walk_at "m_subs"
        case kp => walk_at "m_subs"
        case ex => walk_at "m_ex"
        intro v5 h5 tk5 ex5 F5 N5 hex5 hoff5 hx5 nw _ _ q5
        obtain rfl := q5
        dsimp only [List.cons_append, List.nil_append] at N5
        replace Sx2 := Sx2.mono hex5
        replace Sb2 := Sb2.mono hex5
        clear nw hx5 F8 N8
        try dsimp only
        k_steps
        unfold Stop
        (rename Fr _ _ _ _ => F0)
        (rename News _ _ _ _ => N0)
        refine' useX (sub := [(src, _), (lst, _), (tab, _), (td, _), (ent, _), (book, _)]) (kp := [(272, tabObj ps)]) (ex := ex5) (av := [src, lst, tab, td, ent, book, 272]) B' F0 X' N0 T' rfl ?su ?kp ?km ?ex hoff5 ?sa (loop_does (hS := ⟨⟨_, _, _, _, _, _, _, _, News.get N0 (by k_mem), News.get N0 (by k_mem), hI5, hv4, hm4, hm4'⟩, ⟨_, _, _, _, 0, _, _, News.get N0 (by k_mem), News.get N0 (by k_mem), News.get N0 (by k_mem), ho3, Sx2.now F0 N0 (by walk_at "m_ex")⟩, ⟨_, _, News.get N0 (by k_mem), Sb2.now F0 N0 (by walk_at "m_ex")⟩, hg3⟩) hAp hsm) (Nat.le_of_ble_eq_true rfl) (Nat.le_of_ble_eq_true rfl) ?_
        case su => walk_at "m_subs"
        case kp => walk_at "m_subs"
        case km => exact six_km k1 k2
        case ex => walk_at "m_ex"
        case sa => walk_at "m_sa"
        intro v4 h4 tk4 ex4 F4 N4 _ _ _ _ _ _ q4
        obtain rfl := q4
        replace N4 : News _ _ h4 [(272, tabObj ps)] := fun q hq => N4 q (List.mem_append_left _ hq)
        clear F0 N0 Sx2 Sb2
        try dsimp only
        k_steps
        refine hRl _ _ ?_
        try dsimp only
        k_steps
        unfold Stop
        (rename News _ _ _ _ => N9)
        exact ⟨⟨ps, News.get N9 (by k_mem)⟩, trivial⟩
      case step =>
        rintro i ti m₁ h₁ tk₁ I hi ⟨va, c', tc2, rs', rfl, S, hP⟩ F₁ hI2 hgI hoI s₂ R9 hN9 hR9
        have hI3 : @LT.lt Nat _ book I := Nat.lt_of_lt_of_le kb hI2
        obtain ⟨⟨b3, m3, q1, q2, q3, q4, us3, ns3, e1, e2, hI4, hv3, hm3, hm3'⟩, ⟨y1, y2, y3, yc, yn, oe, xs3, e3, e4, e5, ho3, hx3⟩, ⟨bs3, bn3, e6, hb3⟩, hg3⟩ := S
        obtain ⟨ex1, N1, hoff1, hex1⟩ := led (s := { sS with heap := h₁ }) F₁ [(src, _), (lst, _), (tab, _), (td, _), (ent, _), (book, _), (272, _)] [src, lst, tab, td, ent, book, 272] (fmc ⟨e1, newsOff (a := src) N3 (by k_mem)⟩ (fmc ⟨e2, newsOff (a := lst) N3 (by k_mem)⟩ (fmc ⟨e3, newsOff (a := tab) N3 (by k_mem)⟩ (fmc ⟨e4, newsOff (a := td) N3 (by k_mem)⟩ (fmc ⟨e5, newsOff (a := ent) N3 (by k_mem)⟩ (fmc ⟨e6, newsOff (a := book) N3 (by k_mem)⟩ (fmc ⟨hP, newsOff (a := 272) N3 (by k_mem)⟩ (List.forall_mem_nil _))))))))
        dsimp only [List.cons_append, List.nil_append] at N1
        have nt1 := noTup_L F₁ (AvOk.noTup (avCons e1 rfl (avCons e2 rfl (avCons e3 rfl (avCons e4 rfl (avCons e5 ho3.off (avCons e6 rfl (avCons hP rfl avNil))))))))
        have Sx := hex1 ▸ Sure.ents F₁ nt1 hx3
        have Sb := hex1 ▸ Sure.reps F₁ nt1 hb3
        have kf : ∀ {h' : Heap} {m' : Str → Option Value} {news : List (Addr × Obj)}, Fr _ _ h' m' → News _ _ h' news → (∀ q ∈ ex1, q ∈ news) → ∀ b, b ∉ _ :: [src, lst, tab, td, ent, book, 272] → ∀ o, h₁.get? b = some o → h'.get? b = some o := fun F N hs => keep_fp F₁ hex1 F N hs
        have hL3 : @LT.lt Nat _ sS.heap.objs.size I := Nat.lt_of_lt_of_le F3.ns.lt hI2
        have offI : (I : Addr) ∉ sS.heap.objs.size :: [src, lst, tab, td, ent, book, 272] := fun hm => by
          simp only [List.mem_cons, List.not_mem_nil, or_false] at hm
          clear kb hI2
          rcases hm with h | h | h | h | h | h | h | h
          all_goals (have h' : (I : Nat) = _ := h; omega)
        clear N3 F3 hex1 nt1 hx3 hb3 e1 e2 e3 e4 e5 e6 hP kb
        try dsimp only
        k_steps
        unfold Stop
        (rename Fr _ _ _ _ => F0)
        (rename News _ _ _ _ => N0)
        refine' useX (sub := [(src, _), (lst, _), (tab, _), (td, _), (ent, _), (book, _)]) (kp := [(272, _)]) (ex := ex1) (av := [src, lst, tab, td, ent, book, 272]) B' F0 X' N0 T' rfl ?su ?kp ?km ?ex hoff1 ?sa (deed_does (hS := ⟨⟨_, _, _, _, _, _, _, _, News.get N0 (by k_mem), News.get N0 (by k_mem), hI4, hv3, hm3, hm3'⟩, ⟨_, _, _, _, 0, _, _, News.get N0 (by k_mem), News.get N0 (by k_mem), News.get N0 (by k_mem), ho3, Sx.now F0 N0 (by walk_at "m_ex")⟩, ⟨_, _, News.get N0 (by k_mem), Sb.now F0 N0 (by walk_at "m_ex")⟩, hg3⟩) hAp hsm) (Nat.le_of_ble_eq_true rfl) (Nat.le_of_ble_eq_true rfl) ?_
        case su => walk_at "m_subs"
        case kp => walk_at "m_subs"
        case km => exact six_km k1 k2
        case ex => walk_at "m_ex"
        case sa => walk_at "m_sa"
        intro v6 h6 tk6 ex4 F6 N6 hex4 hoff4 hx6 nw _ _ q6
        apply cutV (v := v6)
        intro C_ kC_
        obtain ⟨c4, rs4, t4, rfl, ⟨⟨b4, m4, s4, s4', sn4, lk4, us4, ns4, e1, e2, hI5, hv4, hm4, hm4'⟩, ⟨u1, u2, u3, uc, un, o4, xs4, e3, e4, e5, ho4, hxx⟩, ⟨bs4, bn4, e6, hb4⟩, hg4⟩, hcc, hle4⟩ := q6
        refine kC_ _ ?_
        clear kC_ C_
        replace N6 := News.append (nw src _ (by simp) e1) (News.append (nw lst _ (by simp) e2) (News.append (nw tab _ (by simp) e3) (News.append (nw td _ (by simp) e4) (News.append (nw ent _ (by simp) e5) (News.append (nw book _ (by simp) e6) N6)))))
        dsimp only [List.cons_append, List.nil_append] at N6
        have av6 : AvOk [src, lst, tab, td, ent, book, 272] h6 := by walk_at "m_av"
        have nt6 := noTup_L F6 av6.noTup
        have Sx4 := hx6 ▸ Sure.ents F6 nt6 hxx
        have Sb4 := hx6 ▸ Sure.reps F6 nt6 hb4
        clear nw hx6 e1 e2 e3 e4 e5 e6 av6 nt6 hxx hb4 F0 N0 Sx Sb
        try dsimp only
        k_steps
        (try unfold Stop)
        (rename Fr _ _ _ _ => F8)
        (rename News _ _ _ _ => N8)
        refine' useX (sub := []) (kp := [(src, _), (lst, _), (tab, _), (td, _), (ent, _), (book, _), (272, _)]) (ex := ex4) (av := [src, lst, tab, td, ent, book, 272]) B' F8 X' N8 T' rfl ?su ?kp (fun _ _ => List.not_mem_nil) ?ex hoff4 (List.forall_mem_nil _) (stands_does (n := 0) (News.get N8 (by k_mem)) (News.get N8 (by k_mem)) (News.get N8 (by k_mem)) ho4 hsm (Sx4.now F8 N8 (by walk_at "m_ex")) (News.get N8 (by k_mem)) (Sb4.now F8 N8 (by walk_at "m_ex")) hg4) (Nat.le_of_ble_eq_true rfl) (Nat.le_of_ble_eq_true rfl) ?_
        case su => walk_at "m_subs"
        case kp => walk_at "m_subs"
        case ex => walk_at "m_ex"
        intro v5 h5 tk5 ex5 F5 N5 hex5 hoff5 hx5 nw _ _ q5
        obtain rfl := q5
        dsimp only [List.cons_append, List.nil_append] at N5
        clear nw hx5 F8 N8
        try dsimp only
        k_steps
        (rename Fr _ _ _ _ => F0)
        (rename News _ _ _ _ => N0)
        refine ForR.next hN9 F0 ?keep ⟨_, _, _, rs4, norm2 (v1 := some _) (v2 := some _) rfl rfl (fun z n1 n2 => by (try dsimp only); repeat (first | exact rfl | refine (if_neg (by with_reducible assumption)).trans ?_)), ?turn, ?hp9⟩
        case keep =>
          intro b' hb' o' eo
          obtain rfl := List.mem_singleton.mp hb'
          exact kf F0 N0 (by intro q hq; replace hq := hex5 q (hex4 q hq); repeat (first | exact hq | refine List.mem_cons_of_mem _ ?_)) _ offI o' eo
        case turn =>
          exact ⟨⟨_, _, _, _, _, _, _, _, News.get N0 (by k_mem), News.get N0 (by k_mem), hI5, hv4, hm4, hm4'⟩, ⟨_, _, _, _, _, _, _, News.get N0 (by k_mem), News.get N0 (by k_mem), News.get N0 (by k_mem), ho4, (Sx4.mono hex5).now F0 N0 (by walk_at "m_ex")⟩, ⟨_, _, News.get N0 (by k_mem), (Sb4.mono hex5).now F0 N0 (by walk_at "m_ex")⟩, hg4⟩
        case hp9 => exact News.get N0 (by k_mem)
end
end
end Mine
theorem PySem.Challenge.cw_on0008_01_holds : PySem.Challenge.rw_on0008_01.Holds := by
  exact Mine.law_holds
