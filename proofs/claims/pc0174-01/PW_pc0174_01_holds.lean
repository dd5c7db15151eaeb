import PyProof.Rows.All
import Wide.All
import OpenK.AllK
import Wide.FinOn
import Lean
import PySem.Challenge.RW_pc0174_01
open PySem PySem.W PyProof.Rows
set_option Elab.async false
set_option maxRecDepth 100000
set_option compiler.extract_closed false
set_option linter.all false
set_option maxHeartbeats 400000000
local macro_rules | `(tactic| omega) => `(tactic| lia)
local macro_rules | `(tactic| walk_at $s:str) => `(tactic| k_extra $s)
local macro_rules | `(tactic| k_all) => `(tactic| assumption)
section
namespace Mine
theorem ep_ne {α : Type} (ne : Nonempty α) (P : α → Prop) : Nonempty {x : α // P x → ∀ y, P y} := by
  rcases Classical.em (∃ x, ¬ P x) with ⟨x, h⟩ | h
  · exact ⟨⟨x, fun k => absurd k h⟩⟩
  · obtain ⟨x⟩ := ne
    exact ⟨⟨x, fun _ y => Classical.not_not.mp fun k => h ⟨y, k⟩⟩⟩
noncomputable def ep {α : Type} (ne : Nonempty α) (P : α → Prop) : α := (Classical.choice (ep_ne ne P)).1
theorem ep_all {α : Type} (ne : Nonempty α) {P : α → Prop} (k : P (ep ne P)) : ∀ x, P x := (Classical.choice (ep_ne ne P)).2 k
theorem ne_world : Nonempty World := ⟨{ draws := fun _ _ => 0, params := { strHash := fun _ => 0, shareClass := fun _ => 0, mergeTok := fun t => t, idOf := fun _ => 0, idOfShared := fun _ _ => 0, followText := fun _ => false, idOfImm := fun _ => 0 } }⟩
theorem ne_shared : Nonempty Shared := ⟨{}⟩
theorem ne_around : Nonempty Around := by
  refine ⟨?_⟩
  constructor <;> exact default
theorem ne_prod {α β : Type} (a : Nonempty α) (b : Nonempty β) : Nonempty (α × β) := by
  obtain ⟨x⟩ := a
  obtain ⟨y⟩ := b
  exact ⟨(x, y)⟩
theorem ne_heap : Nonempty Heap := ⟨default⟩
theorem ne_ah : Nonempty (Addr × Heap) := ⟨default⟩
structure Bx (p : Prop) : Prop where
  out : p
structure CxS where
  w : World
  p : Program
  loose : List Str
  mean : ExcName → Option Value
  mg : Str → Option Value
  mb : Str → Option Value
  dp : Nat
  un : Nat
  gd : Option (List Code)
  cn : Str
  cs : Scope
  a : Addr
  ccd : Value
  cl : List (Str × Addr)
  outer : List Env
  A : Around
  base : Heap
  h : Heap
  L : Addr
  m : Str → Option Value
  s : Shared
  Q : Value → Shared → Prop
  E : Value → Shared → Prop
theorem ne_cx : Nonempty CxS := by
  obtain ⟨w⟩ := ne_world
  obtain ⟨s⟩ := ne_shared
  obtain ⟨A⟩ := ne_around
  exact ⟨⟨w, default, default, fun _ => none, fun _ => none, fun _ => none, 0, 0, none, default, default, default, default, [], [], A, default, default, default, fun _ => none, s, fun _ _ => True, fun _ _ => True⟩⟩
noncomputable def cx (P : (World) → (Program) → (List Str) → (ExcName → Option Value) → (Str → Option Value) → (Str → Option Value) → (Nat) → (Nat) → (Option (List Code)) → (Str) → (Scope) → (Addr) → (Value) → (List (Str × Addr)) → (List Env) → (Around) → (Heap) → (Heap) → (Addr) → (Str → Option Value) → (Shared) → (Value → Shared → Prop) → (Value → Shared → Prop) → Prop) : CxS := ep ne_cx (fun z => P z.w z.p z.loose z.mean z.mg z.mb z.dp z.un z.gd z.cn z.cs z.a z.ccd z.cl z.outer z.A z.base z.h z.L z.m z.s z.Q z.E)
theorem ep_cx {P : (World) → (Program) → (List Str) → (ExcName → Option Value) → (Str → Option Value) → (Str → Option Value) → (Nat) → (Nat) → (Option (List Code)) → (Str) → (Scope) → (Addr) → (Value) → (List (Str × Addr)) → (List Env) → (Around) → (Heap) → (Heap) → (Addr) → (Str → Option Value) → (Shared) → (Value → Shared → Prop) → (Value → Shared → Prop) → Prop} (k : Bx (P (cx P).w (cx P).p (cx P).loose (cx P).mean (cx P).mg (cx P).mb (cx P).dp (cx P).un (cx P).gd (cx P).cn (cx P).cs (cx P).a (cx P).ccd (cx P).cl (cx P).outer (cx P).A (cx P).base (cx P).h (cx P).L (cx P).m (cx P).s (cx P).Q (cx P).E)) : ∀ w p loose mean mg mb dp un gd cn cs a ccd cl outer A base h L m s Q E, P w p loose mean mg mb dp un gd cn cs a ccd cl outer A base h L m s Q E := fun w p loose mean mg mb dp un gd cn cs a ccd cl outer A base h L m s Q E => ep_all (P := fun z => P z.w z.p z.loose z.mean z.mg z.mb z.dp z.un z.gd z.cn z.cs z.a z.ccd z.cl z.outer z.A z.base z.h z.L z.m z.s z.Q z.E) ne_cx k.out ⟨w, p, loose, mean, mg, mb, dp, un, gd, cn, cs, a, ccd, cl, outer, A, base, h, L, m, s, Q, E⟩
abbrev KBcx {P : (World) → (Program) → (List Str) → (ExcName → Option Value) → (Str → Option Value) → (Str → Option Value) → (Nat) → (Nat) → (Option (List Code)) → (Str) → (Scope) → (Addr) → (Value) → (List (Str × Addr)) → (List Env) → (Around) → (Heap) → (Heap) → (Addr) → (Str → Option Value) → (Shared) → (Value → Shared → Prop) → (Value → Shared → Prop) → Prop} (_ : ∀ w p loose mean mg mb dp un gd cn cs a ccd cl outer A base h L m s Q E, Bx (P w p loose mean mg mb dp un gd cn cs a ccd cl outer A base h L m s Q E)) : Prop := ∀ w p loose mean mg mb dp un gd cn cs a ccd cl outer A base h L m s Q E, P w p loose mean mg mb dp un gd cn cs a ccd cl outer A base h L m s Q E
noncomputable def qE1 {α0 : Type} (n : Nonempty (α0)) (P : α0 → Prop) : α0 := ep n (fun z => P z)
theorem ep1 {α0 : Type} {P : α0 → Prop} (n : Nonempty (α0)) (k : Bx (P (qE1 n P))) : ∀ x0, P x0 := fun x0 => ep_all (P := fun z => P z) n k.out (x0)
abbrev KB1 {α0 : Type} {P : α0 → Prop} (_ : ∀ x0, Bx (P x0)) : Prop := ∀ x0, P x0
noncomputable def qE2 {α0 α1 : Type} (n : Nonempty (α0 × α1)) (P : α0 → α1 → Prop) : α0 × α1 := ep n (fun z => P z.1 z.2)
theorem ep2 {α0 α1 : Type} {P : α0 → α1 → Prop} (n : Nonempty (α0 × α1)) (k : Bx (P (qE2 n P).1 (qE2 n P).2)) : ∀ x0 x1, P x0 x1 := fun x0 x1 => ep_all (P := fun z => P z.1 z.2) n k.out (x0, x1)
abbrev KB2 {α0 α1 : Type} {P : α0 → α1 → Prop} (_ : ∀ x0 x1, Bx (P x0 x1)) : Prop := ∀ x0 x1, P x0 x1
noncomputable def qE3 {α0 α1 α2 : Type} (n : Nonempty (α0 × α1 × α2)) (P : α0 → α1 → α2 → Prop) : α0 × α1 × α2 := ep n (fun z => P z.1 z.2.1 z.2.2)
theorem ep3 {α0 α1 α2 : Type} {P : α0 → α1 → α2 → Prop} (n : Nonempty (α0 × α1 × α2)) (k : Bx (P (qE3 n P).1 (qE3 n P).2.1 (qE3 n P).2.2)) : ∀ x0 x1 x2, P x0 x1 x2 := fun x0 x1 x2 => ep_all (P := fun z => P z.1 z.2.1 z.2.2) n k.out (x0, x1, x2)
abbrev KB3 {α0 α1 α2 : Type} {P : α0 → α1 → α2 → Prop} (_ : ∀ x0 x1 x2, Bx (P x0 x1 x2)) : Prop := ∀ x0 x1 x2, P x0 x1 x2
noncomputable def qE4 {α0 α1 α2 α3 : Type} (n : Nonempty (α0 × α1 × α2 × α3)) (P : α0 → α1 → α2 → α3 → Prop) : α0 × α1 × α2 × α3 := ep n (fun z => P z.1 z.2.1 z.2.2.1 z.2.2.2)
theorem ep4 {α0 α1 α2 α3 : Type} {P : α0 → α1 → α2 → α3 → Prop} (n : Nonempty (α0 × α1 × α2 × α3)) (k : Bx (P (qE4 n P).1 (qE4 n P).2.1 (qE4 n P).2.2.1 (qE4 n P).2.2.2)) : ∀ x0 x1 x2 x3, P x0 x1 x2 x3 := fun x0 x1 x2 x3 => ep_all (P := fun z => P z.1 z.2.1 z.2.2.1 z.2.2.2) n k.out (x0, x1, x2, x3)
abbrev KB4 {α0 α1 α2 α3 : Type} {P : α0 → α1 → α2 → α3 → Prop} (_ : ∀ x0 x1 x2 x3, Bx (P x0 x1 x2 x3)) : Prop := ∀ x0 x1 x2 x3, P x0 x1 x2 x3
noncomputable def qE5 {α0 α1 α2 α3 α4 : Type} (n : Nonempty (α0 × α1 × α2 × α3 × α4)) (P : α0 → α1 → α2 → α3 → α4 → Prop) : α0 × α1 × α2 × α3 × α4 := ep n (fun z => P z.1 z.2.1 z.2.2.1 z.2.2.2.1 z.2.2.2.2)
theorem ep5 {α0 α1 α2 α3 α4 : Type} {P : α0 → α1 → α2 → α3 → α4 → Prop} (n : Nonempty (α0 × α1 × α2 × α3 × α4)) (k : Bx (P (qE5 n P).1 (qE5 n P).2.1 (qE5 n P).2.2.1 (qE5 n P).2.2.2.1 (qE5 n P).2.2.2.2)) : ∀ x0 x1 x2 x3 x4, P x0 x1 x2 x3 x4 := fun x0 x1 x2 x3 x4 => ep_all (P := fun z => P z.1 z.2.1 z.2.2.1 z.2.2.2.1 z.2.2.2.2) n k.out (x0, x1, x2, x3, x4)
abbrev KB5 {α0 α1 α2 α3 α4 : Type} {P : α0 → α1 → α2 → α3 → α4 → Prop} (_ : ∀ x0 x1 x2 x3 x4, Bx (P x0 x1 x2 x3 x4)) : Prop := ∀ x0 x1 x2 x3 x4, P x0 x1 x2 x3 x4
noncomputable def qE6 {α0 α1 α2 α3 α4 α5 : Type} (n : Nonempty (α0 × α1 × α2 × α3 × α4 × α5)) (P : α0 → α1 → α2 → α3 → α4 → α5 → Prop) : α0 × α1 × α2 × α3 × α4 × α5 := ep n (fun z => P z.1 z.2.1 z.2.2.1 z.2.2.2.1 z.2.2.2.2.1 z.2.2.2.2.2)
theorem ep6 {α0 α1 α2 α3 α4 α5 : Type} {P : α0 → α1 → α2 → α3 → α4 → α5 → Prop} (n : Nonempty (α0 × α1 × α2 × α3 × α4 × α5)) (k : Bx (P (qE6 n P).1 (qE6 n P).2.1 (qE6 n P).2.2.1 (qE6 n P).2.2.2.1 (qE6 n P).2.2.2.2.1 (qE6 n P).2.2.2.2.2)) : ∀ x0 x1 x2 x3 x4 x5, P x0 x1 x2 x3 x4 x5 := fun x0 x1 x2 x3 x4 x5 => ep_all (P := fun z => P z.1 z.2.1 z.2.2.1 z.2.2.2.1 z.2.2.2.2.1 z.2.2.2.2.2) n k.out (x0, x1, x2, x3, x4, x5)
abbrev KB6 {α0 α1 α2 α3 α4 α5 : Type} {P : α0 → α1 → α2 → α3 → α4 → α5 → Prop} (_ : ∀ x0 x1 x2 x3 x4 x5, Bx (P x0 x1 x2 x3 x4 x5)) : Prop := ∀ x0 x1 x2 x3 x4 x5, P x0 x1 x2 x3 x4 x5
noncomputable def qE7 {α0 α1 α2 α3 α4 α5 α6 : Type} (n : Nonempty (α0 × α1 × α2 × α3 × α4 × α5 × α6)) (P : α0 → α1 → α2 → α3 → α4 → α5 → α6 → Prop) : α0 × α1 × α2 × α3 × α4 × α5 × α6 := ep n (fun z => P z.1 z.2.1 z.2.2.1 z.2.2.2.1 z.2.2.2.2.1 z.2.2.2.2.2.1 z.2.2.2.2.2.2)
theorem ep7 {α0 α1 α2 α3 α4 α5 α6 : Type} {P : α0 → α1 → α2 → α3 → α4 → α5 → α6 → Prop} (n : Nonempty (α0 × α1 × α2 × α3 × α4 × α5 × α6)) (k : Bx (P (qE7 n P).1 (qE7 n P).2.1 (qE7 n P).2.2.1 (qE7 n P).2.2.2.1 (qE7 n P).2.2.2.2.1 (qE7 n P).2.2.2.2.2.1 (qE7 n P).2.2.2.2.2.2)) : ∀ x0 x1 x2 x3 x4 x5 x6, P x0 x1 x2 x3 x4 x5 x6 := fun x0 x1 x2 x3 x4 x5 x6 => ep_all (P := fun z => P z.1 z.2.1 z.2.2.1 z.2.2.2.1 z.2.2.2.2.1 z.2.2.2.2.2.1 z.2.2.2.2.2.2) n k.out (x0, x1, x2, x3, x4, x5, x6)
abbrev KB7 {α0 α1 α2 α3 α4 α5 α6 : Type} {P : α0 → α1 → α2 → α3 → α4 → α5 → α6 → Prop} (_ : ∀ x0 x1 x2 x3 x4 x5 x6, Bx (P x0 x1 x2 x3 x4 x5 x6)) : Prop := ∀ x0 x1 x2 x3 x4 x5 x6, P x0 x1 x2 x3 x4 x5 x6
noncomputable def qE8 {α0 α1 α2 α3 α4 α5 α6 α7 : Type} (n : Nonempty (α0 × α1 × α2 × α3 × α4 × α5 × α6 × α7)) (P : α0 → α1 → α2 → α3 → α4 → α5 → α6 → α7 → Prop) : α0 × α1 × α2 × α3 × α4 × α5 × α6 × α7 := ep n (fun z => P z.1 z.2.1 z.2.2.1 z.2.2.2.1 z.2.2.2.2.1 z.2.2.2.2.2.1 z.2.2.2.2.2.2.1 z.2.2.2.2.2.2.2)
theorem ep8 {α0 α1 α2 α3 α4 α5 α6 α7 : Type} {P : α0 → α1 → α2 → α3 → α4 → α5 → α6 → α7 → Prop} (n : Nonempty (α0 × α1 × α2 × α3 × α4 × α5 × α6 × α7)) (k : Bx (P (qE8 n P).1 (qE8 n P).2.1 (qE8 n P).2.2.1 (qE8 n P).2.2.2.1 (qE8 n P).2.2.2.2.1 (qE8 n P).2.2.2.2.2.1 (qE8 n P).2.2.2.2.2.2.1 (qE8 n P).2.2.2.2.2.2.2)) : ∀ x0 x1 x2 x3 x4 x5 x6 x7, P x0 x1 x2 x3 x4 x5 x6 x7 := fun x0 x1 x2 x3 x4 x5 x6 x7 => ep_all (P := fun z => P z.1 z.2.1 z.2.2.1 z.2.2.2.1 z.2.2.2.2.1 z.2.2.2.2.2.1 z.2.2.2.2.2.2.1 z.2.2.2.2.2.2.2) n k.out (x0, x1, x2, x3, x4, x5, x6, x7)
abbrev KB8 {α0 α1 α2 α3 α4 α5 α6 α7 : Type} {P : α0 → α1 → α2 → α3 → α4 → α5 → α6 → α7 → Prop} (_ : ∀ x0 x1 x2 x3 x4 x5 x6 x7, Bx (P x0 x1 x2 x3 x4 x5 x6 x7)) : Prop := ∀ x0 x1 x2 x3 x4 x5 x6 x7, P x0 x1 x2 x3 x4 x5 x6 x7
noncomputable def qE9 {α0 α1 α2 α3 α4 α5 α6 α7 α8 : Type} (n : Nonempty (α0 × α1 × α2 × α3 × α4 × α5 × α6 × α7 × α8)) (P : α0 → α1 → α2 → α3 → α4 → α5 → α6 → α7 → α8 → Prop) : α0 × α1 × α2 × α3 × α4 × α5 × α6 × α7 × α8 := ep n (fun z => P z.1 z.2.1 z.2.2.1 z.2.2.2.1 z.2.2.2.2.1 z.2.2.2.2.2.1 z.2.2.2.2.2.2.1 z.2.2.2.2.2.2.2.1 z.2.2.2.2.2.2.2.2)
theorem ep9 {α0 α1 α2 α3 α4 α5 α6 α7 α8 : Type} {P : α0 → α1 → α2 → α3 → α4 → α5 → α6 → α7 → α8 → Prop} (n : Nonempty (α0 × α1 × α2 × α3 × α4 × α5 × α6 × α7 × α8)) (k : Bx (P (qE9 n P).1 (qE9 n P).2.1 (qE9 n P).2.2.1 (qE9 n P).2.2.2.1 (qE9 n P).2.2.2.2.1 (qE9 n P).2.2.2.2.2.1 (qE9 n P).2.2.2.2.2.2.1 (qE9 n P).2.2.2.2.2.2.2.1 (qE9 n P).2.2.2.2.2.2.2.2)) : ∀ x0 x1 x2 x3 x4 x5 x6 x7 x8, P x0 x1 x2 x3 x4 x5 x6 x7 x8 := fun x0 x1 x2 x3 x4 x5 x6 x7 x8 => ep_all (P := fun z => P z.1 z.2.1 z.2.2.1 z.2.2.2.1 z.2.2.2.2.1 z.2.2.2.2.2.1 z.2.2.2.2.2.2.1 z.2.2.2.2.2.2.2.1 z.2.2.2.2.2.2.2.2) n k.out (x0, x1, x2, x3, x4, x5, x6, x7, x8)
abbrev KB9 {α0 α1 α2 α3 α4 α5 α6 α7 α8 : Type} {P : α0 → α1 → α2 → α3 → α4 → α5 → α6 → α7 → α8 → Prop} (_ : ∀ x0 x1 x2 x3 x4 x5 x6 x7 x8, Bx (P x0 x1 x2 x3 x4 x5 x6 x7 x8)) : Prop := ∀ x0 x1 x2 x3 x4 x5 x6 x7 x8, P x0 x1 x2 x3 x4 x5 x6 x7 x8
noncomputable def qE10 {α0 α1 α2 α3 α4 α5 α6 α7 α8 α9 : Type} (n : Nonempty (α0 × α1 × α2 × α3 × α4 × α5 × α6 × α7 × α8 × α9)) (P : α0 → α1 → α2 → α3 → α4 → α5 → α6 → α7 → α8 → α9 → Prop) : α0 × α1 × α2 × α3 × α4 × α5 × α6 × α7 × α8 × α9 := ep n (fun z => P z.1 z.2.1 z.2.2.1 z.2.2.2.1 z.2.2.2.2.1 z.2.2.2.2.2.1 z.2.2.2.2.2.2.1 z.2.2.2.2.2.2.2.1 z.2.2.2.2.2.2.2.2.1 z.2.2.2.2.2.2.2.2.2)
theorem ep10 {α0 α1 α2 α3 α4 α5 α6 α7 α8 α9 : Type} {P : α0 → α1 → α2 → α3 → α4 → α5 → α6 → α7 → α8 → α9 → Prop} (n : Nonempty (α0 × α1 × α2 × α3 × α4 × α5 × α6 × α7 × α8 × α9)) (k : Bx (P (qE10 n P).1 (qE10 n P).2.1 (qE10 n P).2.2.1 (qE10 n P).2.2.2.1 (qE10 n P).2.2.2.2.1 (qE10 n P).2.2.2.2.2.1 (qE10 n P).2.2.2.2.2.2.1 (qE10 n P).2.2.2.2.2.2.2.1 (qE10 n P).2.2.2.2.2.2.2.2.1 (qE10 n P).2.2.2.2.2.2.2.2.2)) : ∀ x0 x1 x2 x3 x4 x5 x6 x7 x8 x9, P x0 x1 x2 x3 x4 x5 x6 x7 x8 x9 := fun x0 x1 x2 x3 x4 x5 x6 x7 x8 x9 => ep_all (P := fun z => P z.1 z.2.1 z.2.2.1 z.2.2.2.1 z.2.2.2.2.1 z.2.2.2.2.2.1 z.2.2.2.2.2.2.1 z.2.2.2.2.2.2.2.1 z.2.2.2.2.2.2.2.2.1 z.2.2.2.2.2.2.2.2.2) n k.out (x0, x1, x2, x3, x4, x5, x6, x7, x8, x9)
abbrev KB10 {α0 α1 α2 α3 α4 α5 α6 α7 α8 α9 : Type} {P : α0 → α1 → α2 → α3 → α4 → α5 → α6 → α7 → α8 → α9 → Prop} (_ : ∀ x0 x1 x2 x3 x4 x5 x6 x7 x8 x9, Bx (P x0 x1 x2 x3 x4 x5 x6 x7 x8 x9)) : Prop := ∀ x0 x1 x2 x3 x4 x5 x6 x7 x8 x9, P x0 x1 x2 x3 x4 x5 x6 x7 x8 x9
noncomputable def qE11 {α0 α1 α2 α3 α4 α5 α6 α7 α8 α9 α10 : Type} (n : Nonempty (α0 × α1 × α2 × α3 × α4 × α5 × α6 × α7 × α8 × α9 × α10)) (P : α0 → α1 → α2 → α3 → α4 → α5 → α6 → α7 → α8 → α9 → α10 → Prop) : α0 × α1 × α2 × α3 × α4 × α5 × α6 × α7 × α8 × α9 × α10 := ep n (fun z => P z.1 z.2.1 z.2.2.1 z.2.2.2.1 z.2.2.2.2.1 z.2.2.2.2.2.1 z.2.2.2.2.2.2.1 z.2.2.2.2.2.2.2.1 z.2.2.2.2.2.2.2.2.1 z.2.2.2.2.2.2.2.2.2.1 z.2.2.2.2.2.2.2.2.2.2)
theorem ep11 {α0 α1 α2 α3 α4 α5 α6 α7 α8 α9 α10 : Type} {P : α0 → α1 → α2 → α3 → α4 → α5 → α6 → α7 → α8 → α9 → α10 → Prop} (n : Nonempty (α0 × α1 × α2 × α3 × α4 × α5 × α6 × α7 × α8 × α9 × α10)) (k : Bx (P (qE11 n P).1 (qE11 n P).2.1 (qE11 n P).2.2.1 (qE11 n P).2.2.2.1 (qE11 n P).2.2.2.2.1 (qE11 n P).2.2.2.2.2.1 (qE11 n P).2.2.2.2.2.2.1 (qE11 n P).2.2.2.2.2.2.2.1 (qE11 n P).2.2.2.2.2.2.2.2.1 (qE11 n P).2.2.2.2.2.2.2.2.2.1 (qE11 n P).2.2.2.2.2.2.2.2.2.2)) : ∀ x0 x1 x2 x3 x4 x5 x6 x7 x8 x9 x10, P x0 x1 x2 x3 x4 x5 x6 x7 x8 x9 x10 := fun x0 x1 x2 x3 x4 x5 x6 x7 x8 x9 x10 => ep_all (P := fun z => P z.1 z.2.1 z.2.2.1 z.2.2.2.1 z.2.2.2.2.1 z.2.2.2.2.2.1 z.2.2.2.2.2.2.1 z.2.2.2.2.2.2.2.1 z.2.2.2.2.2.2.2.2.1 z.2.2.2.2.2.2.2.2.2.1 z.2.2.2.2.2.2.2.2.2.2) n k.out (x0, x1, x2, x3, x4, x5, x6, x7, x8, x9, x10)
abbrev KB11 {α0 α1 α2 α3 α4 α5 α6 α7 α8 α9 α10 : Type} {P : α0 → α1 → α2 → α3 → α4 → α5 → α6 → α7 → α8 → α9 → α10 → Prop} (_ : ∀ x0 x1 x2 x3 x4 x5 x6 x7 x8 x9 x10, Bx (P x0 x1 x2 x3 x4 x5 x6 x7 x8 x9 x10)) : Prop := ∀ x0 x1 x2 x3 x4 x5 x6 x7 x8 x9 x10, P x0 x1 x2 x3 x4 x5 x6 x7 x8 x9 x10
noncomputable def qE12 {α0 α1 α2 α3 α4 α5 α6 α7 α8 α9 α10 α11 : Type} (n : Nonempty (α0 × α1 × α2 × α3 × α4 × α5 × α6 × α7 × α8 × α9 × α10 × α11)) (P : α0 → α1 → α2 → α3 → α4 → α5 → α6 → α7 → α8 → α9 → α10 → α11 → Prop) : α0 × α1 × α2 × α3 × α4 × α5 × α6 × α7 × α8 × α9 × α10 × α11 := ep n (fun z => P z.1 z.2.1 z.2.2.1 z.2.2.2.1 z.2.2.2.2.1 z.2.2.2.2.2.1 z.2.2.2.2.2.2.1 z.2.2.2.2.2.2.2.1 z.2.2.2.2.2.2.2.2.1 z.2.2.2.2.2.2.2.2.2.1 z.2.2.2.2.2.2.2.2.2.2.1 z.2.2.2.2.2.2.2.2.2.2.2)
theorem ep12 {α0 α1 α2 α3 α4 α5 α6 α7 α8 α9 α10 α11 : Type} {P : α0 → α1 → α2 → α3 → α4 → α5 → α6 → α7 → α8 → α9 → α10 → α11 → Prop} (n : Nonempty (α0 × α1 × α2 × α3 × α4 × α5 × α6 × α7 × α8 × α9 × α10 × α11)) (k : Bx (P (qE12 n P).1 (qE12 n P).2.1 (qE12 n P).2.2.1 (qE12 n P).2.2.2.1 (qE12 n P).2.2.2.2.1 (qE12 n P).2.2.2.2.2.1 (qE12 n P).2.2.2.2.2.2.1 (qE12 n P).2.2.2.2.2.2.2.1 (qE12 n P).2.2.2.2.2.2.2.2.1 (qE12 n P).2.2.2.2.2.2.2.2.2.1 (qE12 n P).2.2.2.2.2.2.2.2.2.2.1 (qE12 n P).2.2.2.2.2.2.2.2.2.2.2)) : ∀ x0 x1 x2 x3 x4 x5 x6 x7 x8 x9 x10 x11, P x0 x1 x2 x3 x4 x5 x6 x7 x8 x9 x10 x11 := fun x0 x1 x2 x3 x4 x5 x6 x7 x8 x9 x10 x11 => ep_all (P := fun z => P z.1 z.2.1 z.2.2.1 z.2.2.2.1 z.2.2.2.2.1 z.2.2.2.2.2.1 z.2.2.2.2.2.2.1 z.2.2.2.2.2.2.2.1 z.2.2.2.2.2.2.2.2.1 z.2.2.2.2.2.2.2.2.2.1 z.2.2.2.2.2.2.2.2.2.2.1 z.2.2.2.2.2.2.2.2.2.2.2) n k.out (x0, x1, x2, x3, x4, x5, x6, x7, x8, x9, x10, x11)
abbrev KB12 {α0 α1 α2 α3 α4 α5 α6 α7 α8 α9 α10 α11 : Type} {P : α0 → α1 → α2 → α3 → α4 → α5 → α6 → α7 → α8 → α9 → α10 → α11 → Prop} (_ : ∀ x0 x1 x2 x3 x4 x5 x6 x7 x8 x9 x10 x11, Bx (P x0 x1 x2 x3 x4 x5 x6 x7 x8 x9 x10 x11)) : Prop := ∀ x0 x1 x2 x3 x4 x5 x6 x7 x8 x9 x10 x11, P x0 x1 x2 x3 x4 x5 x6 x7 x8 x9 x10 x11
noncomputable def qE13 {α0 α1 α2 α3 α4 α5 α6 α7 α8 α9 α10 α11 α12 : Type} (n : Nonempty (α0 × α1 × α2 × α3 × α4 × α5 × α6 × α7 × α8 × α9 × α10 × α11 × α12)) (P : α0 → α1 → α2 → α3 → α4 → α5 → α6 → α7 → α8 → α9 → α10 → α11 → α12 → Prop) : α0 × α1 × α2 × α3 × α4 × α5 × α6 × α7 × α8 × α9 × α10 × α11 × α12 := ep n (fun z => P z.1 z.2.1 z.2.2.1 z.2.2.2.1 z.2.2.2.2.1 z.2.2.2.2.2.1 z.2.2.2.2.2.2.1 z.2.2.2.2.2.2.2.1 z.2.2.2.2.2.2.2.2.1 z.2.2.2.2.2.2.2.2.2.1 z.2.2.2.2.2.2.2.2.2.2.1 z.2.2.2.2.2.2.2.2.2.2.2.1 z.2.2.2.2.2.2.2.2.2.2.2.2)
theorem ep13 {α0 α1 α2 α3 α4 α5 α6 α7 α8 α9 α10 α11 α12 : Type} {P : α0 → α1 → α2 → α3 → α4 → α5 → α6 → α7 → α8 → α9 → α10 → α11 → α12 → Prop} (n : Nonempty (α0 × α1 × α2 × α3 × α4 × α5 × α6 × α7 × α8 × α9 × α10 × α11 × α12)) (k : Bx (P (qE13 n P).1 (qE13 n P).2.1 (qE13 n P).2.2.1 (qE13 n P).2.2.2.1 (qE13 n P).2.2.2.2.1 (qE13 n P).2.2.2.2.2.1 (qE13 n P).2.2.2.2.2.2.1 (qE13 n P).2.2.2.2.2.2.2.1 (qE13 n P).2.2.2.2.2.2.2.2.1 (qE13 n P).2.2.2.2.2.2.2.2.2.1 (qE13 n P).2.2.2.2.2.2.2.2.2.2.1 (qE13 n P).2.2.2.2.2.2.2.2.2.2.2.1 (qE13 n P).2.2.2.2.2.2.2.2.2.2.2.2)) : ∀ x0 x1 x2 x3 x4 x5 x6 x7 x8 x9 x10 x11 x12, P x0 x1 x2 x3 x4 x5 x6 x7 x8 x9 x10 x11 x12 := fun x0 x1 x2 x3 x4 x5 x6 x7 x8 x9 x10 x11 x12 => ep_all (P := fun z => P z.1 z.2.1 z.2.2.1 z.2.2.2.1 z.2.2.2.2.1 z.2.2.2.2.2.1 z.2.2.2.2.2.2.1 z.2.2.2.2.2.2.2.1 z.2.2.2.2.2.2.2.2.1 z.2.2.2.2.2.2.2.2.2.1 z.2.2.2.2.2.2.2.2.2.2.1 z.2.2.2.2.2.2.2.2.2.2.2.1 z.2.2.2.2.2.2.2.2.2.2.2.2) n k.out (x0, x1, x2, x3, x4, x5, x6, x7, x8, x9, x10, x11, x12)
abbrev KB13 {α0 α1 α2 α3 α4 α5 α6 α7 α8 α9 α10 α11 α12 : Type} {P : α0 → α1 → α2 → α3 → α4 → α5 → α6 → α7 → α8 → α9 → α10 → α11 → α12 → Prop} (_ : ∀ x0 x1 x2 x3 x4 x5 x6 x7 x8 x9 x10 x11 x12, Bx (P x0 x1 x2 x3 x4 x5 x6 x7 x8 x9 x10 x11 x12)) : Prop := ∀ x0 x1 x2 x3 x4 x5 x6 x7 x8 x9 x10 x11 x12, P x0 x1 x2 x3 x4 x5 x6 x7 x8 x9 x10 x11 x12
noncomputable def qE14 {α0 α1 α2 α3 α4 α5 α6 α7 α8 α9 α10 α11 α12 α13 : Type} (n : Nonempty (α0 × α1 × α2 × α3 × α4 × α5 × α6 × α7 × α8 × α9 × α10 × α11 × α12 × α13)) (P : α0 → α1 → α2 → α3 → α4 → α5 → α6 → α7 → α8 → α9 → α10 → α11 → α12 → α13 → Prop) : α0 × α1 × α2 × α3 × α4 × α5 × α6 × α7 × α8 × α9 × α10 × α11 × α12 × α13 := ep n (fun z => P z.1 z.2.1 z.2.2.1 z.2.2.2.1 z.2.2.2.2.1 z.2.2.2.2.2.1 z.2.2.2.2.2.2.1 z.2.2.2.2.2.2.2.1 z.2.2.2.2.2.2.2.2.1 z.2.2.2.2.2.2.2.2.2.1 z.2.2.2.2.2.2.2.2.2.2.1 z.2.2.2.2.2.2.2.2.2.2.2.1 z.2.2.2.2.2.2.2.2.2.2.2.2.1 z.2.2.2.2.2.2.2.2.2.2.2.2.2)
theorem ep14 {α0 α1 α2 α3 α4 α5 α6 α7 α8 α9 α10 α11 α12 α13 : Type} {P : α0 → α1 → α2 → α3 → α4 → α5 → α6 → α7 → α8 → α9 → α10 → α11 → α12 → α13 → Prop} (n : Nonempty (α0 × α1 × α2 × α3 × α4 × α5 × α6 × α7 × α8 × α9 × α10 × α11 × α12 × α13)) (k : Bx (P (qE14 n P).1 (qE14 n P).2.1 (qE14 n P).2.2.1 (qE14 n P).2.2.2.1 (qE14 n P).2.2.2.2.1 (qE14 n P).2.2.2.2.2.1 (qE14 n P).2.2.2.2.2.2.1 (qE14 n P).2.2.2.2.2.2.2.1 (qE14 n P).2.2.2.2.2.2.2.2.1 (qE14 n P).2.2.2.2.2.2.2.2.2.1 (qE14 n P).2.2.2.2.2.2.2.2.2.2.1 (qE14 n P).2.2.2.2.2.2.2.2.2.2.2.1 (qE14 n P).2.2.2.2.2.2.2.2.2.2.2.2.1 (qE14 n P).2.2.2.2.2.2.2.2.2.2.2.2.2)) : ∀ x0 x1 x2 x3 x4 x5 x6 x7 x8 x9 x10 x11 x12 x13, P x0 x1 x2 x3 x4 x5 x6 x7 x8 x9 x10 x11 x12 x13 := fun x0 x1 x2 x3 x4 x5 x6 x7 x8 x9 x10 x11 x12 x13 => ep_all (P := fun z => P z.1 z.2.1 z.2.2.1 z.2.2.2.1 z.2.2.2.2.1 z.2.2.2.2.2.1 z.2.2.2.2.2.2.1 z.2.2.2.2.2.2.2.1 z.2.2.2.2.2.2.2.2.1 z.2.2.2.2.2.2.2.2.2.1 z.2.2.2.2.2.2.2.2.2.2.1 z.2.2.2.2.2.2.2.2.2.2.2.1 z.2.2.2.2.2.2.2.2.2.2.2.2.1 z.2.2.2.2.2.2.2.2.2.2.2.2.2) n k.out (x0, x1, x2, x3, x4, x5, x6, x7, x8, x9, x10, x11, x12, x13)
abbrev KB14 {α0 α1 α2 α3 α4 α5 α6 α7 α8 α9 α10 α11 α12 α13 : Type} {P : α0 → α1 → α2 → α3 → α4 → α5 → α6 → α7 → α8 → α9 → α10 → α11 → α12 → α13 → Prop} (_ : ∀ x0 x1 x2 x3 x4 x5 x6 x7 x8 x9 x10 x11 x12 x13, Bx (P x0 x1 x2 x3 x4 x5 x6 x7 x8 x9 x10 x11 x12 x13)) : Prop := ∀ x0 x1 x2 x3 x4 x5 x6 x7 x8 x9 x10 x11 x12 x13, P x0 x1 x2 x3 x4 x5 x6 x7 x8 x9 x10 x11 x12 x13
theorem fold2 {α : Type} {M : Model} {A : PySem.Around} {x : Sem α} {Q : α → Shared → Prop} {E : Value → Shared → Prop} {s : Shared} (k : let q := Q; let e := E; wpAny M A x q e s) : wpAny M A x Q E s := k
def QIs {α : Type} (Q q : α → Shared → Prop) : Prop := Q = q
theorem foldQ {α : Type} {M : Model} {A : PySem.Around} {x : Sem α} {Q : α → Shared → Prop} {E : Value → Shared → Prop} {s : Shared} (k : ∀ (q : α → Shared → Prop), QIs Q q → wpAny M A x q E s) : wpAny M A x Q E s := k Q rfl
theorem unfoldQ {α : Type} {Q q : α → Shared → Prop} {v : α} {s : Shared} (hq : QIs Q q) (h : Q v s) : q v s := (show Q = q from hq) ▸ h
end Mine
end
section
open PySem PySem.W PyProof.Rows PySem.Calls
namespace Mine
theorem sub_cons {p : Addr × Obj} {r all : List (Addr × Obj)} (h : p ∈ all) (t : ∀ q ∈ r, q ∈ all) : ∀ q ∈ p :: r, q ∈ all := fun q hq => by
  rcases List.mem_cons.mp hq with rfl | hq
  · exact h
  · exact t q hq
inductive RV where | none | bool (b : Bool) | int (i : Int) | bytes (b : Array UInt8)
deriving DecidableEq
def RV.Is : RV → Value → Prop
  | .none, v => v = .none
  | .bool b, v => v = .bool b
  | .int i, v => ∃ t, v = .int i t
  | .bytes b, v => ∃ t, v = .bytes b t
def RVs : List RV → List Value → Prop
  | [], [] => True
  | x :: xs, v :: vs => x.Is v ∧ RVs xs vs
  | _, _ => False
theorem RVs.length : ∀ {xs : List RV} {vs : List Value}, RVs xs vs → vs.length = xs.length
  | [], [], _ => rfl
  | _ :: _, _ :: _, h => by simp [RVs.length h.2]
  | [], _ :: _, h => h.elim
  | _ :: _, [], h => h.elim
theorem RVs.getD : ∀ {xs : List RV} {vs : List Value} (i : Nat), RVs xs vs → (xs.getD i .none).Is (vs.getD i .none)
  | [], [], _, _ => rfl
  | _ :: _, _ :: _, 0, h => h.1
  | _ :: _, _ :: _, i + 1, h => by simpa using RVs.getD i h.2
  | [], _ :: _, _, h => h.elim
  | _ :: _, [], _, h => h.elim
theorem RVs.set : ∀ {xs : List RV} {vs : List Value} (i : Nat) {x : RV} {v : Value}, RVs xs vs → x.Is v → RVs (xs.set i x) (vs.set i v)
  | [], [], _, _, _, _, _ => trivial
  | _ :: _, _ :: _, 0, _, _, h, hx => ⟨hx, h.2⟩
  | _ :: _, _ :: _, i + 1, _, _, h, hx => ⟨h.1, RVs.set i h.2 hx⟩
  | [], _ :: _, _, _, _, h, _ => h.elim
  | _ :: _, [], _, _, _, h, _ => h.elim
theorem RVs.append : ∀ {xs ys : List RV} {vs us : List Value}, RVs xs vs → RVs ys us → RVs (xs ++ ys) (vs ++ us)
  | [], _, [], _, _, h => h
  | _ :: _, _, _ :: _, _, h, k => ⟨h.1, RVs.append h.2 k⟩
  | [], _, _ :: _, _, h, _ => h.elim
  | _ :: _, _, [], _, h, _ => h.elim
theorem RVs.take : ∀ {xs : List RV} {vs : List Value} (i : Nat), RVs xs vs → RVs (xs.take i) (vs.take i)
  | [], [], _, _ => by simp [RVs]
  | _ :: _, _ :: _, 0, _ => trivial
  | _ :: _, _ :: _, i + 1, h => ⟨h.1, RVs.take i h.2⟩
  | [], _ :: _, _, h => h.elim
  | _ :: _, [], _, h => h.elim
def isFalse : RV → Bool
  | .none => true
  | .bool b => !b
  | _ => false
theorem q_int {Q : Value → Shared → Prop} {x y : Int} {t : Tok} {s : Shared} (e : y = x) (h : Q (.int x t) s) : Q (.int y t) s := e ▸ h
theorem q_bool {Q : Value → Shared → Prop} {x y : Bool} {s : Shared} (e : y = x) (h : Q (.bool x) s) : Q (.bool y) s := e ▸ h
theorem and511 (x : Int) : Builtin.bitAnd x 511 = x % 512 := by
  by_cases hx : 0 ≤ x
  · rw [bitAnd_pp hx (by decide)]
    have h : x.toNat &&& (511 : Int).toNat = x.toNat % 512 := Nat.and_two_pow_sub_one_eq_mod x.toNat 9
    rw [h]
    omega
  · rw [bitAnd_np hx (by decide)]
    have h : (511 : Int).toNat &&& (Builtin.bitNot x).toNat = (Builtin.bitNot x).toNat % 512 := by
      rw [Nat.and_comm]
      exact Nat.and_two_pow_sub_one_eq_mod (Builtin.bitNot x).toNat 9
    rw [h]
    unfold Builtin.bitNot
    omega
theorem fdivK (x k : Int) (hk : 0 ≤ k) : Int.fdiv x k = x / k := Int.fdiv_eq_ediv_of_nonneg x hk
theorem fmodK (x k : Int) (hk : 0 ≤ k) : Int.fmod x k = x % k := Int.fmod_eq_emod_of_nonneg x hk
theorem p6 : (2 : Int) ^ Int.toNat 6 = 64 := by decide
theorem p14 : (2 : Int) ^ Int.toNat 14 = 16384 := by decide
theorem p23 : (2 : Int) ^ Int.toNat 23 = 8388608 := by decide
theorem and256s (x : Int) (h0 : 0 ≤ x) (h1 : x < 256) : Builtin.bitAnd x 256 = 0 := by
  rw [bitAnd_pp h0 (by decide)]
  have h : ∀ n : Fin 256, n.val &&& 256 = 0 := by decide +kernel
  have := h ⟨x.toNat, by omega⟩
  show ((x.toNat &&& 256 : Nat) : Int) = 0
  rw [this]; rfl
theorem and256b (x : Int) (h0 : 256 ≤ x) (h1 : x < 512) : Builtin.bitAnd x 256 = 256 := by
  rw [bitAnd_pp (by omega) (by decide)]
  have h : ∀ n : Fin 256, (n.val + 256) &&& 256 = 256 := by decide +kernel
  have := h ⟨x.toNat - 256, by omega⟩
  have e : x.toNat - 256 + 256 = x.toNat := by omega
  simp only [e] at this
  show ((x.toNat &&& 256 : Nat) : Int) = 256
  rw [this]; rfl
section
variable {prog : Program} {w : World} {A : Around} {E : Value → Shared → Prop} {s : Shared} {h₀ : Heap} {L D : Addr} {m : Str → Option Value} {news news' : List (Addr × Obj)} {vs : List Value} {n : Nat} {k : Int} {t u : Tok} {v : Value}
theorem kv_set {Q : Unit → Shared → Prop} (F : Fr h₀ L s.heap m) (N : News h₀ L s.heap news) (U : Upd D (listOf vs.toArray n) (listOf (vs.set k.toNat v).toArray n) news news') (h0 : 0 ≤ k) (h1 : k < vs.length) (hfit : k < 2 ^ 63)
    (h : ∀ h', Fr h₀ L h' m → News h₀ L h' news' → Q () { s with heap := h' }) : wpAny (model prog w) A (setItem (.ref D) (.int k t) v) Q E s := by
  obtain ⟨pre, post, rfl, rfl, a, b⟩ := U.split
  have z := N (D, listOf vs.toArray n) (List.mem_append.mpr (.inr (.head _)))
  have hs : vs.toArray.size = vs.length := by rw [List.size_toArray]
  refine ki_setAt z.1 h0 hfit (by omega) (h _ (F.change (Heap.SameBut.update ..) z.2.1 z.2.2) (ki_turn _ N a b ?_ ?_))
  · show vs.toArray.setIfInBounds k.toNat v = (vs.set k.toNat v).toArray
    apply Array.toList_inj.mp
    simp
  · simp
theorem kv_at (h0 : 0 ≤ k) (h1 : k < vs.length) : vs.toArray[k.toNat]? = some (vs.getD k.toNat .none) := by
  have : k.toNat < vs.length := by omega
  simp [this]
theorem kv_get {Q : Value → Shared → Prop} (N : News h₀ L s.heap news) (hm : (D, listOf vs.toArray n) ∈ news) (h0 : 0 ≤ k) (h1 : k < vs.length) (hfit : k < 2 ^ 63) (h : Q (vs.getD k.toNat .none) s) :
    wpAny (model prog w) A (getItem (.ref D) (.int k u)) Q E s := wpAny_getItem_list (PySem.IsL.isList (n := n) (N _ hm).1) h0 hfit (kv_at h0 h1) h
theorem kv_sub {value slice : PySem.Expr} {Q : Value → Shared → Prop} (N : News h₀ L s.heap news) (hm : (D, listOf vs.toArray n) ∈ news) (h0 : 0 ≤ k) (h1 : k < vs.length) (hfit : k < 2 ^ 63) (h : Q (vs.getD k.toNat .none) s)
    (hs : subscripted slice false (.ref D) (.int k u) = operate [.ref D, .int k u] (getItem (.ref D) (.int k u)) := by with_unfolding_all rfl) :
    wpAny (model prog w) A (subscriptTail value slice (.ref D) (.int k u)) Q E s :=
  tail_any (PySem.IsL.isList (n := n) (N _ hm).1).typeIs slot_list_getitem.lookup (kv_get N hm h0 h1 hfit h) hs
end
section
variable {prog : Program} {w : World} {A : Around} {E : Value → Shared → Prop} {s : Shared} {env : Env} {h₀ : Heap} {x : Str} {body : List Stmt} {Q : Flow → Shared → Prop} {I : Addr}
theorem unrPost_mono {L : Addr} {s₁ : Shared} {it : Obj} {r r' : (Str → Option Value) → List (Addr × Obj) → Prop} (h : ∀ m n, r m n → r' m n) (f : Flow) (s₂ : Shared) (k : UnrPost h₀ L s₁ I it r Q f s₂) : UnrPost h₀ L s₁ I it r' Q f s₂ := by
  have e : UnrEnd h₀ L s₁ I it r s₂ → UnrEnd h₀ L s₁ I it r' s₂ := by
    rintro ⟨h', tk, m', n', a, b, c, d, e⟩
    exact ⟨h', tk, m', n', a, b, c, d, h _ _ e⟩
  cases f with
  | ret v => exact k
  | brk => exact k
  | next => exact e k
  | cont => exact e k
theorem rangeRest_of {a : Int} {n : Nat} (J : Nat → (Str → Option Value) → List (Addr × Obj) → Prop)
    (turn : ∀ i m news t h tk, i < n → J i m news → Fr h₀ env.locals h (fun y => if y = x then some (.int (a + (i : Int)) t) else m y) → News h₀ env.locals h ((I, itR (a + ((i + 1 : Nat) : Int)) ((n : Int) - ((i + 1 : Nat) : Int))) :: news) →
      wpAny (model prog w) A (execs body env) (UnrPost h₀ env.locals { s with heap := h, toks := tk } I (itR (a + ((i + 1 : Nat) : Int)) ((n : Int) - ((i + 1 : Nat) : Int))) (J (i + 1)) Q) E { s with heap := h, toks := tk })
    (done : ∀ m news h tk, J n m news → Fr h₀ env.locals h m → News h₀ env.locals h news → Q .next { s with heap := h, toks := tk }) :
    ∀ (k i : Nat) (m : Str → Option Value) (news : List (Addr × Obj)), i + k = n → J i m news → RangeRest prog w A E h₀ env x body Q s I a n k i m news
  | 0, i, m, news, e, hj => fun h tk F N => done m news h tk (by rw [Nat.add_zero] at e; exact e ▸ hj) F N
  | k + 1, i, m, news, e, hj => fun t h tk F N => wpAny_mono (turn i m news t h tk (by omega) hj F N) (fun f s₂ p => unrPost_mono (fun m' n' q => rangeRest_of J turn done k (i + 1) m' n' (by omega) q) f s₂ p) fun _ _ e => e
theorem listRest_of {lp : Addr × Obj} (J : List Value → (Str → Option Value) → List (Addr × Obj) → Prop)
    (turn : ∀ v r m news it h tk, it.cls = .type "list_iterator" → J (v :: r) m news → Fr h₀ env.locals h (fun y => if y = x then some v else m y) → News h₀ env.locals h ((I, it) :: news) →
      wpAny (model prog w) A (execs body env) (UnrPost h₀ env.locals { s with heap := h, toks := tk } I it (fun m' n' => lp ∈ n' ∧ J r m' n') Q) E { s with heap := h, toks := tk })
    (done : ∀ m news h tk, J [] m news → Fr h₀ env.locals h m → News h₀ env.locals h news → Q .next { s with heap := h, toks := tk }) :
    ∀ (vs : List Value) (m : Str → Option Value) (news : List (Addr × Obj)), J vs m news → ListRest prog w A E h₀ env x body Q s I lp vs m news
  | [], m, news, hj => fun h tk F N => done m news h tk hj F N
  | v :: r, m, news, hj => fun it h tk hit F N => wpAny_mono (turn v r m news it h tk hit hj F N) (fun f s₂ p => unrPost_mono (fun m' n' q => ⟨q.1, listRest_of J turn done r m' n' q.2⟩) f s₂ p) fun _ _ e => e
end
end Mine
end
section
namespace Mine
def stm (i : Nat) : Stmt := (PySem.Challenge.pw_pc0174_01).main.body.getD i (.Pass ⟨0, 0, 0, 0⟩)
def sub (j : Nat) : Stmt → Stmt
  | .ClassDef _ _ _ bd _ _ _ _ _ _ _ => bd.getD j (.Pass ⟨0, 0, 0, 0⟩)
  | s => s
abbrev fnO {n : Str} {ar : Arguments} {bd : List Stmt} {ds : List PySem.Expr} {re : Option PySem.Expr} {tp : List TypeParam} {sc : Scope} {ts : Option Scope} {bi : Str} {ps : Pos} (st : Stmt) (_ : st = Stmt.FunctionDef n ar bd ds re tp sc ts bi ps) (f : Arguments → List Stmt → Scope → Obj) : Obj := f ar bd sc
noncomputable def o2 (P : Params) : Obj := Obj.mk Value.none none (Data.dict #[DictEntry.mk (PyData.keyHash P (Str.ofString "type.__subclasses__.Exception.0")) (Value.str (Str.ofString "type.__subclasses__.Exception.0") 353) (Value.int 116 0), DictEntry.mk (PyData.keyHash P (Str.ofString "type.__subclasses__.Exception.n")) (Value.str (Str.ofString "type.__subclasses__.Exception.n") 354) (Value.int 2 0), DictEntry.mk (PyData.keyHash P (Str.ofString "type.__subclasses__.Exception.1")) (Value.str (Str.ofString "type.__subclasses__.Exception.1") 382) (Value.int 136 0)] 3) #[]
noncomputable def o3 (P : Params) : Obj := Obj.mk (Value.type "dict") none (Data.dict #[DictEntry.mk (PyData.keyHash P (Str.ofString "__name__")) (Value.str (Str.ofString "__name__") 165) (Value.str (Str.ofString "law_pc0174_01") 980), DictEntry.mk (PyData.keyHash P (Str.ofString "__doc__")) (Value.str (Str.ofString "__doc__") 166) Value.none, DictEntry.mk (PyData.keyHash P (Str.ofString "__package__")) (Value.str (Str.ofString "__package__") 167) Value.none, DictEntry.mk (PyData.keyHash P (Str.ofString "__loader__")) (Value.str (Str.ofString "__loader__") 168) (Value.builtin "__main__.__loader__#opaque"), DictEntry.mk (PyData.keyHash P (Str.ofString "__spec__")) (Value.str (Str.ofString "__spec__") 169) Value.none, DictEntry.mk (PyData.keyHash P (Str.ofString "__annotations__")) (Value.str (Str.ofString "__annotations__") 170) (Value.ref 6), DictEntry.mk (PyData.keyHash P (Str.ofString "__builtins__")) (Value.str (Str.ofString "__builtins__") 171) (Value.ref 4), DictEntry.mk (PyData.keyHash P (Str.ofString "__file__")) (Value.str (Str.ofString "__file__") 173) (Value.str (Str.ofString "/claim/cut.py") 172), DictEntry.mk (PyData.keyHash P (Str.ofString "__cached__")) (Value.str (Str.ofString "__cached__") 174) Value.none, DictEntry.mk (PyData.keyHash P (Str.ofString "_wall")) (Value.str (Str.ofString "_wall") 193) (Value.ref 21), DictEntry.mk (PyData.keyHash P (Str.ofString "A_AT")) (Value.str (Str.ofString "A_AT") 197) (Value.int 6 196), DictEntry.mk (PyData.keyHash P (Str.ofString "C_AT")) (Value.str (Str.ofString "C_AT") 199) (Value.int 14 198), DictEntry.mk (PyData.keyHash P (Str.ofString "B_AT")) (Value.str (Str.ofString "B_AT") 201) (Value.int 23 200), DictEntry.mk (PyData.keyHash P (Str.ofString "A_MASK")) (Value.str (Str.ofString "A_MASK") 203) (Value.int 255 202), DictEntry.mk (PyData.keyHash P (Str.ofString "C_MASK")) (Value.str (Str.ofString "C_MASK") 205) (Value.int 511 204), DictEntry.mk (PyData.keyHash P (Str.ofString "JUMP_ZERO")) (Value.str (Str.ofString "JUMP_ZERO") 207) (Value.int 131071 206), DictEntry.mk (PyData.keyHash P (Str.ofString "CONSTANT_BIT")) (Value.str (Str.ofString "CONSTANT_BIT") 209) (Value.int 256 208), DictEntry.mk (PyData.keyHash P (Str.ofString "op_of")) (Value.str (Str.ofString "op_of") 216) (Value.ref 28), DictEntry.mk (PyData.keyHash P (Str.ofString "a_of")) (Value.str (Str.ofString "a_of") 223) (Value.ref 35), DictEntry.mk (PyData.keyHash P (Str.ofString "b_of")) (Value.str (Str.ofString "b_of") 230) (Value.ref 42), DictEntry.mk (PyData.keyHash P (Str.ofString "c_of")) (Value.str (Str.ofString "c_of") 237) (Value.ref 49), DictEntry.mk (PyData.keyHash P (Str.ofString "wide_of")) (Value.str (Str.ofString "wide_of") 244) (Value.ref 56), DictEntry.mk (PyData.keyHash P (Str.ofString "jump_of")) (Value.str (Str.ofString "jump_of") 251) (Value.ref 63), DictEntry.mk (PyData.keyHash P (Str.ofString "BLANKS")) (Value.str (Str.ofString "BLANKS") 255) (Value.bytes #[32, 9, 10, 11, 12, 13] 254), DictEntry.mk (PyData.keyHash P (Str.ofString "Limits")) (Value.str (Str.ofString "Limits") 326) (Value.ref 95), DictEntry.mk (PyData.keyHash P (Str.ofString "LuaError")) (Value.str (Str.ofString "LuaError") 356) (Value.ref 116), DictEntry.mk (PyData.keyHash P (Str.ofString "ApiError")) (Value.str (Str.ofString "ApiError") 385) (Value.ref 136), DictEntry.mk (PyData.keyHash P (Str.ofString "is_number")) (Value.str (Str.ofString "is_number") 392) (Value.ref 146), DictEntry.mk (PyData.keyHash P (Str.ofString "is_false")) (Value.str (Str.ofString "is_false") 399) (Value.ref 153), DictEntry.mk (PyData.keyHash P (Str.ofString "wrap")) (Value.str (Str.ofString "wrap") 408) (Value.ref 160), DictEntry.mk (PyData.keyHash P (Str.ofString "divide")) (Value.str (Str.ofString "divide") 417) (Value.ref 167), DictEntry.mk (PyData.keyHash P (Str.ofString "power")) (Value.str (Str.ofString "power") 428) (Value.ref 174), DictEntry.mk (PyData.keyHash P (Str.ofString "arith")) (Value.str (Str.ofString "arith") 439) (Value.ref 181), DictEntry.mk (PyData.keyHash P (Str.ofString "is_blank")) (Value.str (Str.ofString "is_blank") 446) (Value.ref 188), DictEntry.mk (PyData.keyHash P (Str.ofString "digit_of")) (Value.str (Str.ofString "digit_of") 453) (Value.ref 195), DictEntry.mk (PyData.keyHash P (Str.ofString "read_digits")) (Value.str (Str.ofString "read_digits") 464) (Value.ref 202), DictEntry.mk (PyData.keyHash P (Str.ofString "skip_blanks")) (Value.str (Str.ofString "skip_blanks") 472) (Value.ref 209), DictEntry.mk (PyData.keyHash P (Str.ofString "str_to_number")) (Value.str (Str.ofString "str_to_number") 480) (Value.ref 216), DictEntry.mk (PyData.keyHash P (Str.ofString "text_in_base")) (Value.str (Str.ofString "text_in_base") 494) (Value.ref 223), DictEntry.mk (PyData.keyHash P (Str.ofString "to_number")) (Value.str (Str.ofString "to_number") 502) (Value.ref 230), DictEntry.mk (PyData.keyHash P (Str.ofString "number_text")) (Value.str (Str.ofString "number_text") 511) (Value.ref 237), DictEntry.mk (PyData.keyHash P (Str.ofString "to_text")) (Value.str (Str.ofString "to_text") 518) (Value.ref 244), DictEntry.mk (PyData.keyHash P (Str.ofString "byte_float")) (Value.str (Str.ofString "byte_float") 526) (Value.ref 251), DictEntry.mk (PyData.keyHash P (Str.ofString "MADE")) (Value.str (Str.ofString "MADE") 530) (Value.int 0 529), DictEntry.mk (PyData.keyHash P (Str.ofString "NO_TEXTS")) (Value.str (Str.ofString "NO_TEXTS") 532) (Value.int 1 531), DictEntry.mk (PyData.keyHash P (Str.ofString "TOO_LONG")) (Value.str (Str.ofString "TOO_LONG") 534) (Value.int 2 533), DictEntry.mk (PyData.keyHash P (Str.ofString "texts_below")) (Value.str (Str.ofString "texts_below") 546) (Value.ref 258), DictEntry.mk (PyData.keyHash P (Str.ofString "join_below")) (Value.str (Str.ofString "join_below") 552) (Value.ref 263), DictEntry.mk (PyData.keyHash P (Str.ofString "loop_numbers")) (Value.str (Str.ofString "loop_numbers") 560) (Value.ref 268), DictEntry.mk (PyData.keyHash P (Str.ofString "wrong_place")) (Value.str (Str.ofString "wrong_place") 569) (Value.ref 275), DictEntry.mk (PyData.keyHash P (Str.ofString "before_first")) (Value.str (Str.ofString "before_first") 578) (Value.ref 282), DictEntry.mk (PyData.keyHash P (Str.ofString "goes_on")) (Value.str (Str.ofString "goes_on") 587) (Value.ref 289), DictEntry.mk (PyData.keyHash P (Str.ofString "next_number")) (Value.str (Str.ofString "next_number") 598) (Value.ref 296), DictEntry.mk (PyData.keyHash P (Str.ofString "load")) (Value.str (Str.ofString "load") 613) (Value.ref 303), DictEntry.mk (PyData.keyHash P (Str.ofString "operand")) (Value.str (Str.ofString "operand") 623) (Value.ref 310), DictEntry.mk (PyData.keyHash P (Str.ofString "two_operands")) (Value.str (Str.ofString "two_operands") 634) (Value.ref 317), DictEntry.mk (PyData.keyHash P (Str.ofString "is_compared")) (Value.str (Str.ofString "is_compared") 642) (Value.ref 324), DictEntry.mk (PyData.keyHash P (Str.ofString "is_tested")) (Value.str (Str.ofString "is_tested") 650) (Value.ref 331), DictEntry.mk (PyData.keyHash P (Str.ofString "place_behind")) (Value.str (Str.ofString "place_behind") 659) (Value.ref 338), DictEntry.mk (PyData.keyHash P (Str.ofString "table_room")) (Value.str (Str.ofString "table_room") 666) (Value.ref 345), DictEntry.mk (PyData.keyHash P (Str.ofString "list_block")) (Value.str (Str.ofString "list_block") 679) (Value.ref 352), DictEntry.mk (PyData.keyHash P (Str.ofString "round_begun")) (Value.str (Str.ofString "round_begun") 690) (Value.ref 359), DictEntry.mk (PyData.keyHash P (Str.ofString "round_gone")) (Value.str (Str.ofString "round_gone") 700) (Value.ref 366), DictEntry.mk (PyData.keyHash P (Str.ofString "round_asked")) (Value.str (Str.ofString "round_asked") 709) (Value.ref 373), DictEntry.mk (PyData.keyHash P (Str.ofString "round_told")) (Value.str (Str.ofString "round_told") 717) (Value.ref 380), DictEntry.mk (PyData.keyHash P (Str.ofString "RECKONINGS")) (Value.str (Str.ofString "RECKONINGS") 727) (Value.ref 381), DictEntry.mk (PyData.keyHash P (Str.ofString "DIVIDING")) (Value.str (Str.ofString "DIVIDING") 729) (Value.int 3 728), DictEntry.mk (PyData.keyHash P (Str.ofString "RESTING")) (Value.str (Str.ofString "RESTING") 731) (Value.int 4 730), DictEntry.mk (PyData.keyHash P (Str.ofString "RAISING")) (Value.str (Str.ofString "RAISING") 733) (Value.int 5 732), DictEntry.mk (PyData.keyHash P (Str.ofString "DONE")) (Value.str (Str.ofString "DONE") 735) (Value.int 0 734), DictEntry.mk (PyData.keyHash P (Str.ofString "NO_NUMBERS")) (Value.str (Str.ofString "NO_NUMBERS") 737) (Value.int 1 736), DictEntry.mk (PyData.keyHash P (Str.ofString "BY_ZERO")) (Value.str (Str.ofString "BY_ZERO") 739) (Value.int 2 738), DictEntry.mk (PyData.keyHash P (Str.ofString "has_no_result")) (Value.str (Str.ofString "has_no_result") 748) (Value.ref 388), DictEntry.mk (PyData.keyHash P (Str.ofString "reckon")) (Value.str (Str.ofString "reckon") 760) (Value.ref 395), DictEntry.mk (PyData.keyHash P (Str.ofString "BACK")) (Value.str (Str.ofString "BACK") 764) (Value.str (Str.ofString "back") 763), DictEntry.mk (PyData.keyHash P (Str.ofString "STOPPED")) (Value.str (Str.ofString "STOPPED") 766) (Value.str (Str.ofString "stopped") 765), DictEntry.mk (PyData.keyHash P (Str.ofString "STEPS")) (Value.str (Str.ofString "STEPS") 768) (Value.str (Str.ofString "steps") 767), DictEntry.mk (PyData.keyHash P (Str.ofString "Works")) (Value.str (Str.ofString "Works") 807) (Value.ref 412), DictEntry.mk (PyData.keyHash P (Str.ofString "Stepper")) (Value.str (Str.ofString "Stepper") 979) (Value.ref 503), DictEntry.mk (PyData.keyHash P (Str.ofString "_law_numbers")) (Value.str (Str.ofString "_law_numbers") 1024) (Value.ref 508), DictEntry.mk (PyData.keyHash P (Str.ofString "_law_pool")) (Value.str (Str.ofString "_law_pool") 1035) (Value.ref 509), DictEntry.mk (PyData.keyHash P (Str.ofString "_law_constants")) (Value.str (Str.ofString "_law_constants") 1044) (Value.ref 510), DictEntry.mk (PyData.keyHash P (Str.ofString "_law_take")) (Value.str (Str.ofString "_law_take") 1053) (Value.ref 517), DictEntry.mk (PyData.keyHash P (Str.ofString "_law_grand")) (Value.str (Str.ofString "_law_grand") 1062) (Value.ref 524), DictEntry.mk (PyData.keyHash P (Str.ofString "_law_coded")) (Value.str (Str.ofString "_law_coded") 1075) (Value.ref 531), DictEntry.mk (PyData.keyHash P (Str.ofString "_law_works")) (Value.str (Str.ofString "_law_works") 1085) (Value.ref 538), DictEntry.mk (PyData.keyHash P (Str.ofString "_law_wrapped")) (Value.str (Str.ofString "_law_wrapped") 1094) (Value.ref 545), DictEntry.mk (PyData.keyHash P (Str.ofString "_law_number")) (Value.str (Str.ofString "_law_number") 1100) (Value.ref 550), DictEntry.mk (PyData.keyHash P (Str.ofString "_law_text")) (Value.str (Str.ofString "_law_text") 1107) (Value.ref 557), DictEntry.mk (PyData.keyHash P (Str.ofString "_law_reckoned")) (Value.str (Str.ofString "_law_reckoned") 1118) (Value.ref 564), DictEntry.mk (PyData.keyHash P (Str.ofString "_law_value")) (Value.str (Str.ofString "_law_value") 1126) (Value.ref 571), DictEntry.mk (PyData.keyHash P (Str.ofString "_law_made")) (Value.str (Str.ofString "_law_made") 1132) (Value.ref 576), DictEntry.mk (PyData.keyHash P (Str.ofString "_law_run")) (Value.str (Str.ofString "_law_run") 1149) (Value.ref 583), DictEntry.mk (PyData.keyHash P (Str.ofString "_law_rows")) (Value.str (Str.ofString "_law_rows") 1155) (Value.ref 588), DictEntry.mk (PyData.keyHash P (Str.ofString "law")) (Value.str (Str.ofString "law") 1161) (Value.ref 593)] 95) #[]
noncomputable def o15 (_ : Params) : Obj := Obj.mk (Value.type "tuple") none (Data.seq #[]) #[]
noncomputable def o17 (_ : Params) : Obj := Obj.mk (Value.type "tuple") none (Data.seq #[Value.str (Str.ofString "k") 190]) #[]
noncomputable def o18 (_ : Params) : Obj := Obj.mk (Value.type "tuple") none (Data.seq #[]) #[]
noncomputable def o20 (_ : Params) : Obj := Obj.mk (Value.type "code") none (Data.fields #[Value.str (Str.ofString "_wall") 187, Value.str (Str.ofString "_wall") 188, Value.str (Str.ofString "/claim/cut.py") 189, Value.int 1 0, Value.int 1 0, Value.int 0 0, Value.int 0 0, Value.int 3 0, Value.ref 15, Value.bool true, Value.int 181 0, Value.ref 16, Value.none, Value.ref 17, Value.ref 18, Value.ref 19, Value.int 191 0, Value.int 1 0, Value.str (Str.ofString "/claim/cut.py") 192]) #[]
noncomputable def o21 (_ : Params) : Obj := fnO (stm 0) (by with_unfolding_all rfl) fun ar bd sc => Obj.mk (Value.type "function") none (Data.func (FuncData.mk (Str.ofString "_wall") (Str.ofString "_wall") ar (FuncBody.stmts bd) sc 3 [] Value.none Value.none Value.none (Value.str (Str.ofString "__main__") 164) none (Value.ref 20) Value.none 0)) #[]
noncomputable def o22 (_ : Params) : Obj := Obj.mk (Value.type "tuple") none (Data.seq #[]) #[]
noncomputable def o24 (_ : Params) : Obj := Obj.mk (Value.type "tuple") none (Data.seq #[Value.str (Str.ofString "instruction") 213]) #[]
noncomputable def o25 (_ : Params) : Obj := Obj.mk (Value.type "tuple") none (Data.seq #[]) #[]
noncomputable def o27 (_ : Params) : Obj := Obj.mk (Value.type "code") none (Data.fields #[Value.str (Str.ofString "op_of") 210, Value.str (Str.ofString "op_of") 211, Value.str (Str.ofString "/claim/cut.py") 212, Value.int 12 0, Value.int 1 0, Value.int 0 0, Value.int 0 0, Value.int 3 0, Value.ref 22, Value.bool true, Value.int 181 0, Value.ref 23, Value.none, Value.ref 24, Value.ref 25, Value.ref 26, Value.int 214 0, Value.int 12 0, Value.str (Str.ofString "/claim/cut.py") 215]) #[]
noncomputable def o28 (_ : Params) : Obj := fnO (stm 9) (by with_unfolding_all rfl) fun ar bd sc => Obj.mk (Value.type "function") none (Data.func (FuncData.mk (Str.ofString "op_of") (Str.ofString "op_of") ar (FuncBody.stmts bd) sc 3 [] Value.none Value.none Value.none (Value.str (Str.ofString "lua.fields") 194) none (Value.ref 27) Value.none 0)) #[]
noncomputable def o29 (_ : Params) : Obj := Obj.mk (Value.type "tuple") none (Data.seq #[]) #[]
noncomputable def o31 (_ : Params) : Obj := Obj.mk (Value.type "tuple") none (Data.seq #[Value.str (Str.ofString "instruction") 220]) #[]
noncomputable def o32 (_ : Params) : Obj := Obj.mk (Value.type "tuple") none (Data.seq #[]) #[]
noncomputable def o34 (_ : Params) : Obj := Obj.mk (Value.type "code") none (Data.fields #[Value.str (Str.ofString "a_of") 217, Value.str (Str.ofString "a_of") 218, Value.str (Str.ofString "/claim/cut.py") 219, Value.int 14 0, Value.int 1 0, Value.int 0 0, Value.int 0 0, Value.int 3 0, Value.ref 29, Value.bool true, Value.int 181 0, Value.ref 30, Value.none, Value.ref 31, Value.ref 32, Value.ref 33, Value.int 221 0, Value.int 14 0, Value.str (Str.ofString "/claim/cut.py") 222]) #[]
noncomputable def o35 (_ : Params) : Obj := fnO (stm 10) (by with_unfolding_all rfl) fun ar bd sc => Obj.mk (Value.type "function") none (Data.func (FuncData.mk (Str.ofString "a_of") (Str.ofString "a_of") ar (FuncBody.stmts bd) sc 3 [] Value.none Value.none Value.none (Value.str (Str.ofString "lua.fields") 194) none (Value.ref 34) Value.none 0)) #[]
noncomputable def o36 (_ : Params) : Obj := Obj.mk (Value.type "tuple") none (Data.seq #[]) #[]
noncomputable def o38 (_ : Params) : Obj := Obj.mk (Value.type "tuple") none (Data.seq #[Value.str (Str.ofString "instruction") 227]) #[]
noncomputable def o39 (_ : Params) : Obj := Obj.mk (Value.type "tuple") none (Data.seq #[]) #[]
noncomputable def o41 (_ : Params) : Obj := Obj.mk (Value.type "code") none (Data.fields #[Value.str (Str.ofString "b_of") 224, Value.str (Str.ofString "b_of") 225, Value.str (Str.ofString "/claim/cut.py") 226, Value.int 16 0, Value.int 1 0, Value.int 0 0, Value.int 0 0, Value.int 3 0, Value.ref 36, Value.bool true, Value.int 181 0, Value.ref 37, Value.none, Value.ref 38, Value.ref 39, Value.ref 40, Value.int 228 0, Value.int 16 0, Value.str (Str.ofString "/claim/cut.py") 229]) #[]
noncomputable def o42 (_ : Params) : Obj := fnO (stm 11) (by with_unfolding_all rfl) fun ar bd sc => Obj.mk (Value.type "function") none (Data.func (FuncData.mk (Str.ofString "b_of") (Str.ofString "b_of") ar (FuncBody.stmts bd) sc 3 [] Value.none Value.none Value.none (Value.str (Str.ofString "lua.fields") 194) none (Value.ref 41) Value.none 0)) #[]
noncomputable def o43 (_ : Params) : Obj := Obj.mk (Value.type "tuple") none (Data.seq #[]) #[]
noncomputable def o45 (_ : Params) : Obj := Obj.mk (Value.type "tuple") none (Data.seq #[Value.str (Str.ofString "instruction") 234]) #[]
noncomputable def o46 (_ : Params) : Obj := Obj.mk (Value.type "tuple") none (Data.seq #[]) #[]
noncomputable def o48 (_ : Params) : Obj := Obj.mk (Value.type "code") none (Data.fields #[Value.str (Str.ofString "c_of") 231, Value.str (Str.ofString "c_of") 232, Value.str (Str.ofString "/claim/cut.py") 233, Value.int 18 0, Value.int 1 0, Value.int 0 0, Value.int 0 0, Value.int 3 0, Value.ref 43, Value.bool true, Value.int 181 0, Value.ref 44, Value.none, Value.ref 45, Value.ref 46, Value.ref 47, Value.int 235 0, Value.int 18 0, Value.str (Str.ofString "/claim/cut.py") 236]) #[]
noncomputable def o49 (_ : Params) : Obj := fnO (stm 12) (by with_unfolding_all rfl) fun ar bd sc => Obj.mk (Value.type "function") none (Data.func (FuncData.mk (Str.ofString "c_of") (Str.ofString "c_of") ar (FuncBody.stmts bd) sc 3 [] Value.none Value.none Value.none (Value.str (Str.ofString "lua.fields") 194) none (Value.ref 48) Value.none 0)) #[]
noncomputable def o50 (_ : Params) : Obj := Obj.mk (Value.type "tuple") none (Data.seq #[]) #[]
noncomputable def o52 (_ : Params) : Obj := Obj.mk (Value.type "tuple") none (Data.seq #[Value.str (Str.ofString "instruction") 241]) #[]
noncomputable def o53 (_ : Params) : Obj := Obj.mk (Value.type "tuple") none (Data.seq #[]) #[]
noncomputable def o55 (_ : Params) : Obj := Obj.mk (Value.type "code") none (Data.fields #[Value.str (Str.ofString "wide_of") 238, Value.str (Str.ofString "wide_of") 239, Value.str (Str.ofString "/claim/cut.py") 240, Value.int 20 0, Value.int 1 0, Value.int 0 0, Value.int 0 0, Value.int 3 0, Value.ref 50, Value.bool true, Value.int 181 0, Value.ref 51, Value.none, Value.ref 52, Value.ref 53, Value.ref 54, Value.int 242 0, Value.int 20 0, Value.str (Str.ofString "/claim/cut.py") 243]) #[]
noncomputable def o56 (_ : Params) : Obj := fnO (stm 13) (by with_unfolding_all rfl) fun ar bd sc => Obj.mk (Value.type "function") none (Data.func (FuncData.mk (Str.ofString "wide_of") (Str.ofString "wide_of") ar (FuncBody.stmts bd) sc 3 [] Value.none Value.none Value.none (Value.str (Str.ofString "lua.fields") 194) none (Value.ref 55) Value.none 0)) #[]
noncomputable def o57 (_ : Params) : Obj := Obj.mk (Value.type "tuple") none (Data.seq #[]) #[]
noncomputable def o59 (_ : Params) : Obj := Obj.mk (Value.type "tuple") none (Data.seq #[Value.str (Str.ofString "instruction") 248]) #[]
noncomputable def o60 (_ : Params) : Obj := Obj.mk (Value.type "tuple") none (Data.seq #[]) #[]
noncomputable def o62 (_ : Params) : Obj := Obj.mk (Value.type "code") none (Data.fields #[Value.str (Str.ofString "jump_of") 245, Value.str (Str.ofString "jump_of") 246, Value.str (Str.ofString "/claim/cut.py") 247, Value.int 22 0, Value.int 1 0, Value.int 0 0, Value.int 0 0, Value.int 3 0, Value.ref 57, Value.bool true, Value.int 181 0, Value.ref 58, Value.none, Value.ref 59, Value.ref 60, Value.ref 61, Value.int 249 0, Value.int 22 0, Value.str (Str.ofString "/claim/cut.py") 250]) #[]
noncomputable def o63 (_ : Params) : Obj := fnO (stm 14) (by with_unfolding_all rfl) fun ar bd sc => Obj.mk (Value.type "function") none (Data.func (FuncData.mk (Str.ofString "jump_of") (Str.ofString "jump_of") ar (FuncBody.stmts bd) sc 3 [] Value.none Value.none Value.none (Value.str (Str.ofString "lua.fields") 194) none (Value.ref 62) Value.none 0)) #[]
noncomputable def o71 (_ : Params) : Obj := Obj.mk (Value.type "tuple") none (Data.seq #[Value.int 64 268, Value.int 250 269, Value.int 60 270, Value.int 200 271, Value.int 40 272, Value.int 200 273, Value.int 2000 274, Value.int 50 275, Value.int 1000000000 276, Value.int 1000000 277]) #[]
noncomputable def o72 (_ : Params) : Obj := Obj.mk (Value.type "tuple") none (Data.seq #[]) #[]
noncomputable def o74 (_ : Params) : Obj := Obj.mk (Value.type "tuple") none (Data.seq #[Value.str (Str.ofString "self") 281, Value.str (Str.ofString "width") 282, Value.str (Str.ofString "registers") 283, Value.str (Str.ofString "upvalues") 284, Value.str (Str.ofString "local_names") 285, Value.str (Str.ofString "ccalls") 286, Value.str (Str.ofString "frames") 287, Value.str (Str.ofString "stack") 288, Value.str (Str.ofString "flush") 289, Value.str (Str.ofString "steps") 290, Value.str (Str.ofString "text") 291]) #[]
noncomputable def o75 (_ : Params) : Obj := Obj.mk (Value.type "tuple") none (Data.seq #[]) #[]
noncomputable def o77 (_ : Params) : Obj := Obj.mk (Value.type "code") none (Data.fields #[Value.str (Str.ofString "__init__") 278, Value.str (Str.ofString "Limits.__init__") 279, Value.str (Str.ofString "/claim/cut.py") 280, Value.int 28 0, Value.int 11 0, Value.int 0 0, Value.int 0 0, Value.int 3 0, Value.ref 72, Value.bool true, Value.int 181 0, Value.ref 73, Value.none, Value.ref 74, Value.ref 75, Value.ref 76, Value.int 292 0, Value.int 28 0, Value.str (Str.ofString "/claim/cut.py") 293]) #[]
noncomputable def o78 (_ : Params) : Obj := fnO (sub 0 (stm 17)) (by with_unfolding_all rfl) fun ar bd sc => Obj.mk (Value.type "function") none (Data.func (FuncData.mk (Str.ofString "__init__") (Str.ofString "Limits.__init__") ar (FuncBody.stmts bd) sc 3 [] (Value.ref 71) Value.none Value.none (Value.str (Str.ofString "lua.values") 252) none (Value.ref 77) Value.none 0)) #[]
noncomputable def o79 (_ : Params) : Obj := Obj.mk (Value.type "tuple") none (Data.seq #[]) #[]
noncomputable def o81 (_ : Params) : Obj := Obj.mk (Value.type "tuple") none (Data.seq #[Value.str (Str.ofString "self") 298]) #[]
noncomputable def o82 (_ : Params) : Obj := Obj.mk (Value.type "tuple") none (Data.seq #[]) #[]
noncomputable def o84 (_ : Params) : Obj := Obj.mk (Value.type "code") none (Data.fields #[Value.str (Str.ofString "greatest") 295, Value.str (Str.ofString "Limits.greatest") 296, Value.str (Str.ofString "/claim/cut.py") 297, Value.int 40 0, Value.int 1 0, Value.int 0 0, Value.int 0 0, Value.int 3 0, Value.ref 79, Value.bool true, Value.int 181 0, Value.ref 80, Value.none, Value.ref 81, Value.ref 82, Value.ref 83, Value.int 299 0, Value.int 40 0, Value.str (Str.ofString "/claim/cut.py") 300]) #[]
noncomputable def o85 (_ : Params) : Obj := fnO (sub 1 (stm 17)) (by with_unfolding_all rfl) fun ar bd sc => Obj.mk (Value.type "function") none (Data.func (FuncData.mk (Str.ofString "greatest") (Str.ofString "Limits.greatest") ar (FuncBody.stmts bd) sc 3 [] Value.none Value.none Value.none (Value.str (Str.ofString "lua.values") 252) none (Value.ref 84) Value.none 0)) #[]
noncomputable def o86 (_ : Params) : Obj := Obj.mk (Value.type "tuple") none (Data.seq #[]) #[]
noncomputable def o88 (_ : Params) : Obj := Obj.mk (Value.type "tuple") none (Data.seq #[Value.str (Str.ofString "self") 305]) #[]
noncomputable def o89 (_ : Params) : Obj := Obj.mk (Value.type "tuple") none (Data.seq #[]) #[]
noncomputable def o91 (_ : Params) : Obj := Obj.mk (Value.type "code") none (Data.fields #[Value.str (Str.ofString "least") 302, Value.str (Str.ofString "Limits.least") 303, Value.str (Str.ofString "/claim/cut.py") 304, Value.int 43 0, Value.int 1 0, Value.int 0 0, Value.int 0 0, Value.int 3 0, Value.ref 86, Value.bool true, Value.int 181 0, Value.ref 87, Value.none, Value.ref 88, Value.ref 89, Value.ref 90, Value.int 306 0, Value.int 43 0, Value.str (Str.ofString "/claim/cut.py") 307]) #[]
noncomputable def o92 (_ : Params) : Obj := fnO (sub 2 (stm 17)) (by with_unfolding_all rfl) fun ar bd sc => Obj.mk (Value.type "function") none (Data.func (FuncData.mk (Str.ofString "least") (Str.ofString "Limits.least") ar (FuncBody.stmts bd) sc 3 [] Value.none Value.none Value.none (Value.str (Str.ofString "lua.values") 252) none (Value.ref 91) Value.none 0)) #[]
noncomputable def o93 (_ : Params) : Obj := Obj.mk (Value.type "tuple") none (Data.seq #[Value.str (Str.ofString "ccalls") 309, Value.str (Str.ofString "flush") 310, Value.str (Str.ofString "frames") 311, Value.str (Str.ofString "local_names") 312, Value.str (Str.ofString "registers") 313, Value.str (Str.ofString "stack") 314, Value.str (Str.ofString "steps") 315, Value.str (Str.ofString "text") 316, Value.str (Str.ofString "upvalues") 317, Value.str (Str.ofString "width") 318]) #[]
noncomputable def o94 (P : Params) : Obj := Obj.mk (Value.type "dict") none (Data.dict #[DictEntry.mk (PyData.keyHash P (Str.ofString "__module__")) (Value.str (Str.ofString "__module__") 263) (Value.str (Str.ofString "lua.values") 252), DictEntry.mk (PyData.keyHash P (Str.ofString "__firstlineno__")) (Value.str (Str.ofString "__firstlineno__") 267) (Value.int 26 266), DictEntry.mk (PyData.keyHash P (Str.ofString "__init__")) (Value.str (Str.ofString "__init__") 294) (Value.ref 78), DictEntry.mk (PyData.keyHash P (Str.ofString "greatest")) (Value.str (Str.ofString "greatest") 301) (Value.ref 85), DictEntry.mk (PyData.keyHash P (Str.ofString "least")) (Value.str (Str.ofString "least") 308) (Value.ref 92), DictEntry.mk (PyData.keyHash P (Str.ofString "__static_attributes__")) (Value.str (Str.ofString "__static_attributes__") 319) (Value.ref 93), DictEntry.mk (PyData.keyHash P (Str.ofString "__dict__")) (Value.str (Str.ofString "__dict__") 321) (Value.ref 96), DictEntry.mk (PyData.keyHash P (Str.ofString "__weakref__")) (Value.str (Str.ofString "__weakref__") 323) (Value.ref 97), DictEntry.mk (PyData.keyHash P (Str.ofString "__doc__")) (Value.str (Str.ofString "__doc__") 324) Value.none] 4) #[]
noncomputable def o95 (_ : Params) : Obj := Obj.mk (Value.type "type") none (Data.cls (ClassData.mk (Str.ofString "Limits") [Value.type "object"] [Value.ref 95, Value.type "object"] 94 (Str.ofString "Limits") true [] [] false none false)) #[none, none, some (Value.str (Str.ofString "Limits") 256), some (Value.str (Str.ofString "Limits") 264), some (Value.builtin "object.__new__"), some (Value.bool true)]
noncomputable def o96 (_ : Params) : Obj := Obj.mk (Value.type "getset_descriptor") none (Data.fields #[Value.str (Str.ofString "__dict__") 320, Value.ref 95, Value.builtin "function.__dict__", Value.builtin "function.__dict__#set"]) #[]
noncomputable def o97 (_ : Params) : Obj := Obj.mk (Value.type "getset_descriptor") none (Data.fields #[Value.str (Str.ofString "__weakref__") 322, Value.ref 95, Value.builtin "ExceptionGroup.__weakref__", Value.none]) #[]
noncomputable def o100 (_ : Params) : Obj := Obj.mk (Value.type "tuple") none (Data.seq #[Value.type "Exception"]) #[]
noncomputable def o107 (_ : Params) : Obj := Obj.mk (Value.type "tuple") none (Data.seq #[]) #[]
noncomputable def o109 (_ : Params) : Obj := Obj.mk (Value.type "tuple") none (Data.seq #[Value.str (Str.ofString "self") 342, Value.str (Str.ofString "value") 343]) #[]
noncomputable def o110 (_ : Params) : Obj := Obj.mk (Value.type "tuple") none (Data.seq #[]) #[]
noncomputable def o112 (_ : Params) : Obj := Obj.mk (Value.type "code") none (Data.fields #[Value.str (Str.ofString "__init__") 339, Value.str (Str.ofString "LuaError.__init__") 340, Value.str (Str.ofString "/claim/cut.py") 341, Value.int 47 0, Value.int 2 0, Value.int 0 0, Value.int 0 0, Value.int 3 0, Value.ref 107, Value.bool true, Value.int 181 0, Value.ref 108, Value.none, Value.ref 109, Value.ref 110, Value.ref 111, Value.int 344 0, Value.int 47 0, Value.str (Str.ofString "/claim/cut.py") 345]) #[]
noncomputable def o113 (_ : Params) : Obj := fnO (sub 0 (stm 18)) (by with_unfolding_all rfl) fun ar bd sc => Obj.mk (Value.type "function") none (Data.func (FuncData.mk (Str.ofString "__init__") (Str.ofString "LuaError.__init__") ar (FuncBody.stmts bd) sc 3 [] Value.none Value.none Value.none (Value.str (Str.ofString "lua.values") 252) none (Value.ref 112) Value.none 0)) #[]
noncomputable def o114 (_ : Params) : Obj := Obj.mk (Value.type "tuple") none (Data.seq #[Value.str (Str.ofString "trace") 347, Value.str (Str.ofString "value") 348]) #[]
noncomputable def o115 (P : Params) : Obj := Obj.mk (Value.type "dict") none (Data.dict #[DictEntry.mk (PyData.keyHash P (Str.ofString "__module__")) (Value.str (Str.ofString "__module__") 334) (Value.str (Str.ofString "lua.values") 252), DictEntry.mk (PyData.keyHash P (Str.ofString "__firstlineno__")) (Value.str (Str.ofString "__firstlineno__") 338) (Value.int 45 337), DictEntry.mk (PyData.keyHash P (Str.ofString "__init__")) (Value.str (Str.ofString "__init__") 346) (Value.ref 113), DictEntry.mk (PyData.keyHash P (Str.ofString "__static_attributes__")) (Value.str (Str.ofString "__static_attributes__") 349) (Value.ref 114), DictEntry.mk (PyData.keyHash P (Str.ofString "__weakref__")) (Value.str (Str.ofString "__weakref__") 351) (Value.ref 117), DictEntry.mk (PyData.keyHash P (Str.ofString "__doc__")) (Value.str (Str.ofString "__doc__") 352) Value.none] 3) #[]
noncomputable def o116 (_ : Params) : Obj := Obj.mk (Value.type "type") none (Data.cls (ClassData.mk (Str.ofString "LuaError") [Value.type "Exception"] [Value.ref 116, Value.type "Exception", Value.type "BaseException", Value.type "object"] 115 (Str.ofString "LuaError") true [] [] false none false)) #[some (Value.ref 100), none, some (Value.str (Str.ofString "LuaError") 327), some (Value.str (Str.ofString "LuaError") 335), some (Value.builtin "Exception.__new__"), some (Value.bool true)]
noncomputable def o117 (_ : Params) : Obj := Obj.mk (Value.type "getset_descriptor") none (Data.fields #[Value.str (Str.ofString "__weakref__") 350, Value.ref 116, Value.builtin "ExceptionGroup.__weakref__", Value.none]) #[]
noncomputable def o120 (_ : Params) : Obj := Obj.mk (Value.type "tuple") none (Data.seq #[Value.type "Exception"]) #[]
noncomputable def o127 (_ : Params) : Obj := Obj.mk (Value.type "tuple") none (Data.seq #[]) #[]
noncomputable def o129 (_ : Params) : Obj := Obj.mk (Value.type "tuple") none (Data.seq #[Value.str (Str.ofString "self") 372, Value.str (Str.ofString "text") 373]) #[]
noncomputable def o130 (_ : Params) : Obj := Obj.mk (Value.type "tuple") none (Data.seq #[]) #[]
noncomputable def o132 (_ : Params) : Obj := Obj.mk (Value.type "code") none (Data.fields #[Value.str (Str.ofString "__init__") 369, Value.str (Str.ofString "ApiError.__init__") 370, Value.str (Str.ofString "/claim/cut.py") 371, Value.int 52 0, Value.int 2 0, Value.int 0 0, Value.int 0 0, Value.int 3 0, Value.ref 127, Value.bool true, Value.int 181 0, Value.ref 128, Value.none, Value.ref 129, Value.ref 130, Value.ref 131, Value.int 374 0, Value.int 52 0, Value.str (Str.ofString "/claim/cut.py") 375]) #[]
noncomputable def o133 (_ : Params) : Obj := fnO (sub 0 (stm 19)) (by with_unfolding_all rfl) fun ar bd sc => Obj.mk (Value.type "function") none (Data.func (FuncData.mk (Str.ofString "__init__") (Str.ofString "ApiError.__init__") ar (FuncBody.stmts bd) sc 3 [] Value.none Value.none Value.none (Value.str (Str.ofString "lua.values") 252) none (Value.ref 132) Value.none 0)) #[]
noncomputable def o134 (_ : Params) : Obj := Obj.mk (Value.type "tuple") none (Data.seq #[Value.str (Str.ofString "text") 377]) #[]
noncomputable def o135 (P : Params) : Obj := Obj.mk (Value.type "dict") none (Data.dict #[DictEntry.mk (PyData.keyHash P (Str.ofString "__module__")) (Value.str (Str.ofString "__module__") 364) (Value.str (Str.ofString "lua.values") 252), DictEntry.mk (PyData.keyHash P (Str.ofString "__firstlineno__")) (Value.str (Str.ofString "__firstlineno__") 368) (Value.int 50 367), DictEntry.mk (PyData.keyHash P (Str.ofString "__init__")) (Value.str (Str.ofString "__init__") 376) (Value.ref 133), DictEntry.mk (PyData.keyHash P (Str.ofString "__static_attributes__")) (Value.str (Str.ofString "__static_attributes__") 378) (Value.ref 134), DictEntry.mk (PyData.keyHash P (Str.ofString "__weakref__")) (Value.str (Str.ofString "__weakref__") 380) (Value.ref 137), DictEntry.mk (PyData.keyHash P (Str.ofString "__doc__")) (Value.str (Str.ofString "__doc__") 381) Value.none] 3) #[]
noncomputable def o136 (_ : Params) : Obj := Obj.mk (Value.type "type") none (Data.cls (ClassData.mk (Str.ofString "ApiError") [Value.type "Exception"] [Value.ref 136, Value.type "Exception", Value.type "BaseException", Value.type "object"] 135 (Str.ofString "ApiError") true [] [] false none false)) #[some (Value.ref 120), none, some (Value.str (Str.ofString "ApiError") 357), some (Value.str (Str.ofString "ApiError") 365), some (Value.builtin "Exception.__new__"), some (Value.bool true)]
noncomputable def o137 (_ : Params) : Obj := Obj.mk (Value.type "getset_descriptor") none (Data.fields #[Value.str (Str.ofString "__weakref__") 379, Value.ref 136, Value.builtin "ExceptionGroup.__weakref__", Value.none]) #[]
noncomputable def o140 (_ : Params) : Obj := Obj.mk (Value.type "tuple") none (Data.seq #[]) #[]
noncomputable def o142 (_ : Params) : Obj := Obj.mk (Value.type "tuple") none (Data.seq #[Value.str (Str.ofString "value") 389]) #[]
noncomputable def o143 (_ : Params) : Obj := Obj.mk (Value.type "tuple") none (Data.seq #[]) #[]
noncomputable def o145 (_ : Params) : Obj := Obj.mk (Value.type "code") none (Data.fields #[Value.str (Str.ofString "is_number") 386, Value.str (Str.ofString "is_number") 387, Value.str (Str.ofString "/claim/cut.py") 388, Value.int 54 0, Value.int 1 0, Value.int 0 0, Value.int 0 0, Value.int 3 0, Value.ref 140, Value.bool true, Value.int 181 0, Value.ref 141, Value.none, Value.ref 142, Value.ref 143, Value.ref 144, Value.int 390 0, Value.int 54 0, Value.str (Str.ofString "/claim/cut.py") 391]) #[]
noncomputable def o146 (_ : Params) : Obj := fnO (stm 20) (by with_unfolding_all rfl) fun ar bd sc => Obj.mk (Value.type "function") none (Data.func (FuncData.mk (Str.ofString "is_number") (Str.ofString "is_number") ar (FuncBody.stmts bd) sc 3 [] Value.none Value.none Value.none (Value.str (Str.ofString "lua.values") 252) none (Value.ref 145) Value.none 0)) #[]
noncomputable def o147 (_ : Params) : Obj := Obj.mk (Value.type "tuple") none (Data.seq #[]) #[]
noncomputable def o149 (_ : Params) : Obj := Obj.mk (Value.type "tuple") none (Data.seq #[Value.str (Str.ofString "value") 396]) #[]
noncomputable def o150 (_ : Params) : Obj := Obj.mk (Value.type "tuple") none (Data.seq #[]) #[]
noncomputable def o152 (_ : Params) : Obj := Obj.mk (Value.type "code") none (Data.fields #[Value.str (Str.ofString "is_false") 393, Value.str (Str.ofString "is_false") 394, Value.str (Str.ofString "/claim/cut.py") 395, Value.int 56 0, Value.int 1 0, Value.int 0 0, Value.int 0 0, Value.int 3 0, Value.ref 147, Value.bool true, Value.int 181 0, Value.ref 148, Value.none, Value.ref 149, Value.ref 150, Value.ref 151, Value.int 397 0, Value.int 56 0, Value.str (Str.ofString "/claim/cut.py") 398]) #[]
noncomputable def o153 (_ : Params) : Obj := fnO (stm 21) (by with_unfolding_all rfl) fun ar bd sc => Obj.mk (Value.type "function") none (Data.func (FuncData.mk (Str.ofString "is_false") (Str.ofString "is_false") ar (FuncBody.stmts bd) sc 3 [] Value.none Value.none Value.none (Value.str (Str.ofString "lua.values") 252) none (Value.ref 152) Value.none 0)) #[]
noncomputable def o154 (_ : Params) : Obj := Obj.mk (Value.type "tuple") none (Data.seq #[]) #[]
noncomputable def o156 (_ : Params) : Obj := Obj.mk (Value.type "tuple") none (Data.seq #[Value.str (Str.ofString "n") 403, Value.str (Str.ofString "width") 404, Value.str (Str.ofString "low") 405]) #[]
noncomputable def o157 (_ : Params) : Obj := Obj.mk (Value.type "tuple") none (Data.seq #[]) #[]
noncomputable def o159 (_ : Params) : Obj := Obj.mk (Value.type "code") none (Data.fields #[Value.str (Str.ofString "wrap") 400, Value.str (Str.ofString "wrap") 401, Value.str (Str.ofString "/claim/cut.py") 402, Value.int 60 0, Value.int 2 0, Value.int 0 0, Value.int 0 0, Value.int 3 0, Value.ref 154, Value.bool true, Value.int 181 0, Value.ref 155, Value.none, Value.ref 156, Value.ref 157, Value.ref 158, Value.int 406 0, Value.int 60 0, Value.str (Str.ofString "/claim/cut.py") 407]) #[]
noncomputable def o160 (_ : Params) : Obj := fnO (stm 22) (by with_unfolding_all rfl) fun ar bd sc => Obj.mk (Value.type "function") none (Data.func (FuncData.mk (Str.ofString "wrap") (Str.ofString "wrap") ar (FuncBody.stmts bd) sc 3 [] Value.none Value.none Value.none (Value.str (Str.ofString "lua.values") 252) none (Value.ref 159) Value.none 0)) #[]
noncomputable def o161 (_ : Params) : Obj := Obj.mk (Value.type "tuple") none (Data.seq #[]) #[]
noncomputable def o163 (_ : Params) : Obj := Obj.mk (Value.type "tuple") none (Data.seq #[Value.str (Str.ofString "a") 412, Value.str (Str.ofString "b") 413, Value.str (Str.ofString "found") 414]) #[]
noncomputable def o164 (_ : Params) : Obj := Obj.mk (Value.type "tuple") none (Data.seq #[]) #[]
noncomputable def o166 (_ : Params) : Obj := Obj.mk (Value.type "code") none (Data.fields #[Value.str (Str.ofString "divide") 409, Value.str (Str.ofString "divide") 410, Value.str (Str.ofString "/claim/cut.py") 411, Value.int 65 0, Value.int 2 0, Value.int 0 0, Value.int 0 0, Value.int 3 0, Value.ref 161, Value.bool true, Value.int 181 0, Value.ref 162, Value.none, Value.ref 163, Value.ref 164, Value.ref 165, Value.int 415 0, Value.int 65 0, Value.str (Str.ofString "/claim/cut.py") 416]) #[]
noncomputable def o167 (_ : Params) : Obj := fnO (stm 23) (by with_unfolding_all rfl) fun ar bd sc => Obj.mk (Value.type "function") none (Data.func (FuncData.mk (Str.ofString "divide") (Str.ofString "divide") ar (FuncBody.stmts bd) sc 3 [] Value.none Value.none Value.none (Value.str (Str.ofString "lua.values") 252) none (Value.ref 166) Value.none 0)) #[]
noncomputable def o168 (_ : Params) : Obj := Obj.mk (Value.type "tuple") none (Data.seq #[]) #[]
noncomputable def o170 (_ : Params) : Obj := Obj.mk (Value.type "tuple") none (Data.seq #[Value.str (Str.ofString "a") 421, Value.str (Str.ofString "b") 422, Value.str (Str.ofString "width") 423, Value.str (Str.ofString "found") 424, Value.str (Str.ofString "base") 425]) #[]
noncomputable def o171 (_ : Params) : Obj := Obj.mk (Value.type "tuple") none (Data.seq #[]) #[]
noncomputable def o173 (_ : Params) : Obj := Obj.mk (Value.type "code") none (Data.fields #[Value.str (Str.ofString "power") 418, Value.str (Str.ofString "power") 419, Value.str (Str.ofString "/claim/cut.py") 420, Value.int 68 0, Value.int 3 0, Value.int 0 0, Value.int 0 0, Value.int 3 0, Value.ref 168, Value.bool true, Value.int 181 0, Value.ref 169, Value.none, Value.ref 170, Value.ref 171, Value.ref 172, Value.int 426 0, Value.int 68 0, Value.str (Str.ofString "/claim/cut.py") 427]) #[]
noncomputable def o174 (_ : Params) : Obj := fnO (stm 24) (by with_unfolding_all rfl) fun ar bd sc => Obj.mk (Value.type "function") none (Data.func (FuncData.mk (Str.ofString "power") (Str.ofString "power") ar (FuncBody.stmts bd) sc 3 [] Value.none Value.none Value.none (Value.str (Str.ofString "lua.values") 252) none (Value.ref 173) Value.none 0)) #[]
noncomputable def o175 (_ : Params) : Obj := Obj.mk (Value.type "tuple") none (Data.seq #[]) #[]
noncomputable def o177 (_ : Params) : Obj := Obj.mk (Value.type "tuple") none (Data.seq #[Value.str (Str.ofString "op") 432, Value.str (Str.ofString "a") 433, Value.str (Str.ofString "b") 434, Value.str (Str.ofString "limits") 435, Value.str (Str.ofString "width") 436]) #[]
noncomputable def o178 (_ : Params) : Obj := Obj.mk (Value.type "tuple") none (Data.seq #[]) #[]
noncomputable def o180 (_ : Params) : Obj := Obj.mk (Value.type "code") none (Data.fields #[Value.str (Str.ofString "arith") 429, Value.str (Str.ofString "arith") 430, Value.str (Str.ofString "/claim/cut.py") 431, Value.int 82 0, Value.int 4 0, Value.int 0 0, Value.int 0 0, Value.int 3 0, Value.ref 175, Value.bool true, Value.int 181 0, Value.ref 176, Value.none, Value.ref 177, Value.ref 178, Value.ref 179, Value.int 437 0, Value.int 82 0, Value.str (Str.ofString "/claim/cut.py") 438]) #[]
noncomputable def o181 (_ : Params) : Obj := fnO (stm 25) (by with_unfolding_all rfl) fun ar bd sc => Obj.mk (Value.type "function") none (Data.func (FuncData.mk (Str.ofString "arith") (Str.ofString "arith") ar (FuncBody.stmts bd) sc 3 [] Value.none Value.none Value.none (Value.str (Str.ofString "lua.values") 252) none (Value.ref 180) Value.none 0)) #[]
noncomputable def o182 (_ : Params) : Obj := Obj.mk (Value.type "tuple") none (Data.seq #[]) #[]
noncomputable def o184 (_ : Params) : Obj := Obj.mk (Value.type "tuple") none (Data.seq #[Value.str (Str.ofString "octet") 443]) #[]
noncomputable def o185 (_ : Params) : Obj := Obj.mk (Value.type "tuple") none (Data.seq #[]) #[]
noncomputable def o187 (_ : Params) : Obj := Obj.mk (Value.type "code") none (Data.fields #[Value.str (Str.ofString "is_blank") 440, Value.str (Str.ofString "is_blank") 441, Value.str (Str.ofString "/claim/cut.py") 442, Value.int 101 0, Value.int 1 0, Value.int 0 0, Value.int 0 0, Value.int 3 0, Value.ref 182, Value.bool true, Value.int 181 0, Value.ref 183, Value.none, Value.ref 184, Value.ref 185, Value.ref 186, Value.int 444 0, Value.int 101 0, Value.str (Str.ofString "/claim/cut.py") 445]) #[]
noncomputable def o188 (_ : Params) : Obj := fnO (stm 26) (by with_unfolding_all rfl) fun ar bd sc => Obj.mk (Value.type "function") none (Data.func (FuncData.mk (Str.ofString "is_blank") (Str.ofString "is_blank") ar (FuncBody.stmts bd) sc 3 [] Value.none Value.none Value.none (Value.str (Str.ofString "lua.values") 252) none (Value.ref 187) Value.none 0)) #[]
noncomputable def o189 (_ : Params) : Obj := Obj.mk (Value.type "tuple") none (Data.seq #[]) #[]
noncomputable def o191 (_ : Params) : Obj := Obj.mk (Value.type "tuple") none (Data.seq #[Value.str (Str.ofString "octet") 450]) #[]
noncomputable def o192 (_ : Params) : Obj := Obj.mk (Value.type "tuple") none (Data.seq #[]) #[]
noncomputable def o194 (_ : Params) : Obj := Obj.mk (Value.type "code") none (Data.fields #[Value.str (Str.ofString "digit_of") 447, Value.str (Str.ofString "digit_of") 448, Value.str (Str.ofString "/claim/cut.py") 449, Value.int 103 0, Value.int 1 0, Value.int 0 0, Value.int 0 0, Value.int 3 0, Value.ref 189, Value.bool true, Value.int 181 0, Value.ref 190, Value.none, Value.ref 191, Value.ref 192, Value.ref 193, Value.int 451 0, Value.int 103 0, Value.str (Str.ofString "/claim/cut.py") 452]) #[]
noncomputable def o195 (_ : Params) : Obj := fnO (stm 27) (by with_unfolding_all rfl) fun ar bd sc => Obj.mk (Value.type "function") none (Data.func (FuncData.mk (Str.ofString "digit_of") (Str.ofString "digit_of") ar (FuncBody.stmts bd) sc 3 [] Value.none Value.none Value.none (Value.str (Str.ofString "lua.values") 252) none (Value.ref 194) Value.none 0)) #[]
noncomputable def o196 (_ : Params) : Obj := Obj.mk (Value.type "tuple") none (Data.seq #[]) #[]
noncomputable def o198 (_ : Params) : Obj := Obj.mk (Value.type "tuple") none (Data.seq #[Value.str (Str.ofString "text") 457, Value.str (Str.ofString "at") 458, Value.str (Str.ofString "base") 459, Value.str (Str.ofString "found") 460, Value.str (Str.ofString "digit") 461]) #[]
noncomputable def o199 (_ : Params) : Obj := Obj.mk (Value.type "tuple") none (Data.seq #[]) #[]
noncomputable def o201 (_ : Params) : Obj := Obj.mk (Value.type "code") none (Data.fields #[Value.str (Str.ofString "read_digits") 454, Value.str (Str.ofString "read_digits") 455, Value.str (Str.ofString "/claim/cut.py") 456, Value.int 111 0, Value.int 3 0, Value.int 0 0, Value.int 0 0, Value.int 3 0, Value.ref 196, Value.bool true, Value.int 181 0, Value.ref 197, Value.none, Value.ref 198, Value.ref 199, Value.ref 200, Value.int 462 0, Value.int 111 0, Value.str (Str.ofString "/claim/cut.py") 463]) #[]
noncomputable def o202 (_ : Params) : Obj := fnO (stm 28) (by with_unfolding_all rfl) fun ar bd sc => Obj.mk (Value.type "function") none (Data.func (FuncData.mk (Str.ofString "read_digits") (Str.ofString "read_digits") ar (FuncBody.stmts bd) sc 3 [] Value.none Value.none Value.none (Value.str (Str.ofString "lua.values") 252) none (Value.ref 201) Value.none 0)) #[]
noncomputable def o203 (_ : Params) : Obj := Obj.mk (Value.type "tuple") none (Data.seq #[]) #[]
noncomputable def o205 (_ : Params) : Obj := Obj.mk (Value.type "tuple") none (Data.seq #[Value.str (Str.ofString "text") 468, Value.str (Str.ofString "at") 469]) #[]
noncomputable def o206 (_ : Params) : Obj := Obj.mk (Value.type "tuple") none (Data.seq #[]) #[]
noncomputable def o208 (_ : Params) : Obj := Obj.mk (Value.type "code") none (Data.fields #[Value.str (Str.ofString "skip_blanks") 465, Value.str (Str.ofString "skip_blanks") 466, Value.str (Str.ofString "/claim/cut.py") 467, Value.int 120 0, Value.int 2 0, Value.int 0 0, Value.int 0 0, Value.int 3 0, Value.ref 203, Value.bool true, Value.int 181 0, Value.ref 204, Value.none, Value.ref 205, Value.ref 206, Value.ref 207, Value.int 470 0, Value.int 120 0, Value.str (Str.ofString "/claim/cut.py") 471]) #[]
noncomputable def o209 (_ : Params) : Obj := fnO (stm 29) (by with_unfolding_all rfl) fun ar bd sc => Obj.mk (Value.type "function") none (Data.func (FuncData.mk (Str.ofString "skip_blanks") (Str.ofString "skip_blanks") ar (FuncBody.stmts bd) sc 3 [] Value.none Value.none Value.none (Value.str (Str.ofString "lua.values") 252) none (Value.ref 208) Value.none 0)) #[]
noncomputable def o210 (_ : Params) : Obj := Obj.mk (Value.type "tuple") none (Data.seq #[]) #[]
noncomputable def o212 (_ : Params) : Obj := Obj.mk (Value.type "tuple") none (Data.seq #[Value.str (Str.ofString "text") 476, Value.str (Str.ofString "limits") 477]) #[]
noncomputable def o213 (_ : Params) : Obj := Obj.mk (Value.type "tuple") none (Data.seq #[]) #[]
noncomputable def o215 (_ : Params) : Obj := Obj.mk (Value.type "code") none (Data.fields #[Value.str (Str.ofString "str_to_number") 473, Value.str (Str.ofString "str_to_number") 474, Value.str (Str.ofString "/claim/cut.py") 475, Value.int 124 0, Value.int 2 0, Value.int 0 0, Value.int 0 0, Value.int 3 0, Value.ref 210, Value.bool true, Value.int 181 0, Value.ref 211, Value.none, Value.ref 212, Value.ref 213, Value.ref 214, Value.int 478 0, Value.int 124 0, Value.str (Str.ofString "/claim/cut.py") 479]) #[]
noncomputable def o216 (_ : Params) : Obj := fnO (stm 30) (by with_unfolding_all rfl) fun ar bd sc => Obj.mk (Value.type "function") none (Data.func (FuncData.mk (Str.ofString "str_to_number") (Str.ofString "str_to_number") ar (FuncBody.stmts bd) sc 3 [] Value.none Value.none Value.none (Value.str (Str.ofString "lua.values") 252) none (Value.ref 215) Value.none 0)) #[]
noncomputable def o217 (_ : Params) : Obj := Obj.mk (Value.type "tuple") none (Data.seq #[]) #[]
noncomputable def o219 (_ : Params) : Obj := Obj.mk (Value.type "tuple") none (Data.seq #[Value.str (Str.ofString "text") 484, Value.str (Str.ofString "base") 485, Value.str (Str.ofString "limits") 486, Value.str (Str.ofString "at") 487, Value.str (Str.ofString "is_below") 488, Value.str (Str.ofString "is_marked") 489, Value.str (Str.ofString "found") 490, Value.str (Str.ofString "end") 491]) #[]
noncomputable def o220 (_ : Params) : Obj := Obj.mk (Value.type "tuple") none (Data.seq #[]) #[]
noncomputable def o222 (_ : Params) : Obj := Obj.mk (Value.type "code") none (Data.fields #[Value.str (Str.ofString "text_in_base") 481, Value.str (Str.ofString "text_in_base") 482, Value.str (Str.ofString "/claim/cut.py") 483, Value.int 126 0, Value.int 3 0, Value.int 0 0, Value.int 0 0, Value.int 3 0, Value.ref 217, Value.bool true, Value.int 181 0, Value.ref 218, Value.none, Value.ref 219, Value.ref 220, Value.ref 221, Value.int 492 0, Value.int 126 0, Value.str (Str.ofString "/claim/cut.py") 493]) #[]
noncomputable def o223 (_ : Params) : Obj := fnO (stm 31) (by with_unfolding_all rfl) fun ar bd sc => Obj.mk (Value.type "function") none (Data.func (FuncData.mk (Str.ofString "text_in_base") (Str.ofString "text_in_base") ar (FuncBody.stmts bd) sc 3 [] Value.none Value.none Value.none (Value.str (Str.ofString "lua.values") 252) none (Value.ref 222) Value.none 0)) #[]
noncomputable def o224 (_ : Params) : Obj := Obj.mk (Value.type "tuple") none (Data.seq #[]) #[]
noncomputable def o226 (_ : Params) : Obj := Obj.mk (Value.type "tuple") none (Data.seq #[Value.str (Str.ofString "value") 498, Value.str (Str.ofString "limits") 499]) #[]
noncomputable def o227 (_ : Params) : Obj := Obj.mk (Value.type "tuple") none (Data.seq #[]) #[]
noncomputable def o229 (_ : Params) : Obj := Obj.mk (Value.type "code") none (Data.fields #[Value.str (Str.ofString "to_number") 495, Value.str (Str.ofString "to_number") 496, Value.str (Str.ofString "/claim/cut.py") 497, Value.int 138 0, Value.int 2 0, Value.int 0 0, Value.int 0 0, Value.int 3 0, Value.ref 224, Value.bool true, Value.int 181 0, Value.ref 225, Value.none, Value.ref 226, Value.ref 227, Value.ref 228, Value.int 500 0, Value.int 138 0, Value.str (Str.ofString "/claim/cut.py") 501]) #[]
noncomputable def o230 (_ : Params) : Obj := fnO (stm 32) (by with_unfolding_all rfl) fun ar bd sc => Obj.mk (Value.type "function") none (Data.func (FuncData.mk (Str.ofString "to_number") (Str.ofString "to_number") ar (FuncBody.stmts bd) sc 3 [] Value.none Value.none Value.none (Value.str (Str.ofString "lua.values") 252) none (Value.ref 229) Value.none 0)) #[]
noncomputable def o231 (_ : Params) : Obj := Obj.mk (Value.type "tuple") none (Data.seq #[]) #[]
noncomputable def o233 (_ : Params) : Obj := Obj.mk (Value.type "tuple") none (Data.seq #[Value.str (Str.ofString "n") 506, Value.str (Str.ofString "left") 507, Value.str (Str.ofString "found") 508]) #[]
noncomputable def o234 (_ : Params) : Obj := Obj.mk (Value.type "tuple") none (Data.seq #[]) #[]
noncomputable def o236 (_ : Params) : Obj := Obj.mk (Value.type "code") none (Data.fields #[Value.str (Str.ofString "number_text") 503, Value.str (Str.ofString "number_text") 504, Value.str (Str.ofString "/claim/cut.py") 505, Value.int 144 0, Value.int 1 0, Value.int 0 0, Value.int 0 0, Value.int 3 0, Value.ref 231, Value.bool true, Value.int 181 0, Value.ref 232, Value.none, Value.ref 233, Value.ref 234, Value.ref 235, Value.int 509 0, Value.int 144 0, Value.str (Str.ofString "/claim/cut.py") 510]) #[]
noncomputable def o237 (_ : Params) : Obj := fnO (stm 33) (by with_unfolding_all rfl) fun ar bd sc => Obj.mk (Value.type "function") none (Data.func (FuncData.mk (Str.ofString "number_text") (Str.ofString "number_text") ar (FuncBody.stmts bd) sc 3 [] Value.none Value.none Value.none (Value.str (Str.ofString "lua.values") 252) none (Value.ref 236) Value.none 0)) #[]
noncomputable def o238 (_ : Params) : Obj := Obj.mk (Value.type "tuple") none (Data.seq #[]) #[]
noncomputable def o240 (_ : Params) : Obj := Obj.mk (Value.type "tuple") none (Data.seq #[Value.str (Str.ofString "value") 515]) #[]
noncomputable def o241 (_ : Params) : Obj := Obj.mk (Value.type "tuple") none (Data.seq #[]) #[]
noncomputable def o243 (_ : Params) : Obj := Obj.mk (Value.type "code") none (Data.fields #[Value.str (Str.ofString "to_text") 512, Value.str (Str.ofString "to_text") 513, Value.str (Str.ofString "/claim/cut.py") 514, Value.int 154 0, Value.int 1 0, Value.int 0 0, Value.int 0 0, Value.int 3 0, Value.ref 238, Value.bool true, Value.int 181 0, Value.ref 239, Value.none, Value.ref 240, Value.ref 241, Value.ref 242, Value.int 516 0, Value.int 154 0, Value.str (Str.ofString "/claim/cut.py") 517]) #[]
noncomputable def o244 (_ : Params) : Obj := fnO (stm 34) (by with_unfolding_all rfl) fun ar bd sc => Obj.mk (Value.type "function") none (Data.func (FuncData.mk (Str.ofString "to_text") (Str.ofString "to_text") ar (FuncBody.stmts bd) sc 3 [] Value.none Value.none Value.none (Value.str (Str.ofString "lua.values") 252) none (Value.ref 243) Value.none 0)) #[]
noncomputable def o245 (_ : Params) : Obj := Obj.mk (Value.type "tuple") none (Data.seq #[]) #[]
noncomputable def o247 (_ : Params) : Obj := Obj.mk (Value.type "tuple") none (Data.seq #[Value.str (Str.ofString "x") 522, Value.str (Str.ofString "shift") 523]) #[]
noncomputable def o248 (_ : Params) : Obj := Obj.mk (Value.type "tuple") none (Data.seq #[]) #[]
noncomputable def o250 (_ : Params) : Obj := Obj.mk (Value.type "code") none (Data.fields #[Value.str (Str.ofString "byte_float") 519, Value.str (Str.ofString "byte_float") 520, Value.str (Str.ofString "/claim/cut.py") 521, Value.int 160 0, Value.int 1 0, Value.int 0 0, Value.int 0 0, Value.int 3 0, Value.ref 245, Value.bool true, Value.int 181 0, Value.ref 246, Value.none, Value.ref 247, Value.ref 248, Value.ref 249, Value.int 524 0, Value.int 160 0, Value.str (Str.ofString "/claim/cut.py") 525]) #[]
noncomputable def o251 (_ : Params) : Obj := fnO (stm 35) (by with_unfolding_all rfl) fun ar bd sc => Obj.mk (Value.type "function") none (Data.func (FuncData.mk (Str.ofString "byte_float") (Str.ofString "byte_float") ar (FuncBody.stmts bd) sc 3 [] Value.none Value.none Value.none (Value.str (Str.ofString "lua.values") 252) none (Value.ref 250) Value.none 0)) #[]
noncomputable def o252 (_ : Params) : Obj := Obj.mk (Value.type "tuple") none (Data.seq #[]) #[]
noncomputable def o254 (_ : Params) : Obj := Obj.mk (Value.type "tuple") none (Data.seq #[Value.str (Str.ofString "values") 538, Value.str (Str.ofString "top") 539, Value.str (Str.ofString "most") 540, Value.str (Str.ofString "found") 541, Value.str (Str.ofString "turn") 542, Value.str (Str.ofString "text") 543]) #[]
noncomputable def o255 (_ : Params) : Obj := Obj.mk (Value.type "tuple") none (Data.seq #[]) #[]
noncomputable def o257 (_ : Params) : Obj := Obj.mk (Value.type "code") none (Data.fields #[Value.str (Str.ofString "texts_below") 535, Value.str (Str.ofString "texts_below") 536, Value.str (Str.ofString "/claim/cut.py") 537, Value.int 169 0, Value.int 3 0, Value.int 0 0, Value.int 0 0, Value.int 3 0, Value.ref 252, Value.bool true, Value.int 181 0, Value.ref 253, Value.none, Value.ref 254, Value.ref 255, Value.ref 256, Value.int 544 0, Value.int 169 0, Value.str (Str.ofString "/claim/cut.py") 545]) #[]
noncomputable def o258 (_ : Params) : Obj := fnO (stm 40) (by with_unfolding_all rfl) fun ar bd sc => Obj.mk (Value.type "function") none (Data.func (FuncData.mk (Str.ofString "texts_below") (Str.ofString "texts_below") ar (FuncBody.stmts bd) sc 3 [] Value.none Value.none Value.none (Value.str (Str.ofString "lua.joins") 527) none (Value.ref 257) Value.none 0)) #[]
noncomputable def o259 (_ : Params) : Obj := Obj.mk (Value.type "tuple") none (Data.seq #[]) #[]
noncomputable def o262 (_ : Params) : Obj := Obj.mk (Value.type "code") none (Data.fields #[Value.str (Str.ofString "join_below") 547, Value.str (Str.ofString "join_below") 548, Value.str (Str.ofString "/claim/cut.py") 549, Value.int 177 0, Value.int 4 0, Value.int 0 0, Value.int 0 0, Value.int 3 0, Value.ref 259, Value.bool true, Value.int 181 0, Value.ref 260, Value.none, Value.none, Value.none, Value.ref 261, Value.int 550 0, Value.int 177 0, Value.str (Str.ofString "/claim/cut.py") 551]) #[]
noncomputable def o263 (_ : Params) : Obj := fnO (stm 41) (by with_unfolding_all rfl) fun ar bd sc => Obj.mk (Value.type "function") none (Data.func (FuncData.mk (Str.ofString "join_below") (Str.ofString "join_below") ar (FuncBody.stmts bd) sc 3 [] Value.none Value.none Value.none (Value.str (Str.ofString "lua.joins") 527) none (Value.ref 262) Value.none 0)) #[]
noncomputable def o264 (_ : Params) : Obj := Obj.mk (Value.type "tuple") none (Data.seq #[]) #[]
noncomputable def o267 (_ : Params) : Obj := Obj.mk (Value.type "code") none (Data.fields #[Value.str (Str.ofString "loop_numbers") 555, Value.str (Str.ofString "loop_numbers") 556, Value.str (Str.ofString "/claim/cut.py") 557, Value.int 188 0, Value.int 2 0, Value.int 0 0, Value.int 0 0, Value.int 3 0, Value.ref 264, Value.bool true, Value.int 181 0, Value.ref 265, Value.none, Value.none, Value.none, Value.ref 266, Value.int 558 0, Value.int 188 0, Value.str (Str.ofString "/claim/cut.py") 559]) #[]
noncomputable def o268 (_ : Params) : Obj := fnO (stm 43) (by with_unfolding_all rfl) fun ar bd sc => Obj.mk (Value.type "function") none (Data.func (FuncData.mk (Str.ofString "loop_numbers") (Str.ofString "loop_numbers") ar (FuncBody.stmts bd) sc 3 [] Value.none Value.none Value.none (Value.str (Str.ofString "lua.loops") 553) none (Value.ref 267) Value.none 0)) #[]
noncomputable def o269 (_ : Params) : Obj := Obj.mk (Value.type "tuple") none (Data.seq #[]) #[]
noncomputable def o271 (_ : Params) : Obj := Obj.mk (Value.type "tuple") none (Data.seq #[Value.str (Str.ofString "numbers") 564, Value.str (Str.ofString "at") 565, Value.str (Str.ofString "number") 566]) #[]
noncomputable def o272 (_ : Params) : Obj := Obj.mk (Value.type "tuple") none (Data.seq #[]) #[]
noncomputable def o274 (_ : Params) : Obj := Obj.mk (Value.type "code") none (Data.fields #[Value.str (Str.ofString "wrong_place") 561, Value.str (Str.ofString "wrong_place") 562, Value.str (Str.ofString "/claim/cut.py") 563, Value.int 190 0, Value.int 1 0, Value.int 0 0, Value.int 0 0, Value.int 3 0, Value.ref 269, Value.bool true, Value.int 181 0, Value.ref 270, Value.none, Value.ref 271, Value.ref 272, Value.ref 273, Value.int 567 0, Value.int 190 0, Value.str (Str.ofString "/claim/cut.py") 568]) #[]
noncomputable def o275 (_ : Params) : Obj := fnO (stm 44) (by with_unfolding_all rfl) fun ar bd sc => Obj.mk (Value.type "function") none (Data.func (FuncData.mk (Str.ofString "wrong_place") (Str.ofString "wrong_place") ar (FuncBody.stmts bd) sc 3 [] Value.none Value.none Value.none (Value.str (Str.ofString "lua.loops") 553) none (Value.ref 274) Value.none 0)) #[]
noncomputable def o276 (_ : Params) : Obj := Obj.mk (Value.type "tuple") none (Data.seq #[]) #[]
noncomputable def o278 (_ : Params) : Obj := Obj.mk (Value.type "tuple") none (Data.seq #[Value.str (Str.ofString "first") 573, Value.str (Str.ofString "step") 574, Value.str (Str.ofString "width") 575]) #[]
noncomputable def o279 (_ : Params) : Obj := Obj.mk (Value.type "tuple") none (Data.seq #[]) #[]
noncomputable def o281 (_ : Params) : Obj := Obj.mk (Value.type "code") none (Data.fields #[Value.str (Str.ofString "before_first") 570, Value.str (Str.ofString "before_first") 571, Value.str (Str.ofString "/claim/cut.py") 572, Value.int 195 0, Value.int 3 0, Value.int 0 0, Value.int 0 0, Value.int 3 0, Value.ref 276, Value.bool true, Value.int 181 0, Value.ref 277, Value.none, Value.ref 278, Value.ref 279, Value.ref 280, Value.int 576 0, Value.int 195 0, Value.str (Str.ofString "/claim/cut.py") 577]) #[]
noncomputable def o282 (_ : Params) : Obj := fnO (stm 45) (by with_unfolding_all rfl) fun ar bd sc => Obj.mk (Value.type "function") none (Data.func (FuncData.mk (Str.ofString "before_first") (Str.ofString "before_first") ar (FuncBody.stmts bd) sc 3 [] Value.none Value.none Value.none (Value.str (Str.ofString "lua.loops") 553) none (Value.ref 281) Value.none 0)) #[]
noncomputable def o283 (_ : Params) : Obj := Obj.mk (Value.type "tuple") none (Data.seq #[]) #[]
noncomputable def o285 (_ : Params) : Obj := Obj.mk (Value.type "tuple") none (Data.seq #[Value.str (Str.ofString "number") 582, Value.str (Str.ofString "limit") 583, Value.str (Str.ofString "step") 584]) #[]
noncomputable def o286 (_ : Params) : Obj := Obj.mk (Value.type "tuple") none (Data.seq #[]) #[]
noncomputable def o288 (_ : Params) : Obj := Obj.mk (Value.type "code") none (Data.fields #[Value.str (Str.ofString "goes_on") 579, Value.str (Str.ofString "goes_on") 580, Value.str (Str.ofString "/claim/cut.py") 581, Value.int 197 0, Value.int 3 0, Value.int 0 0, Value.int 0 0, Value.int 3 0, Value.ref 283, Value.bool true, Value.int 181 0, Value.ref 284, Value.none, Value.ref 285, Value.ref 286, Value.ref 287, Value.int 585 0, Value.int 197 0, Value.str (Str.ofString "/claim/cut.py") 586]) #[]
noncomputable def o289 (_ : Params) : Obj := fnO (stm 46) (by with_unfolding_all rfl) fun ar bd sc => Obj.mk (Value.type "function") none (Data.func (FuncData.mk (Str.ofString "goes_on") (Str.ofString "goes_on") ar (FuncBody.stmts bd) sc 3 [] Value.none Value.none Value.none (Value.str (Str.ofString "lua.loops") 553) none (Value.ref 288) Value.none 0)) #[]
noncomputable def o290 (_ : Params) : Obj := Obj.mk (Value.type "tuple") none (Data.seq #[]) #[]
noncomputable def o292 (_ : Params) : Obj := Obj.mk (Value.type "tuple") none (Data.seq #[Value.str (Str.ofString "number") 591, Value.str (Str.ofString "limit") 592, Value.str (Str.ofString "step") 593, Value.str (Str.ofString "width") 594, Value.str (Str.ofString "later") 595]) #[]
noncomputable def o293 (_ : Params) : Obj := Obj.mk (Value.type "tuple") none (Data.seq #[]) #[]
noncomputable def o295 (_ : Params) : Obj := Obj.mk (Value.type "code") none (Data.fields #[Value.str (Str.ofString "next_number") 588, Value.str (Str.ofString "next_number") 589, Value.str (Str.ofString "/claim/cut.py") 590, Value.int 201 0, Value.int 4 0, Value.int 0 0, Value.int 0 0, Value.int 3 0, Value.ref 290, Value.bool true, Value.int 181 0, Value.ref 291, Value.none, Value.ref 292, Value.ref 293, Value.ref 294, Value.int 596 0, Value.int 201 0, Value.str (Str.ofString "/claim/cut.py") 597]) #[]
noncomputable def o296 (_ : Params) : Obj := fnO (stm 47) (by with_unfolding_all rfl) fun ar bd sc => Obj.mk (Value.type "function") none (Data.func (FuncData.mk (Str.ofString "next_number") (Str.ofString "next_number") ar (FuncBody.stmts bd) sc 3 [] Value.none Value.none Value.none (Value.str (Str.ofString "lua.loops") 553) none (Value.ref 295) Value.none 0)) #[]
noncomputable def o297 (_ : Params) : Obj := Obj.mk (Value.type "tuple") none (Data.seq #[]) #[]
noncomputable def o299 (_ : Params) : Obj := Obj.mk (Value.type "tuple") none (Data.seq #[Value.str (Str.ofString "op") 604, Value.str (Str.ofString "instruction") 605, Value.str (Str.ofString "stack") 606, Value.str (Str.ofString "base") 607, Value.str (Str.ofString "constants") 608, Value.str (Str.ofString "target") 609, Value.str (Str.ofString "at") 610]) #[]
noncomputable def o300 (_ : Params) : Obj := Obj.mk (Value.type "tuple") none (Data.seq #[]) #[]
noncomputable def o302 (_ : Params) : Obj := Obj.mk (Value.type "code") none (Data.fields #[Value.str (Str.ofString "load") 601, Value.str (Str.ofString "load") 602, Value.str (Str.ofString "/claim/cut.py") 603, Value.int 205 0, Value.int 5 0, Value.int 0 0, Value.int 0 0, Value.int 3 0, Value.ref 297, Value.bool true, Value.int 181 0, Value.ref 298, Value.none, Value.ref 299, Value.ref 300, Value.ref 301, Value.int 611 0, Value.int 205 0, Value.str (Str.ofString "/claim/cut.py") 612]) #[]
noncomputable def o303 (_ : Params) : Obj := fnO (stm 49) (by with_unfolding_all rfl) fun ar bd sc => Obj.mk (Value.type "function") none (Data.func (FuncData.mk (Str.ofString "load") (Str.ofString "load") ar (FuncBody.stmts bd) sc 3 [] Value.none Value.none Value.none (Value.str (Str.ofString "lua.orders") 599) none (Value.ref 302) Value.none 0)) #[]
noncomputable def o304 (_ : Params) : Obj := Obj.mk (Value.type "tuple") none (Data.seq #[]) #[]
noncomputable def o306 (_ : Params) : Obj := Obj.mk (Value.type "tuple") none (Data.seq #[Value.str (Str.ofString "stack") 617, Value.str (Str.ofString "base") 618, Value.str (Str.ofString "constants") 619, Value.str (Str.ofString "place") 620]) #[]
noncomputable def o307 (_ : Params) : Obj := Obj.mk (Value.type "tuple") none (Data.seq #[]) #[]
noncomputable def o309 (_ : Params) : Obj := Obj.mk (Value.type "code") none (Data.fields #[Value.str (Str.ofString "operand") 614, Value.str (Str.ofString "operand") 615, Value.str (Str.ofString "/claim/cut.py") 616, Value.int 218 0, Value.int 4 0, Value.int 0 0, Value.int 0 0, Value.int 3 0, Value.ref 304, Value.bool true, Value.int 181 0, Value.ref 305, Value.none, Value.ref 306, Value.ref 307, Value.ref 308, Value.int 621 0, Value.int 218 0, Value.str (Str.ofString "/claim/cut.py") 622]) #[]
noncomputable def o310 (_ : Params) : Obj := fnO (stm 50) (by with_unfolding_all rfl) fun ar bd sc => Obj.mk (Value.type "function") none (Data.func (FuncData.mk (Str.ofString "operand") (Str.ofString "operand") ar (FuncBody.stmts bd) sc 3 [] Value.none Value.none Value.none (Value.str (Str.ofString "lua.orders") 599) none (Value.ref 309) Value.none 0)) #[]
noncomputable def o311 (_ : Params) : Obj := Obj.mk (Value.type "tuple") none (Data.seq #[]) #[]
noncomputable def o313 (_ : Params) : Obj := Obj.mk (Value.type "tuple") none (Data.seq #[Value.str (Str.ofString "instruction") 627, Value.str (Str.ofString "stack") 628, Value.str (Str.ofString "base") 629, Value.str (Str.ofString "constants") 630, Value.str (Str.ofString "left") 631]) #[]
noncomputable def o314 (_ : Params) : Obj := Obj.mk (Value.type "tuple") none (Data.seq #[]) #[]
noncomputable def o316 (_ : Params) : Obj := Obj.mk (Value.type "code") none (Data.fields #[Value.str (Str.ofString "two_operands") 624, Value.str (Str.ofString "two_operands") 625, Value.str (Str.ofString "/claim/cut.py") 626, Value.int 222 0, Value.int 4 0, Value.int 0 0, Value.int 0 0, Value.int 3 0, Value.ref 311, Value.bool true, Value.int 181 0, Value.ref 312, Value.none, Value.ref 313, Value.ref 314, Value.ref 315, Value.int 632 0, Value.int 222 0, Value.str (Str.ofString "/claim/cut.py") 633]) #[]
noncomputable def o317 (_ : Params) : Obj := fnO (stm 51) (by with_unfolding_all rfl) fun ar bd sc => Obj.mk (Value.type "function") none (Data.func (FuncData.mk (Str.ofString "two_operands") (Str.ofString "two_operands") ar (FuncBody.stmts bd) sc 3 [] Value.none Value.none Value.none (Value.str (Str.ofString "lua.orders") 599) none (Value.ref 316) Value.none 0)) #[]
noncomputable def o318 (_ : Params) : Obj := Obj.mk (Value.type "tuple") none (Data.seq #[]) #[]
noncomputable def o320 (_ : Params) : Obj := Obj.mk (Value.type "tuple") none (Data.seq #[Value.str (Str.ofString "instruction") 638, Value.str (Str.ofString "found") 639]) #[]
noncomputable def o321 (_ : Params) : Obj := Obj.mk (Value.type "tuple") none (Data.seq #[]) #[]
noncomputable def o323 (_ : Params) : Obj := Obj.mk (Value.type "code") none (Data.fields #[Value.str (Str.ofString "is_compared") 635, Value.str (Str.ofString "is_compared") 636, Value.str (Str.ofString "/claim/cut.py") 637, Value.int 225 0, Value.int 2 0, Value.int 0 0, Value.int 0 0, Value.int 3 0, Value.ref 318, Value.bool true, Value.int 181 0, Value.ref 319, Value.none, Value.ref 320, Value.ref 321, Value.ref 322, Value.int 640 0, Value.int 225 0, Value.str (Str.ofString "/claim/cut.py") 641]) #[]
noncomputable def o324 (_ : Params) : Obj := fnO (stm 52) (by with_unfolding_all rfl) fun ar bd sc => Obj.mk (Value.type "function") none (Data.func (FuncData.mk (Str.ofString "is_compared") (Str.ofString "is_compared") ar (FuncBody.stmts bd) sc 3 [] Value.none Value.none Value.none (Value.str (Str.ofString "lua.orders") 599) none (Value.ref 323) Value.none 0)) #[]
noncomputable def o325 (_ : Params) : Obj := Obj.mk (Value.type "tuple") none (Data.seq #[]) #[]
noncomputable def o327 (_ : Params) : Obj := Obj.mk (Value.type "tuple") none (Data.seq #[Value.str (Str.ofString "instruction") 646, Value.str (Str.ofString "value") 647]) #[]
noncomputable def o328 (_ : Params) : Obj := Obj.mk (Value.type "tuple") none (Data.seq #[]) #[]
noncomputable def o330 (_ : Params) : Obj := Obj.mk (Value.type "code") none (Data.fields #[Value.str (Str.ofString "is_tested") 643, Value.str (Str.ofString "is_tested") 644, Value.str (Str.ofString "/claim/cut.py") 645, Value.int 227 0, Value.int 2 0, Value.int 0 0, Value.int 0 0, Value.int 3 0, Value.ref 325, Value.bool true, Value.int 181 0, Value.ref 326, Value.none, Value.ref 327, Value.ref 328, Value.ref 329, Value.int 648 0, Value.int 227 0, Value.str (Str.ofString "/claim/cut.py") 649]) #[]
noncomputable def o331 (_ : Params) : Obj := fnO (stm 53) (by with_unfolding_all rfl) fun ar bd sc => Obj.mk (Value.type "function") none (Data.func (FuncData.mk (Str.ofString "is_tested") (Str.ofString "is_tested") ar (FuncBody.stmts bd) sc 3 [] Value.none Value.none Value.none (Value.str (Str.ofString "lua.orders") 599) none (Value.ref 330) Value.none 0)) #[]
noncomputable def o332 (_ : Params) : Obj := Obj.mk (Value.type "tuple") none (Data.seq #[]) #[]
noncomputable def o334 (_ : Params) : Obj := Obj.mk (Value.type "tuple") none (Data.seq #[Value.str (Str.ofString "code") 654, Value.str (Str.ofString "pc") 655, Value.str (Str.ofString "goes") 656]) #[]
noncomputable def o335 (_ : Params) : Obj := Obj.mk (Value.type "tuple") none (Data.seq #[]) #[]
noncomputable def o337 (_ : Params) : Obj := Obj.mk (Value.type "code") none (Data.fields #[Value.str (Str.ofString "place_behind") 651, Value.str (Str.ofString "place_behind") 652, Value.str (Str.ofString "/claim/cut.py") 653, Value.int 229 0, Value.int 3 0, Value.int 0 0, Value.int 0 0, Value.int 3 0, Value.ref 332, Value.bool true, Value.int 181 0, Value.ref 333, Value.none, Value.ref 334, Value.ref 335, Value.ref 336, Value.int 657 0, Value.int 229 0, Value.str (Str.ofString "/claim/cut.py") 658]) #[]
noncomputable def o338 (_ : Params) : Obj := fnO (stm 54) (by with_unfolding_all rfl) fun ar bd sc => Obj.mk (Value.type "function") none (Data.func (FuncData.mk (Str.ofString "place_behind") (Str.ofString "place_behind") ar (FuncBody.stmts bd) sc 3 [] Value.none Value.none Value.none (Value.str (Str.ofString "lua.orders") 599) none (Value.ref 337) Value.none 0)) #[]
noncomputable def o339 (_ : Params) : Obj := Obj.mk (Value.type "tuple") none (Data.seq #[]) #[]
noncomputable def o341 (_ : Params) : Obj := Obj.mk (Value.type "tuple") none (Data.seq #[Value.str (Str.ofString "instruction") 663]) #[]
noncomputable def o342 (_ : Params) : Obj := Obj.mk (Value.type "tuple") none (Data.seq #[]) #[]
noncomputable def o344 (_ : Params) : Obj := Obj.mk (Value.type "code") none (Data.fields #[Value.str (Str.ofString "table_room") 660, Value.str (Str.ofString "table_room") 661, Value.str (Str.ofString "/claim/cut.py") 662, Value.int 231 0, Value.int 1 0, Value.int 0 0, Value.int 0 0, Value.int 3 0, Value.ref 339, Value.bool true, Value.int 181 0, Value.ref 340, Value.none, Value.ref 341, Value.ref 342, Value.ref 343, Value.int 664 0, Value.int 231 0, Value.str (Str.ofString "/claim/cut.py") 665]) #[]
noncomputable def o345 (_ : Params) : Obj := fnO (stm 55) (by with_unfolding_all rfl) fun ar bd sc => Obj.mk (Value.type "function") none (Data.func (FuncData.mk (Str.ofString "table_room") (Str.ofString "table_room") ar (FuncBody.stmts bd) sc 3 [] Value.none Value.none Value.none (Value.str (Str.ofString "lua.orders") 599) none (Value.ref 344) Value.none 0)) #[]
noncomputable def o346 (_ : Params) : Obj := Obj.mk (Value.type "tuple") none (Data.seq #[]) #[]
noncomputable def o348 (_ : Params) : Obj := Obj.mk (Value.type "tuple") none (Data.seq #[Value.str (Str.ofString "instruction") 670, Value.str (Str.ofString "code") 671, Value.str (Str.ofString "pc") 672, Value.str (Str.ofString "held") 673, Value.str (Str.ofString "flush") 674, Value.str (Str.ofString "many") 675, Value.str (Str.ofString "block") 676]) #[]
noncomputable def o349 (_ : Params) : Obj := Obj.mk (Value.type "tuple") none (Data.seq #[]) #[]
noncomputable def o351 (_ : Params) : Obj := Obj.mk (Value.type "code") none (Data.fields #[Value.str (Str.ofString "list_block") 667, Value.str (Str.ofString "list_block") 668, Value.str (Str.ofString "/claim/cut.py") 669, Value.int 233 0, Value.int 5 0, Value.int 0 0, Value.int 0 0, Value.int 3 0, Value.ref 346, Value.bool true, Value.int 181 0, Value.ref 347, Value.none, Value.ref 348, Value.ref 349, Value.ref 350, Value.int 677 0, Value.int 233 0, Value.str (Str.ofString "/claim/cut.py") 678]) #[]
noncomputable def o352 (_ : Params) : Obj := fnO (stm 56) (by with_unfolding_all rfl) fun ar bd sc => Obj.mk (Value.type "function") none (Data.func (FuncData.mk (Str.ofString "list_block") (Str.ofString "list_block") ar (FuncBody.stmts bd) sc 3 [] Value.none Value.none Value.none (Value.str (Str.ofString "lua.orders") 599) none (Value.ref 351) Value.none 0)) #[]
noncomputable def o353 (_ : Params) : Obj := Obj.mk (Value.type "tuple") none (Data.seq #[]) #[]
noncomputable def o355 (_ : Params) : Obj := Obj.mk (Value.type "tuple") none (Data.seq #[Value.str (Str.ofString "stack") 683, Value.str (Str.ofString "target") 684, Value.str (Str.ofString "limits") 685, Value.str (Str.ofString "numbers") 686, Value.str (Str.ofString "wrong") 687]) #[]
noncomputable def o356 (_ : Params) : Obj := Obj.mk (Value.type "tuple") none (Data.seq #[]) #[]
noncomputable def o358 (_ : Params) : Obj := Obj.mk (Value.type "code") none (Data.fields #[Value.str (Str.ofString "round_begun") 680, Value.str (Str.ofString "round_begun") 681, Value.str (Str.ofString "/claim/cut.py") 682, Value.int 240 0, Value.int 3 0, Value.int 0 0, Value.int 0 0, Value.int 3 0, Value.ref 353, Value.bool true, Value.int 181 0, Value.ref 354, Value.none, Value.ref 355, Value.ref 356, Value.ref 357, Value.int 688 0, Value.int 240 0, Value.str (Str.ofString "/claim/cut.py") 689]) #[]
noncomputable def o359 (_ : Params) : Obj := fnO (stm 57) (by with_unfolding_all rfl) fun ar bd sc => Obj.mk (Value.type "function") none (Data.func (FuncData.mk (Str.ofString "round_begun") (Str.ofString "round_begun") ar (FuncBody.stmts bd) sc 3 [] Value.none Value.none Value.none (Value.str (Str.ofString "lua.orders") 599) none (Value.ref 358) Value.none 0)) #[]
noncomputable def o360 (_ : Params) : Obj := Obj.mk (Value.type "tuple") none (Data.seq #[]) #[]
noncomputable def o362 (_ : Params) : Obj := Obj.mk (Value.type "tuple") none (Data.seq #[Value.str (Str.ofString "stack") 694, Value.str (Str.ofString "target") 695, Value.str (Str.ofString "limits") 696, Value.str (Str.ofString "found") 697]) #[]
noncomputable def o363 (_ : Params) : Obj := Obj.mk (Value.type "tuple") none (Data.seq #[]) #[]
noncomputable def o365 (_ : Params) : Obj := Obj.mk (Value.type "code") none (Data.fields #[Value.str (Str.ofString "round_gone") 691, Value.str (Str.ofString "round_gone") 692, Value.str (Str.ofString "/claim/cut.py") 693, Value.int 248 0, Value.int 3 0, Value.int 0 0, Value.int 0 0, Value.int 3 0, Value.ref 360, Value.bool true, Value.int 181 0, Value.ref 361, Value.none, Value.ref 362, Value.ref 363, Value.ref 364, Value.int 698 0, Value.int 248 0, Value.str (Str.ofString "/claim/cut.py") 699]) #[]
noncomputable def o366 (_ : Params) : Obj := fnO (stm 58) (by with_unfolding_all rfl) fun ar bd sc => Obj.mk (Value.type "function") none (Data.func (FuncData.mk (Str.ofString "round_gone") (Str.ofString "round_gone") ar (FuncBody.stmts bd) sc 3 [] Value.none Value.none Value.none (Value.str (Str.ofString "lua.orders") 599) none (Value.ref 365) Value.none 0)) #[]
noncomputable def o367 (_ : Params) : Obj := Obj.mk (Value.type "tuple") none (Data.seq #[]) #[]
noncomputable def o369 (_ : Params) : Obj := Obj.mk (Value.type "tuple") none (Data.seq #[Value.str (Str.ofString "stack") 704, Value.str (Str.ofString "target") 705, Value.str (Str.ofString "at") 706]) #[]
noncomputable def o370 (_ : Params) : Obj := Obj.mk (Value.type "tuple") none (Data.seq #[]) #[]
noncomputable def o372 (_ : Params) : Obj := Obj.mk (Value.type "code") none (Data.fields #[Value.str (Str.ofString "round_asked") 701, Value.str (Str.ofString "round_asked") 702, Value.str (Str.ofString "/claim/cut.py") 703, Value.int 255 0, Value.int 2 0, Value.int 0 0, Value.int 0 0, Value.int 3 0, Value.ref 367, Value.bool true, Value.int 181 0, Value.ref 368, Value.none, Value.ref 369, Value.ref 370, Value.ref 371, Value.int 707 0, Value.int 255 0, Value.str (Str.ofString "/claim/cut.py") 708]) #[]
noncomputable def o373 (_ : Params) : Obj := fnO (stm 59) (by with_unfolding_all rfl) fun ar bd sc => Obj.mk (Value.type "function") none (Data.func (FuncData.mk (Str.ofString "round_asked") (Str.ofString "round_asked") ar (FuncBody.stmts bd) sc 3 [] Value.none Value.none Value.none (Value.str (Str.ofString "lua.orders") 599) none (Value.ref 372) Value.none 0)) #[]
noncomputable def o374 (_ : Params) : Obj := Obj.mk (Value.type "tuple") none (Data.seq #[]) #[]
noncomputable def o376 (_ : Params) : Obj := Obj.mk (Value.type "tuple") none (Data.seq #[Value.str (Str.ofString "stack") 713, Value.str (Str.ofString "target") 714]) #[]
noncomputable def o377 (_ : Params) : Obj := Obj.mk (Value.type "tuple") none (Data.seq #[]) #[]
noncomputable def o379 (_ : Params) : Obj := Obj.mk (Value.type "code") none (Data.fields #[Value.str (Str.ofString "round_told") 710, Value.str (Str.ofString "round_told") 711, Value.str (Str.ofString "/claim/cut.py") 712, Value.int 259 0, Value.int 2 0, Value.int 0 0, Value.int 0 0, Value.int 3 0, Value.ref 374, Value.bool true, Value.int 181 0, Value.ref 375, Value.none, Value.ref 376, Value.ref 377, Value.ref 378, Value.int 715 0, Value.int 259 0, Value.str (Str.ofString "/claim/cut.py") 716]) #[]
noncomputable def o380 (_ : Params) : Obj := fnO (stm 60) (by with_unfolding_all rfl) fun ar bd sc => Obj.mk (Value.type "function") none (Data.func (FuncData.mk (Str.ofString "round_told") (Str.ofString "round_told") ar (FuncBody.stmts bd) sc 3 [] Value.none Value.none Value.none (Value.str (Str.ofString "lua.orders") 599) none (Value.ref 379) Value.none 0)) #[]
noncomputable def o381 (_ : Params) : Obj := Obj.mk (Value.type "list") none (Data.seq #[Value.bytes #[97, 100, 100] 720, Value.bytes #[115, 117, 98] 721, Value.bytes #[109, 117, 108] 722, Value.bytes #[100, 105, 118] 723, Value.bytes #[109, 111, 100] 724, Value.bytes #[112, 111, 119] 725, Value.bytes #[117, 110, 109] 726]) #[]
noncomputable def o382 (_ : Params) : Obj := Obj.mk (Value.type "tuple") none (Data.seq #[]) #[]
noncomputable def o384 (_ : Params) : Obj := Obj.mk (Value.type "tuple") none (Data.seq #[Value.str (Str.ofString "place") 743, Value.str (Str.ofString "one") 744, Value.str (Str.ofString "other") 745]) #[]
noncomputable def o385 (_ : Params) : Obj := Obj.mk (Value.type "tuple") none (Data.seq #[]) #[]
noncomputable def o387 (_ : Params) : Obj := Obj.mk (Value.type "code") none (Data.fields #[Value.str (Str.ofString "has_no_result") 740, Value.str (Str.ofString "has_no_result") 741, Value.str (Str.ofString "/claim/cut.py") 742, Value.int 272 0, Value.int 3 0, Value.int 0 0, Value.int 0 0, Value.int 3 0, Value.ref 382, Value.bool true, Value.int 181 0, Value.ref 383, Value.none, Value.ref 384, Value.ref 385, Value.ref 386, Value.int 746 0, Value.int 272 0, Value.str (Str.ofString "/claim/cut.py") 747]) #[]
noncomputable def o388 (_ : Params) : Obj := fnO (stm 69) (by with_unfolding_all rfl) fun ar bd sc => Obj.mk (Value.type "function") none (Data.func (FuncData.mk (Str.ofString "has_no_result") (Str.ofString "has_no_result") ar (FuncBody.stmts bd) sc 3 [] Value.none Value.none Value.none (Value.str (Str.ofString "lua.reckon") 718) none (Value.ref 387) Value.none 0)) #[]
noncomputable def o389 (_ : Params) : Obj := Obj.mk (Value.type "tuple") none (Data.seq #[]) #[]
noncomputable def o391 (_ : Params) : Obj := Obj.mk (Value.type "tuple") none (Data.seq #[Value.str (Str.ofString "place") 752, Value.str (Str.ofString "left") 753, Value.str (Str.ofString "right") 754, Value.str (Str.ofString "limits") 755, Value.str (Str.ofString "one") 756, Value.str (Str.ofString "other") 757]) #[]
noncomputable def o392 (_ : Params) : Obj := Obj.mk (Value.type "tuple") none (Data.seq #[]) #[]
noncomputable def o394 (_ : Params) : Obj := Obj.mk (Value.type "code") none (Data.fields #[Value.str (Str.ofString "reckon") 749, Value.str (Str.ofString "reckon") 750, Value.str (Str.ofString "/claim/cut.py") 751, Value.int 276 0, Value.int 4 0, Value.int 0 0, Value.int 0 0, Value.int 3 0, Value.ref 389, Value.bool true, Value.int 181 0, Value.ref 390, Value.none, Value.ref 391, Value.ref 392, Value.ref 393, Value.int 758 0, Value.int 276 0, Value.str (Str.ofString "/claim/cut.py") 759]) #[]
noncomputable def o395 (_ : Params) : Obj := fnO (stm 70) (by with_unfolding_all rfl) fun ar bd sc => Obj.mk (Value.type "function") none (Data.func (FuncData.mk (Str.ofString "reckon") (Str.ofString "reckon") ar (FuncBody.stmts bd) sc 3 [] Value.none Value.none Value.none (Value.str (Str.ofString "lua.reckon") 718) none (Value.ref 394) Value.none 0)) #[]
noncomputable def o403 (_ : Params) : Obj := Obj.mk (Value.type "tuple") none (Data.seq #[]) #[]
noncomputable def o405 (_ : Params) : Obj := Obj.mk (Value.type "tuple") none (Data.seq #[Value.str (Str.ofString "self") 784, Value.str (Str.ofString "new_table") 785, Value.str (Str.ofString "index") 786, Value.str (Str.ofString "put") 787, Value.str (Str.ofString "length") 788, Value.str (Str.ofString "compared") 789, Value.str (Str.ofString "called") 790]) #[]
noncomputable def o406 (_ : Params) : Obj := Obj.mk (Value.type "tuple") none (Data.seq #[]) #[]
noncomputable def o408 (_ : Params) : Obj := Obj.mk (Value.type "code") none (Data.fields #[Value.str (Str.ofString "__init__") 781, Value.str (Str.ofString "Works.__init__") 782, Value.str (Str.ofString "/claim/cut.py") 783, Value.int 289 0, Value.int 7 0, Value.int 0 0, Value.int 0 0, Value.int 3 0, Value.ref 403, Value.bool true, Value.int 181 0, Value.ref 404, Value.none, Value.ref 405, Value.ref 406, Value.ref 407, Value.int 791 0, Value.int 289 0, Value.str (Str.ofString "/claim/cut.py") 792]) #[]
noncomputable def o409 (_ : Params) : Obj := fnO (sub 0 (stm 75)) (by with_unfolding_all rfl) fun ar bd sc => Obj.mk (Value.type "function") none (Data.func (FuncData.mk (Str.ofString "__init__") (Str.ofString "Works.__init__") ar (FuncBody.stmts bd) sc 3 [] Value.none Value.none Value.none (Value.str (Str.ofString "lua.stepper") 761) none (Value.ref 408) Value.none 0)) #[]
noncomputable def o410 (_ : Params) : Obj := Obj.mk (Value.type "tuple") none (Data.seq #[Value.str (Str.ofString "called") 794, Value.str (Str.ofString "compared") 795, Value.str (Str.ofString "index") 796, Value.str (Str.ofString "length") 797, Value.str (Str.ofString "new_table") 798, Value.str (Str.ofString "put") 799]) #[]
noncomputable def o411 (P : Params) : Obj := Obj.mk (Value.type "dict") none (Data.dict #[DictEntry.mk (PyData.keyHash P (Str.ofString "__module__")) (Value.str (Str.ofString "__module__") 776) (Value.str (Str.ofString "lua.stepper") 761), DictEntry.mk (PyData.keyHash P (Str.ofString "__firstlineno__")) (Value.str (Str.ofString "__firstlineno__") 780) (Value.int 287 779), DictEntry.mk (PyData.keyHash P (Str.ofString "__init__")) (Value.str (Str.ofString "__init__") 793) (Value.ref 409), DictEntry.mk (PyData.keyHash P (Str.ofString "__static_attributes__")) (Value.str (Str.ofString "__static_attributes__") 800) (Value.ref 410), DictEntry.mk (PyData.keyHash P (Str.ofString "__dict__")) (Value.str (Str.ofString "__dict__") 802) (Value.ref 413), DictEntry.mk (PyData.keyHash P (Str.ofString "__weakref__")) (Value.str (Str.ofString "__weakref__") 804) (Value.ref 414), DictEntry.mk (PyData.keyHash P (Str.ofString "__doc__")) (Value.str (Str.ofString "__doc__") 805) Value.none] 4) #[]
noncomputable def o412 (_ : Params) : Obj := Obj.mk (Value.type "type") none (Data.cls (ClassData.mk (Str.ofString "Works") [Value.type "object"] [Value.ref 412, Value.type "object"] 411 (Str.ofString "Works") true [] [] false none false)) #[none, none, some (Value.str (Str.ofString "Works") 769), some (Value.str (Str.ofString "Works") 777), some (Value.builtin "object.__new__"), some (Value.bool true)]
noncomputable def o413 (_ : Params) : Obj := Obj.mk (Value.type "getset_descriptor") none (Data.fields #[Value.str (Str.ofString "__dict__") 801, Value.ref 412, Value.builtin "function.__dict__", Value.builtin "function.__dict__#set"]) #[]
noncomputable def o414 (_ : Params) : Obj := Obj.mk (Value.type "getset_descriptor") none (Data.fields #[Value.str (Str.ofString "__weakref__") 803, Value.ref 412, Value.builtin "ExceptionGroup.__weakref__", Value.none]) #[]
noncomputable def o424 (_ : Params) : Obj := Obj.mk (Value.type "tuple") none (Data.seq #[]) #[]
noncomputable def o426 (_ : Params) : Obj := Obj.mk (Value.type "tuple") none (Data.seq #[Value.str (Str.ofString "self") 823, Value.str (Str.ofString "code") 824, Value.str (Str.ofString "constants") 825, Value.str (Str.ofString "registers") 826, Value.str (Str.ofString "limits") 827, Value.str (Str.ofString "works") 828]) #[]
noncomputable def o427 (_ : Params) : Obj := Obj.mk (Value.type "tuple") none (Data.seq #[]) #[]
noncomputable def o429 (_ : Params) : Obj := Obj.mk (Value.type "code") none (Data.fields #[Value.str (Str.ofString "__init__") 820, Value.str (Str.ofString "Stepper.__init__") 821, Value.str (Str.ofString "/claim/cut.py") 822, Value.int 298 0, Value.int 6 0, Value.int 0 0, Value.int 0 0, Value.int 3 0, Value.ref 424, Value.bool true, Value.int 181 0, Value.ref 425, Value.none, Value.ref 426, Value.ref 427, Value.ref 428, Value.int 829 0, Value.int 298 0, Value.str (Str.ofString "/claim/cut.py") 830]) #[]
noncomputable def o430 (_ : Params) : Obj := fnO (sub 0 (stm 76)) (by with_unfolding_all rfl) fun ar bd sc => Obj.mk (Value.type "function") none (Data.func (FuncData.mk (Str.ofString "__init__") (Str.ofString "Stepper.__init__") ar (FuncBody.stmts bd) sc 3 [] Value.none Value.none Value.none (Value.str (Str.ofString "lua.stepper") 761) none (Value.ref 429) Value.none 0)) #[]
noncomputable def o431 (_ : Params) : Obj := Obj.mk (Value.type "tuple") none (Data.seq #[]) #[]
noncomputable def o433 (_ : Params) : Obj := Obj.mk (Value.type "tuple") none (Data.seq #[Value.str (Str.ofString "self") 835, Value.str (Str.ofString "most") 836, Value.str (Str.ofString "turn") 837, Value.str (Str.ofString "instruction") 838]) #[]
noncomputable def o434 (_ : Params) : Obj := Obj.mk (Value.type "tuple") none (Data.seq #[]) #[]
noncomputable def o436 (_ : Params) : Obj := Obj.mk (Value.type "code") none (Data.fields #[Value.str (Str.ofString "run") 832, Value.str (Str.ofString "Stepper.run") 833, Value.str (Str.ofString "/claim/cut.py") 834, Value.int 309 0, Value.int 2 0, Value.int 0 0, Value.int 0 0, Value.int 3 0, Value.ref 431, Value.bool true, Value.int 181 0, Value.ref 432, Value.none, Value.ref 433, Value.ref 434, Value.ref 435, Value.int 839 0, Value.int 309 0, Value.str (Str.ofString "/claim/cut.py") 840]) #[]
noncomputable def o437 (_ : Params) : Obj := fnO (sub 1 (stm 76)) (by with_unfolding_all rfl) fun ar bd sc => Obj.mk (Value.type "function") none (Data.func (FuncData.mk (Str.ofString "run") (Str.ofString "Stepper.run") ar (FuncBody.stmts bd) sc 3 [] Value.none Value.none Value.none (Value.str (Str.ofString "lua.stepper") 761) none (Value.ref 436) Value.none 0)) #[]
noncomputable def o438 (_ : Params) : Obj := Obj.mk (Value.type "tuple") none (Data.seq #[]) #[]
noncomputable def o440 (_ : Params) : Obj := Obj.mk (Value.type "tuple") none (Data.seq #[Value.str (Str.ofString "self") 845, Value.str (Str.ofString "op") 846, Value.str (Str.ofString "instruction") 847]) #[]
noncomputable def o441 (_ : Params) : Obj := Obj.mk (Value.type "tuple") none (Data.seq #[]) #[]
noncomputable def o443 (_ : Params) : Obj := Obj.mk (Value.type "code") none (Data.fields #[Value.str (Str.ofString "done") 842, Value.str (Str.ofString "Stepper.done") 843, Value.str (Str.ofString "/claim/cut.py") 844, Value.int 319 0, Value.int 3 0, Value.int 0 0, Value.int 0 0, Value.int 3 0, Value.ref 438, Value.bool true, Value.int 181 0, Value.ref 439, Value.none, Value.ref 440, Value.ref 441, Value.ref 442, Value.int 848 0, Value.int 319 0, Value.str (Str.ofString "/claim/cut.py") 849]) #[]
noncomputable def o444 (_ : Params) : Obj := fnO (sub 2 (stm 76)) (by with_unfolding_all rfl) fun ar bd sc => Obj.mk (Value.type "function") none (Data.func (FuncData.mk (Str.ofString "done") (Str.ofString "Stepper.done") ar (FuncBody.stmts bd) sc 3 [] Value.none Value.none Value.none (Value.str (Str.ofString "lua.stepper") 761) none (Value.ref 443) Value.none 0)) #[]
noncomputable def o445 (_ : Params) : Obj := Obj.mk (Value.type "tuple") none (Data.seq #[]) #[]
noncomputable def o447 (_ : Params) : Obj := Obj.mk (Value.type "tuple") none (Data.seq #[Value.str (Str.ofString "self") 854, Value.str (Str.ofString "op") 855, Value.str (Str.ofString "instruction") 856, Value.str (Str.ofString "works") 857, Value.str (Str.ofString "stack") 858, Value.str (Str.ofString "target") 859, Value.str (Str.ofString "work") 860, Value.str (Str.ofString "array") 861, Value.str (Str.ofString "others") 862, Value.str (Str.ofString "key") 863, Value.str (Str.ofString "value") 864, Value.str (Str.ofString "obj") 865]) #[]
noncomputable def o448 (_ : Params) : Obj := Obj.mk (Value.type "tuple") none (Data.seq #[]) #[]
noncomputable def o450 (_ : Params) : Obj := Obj.mk (Value.type "code") none (Data.fields #[Value.str (Str.ofString "done_table") 851, Value.str (Str.ofString "Stepper.done_table") 852, Value.str (Str.ofString "/claim/cut.py") 853, Value.int 333 0, Value.int 3 0, Value.int 0 0, Value.int 0 0, Value.int 3 0, Value.ref 445, Value.bool true, Value.int 181 0, Value.ref 446, Value.none, Value.ref 447, Value.ref 448, Value.ref 449, Value.int 866 0, Value.int 333 0, Value.str (Str.ofString "/claim/cut.py") 867]) #[]
noncomputable def o451 (_ : Params) : Obj := fnO (sub 3 (stm 76)) (by with_unfolding_all rfl) fun ar bd sc => Obj.mk (Value.type "function") none (Data.func (FuncData.mk (Str.ofString "done_table") (Str.ofString "Stepper.done_table") ar (FuncBody.stmts bd) sc 3 [] Value.none Value.none Value.none (Value.str (Str.ofString "lua.stepper") 761) none (Value.ref 450) Value.none 0)) #[]
noncomputable def o452 (_ : Params) : Obj := Obj.mk (Value.type "tuple") none (Data.seq #[]) #[]
noncomputable def o454 (_ : Params) : Obj := Obj.mk (Value.type "tuple") none (Data.seq #[Value.str (Str.ofString "self") 872, Value.str (Str.ofString "op") 873, Value.str (Str.ofString "instruction") 874, Value.str (Str.ofString "stack") 875, Value.str (Str.ofString "target") 876, Value.str (Str.ofString "left") 877, Value.str (Str.ofString "right") 878, Value.str (Str.ofString "work") 879, Value.str (Str.ofString "outcome") 880, Value.str (Str.ofString "found") 881]) #[]
noncomputable def o455 (_ : Params) : Obj := Obj.mk (Value.type "tuple") none (Data.seq #[]) #[]
noncomputable def o457 (_ : Params) : Obj := Obj.mk (Value.type "code") none (Data.fields #[Value.str (Str.ofString "done_reckoning") 869, Value.str (Str.ofString "Stepper.done_reckoning") 870, Value.str (Str.ofString "/claim/cut.py") 871, Value.int 353 0, Value.int 3 0, Value.int 0 0, Value.int 0 0, Value.int 3 0, Value.ref 452, Value.bool true, Value.int 181 0, Value.ref 453, Value.none, Value.ref 454, Value.ref 455, Value.ref 456, Value.int 882 0, Value.int 353 0, Value.str (Str.ofString "/claim/cut.py") 883]) #[]
noncomputable def o458 (_ : Params) : Obj := fnO (sub 4 (stm 76)) (by with_unfolding_all rfl) fun ar bd sc => Obj.mk (Value.type "function") none (Data.func (FuncData.mk (Str.ofString "done_reckoning") (Str.ofString "Stepper.done_reckoning") ar (FuncBody.stmts bd) sc 3 [] Value.none Value.none Value.none (Value.str (Str.ofString "lua.stepper") 761) none (Value.ref 457) Value.none 0)) #[]
noncomputable def o459 (_ : Params) : Obj := Obj.mk (Value.type "tuple") none (Data.seq #[]) #[]
noncomputable def o461 (_ : Params) : Obj := Obj.mk (Value.type "tuple") none (Data.seq #[Value.str (Str.ofString "self") 888, Value.str (Str.ofString "instruction") 889, Value.str (Str.ofString "first") 890, Value.str (Str.ofString "last") 891, Value.str (Str.ofString "outcome") 892, Value.str (Str.ofString "taken") 893, Value.str (Str.ofString "found") 894]) #[]
noncomputable def o462 (_ : Params) : Obj := Obj.mk (Value.type "tuple") none (Data.seq #[]) #[]
noncomputable def o464 (_ : Params) : Obj := Obj.mk (Value.type "code") none (Data.fields #[Value.str (Str.ofString "done_join") 885, Value.str (Str.ofString "Stepper.done_join") 886, Value.str (Str.ofString "/claim/cut.py") 887, Value.int 371 0, Value.int 2 0, Value.int 0 0, Value.int 0 0, Value.int 3 0, Value.ref 459, Value.bool true, Value.int 181 0, Value.ref 460, Value.none, Value.ref 461, Value.ref 462, Value.ref 463, Value.int 895 0, Value.int 371 0, Value.str (Str.ofString "/claim/cut.py") 896]) #[]
noncomputable def o465 (_ : Params) : Obj := fnO (sub 5 (stm 76)) (by with_unfolding_all rfl) fun ar bd sc => Obj.mk (Value.type "function") none (Data.func (FuncData.mk (Str.ofString "done_join") (Str.ofString "Stepper.done_join") ar (FuncBody.stmts bd) sc 3 [] Value.none Value.none Value.none (Value.str (Str.ofString "lua.stepper") 761) none (Value.ref 464) Value.none 0)) #[]
noncomputable def o466 (_ : Params) : Obj := Obj.mk (Value.type "tuple") none (Data.seq #[]) #[]
noncomputable def o468 (_ : Params) : Obj := Obj.mk (Value.type "tuple") none (Data.seq #[Value.str (Str.ofString "self") 901, Value.str (Str.ofString "op") 902, Value.str (Str.ofString "instruction") 903, Value.str (Str.ofString "left") 904, Value.str (Str.ofString "right") 905, Value.str (Str.ofString "work") 906, Value.str (Str.ofString "found") 907, Value.str (Str.ofString "goes") 908, Value.str (Str.ofString "value") 909]) #[]
noncomputable def o469 (_ : Params) : Obj := Obj.mk (Value.type "tuple") none (Data.seq #[]) #[]
noncomputable def o471 (_ : Params) : Obj := Obj.mk (Value.type "code") none (Data.fields #[Value.str (Str.ofString "done_jump") 898, Value.str (Str.ofString "Stepper.done_jump") 899, Value.str (Str.ofString "/claim/cut.py") 900, Value.int 382 0, Value.int 3 0, Value.int 0 0, Value.int 0 0, Value.int 3 0, Value.ref 466, Value.bool true, Value.int 181 0, Value.ref 467, Value.none, Value.ref 468, Value.ref 469, Value.ref 470, Value.int 910 0, Value.int 382 0, Value.str (Str.ofString "/claim/cut.py") 911]) #[]
noncomputable def o472 (_ : Params) : Obj := fnO (sub 6 (stm 76)) (by with_unfolding_all rfl) fun ar bd sc => Obj.mk (Value.type "function") none (Data.func (FuncData.mk (Str.ofString "done_jump") (Str.ofString "Stepper.done_jump") ar (FuncBody.stmts bd) sc 3 [] Value.none Value.none Value.none (Value.str (Str.ofString "lua.stepper") 761) none (Value.ref 471) Value.none 0)) #[]
noncomputable def o473 (_ : Params) : Obj := Obj.mk (Value.type "tuple") none (Data.seq #[]) #[]
noncomputable def o475 (_ : Params) : Obj := Obj.mk (Value.type "tuple") none (Data.seq #[Value.str (Str.ofString "self") 916, Value.str (Str.ofString "op") 917, Value.str (Str.ofString "instruction") 918, Value.str (Str.ofString "target") 919, Value.str (Str.ofString "many") 920, Value.str (Str.ofString "func") 921]) #[]
noncomputable def o476 (_ : Params) : Obj := Obj.mk (Value.type "tuple") none (Data.seq #[]) #[]
noncomputable def o478 (_ : Params) : Obj := Obj.mk (Value.type "code") none (Data.fields #[Value.str (Str.ofString "done_other") 913, Value.str (Str.ofString "Stepper.done_other") 914, Value.str (Str.ofString "/claim/cut.py") 915, Value.int 401 0, Value.int 3 0, Value.int 0 0, Value.int 0 0, Value.int 3 0, Value.ref 473, Value.bool true, Value.int 181 0, Value.ref 474, Value.none, Value.ref 475, Value.ref 476, Value.ref 477, Value.int 922 0, Value.int 401 0, Value.str (Str.ofString "/claim/cut.py") 923]) #[]
noncomputable def o479 (_ : Params) : Obj := fnO (sub 7 (stm 76)) (by with_unfolding_all rfl) fun ar bd sc => Obj.mk (Value.type "function") none (Data.func (FuncData.mk (Str.ofString "done_other") (Str.ofString "Stepper.done_other") ar (FuncBody.stmts bd) sc 3 [] Value.none Value.none Value.none (Value.str (Str.ofString "lua.stepper") 761) none (Value.ref 478) Value.none 0)) #[]
noncomputable def o480 (_ : Params) : Obj := Obj.mk (Value.type "tuple") none (Data.seq #[]) #[]
noncomputable def o482 (_ : Params) : Obj := Obj.mk (Value.type "tuple") none (Data.seq #[Value.str (Str.ofString "self") 928, Value.str (Str.ofString "func") 929, Value.str (Str.ofString "many") 930, Value.str (Str.ofString "wanted") 931, Value.str (Str.ofString "work") 932, Value.str (Str.ofString "found") 933, Value.str (Str.ofString "at") 934, Value.str (Str.ofString "value") 935]) #[]
noncomputable def o483 (_ : Params) : Obj := Obj.mk (Value.type "tuple") none (Data.seq #[]) #[]
noncomputable def o485 (_ : Params) : Obj := Obj.mk (Value.type "code") none (Data.fields #[Value.str (Str.ofString "call_at") 925, Value.str (Str.ofString "Stepper.call_at") 926, Value.str (Str.ofString "/claim/cut.py") 927, Value.int 424 0, Value.int 4 0, Value.int 0 0, Value.int 0 0, Value.int 3 0, Value.ref 480, Value.bool true, Value.int 181 0, Value.ref 481, Value.none, Value.ref 482, Value.ref 483, Value.ref 484, Value.int 936 0, Value.int 424 0, Value.str (Str.ofString "/claim/cut.py") 937]) #[]
noncomputable def o486 (_ : Params) : Obj := fnO (sub 8 (stm 76)) (by with_unfolding_all rfl) fun ar bd sc => Obj.mk (Value.type "function") none (Data.func (FuncData.mk (Str.ofString "call_at") (Str.ofString "Stepper.call_at") ar (FuncBody.stmts bd) sc 3 [] Value.none Value.none Value.none (Value.str (Str.ofString "lua.stepper") 761) none (Value.ref 485) Value.none 0)) #[]
noncomputable def o487 (_ : Params) : Obj := Obj.mk (Value.type "tuple") none (Data.seq #[]) #[]
noncomputable def o489 (_ : Params) : Obj := Obj.mk (Value.type "tuple") none (Data.seq #[Value.str (Str.ofString "self") 942, Value.str (Str.ofString "instruction") 943, Value.str (Str.ofString "func") 944, Value.str (Str.ofString "many") 945]) #[]
noncomputable def o490 (_ : Params) : Obj := Obj.mk (Value.type "tuple") none (Data.seq #[]) #[]
noncomputable def o492 (_ : Params) : Obj := Obj.mk (Value.type "code") none (Data.fields #[Value.str (Str.ofString "done_call") 939, Value.str (Str.ofString "Stepper.done_call") 940, Value.str (Str.ofString "/claim/cut.py") 941, Value.int 434 0, Value.int 2 0, Value.int 0 0, Value.int 0 0, Value.int 3 0, Value.ref 487, Value.bool true, Value.int 181 0, Value.ref 488, Value.none, Value.ref 489, Value.ref 490, Value.ref 491, Value.int 946 0, Value.int 434 0, Value.str (Str.ofString "/claim/cut.py") 947]) #[]
noncomputable def o493 (_ : Params) : Obj := fnO (sub 9 (stm 76)) (by with_unfolding_all rfl) fun ar bd sc => Obj.mk (Value.type "function") none (Data.func (FuncData.mk (Str.ofString "done_call") (Str.ofString "Stepper.done_call") ar (FuncBody.stmts bd) sc 3 [] Value.none Value.none Value.none (Value.str (Str.ofString "lua.stepper") 761) none (Value.ref 492) Value.none 0)) #[]
noncomputable def o494 (_ : Params) : Obj := Obj.mk (Value.type "tuple") none (Data.seq #[]) #[]
noncomputable def o496 (_ : Params) : Obj := Obj.mk (Value.type "tuple") none (Data.seq #[Value.str (Str.ofString "self") 952, Value.str (Str.ofString "instruction") 953, Value.str (Str.ofString "target") 954, Value.str (Str.ofString "held") 955, Value.str (Str.ofString "ahead") 956, Value.str (Str.ofString "many") 957, Value.str (Str.ofString "work") 958, Value.str (Str.ofString "at") 959]) #[]
noncomputable def o497 (_ : Params) : Obj := Obj.mk (Value.type "tuple") none (Data.seq #[]) #[]
noncomputable def o499 (_ : Params) : Obj := Obj.mk (Value.type "code") none (Data.fields #[Value.str (Str.ofString "done_list") 949, Value.str (Str.ofString "Stepper.done_list") 950, Value.str (Str.ofString "/claim/cut.py") 951, Value.int 440 0, Value.int 2 0, Value.int 0 0, Value.int 0 0, Value.int 3 0, Value.ref 494, Value.bool true, Value.int 181 0, Value.ref 495, Value.none, Value.ref 496, Value.ref 497, Value.ref 498, Value.int 960 0, Value.int 440 0, Value.str (Str.ofString "/claim/cut.py") 961]) #[]
noncomputable def o500 (_ : Params) : Obj := fnO (sub 10 (stm 76)) (by with_unfolding_all rfl) fun ar bd sc => Obj.mk (Value.type "function") none (Data.func (FuncData.mk (Str.ofString "done_list") (Str.ofString "Stepper.done_list") ar (FuncBody.stmts bd) sc 3 [] Value.none Value.none Value.none (Value.str (Str.ofString "lua.stepper") 761) none (Value.ref 499) Value.none 0)) #[]
noncomputable def o501 (_ : Params) : Obj := Obj.mk (Value.type "tuple") none (Data.seq #[Value.str (Str.ofString "code") 963, Value.str (Str.ofString "constants") 964, Value.str (Str.ofString "limits") 965, Value.str (Str.ofString "pc") 966, Value.str (Str.ofString "result") 967, Value.str (Str.ofString "room") 968, Value.str (Str.ofString "stack") 969, Value.str (Str.ofString "top") 970, Value.str (Str.ofString "works") 971]) #[]
noncomputable def o502 (P : Params) : Obj := Obj.mk (Value.type "dict") none (Data.dict #[DictEntry.mk (PyData.keyHash P (Str.ofString "__module__")) (Value.str (Str.ofString "__module__") 815) (Value.str (Str.ofString "lua.stepper") 761), DictEntry.mk (PyData.keyHash P (Str.ofString "__firstlineno__")) (Value.str (Str.ofString "__firstlineno__") 819) (Value.int 296 818), DictEntry.mk (PyData.keyHash P (Str.ofString "__init__")) (Value.str (Str.ofString "__init__") 831) (Value.ref 430), DictEntry.mk (PyData.keyHash P (Str.ofString "run")) (Value.str (Str.ofString "run") 841) (Value.ref 437), DictEntry.mk (PyData.keyHash P (Str.ofString "done")) (Value.str (Str.ofString "done") 850) (Value.ref 444), DictEntry.mk (PyData.keyHash P (Str.ofString "done_table")) (Value.str (Str.ofString "done_table") 868) (Value.ref 451), DictEntry.mk (PyData.keyHash P (Str.ofString "done_reckoning")) (Value.str (Str.ofString "done_reckoning") 884) (Value.ref 458), DictEntry.mk (PyData.keyHash P (Str.ofString "done_join")) (Value.str (Str.ofString "done_join") 897) (Value.ref 465), DictEntry.mk (PyData.keyHash P (Str.ofString "done_jump")) (Value.str (Str.ofString "done_jump") 912) (Value.ref 472), DictEntry.mk (PyData.keyHash P (Str.ofString "done_other")) (Value.str (Str.ofString "done_other") 924) (Value.ref 479), DictEntry.mk (PyData.keyHash P (Str.ofString "call_at")) (Value.str (Str.ofString "call_at") 938) (Value.ref 486), DictEntry.mk (PyData.keyHash P (Str.ofString "done_call")) (Value.str (Str.ofString "done_call") 948) (Value.ref 493), DictEntry.mk (PyData.keyHash P (Str.ofString "done_list")) (Value.str (Str.ofString "done_list") 962) (Value.ref 500), DictEntry.mk (PyData.keyHash P (Str.ofString "__static_attributes__")) (Value.str (Str.ofString "__static_attributes__") 972) (Value.ref 501), DictEntry.mk (PyData.keyHash P (Str.ofString "__dict__")) (Value.str (Str.ofString "__dict__") 974) (Value.ref 504), DictEntry.mk (PyData.keyHash P (Str.ofString "__weakref__")) (Value.str (Str.ofString "__weakref__") 976) (Value.ref 505), DictEntry.mk (PyData.keyHash P (Str.ofString "__doc__")) (Value.str (Str.ofString "__doc__") 977) Value.none] 4) #[]
noncomputable def o503 (_ : Params) : Obj := Obj.mk (Value.type "type") none (Data.cls (ClassData.mk (Str.ofString "Stepper") [Value.type "object"] [Value.ref 503, Value.type "object"] 502 (Str.ofString "Stepper") true [] [] false none false)) #[none, none, some (Value.str (Str.ofString "Stepper") 808), some (Value.str (Str.ofString "Stepper") 816), some (Value.builtin "object.__new__"), some (Value.bool true)]
noncomputable def o504 (_ : Params) : Obj := Obj.mk (Value.type "getset_descriptor") none (Data.fields #[Value.str (Str.ofString "__dict__") 973, Value.ref 503, Value.builtin "function.__dict__", Value.builtin "function.__dict__#set"]) #[]
noncomputable def o505 (_ : Params) : Obj := Obj.mk (Value.type "getset_descriptor") none (Data.fields #[Value.str (Str.ofString "__weakref__") 975, Value.ref 503, Value.builtin "ExceptionGroup.__weakref__", Value.none]) #[]
noncomputable def o508 (P : Params) : Obj := Obj.mk (Value.type "dict") none (Data.dict #[DictEntry.mk (PyData.keyHash P (Str.ofString "MOVE")) (Value.str (Str.ofString "MOVE") 982) (Value.int 0 983), DictEntry.mk (PyData.keyHash P (Str.ofString "LOADBOOL")) (Value.str (Str.ofString "LOADBOOL") 984) (Value.int 2 985), DictEntry.mk (PyData.keyHash P (Str.ofString "LOADNIL")) (Value.str (Str.ofString "LOADNIL") 986) (Value.int 3 987), DictEntry.mk (PyData.keyHash P (Str.ofString "ADD")) (Value.str (Str.ofString "ADD") 988) (Value.int 12 989), DictEntry.mk (PyData.keyHash P (Str.ofString "SUB")) (Value.str (Str.ofString "SUB") 990) (Value.int 13 991), DictEntry.mk (PyData.keyHash P (Str.ofString "MUL")) (Value.str (Str.ofString "MUL") 992) (Value.int 14 993), DictEntry.mk (PyData.keyHash P (Str.ofString "DIV")) (Value.str (Str.ofString "DIV") 994) (Value.int 15 995), DictEntry.mk (PyData.keyHash P (Str.ofString "MOD")) (Value.str (Str.ofString "MOD") 996) (Value.int 16 997), DictEntry.mk (PyData.keyHash P (Str.ofString "POW")) (Value.str (Str.ofString "POW") 998) (Value.int 17 999), DictEntry.mk (PyData.keyHash P (Str.ofString "UNM")) (Value.str (Str.ofString "UNM") 1000) (Value.int 18 1001), DictEntry.mk (PyData.keyHash P (Str.ofString "NOT")) (Value.str (Str.ofString "NOT") 1002) (Value.int 19 1003), DictEntry.mk (PyData.keyHash P (Str.ofString "LEN")) (Value.str (Str.ofString "LEN") 1004) (Value.int 20 1005), DictEntry.mk (PyData.keyHash P (Str.ofString "CONCAT")) (Value.str (Str.ofString "CONCAT") 1006) (Value.int 21 1007), DictEntry.mk (PyData.keyHash P (Str.ofString "RETURN")) (Value.str (Str.ofString "RETURN") 1008) (Value.int 30 1009)] 14) #[]
noncomputable def o509 (_ : Params) : Obj := Obj.mk (Value.type "list") none (Data.seq #[Value.int 0 1025, Value.int 1 1026, Value.int 2 1027, Value.int (-3) 1029, Value.int 7 1030, Value.int 30 1031, Value.bytes #[53] 1032, Value.bytes #[97, 98] 1033, Value.bytes #[] 1034, Value.none, Value.bool true, Value.bool false]) #[]
noncomputable def o510 (_ : Params) : Obj := Obj.mk (Value.type "list") none (Data.seq #[Value.int 3 1036, Value.int (-1) 1038, Value.bytes #[55] 1039, Value.bytes #[113] 1040, Value.int 0 1041, Value.int (-2) 1043]) #[]
noncomputable def o511 (_ : Params) : Obj := Obj.mk (Value.type "tuple") none (Data.seq #[]) #[]
noncomputable def o513 (_ : Params) : Obj := Obj.mk (Value.type "tuple") none (Data.seq #[Value.str (Str.ofString "box") 1048, Value.str (Str.ofString "many") 1049, Value.str (Str.ofString "digit") 1050]) #[]
noncomputable def o514 (_ : Params) : Obj := Obj.mk (Value.type "tuple") none (Data.seq #[]) #[]
noncomputable def o516 (_ : Params) : Obj := Obj.mk (Value.type "code") none (Data.fields #[Value.str (Str.ofString "_law_take") 1045, Value.str (Str.ofString "_law_take") 1046, Value.str (Str.ofString "/claim/cut.py") 1047, Value.int 454 0, Value.int 2 0, Value.int 0 0, Value.int 0 0, Value.int 3 0, Value.ref 511, Value.bool true, Value.int 181 0, Value.ref 512, Value.none, Value.ref 513, Value.ref 514, Value.ref 515, Value.int 1051 0, Value.int 454 0, Value.str (Str.ofString "/claim/cut.py") 1052]) #[]
noncomputable def o517 (_ : Params) : Obj := fnO (stm 81) (by with_unfolding_all rfl) fun ar bd sc => Obj.mk (Value.type "function") none (Data.func (FuncData.mk (Str.ofString "_law_take") (Str.ofString "_law_take") ar (FuncBody.stmts bd) sc 3 [] Value.none Value.none Value.none (Value.str (Str.ofString "law_pc0174_01") 980) none (Value.ref 516) Value.none 0)) #[]
noncomputable def o518 (_ : Params) : Obj := Obj.mk (Value.type "tuple") none (Data.seq #[]) #[]
noncomputable def o520 (_ : Params) : Obj := Obj.mk (Value.type "tuple") none (Data.seq #[Value.str (Str.ofString "script") 1057, Value.str (Str.ofString "grand") 1058, Value.str (Str.ofString "one") 1059]) #[]
noncomputable def o521 (_ : Params) : Obj := Obj.mk (Value.type "tuple") none (Data.seq #[]) #[]
noncomputable def o523 (_ : Params) : Obj := Obj.mk (Value.type "code") none (Data.fields #[Value.str (Str.ofString "_law_grand") 1054, Value.str (Str.ofString "_law_grand") 1055, Value.str (Str.ofString "/claim/cut.py") 1056, Value.int 461 0, Value.int 1 0, Value.int 0 0, Value.int 0 0, Value.int 3 0, Value.ref 518, Value.bool true, Value.int 181 0, Value.ref 519, Value.none, Value.ref 520, Value.ref 521, Value.ref 522, Value.int 1060 0, Value.int 461 0, Value.str (Str.ofString "/claim/cut.py") 1061]) #[]
noncomputable def o524 (_ : Params) : Obj := fnO (stm 82) (by with_unfolding_all rfl) fun ar bd sc => Obj.mk (Value.type "function") none (Data.func (FuncData.mk (Str.ofString "_law_grand") (Str.ofString "_law_grand") ar (FuncBody.stmts bd) sc 3 [] Value.none Value.none Value.none (Value.str (Str.ofString "law_pc0174_01") 980) none (Value.ref 523) Value.none 0)) #[]
noncomputable def o525 (_ : Params) : Obj := Obj.mk (Value.type "tuple") none (Data.seq #[]) #[]
noncomputable def o527 (_ : Params) : Obj := Obj.mk (Value.type "tuple") none (Data.seq #[Value.str (Str.ofString "rows") 1066, Value.str (Str.ofString "numbers") 1067, Value.str (Str.ofString "code") 1068, Value.str (Str.ofString "name") 1069, Value.str (Str.ofString "a") 1070, Value.str (Str.ofString "b") 1071, Value.str (Str.ofString "c") 1072]) #[]
noncomputable def o528 (_ : Params) : Obj := Obj.mk (Value.type "tuple") none (Data.seq #[]) #[]
noncomputable def o530 (_ : Params) : Obj := Obj.mk (Value.type "code") none (Data.fields #[Value.str (Str.ofString "_law_coded") 1063, Value.str (Str.ofString "_law_coded") 1064, Value.str (Str.ofString "/claim/cut.py") 1065, Value.int 466 0, Value.int 2 0, Value.int 0 0, Value.int 0 0, Value.int 3 0, Value.ref 525, Value.bool true, Value.int 181 0, Value.ref 526, Value.none, Value.ref 527, Value.ref 528, Value.ref 529, Value.int 1073 0, Value.int 466 0, Value.str (Str.ofString "/claim/cut.py") 1074]) #[]
noncomputable def o531 (_ : Params) : Obj := fnO (stm 83) (by with_unfolding_all rfl) fun ar bd sc => Obj.mk (Value.type "function") none (Data.func (FuncData.mk (Str.ofString "_law_coded") (Str.ofString "_law_coded") ar (FuncBody.stmts bd) sc 3 [] Value.none Value.none Value.none (Value.str (Str.ofString "law_pc0174_01") 980) none (Value.ref 530) Value.none 0)) #[]
noncomputable def o532 (_ : Params) : Obj := Obj.mk (Value.type "tuple") none (Data.seq #[]) #[]
noncomputable def o534 (_ : Params) : Obj := Obj.mk (Value.type "tuple") none (Data.seq #[Value.str (Str.ofString "length") 1079, Value.str (Str.ofString "compared") 1080, Value.str (Str.ofString "called") 1081, Value.str (Str.ofString "none") 1082]) #[]
noncomputable def o535 (_ : Params) : Obj := Obj.mk (Value.type "tuple") none (Data.seq #[]) #[]
noncomputable def o537 (_ : Params) : Obj := Obj.mk (Value.type "code") none (Data.fields #[Value.str (Str.ofString "_law_works") 1076, Value.str (Str.ofString "_law_works") 1077, Value.str (Str.ofString "/claim/cut.py") 1078, Value.int 478 0, Value.int 3 0, Value.int 0 0, Value.int 0 0, Value.int 3 0, Value.ref 532, Value.bool true, Value.int 181 0, Value.ref 533, Value.none, Value.ref 534, Value.ref 535, Value.ref 536, Value.int 1083 0, Value.int 478 0, Value.str (Str.ofString "/claim/cut.py") 1084]) #[]
noncomputable def o538 (_ : Params) : Obj := fnO (stm 84) (by with_unfolding_all rfl) fun ar bd sc => Obj.mk (Value.type "function") none (Data.func (FuncData.mk (Str.ofString "_law_works") (Str.ofString "_law_works") ar (FuncBody.stmts bd) sc 3 [] Value.none Value.none Value.none (Value.str (Str.ofString "law_pc0174_01") 980) none (Value.ref 537) Value.none 0)) #[]
noncomputable def o539 (_ : Params) : Obj := Obj.mk (Value.type "tuple") none (Data.seq #[]) #[]
noncomputable def o541 (_ : Params) : Obj := Obj.mk (Value.type "tuple") none (Data.seq #[Value.str (Str.ofString "number") 1089, Value.str (Str.ofString "width") 1090, Value.str (Str.ofString "rest") 1091]) #[]
noncomputable def o542 (_ : Params) : Obj := Obj.mk (Value.type "tuple") none (Data.seq #[]) #[]
noncomputable def o544 (_ : Params) : Obj := Obj.mk (Value.type "code") none (Data.fields #[Value.str (Str.ofString "_law_wrapped") 1086, Value.str (Str.ofString "_law_wrapped") 1087, Value.str (Str.ofString "/claim/cut.py") 1088, Value.int 481 0, Value.int 2 0, Value.int 0 0, Value.int 0 0, Value.int 3 0, Value.ref 539, Value.bool true, Value.int 181 0, Value.ref 540, Value.none, Value.ref 541, Value.ref 542, Value.ref 543, Value.int 1092 0, Value.int 481 0, Value.str (Str.ofString "/claim/cut.py") 1093]) #[]
noncomputable def o545 (_ : Params) : Obj := fnO (stm 85) (by with_unfolding_all rfl) fun ar bd sc => Obj.mk (Value.type "function") none (Data.func (FuncData.mk (Str.ofString "_law_wrapped") (Str.ofString "_law_wrapped") ar (FuncBody.stmts bd) sc 3 [] Value.none Value.none Value.none (Value.str (Str.ofString "law_pc0174_01") 980) none (Value.ref 544) Value.none 0)) #[]
noncomputable def o546 (_ : Params) : Obj := Obj.mk (Value.type "tuple") none (Data.seq #[]) #[]
noncomputable def o549 (_ : Params) : Obj := Obj.mk (Value.type "code") none (Data.fields #[Value.str (Str.ofString "_law_number") 1095, Value.str (Str.ofString "_law_number") 1096, Value.str (Str.ofString "/claim/cut.py") 1097, Value.int 484 0, Value.int 2 0, Value.int 0 0, Value.int 0 0, Value.int 3 0, Value.ref 546, Value.bool true, Value.int 181 0, Value.ref 547, Value.none, Value.none, Value.none, Value.ref 548, Value.int 1098 0, Value.int 484 0, Value.str (Str.ofString "/claim/cut.py") 1099]) #[]
noncomputable def o550 (_ : Params) : Obj := fnO (stm 86) (by with_unfolding_all rfl) fun ar bd sc => Obj.mk (Value.type "function") none (Data.func (FuncData.mk (Str.ofString "_law_number") (Str.ofString "_law_number") ar (FuncBody.stmts bd) sc 3 [] Value.none Value.none Value.none (Value.str (Str.ofString "law_pc0174_01") 980) none (Value.ref 549) Value.none 0)) #[]
noncomputable def o551 (_ : Params) : Obj := Obj.mk (Value.type "tuple") none (Data.seq #[]) #[]
noncomputable def o553 (_ : Params) : Obj := Obj.mk (Value.type "tuple") none (Data.seq #[Value.str (Str.ofString "value") 1104]) #[]
noncomputable def o554 (_ : Params) : Obj := Obj.mk (Value.type "tuple") none (Data.seq #[]) #[]
noncomputable def o556 (_ : Params) : Obj := Obj.mk (Value.type "code") none (Data.fields #[Value.str (Str.ofString "_law_text") 1101, Value.str (Str.ofString "_law_text") 1102, Value.str (Str.ofString "/claim/cut.py") 1103, Value.int 496 0, Value.int 1 0, Value.int 0 0, Value.int 0 0, Value.int 3 0, Value.ref 551, Value.bool true, Value.int 181 0, Value.ref 552, Value.none, Value.ref 553, Value.ref 554, Value.ref 555, Value.int 1105 0, Value.int 496 0, Value.str (Str.ofString "/claim/cut.py") 1106]) #[]
noncomputable def o557 (_ : Params) : Obj := fnO (stm 87) (by with_unfolding_all rfl) fun ar bd sc => Obj.mk (Value.type "function") none (Data.func (FuncData.mk (Str.ofString "_law_text") (Str.ofString "_law_text") ar (FuncBody.stmts bd) sc 3 [] Value.none Value.none Value.none (Value.str (Str.ofString "law_pc0174_01") 980) none (Value.ref 556) Value.none 0)) #[]
noncomputable def o558 (_ : Params) : Obj := Obj.mk (Value.type "tuple") none (Data.seq #[]) #[]
noncomputable def o560 (_ : Params) : Obj := Obj.mk (Value.type "tuple") none (Data.seq #[Value.str (Str.ofString "name") 1111, Value.str (Str.ofString "one") 1112, Value.str (Str.ofString "other") 1113, Value.str (Str.ofString "width") 1114, Value.str (Str.ofString "whole") 1115]) #[]
noncomputable def o561 (_ : Params) : Obj := Obj.mk (Value.type "tuple") none (Data.seq #[]) #[]
noncomputable def o563 (_ : Params) : Obj := Obj.mk (Value.type "code") none (Data.fields #[Value.str (Str.ofString "_law_reckoned") 1108, Value.str (Str.ofString "_law_reckoned") 1109, Value.str (Str.ofString "/claim/cut.py") 1110, Value.int 500 0, Value.int 4 0, Value.int 0 0, Value.int 0 0, Value.int 3 0, Value.ref 558, Value.bool true, Value.int 181 0, Value.ref 559, Value.none, Value.ref 560, Value.ref 561, Value.ref 562, Value.int 1116 0, Value.int 500 0, Value.str (Str.ofString "/claim/cut.py") 1117]) #[]
noncomputable def o564 (_ : Params) : Obj := fnO (stm 88) (by with_unfolding_all rfl) fun ar bd sc => Obj.mk (Value.type "function") none (Data.func (FuncData.mk (Str.ofString "_law_reckoned") (Str.ofString "_law_reckoned") ar (FuncBody.stmts bd) sc 3 [] Value.none Value.none Value.none (Value.str (Str.ofString "law_pc0174_01") 980) none (Value.ref 563) Value.none 0)) #[]
noncomputable def o565 (_ : Params) : Obj := Obj.mk (Value.type "tuple") none (Data.seq #[]) #[]
noncomputable def o567 (_ : Params) : Obj := Obj.mk (Value.type "tuple") none (Data.seq #[Value.str (Str.ofString "registers") 1122, Value.str (Str.ofString "place") 1123]) #[]
noncomputable def o568 (_ : Params) : Obj := Obj.mk (Value.type "tuple") none (Data.seq #[]) #[]
noncomputable def o570 (_ : Params) : Obj := Obj.mk (Value.type "code") none (Data.fields #[Value.str (Str.ofString "_law_value") 1119, Value.str (Str.ofString "_law_value") 1120, Value.str (Str.ofString "/claim/cut.py") 1121, Value.int 515 0, Value.int 2 0, Value.int 0 0, Value.int 0 0, Value.int 3 0, Value.ref 565, Value.bool true, Value.int 181 0, Value.ref 566, Value.none, Value.ref 567, Value.ref 568, Value.ref 569, Value.int 1124 0, Value.int 515 0, Value.str (Str.ofString "/claim/cut.py") 1125]) #[]
noncomputable def o571 (_ : Params) : Obj := fnO (stm 89) (by with_unfolding_all rfl) fun ar bd sc => Obj.mk (Value.type "function") none (Data.func (FuncData.mk (Str.ofString "_law_value") (Str.ofString "_law_value") ar (FuncBody.stmts bd) sc 3 [] Value.none Value.none Value.none (Value.str (Str.ofString "law_pc0174_01") 980) none (Value.ref 570) Value.none 0)) #[]
noncomputable def o572 (_ : Params) : Obj := Obj.mk (Value.type "tuple") none (Data.seq #[]) #[]
noncomputable def o575 (_ : Params) : Obj := Obj.mk (Value.type "code") none (Data.fields #[Value.str (Str.ofString "_law_made") 1127, Value.str (Str.ofString "_law_made") 1128, Value.str (Str.ofString "/claim/cut.py") 1129, Value.int 517 0, Value.int 5 0, Value.int 0 0, Value.int 0 0, Value.int 3 0, Value.ref 572, Value.bool true, Value.int 181 0, Value.ref 573, Value.none, Value.none, Value.none, Value.ref 574, Value.int 1130 0, Value.int 517 0, Value.str (Str.ofString "/claim/cut.py") 1131]) #[]
noncomputable def o576 (_ : Params) : Obj := fnO (stm 90) (by with_unfolding_all rfl) fun ar bd sc => Obj.mk (Value.type "function") none (Data.func (FuncData.mk (Str.ofString "_law_made") (Str.ofString "_law_made") ar (FuncBody.stmts bd) sc 3 [] Value.none Value.none Value.none (Value.str (Str.ofString "law_pc0174_01") 980) none (Value.ref 575) Value.none 0)) #[]
noncomputable def o577 (_ : Params) : Obj := Obj.mk (Value.type "tuple") none (Data.seq #[]) #[]
noncomputable def o579 (_ : Params) : Obj := Obj.mk (Value.type "tuple") none (Data.seq #[Value.str (Str.ofString "rows") 1136, Value.str (Str.ofString "registers") 1137, Value.str (Str.ofString "width") 1138, Value.str (Str.ofString "at") 1139, Value.str (Str.ofString "name") 1140, Value.str (Str.ofString "a") 1141, Value.str (Str.ofString "b") 1142, Value.str (Str.ofString "c") 1143, Value.str (Str.ofString "here") 1144, Value.str (Str.ofString "spot") 1145, Value.str (Str.ofString "found") 1146]) #[]
noncomputable def o580 (_ : Params) : Obj := Obj.mk (Value.type "tuple") none (Data.seq #[]) #[]
noncomputable def o582 (_ : Params) : Obj := Obj.mk (Value.type "code") none (Data.fields #[Value.str (Str.ofString "_law_run") 1133, Value.str (Str.ofString "_law_run") 1134, Value.str (Str.ofString "/claim/cut.py") 1135, Value.int 533 0, Value.int 3 0, Value.int 0 0, Value.int 0 0, Value.int 3 0, Value.ref 577, Value.bool true, Value.int 181 0, Value.ref 578, Value.none, Value.ref 579, Value.ref 580, Value.ref 581, Value.int 1147 0, Value.int 533 0, Value.str (Str.ofString "/claim/cut.py") 1148]) #[]
noncomputable def o583 (_ : Params) : Obj := fnO (stm 91) (by with_unfolding_all rfl) fun ar bd sc => Obj.mk (Value.type "function") none (Data.func (FuncData.mk (Str.ofString "_law_run") (Str.ofString "_law_run") ar (FuncBody.stmts bd) sc 3 [] Value.none Value.none Value.none (Value.str (Str.ofString "law_pc0174_01") 980) none (Value.ref 582) Value.none 0)) #[]
noncomputable def o584 (_ : Params) : Obj := Obj.mk (Value.type "tuple") none (Data.seq #[]) #[]
noncomputable def o587 (_ : Params) : Obj := Obj.mk (Value.type "code") none (Data.fields #[Value.str (Str.ofString "_law_rows") 1150, Value.str (Str.ofString "_law_rows") 1151, Value.str (Str.ofString "/claim/cut.py") 1152, Value.int 552 0, Value.int 1 0, Value.int 0 0, Value.int 0 0, Value.int 3 0, Value.ref 584, Value.bool true, Value.int 181 0, Value.ref 585, Value.none, Value.none, Value.none, Value.ref 586, Value.int 1153 0, Value.int 552 0, Value.str (Str.ofString "/claim/cut.py") 1154]) #[]
noncomputable def o588 (_ : Params) : Obj := fnO (stm 92) (by with_unfolding_all rfl) fun ar bd sc => Obj.mk (Value.type "function") none (Data.func (FuncData.mk (Str.ofString "_law_rows") (Str.ofString "_law_rows") ar (FuncBody.stmts bd) sc 3 [] Value.none Value.none Value.none (Value.str (Str.ofString "law_pc0174_01") 980) none (Value.ref 587) Value.none 0)) #[]
noncomputable def o589 (_ : Params) : Obj := Obj.mk (Value.type "tuple") none (Data.seq #[]) #[]
noncomputable def o592 (_ : Params) : Obj := Obj.mk (Value.type "code") none (Data.fields #[Value.str (Str.ofString "law") 1156, Value.str (Str.ofString "law") 1157, Value.str (Str.ofString "/claim/cut.py") 1158, Value.int 567 0, Value.int 1 0, Value.int 0 0, Value.int 0 0, Value.int 3 0, Value.ref 589, Value.bool true, Value.int 181 0, Value.ref 590, Value.none, Value.none, Value.none, Value.ref 591, Value.int 1159 0, Value.int 567 0, Value.str (Str.ofString "/claim/cut.py") 1160]) #[]
noncomputable def o593 (_ : Params) : Obj := fnO (stm 93) (by with_unfolding_all rfl) fun ar bd sc => Obj.mk (Value.type "function") none (Data.func (FuncData.mk (Str.ofString "law") (Str.ofString "law") ar (FuncBody.stmts bd) sc 3 [] Value.none Value.none Value.none (Value.str (Str.ofString "law_pc0174_01") 980) none (Value.ref 592) Value.none 0)) #[]
noncomputable def Kf (P : Params) : Frag := (nat_lit 2, o2 P) :: (nat_lit 3, o3 P) :: (nat_lit 15, o15 P) :: (nat_lit 17, o17 P) :: (nat_lit 18, o18 P) :: (nat_lit 20, o20 P) :: (nat_lit 21, o21 P) :: (nat_lit 22, o22 P) :: (nat_lit 24, o24 P) :: (nat_lit 25, o25 P) :: (nat_lit 27, o27 P) :: (nat_lit 28, o28 P) :: (nat_lit 29, o29 P) :: (nat_lit 31, o31 P) :: (nat_lit 32, o32 P) :: (nat_lit 34, o34 P) :: (nat_lit 35, o35 P) :: (nat_lit 36, o36 P) :: (nat_lit 38, o38 P) :: (nat_lit 39, o39 P) :: (nat_lit 41, o41 P) :: (nat_lit 42, o42 P) :: (nat_lit 43, o43 P) :: (nat_lit 45, o45 P) :: (nat_lit 46, o46 P) :: (nat_lit 48, o48 P) :: (nat_lit 49, o49 P) :: (nat_lit 50, o50 P) :: (nat_lit 52, o52 P) :: (nat_lit 53, o53 P) :: (nat_lit 55, o55 P) :: (nat_lit 56, o56 P) :: (nat_lit 57, o57 P) :: (nat_lit 59, o59 P) :: (nat_lit 60, o60 P) :: (nat_lit 62, o62 P) :: (nat_lit 63, o63 P) :: (nat_lit 71, o71 P) :: (nat_lit 72, o72 P) :: (nat_lit 74, o74 P) :: (nat_lit 75, o75 P) :: (nat_lit 77, o77 P) :: (nat_lit 78, o78 P) :: (nat_lit 79, o79 P) :: (nat_lit 81, o81 P) :: (nat_lit 82, o82 P) :: (nat_lit 84, o84 P) :: (nat_lit 85, o85 P) :: (nat_lit 86, o86 P) :: (nat_lit 88, o88 P) :: (nat_lit 89, o89 P) :: (nat_lit 91, o91 P) :: (nat_lit 92, o92 P) :: (nat_lit 93, o93 P) :: (nat_lit 94, o94 P) :: (nat_lit 95, o95 P) :: (nat_lit 96, o96 P) :: (nat_lit 97, o97 P) :: (nat_lit 100, o100 P) :: (nat_lit 107, o107 P) :: (nat_lit 109, o109 P) :: (nat_lit 110, o110 P) :: (nat_lit 112, o112 P) :: (nat_lit 113, o113 P) :: (nat_lit 114, o114 P) :: (nat_lit 115, o115 P) :: (nat_lit 116, o116 P) :: (nat_lit 117, o117 P) :: (nat_lit 120, o120 P) :: (nat_lit 127, o127 P) :: (nat_lit 129, o129 P) :: (nat_lit 130, o130 P) :: (nat_lit 132, o132 P) :: (nat_lit 133, o133 P) :: (nat_lit 134, o134 P) :: (nat_lit 135, o135 P) :: (nat_lit 136, o136 P) :: (nat_lit 137, o137 P) :: (nat_lit 140, o140 P) :: (nat_lit 142, o142 P) :: (nat_lit 143, o143 P) :: (nat_lit 145, o145 P) :: (nat_lit 146, o146 P) :: (nat_lit 147, o147 P) :: (nat_lit 149, o149 P) :: (nat_lit 150, o150 P) :: (nat_lit 152, o152 P) :: (nat_lit 153, o153 P) :: (nat_lit 154, o154 P) :: (nat_lit 156, o156 P) :: (nat_lit 157, o157 P) :: (nat_lit 159, o159 P) :: (nat_lit 160, o160 P) :: (nat_lit 161, o161 P) :: (nat_lit 163, o163 P) :: (nat_lit 164, o164 P) :: (nat_lit 166, o166 P) :: (nat_lit 167, o167 P) :: (nat_lit 168, o168 P) :: (nat_lit 170, o170 P) :: (nat_lit 171, o171 P) :: (nat_lit 173, o173 P) :: (nat_lit 174, o174 P) :: (nat_lit 175, o175 P) :: (nat_lit 177, o177 P) :: (nat_lit 178, o178 P) :: (nat_lit 180, o180 P) :: (nat_lit 181, o181 P) :: (nat_lit 182, o182 P) :: (nat_lit 184, o184 P) :: (nat_lit 185, o185 P) :: (nat_lit 187, o187 P) :: (nat_lit 188, o188 P) :: (nat_lit 189, o189 P) :: (nat_lit 191, o191 P) :: (nat_lit 192, o192 P) :: (nat_lit 194, o194 P) :: (nat_lit 195, o195 P) :: (nat_lit 196, o196 P) :: (nat_lit 198, o198 P) :: (nat_lit 199, o199 P) :: (nat_lit 201, o201 P) :: (nat_lit 202, o202 P) :: (nat_lit 203, o203 P) :: (nat_lit 205, o205 P) :: (nat_lit 206, o206 P) :: (nat_lit 208, o208 P) :: (nat_lit 209, o209 P) :: (nat_lit 210, o210 P) :: (nat_lit 212, o212 P) :: (nat_lit 213, o213 P) :: (nat_lit 215, o215 P) :: (nat_lit 216, o216 P) :: (nat_lit 217, o217 P) :: (nat_lit 219, o219 P) :: (nat_lit 220, o220 P) :: (nat_lit 222, o222 P) :: (nat_lit 223, o223 P) :: (nat_lit 224, o224 P) :: (nat_lit 226, o226 P) :: (nat_lit 227, o227 P) :: (nat_lit 229, o229 P) :: (nat_lit 230, o230 P) :: (nat_lit 231, o231 P) :: (nat_lit 233, o233 P) :: (nat_lit 234, o234 P) :: (nat_lit 236, o236 P) :: (nat_lit 237, o237 P) :: (nat_lit 238, o238 P) :: (nat_lit 240, o240 P) :: (nat_lit 241, o241 P) :: (nat_lit 243, o243 P) :: (nat_lit 244, o244 P) :: (nat_lit 245, o245 P) :: (nat_lit 247, o247 P) :: (nat_lit 248, o248 P) :: (nat_lit 250, o250 P) :: (nat_lit 251, o251 P) :: (nat_lit 252, o252 P) :: (nat_lit 254, o254 P) :: (nat_lit 255, o255 P) :: (nat_lit 257, o257 P) :: (nat_lit 258, o258 P) :: (nat_lit 259, o259 P) :: (nat_lit 262, o262 P) :: (nat_lit 263, o263 P) :: (nat_lit 264, o264 P) :: (nat_lit 267, o267 P) :: (nat_lit 268, o268 P) :: (nat_lit 269, o269 P) :: (nat_lit 271, o271 P) :: (nat_lit 272, o272 P) :: (nat_lit 274, o274 P) :: (nat_lit 275, o275 P) :: (nat_lit 276, o276 P) :: (nat_lit 278, o278 P) :: (nat_lit 279, o279 P) :: (nat_lit 281, o281 P) :: (nat_lit 282, o282 P) :: (nat_lit 283, o283 P) :: (nat_lit 285, o285 P) :: (nat_lit 286, o286 P) :: (nat_lit 288, o288 P) :: (nat_lit 289, o289 P) :: (nat_lit 290, o290 P) :: (nat_lit 292, o292 P) :: (nat_lit 293, o293 P) :: (nat_lit 295, o295 P) :: (nat_lit 296, o296 P) :: (nat_lit 297, o297 P) :: (nat_lit 299, o299 P) :: (nat_lit 300, o300 P) :: (nat_lit 302, o302 P) :: (nat_lit 303, o303 P) :: (nat_lit 304, o304 P) :: (nat_lit 306, o306 P) :: (nat_lit 307, o307 P) :: (nat_lit 309, o309 P) :: (nat_lit 310, o310 P) :: (nat_lit 311, o311 P) :: (nat_lit 313, o313 P) :: (nat_lit 314, o314 P) :: (nat_lit 316, o316 P) :: (nat_lit 317, o317 P) :: (nat_lit 318, o318 P) :: (nat_lit 320, o320 P) :: (nat_lit 321, o321 P) :: (nat_lit 323, o323 P) :: (nat_lit 324, o324 P) :: (nat_lit 325, o325 P) :: (nat_lit 327, o327 P) :: (nat_lit 328, o328 P) :: (nat_lit 330, o330 P) :: (nat_lit 331, o331 P) :: (nat_lit 332, o332 P) :: (nat_lit 334, o334 P) :: (nat_lit 335, o335 P) :: (nat_lit 337, o337 P) :: (nat_lit 338, o338 P) :: (nat_lit 339, o339 P) :: (nat_lit 341, o341 P) :: (nat_lit 342, o342 P) :: (nat_lit 344, o344 P) :: (nat_lit 345, o345 P) :: (nat_lit 346, o346 P) :: (nat_lit 348, o348 P) :: (nat_lit 349, o349 P) :: (nat_lit 351, o351 P) :: (nat_lit 352, o352 P) :: (nat_lit 353, o353 P) :: (nat_lit 355, o355 P) :: (nat_lit 356, o356 P) :: (nat_lit 358, o358 P) :: (nat_lit 359, o359 P) :: (nat_lit 360, o360 P) :: (nat_lit 362, o362 P) :: (nat_lit 363, o363 P) :: (nat_lit 365, o365 P) :: (nat_lit 366, o366 P) :: (nat_lit 367, o367 P) :: (nat_lit 369, o369 P) :: (nat_lit 370, o370 P) :: (nat_lit 372, o372 P) :: (nat_lit 373, o373 P) :: (nat_lit 374, o374 P) :: (nat_lit 376, o376 P) :: (nat_lit 377, o377 P) :: (nat_lit 379, o379 P) :: (nat_lit 380, o380 P) :: (nat_lit 381, o381 P) :: (nat_lit 382, o382 P) :: (nat_lit 384, o384 P) :: (nat_lit 385, o385 P) :: (nat_lit 387, o387 P) :: (nat_lit 388, o388 P) :: (nat_lit 389, o389 P) :: (nat_lit 391, o391 P) :: (nat_lit 392, o392 P) :: (nat_lit 394, o394 P) :: (nat_lit 395, o395 P) :: (nat_lit 403, o403 P) :: (nat_lit 405, o405 P) :: (nat_lit 406, o406 P) :: (nat_lit 408, o408 P) :: (nat_lit 409, o409 P) :: (nat_lit 410, o410 P) :: (nat_lit 411, o411 P) :: (nat_lit 412, o412 P) :: (nat_lit 413, o413 P) :: (nat_lit 414, o414 P) :: (nat_lit 424, o424 P) :: (nat_lit 426, o426 P) :: (nat_lit 427, o427 P) :: (nat_lit 429, o429 P) :: (nat_lit 430, o430 P) :: (nat_lit 431, o431 P) :: (nat_lit 433, o433 P) :: (nat_lit 434, o434 P) :: (nat_lit 436, o436 P) :: (nat_lit 437, o437 P) :: (nat_lit 438, o438 P) :: (nat_lit 440, o440 P) :: (nat_lit 441, o441 P) :: (nat_lit 443, o443 P) :: (nat_lit 444, o444 P) :: (nat_lit 445, o445 P) :: (nat_lit 447, o447 P) :: (nat_lit 448, o448 P) :: (nat_lit 450, o450 P) :: (nat_lit 451, o451 P) :: (nat_lit 452, o452 P) :: (nat_lit 454, o454 P) :: (nat_lit 455, o455 P) :: (nat_lit 457, o457 P) :: (nat_lit 458, o458 P) :: (nat_lit 459, o459 P) :: (nat_lit 461, o461 P) :: (nat_lit 462, o462 P) :: (nat_lit 464, o464 P) :: (nat_lit 465, o465 P) :: (nat_lit 466, o466 P) :: (nat_lit 468, o468 P) :: (nat_lit 469, o469 P) :: (nat_lit 471, o471 P) :: (nat_lit 472, o472 P) :: (nat_lit 473, o473 P) :: (nat_lit 475, o475 P) :: (nat_lit 476, o476 P) :: (nat_lit 478, o478 P) :: (nat_lit 479, o479 P) :: (nat_lit 480, o480 P) :: (nat_lit 482, o482 P) :: (nat_lit 483, o483 P) :: (nat_lit 485, o485 P) :: (nat_lit 486, o486 P) :: (nat_lit 487, o487 P) :: (nat_lit 489, o489 P) :: (nat_lit 490, o490 P) :: (nat_lit 492, o492 P) :: (nat_lit 493, o493 P) :: (nat_lit 494, o494 P) :: (nat_lit 496, o496 P) :: (nat_lit 497, o497 P) :: (nat_lit 499, o499 P) :: (nat_lit 500, o500 P) :: (nat_lit 501, o501 P) :: (nat_lit 502, o502 P) :: (nat_lit 503, o503 P) :: (nat_lit 504, o504 P) :: (nat_lit 505, o505 P) :: (nat_lit 508, o508 P) :: (nat_lit 509, o509 P) :: (nat_lit 510, o510 P) :: (nat_lit 511, o511 P) :: (nat_lit 513, o513 P) :: (nat_lit 514, o514 P) :: (nat_lit 516, o516 P) :: (nat_lit 517, o517 P) :: (nat_lit 518, o518 P) :: (nat_lit 520, o520 P) :: (nat_lit 521, o521 P) :: (nat_lit 523, o523 P) :: (nat_lit 524, o524 P) :: (nat_lit 525, o525 P) :: (nat_lit 527, o527 P) :: (nat_lit 528, o528 P) :: (nat_lit 530, o530 P) :: (nat_lit 531, o531 P) :: (nat_lit 532, o532 P) :: (nat_lit 534, o534 P) :: (nat_lit 535, o535 P) :: (nat_lit 537, o537 P) :: (nat_lit 538, o538 P) :: (nat_lit 539, o539 P) :: (nat_lit 541, o541 P) :: (nat_lit 542, o542 P) :: (nat_lit 544, o544 P) :: (nat_lit 545, o545 P) :: (nat_lit 546, o546 P) :: (nat_lit 549, o549 P) :: (nat_lit 550, o550 P) :: (nat_lit 551, o551 P) :: (nat_lit 553, o553 P) :: (nat_lit 554, o554 P) :: (nat_lit 556, o556 P) :: (nat_lit 557, o557 P) :: (nat_lit 558, o558 P) :: (nat_lit 560, o560 P) :: (nat_lit 561, o561 P) :: (nat_lit 563, o563 P) :: (nat_lit 564, o564 P) :: (nat_lit 565, o565 P) :: (nat_lit 567, o567 P) :: (nat_lit 568, o568 P) :: (nat_lit 570, o570 P) :: (nat_lit 571, o571 P) :: (nat_lit 572, o572 P) :: (nat_lit 575, o575 P) :: (nat_lit 576, o576 P) :: (nat_lit 577, o577 P) :: (nat_lit 579, o579 P) :: (nat_lit 580, o580 P) :: (nat_lit 582, o582 P) :: (nat_lit 583, o583 P) :: (nat_lit 584, o584 P) :: (nat_lit 587, o587 P) :: (nat_lit 588, o588 P) :: (nat_lit 589, o589 P) :: (nat_lit 592, o592 P) :: (nat_lit 593, o593 P) :: []
noncomputable def asL : List Nat := nat_lit 2 :: nat_lit 3 :: nat_lit 15 :: nat_lit 17 :: nat_lit 18 :: nat_lit 20 :: nat_lit 21 :: nat_lit 22 :: nat_lit 24 :: nat_lit 25 :: nat_lit 27 :: nat_lit 28 :: nat_lit 29 :: nat_lit 31 :: nat_lit 32 :: nat_lit 34 :: nat_lit 35 :: nat_lit 36 :: nat_lit 38 :: nat_lit 39 :: nat_lit 41 :: nat_lit 42 :: nat_lit 43 :: nat_lit 45 :: nat_lit 46 :: nat_lit 48 :: nat_lit 49 :: nat_lit 50 :: nat_lit 52 :: nat_lit 53 :: nat_lit 55 :: nat_lit 56 :: nat_lit 57 :: nat_lit 59 :: nat_lit 60 :: nat_lit 62 :: nat_lit 63 :: nat_lit 71 :: nat_lit 72 :: nat_lit 74 :: nat_lit 75 :: nat_lit 77 :: nat_lit 78 :: nat_lit 79 :: nat_lit 81 :: nat_lit 82 :: nat_lit 84 :: nat_lit 85 :: nat_lit 86 :: nat_lit 88 :: nat_lit 89 :: nat_lit 91 :: nat_lit 92 :: nat_lit 93 :: nat_lit 94 :: nat_lit 95 :: nat_lit 96 :: nat_lit 97 :: nat_lit 100 :: nat_lit 107 :: nat_lit 109 :: nat_lit 110 :: nat_lit 112 :: nat_lit 113 :: nat_lit 114 :: nat_lit 115 :: nat_lit 116 :: nat_lit 117 :: nat_lit 120 :: nat_lit 127 :: nat_lit 129 :: nat_lit 130 :: nat_lit 132 :: nat_lit 133 :: nat_lit 134 :: nat_lit 135 :: nat_lit 136 :: nat_lit 137 :: nat_lit 140 :: nat_lit 142 :: nat_lit 143 :: nat_lit 145 :: nat_lit 146 :: nat_lit 147 :: nat_lit 149 :: nat_lit 150 :: nat_lit 152 :: nat_lit 153 :: nat_lit 154 :: nat_lit 156 :: nat_lit 157 :: nat_lit 159 :: nat_lit 160 :: nat_lit 161 :: nat_lit 163 :: nat_lit 164 :: nat_lit 166 :: nat_lit 167 :: nat_lit 168 :: nat_lit 170 :: nat_lit 171 :: nat_lit 173 :: nat_lit 174 :: nat_lit 175 :: nat_lit 177 :: nat_lit 178 :: nat_lit 180 :: nat_lit 181 :: nat_lit 182 :: nat_lit 184 :: nat_lit 185 :: nat_lit 187 :: nat_lit 188 :: nat_lit 189 :: nat_lit 191 :: nat_lit 192 :: nat_lit 194 :: nat_lit 195 :: nat_lit 196 :: nat_lit 198 :: nat_lit 199 :: nat_lit 201 :: nat_lit 202 :: nat_lit 203 :: nat_lit 205 :: nat_lit 206 :: nat_lit 208 :: nat_lit 209 :: nat_lit 210 :: nat_lit 212 :: nat_lit 213 :: nat_lit 215 :: nat_lit 216 :: nat_lit 217 :: nat_lit 219 :: nat_lit 220 :: nat_lit 222 :: nat_lit 223 :: nat_lit 224 :: nat_lit 226 :: nat_lit 227 :: nat_lit 229 :: nat_lit 230 :: nat_lit 231 :: nat_lit 233 :: nat_lit 234 :: nat_lit 236 :: nat_lit 237 :: nat_lit 238 :: nat_lit 240 :: nat_lit 241 :: nat_lit 243 :: nat_lit 244 :: nat_lit 245 :: nat_lit 247 :: nat_lit 248 :: nat_lit 250 :: nat_lit 251 :: nat_lit 252 :: nat_lit 254 :: nat_lit 255 :: nat_lit 257 :: nat_lit 258 :: nat_lit 259 :: nat_lit 262 :: nat_lit 263 :: nat_lit 264 :: nat_lit 267 :: nat_lit 268 :: nat_lit 269 :: nat_lit 271 :: nat_lit 272 :: nat_lit 274 :: nat_lit 275 :: nat_lit 276 :: nat_lit 278 :: nat_lit 279 :: nat_lit 281 :: nat_lit 282 :: nat_lit 283 :: nat_lit 285 :: nat_lit 286 :: nat_lit 288 :: nat_lit 289 :: nat_lit 290 :: nat_lit 292 :: nat_lit 293 :: nat_lit 295 :: nat_lit 296 :: nat_lit 297 :: nat_lit 299 :: nat_lit 300 :: nat_lit 302 :: nat_lit 303 :: nat_lit 304 :: nat_lit 306 :: nat_lit 307 :: nat_lit 309 :: nat_lit 310 :: nat_lit 311 :: nat_lit 313 :: nat_lit 314 :: nat_lit 316 :: nat_lit 317 :: nat_lit 318 :: nat_lit 320 :: nat_lit 321 :: nat_lit 323 :: nat_lit 324 :: nat_lit 325 :: nat_lit 327 :: nat_lit 328 :: nat_lit 330 :: nat_lit 331 :: nat_lit 332 :: nat_lit 334 :: nat_lit 335 :: nat_lit 337 :: nat_lit 338 :: nat_lit 339 :: nat_lit 341 :: nat_lit 342 :: nat_lit 344 :: nat_lit 345 :: nat_lit 346 :: nat_lit 348 :: nat_lit 349 :: nat_lit 351 :: nat_lit 352 :: nat_lit 353 :: nat_lit 355 :: nat_lit 356 :: nat_lit 358 :: nat_lit 359 :: nat_lit 360 :: nat_lit 362 :: nat_lit 363 :: nat_lit 365 :: nat_lit 366 :: nat_lit 367 :: nat_lit 369 :: nat_lit 370 :: nat_lit 372 :: nat_lit 373 :: nat_lit 374 :: nat_lit 376 :: nat_lit 377 :: nat_lit 379 :: nat_lit 380 :: nat_lit 381 :: nat_lit 382 :: nat_lit 384 :: nat_lit 385 :: nat_lit 387 :: nat_lit 388 :: nat_lit 389 :: nat_lit 391 :: nat_lit 392 :: nat_lit 394 :: nat_lit 395 :: nat_lit 403 :: nat_lit 405 :: nat_lit 406 :: nat_lit 408 :: nat_lit 409 :: nat_lit 410 :: nat_lit 411 :: nat_lit 412 :: nat_lit 413 :: nat_lit 414 :: nat_lit 424 :: nat_lit 426 :: nat_lit 427 :: nat_lit 429 :: nat_lit 430 :: nat_lit 431 :: nat_lit 433 :: nat_lit 434 :: nat_lit 436 :: nat_lit 437 :: nat_lit 438 :: nat_lit 440 :: nat_lit 441 :: nat_lit 443 :: nat_lit 444 :: nat_lit 445 :: nat_lit 447 :: nat_lit 448 :: nat_lit 450 :: nat_lit 451 :: nat_lit 452 :: nat_lit 454 :: nat_lit 455 :: nat_lit 457 :: nat_lit 458 :: nat_lit 459 :: nat_lit 461 :: nat_lit 462 :: nat_lit 464 :: nat_lit 465 :: nat_lit 466 :: nat_lit 468 :: nat_lit 469 :: nat_lit 471 :: nat_lit 472 :: nat_lit 473 :: nat_lit 475 :: nat_lit 476 :: nat_lit 478 :: nat_lit 479 :: nat_lit 480 :: nat_lit 482 :: nat_lit 483 :: nat_lit 485 :: nat_lit 486 :: nat_lit 487 :: nat_lit 489 :: nat_lit 490 :: nat_lit 492 :: nat_lit 493 :: nat_lit 494 :: nat_lit 496 :: nat_lit 497 :: nat_lit 499 :: nat_lit 500 :: nat_lit 501 :: nat_lit 502 :: nat_lit 503 :: nat_lit 504 :: nat_lit 505 :: nat_lit 508 :: nat_lit 509 :: nat_lit 510 :: nat_lit 511 :: nat_lit 513 :: nat_lit 514 :: nat_lit 516 :: nat_lit 517 :: nat_lit 518 :: nat_lit 520 :: nat_lit 521 :: nat_lit 523 :: nat_lit 524 :: nat_lit 525 :: nat_lit 527 :: nat_lit 528 :: nat_lit 530 :: nat_lit 531 :: nat_lit 532 :: nat_lit 534 :: nat_lit 535 :: nat_lit 537 :: nat_lit 538 :: nat_lit 539 :: nat_lit 541 :: nat_lit 542 :: nat_lit 544 :: nat_lit 545 :: nat_lit 546 :: nat_lit 549 :: nat_lit 550 :: nat_lit 551 :: nat_lit 553 :: nat_lit 554 :: nat_lit 556 :: nat_lit 557 :: nat_lit 558 :: nat_lit 560 :: nat_lit 561 :: nat_lit 563 :: nat_lit 564 :: nat_lit 565 :: nat_lit 567 :: nat_lit 568 :: nat_lit 570 :: nat_lit 571 :: nat_lit 572 :: nat_lit 575 :: nat_lit 576 :: nat_lit 577 :: nat_lit 579 :: nat_lit 580 :: nat_lit 582 :: nat_lit 583 :: nat_lit 584 :: nat_lit 587 :: nat_lit 588 :: nat_lit 589 :: nat_lit 592 :: nat_lit 593 :: []
theorem as_ok : ∀ P, asL = (Kf P).map (·.1) := fun _ => by kernel_rfl
end Mine
end
section
namespace Mine
def topRunT (tb : String → Option Builtin) (p : Program) (w : World) (n₀ : Nat) (ann : Option Value) : Nat → SharedT → Thread → Option SharedT
  | 0, _, _ => none
  | n + 1, s, t => match through t with
    | true => some s
    | false => match stepOk n₀ ann t with
      | false => none
      | true => match stepT (denote tb) p w s t with
        | some (s', t') => topRunT tb p w n₀ ann n s' t'
        | none => none
theorem topRunT_spec {tb : String → Option Builtin} {p : Program} {w : World} {n₀ : Nat} {ann : Option Value} :
    ∀ (n : Nat) (s r : SharedT) (t : Thread), topRunT tb p w n₀ ann n s t = some r → topRun tb p w n₀ ann n s.abs t = some r.abs
  | 0, _, _, _, h => by cases h
  | n + 1, s, r, t, h => by
    unfold topRunT at h
    unfold topRun
    cases ht : through t with
    | true => rw [ht] at h; cases h; rfl
    | false =>
      rw [ht] at h
      cases hk : stepOk n₀ ann t with
      | false => rw [hk] at h; cases h
      | true =>
        rw [hk] at h
        cases hs : stepT (denote tb) p w s t with
        | none => rw [hs] at h; cases h
        | some x => obtain ⟨s₂, t₂⟩ := x; rw [hs] at h; rw [stepT_spec hs]; exact topRunT_spec n s₂ r t₂ h
noncomputable def bootT (P : Params) : BT := .node (boot_o_0 P) (.node (boot_o_1 P) (.node (boot_o_3 P) (.node (boot_o_7 P) .nil .nil) .nil) (.node (boot_o_5 P) (.node (boot_o_9 P) .nil .nil) .nil)) (.node (boot_o_2 P) (.node (boot_o_4 P) (.node (boot_o_8 P) .nil .nil) .nil) (.node (boot_o_6 P) (.node (boot_o_10 P) .nil .nil) .nil))
theorem boot_abs (P : Params) : absHeap (bootT P) 11 {} = boot_heap P := by kernel_rfl
noncomputable def runF (p : Program) (N : Nat) (w : World) (os : OsState) (T : BT) (dr : Drawn) (tk : Nat) : Option SharedT := topRunT treeTable p w 11 (some (.ref 6)) N ⟨T, 11, {}, #[], dr, tk, os⟩ (topStub p)
theorem size_ok (P : Params) : ((boot_heap P).isNs mainGlobals && (#[] : Array GenState).size == 0, (boot_heap P).objs.size, (boot_heap P).nsMap mainGlobals "__annotations__") = (true, 11, some (.ref 6)) := by kernel_rfl
theorem left_of {p q : Program} {loose : List Str} {Xt : Shared → Bool} {α : Type} {Yf : Shared → α} {Ya : World → α} {N M : Nat}
    (e : opening p = plainProg p.main.scope.names) (hN : Nat.ble 600 N = true) (f : ∀ s, fenceModules? p s = some s) (le : Nat.ble M N = true)
    (run : ∀ w : World, (fun os => (runF p M w os (bootT w.params) boot_drawn boot_toks).map (fun r => ((staticsOk (importedModules p.main.body) (boot_heap w.params) r.abs.heap && namesBound p r.abs.heap && gensDone r.abs && laidKept (boot_heap w.params) r.abs.heap), openSeen q loose (importedModules p.main.body) Xt true r.abs, Yf r.abs))) =
      fun _ => some (true, openGood q loose, Ya w)) : LeftO p q loose Xt Yf Ya N := fun w => by
  obtain ⟨⟨h, gs, d, k, os⟩, e1, e2⟩ := Option.map_eq_some_iff.mp (boot_open e hN f w)
  obtain ⟨rfl, rfl, rfl, rfl⟩ : h = boot_heap w.params ∧ gs = Array.mk [] ∧ d = boot_drawn ∧ k = boot_toks := by simpa using e2
  obtain ⟨r, hr, hs⟩ := Option.map_eq_some_iff.mp (congrFun (run w) os)
  obtain ⟨l1, l2⟩ := Prod.mk.inj hs
  obtain ⟨l2, l3⟩ := Prod.mk.inj l2
  have hr' := topRun_mono (N - M) _ _ _ _ (topRunT_spec _ _ _ _ hr)
  rw [show M + (N - M) = N by have := Nat.le_of_ble_eq_true le; omega] at hr'
  have hb : (⟨bootT w.params, 11, {}, #[], boot_drawn, boot_toks, os⟩ : SharedT).abs = ⟨boot_heap w.params, Array.mk [], boot_drawn, boot_toks, os⟩ := by
    show (⟨absHeap (bootT w.params) 11 {}, _, _, _, _⟩ : Shared) = _
    rw [boot_abs]
  rw [hb] at hr'
  obtain ⟨z1, z2⟩ := Prod.mk.inj (size_ok w.params)
  obtain ⟨z2, z3⟩ := Prod.mk.inj z2
  have t : topFrom treeTable p w N ⟨boot_heap w.params, Array.mk [], boot_drawn, boot_toks, os⟩ = some r.abs := by
    unfold topFrom
    dsimp only
    try dsimp only at z1 z2 z3
    rw [z1, z2, z3, hr']
    show (match staticsOk (importedModules p.main.body) (boot_heap w.params) r.abs.heap && namesBound p r.abs.heap && gensDone r.abs && laidKept (boot_heap w.params) r.abs.heap with | true => _ | false => _) = _
    rw [l1]
  unfold openEnds
  rw [e1]
  show (topFrom treeTable p w N _).map _ = _
  rw [t]
  exact congrArg some (Prod.ext l2 l3)

abbrev pw : Program := PySem.Challenge.pw_pc0174_01
def vw : Program := view pw [93]
noncomputable def lo : List Str := [Str.ofString "_wall", Str.ofString "A_AT", Str.ofString "C_AT", Str.ofString "B_AT", Str.ofString "A_MASK", Str.ofString "C_MASK", Str.ofString "JUMP_ZERO", Str.ofString "CONSTANT_BIT", Str.ofString "op_of", Str.ofString "a_of", Str.ofString "b_of", Str.ofString "c_of", Str.ofString "wide_of", Str.ofString "jump_of", Str.ofString "BLANKS", Str.ofString "Limits", Str.ofString "LuaError", Str.ofString "ApiError", Str.ofString "is_number", Str.ofString "is_false", Str.ofString "wrap", Str.ofString "divide", Str.ofString "power", Str.ofString "arith", Str.ofString "is_blank", Str.ofString "digit_of", Str.ofString "read_digits", Str.ofString "skip_blanks", Str.ofString "str_to_number", Str.ofString "text_in_base", Str.ofString "to_number", Str.ofString "number_text", Str.ofString "to_text", Str.ofString "byte_float", Str.ofString "MADE", Str.ofString "NO_TEXTS", Str.ofString "TOO_LONG", Str.ofString "texts_below", Str.ofString "join_below", Str.ofString "loop_numbers", Str.ofString "wrong_place", Str.ofString "before_first", Str.ofString "goes_on", Str.ofString "next_number", Str.ofString "load", Str.ofString "operand", Str.ofString "two_operands", Str.ofString "is_compared", Str.ofString "is_tested", Str.ofString "place_behind", Str.ofString "table_room", Str.ofString "list_block", Str.ofString "round_begun", Str.ofString "round_gone", Str.ofString "round_asked", Str.ofString "round_told", Str.ofString "RECKONINGS", Str.ofString "DIVIDING", Str.ofString "RESTING", Str.ofString "RAISING", Str.ofString "DONE", Str.ofString "NO_NUMBERS", Str.ofString "BY_ZERO", Str.ofString "has_no_result", Str.ofString "reckon", Str.ofString "BACK", Str.ofString "STOPPED", Str.ofString "STEPS", Str.ofString "Works", Str.ofString "Stepper", Str.ofString "_law_numbers", Str.ofString "_law_pool", Str.ofString "_law_constants", Str.ofString "_law_take", Str.ofString "_law_grand", Str.ofString "_law_coded", Str.ofString "_law_works", Str.ofString "_law_wrapped", Str.ofString "_law_number", Str.ofString "_law_text", Str.ofString "_law_reckoned", Str.ofString "_law_value", Str.ofString "_law_made", Str.ofString "_law_run", Str.ofString "_law_rows"]
noncomputable def H : Hook := kmHook Kf asL (fun _ => by kernel_rfl) [533, 590]
noncomputable def Xt (q : Program) (s : Shared) : Bool := xlAt q [] s && recOk [] s
noncomputable def chainF (p q : Program) (loose : List Str) (as ts : List Addr) (w : World) (os : OsState) (T : BT) (dr : Drawn) (tk : Nat) (h : Heap) :=
  (runF p 4600 w os T dr tk).map (fun r => ((staticsOk (importedModules p.main.body) h r.abs.heap && namesBound p r.abs.heap && gensDone r.abs && laidKept h r.abs.heap), openSeen q loose (importedModules p.main.body) (Xt q) true r.abs, (as.map r.abs.heap.get?, ts.map r.abs.heap.get?)))
noncomputable def goodF (q : Program) (loose : List Str) := openGood q loose
lay_quick Mine.chainF Mine.goodF
end Mine
end
section
namespace Mine
theorem run1 (w : World) : (fun os => chainF pw vw lo asL [533, 590] (w.withFollow "special-get-raises" false) os (bootT w.params) boot_drawn boot_toks (boot_heap w.params)) = fun _ => some (true, goodF vw lo, ((Kf w.params).map fun p => some p.2, [some (tabObj #[]), some (tabObj #[])])) := by
  rw [PySem.W.Fast.te9143291615776977538, PySem.W.Fast.te4208135344925943067]
  kernel_rfl
theorem run2 (w : World) : (fun os => chainF pw vw lo asL [533, 590] (w.withFollow "special-get-raises" true) os (bootT w.params) boot_drawn boot_toks (boot_heap w.params)) = fun _ => some (true, goodF vw lo, ((Kf w.params).map fun p => some p.2, [some (tabObj #[]), some (tabObj #[])])) := by
  rw [PySem.W.Fast.te9143291615776977538, PySem.W.Fast.te4208135344925943067]
  kernel_rfl
theorem left : LeftO pw vw lo (Xt vw) H.obs H.val 7500 :=
  left_of (M := 4600) (by kernel_rfl) (by kernel_rfl) (fun s => by kernel_rfl) (by kernel_rfl) fun w => byRow2 "special-get-raises" (P := fun w => (fun os => chainF pw vw lo asL [533, 590] w os (bootT w.params) boot_drawn boot_toks (boot_heap w.params)) = fun _ => some (true, goodF vw lo, ((Kf w.params).map fun p => some p.2, [some (tabObj #[]), some (tabObj #[])]))) run1 run2 w
theorem said : PySem.Challenge.rw_pc0174_01.wellSaid = true := by kernel_rfl
end Mine
end
section
namespace Mine
theorem deeper_caller (q : Str) (sc : Scope) (L a : Addr) (cd : Value) : callerA.deeper (envOfC q sc L a cd) = ktrTop 302 7 (some []) q sc L a cd (cellsFrom (L + 1) sc.names []) [] := rfl
end Mine
end
section
open PySem PySem.W PyProof.Rows PySem.Calls PyProof.Rows.LCg PyProof.Rows.LCt
namespace Mine
section
variable {prog : Program} {w : World} {A : Around} {E : Value → Shared → Prop} {s : Shared} {h₀ : Heap} {L : Addr} {m : Str → Option Value} {env : Env}
def TupAt (ax : Addr) (its : Array Value) (news : List (Addr × Obj)) : Prop := ∃ o, (ax, o) ∈ news ∧ o.cls = .type "tuple" ∧ ∃ n, o.data = .seq its n
theorem TupAt.tup {h : Heap} {ax : Addr} {its : Array Value} {news : List (Addr × Obj)} (x : TupAt ax its news) (N : News h₀ L h news) : h.IsTuple ax its := let ⟨o, hm, r⟩ := x; ⟨o, (N _ hm).1, r⟩
theorem tuple_st {ax I : Addr} {its : Array Value} : ∀ i (h h' : Heap) (o : Obj) (nw : List (Addr × Obj)), (h.IsTupleIter I ax i ∧ h.IsTuple ax its) → h.get? I = some o → h'.get? I = some o → (∀ b o, h₀.get? b = some o → h'.get? b = some o) → News h₀ L h' nw → TupAt ax its nw → (h'.IsTupleIter I ax i ∧ h'.IsTuple ax its) :=
  fun i h h' o nw st e e' k N S => ⟨by obtain ⟨o', q, r⟩ := st.1; rw [e] at q; cases q; exact ⟨o, e', r⟩, S.tup N⟩
def CompSrcP (prog : Program) (w : World) (A : Around) (h₀ : Heap) (L : Addr) (m : Str → Option Value) (env : Env) (elt : PySem.Expr) (x : Str) (scope : Scope) (cl : List (Str × Addr)) (Fin : Shared → List Value → List (Addr × Obj) → Prop) (xv : Value) (s₁ : Shared) : Prop :=
  ∃ ax its news, xv = .ref ax ∧ A.handled = none ∧ Fr h₀ L s₁.heap m ∧ News h₀ L s₁.heap news ∧ TupAt ax its news ∧ its.size ≤ sizeLine ∧
    ∀ s₂ : Shared, (∃ h, s₂ = { s₁ with heap := h }) → CompRest prog w A h₀ L m env elt x scope cl s₂ (TupAt ax its) (fun i v => its[i]? = some v) (Fin s₂) its.size 0 [] news
def CompSrcPT (prog : Program) (w : World) (A : Around) (h₀ : Heap) (L : Addr) (m : Str → Option Value) (env : Env) (ct elt : PySem.Expr) (x : Str) (scope : Scope) (cl : List (Str × Addr)) (Fin : Shared → List Value → List (Addr × Obj) → Prop) (xv : Value) (s₁ : Shared) : Prop :=
  ∃ ax its news, xv = .ref ax ∧ A.handled = none ∧ Fr h₀ L s₁.heap m ∧ News h₀ L s₁.heap news ∧ TupAt ax its news ∧ its.size ≤ sizeLine ∧
    ∀ s₂ : Shared, (∃ h, s₂ = { s₁ with heap := h }) → CompRestT prog w A h₀ L m env ct elt x scope cl s₂ (TupAt ax its) (fun i v => its[i]? = some v) (Fin s₂) its.size 0 [] news
theorem CompSrcP.ledger {elt : PySem.Expr} {x : Str} {scope : Scope} {cl : List (Str × Addr)} {Fin : Shared → List Value → List (Addr × Obj) → Prop} {ax : Addr} {its : Array Value} {k : Nat} {news : List (Addr × Obj)} {s₁ : Shared}
    (hh : A.handled = none) (F : Fr h₀ L s₁.heap m) (N : News h₀ L s₁.heap news) (hm : (ax, ({ cls := .type "tuple", data := .seq its k } : Obj)) ∈ news) (hsz : its.size ≤ sizeLine)
    (h : ∀ g, CompRest prog w A h₀ L m env elt x scope cl { s₁ with heap := g } (TupAt ax its) (fun i v => its[i]? = some v) (Fin { s₁ with heap := g }) its.size 0 [] news) :
    CompSrcP prog w A h₀ L m env elt x scope cl Fin (.ref ax) s₁ := ⟨ax, its, news, rfl, hh, F, N, ⟨_, hm, rfl, _, rfl⟩, hsz, fun _ ⟨g, e⟩ => e ▸ h g⟩
theorem CompSrcPT.ledger {ct elt : PySem.Expr} {x : Str} {scope : Scope} {cl : List (Str × Addr)} {Fin : Shared → List Value → List (Addr × Obj) → Prop} {ax : Addr} {its : Array Value} {k : Nat} {news : List (Addr × Obj)} {s₁ : Shared}
    (hh : A.handled = none) (F : Fr h₀ L s₁.heap m) (N : News h₀ L s₁.heap news) (hm : (ax, ({ cls := .type "tuple", data := .seq its k } : Obj)) ∈ news) (hsz : its.size ≤ sizeLine)
    (h : ∀ g, CompRestT prog w A h₀ L m env ct elt x scope cl { s₁ with heap := g } (TupAt ax its) (fun i v => its[i]? = some v) (Fin { s₁ with heap := g }) its.size 0 [] news) :
    CompSrcPT prog w A h₀ L m env ct elt x scope cl Fin (.ref ax) s₁ := ⟨ax, its, news, rfl, hh, F, N, ⟨_, hm, rfl, _, rfl⟩, hsz, fun _ ⟨g, e⟩ => e ▸ h g⟩
theorem up_tu {s₁ : Shared} {ax : Addr} : ∀ b o, s₁.heap.get? b = some o → (s₁.heap.push { cls := .type "tuple_iterator", data := .fields #[.ref ax, .int 0 0] }).get? b = some o := fun b o e => Heap.get?_push_of_some _ e
theorem fp_tu {s₁ : Shared} {ax : Addr} (hlt : ax < s₁.heap.objs.size) : ∀ b ∈ [s₁.heap.objs.size, ax], b < (s₁.heap.push { cls := .type "tuple_iterator", data := .fields #[.ref ax, .int 0 0] }).objs.size := by
  intro b hb
  rw [Heap.size_push]
  rcases List.mem_cons.mp hb with rfl | hb
  · exact Nat.lt_succ_self _
  · rw [List.mem_singleton.mp hb]; exact Nat.lt_succ_of_lt hlt
end
section
variable {prog : Program} {w : World} {A : Around} {s : Shared} {h₀ : Heap} {L : Addr} {m : Str → Option Value} {env : Env}
theorem compEnd_mono {C D I : Addr} {s₁ : Shared} {oI oC oD : Obj} {S : List (Addr × Obj) → Prop} {r r' : Value → List (Addr × Obj) → Prop} (h : ∀ y n, r y n → r' y n) (y : Value) (s₂ : Shared) :
    CompEnd h₀ L m s₁ I oI C oC D oD S r y s₂ → CompEnd h₀ L m s₁ I oI C oC D oD S r' y s₂ := by
  rintro ⟨h', tk, n', a, b, c, d, e, f⟩
  exact ⟨h', tk, n', a, b, c, d, e, h _ _ f⟩
theorem compT_inv {ct elt : PySem.Expr} {x : Str} {scope : Scope} {cl : List (Str × Addr)} {S : List (Addr × Obj) → Prop} {P : Nat → Value → Prop} {Fin : List Value → List (Addr × Obj) → Prop} {n : Nat}
    (J : Nat → List Value → List (Addr × Obj) → Prop)
    (turn : ∀ i ys news v I oI C oC D m₂ h tk (E' : Value → Shared → Prop), i < n → J i ys news → P i v → NsObj oC m₂ → m₂ x = some v → Fr h₀ L h m → News h₀ L h ((I, oI) :: (C, oC) :: (D, lst ys) :: news) → Off3 I C D news → ((@Ne Nat I C) ∧ (@Ne Nat I D) ∧ (@Ne Nat C D)) →
      wpAny (model prog w) A (isTrue ct (compEnvC scope cl C env) (eval ct (compEnvC scope cl C env))) (fun ok s' => if ok = true then
        wpAny (model prog w) A (eval elt (compEnvC scope cl C env)) (CompEnd h₀ L m { s with heap := h, toks := tk } I oI C oC D (lst ys) S (fun y news' => J (i + 1) (ys ++ [y]) news')) E' s'
        else CompEnd h₀ L m { s with heap := h, toks := tk } I oI C oC D (lst ys) S (fun _ news' => J (i + 1) ys news') Value.none s') E' { s with heap := h, toks := tk })
    (fin : ∀ ys news, J n ys news → Fin ys news) :
    ∀ k i ys news, i + k = n → J i ys news → CompRestT prog w A h₀ L m env ct elt x scope cl s S P Fin k i ys news
  | 0, i, ys, news, e, hj => fin ys news (by rw [Nat.add_zero] at e; exact e ▸ hj)
  | k + 1, i, ys, news, e, hj => fun v I oI C oC D m₂ h tk E' hv hC hx F N off ne => by
    refine wpAny_mono (turn i ys news v I oI C oC D m₂ h tk E' (by omega) hj hv hC hx F N off ne) (fun ok s' h' => ?_) fun _ _ e => e
    cases ok with
    | true =>
      simp only [if_true] at h' ⊢
      exact wpAny_mono h' (fun y s₂ hh => compEnd_mono (fun y' n' q => compT_inv J turn fin k (i + 1) _ n' (by omega) q) y s₂ hh) fun _ _ e => e
    | false =>
      simp only [Bool.false_eq_true, if_false] at h' ⊢
      exact compEnd_mono (fun y' n' q => compT_inv J turn fin k (i + 1) _ n' (by omega) q) _ s' h'
theorem compU_inv {elt : PySem.Expr} {x : Str} {scope : Scope} {cl : List (Str × Addr)} {S : List (Addr × Obj) → Prop} {P : Nat → Value → Prop} {Fin : List Value → List (Addr × Obj) → Prop} {n : Nat}
    (J : Nat → List Value → List (Addr × Obj) → Prop)
    (turn : ∀ i ys news v I oI C oC D m₂ h tk (E' : Value → Shared → Prop), i < n → J i ys news → P i v → NsObj oC m₂ → m₂ x = some v → Fr h₀ L h m → News h₀ L h ((I, oI) :: (C, oC) :: (D, lst ys) :: news) → Off3 I C D news → ((@Ne Nat I C) ∧ (@Ne Nat I D) ∧ (@Ne Nat C D)) →
      wpAny (model prog w) A (eval elt (compEnvC scope cl C env)) (CompEnd h₀ L m { s with heap := h, toks := tk } I oI C oC D (lst ys) S (fun y news' => J (i + 1) (ys ++ [y]) news')) E' { s with heap := h, toks := tk })
    (fin : ∀ ys news, J n ys news → Fin ys news) :
    ∀ k i ys news, i + k = n → J i ys news → CompRest prog w A h₀ L m env elt x scope cl s S P Fin k i ys news
  | 0, i, ys, news, e, hj => fin ys news (by rw [Nat.add_zero] at e; exact e ▸ hj)
  | k + 1, i, ys, news, e, hj => fun v I oI C oC D m₂ h tk E' hv hC hx F N off ne =>
    wpAny_mono (turn i ys news v I oI C oC D m₂ h tk E' (by omega) hj hv hC hx F N off ne) (fun y s₂ hh => compEnd_mono (fun y' n' q => compU_inv J turn fin k (i + 1) _ n' (by omega) q) y s₂ hh) fun _ _ e => e
end
section
variable {prog : Program} {w : World} {A : Around} {E : Value → Shared → Prop} {s : Shared}
theorem ne_nilK {a b : Addr} {xs : Array Value} {Q : Value → Shared → Prop} (hl : s.heap.IsList a xs) (hb : s.heap.IsList b #[]) (hu : A.units < cLine) (h : Q (.bool (!xs.isEmpty)) s) : wpAny (model prog w) A (compareOp .NotEq (.ref a) (.ref b)) Q E s := by
  show wpAny (model prog w) A (richCompare .NotEq (.ref a) (.ref b)) Q E s
  by_cases e : xs.size = 0
  · have : xs = #[] := Array.eq_empty_of_size_eq_zero e
    subst this
    exact PySem.SeqAt.RcNeAt.lists (e := fun _ => true) hl hb rfl (by omega) (fun j h1 _ => absurd h1 (by simp)) prog w E Q (by simpa using h)
  · refine PySem.SeqAt.RcNeAt.lists_lengths hl hb (by simpa using e) (by omega) prog w E Q ?_
    have e' : xs.isEmpty = false := by rw [Array.isEmpty]; simpa using e
    rw [e'] at h
    exact h
theorem lst_isL {h₀ : Heap} {L D : Addr} {news : List (Addr × Obj)} {ys : List Value} (N : News h₀ L s.heap news) (hm : (D, PyProof.Rows.LCg.lst ys) ∈ news) : s.heap.IsList D ys.toArray := ⟨_, (N _ hm).1, rfl, _, rfl⟩
theorem new_isL {h₀ : Heap} {L D : Addr} {news : List (Addr × Obj)} {ys : Array Value} {k : Nat} (N : News h₀ L s.heap news) (hm : (D, ({ cls := .type "list", data := .seq ys k } : Obj)) ∈ news) : s.heap.IsList D ys := ⟨_, (N _ hm).1, rfl, _, rfl⟩
end
theorem news_tl {h₀ h : Heap} {L : Addr} {p : Addr × Obj} {n : List (Addr × Obj)} (N : News h₀ L h (p :: n)) : News h₀ L h n := fun q hq => N q (List.mem_cons_of_mem _ hq)
theorem kv_all (vs : List Value) : (slicePick vs.toArray none none none).toList = vs := by rw [slicePick_all]
theorem sub_min_cut (a b n : Nat) : min b n - min a n = min b n - a := by
  rcases Nat.le_total a n with h | h
  · rw [Nat.min_eq_left h]
  · rw [Nat.min_eq_right h, Nat.sub_eq_zero_of_le (Nat.min_le_right b n), Nat.sub_eq_zero_of_le (Nat.le_trans (Nat.min_le_right b n) h)]
theorem cut_nat {y : Int} {n : Nat} (h : 0 ≤ y) : max 0 (min y (n : Int)) = ((min y.toNat n : Nat) : Int) := by
  obtain ⟨m, rfl⟩ := Int.eq_ofNat_of_zero_le h
  rw [Int.toNat_natCast]
  rcases Nat.le_total m n with h | h
  · rw [Nat.min_eq_left h, Int.min_eq_left (Int.ofNat_le.mpr h), Int.max_eq_right (Int.natCast_nonneg _)]
  · rw [Nat.min_eq_right h, Int.min_eq_right (Int.ofNat_le.mpr h), Int.max_eq_right (Int.natCast_nonneg _)]
theorem kv_upto (vs : List Value) {y : Int} (h : 0 ≤ y) : (slicePick vs.toArray none (some y) none).toList = vs.take y.toNat := by
  have e : sliceBounds none (some y) none vs.toArray.size = (((0 : Nat) : Int), ((min y.toNat vs.toArray.size : Nat) : Int), 1) := by
    simp only [sliceBounds, Option.getD_none, show (1 : Int) > 0 by decide, if_true, if_neg (show ¬ (y < 0) by omega)]
    congr 1
    congr 1
    exact cut_nat h
  rw [kmk_pick_nat _ e]
  show (vs.drop 0).take (min y.toNat vs.toArray.size - 0) = _
  rw [List.drop_zero, Nat.sub_zero, List.size_toArray, kmk_take_min]
theorem kv_run (vs : List Value) {x y : Int} (h : 0 ≤ x) (h2 : 0 ≤ y) : (slicePick vs.toArray (some x) (some y) none).toList = (vs.drop x.toNat).take (min y.toNat vs.length - x.toNat) := by
  have e : sliceBounds (some x) (some y) none vs.toArray.size = (((min x.toNat vs.toArray.size : Nat) : Int), ((min y.toNat vs.toArray.size : Nat) : Int), 1) := by
    simp only [sliceBounds, Option.getD_none, show (1 : Int) > 0 by decide, if_true, if_neg (show ¬ (x < 0) by omega), if_neg (show ¬ (y < 0) by omega)]
    congr 1
    · exact cut_nat h
    · congr 1
      exact cut_nat h2
  rw [kmk_pick_nat _ e]
  show (vs.drop (min x.toNat vs.toArray.size)).take (min y.toNat vs.toArray.size - min x.toNat vs.toArray.size) = _
  rw [List.size_toArray, kmk_drop_min, sub_min_cut]
theorem kv_size {vs : List Value} {n : Nat} (e : vs.length = n) (h : n ≤ sizeLine) : vs.toArray.size ≤ sizeLine := by
  rw [List.size_toArray, e]; exact h
end Mine
end
section
open PySem PySem.W PyProof.Rows PySem.Calls
namespace Mine
def Stop (p : Prop) : Prop := p
theorem Stop.mk {p : Prop} (h : p) : Stop p := h
theorem Stop.un {p : Prop} (h : Stop p) : p := h
def over : List Str → (Str → Option Value) → (Str → Option Value) → Str → Option Value
  | [], _, m => m
  | n :: ns, g, m => fun y => if y = n then g n else over ns g m y
theorem over_of {ns : List Str} {m m' : Str → Option Value} (h : ∀ y, y ∉ ns → m' y = m y) : m' = over ns m' m := by
  induction ns generalizing m with
  | nil => exact funext fun y => h y (by simp)
  | cons n ns ih =>
    have e : m' = over ns m' (fun y => if y = n then m' n else m y) := ih fun y hy => by
      by_cases e : y = n
      · subst e; simp
      · rw [if_neg e]; exact h y (by simp [e, hy])
    have gen : ∀ (ns : List Str) (g m : Str → Option Value) (y : Str), over ns g (fun y => if y = n then g n else m y) y = if y = n then (if y ∈ ns then over ns g m y else g n) else over ns g m y := by
      intro ns
      induction ns with
      | nil => intro g m y; simp [over]
      | cons k ks ihk =>
        intro g m y
        simp only [over]
        by_cases e1 : y = k
        · subst e1; simp
        · rw [if_neg e1, ihk]
          by_cases e2 : y = n
          · subst e2; simp [e1]
          · rw [if_neg e2, if_neg e2, if_neg e1]
    have self : ∀ (ns : List Str) (g m : Str → Option Value) (y : Str), y ∈ ns → over ns g m y = g y := by
      intro ns
      induction ns with
      | nil => intro g m y h; cases h
      | cons k ks ihk =>
        intro g m y h
        simp only [over]
        by_cases e1 : y = k
        · subst e1; simp
        · rw [if_neg e1]
          exact ihk g m y (by simpa [e1] using h)
    funext y
    conv => lhs; rw [e]
    rw [gen]
    simp only [over]
    by_cases e2 : y = n
    · subst e2
      rw [if_pos rfl, if_pos rfl]
      split
      · next h => exact self _ _ _ _ h
      · rfl
    · rw [if_neg e2, if_neg e2]
section
variable {prog : Program} {w : World} {A : Around} {E : Value → Shared → Prop} {s : Shared} {env : Env} {h₀ : Heap} {x : Str} {body : List Stmt} {Q : Flow → Shared → Prop} {I : Addr}
theorem rangeRest_ofN {a : Int} {n : Nat} {m₀ : Str → Option Value} (ns : List Str) (J : Nat → (Str → Option Value) → List (Addr × Obj) → Prop)
    (turn : ∀ i g news t h tk, i < n → J i g news → Fr h₀ env.locals h (fun y => if y = x then some (.int (a + (i : Int)) t) else over ns g m₀ y) → News h₀ env.locals h ((I, itR (a + ((i + 1 : Nat) : Int)) ((n : Int) - ((i + 1 : Nat) : Int))) :: news) →
      wpAny (model prog w) A (execs body env) (UnrPost h₀ env.locals { s with heap := h, toks := tk } I (itR (a + ((i + 1 : Nat) : Int)) ((n : Int) - ((i + 1 : Nat) : Int))) (fun m' n' => (∀ y, y ∉ ns → m' y = m₀ y) ∧ J (i + 1) m' n') Q) E { s with heap := h, toks := tk })
    (done : ∀ g news h tk, J n g news → Fr h₀ env.locals h (over ns g m₀) → News h₀ env.locals h news → Q .next { s with heap := h, toks := tk })
    {news : List (Addr × Obj)} (hj : J 0 m₀ news) : RangeRest prog w A E h₀ env x body Q s I a n n 0 m₀ news :=
  rangeRest_of (fun i m news => ∃ g, m = over ns g m₀ ∧ J i g news)
    (fun i m news t h tk hi ⟨g, e, hJ⟩ F N => by
      subst e
      refine wpAny_mono (turn i g news t h tk hi hJ F N) (fun f s₂ p => unrPost_mono (fun m' n' q => ⟨m', over_of q.1, q.2⟩) f s₂ p) fun _ _ e => e)
    (fun m news h tk ⟨g, e, hJ⟩ F N => done g news h tk hJ (e ▸ F) N) n 0 m₀ news (Nat.zero_add n) ⟨m₀, over_of fun _ _ => rfl, hj⟩
theorem listRest_ofN {lp : Addr × Obj} {m₀ : Str → Option Value} (ns : List Str) (J : List Value → (Str → Option Value) → List (Addr × Obj) → Prop)
    (turn : ∀ v r g news it h tk, it.cls = .type "list_iterator" → J (v :: r) g news → Fr h₀ env.locals h (fun y => if y = x then some v else over ns g m₀ y) → News h₀ env.locals h ((I, it) :: news) →
      wpAny (model prog w) A (execs body env) (UnrPost h₀ env.locals { s with heap := h, toks := tk } I it (fun m' n' => lp ∈ n' ∧ (∀ y, y ∉ ns → m' y = m₀ y) ∧ J r m' n') Q) E { s with heap := h, toks := tk })
    (done : ∀ g news h tk, J [] g news → Fr h₀ env.locals h (over ns g m₀) → News h₀ env.locals h news → Q .next { s with heap := h, toks := tk })
    {vs : List Value} {news : List (Addr × Obj)} (hj : J vs m₀ news) : ListRest prog w A E h₀ env x body Q s I lp vs m₀ news :=
  listRest_of (fun r m news => ∃ g, m = over ns g m₀ ∧ J r g news)
    (fun v r m news it h tk hit ⟨g, e, hJ⟩ F N => by
      subst e
      refine wpAny_mono (turn v r g news it h tk hit hJ F N) (fun f s₂ p => unrPost_mono (fun m' n' q => ⟨q.1, m', over_of q.2.1, q.2.2⟩) f s₂ p) fun _ _ e => e)
    (fun m news h tk ⟨g, e, hJ⟩ F N => done g news h tk hJ (e ▸ F) N) vs m₀ news ⟨m₀, over_of fun _ _ => rfl, hj⟩
end
theorem news_put {h₀ h : Heap} {L : Addr} {p : Addr × Obj} {n : List (Addr × Obj)} (N : News h₀ L h n) (hp : p ∈ n) : News h₀ L h (p :: n) := fun q hq => by
  rcases List.mem_cons.mp hq with rfl | hq
  · exact N _ hp
  · exact N q hq
theorem allLt_ne {d : Addr} : ∀ {l : List (Addr × Obj)}, AllLt d l → ∀ p ∈ l, p.1 ≠ d
  | [], _, _, h => nomatch h
  | _ :: _, k, p, h => by
    rcases List.mem_cons.mp h with rfl | h
    · exact Nat.ne_of_lt k.1
    · exact allLt_ne k.2 p h
section
variable {prog : Program} {w : World} {A : Around} {E : Value → Shared → Prop} {s : Shared} {h₀ : Heap} {L D : Addr} {news : List (Addr × Obj)} {vs : List Value} {n : Nat} {k : Int} {u : Tok} {v : Value}
theorem kv_subE {value slice : PySem.Expr} {Q : Value → Shared → Prop} (N : News h₀ L s.heap news) (hm : (D, listOf vs.toArray n) ∈ news) (h0 : 0 ≤ k) (h1 : k < vs.length) (hfit : k < 2 ^ 63) (hv : vs.getD k.toNat .none = v) (h : Q v s)
    (hs : subscripted slice false (.ref D) (.int k u) = operate [.ref D, .int k u] (getItem (.ref D) (.int k u)) := by with_unfolding_all rfl) :
    wpAny (model prog w) A (subscriptTail value slice (.ref D) (.int k u)) Q E s := kv_sub N hm h0 h1 hfit (hv ▸ h) hs
end
theorem lt_same {I : Addr} {a : Addr} {o o' : Obj} {r : List (Addr × Obj)} (h : ∀ p ∈ (a, o) :: r, p.1 < I) : ∀ q ∈ (a, o') :: r, q.1 ≠ I := fun q hq => by
  rcases List.mem_cons.mp hq with rfl | hq
  · exact Nat.ne_of_lt (h (a, o) (.head _))
  · exact Nat.ne_of_lt (h q (.tail _ hq))
theorem nw_cut (j k : Nat) {h₀ h : Heap} {L : Addr} {all news : List (Addr × Obj)} (N : News h₀ L h all) (e : all.drop k = news) : News h₀ L h (news ++ all.take j) := fun q hq => N q (by
  rcases List.mem_append.mp hq with h | h
  · exact List.mem_of_mem_drop (e ▸ h)
  · exact List.mem_of_mem_take h)
end Mine
end
section
open PySem PySem.W PyProof.Rows PySem.Calls
namespace Mine
section
variable {prog : Program} {w : World} {A : Around} {E : Value → Shared → Prop} {s : Shared} {env : Env} {h₀ : Heap} {target : PySem.Expr} {body : List Stmt} {Q : Flow → Shared → Prop} {I : Addr}
theorem unrPostW_mono {L : Addr} {s₁ : Shared} {its : List (Addr × Obj)} {r r' : (Str → Option Value) → List (Addr × Obj) → Prop} (h : ∀ m n, r m n → r' m n) (f : Flow) (s₂ : Shared) (k : UnrPostW h₀ L s₁ its r Q f s₂) : UnrPostW h₀ L s₁ its r' Q f s₂ := by
  have e : UnrEndW h₀ L s₁ its r s₂ → UnrEndW h₀ L s₁ its r' s₂ := by
    rintro ⟨h', tk, m', n', a, b, c, d, e⟩
    exact ⟨h', tk, m', n', a, b, c, d, h _ _ e⟩
  cases f with
  | ret v => exact k
  | brk => exact k
  | next => exact e k
  | cont => exact e k
theorem itemsRest_ofN {keep : List (Addr × Obj)} {m₀ : Str → Option Value} (ns : List Str) (J : List Value → (Str → Option Value) → List (Addr × Obj) → Prop)
    (turn : ∀ v r g news it h tk, it.cls = .type "list_iterator" → J (v :: r) g news → Fr h₀ env.locals h (over ns g m₀) → News h₀ env.locals h ((I, it) :: news) →
      wpAny (model prog w) A (assign target env v) (fun _ s₂ => wpAny (model prog w) A (execs body env) (UnrPostW h₀ env.locals { s with heap := h, toks := tk } [(I, it)] (fun m' n' => SubL keep n' ∧ (∀ y, y ∉ ns → m' y = m₀ y) ∧ J r m' n') Q) E s₂) E { s with heap := h, toks := tk })
    (done : ∀ g news h tk, J [] g news → Fr h₀ env.locals h (over ns g m₀) → News h₀ env.locals h news → Q .next { s with heap := h, toks := tk }) :
    ∀ (vs : List Value) (g : Str → Option Value) (news : List (Addr × Obj)), J vs g news → ItemsRest prog w A E h₀ env target body Q s [(I, "list_iterator")] keep (vs.map .val) (over ns g m₀) news
  | [], g, news, hj => fun h tk F N => done g news h tk hj F N
  | v :: r, g, news, hj => fun u h tk e F => fun it hit N => by
    have e' : u = v := e
    subst e'
    refine wpAny_mono (turn u r g news it h tk hit hj F N) (fun _ s₂ q => wpAny_mono q (fun f s₃ p => unrPostW_mono (fun m' n' q => ?_) f s₃ p) fun _ _ e => e) fun _ _ e => e
    refine ⟨q.1, ?_⟩
    rw [over_of q.2.1]
    exact itemsRest_ofN ns J turn done r m' n' q.2.2
theorem over_self (ns : List Str) (m : Str → Option Value) : over ns m m = m := (over_of fun _ _ => rfl).symm
theorem itemsRest_of {keep : List (Addr × Obj)} {m₀ : Str → Option Value} (ns : List Str) (J : List Value → (Str → Option Value) → List (Addr × Obj) → Prop)
    (turn : ∀ v r g news it h tk, it.cls = .type "list_iterator" → J (v :: r) g news → Fr h₀ env.locals h (over ns g m₀) → News h₀ env.locals h ((I, it) :: news) →
      wpAny (model prog w) A (assign target env v) (fun _ s₂ => wpAny (model prog w) A (execs body env) (UnrPostW h₀ env.locals { s with heap := h, toks := tk } [(I, it)] (fun m' n' => SubL keep n' ∧ (∀ y, y ∉ ns → m' y = m₀ y) ∧ J r m' n') Q) E s₂) E { s with heap := h, toks := tk })
    (done : ∀ g news h tk, J [] g news → Fr h₀ env.locals h (over ns g m₀) → News h₀ env.locals h news → Q .next { s with heap := h, toks := tk })
    {vs : List Value} {news : List (Addr × Obj)} (hj : J vs m₀ news) : ItemsRest prog w A E h₀ env target body Q s [(I, "list_iterator")] keep (vs.map .val) m₀ news := by
  have h := itemsRest_ofN ns J turn done vs m₀ news hj
  rw [over_self] at h
  exact h
theorem iter_listTurnsS {ax : Addr} {lo : Obj} {vs : List Value} {n : Nat} {m₀ : Str → Option Value} {news : List (Addr × Obj)}
    (hh : A.handled = none) (F : Fr h₀ env.locals s.heap m₀) (N : News h₀ env.locals s.heap news) (hm : (ax, lo) ∈ news) (hc : lo.cls = .type "list") (hd : lo.data = .seq vs.toArray n)
    (rest₀ : ∀ I : Addr, (∀ p ∈ news, p.1 < I) → ItemsRest prog w A E h₀ env target body Q s [(I, "list_iterator")] [(ax, lo)] (vs.map .val) m₀ news) :
    wpAny (model prog w) A (pyIter (.ref ax)) (fun it s₂ => TurnsAt prog w A h₀ env target body Q E it s₂) E s := iter_listTurns hh F N hm hc hd rest₀
theorem unrEndW_of {L : Addr} {it : Obj} {rest : (Str → Option Value) → List (Addr × Obj) → Prop} {s₁ : Shared} {h' : Heap} {tk : Nat} {m' : Str → Option Value} {all : List (Addr × Obj)} (F : Fr h₀ L h' m') (N : News h₀ L h' all) (k : Nat) (hI : (I, it) ∈ all) (off : ∀ q ∈ all.drop k, q.1 ≠ I) (r : rest m' (all.drop k)) : UnrEndW h₀ L s₁ [(I, it)] rest { s₁ with heap := h', toks := tk } :=
  ⟨h', tk, m', all.drop k, rfl, F, fun q hq => by
    rcases List.mem_append.mp hq with hq | hq
    · rw [List.mem_singleton.mp hq]; exact N _ hI
    · exact N q (List.mem_of_mem_drop hq), fun p hp q hq => by
    rw [List.mem_singleton.mp hq]
    exact off p hp, r⟩
theorem unrEnd_of {L : Addr} {it : Obj} {rest : (Str → Option Value) → List (Addr × Obj) → Prop} {s₁ : Shared} {h' : Heap} {tk : Nat} {m' : Str → Option Value} {all : List (Addr × Obj)} (F : Fr h₀ L h' m') (N : News h₀ L h' all) (k : Nat) (hI : (I, it) ∈ all) (off : ∀ q ∈ all.drop k, q.1 ≠ I) (r : rest m' (all.drop k)) : UnrEnd h₀ L s₁ I it rest { s₁ with heap := h', toks := tk } :=
  ⟨h', tk, m', all.drop k, rfl, F, fun q hq => by
    rcases List.mem_cons.mp hq with hq | hq
    · rw [hq]; exact N _ hI
    · exact N q (List.mem_of_mem_drop hq), off, r⟩
def StopAt : Prop := True
theorem news_skip2 {h₀ h : Heap} {L : Addr} {a b : Addr × Obj} {r : List (Addr × Obj)} (N : News h₀ L h (a :: b :: r)) : News h₀ L h (a :: r) := fun q hq => N q (by
  rcases List.mem_cons.mp hq with h | h
  · rw [h]; exact .head _
  · exact .tail _ (.tail _ h))
theorem allLt_all {d : Addr} : ∀ {l : List (Addr × Obj)}, AllLt d l → ∀ p ∈ l, p.1 < d
  | [], _, _, h => nomatch h
  | _ :: _, k, p, h => by
    rcases List.mem_cons.mp h with rfl | h
    · exact k.1
    · exact allLt_all k.2 p h
theorem subL_one {p : Addr × Obj} {n : List (Addr × Obj)} (h : p ∈ n) : SubL [p] n := ⟨h, trivial⟩
end
section
variable {prog : Program} {w : World} {A : Around} {E : Value → Shared → Prop} {s : Shared} {h₀ : Heap} {L D : Addr} {m : Str → Option Value} {news news' : List (Addr × Obj)} {vs : List Value} {n : Nat} {x : Value}
theorem kv_len {j : Nat} {Q : Value → Shared → Prop} (N : News h₀ L s.heap news) (hm : (D, listOf vs.toArray n) ∈ news) (hj : vs.length = j) (hz : j < 100000) (h : ∀ t tk', Q (.int (j : Int) t) { s with toks := tk' }) : wpAny (model prog w) A (call (.builtin "len") [.ref D]) Q E s := by
  refine call_len_list (PySem.IsL.isList (n := n) (N _ hm).1) (by rw [List.size_toArray]; omega) ?_
  rw [List.size_toArray, hj]
  exact h _ _
theorem kv_append {Q : Value → Shared → Prop} (F : Fr h₀ L s.heap m) (N : News h₀ L s.heap news) (U : Upd D (listOf vs.toArray n) (listOf (vs ++ [x]).toArray (n + 1)) news news') (hz : vs.length < 1000)
    (h : ∀ h', Fr h₀ L h' m → News h₀ L h' news' → Q .none { s with heap := h' }) : wpAny (model prog w) A (call (.builtin "list.append") [.ref D, x]) Q E s := by
  have e : vs.toArray.push x = (vs ++ [x]).toArray := by simp
  rw [← e] at U
  exact append_K F N U h (by rw [sizeLine_eq, List.size_toArray]; omega)
theorem kv_add {l b : Addr} {ws : List Value} {n2 : Nat} {Q : Value → Shared → Prop} (F : Fr h₀ L s.heap m) (N : News h₀ L s.heap news) (ha : (l, listOf vs.toArray n) ∈ news) (hb : (b, listOf ws.toArray n2) ∈ news) (hz : vs.length + ws.length < 1000)
    (h : ∀ D h', Fr h₀ L h' m → News h₀ L h' ((D, listOf (vs ++ ws).toArray 0) :: news) → (∀ q ∈ news, q.1 < D) → Q (.ref D) { s with heap := h' }) : wpAny (model prog w) A (binaryOp .Add (.ref l) (.ref b)) Q E s :=
  add_lists F N (PySem.IsL.isList (n := n) (N _ ha).1) (PySem.IsL.isList (n := n2) (N _ hb).1) (fun h' F' N' => h _ h' F' N' fun p hp => Heap.lt_size (N p hp).1) (by rw [sizeLine_eq]; omega)
end
end Mine
end
section
local macro_rules | `(tactic| k_fold) => `(tactic| (k_whole; refine Mine.foldQ ?_; intro qk; intros hq))
local macro_rules | `(tactic| k_unfold) => `(tactic| (with_reducible refine Mine.unfoldQ (by assumption) ?_))
local macro_rules | `(tactic| kcj_call) => `(tactic| fail)
local macro_rules | `(tactic| intro $xs:term*) => do
  unless xs.size > 0 && xs.all (fun x => x.raw.isIdent || x.raw.isOfKind ``Lean.Parser.Term.hole) do Lean.Macro.throwUnsupported
  let ys := xs.map fun x => ⟨x.raw⟩
  let mut t ← `(tactic| intros $ys*)
  let bad (x : Lean.Syntax) : Bool := match x.getId.eraseMacroScopes.toString.toList with
    | 'F' :: _ => true | 'N' :: _ => true | 'h' :: c :: _ => c.isAlpha | _ => false
  let m := (xs.takeWhile fun x => !bad x.raw).size
  for k in [1:13] do
    if k ≤ m then
      let hs ← (Array.range k).mapM fun _ => `(_)
      let e := Lean.mkIdent (Lean.Name.mkStr `Mine s!"ep{k}")
      let b := Lean.mkIdent (Lean.Name.mkStr `Mine s!"KB{k}")
      let a := ys.extract 0 k
      let r := ys.extract k ys.size
      let u ← if k < ys.size then `(tactic| intros $r*) else `(tactic| skip)
      t ← `(tactic| first | (with_reducible (walk_at "EP"; refine (?k : $b ?f); refine $e (by infer_instance) ?_; apply (?f $hs*); (try any_goals exact default)); intros $a*; refine Mine.Bx.mk ?_; $u:tactic) | $t:tactic)
  return t
section
namespace Mine

theorem rows_GR1_1 : True := by
  k_with_none
  k_with "EP" => (k_whole; fail_if_success (fail_if_success (rename Below _ _ _ _ => b9_z)))
  k_with "exec For Name Subscript cons nil" => (k_here; (rename Fr _ _ _ _ => lF'_z); (with_unfolding_all refine' For_invVF lF'_z ?k1 ?k2 ?_; (case k1 => exact rfl); (case k2 => exact rfl); k_whole))
  k_with "pyIter ref" => ((with_reducible show wpAny _ _ (pyIter (Value.ref _)) (fun it s₂ => LoopAtV _ _ _ _ _ _ _ _ _ it s₂) _ _); refine Stop.un ?_)
  trivial
theorem sz_ints {vs : List Value} {ns : List Int} (h : IntsAre vs ns) (hn : ns.length ≤ 63) : vs.toArray.size ≤ sizeLine := by
  rw [List.size_toArray, IntsAre.length h, sizeLine_eq]; omega
theorem grand_step {g x : Int} {k : Nat} (h : 0 ≤ g ∧ g < 65536 ^ k) : 0 ≤ g * 65536 + Int.fmod x 65536 ∧ g * 65536 + Int.fmod x 65536 < 65536 ^ (k + 1) := by
  have e : Int.fmod x 65536 = x % 65536 := fmodK x 65536 (by decide)
  rw [e, Int.pow_succ]
  generalize (65536 : Int) ^ k = P at h
  omega
theorem grand_end {g : Int} {k : Nat} (hk : k ≤ 24) (h : 0 ≤ g ∧ g < 65536 ^ k) : 0 ≤ g ∧ g < 2 ^ 400 := by
  refine ⟨h.1, Int.lt_of_lt_of_le h.2 ?_⟩
  have h1 : (65536 : Int) ^ k ≤ 65536 ^ 24 := by
    have e : ∀ j : Nat, (65536 : Int) ^ j = ((65536 ^ j : Nat) : Int) := fun j => by rw [Int.natCast_pow]; rfl
    rw [e, e]
    exact Int.ofNat_le.mpr (Nat.pow_le_pow_right (by decide) hk)
  exact Int.le_trans h1 (by decide +kernel)
theorem rows_GR1_2 : True := by
  k_with "subscriptTail Name Slice ref ref" => (k_here; (with_reducible show wpAny _ _ (subscriptTail _ (PySem.Expr.Slice _ _ none _) (Value.ref _) (Value.ref _)) _ _ _); k_dflt (refine' kmk_slice_ints ?F ?N ?l ?p ?q ?i ?m ?c ?_ ?s ?t ?z; (case F => k_asm); (case N => k_asm); (case l => kmk_list); (case p => kmk_part); (case q => kmk_part); (case i => assumption); (case m => kmk_nums); (case c => kmk_len); (case s => with_unfolding_all rfl); (case t => kmk_pure); (case z => exact sz_ints (by assumption) (by assumption))); intro D'_z ws'_z h'_z F'_z N'_z l1_z hI'_z hC'_z hL'_z; (try simp only [Int.reduceNeg, Int.neg_neg, Int.reduceToNat] at hI'_z hC'_z hL'_z); (try k_lt l1_z); (try k_sweep))
  trivial
theorem grand_ok : ∀ (w : World) (p : Program) (loose : List Str) (mean : ExcName → Option Value) (mg mb : Str → Option Value) (dp un : Nat) (gd : Option (List Code)) (cn : Str) (cs : Scope) (a : Addr) (ccd : Value) (cl : List (Str × Addr)) (outer : List Env) (A₀ : Around) (base h₀ : Heap) (L : Addr) (m : Str → Option Value) (s : Shared) (Q E : Value → Shared → Prop) (news : List (Addr × Obj)) (l : Addr) (vs : List Value) (ns : List Int), Below A₀ base outer h₀ → Fr h₀ L s.heap m → (Kf w.params).In h₀ → News h₀ L s.heap (news) → Top p loose mean mg mb h₀ → cs.kind = .function → dp + 2 < recursionLimit → un + 16 < cLine → (h₀.IsList l vs.toArray) → (IntsAre vs ns) → (ns.length ≤ 63) → (∀ (g : Int) (tg : Tok) (h' : Heap) (tk' : Nat), (0 ≤ g ∧ g < 2 ^ 400) → Fr h₀ L h' m → News h₀ L h' (news) → Q (.int g tg) { s with heap := h', toks := tk' }) → wpAny (model PySem.Challenge.rw_pc0174_01.row.prog w) (ktrTop dp un gd cn cs L a ccd cl outer) (call (.ref 524) [.ref l]) Q E s := by
  k_fill
  refine (?k1k : KBcx ?f1f); refine ep_cx ?_; apply (?f1f _ _ _ _ _ _ _ _ _ _ _ _ _ _ _ _ _ _ _ _ _ _ _); (try any_goals exact default); intros w p loose mean mg mb dp un gd cn cs a ccd cl outer A₀ base h₀ L m s Q E; refine Bx.mk ?_
  refine (?k2k : KB4 ?f2f); refine ep4 (by repeat' (first | infer_instance | exact ne_world | exact ne_shared | exact ne_around | exact ⟨.none⟩ | exact ⟨⟨0, 0, 0, 0⟩⟩ | refine ne_prod ?_ ?_)) ?_; apply (?f2f _ _ _ _); (try any_goals exact default); intros news l vs ns; refine Bx.mk ?_
  intro B F X N T hck hd9 hu9 hl hi hn hret
  refine wpAny_call ?_
  k_dflt cell_enter
  (rename Fr h₀ L _ m => FG)
  have hl2 := stays_list (fun b o e => FG.keep b o e) hl
  k_steps
  refine Stop.mk ?_
  (rename IntsAre _ (List.reverse _) => hIr)
  (rename Fr _ _ _ _ => lF'); (rename News _ _ _ _ => lN')
  with_unfolding_all refine iter_listUnr (by rfl) lF' lN' (by k_mem) rfl rfl ?_
  clear lF' lN'
  intro I hI
  have hll : (List.take 24 ns).reverse.length ≤ 24 := by rw [List.length_reverse, List.length_take]; omega
  refine listRest_ofN [Str.ofString "one", Str.ofString "grand"]
    (fun r gm nw => ∃ (g : Int) (t : Tok) (k : Nat) (ms : List Int), gm (Str.ofString "grand") = some (.int g t) ∧ IntsAre r ms ∧ k + ms.length ≤ 24 ∧ (0 ≤ g ∧ g < 65536 ^ k) ∧ nw = (_, listOf (List.toArray _) 0) :: (_, listOf (List.toArray _) 0) :: news) ?turn ?done ⟨0, _, 0, _, rfl, hIr, by omega, by decide, rfl⟩
  case turn =>
    intro v r gm nw it h₂ tk₂ hit hj F2 N2
    obtain ⟨g, t, k, ms, hgm, hints, hk, hg, rfl⟩ := hj
    revert g t k ms
    refine (?k3k : KB4 ?f3f); refine ep4 (by repeat' (first | infer_instance | exact ne_world | exact ne_shared | exact ne_around | exact ⟨.none⟩ | exact ⟨⟨0, 0, 0, 0⟩⟩ | refine ne_prod ?_ ?_)) ?_; apply (?f3f _ _ _ _); (try any_goals exact default); intros g t k ms; refine Bx.mk ?_
    set_option tactic.hygienic false in intros
    dsimp only [over] at F2
    rw [hgm] at F2
    cases hints with
    | cons n t' hr =>
      have hbig : g < 2 ^ 400 := (grand_end (by omega) hg).2
      simp only [List.length_cons] at hk
      k_steps
      (rename News _ _ _ _ => lN); (rename Fr _ _ _ _ => lF)
      refine unrEnd_of lF lN 1 (.head _) (fun q hq => Nat.ne_of_lt (hI q hq)) ⟨.head _, ?keep, _, _, k + 1, _, rfl, hr, by omega, grand_step hg, rfl⟩
      intro y hy
      simp only [List.mem_cons, List.not_mem_nil, or_false, not_or] at hy
      simp only [hy, if_false]
  case done =>
    intro gm nw h₂ tk₂ hj F2 N2
    obtain ⟨g, t, k, ms, hgm, hints, hk, hg, rfl⟩ := hj
    revert g t k ms
    refine (?k4k : KB4 ?f4f); refine ep4 (by repeat' (first | infer_instance | exact ne_world | exact ne_shared | exact ne_around | exact ⟨.none⟩ | exact ⟨⟨0, 0, 0, 0⟩⟩ | refine ne_prod ?_ ?_)) ?_; apply (?f4f _ _ _ _); (try any_goals exact default); intros g t k ms; refine Bx.mk ?_
    set_option tactic.hygienic false in intros
    dsimp only [over] at F2
    rw [hgm] at F2
    k_steps
    (rename News h₀ L _ _ => lN)
    exact hret _ _ _ _ (grand_end (by omega) hg) (by k_asm) (news_tl (news_tl lN))
theorem rows_GR1_3 : True := by
  k_with "call ref" => (k_here; k_dflt (refine' grand_ok _ _ _ _ _ _ _ _ _ _ _ _ _ _ _ _ _ _ _ _ _ _ _ _ _ _ _ ?kB ?kF ?kX ?kN ?kT ?kK ?kd ?ku ?q0 ?q1 ?q2 ?_; (case kB => k_asm); (case kF => k_asm); (case kX => k_asm); (case kN => k_asm); (case kT => k_asm); (case kK => first | exact rfl | assumption); (case kd => ktr_room); (case ku => ktr_units); (case q0 => assumption); (case q1 => assumption); (case q2 => omega); k_whole); intro g_z tg_z h'_z tk'_z hg1_z F'_z N'_z; (try k_sweep))
  trivial
end Mine
end
section
namespace Mine
theorem put_same {m : Str → Option Value} {x y : Str} {v r : Option Value} (h : m x = v) (hr : r = m y) : (if y = x then v else r) = m y := by
  split
  · next e => rw [e]; exact h.symm
  · exact hr
theorem fr_as {h₀ h : Heap} {L : Addr} {m m' : Str → Option Value} (F : Fr h₀ L h m) (e : ∀ y, m' y = m y) : Fr h₀ L h m' := (funext e : m' = m) ▸ F
theorem over_neg {y : Str} {g m : Str → Option Value} : ∀ {ns : List Str}, y ∉ ns → over ns g m y = m y
  | [], _ => rfl
  | _ :: _, h => by
    unfold over
    rw [if_neg fun e => h (by rw [e]; exact .head _)]
    exact over_neg fun e => h (.tail _ e)
theorem fr_gen {h₀ h : Heap} {L : Addr} {x : Str} {v : Option Value} {ns : List Str} {g m₀ : Str → Option Value} (F : Fr h₀ L h (fun y => if y = x then v else over ns g m₀ y)) (hx : x ∈ ns) :
    ∃ mt, Fr h₀ L h mt ∧ mt x = v ∧ (∀ y, y ∈ ns → y ≠ x → mt y = g y) ∧ ∀ y, y ∉ ns → mt y = m₀ y :=
  ⟨_, F, if_pos rfl, fun y hy hn => (if_neg hn).trans (by
    clear F hx
    induction ns with
    | nil => exact absurd hy List.not_mem_nil
    | cons n ns ih =>
      unfold over
      by_cases e : y = n
      · rw [if_pos e, e]
      · rw [if_neg e]
        exact ih ((List.mem_cons.mp hy).resolve_left e)), fun _ hy => (if_neg fun e => hy (by rw [e]; exact hx)).trans (over_neg hy)⟩
theorem keep_if {ns : List Str} {m m₀ : Str → Option Value} {x : Str} {v : Option Value} (hx : x ∈ ns) (h : ∀ y, y ∉ ns → m y = m₀ y) : ∀ y, y ∉ ns → (if y = x then v else m y) = m₀ y := fun y hy => (if_neg fun e => hy (by rw [e]; exact hx)).trans (h y hy)
def WStepN (ns : List Str) (h₀ : Heap) (L : Addr) (s : Shared) (m : Str → Option Value) (J : Nat → (Str → Option Value) → List (Addr × Obj) → Prop) (Q : Flow → Shared → Prop) (n : Nat) (f : Flow) (s₃ : Shared) : Prop :=
  match f with
  | .next | .cont => ∃ h' tk m₂ nw n', s₃ = { s with heap := h', toks := tk } ∧ Fr h₀ L h' m₂ ∧ News h₀ L h' nw ∧ n' < n ∧ (∀ y, y ∉ ns → m₂ y = m y) ∧ J n' m₂ nw
  | .brk => Q .next s₃
  | .ret v => Q (.ret v) s₃
theorem mem_of {α : Type} {a : α} {l : List α} (h : a ∈ l) : List.Mem a l := h
def CutT {τ β : Type} (g : Heap) (L : Addr) (s0 : Shared) (mm : τ → Str → Option Value) (news : List (Addr × Obj)) (v b : β) (s' : Shared) : Prop :=
  b = v ∧ ∃ x h tk, s' = { s0 with heap := h, toks := tk } ∧ Fr g L h (mm x) ∧ News g L h news
theorem CutT.mk {τ β : Type} {g h : Heap} {L : Addr} {s0 : Shared} {mm : τ → Str → Option Value} {news : List (Addr × Obj)} {v : β} {tk : Nat} (x : τ) (F : Fr g L h (mm x)) (N : News g L h news) : CutT g L s0 mm news v v { s0 with heap := h, toks := tk } := ⟨rfl, x, h, tk, rfl, F, N⟩
theorem CutT.two {τ β : Type} {g h : Heap} {L : Addr} {s0 : Shared} {n1 n2 : Str} {f1 f2 : τ → Option Value} {m m1 : Str → Option Value} {news : List (Addr × Obj)} {v : β} {tk : Nat} (x : τ) (F : Fr g L h m1) (N : News g L h news) (e : ∀ y, (if y = n1 then f1 x else if y = n2 then f2 x else m y) = m1 y) :
    CutT g L s0 (fun x y => if y = n1 then f1 x else if y = n2 then f2 x else m y) news v v { s0 with heap := h, toks := tk } := CutT.mk x (fr_as F e) N
theorem CutT.same {τ β : Type} {g h : Heap} {L : Addr} {s0 : Shared} {n1 n2 : Str} {f1 f2 : τ → Option Value} {m : Str → Option Value} {news : List (Addr × Obj)} {v : β} {tk : Nat} (x : τ) (F : Fr g L h m) (N : News g L h news) (h1 : m n1 = f1 x) (h2 : m n2 = f2 x) :
    CutT g L s0 (fun x y => if y = n1 then f1 x else if y = n2 then f2 x else m y) news v v { s0 with heap := h, toks := tk } := CutT.mk x (fr_as F fun _ => put_same h1 (put_same h2 rfl)) N
theorem CutT.none {β : Type} {g h : Heap} {L : Addr} {s0 : Shared} {m : Str → Option Value} {news : List (Addr × Obj)} {v : β} {tk : Nat} (F : Fr g L h m) (N : News g L h news) : CutT g L s0 (fun (_ : Unit) => m) news v v { s0 with heap := h, toks := tk } := CutT.mk () F N
theorem CutT.noneB {g h : Heap} {L : Addr} {s0 : Shared} {m : Str → Option Value} {news : List (Addr × Obj)} {b c : Bool} {tk : Nat} (e : c = b) (F : Fr g L h m) (N : News g L h news) : CutT g L s0 (fun (_ : Unit) => m) news (Value.bool b) (Value.bool c) { s0 with heap := h, toks := tk } := e ▸ CutT.mk () F N
theorem cut_two {τ β : Type} {M : Model} {A : Around} {t : Sem β} {E : Value → Shared → Prop} {Q : β → Shared → Prop} {s : Shared} {g : Heap} {L : Addr} {m : Str → Option Value} {news : List (Addr × Obj)} (v : β) (n1 n2 : Str) (f1 f2 : τ → Option Value) (_ : Fr g L s.heap m) (_ : News g L s.heap news)
    (h : wpAny M A t (CutT g L s (fun x y => if y = n1 then f1 x else if y = n2 then f2 x else m y) news v) E s)
    (k : ∀ x h tk, Fr g L h (fun y => if y = n1 then f1 x else if y = n2 then f2 x else m y) → News g L h news → Q v { s with heap := h, toks := tk }) : wpAny M A t Q E s :=
  wpAny_mono h (by rintro b s' ⟨rfl, x, h, tk, rfl, F, N⟩; exact k x h tk F N) fun _ _ e => e
theorem cut_none {β : Type} {M : Model} {A : Around} {t : Sem β} {E : Value → Shared → Prop} {Q : β → Shared → Prop} {s : Shared} {g : Heap} {L : Addr} {m : Str → Option Value} {news : List (Addr × Obj)} (v : β) (_ : Fr g L s.heap m) (_ : News g L s.heap news)
    (h : wpAny M A t (CutT g L s (fun (_ : Unit) => m) news v) E s) (k : ∀ h tk, Fr g L h m → News g L h news → Q v { s with heap := h, toks := tk }) : wpAny M A t Q E s :=
  wpAny_mono h (by rintro b s' ⟨rfl, x, h, tk, rfl, F, N⟩; exact k h tk F N) fun _ _ e => e
section
variable {prog : Program} {w : World} {A : Around} {E : Value → Shared → Prop} {Q : Flow → Shared → Prop} {s : Shared} {env : Env} {h₀ : Heap} {L : Addr}
theorem While_ofN (ns : List Str) {test : PySem.Expr} {body : List Stmt} {pos : Pos} {m : Str → Option Value} {news : List (Addr × Obj)} (J : Nat → (Str → Option Value) → List (Addr × Obj) → Prop) {n₀ : Nat}
    (F : Fr h₀ L s.heap m) (N : News h₀ L s.heap news) (hJ : J n₀ m news)
    (turn : ∀ n g nw h₁ tk₁, Fr h₀ L h₁ (over ns g m) → News h₀ L h₁ nw → J n g nw →
      wpAny (model prog w) A (isTrue test env (eval test env)) (fun b s₂ =>
        if b = true then wpAny (model prog w) A (execs body env) (WStepN ns h₀ L s m J Q n) E s₂ else Q .next s₂) E { s with heap := h₁, toks := tk₁ })
    (hE : PassesOwn (model prog w) A env E := by passes_own) :
    wpAny (model prog w) A (exec (.While test body [] pos) env) Q E s := by
  revert F N hJ turn hE
  revert prog w A E Q s env h₀ L ns test body pos m news J n₀
  refine (?k511k : KB9 ?f511f); refine ep9 (by repeat' (first | infer_instance | exact ne_world | exact ne_shared | exact ne_around | exact ⟨.none⟩ | exact ⟨⟨0, 0, 0, 0⟩⟩ | refine ne_prod ?_ ?_)) ?_; apply (?f511f _ _ _ _ _ _ _ _ _); (try any_goals exact default); intros prog w A E Q s env h₀ L; refine Bx.mk ?_; refine (?k512k : KB8 ?f512f); refine ep8 (by repeat' (first | infer_instance | exact ne_world | exact ne_shared | exact ne_around | exact ⟨.none⟩ | exact ⟨⟨0, 0, 0, 0⟩⟩ | refine ne_prod ?_ ?_)) ?_; apply (?f512f _ _ _ _ _ _ _ _); (try any_goals exact default); intros ns test body pos m news J n₀; refine Bx.mk ?_
  intro F N hJ turn hE
  refine wpAny_While (codeAny_whileLoop (fun n s' => ∃ h₁ tk₁ g nw, s' = { s with heap := h₁, toks := tk₁ } ∧ Fr h₀ L h₁ (over ns g m) ∧ News h₀ L h₁ nw ∧ J n g nw) ?_ n₀ ⟨s.heap, s.toks, m, news, rfl, over_of (ns := ns) (m := m) (m' := m) (fun _ _ => rfl) ▸ F, N, hJ⟩)
  rintro n s' ⟨h₁, tk₁, g, nw, rfl, F₁, N₁, J₁⟩
  revert n h₁ tk₁ g nw
  refine (?k513k : KB5 ?f513f); refine ep5 (by repeat' (first | infer_instance | exact ne_world | exact ne_shared | exact ne_around | exact ⟨.none⟩ | exact ⟨⟨0, 0, 0, 0⟩⟩ | refine ne_prod ?_ ?_)) ?_; apply (?f513f _ _ _ _ _); (try any_goals exact default); intros n h₁ tk₁ g nw; refine Bx.mk ?_
  set_option tactic.hygienic false in intros
  refine wpAny_mono (turn n g nw h₁ tk₁ F₁ N₁ J₁) (fun b s₂ h₂ => ?_) hE
  cases b with
  | false =>
    simp only [Bool.false_eq_true, if_false] at h₂ ⊢
    exact wpAny_execs_nil h₂
  | true =>
    simp only [if_true] at h₂ ⊢
    refine wpAny_mono h₂ (fun f s₃ h₃ => ?_) hE
    cases f with
    | next =>
      obtain ⟨h', tk, m₂, nw₂, n', rfl, F₂, N₂, hn, hm, J₂⟩ := h₃
      exact ⟨n', hn, h', tk, m₂, nw₂, rfl, over_of hm ▸ F₂, N₂, J₂⟩
    | cont =>
      obtain ⟨h', tk, m₂, nw₂, n', rfl, F₂, N₂, hn, hm, J₂⟩ := h₃
      exact ⟨n', hn, h', tk, m₂, nw₂, rfl, over_of hm ▸ F₂, N₂, J₂⟩
    | brk => exact h₃
    | ret v => exact h₃
theorem wstep_brk {ns : List Str} {m : Str → Option Value} {J : Nat → (Str → Option Value) → List (Addr × Obj) → Prop} {n : Nat} {s₃ : Shared} (h : Q .next s₃) : WStepN ns h₀ L s m J Q n .brk s₃ := h
theorem wstep_ret {ns : List Str} {m : Str → Option Value} {J : Nat → (Str → Option Value) → List (Addr × Obj) → Prop} {n : Nat} {v : Value} {s₃ : Shared} (h : Q (.ret v) s₃) : WStepN ns h₀ L s m J Q n (.ret v) s₃ := h
theorem wstep_next {ns : List Str} {h' : Heap} {m m₂ : Str → Option Value} {J : Nat → (Str → Option Value) → List (Addr × Obj) → Prop} {n n' tk : Nat} {nw : List (Addr × Obj)} (F : Fr h₀ L h' m₂) (N : News h₀ L h' nw) (hn : n' < n) (hm : ∀ y, y ∉ ns → m₂ y = m y) (hJ : J n' m₂ nw) :
    WStepN ns h₀ L s m J Q n .next { s with heap := h', toks := tk } := ⟨h', tk, m₂, nw, n', rfl, F, N, hn, hm, hJ⟩
end
end Mine
end
section
namespace Mine
def wrapW (n w : Int) : Int := if n % 2 ^ w.toNat ≥ 2 ^ (w - 1).toNat then n % 2 ^ w.toNat - 2 ^ w.toNat else n % 2 ^ w.toNat
def divT (a b : Int) : Int := if (decide (a < 0) != decide (b < 0)) = true then -((if a < 0 then -a else a).fdiv (if b < 0 then -b else b)) else (if a < 0 then -a else a).fdiv (if b < 0 then -b else b)
theorem neg_emod (n M : Int) (hM : 0 < M) : (-n - 1) % M = M - 1 - n % M := by
  have h0 := Int.emod_nonneg n (Int.ne_of_gt hM)
  have h1 := Int.emod_lt_of_pos n hM
  have e : -n - 1 = (M - 1 - n % M) + M * (-(n / M) - 1) := by
    have := Int.emod_add_mul_ediv n M
    rw [Int.mul_sub, Int.mul_neg]
    omega
  rw [e, Int.add_mul_emod_self_left, Int.emod_eq_of_lt (by omega) (by omega)]
theorem andW (n w : Int) (h : 0 ≤ w) : Builtin.bitAnd n (2 ^ w.toNat - 1) = n % 2 ^ w.toNat := by
  obtain ⟨k, rfl⟩ := Int.eq_ofNat_of_zero_le h
  rw [Int.toNat_natCast]
  have hk : (2 : Int) ^ k - 1 = ((2 ^ k - 1 : Nat) : Int) := by
    have : 1 ≤ 2 ^ k := Nat.one_le_two_pow
    push_cast [Int.natCast_sub this]; rfl
  have hp : (0 : Int) ≤ 2 ^ k - 1 := by rw [hk]; exact Int.natCast_nonneg _
  by_cases hn : 0 ≤ n
  · rw [bitAnd_pp hn hp]
    obtain ⟨m, rfl⟩ := Int.eq_ofNat_of_zero_le hn
    rw [hk, Int.toNat_natCast, Int.toNat_natCast, Nat.and_two_pow_sub_one_eq_mod]
    push_cast; rfl
  · rw [bitAnd_np hn hp, hk, Int.toNat_natCast, Nat.and_comm, Nat.and_two_pow_sub_one_eq_mod]
    unfold Builtin.bitNot
    have e : ((-n - 1).toNat : Int) = -n - 1 := Int.toNat_of_nonneg (by omega)
    rw [show (2 : Int) ^ k = ((2 ^ k : Nat) : Int) by push_cast; rfl]
    have h1 : 1 ≤ 2 ^ k := Nat.one_le_two_pow
    have h2 : (((-n - 1).toNat % 2 ^ k : Nat) : Int) = (-n - 1) % ((2 ^ k : Nat) : Int) := by rw [Int.natCast_emod, e]
    have h3 := neg_emod n ((2 ^ k : Nat) : Int) (by omega)
    omega
theorem wrap_hi {n w : Int} (h0 : 1 ≤ w) (h : 1 * 2 ^ (w - 1).toNat ≤ Builtin.bitAnd n (1 * 2 ^ w.toNat - 1)) : Builtin.bitAnd n (1 * 2 ^ w.toNat - 1) - 1 * 2 ^ w.toNat = wrapW n w := by
  simp only [Int.one_mul] at h ⊢
  rw [andW n w (by omega)] at h ⊢
  unfold wrapW
  rw [if_pos h]
theorem wrap_lo {n w : Int} (h0 : 1 ≤ w) (h : ¬ 1 * 2 ^ (w - 1).toNat ≤ Builtin.bitAnd n (1 * 2 ^ w.toNat - 1)) : Builtin.bitAnd n (1 * 2 ^ w.toNat - 1) = wrapW n w := by
  simp only [Int.one_mul] at h ⊢
  rw [andW n w (by omega)] at h ⊢
  unfold wrapW
  rw [if_neg h]
theorem wrapW_bd {n w : Int} (h0 : 1 ≤ w) : -(2 ^ (w - 1).toNat) ≤ wrapW n w ∧ wrapW n w < 2 ^ (w - 1).toNat := by
  have e : (2 : Int) ^ w.toNat = 2 ^ (w - 1).toNat * 2 := by
    rw [show w.toNat = (w - 1).toNat + 1 by omega, Int.pow_succ]
  have hp : (0 : Int) < 2 ^ (w - 1).toNat := Int.pow_pos (by decide)
  have h1 := Int.emod_nonneg n (b := 2 ^ w.toNat) (by rw [e]; omega)
  have h2 := Int.emod_lt_of_pos n (b := 2 ^ w.toNat) (by rw [e]; omega)
  unfold wrapW
  rw [e] at h1 h2 ⊢
  generalize (2 : Int) ^ (w - 1).toNat = M at *
  split <;> omega
theorem pow_le {k n : Nat} (h : k ≤ n) : (2 : Int) ^ k ≤ 2 ^ n := by
  have := Nat.pow_le_pow_right (n := 2) (by decide) h
  exact_mod_cast this
theorem wrapW_bits {n w : Int} (h0 : 1 ≤ w) (h1 : w ≤ 64) : Builtin.Int.intBits (wrapW n w) ≤ 64 := by
  have h := wrapW_bd (n := n) h0
  have k := pow_le (show (w - 1).toNat ≤ 63 by omega)
  exact intBits_le_64 (by omega) (by omega)
theorem wrapW_mod {m n w : Int} (h : m % 2 ^ w.toNat = n % 2 ^ w.toNat) : wrapW m w = wrapW n w := by unfold wrapW; rw [h]
theorem wrapW_emod (n w : Int) : wrapW n w % 2 ^ w.toNat = n % 2 ^ w.toNat := by
  unfold wrapW
  split
  · rw [Int.sub_emod_right]; exact Int.emod_emod_of_dvd n (Int.dvd_refl _)
  · exact Int.emod_emod_of_dvd n (Int.dvd_refl _)
theorem wrapW_mul (a b w : Int) : wrapW (wrapW a w * b) w = wrapW (a * b) w := wrapW_mod (by rw [Int.mul_emod, wrapW_emod, ← Int.mul_emod])
theorem wrapW_pow (a w : Int) : ∀ k : Nat, (wrapW a w ^ k) % 2 ^ w.toNat = (a ^ k) % 2 ^ w.toNat
  | 0 => by rw [Int.pow_zero, Int.pow_zero]
  | k + 1 => by rw [Int.pow_succ, Int.mul_emod, wrapW_pow a w k, wrapW_emod, ← Int.mul_emod, ← Int.pow_succ]
theorem pow_half {b : Int} (h : 0 < b) (h1 : b % 2 = 1) (bs : Int) : bs ^ b.toNat = bs * (bs * bs) ^ (Int.fdiv b 2).toNat := by
  rw [Int.fdiv_eq_ediv_of_nonneg _ (by decide)]
  obtain ⟨k, hk⟩ : ∃ k : Nat, b = 2 * k + 1 := ⟨(b / 2).toNat, by omega⟩
  subst hk
  rw [show ((2 * (k : Int) + 1) / 2).toNat = k by omega, show (2 * (k : Int) + 1).toNat = 2 * k + 1 by omega, Int.pow_succ, Int.pow_mul, Int.mul_comm, show bs ^ 2 = bs * bs by rw [Int.pow_succ, Int.pow_succ, Int.pow_zero, Int.one_mul]]
theorem pow_even {b : Int} (h : 0 < b) (h1 : ¬ b % 2 = 1) (bs : Int) : bs ^ b.toNat = (bs * bs) ^ (Int.fdiv b 2).toNat := by
  rw [Int.fdiv_eq_ediv_of_nonneg _ (by decide)]
  obtain ⟨k, hk⟩ : ∃ k : Nat, b = 2 * k := ⟨(b / 2).toNat, by omega⟩
  subst hk
  rw [show (2 * (k : Int) / 2).toNat = k by omega, show (2 * (k : Int)).toNat = 2 * k by omega, Int.pow_mul, show bs ^ 2 = bs * bs by rw [Int.pow_succ, Int.pow_succ, Int.pow_zero, Int.one_mul]]
theorem pow_odd_step {b f bs w : Int} (h : 0 < b) (h1 : b % 2 = 1) : wrapW (wrapW (f * bs) w * wrapW (bs * bs) w ^ (Int.fdiv b 2).toNat) w = wrapW (f * bs ^ b.toNat) w := by
  rw [wrapW_mul]
  refine wrapW_mod ?_
  rw [Int.mul_emod, wrapW_pow, ← Int.mul_emod, pow_half h h1, Int.mul_assoc]
theorem pow_even_step {b f bs w : Int} (h : 0 < b) (h1 : ¬ b % 2 = 1) : wrapW (f * wrapW (bs * bs) w ^ (Int.fdiv b 2).toNat) w = wrapW (f * bs ^ b.toNat) w := by
  refine wrapW_mod ?_
  rw [Int.mul_emod, wrapW_pow, ← Int.mul_emod, pow_even h h1]
theorem half_less {b : Int} (h : 0 < b) : (Int.fdiv b 2).toNat < b.toNat ∧ 0 ≤ Int.fdiv b 2 ∧ Int.fdiv b 2 ≤ b := by
  rw [Int.fdiv_eq_ediv_of_nonneg _ (by decide)]
  omega
def okI (k : Int) : Prop := (48 ≤ k ∧ k ≤ 57) ∨ k = 45 ∨ k = 97 ∨ k = 98 ∨ k = 113
def okB (b : Array UInt8) : Prop := b.size ≤ 12 ∧ ∀ k ∈ KBw.bInts b, okI k
def cB (b : Array UInt8) (i : Int) : Int := (KBw.bInts b).getD i.toNat 0
theorem cB_ok {b : Array UInt8} {i : Int} (h : okB b) (h0 : 0 ≤ i) (h1 : i < b.size) : okI (cB b i) := by
  refine h.2 _ ?_
  have hl : i.toNat < (KBw.bInts b).length := by rw [KBw.ints_length]; omega
  unfold cB
  rw [show (KBw.bInts b).getD i.toNat 0 = (KBw.bInts b)[i.toNat] by simp [List.getD, hl]]
  exact List.getElem_mem hl
theorem okI_bd {k : Int} (h : okI k) : (0 ≤ k ∧ k < 256) ∧ (13 < k ∧ k ≠ 32) := by unfold okI at h; omega
def isDig (k : Int) : Bool := 48 ≤ k && k ≤ 57
def numOf (l : List Int) : Int := l.foldl (fun a k => a * 10 + (k - 48)) 0
theorem tw_eq {p : Int → Bool} : ∀ (l : List Int) (k : Nat), k ≤ l.length → (∀ x ∈ l.take k, p x = true) → (k = l.length ∨ p (l.getD k 0) = false) → l.takeWhile p = l.take k
  | [], k, hk, _, _ => by simp
  | x :: xs, 0, _, _, h => by
    rcases h with h | h
    · cases h
    · simp only [List.takeWhile, List.take_zero]
      rw [show p x = false from h]
  | x :: xs, k + 1, hk, ha, h => by
    have hx : p x = true := ha x (by simp)
    simp only [List.takeWhile, hx, List.take_succ_cons]
    rw [tw_eq xs k (by simpa using hk) (fun y hy => ha y (by simp [hy])) (h.imp (fun e => by simpa using e) (fun e => by simpa using e))]
theorem cB_drop {b : Array UInt8} {i : Int} {k : Nat} (h : 0 ≤ i) : cB b (i + k) = ((KBw.bInts b).drop i.toNat).getD k 0 := by
  unfold cB
  rw [show (i + (k : Int)).toNat = i.toNat + k by omega]
  simp [List.getD]
theorem numOf_snoc (l : List Int) (c : Int) : numOf (l ++ [c]) = numOf l * 10 + (c - 48) := by simp [numOf]
theorem take_snoc (l : List Int) (k : Nat) (h : k < l.length) : l.take (k + 1) = l.take k ++ [l.getD k 0] := by
  rw [List.take_add_one, List.getElem?_eq_getElem h]
  simp [List.getD, h]
theorem drop_len {b : Array UInt8} {i : Int} (h0 : 0 ≤ i) (h1 : i ≤ b.size) : (((KBw.bInts b).drop i.toNat).length : Int) = b.size - i := by
  rw [List.length_drop, KBw.ints_length]; omega
def digI (n : Int) : Int := if 48 ≤ n ∧ n ≤ 57 then n - 48 else if 97 ≤ n ∧ n ≤ 122 then n - 87 else if 65 ≤ n ∧ n ≤ 90 then n - 55 else -1
theorem dig_yes {c : Int} (h : okI c) (h0 : ¬ digI c < 0) (h1 : ¬ 10 ≤ digI c) : isDig c = true ∧ digI c = c - 48 := by
  have k : (48 ≤ c ∧ c ≤ 57) ∨ ¬ (48 ≤ c ∧ c ≤ 57) := Classical.em _
  rcases k with k | k
  · exact ⟨by simp [isDig, k.1, k.2], if_pos k⟩
  · unfold digI at h0 h1
    rw [if_neg k] at h0 h1
    unfold okI at h
    exfalso
    revert h0 h1
    split
    · intro _ _; omega
    · split <;> intro _ _ <;> omega
theorem dig_no {c : Int} (h : digI c < 0 ∨ 10 ≤ digI c) : isDig c = false := by
  cases e : isDig c with
  | false => rfl
  | true =>
    have k : 48 ≤ c ∧ c ≤ 57 := by simpa [isDig] using e
    unfold digI at h
    rw [if_pos k] at h
    omega
/-- the digits that stand at a place -/
def digsAt (b : Array UInt8) (i : Int) : List Int := ((KBw.bInts b).drop i.toNat).takeWhile isDig
theorem digs_end {b : Array UInt8} {i : Int} {k : Nat} (h0 : 0 ≤ i) (h1 : i ≤ b.size) (hk : k ≤ ((KBw.bInts b).drop i.toNat).length) (ha : ∀ x ∈ ((KBw.bInts b).drop i.toNat).take k, isDig x = true) (h : ¬ i + k < b.size ∨ isDig (cB b (i + k)) = false) :
    numOf (((KBw.bInts b).drop i.toNat).take k) = numOf (digsAt b i) ∧ i + k = i + (digsAt b i).length := by
  have e := tw_eq (p := isDig) _ k hk ha (h.imp (fun q => by have := drop_len h0 h1; omega) (fun q => by rw [← cB_drop h0]; exact q))
  unfold digsAt
  rw [e]
  refine ⟨rfl, ?_⟩
  rw [List.length_take, Nat.min_eq_left hk]
theorem digs_turn {b : Array UInt8} {i : Int} {k : Nat} (h0 : 0 ≤ i) (h1 : i ≤ b.size) (hlt : i + k < b.size) (ha : ∀ x ∈ ((KBw.bInts b).drop i.toNat).take k, isDig x = true) (hd : isDig (cB b (i + k)) = true ∧ digI (cB b (i + k)) = cB b (i + k) - 48) :
    (k + 1 ≤ ((KBw.bInts b).drop i.toNat).length) ∧ numOf (((KBw.bInts b).drop i.toNat).take k) * 10 + digI (cB b (i + k)) = numOf (((KBw.bInts b).drop i.toNat).take (k + 1)) ∧ ∀ x ∈ ((KBw.bInts b).drop i.toNat).take (k + 1), isDig x = true := by
  have hl := drop_len h0 h1
  have hk : k < ((KBw.bInts b).drop i.toNat).length := by omega
  rw [take_snoc _ _ hk, numOf_snoc, ← cB_drop h0, hd.2]
  refine ⟨hk, rfl, ?_⟩
  intro x hx
  rcases List.mem_append.mp hx with hx | hx
  · exact ha x hx
  · rw [List.mem_singleton.mp hx]; exact hd.1
theorem blank_no {n : Int} (h0 : 0 ≤ n) (h1 : n < 256) (h : 13 < n ∧ n ≠ 32) : (#[32, 9, 10, 11, 12, 13] : Array UInt8).contains n.toNat.toUInt8 = false := by
  have k : ∀ m : Fin 256, (13 < m.val ∧ m.val ≠ 32) → (#[32, 9, 10, 11, 12, 13] : Array UInt8).contains m.val.toUInt8 = false := by decide +kernel
  exact k ⟨n.toNat, by omega⟩ ⟨by show 13 < n.toNat; omega, by show n.toNat ≠ 32; omega⟩
theorem sign_is {n : Int} (h0 : 0 ≤ n) (h1 : n < 256) (h : n ≠ 43) : (#[43, 45] : Array UInt8).contains n.toNat.toUInt8 = decide (n = 45) := by
  have k : ∀ m : Fin 256, m.val ≠ 43 → (#[43, 45] : Array UInt8).contains m.val.toUInt8 = decide (m.val = 45) := by decide +kernel
  rw [k ⟨n.toNat, by omega⟩ (by show n.toNat ≠ 43; omega)]
  exact decide_eq_decide.mpr (by show n.toNat = 45 ↔ n = 45; omega)
theorem hex_no {n : Int} (h0 : 0 ≤ n) (h1 : n < 256) (h : n ≠ 120 ∧ n ≠ 88) : (#[120, 88] : Array UInt8).contains n.toNat.toUInt8 = false := by
  have k : ∀ m : Fin 256, (m.val ≠ 120 ∧ m.val ≠ 88) → (#[120, 88] : Array UInt8).contains m.val.toUInt8 = false := by decide +kernel
  exact k ⟨n.toNat, by omega⟩ ⟨by show n.toNat ≠ 120; omega, by show n.toNat ≠ 88; omega⟩
theorem digs_len {b : Array UInt8} {i : Int} (h0 : 0 ≤ i) (h1 : i ≤ b.size) : i + (digsAt b i).length ≤ b.size := by
  have h := (List.takeWhile_sublist isDig (l := (KBw.bInts b).drop i.toNat)).length_le
  have := drop_len h0 h1
  unfold digsAt
  omega
def signAt (b : Array UInt8) : Int := if 0 < b.size ∧ cB b 0 = 45 then 1 else 0
theorem sign_yes {b : Array UInt8} (h : 0 < (b.size : Int)) (h2 : cB b 0 = 45) : signAt b = 1 := if_pos ⟨by omega, h2⟩
theorem sign_no {b : Array UInt8} (h : ¬ 0 < (b.size : Int) ∨ cB b 0 ≠ 45) : signAt b = 0 := if_neg fun k => h.elim (fun q => q (by omega)) (fun q => q k.2)
theorem sign_bd (b : Array UInt8) : 0 ≤ signAt b ∧ signAt b ≤ 1 ∧ signAt b ≤ b.size := by unfold signAt; split <;> omega
def parseB (b : Array UInt8) (wd : Int) : Option Int :=
  if digsAt b (signAt b) = [] ∨ signAt b + (digsAt b (signAt b)).length ≠ b.size then none else some (wrapW (if signAt b = 1 then -numOf (digsAt b (signAt b)) else numOf (digsAt b (signAt b))) wd)
theorem parse_none1 {b : Array UInt8} {wd : Int} (h : signAt b + (digsAt b (signAt b)).length = signAt b) : parseB b wd = none := if_pos (.inl (List.eq_nil_of_length_eq_zero (by omega)))
theorem parse_none2 {b : Array UInt8} {wd : Int} (h : signAt b + (digsAt b (signAt b)).length ≠ b.size) : parseB b wd = none := if_pos (.inr h)
theorem parse_some {b : Array UInt8} {wd : Int} (h : signAt b + (digsAt b (signAt b)).length ≠ signAt b) (h2 : signAt b + (digsAt b (signAt b)).length = b.size) : parseB b wd = some (wrapW (if signAt b = 1 then -numOf (digsAt b (signAt b)) else numOf (digsAt b (signAt b))) wd) :=
  if_neg fun e => e.elim (fun e => h (by rw [e]; simp)) (fun e => e h2)
def OI : Option Int → Value → Prop
  | none, v => v = .none
  | some i, v => ∃ t, v = .int i t
def numRV (x : RV) (wd : Int) : Option Int := match x with
  | .int i => some i
  | .bytes b => parseB b wd
  | _ => none
theorem Is_none : RV.none.Is .none := rfl
theorem Is_bool (b : Bool) : (RV.bool b).Is (.bool b) := rfl
theorem Is_int (i : Int) (t : Tok) : (RV.int i).Is (.int i t) := ⟨t, rfl⟩
theorem Is_bytes (b : Array UInt8) (t : Tok) : (RV.bytes b).Is (.bytes b t) := ⟨t, rfl⟩
def isIntR : RV → Bool | .int _ => true | _ => false
def okV : RV → Prop
  | .int i => -(2 ^ 17) ≤ i ∧ i ≤ 2 ^ 17
  | .bytes b => okB b
  | _ => True
def powW (a b w : Int) : Int := if b < 0 then (if a = 1 then 1 else if a = -1 then (if b % 2 = 0 then 1 else -1) else 0) else wrapW (a ^ b.toNat) w
def recName : Nat → Array UInt8
  | 0 => #[97, 100, 100] | 1 => #[115, 117, 98] | 2 => #[109, 117, 108] | 3 => #[100, 105, 118] | 4 => #[109, 111, 100] | 5 => #[112, 111, 119] | _ => #[117, 110, 109]
def arithW (k : Nat) (a b w : Int) : Int := match k with
  | 0 => wrapW (a + b) w | 1 => wrapW (a - b) w | 2 => wrapW (a * b) w | 3 => wrapW (divT a b) w | 4 => wrapW (Int.fmod a b) w | 5 => powW a b w | _ => wrapW (-a) w
def noRes (k : Nat) (a b : Int) : Bool := ((k == 3 || k == 4) && b == 0) || (k == 5 && a == 0 && decide (b < 0))
theorem noRes_z {k : Nat} {a b : Int} (h : noRes k a b = false) : (k = 3 ∨ k = 4) → b ≠ 0 := by
  rintro (rfl | rfl) rfl <;> simp [noRes] at h
theorem noRes_p {k : Nat} {a b : Int} (h : noRes k a b = false) : k = 5 → ¬ (a = 0 ∧ b < 0) := by
  rintro rfl ⟨rfl, hb⟩
  simp [noRes] at h
  omega
def reckW (k : Nat) (x y : RV) (wd : Int) : Option Int := match numRV x wd, numRV y wd with
  | some a, some b => if noRes k a b = true then none else some (arithW k a b wd)
  | _, _ => none
theorem reck_n1 {k : Nat} {x y : RV} {wd : Int} (h : numRV x wd = none) : reckW k x y wd = none := by unfold reckW; rw [h]
theorem reck_n2 {k : Nat} {x y : RV} {wd : Int} (h : numRV y wd = none) : reckW k x y wd = none := by unfold reckW; rw [h]; cases numRV x wd <;> rfl
theorem reck_z {k : Nat} {x y : RV} {wd a b : Int} (h1 : numRV x wd = some a) (h2 : numRV y wd = some b) (h : noRes k a b = true) : reckW k x y wd = none := by unfold reckW; rw [h1, h2]; exact if_pos h
theorem reck_s {k : Nat} {x y : RV} {wd a b : Int} (h1 : numRV x wd = some a) (h2 : numRV y wd = some b) (h : noRes k a b = false) : reckW k x y wd = some (arithW k a b wd) := by unfold reckW; rw [h1, h2]; exact if_neg (by rw [h]; exact Bool.false_ne_true)
theorem news_mid {h₀ h : Heap} {L : Addr} {a b : Addr × Obj} {n : List (Addr × Obj)} (N : News h₀ L h (a :: b :: n)) : News h₀ L h (a :: n) := fun p hp => N p ((List.mem_cons.mp hp).elim (fun e => e ▸ .head _) fun e => .tail _ (.tail _ e))
theorem all_lt_tail {D : Addr} {a : Addr × Obj} {n : List (Addr × Obj)} (h : ∀ p ∈ a :: n, p.1 < D) : ∀ p ∈ n, p.1 < D := fun p hp => h p (.tail _ hp)
theorem wrapW_small {n w : Int} (h0 : 1 ≤ w) (h1 : w ≤ 17) : -(2 ^ 17) ≤ wrapW n w ∧ wrapW n w ≤ 2 ^ 17 := by
  have h := wrapW_bd (n := n) h0
  have k := pow_le (show (w - 1).toNat ≤ 16 by omega)
  omega
theorem num_small {x : RV} {wd i : Int} (hx : okV x) (h0 : 1 ≤ wd) (h1 : wd ≤ 17) (h : numRV x wd = some i) : -(2 ^ 17) ≤ i ∧ i ≤ 2 ^ 17 := by
  cases x with
  | int j => cases h; exact hx
  | bytes b =>
    have h : parseB b wd = some i := h
    unfold parseB at h
    split at h
    · cases h
    · cases h; exact wrapW_small h0 h1
  | none => cases h
  | bool b => cases h
theorem OI_cases {o : Option Int} {r : Value} (h : OI o r) : (o = none ∧ r = .none) ∨ ∃ i t, o = some i ∧ r = .int i t := by
  cases o with
  | none => exact .inl ⟨rfl, h⟩
  | some i => obtain ⟨t, e⟩ := h; exact .inr ⟨i, t, rfl, e⟩
theorem num_arg {y : Int} (h : -(2 ^ 17) ≤ y ∧ y ≤ 2 ^ 17) : (-(2 ^ 29) < y ∧ y < 2 ^ 29) ∧ Builtin.Int.intBits y ≤ 64 := ⟨by omega, intBits_le_64 (by omega) (by omega)⟩
def consts1 : List RV := [.int 3, .int (-1), .bytes #[55], .bytes #[113], .int 0, .int (-2)]
def opd1 (xs : List RV) (k : Int) : RV := if k < 256 then xs.getD k.toNat .none else consts1.getD (k - 256).toNat .none
def okOp (k : Int) (n : Nat) : Prop := (0 ≤ k ∧ k < 256 ∧ k < n) ∨ (256 ≤ k ∧ k < 262)
def loadR (op ra rb rc bb : Int) (xs : List RV) : List RV :=
  if op = 0 then xs.set ra.toNat (xs.getD rb.toNat .none) else if op = 1 then xs.set ra.toNat (consts1.getD bb.toNat .none) else xs.set ra.toNat (.bool (decide (rb ≠ 0)))
theorem okV_getD {xs : List RV} (h : ∀ x ∈ xs, okV x) (i : Nat) : okV (xs.getD i .none) := by
  by_cases hi : i < xs.length
  · rw [show xs.getD i .none = xs[i] by simp [List.getD, hi]]; exact h _ (List.getElem_mem hi)
  · rw [show xs.getD i .none = .none by simp [List.getD, Nat.le_of_not_lt hi]]; trivial
theorem okV_consts : ∀ x ∈ consts1, okV x := by
  have k : ∀ b : Array UInt8, b = #[55] ∨ b = #[113] → okB b := by
    rintro b (rfl | rfl) <;> exact ⟨by decide, by simp [KBw.bInts, okI]⟩
  intro x hx
  simp only [consts1, List.mem_cons, List.not_mem_nil, or_false] at hx
  rcases hx with rfl | rfl | rfl | rfl | rfl | rfl
  · exact ⟨by decide, by decide⟩
  · exact ⟨by decide, by decide⟩
  · exact k _ (.inl rfl)
  · exact k _ (.inr rfl)
  · exact ⟨by decide, by decide⟩
  · exact ⟨by decide, by decide⟩
theorem okV_opd {xs : List RV} (h : ∀ x ∈ xs, okV x) (k : Int) : okV (opd1 xs k) := by
  unfold opd1
  split
  · exact okV_getD h _
  · exact okV_getD okV_consts _
theorem set_getD_self {α : Type} (l : List α) (i : Nat) (d : α) : l.set i (l.getD i d) = l := by
  by_cases h : i < l.length
  · simp [List.getD, h]
  · exact List.set_eq_of_length_le (Nat.le_of_not_lt h)
def recSet (xs : List RV) (ra : Int) (o : Option Int) : List RV := match o with | some i => xs.set ra.toNat (.int i) | none => xs
def digs (k : Nat) : List Int := (Nat.toDigits 10 k).map fun c => (c.toNat : Int)
theorem digitChar_nat : ∀ d, d < 10 → ((Nat.digitChar d).toNat : Int) = 48 + d := by decide
theorem digs_small {k : Nat} (h : k < 10) : digs k = [48 + (k : Int)] := by
  unfold digs
  rw [Nat.toDigits_of_lt_base h]
  simp [digitChar_nat k h]
theorem digs_step {k : Nat} (h : 10 ≤ k) : digs k = digs (k / 10) ++ [48 + ((k % 10 : Nat) : Int)] := by
  unfold digs
  rw [Nat.toDigits_of_base_le (by decide) h, List.map_append]
  simp [digitChar_nat (k % 10) (Nat.mod_lt _ (by decide))]
theorem digs_len_le : ∀ (m k : Nat), k < 10 ^ (m + 1) → (digs k).length ≤ m + 1
  | 0, k, h => by rw [digs_small (by simpa using h)]; simp
  | m + 1, k, h => by
    by_cases hk : k < 10
    · rw [digs_small hk]; simp
    · rw [digs_step (by omega), List.length_append]
      have := digs_len_le m (k / 10) (by rw [Nat.pow_succ] at h; omega)
      simp only [List.length_singleton]
      omega
theorem digs_all : ∀ (k : Nat), ∀ x ∈ digs k, 48 ≤ x ∧ x ≤ 57 := by
  intro k
  induction k using Nat.strongRecOn with
  | _ k ih =>
    intro x hx
    by_cases hk : k < 10
    · rw [digs_small hk, List.mem_singleton] at hx; omega
    · rw [digs_step (by omega)] at hx
      rcases List.mem_append.mp hx with hx | hx
      · exact ih (k / 10) (by omega) x hx
      · rw [List.mem_singleton] at hx; have := Nat.mod_lt k (show 0 < 10 by decide); omega
def decI (n : Int) : List Int := (if n < 0 then [45] else []) ++ digs n.natAbs
def decB (n : Int) : Array UInt8 := byteArr (decI n)
theorem decI_in (n : Int) : KBa.In (decI n) := by
  intro x hx
  rcases List.mem_append.mp hx with h | h
  · split at h
    · rw [List.mem_singleton.mp h]; decide
    · cases h
  · have := digs_all _ x h; omega
theorem dec_turn {l : Int} {k : Nat} {ds : List Int} (h : 9 < l) (e : digs l.toNat ++ ds.reverse = digs k) : digs (l.fdiv 10).toNat ++ (ds ++ [48 + l.fmod 10]).reverse = digs k ∧ (l.fdiv 10).toNat < l.toNat ∧ 0 ≤ l.fdiv 10 := by
  rw [Int.fdiv_eq_ediv_of_nonneg _ (by decide), Int.fmod_eq_emod_of_nonneg _ (by decide)]
  refine ⟨?_, by omega, by omega⟩
  rw [← e, digs_step (k := l.toNat) (by omega), List.reverse_append, show (l / 10).toNat = l.toNat / 10 by omega, show l % 10 = ((l.toNat % 10 : Nat) : Int) by omega]
  simp
theorem dec_end {l n : Int} {ds : List Int} (h0 : 0 ≤ l) (h : ¬ 9 < l) (e : digs l.toNat ++ ds.reverse = digs n.natAbs) : (ds ++ [48 + l]).reverse = digs n.natAbs := by
  rw [← e, digs_small (by omega), List.reverse_append]
  simp [Int.toNat_of_nonneg h0]
theorem dec_neg {n : Int} {ds : List Int} (h : n < 0) (e : ds.reverse = digs n.natAbs) : (ds ++ [45]).reverse = decI n := by
  unfold decI
  rw [if_pos h, List.reverse_append, e]; rfl
theorem dec_pos {n : Int} {ds : List Int} (h : ¬ n < 0) (e : ds.reverse = digs n.natAbs) : ds.reverse = decI n := by
  unfold decI
  rw [if_neg h, e]; rfl
theorem abs_nat (n : Int) : 0 ≤ (if n < 0 then -n else n) ∧ (if n < 0 then -n else n).toNat = n.natAbs := by split <;> omega
theorem ints_snoc {vs : List Value} {ds : List Int} {x : Int} {t : Tok} (h : IntsAre vs ds) : IntsAre (vs ++ [.int x t]) (ds ++ [x]) := h.append (.cons x t .nil)
theorem ints_rev {vs : List Value} {ds : List Int} (h : IntsAre vs ds) : IntsAre vs.reverse ds.reverse := by
  induction h with
  | nil => exact .nil
  | cons n t _ ih => simp only [List.reverse_cons]; exact ints_snoc ih
theorem decI_len {n : Int} (h : (digs n.natAbs).length ≤ 6) : (decI n).length ≤ 16777216 := by
  unfold decI
  rw [List.length_append]
  split <;> simp <;> omega
def textRV : RV → Option (Array UInt8)
  | .int i => some (decB i)
  | .bytes b => some b
  | _ => none
def OB : Option (Array UInt8) → Value → Prop
  | none, v => v = .none
  | some b, v => ∃ t, v = .bytes b t
theorem OB_cases {o : Option (Array UInt8)} {r : Value} (h : OB o r) : (o = none ∧ r = .none) ∨ ∃ b t, o = some b ∧ r = .bytes b t := by
  cases o with
  | none => exact .inl ⟨rfl, h⟩
  | some i => obtain ⟨t, e⟩ := h; exact .inr ⟨i, t, rfl, e⟩
theorem okV_int {i : Int} (h : okV (.int i)) : -(2 ^ 18) < i ∧ i < 2 ^ 18 := by
  have h : -(2 ^ 17) ≤ i ∧ i ≤ 2 ^ 17 := h
  omega
end Mine
end
section
open PySem PySem.W PyProof.Rows PySem.Calls
namespace Mine
section
variable {prog : Program} {w : World} {A : Around} {E : Value → Shared → Prop} {s : Shared}
theorem contains_go {b : Array UInt8} {u t : Tok} {i : Int} (h0 : 0 ≤ i) (h1 : i < 256) {Q : PySem.Fin → Shared → Prop} (h : Q (.done (.ret (.bool (b.contains i.toNat.toUInt8)))) s) : wpAny (model prog w) A (Builtin.«bytes.__contains__» ⟨[.bytes b u, .int i t], []⟩) Q E s := by
  show wpAny _ _ (Builtin.Bytes.containsIn "bytes.__contains__" (.bytes b u) (.int i t) >>= fun r => ret (.bool r)) _ _ _
  refine wpAny_bind ?_
  show wpAny _ _ (Builtin.Bytes.buffer? "bytes.__contains__" (.bytes b u) >>= fun r => _) _ _ _
  refine wpAny_bind (wpAny_of_eq KBy.buffer_eq ?_)
  show wpAny _ _ (if (decide (i < 0) || decide (i ≥ 256)) = true then _ else _) _ _ _
  rw [if_neg (by simp; omega)]
  exact wpAny_pure (wpAny_pure h)
theorem in_bytes {Q : Value → Shared → Prop} {b : Array UInt8} {u t : Tok} {i : Int} (h0 : 0 ≤ i) (h1 : i < 256) (h : Q (.bool (b.contains i.toNat.toUInt8)) s) : wpAny (model prog w) A (compareOp .In (.int i t) (.bytes b u)) Q E s := by
  show wpAny _ _ (do return .bool (← contains (.bytes b u) (.int i t))) Q E s
  refine wpAny_bind ?_
  unfold contains
  try with_reducible refine wpAny_holding ?_
  have T : s.TypeIs (.bytes b u) "bytes" := typeIs_bytes s b u
  refine wpAny_bind (wpAny_specialOf T FB.slot_bytes_contains.lookup ?_)
  show wpAny _ _ (if (some (Value.builtin "bytes.__contains__") == some Value.none) = true then _ else _) _ E s
  rw [if_neg (by rw [beq_builtin_none]; exact Bool.false_ne_true)]
  refine wpAny_bind (wpAny_callSpecialUnlessNone?_slot (name := Str.ofString "__contains__") T FB.slot_bytes_contains
    (wpAny_call_entry FB.slot_bytes_contains T FB.entry_bytes_contains ?_ (FB.args_bytes_contains_2 _ _)))
  exact contains_go h0 h1 ⟨_, rfl, wpAny_truthy_bool (wpAny_pure h)⟩
theorem in_sign {Q : Value → Shared → Prop} {u t : Tok} {i : Int} (hi : okI i) (h : Q (.bool (decide (i = 45))) s) : wpAny (model prog w) A (compareOp .In (.int i t) (.bytes #[43, 45] u)) Q E s :=
  in_bytes (okI_bd hi).1.1 (okI_bd hi).1.2 (by rw [sign_is (okI_bd hi).1.1 (okI_bd hi).1.2 (by unfold okI at hi; omega)]; exact h)
theorem in_hex {Q : Value → Shared → Prop} {u t : Tok} {i : Int} (hi : okI i) (h : Q (.bool false) s) : wpAny (model prog w) A (compareOp .In (.int i t) (.bytes #[120, 88] u)) Q E s :=
  in_bytes (okI_bd hi).1.1 (okI_bd hi).1.2 (by rw [hex_no (okI_bd hi).1.1 (okI_bd hi).1.2 (by unfold okI at hi; omega)]; exact h)
theorem item_ok {value slice : PySem.Expr} {b : Array UInt8} {i : Int} {t ui : Tok} {Q : Value → Shared → Prop} (hb : okB b) (h0 : 0 ≤ i) (h1 : i < b.size) (h : ∀ t' k, okI (cB b i) → Q (.int (cB b i) t') { s with toks := k })
    (hs : subscripted slice false (.bytes b t) (.int i ui) = operate [.bytes b t, .int i ui] (getItem (.bytes b t) (.int i ui)) := by with_unfolding_all rfl)
    (ht : ∀ r, letTemporaryGo value (.bytes b t) r = pure () := by intro _; with_unfolding_all rfl) : wpAny (model prog w) A (subscriptTail value slice (.bytes b t) (.int i ui)) Q E s :=
  KBw.item_K rfl (by rw [KBw.ints_length]; exact Nat.le_trans hb.1 (by decide)) h0 (by rw [KBw.ints_length]; exact h1) (fun t' k _ _ => h t' k (cB_ok hb h0 h1)) hs ht
theorem len_ok {b : Array UInt8} {t : Tok} {Q : Value → Shared → Prop} (hb : b.size ≤ 12) (h : Q (.int b.size (s.toks + 1)) { s with toks := s.toks + 1 + 1 }) : wpAny (model prog w) A (call (.builtin "len") [.bytes b t]) Q E s :=
  len_bytes (Nat.le_trans hb (by decide)) h
end
end Mine
end
section
open PySem PySem.W PyProof.Rows PySem.Calls PySem.Builtin
namespace Mine
theorem kind_pow : builtinKind "pow" = none := by decide +kernel
theorem plain_pow : plainId "pow" = true := by decide +kernel
theorem entry_pow : entryFor table "pow" = some Builtin.«pow» := entryFor_of_fast (by kernel_rfl)
theorem args_pow3 (a b c : Value) : argsOk "pow" ⟨[a, b, c], []⟩ := by unfold argsOk; kernel_rfl
theorem testBit_half (n i : Nat) : n.testBit (i + 1) = (n / 2).testBit i := Nat.testBit_succ ..
theorem powMod_step (b e m : Nat) : ∀ k, (List.range k).reverse.foldl (fun p i => if (e % 2 ^ k).testBit i then p * p % m * b % m else p * p % m) (1 % m) = b ^ (e % 2 ^ k) % m := by
  have gen : ∀ k (q : Nat), (List.range k).reverse.foldl (fun p i => if e.testBit i then p * p % m * b % m else p * p % m) (b ^ q % m) = b ^ (q * 2 ^ k + e % 2 ^ k) % m := by
    intro k
    induction k with
    | zero => intro q; simp [Nat.mod_one]
    | succ k ih =>
      intro q
      rw [List.range_succ, List.reverse_append, List.reverse_singleton, List.singleton_append, List.foldl_cons]
      have hb : (if e.testBit k then b ^ q % m * (b ^ q % m) % m * b % m else b ^ q % m * (b ^ q % m) % m) = b ^ (2 * q + (if e.testBit k then 1 else 0)) % m := by
        have e2 : b ^ q % m * (b ^ q % m) % m = b ^ (2 * q) % m := by rw [← Nat.mul_mod, ← Nat.pow_add, Nat.two_mul]
        split
        · rw [e2, Nat.mod_mul_mod, ← Nat.pow_succ]
        · rw [e2, Nat.add_zero]
      rw [hb, ih]
      congr 2
      have hk : e % 2 ^ (k + 1) = e % 2 ^ k + (if e.testBit k then 1 else 0) * 2 ^ k := by
        rw [Nat.mod_pow_succ, Nat.testBit_eq_decide_div_mod_eq]
        by_cases h : e / 2 ^ k % 2 = 1
        · simp [h]
        · have h0 : e / 2 ^ k % 2 = 0 := by omega
          simp [h0]
      rw [hk, Nat.pow_succ, Nat.add_mul, Nat.mul_comm 2 q, Nat.mul_assoc, Nat.mul_comm 2 (2 ^ k)]
      omega
  intro k
  have h := gen k 0
  rw [Nat.pow_zero, Nat.zero_mul, Nat.zero_add] at h
  rw [← h]
  have : ∀ (l : List Nat) (a : Nat), (∀ i ∈ l, i < k) → l.foldl (fun p i => if (e % 2 ^ k).testBit i then p * p % m * b % m else p * p % m) a = l.foldl (fun p i => if e.testBit i then p * p % m * b % m else p * p % m) a := by
    intro l
    induction l with
    | nil => intro a _; rfl
    | cons i l ih =>
      intro a hi
      simp only [List.foldl_cons]
      rw [Nat.testBit_mod_two_pow]
      simp only [hi i (.head _), decide_true, Bool.true_and]
      exact ih _ fun j hj => hi j (.tail _ hj)
  exact this _ _ fun i hi => List.mem_range.mp (List.mem_reverse.mp hi)
theorem powMod_eq (b e m : Nat) : powMod b e m = b ^ e % m := by
  have h := powMod_step b e m (Builtin.Int.intBits (e : Int))
  have hb : e % 2 ^ (Builtin.Int.intBits (e : Int)) = e := by
    refine Nat.mod_eq_of_lt ?_
    unfold Builtin.Int.intBits
    by_cases h0 : e = 0
    · subst h0; decide
    · rw [if_neg (by simpa using h0)]
      show e < 2 ^ ((e : Int).natAbs.log2 + 1)
      rw [Int.natAbs_natCast]
      exact Nat.lt_log2_self
  rw [hb] at h
  exact h
theorem wrap_pow {b e w : Int} (hw : 1 ≤ w) (he : 0 ≤ e) : wrapW ((powMod (b % ((2 : Int) ^ w.toNat)).toNat e.natAbs ((2 : Int) ^ w.toNat).natAbs : Nat) : Int) w = wrapW (b ^ e.toNat) w := by
  have h2 : ((2 : Int) ^ w.toNat).natAbs = 2 ^ w.toNat := by rw [Int.natAbs_pow]; rfl
  have hp : (2 : Int) ^ w.toNat = ((2 ^ w.toNat : Nat) : Int) := by push_cast; rfl
  have h1 : 1 < 2 ^ w.toNat := Nat.one_lt_two_pow (by omega)
  rw [h2, powMod_eq]
  refine wrapW_mod ?_
  have hb : (((b % ((2 : Int) ^ w.toNat)).toNat : Nat) : Int) = b % 2 ^ w.toNat := Int.toNat_of_nonneg (Int.emod_nonneg _ (by rw [hp]; omega))
  rw [show e.natAbs = e.toNat by omega]
  push_cast
  rw [hb, Int.emod_emod_of_dvd _ (by rw [hp]; push_cast; exact Int.dvd_refl _)]
  generalize e.toNat = k
  rw [hp]
  clear h1 hb hp h2
  generalize ((2 ^ w.toNat : Nat) : Int) = M
  induction k with
  | zero => rw [Int.pow_zero, Int.pow_zero]
  | succ k ih => rw [Int.pow_succ, Int.mul_emod, ih, Int.emod_emod_of_dvd _ (Int.dvd_refl _), ← Int.mul_emod, ← Int.pow_succ]
section
variable {prog : Program} {w : World} {A : Around} {E : Value → Shared → Prop} {s : Shared} {b e m : Int} {t u v : Tok} {Q : Value → Shared → Prop}
theorem call_pow_mod (he : 0 ≤ e) (hm : 1 < m) (h : ∀ t' k, Q (.int ((powMod (b % m).toNat e.natAbs m.natAbs : Nat) : Int) t') { s with toks := k }) :
    wpAny (model prog w) A (call (.builtin "int.__pow__") [.int b t, .int e u, .int m v]) Q E s := by
  refine wpAny_call_entry F.slot_int_pow (typeIs_int s b t) F.entry_int_pow ?_ (F.args_int_pow_3 _ _ _)
  show wpAny _ _ (if (m == 0) = true then _ else _) _ _ s
  rw [if_neg (by simp; omega)]
  show wpAny _ _ (if (m.natAbs == 1) = true then _ else _) _ _ s
  rw [if_neg (by simp; omega)]
  show wpAny _ _ (if e < 0 then _ else _) _ _ s
  rw [if_neg (by omega)]
  dsimp only
  rw [if_neg (by simp; omega)]
  have e1 : b % (m.natAbs : Int) = b % m := by rw [show (m.natAbs : Int) = m by omega]
  rw [e1]
  exact wpAny_bind (wpAny_mkInt (wpAny_pure ⟨_, rfl, h _ _⟩))
theorem pow3_call (he : 0 ≤ e) (hm : 1 < m) (h : ∀ t' k, Q (.int ((powMod (b % m).toNat e.natAbs m.natAbs : Nat) : Int) t') { s with toks := k }) :
    wpAny (model prog w) A (call (.builtin "pow") [.int b t, .int e u, .int m v]) Q E s := by
  refine call_function_entry kind_pow plain_pow entry_pow (args_pow3 _ _ _) ?_
  unfold Builtin.«pow»
  refine wpAny_bind (m := Builtins.bindParams "pow" _ _ _) (wpAny_of_eq (a := [some (.int b t), some (.int e u), some (.int m v)]) rfl ?_)
  show wpAny _ _ (rule "pow.mod" >>= fun _ => _) _ _ _
  refine wpAny_bind (wpAny_rule ?_)
  refine wpAny_bind (wpAny_typeOf (typeIs_int _ _ _) ?_)
  show wpAny _ _ (typeLookup (.type "int") (Str.ofString "__pow__") >>= fun _ => _) _ _ _
  refine wpAny_bind (wpAny_of_eq F.slot_int_pow.lookup ?_)
  show wpAny _ _ (callSpecial? (.int b t) (Str.ofString "__pow__") [.int e u, .int m v] >>= fun _ => _) _ _ _
  refine wpAny_bind (wpAny_callSpecial?_slot (name := Str.ofString "__pow__") (typeIs_int s b t) F.slot_int_pow (call_pow_mod he hm fun t' k => ?_))
  dsimp only
  rw [if_pos (by rfl)]
  exact wpAny_pure ⟨_, rfl, h _ _⟩
end
end Mine
end
section
namespace Mine
theorem rows_EP_L1a : True := by
  k_with_none
  k_with "EP" => (k_whole; fail_if_success (fail_if_success (rename Below _ _ _ _ => b9_z)))
  trivial

theorem fmodP (n w : Int) : n.fmod (2 ^ w.toNat) = n % 2 ^ w.toNat := Int.fmod_eq_emod_of_nonneg _ (Int.le_of_lt (Int.pow_pos (by decide)))
theorem lw_hi {n w : Int} (h : 2 ^ (w - 1).toNat ≤ n.fmod (2 ^ w.toNat)) : n.fmod (2 ^ w.toNat) - 2 ^ w.toNat = wrapW n w := by
  rw [fmodP] at h ⊢
  exact (if_pos h).symm
theorem lw_lo {n w : Int} (h : ¬ 2 ^ (w - 1).toNat ≤ n.fmod (2 ^ w.toNat)) : n.fmod (2 ^ w.toNat) = wrapW n w := by
  rw [fmodP] at h ⊢
  exact (if_neg h).symm
theorem lwrap_ok : ∀ (w : World) (p : Program) (loose : List Str) (mean : ExcName → Option Value) (mg mb : Str → Option Value) (dp un : Nat) (gd : Option (List Code)) (cn : Str) (cs : Scope) (a : Addr) (ccd : Value) (cl : List (Str × Addr)) (outer : List Env) (A₀ : Around) (base h₀ : Heap) (L : Addr) (m : Str → Option Value) (s : Shared) (Q E : Value → Shared → Prop) (news : List (Addr × Obj)) (n wd : Int) (tn tw : Tok), Below A₀ base outer h₀ → Fr h₀ L s.heap m → (Kf w.params).In h₀ → News h₀ L s.heap (news) → Top p loose mean mg mb h₀ → cs.kind = .function → dp + 1 < recursionLimit → un + 8 < cLine → (1 ≤ wd ∧ wd ≤ 17) → (∀ (t : Tok) (h' : Heap) (tk' : Nat), Fr h₀ L h' m → News h₀ L h' (news) → Q (.int (wrapW n wd) t) { s with heap := h', toks := tk' }) → wpAny (model PySem.Challenge.rw_pc0174_01.row.prog w) (ktrTop dp un gd cn cs L a ccd cl outer) (call (.ref 545) [.int n tn, .int wd tw]) Q E s := by
  k_fill
  refine (?k1k : KBcx ?f1f); refine ep_cx ?_; apply (?f1f _ _ _ _ _ _ _ _ _ _ _ _ _ _ _ _ _ _ _ _ _ _ _); (try any_goals exact default); intros w p loose mean mg mb dp un gd cn cs a ccd cl outer A₀ base h₀ L m s Q E; refine Bx.mk ?_
  refine (?k2k : KB5 ?f2f); refine ep5 (by repeat' (first | infer_instance | exact ne_world | exact ne_shared | exact ne_around | exact ⟨.none⟩ | exact ⟨⟨0, 0, 0, 0⟩⟩ | refine ne_prod ?_ ?_)) ?_; apply (?f2f _ _ _ _ _); (try any_goals exact default); intros news n wd tn tw; refine Bx.mk ?_
  intro B F X N T hck hd9 hu9 h0 hret
  obtain ⟨hw0, hw1⟩ := h0
  refine wpAny_call ?_
  k_dflt cell_enter
  k_steps
  all_goals (refine q_int ?_ (hret _ _ _ (by k_asm) (by k_asm)); first | exact lw_hi (by assumption) | exact lw_lo (by assumption))
theorem rows_L1a_1 : True := by
  k_with_none
  k_with "EP" => (k_whole; fail_if_success (fail_if_success (rename Below _ _ _ _ => b9_z)))
  k_with "call ref" => (k_here; k_dflt (refine' lwrap_ok _ _ _ _ _ _ _ _ _ _ _ _ _ _ _ _ _ _ _ _ _ _ _ _ _ _ _ _ ?kB ?kF ?kX ?kN ?kT ?kK ?kd ?ku ?q0 ?_; (case kB => k_asm); (case kF => k_asm); (case kX => k_asm); (case kN => k_asm); (case kT => k_asm); (case kK => first | exact rfl | assumption); (case kd => ktr_room); (case ku => ktr_units); (case q0 => assumption); k_whole); intro t_z h'_z tk'_z  F'_z N'_z; (try k_sweep))
  trivial
end Mine
end
section
namespace Mine
theorem rows_EP_C1a : True := by
  k_with_none
  k_with "EP" => (k_whole; fail_if_success (fail_if_success (rename Below _ _ _ _ => b9_z)))
  trivial

theorem op_of_ok : ∀ (w : World) (p : Program) (loose : List Str) (mean : ExcName → Option Value) (mg mb : Str → Option Value) (dp un : Nat) (gd : Option (List Code)) (cn : Str) (cs : Scope) (a : Addr) (ccd : Value) (cl : List (Str × Addr)) (outer : List Env) (A₀ : Around) (base h₀ : Heap) (L : Addr) (m : Str → Option Value) (s : Shared) (Q E : Value → Shared → Prop) (news : List (Addr × Obj)) (i : Int) (ti : Tok) (u : Int), Below A₀ base outer h₀ → Fr h₀ L s.heap m → (Kf w.params).In h₀ → News h₀ L s.heap (news) → Top p loose mean mg mb h₀ → cs.kind = .function → dp + 1 < recursionLimit → un + 8 < cLine → (0 ≤ i) → (i < 2 ^ 40) → (i % 64 = u) → (∀ (t : Tok) (h' : Heap) (tk' : Nat), Fr h₀ L h' m → News h₀ L h' (news) → Q (.int u t) { s with heap := h', toks := tk' }) → wpAny (model PySem.Challenge.rw_pc0174_01.row.prog w) (ktrTop dp un gd cn cs L a ccd cl outer) (call (.ref 28) [.int i ti]) Q E s := by
  k_fill
  refine (?k1k : KBcx ?f1f); refine ep_cx ?_; apply (?f1f _ _ _ _ _ _ _ _ _ _ _ _ _ _ _ _ _ _ _ _ _ _ _); (try any_goals exact default); intros w p loose mean mg mb dp un gd cn cs a ccd cl outer A₀ base h₀ L m s Q E; refine Bx.mk ?_
  refine (?k2k : KB4 ?f2f); refine ep4 (by repeat' (first | infer_instance | exact ne_world | exact ne_shared | exact ne_around | exact ⟨.none⟩ | exact ⟨⟨0, 0, 0, 0⟩⟩ | refine ne_prod ?_ ?_)) ?_; apply (?f2f _ _ _ _); (try any_goals exact default); intros news i ti u; refine Bx.mk ?_
  intro B F X N T hck hd9 hu9 h0 h1 hv hret
  subst hv
  refine wpAny_call ?_
  k_dflt cell_enter
  k_steps
  all_goals (refine q_int ?_ (hret _ _ _ (by k_asm) (by k_asm)); (simp only [p6, p14, p23, fdivK _ _ (by decide : (0:Int) ≤ 64), fdivK _ _ (by decide : (0:Int) ≤ 16384), fdivK _ _ (by decide : (0:Int) ≤ 8388608), bitAnd_m6, bitAnd_m8, and511]))
theorem rows_C1a_1 : True := by
  k_with_none
  k_with "EP" => (k_whole; fail_if_success (fail_if_success (rename Below _ _ _ _ => b9_z)))
  k_with "call ref" => (k_here; k_dflt (refine' op_of_ok _ _ _ _ _ _ _ _ _ _ _ _ _ _ _ _ _ _ _ _ _ _ _ _ _ _ _ ?kB ?kF ?kX ?kN ?kT ?kK ?kd ?ku ?q0 ?q1 ?q2 ?_; (case kB => k_asm); (case kF => k_asm); (case kX => k_asm); (case kN => k_asm); (case kT => k_asm); (case kK => first | exact rfl | assumption); (case kd => ktr_room); (case ku => ktr_units); (case q0 => first | assumption | l_fact); (case q1 => first | assumption | l_fact); (case q2 => first | assumption | exact rfl); k_whole); intro t_z h'_z tk'_z  F'_z N'_z; (try k_sweep))
  trivial
theorem a_of_ok : ∀ (w : World) (p : Program) (loose : List Str) (mean : ExcName → Option Value) (mg mb : Str → Option Value) (dp un : Nat) (gd : Option (List Code)) (cn : Str) (cs : Scope) (a : Addr) (ccd : Value) (cl : List (Str × Addr)) (outer : List Env) (A₀ : Around) (base h₀ : Heap) (L : Addr) (m : Str → Option Value) (s : Shared) (Q E : Value → Shared → Prop) (news : List (Addr × Obj)) (i : Int) (ti : Tok) (u : Int), Below A₀ base outer h₀ → Fr h₀ L s.heap m → (Kf w.params).In h₀ → News h₀ L s.heap (news) → Top p loose mean mg mb h₀ → cs.kind = .function → dp + 1 < recursionLimit → un + 8 < cLine → (0 ≤ i) → (i < 2 ^ 40) → (i / 64 % 256 = u) → (∀ (t : Tok) (h' : Heap) (tk' : Nat), Fr h₀ L h' m → News h₀ L h' (news) → Q (.int u t) { s with heap := h', toks := tk' }) → wpAny (model PySem.Challenge.rw_pc0174_01.row.prog w) (ktrTop dp un gd cn cs L a ccd cl outer) (call (.ref 35) [.int i ti]) Q E s := by
  k_fill
  refine (?k3k : KBcx ?f3f); refine ep_cx ?_; apply (?f3f _ _ _ _ _ _ _ _ _ _ _ _ _ _ _ _ _ _ _ _ _ _ _); (try any_goals exact default); intros w p loose mean mg mb dp un gd cn cs a ccd cl outer A₀ base h₀ L m s Q E; refine Bx.mk ?_
  refine (?k4k : KB4 ?f4f); refine ep4 (by repeat' (first | infer_instance | exact ne_world | exact ne_shared | exact ne_around | exact ⟨.none⟩ | exact ⟨⟨0, 0, 0, 0⟩⟩ | refine ne_prod ?_ ?_)) ?_; apply (?f4f _ _ _ _); (try any_goals exact default); intros news i ti u; refine Bx.mk ?_
  intro B F X N T hck hd9 hu9 h0 h1 hv hret
  subst hv
  refine wpAny_call ?_
  k_dflt cell_enter
  k_steps
  all_goals (refine q_int ?_ (hret _ _ _ (by k_asm) (by k_asm)); (simp only [p6, p14, p23, fdivK _ _ (by decide : (0:Int) ≤ 64), fdivK _ _ (by decide : (0:Int) ≤ 16384), fdivK _ _ (by decide : (0:Int) ≤ 8388608), bitAnd_m6, bitAnd_m8, and511]))
theorem rows_C1a_2 : True := by
  k_with "call ref" => (k_here; k_dflt (refine' a_of_ok _ _ _ _ _ _ _ _ _ _ _ _ _ _ _ _ _ _ _ _ _ _ _ _ _ _ _ ?kB ?kF ?kX ?kN ?kT ?kK ?kd ?ku ?q0 ?q1 ?q2 ?_; (case kB => k_asm); (case kF => k_asm); (case kX => k_asm); (case kN => k_asm); (case kT => k_asm); (case kK => first | exact rfl | assumption); (case kd => ktr_room); (case ku => ktr_units); (case q0 => first | assumption | l_fact); (case q1 => first | assumption | l_fact); (case q2 => first | assumption | exact rfl); k_whole); intro t_z h'_z tk'_z  F'_z N'_z; (try k_sweep))
  trivial
theorem b_of_ok : ∀ (w : World) (p : Program) (loose : List Str) (mean : ExcName → Option Value) (mg mb : Str → Option Value) (dp un : Nat) (gd : Option (List Code)) (cn : Str) (cs : Scope) (a : Addr) (ccd : Value) (cl : List (Str × Addr)) (outer : List Env) (A₀ : Around) (base h₀ : Heap) (L : Addr) (m : Str → Option Value) (s : Shared) (Q E : Value → Shared → Prop) (news : List (Addr × Obj)) (i : Int) (ti : Tok) (u : Int), Below A₀ base outer h₀ → Fr h₀ L s.heap m → (Kf w.params).In h₀ → News h₀ L s.heap (news) → Top p loose mean mg mb h₀ → cs.kind = .function → dp + 1 < recursionLimit → un + 8 < cLine → (0 ≤ i) → (i < 2 ^ 40) → (i / 8388608 = u) → (∀ (t : Tok) (h' : Heap) (tk' : Nat), Fr h₀ L h' m → News h₀ L h' (news) → Q (.int u t) { s with heap := h', toks := tk' }) → wpAny (model PySem.Challenge.rw_pc0174_01.row.prog w) (ktrTop dp un gd cn cs L a ccd cl outer) (call (.ref 42) [.int i ti]) Q E s := by
  k_fill
  refine (?k5k : KBcx ?f5f); refine ep_cx ?_; apply (?f5f _ _ _ _ _ _ _ _ _ _ _ _ _ _ _ _ _ _ _ _ _ _ _); (try any_goals exact default); intros w p loose mean mg mb dp un gd cn cs a ccd cl outer A₀ base h₀ L m s Q E; refine Bx.mk ?_
  refine (?k6k : KB4 ?f6f); refine ep4 (by repeat' (first | infer_instance | exact ne_world | exact ne_shared | exact ne_around | exact ⟨.none⟩ | exact ⟨⟨0, 0, 0, 0⟩⟩ | refine ne_prod ?_ ?_)) ?_; apply (?f6f _ _ _ _); (try any_goals exact default); intros news i ti u; refine Bx.mk ?_
  intro B F X N T hck hd9 hu9 h0 h1 hv hret
  subst hv
  refine wpAny_call ?_
  k_dflt cell_enter
  k_steps
  all_goals (refine q_int ?_ (hret _ _ _ (by k_asm) (by k_asm)); (simp only [p6, p14, p23, fdivK _ _ (by decide : (0:Int) ≤ 64), fdivK _ _ (by decide : (0:Int) ≤ 16384), fdivK _ _ (by decide : (0:Int) ≤ 8388608), bitAnd_m6, bitAnd_m8, and511]))
theorem rows_C1a_3 : True := by
  k_with "call ref" => (k_here; k_dflt (refine' b_of_ok _ _ _ _ _ _ _ _ _ _ _ _ _ _ _ _ _ _ _ _ _ _ _ _ _ _ _ ?kB ?kF ?kX ?kN ?kT ?kK ?kd ?ku ?q0 ?q1 ?q2 ?_; (case kB => k_asm); (case kF => k_asm); (case kX => k_asm); (case kN => k_asm); (case kT => k_asm); (case kK => first | exact rfl | assumption); (case kd => ktr_room); (case ku => ktr_units); (case q0 => first | assumption | l_fact); (case q1 => first | assumption | l_fact); (case q2 => first | assumption | exact rfl); k_whole); intro t_z h'_z tk'_z  F'_z N'_z; (try k_sweep))
  trivial
theorem c_of_ok : ∀ (w : World) (p : Program) (loose : List Str) (mean : ExcName → Option Value) (mg mb : Str → Option Value) (dp un : Nat) (gd : Option (List Code)) (cn : Str) (cs : Scope) (a : Addr) (ccd : Value) (cl : List (Str × Addr)) (outer : List Env) (A₀ : Around) (base h₀ : Heap) (L : Addr) (m : Str → Option Value) (s : Shared) (Q E : Value → Shared → Prop) (news : List (Addr × Obj)) (i : Int) (ti : Tok) (u : Int), Below A₀ base outer h₀ → Fr h₀ L s.heap m → (Kf w.params).In h₀ → News h₀ L s.heap (news) → Top p loose mean mg mb h₀ → cs.kind = .function → dp + 1 < recursionLimit → un + 8 < cLine → (0 ≤ i) → (i < 2 ^ 40) → (i / 16384 % 512 = u) → (∀ (t : Tok) (h' : Heap) (tk' : Nat), Fr h₀ L h' m → News h₀ L h' (news) → Q (.int u t) { s with heap := h', toks := tk' }) → wpAny (model PySem.Challenge.rw_pc0174_01.row.prog w) (ktrTop dp un gd cn cs L a ccd cl outer) (call (.ref 49) [.int i ti]) Q E s := by
  k_fill
  refine (?k7k : KBcx ?f7f); refine ep_cx ?_; apply (?f7f _ _ _ _ _ _ _ _ _ _ _ _ _ _ _ _ _ _ _ _ _ _ _); (try any_goals exact default); intros w p loose mean mg mb dp un gd cn cs a ccd cl outer A₀ base h₀ L m s Q E; refine Bx.mk ?_
  refine (?k8k : KB4 ?f8f); refine ep4 (by repeat' (first | infer_instance | exact ne_world | exact ne_shared | exact ne_around | exact ⟨.none⟩ | exact ⟨⟨0, 0, 0, 0⟩⟩ | refine ne_prod ?_ ?_)) ?_; apply (?f8f _ _ _ _); (try any_goals exact default); intros news i ti u; refine Bx.mk ?_
  intro B F X N T hck hd9 hu9 h0 h1 hv hret
  subst hv
  refine wpAny_call ?_
  k_dflt cell_enter
  k_steps
  all_goals (refine q_int ?_ (hret _ _ _ (by k_asm) (by k_asm)); (simp only [p6, p14, p23, fdivK _ _ (by decide : (0:Int) ≤ 64), fdivK _ _ (by decide : (0:Int) ≤ 16384), fdivK _ _ (by decide : (0:Int) ≤ 8388608), bitAnd_m6, bitAnd_m8, and511]))
theorem rows_C1a_4 : True := by
  k_with "call ref" => (k_here; k_dflt (refine' c_of_ok _ _ _ _ _ _ _ _ _ _ _ _ _ _ _ _ _ _ _ _ _ _ _ _ _ _ _ ?kB ?kF ?kX ?kN ?kT ?kK ?kd ?ku ?q0 ?q1 ?q2 ?_; (case kB => k_asm); (case kF => k_asm); (case kX => k_asm); (case kN => k_asm); (case kT => k_asm); (case kK => first | exact rfl | assumption); (case kd => ktr_room); (case ku => ktr_units); (case q0 => first | assumption | l_fact); (case q1 => first | assumption | l_fact); (case q2 => first | assumption | exact rfl); k_whole); intro t_z h'_z tk'_z  F'_z N'_z; (try k_sweep))
  trivial
theorem wide_of_ok : ∀ (w : World) (p : Program) (loose : List Str) (mean : ExcName → Option Value) (mg mb : Str → Option Value) (dp un : Nat) (gd : Option (List Code)) (cn : Str) (cs : Scope) (a : Addr) (ccd : Value) (cl : List (Str × Addr)) (outer : List Env) (A₀ : Around) (base h₀ : Heap) (L : Addr) (m : Str → Option Value) (s : Shared) (Q E : Value → Shared → Prop) (news : List (Addr × Obj)) (i : Int) (ti : Tok) (u : Int), Below A₀ base outer h₀ → Fr h₀ L s.heap m → (Kf w.params).In h₀ → News h₀ L s.heap (news) → Top p loose mean mg mb h₀ → cs.kind = .function → dp + 1 < recursionLimit → un + 8 < cLine → (0 ≤ i) → (i < 2 ^ 40) → (i / 16384 = u) → (∀ (t : Tok) (h' : Heap) (tk' : Nat), Fr h₀ L h' m → News h₀ L h' (news) → Q (.int u t) { s with heap := h', toks := tk' }) → wpAny (model PySem.Challenge.rw_pc0174_01.row.prog w) (ktrTop dp un gd cn cs L a ccd cl outer) (call (.ref 56) [.int i ti]) Q E s := by
  k_fill
  refine (?k9k : KBcx ?f9f); refine ep_cx ?_; apply (?f9f _ _ _ _ _ _ _ _ _ _ _ _ _ _ _ _ _ _ _ _ _ _ _); (try any_goals exact default); intros w p loose mean mg mb dp un gd cn cs a ccd cl outer A₀ base h₀ L m s Q E; refine Bx.mk ?_
  refine (?k10k : KB4 ?f10f); refine ep4 (by repeat' (first | infer_instance | exact ne_world | exact ne_shared | exact ne_around | exact ⟨.none⟩ | exact ⟨⟨0, 0, 0, 0⟩⟩ | refine ne_prod ?_ ?_)) ?_; apply (?f10f _ _ _ _); (try any_goals exact default); intros news i ti u; refine Bx.mk ?_
  intro B F X N T hck hd9 hu9 h0 h1 hv hret
  subst hv
  refine wpAny_call ?_
  k_dflt cell_enter
  k_steps
  all_goals (refine q_int ?_ (hret _ _ _ (by k_asm) (by k_asm)); (simp only [p6, p14, p23, fdivK _ _ (by decide : (0:Int) ≤ 64), fdivK _ _ (by decide : (0:Int) ≤ 16384), fdivK _ _ (by decide : (0:Int) ≤ 8388608), bitAnd_m6, bitAnd_m8, and511]))
theorem rows_C1a_5 : True := by
  k_with "call ref" => (k_here; k_dflt (refine' wide_of_ok _ _ _ _ _ _ _ _ _ _ _ _ _ _ _ _ _ _ _ _ _ _ _ _ _ _ _ ?kB ?kF ?kX ?kN ?kT ?kK ?kd ?ku ?q0 ?q1 ?q2 ?_; (case kB => k_asm); (case kF => k_asm); (case kX => k_asm); (case kN => k_asm); (case kT => k_asm); (case kK => first | exact rfl | assumption); (case kd => ktr_room); (case ku => ktr_units); (case q0 => first | assumption | l_fact); (case q1 => first | assumption | l_fact); (case q2 => first | assumption | exact rfl); k_whole); intro t_z h'_z tk'_z  F'_z N'_z; (try k_sweep))
  trivial
theorem is_false_ok : ∀ (w : World) (p : Program) (loose : List Str) (mean : ExcName → Option Value) (mg mb : Str → Option Value) (dp un : Nat) (gd : Option (List Code)) (cn : Str) (cs : Scope) (a : Addr) (ccd : Value) (cl : List (Str × Addr)) (outer : List Env) (A₀ : Around) (base h₀ : Heap) (L : Addr) (m : Str → Option Value) (s : Shared) (Q E : Value → Shared → Prop) (news : List (Addr × Obj)) (x : RV) (v : Value), Below A₀ base outer h₀ → Fr h₀ L s.heap m → (Kf w.params).In h₀ → News h₀ L s.heap (news) → Top p loose mean mg mb h₀ → cs.kind = .function → dp + 1 < recursionLimit → un + 8 < cLine → (x.Is v) → (∀  (h' : Heap) (tk' : Nat), Fr h₀ L h' m → News h₀ L h' (news) → Q (.bool (isFalse x)) { s with heap := h', toks := tk' }) → wpAny (model PySem.Challenge.rw_pc0174_01.row.prog w) (ktrTop dp un gd cn cs L a ccd cl outer) (call (.ref 153) [v]) Q E s := by
  k_fill
  refine (?k11k : KBcx ?f11f); refine ep_cx ?_; apply (?f11f _ _ _ _ _ _ _ _ _ _ _ _ _ _ _ _ _ _ _ _ _ _ _); (try any_goals exact default); intros w p loose mean mg mb dp un gd cn cs a ccd cl outer A₀ base h₀ L m s Q E; refine Bx.mk ?_
  refine (?k12k : KB3 ?f12f); refine ep3 (by repeat' (first | infer_instance | exact ne_world | exact ne_shared | exact ne_around | exact ⟨.none⟩ | exact ⟨⟨0, 0, 0, 0⟩⟩ | refine ne_prod ?_ ?_)) ?_; apply (?f12f _ _ _); (try any_goals exact default); intros news x v; refine Bx.mk ?_
  intro B F X N T hck hd9 hu9 hx hret
  rcases x with _ | b9 | b9 | b9 <;> simp only [RV.Is] at hx <;> (try obtain ⟨t1, rfl⟩ := hx) <;> (try subst hx)
  all_goals ((try revert hret); (try revert hv); (first | (revert b9 t1; intro b9 t1) | (revert b9; intro b9) | skip); (set_option tactic.hygienic false in intros))
  all_goals (refine wpAny_call ?_; k_dflt cell_enter; k_steps)
  all_goals (exact hret _ _ (by k_asm) (by k_asm))
theorem rows_C1a_6 : True := by
  k_with "call ref" => (k_here; k_dflt (refine' is_false_ok _ _ _ _ _ _ _ _ _ _ _ _ _ _ _ _ _ _ _ _ _ _ _ _ _ _ ?kB ?kF ?kX ?kN ?kT ?kK ?kd ?ku ?q0 ?_; (case kB => k_asm); (case kF => k_asm); (case kX => k_asm); (case kN => k_asm); (case kT => k_asm); (case kK => first | exact rfl | assumption); (case kd => ktr_room); (case ku => ktr_units); (case q0 => first | assumption | exact RVs.getD _ (by assumption)); k_whole); intro  h'_z tk'_z  F'_z N'_z; (try k_sweep))
  trivial
theorem wrap_ok : ∀ (w : World) (p : Program) (loose : List Str) (mean : ExcName → Option Value) (mg mb : Str → Option Value) (dp un : Nat) (gd : Option (List Code)) (cn : Str) (cs : Scope) (a : Addr) (ccd : Value) (cl : List (Str × Addr)) (outer : List Env) (A₀ : Around) (base h₀ : Heap) (L : Addr) (m : Str → Option Value) (s : Shared) (Q E : Value → Shared → Prop) (news : List (Addr × Obj)) (n wd : Int) (tn tw : Tok), Below A₀ base outer h₀ → Fr h₀ L s.heap m → (Kf w.params).In h₀ → News h₀ L s.heap (news) → Top p loose mean mg mb h₀ → cs.kind = .function → dp + 1 < recursionLimit → un + 8 < cLine → (1 ≤ wd) → (wd ≤ 64) → (∀ (t : Tok) (h' : Heap) (tk' : Nat), Fr h₀ L h' m → News h₀ L h' (news) → Q (.int (wrapW n wd) t) { s with heap := h', toks := tk' }) → wpAny (model PySem.Challenge.rw_pc0174_01.row.prog w) (ktrTop dp un gd cn cs L a ccd cl outer) (call (.ref 160) [.int n tn, .int wd tw]) Q E s := by
  k_fill
  refine (?k13k : KBcx ?f13f); refine ep_cx ?_; apply (?f13f _ _ _ _ _ _ _ _ _ _ _ _ _ _ _ _ _ _ _ _ _ _ _); (try any_goals exact default); intros w p loose mean mg mb dp un gd cn cs a ccd cl outer A₀ base h₀ L m s Q E; refine Bx.mk ?_
  refine (?k14k : KB5 ?f14f); refine ep5 (by repeat' (first | infer_instance | exact ne_world | exact ne_shared | exact ne_around | exact ⟨.none⟩ | exact ⟨⟨0, 0, 0, 0⟩⟩ | refine ne_prod ?_ ?_)) ?_; apply (?f14f _ _ _ _ _); (try any_goals exact default); intros news n wd tn tw; refine Bx.mk ?_
  intro B F X N T hck hd9 hu9 h0 h1 hret
  refine wpAny_call ?_
  k_dflt cell_enter
  k_steps
  all_goals (refine q_int ?_ (hret _ _ _ (by k_asm) (by k_asm)); first | exact wrap_hi h0 (by assumption) | exact wrap_lo h0 (by first | assumption | omega))
theorem rows_C1a_7 : True := by
  k_with "call ref" => (k_here; k_dflt (refine' wrap_ok _ _ _ _ _ _ _ _ _ _ _ _ _ _ _ _ _ _ _ _ _ _ _ _ _ _ _ _ ?kB ?kF ?kX ?kN ?kT ?kK ?kd ?ku ?q0 ?q1 ?_; (case kB => k_asm); (case kF => k_asm); (case kX => k_asm); (case kN => k_asm); (case kT => k_asm); (case kK => first | exact rfl | assumption); (case kd => ktr_room); (case ku => ktr_units); (case q0 => first | assumption | omega); (case q1 => first | assumption | omega); k_whole); intro t_z h'_z tk'_z  F'_z N'_z; (try k_sweep))
  k_with "binaryOp FloorDiv int int" => (k_here; k_dflt (refine floordiv_int (by assumption) ?_ (Or.inl (PyProof.noPylong_small (by assumption)))))
  trivial
theorem divide_ok : ∀ (w : World) (p : Program) (loose : List Str) (mean : ExcName → Option Value) (mg mb : Str → Option Value) (dp un : Nat) (gd : Option (List Code)) (cn : Str) (cs : Scope) (a : Addr) (ccd : Value) (cl : List (Str × Addr)) (outer : List Env) (A₀ : Around) (base h₀ : Heap) (L : Addr) (m : Str → Option Value) (s : Shared) (Q E : Value → Shared → Prop) (news : List (Addr × Obj)) (x y : Int) (tx ty : Tok), Below A₀ base outer h₀ → Fr h₀ L s.heap m → (Kf w.params).In h₀ → News h₀ L s.heap (news) → Top p loose mean mg mb h₀ → cs.kind = .function → dp + 1 < recursionLimit → un + 8 < cLine → (y ≠ 0) → (-(2 ^ 29) < y ∧ y < 2 ^ 29) → (∀ (t : Tok) (h' : Heap) (tk' : Nat), Fr h₀ L h' m → News h₀ L h' (news) → Q (.int (divT x y) t) { s with heap := h', toks := tk' }) → wpAny (model PySem.Challenge.rw_pc0174_01.row.prog w) (ktrTop dp un gd cn cs L a ccd cl outer) (call (.ref 167) [.int x tx, .int y ty]) Q E s := by
  k_fill
  refine (?k15k : KBcx ?f15f); refine ep_cx ?_; apply (?f15f _ _ _ _ _ _ _ _ _ _ _ _ _ _ _ _ _ _ _ _ _ _ _); (try any_goals exact default); intros w p loose mean mg mb dp un gd cn cs a ccd cl outer A₀ base h₀ L m s Q E; refine Bx.mk ?_
  refine (?k16k : KB5 ?f16f); refine ep5 (by repeat' (first | infer_instance | exact ne_world | exact ne_shared | exact ne_around | exact ⟨.none⟩ | exact ⟨⟨0, 0, 0, 0⟩⟩ | refine ne_prod ?_ ?_)) ?_; apply (?f16f _ _ _ _ _); (try any_goals exact default); intros news x y tx ty; refine Bx.mk ?_
  intro B F X N T hck hd9 hu9 h0 hb hret
  obtain ⟨hb0, hb1⟩ := hb
  have hyn : (if y < 0 then -y else y) ≠ 0 := by split <;> omega
  have hyb : (if y < 0 then -y else y).natAbs < 1073741824 := by split <;> omega
  refine wpAny_call ?_
  k_dflt cell_enter
  k_steps
  all_goals (refine q_int ?_ (hret _ _ _ (by k_asm) (by k_asm)); unfold divT; first | exact (if_pos (by assumption)).symm | exact (if_neg (by rw [‹(_ != _) = false›]; exact Bool.false_ne_true)).symm)
theorem rows_C1a_8 : True := by
  k_with "call ref" => (k_here; k_dflt (refine' divide_ok _ _ _ _ _ _ _ _ _ _ _ _ _ _ _ _ _ _ _ _ _ _ _ _ _ _ _ _ ?kB ?kF ?kX ?kN ?kT ?kK ?kd ?ku ?q0 ?q1 ?_; (case kB => k_asm); (case kF => k_asm); (case kX => k_asm); (case kN => k_asm); (case kT => k_asm); (case kK => first | exact rfl | assumption); (case kd => ktr_room); (case ku => ktr_units); (case q0 => first | assumption | omega); (case q1 => assumption); k_whole); intro t_z h'_z tk'_z  F'_z N'_z; (try k_sweep))
  trivial
end Mine
end
section
open PySem PySem.W PyProof.Rows PySem.Builtin
namespace Mine
theorem slot_bytes_repr : Slot "bytes" "__repr__" "bytes.__repr__" :=
  .of (owner := "bytes") (n := "__repr__") (by rw [typeLookup_type, builtinLookup_eq_fast]; kernel_rfl) (by decide +kernel) (by decide +kernel) (by decide +kernel)
    (by first | exact .inl (by decide +kernel) | exact .inr (by decide +kernel)) (by rw [isSubtype_type]; kernel_rfl)
theorem entry_bytes_repr : entryFor table "bytes.__repr__" = some Builtin.«bytes.__repr__» := entryFor_of_tree (by kernel_rfl)
theorem own_bytes : Manifest.owners.lookup (String.ofList ['s', 'e', 't', 'y', 'b'].reverse) = some Manifest.sig_bytes := by kernel_rfl
theorem args_bytes_repr (a : Value) : argsOk "bytes.__repr__" ⟨[a], []⟩ := by
  unfold argsOk; rw [signature?_of (id := "bytes.__repr__") (n := ['_', '_', 'r', 'p', 'e', 'r', '_', '_']) (o := ['s', 'e', 't', 'y', 'b']) (by kernel_rfl) own_bytes]; kernel_rfl
theorem gives_bytes_repr (b : Array UInt8) (t : Tok) (h : 4 * b.size + 3 ≤ sizeLine) : Gives (Builtin.«bytes.__repr__» ⟨[.bytes b t], []⟩) (.str (Bytes.literal b)) := by
  refine .of_eq ?_
  show (do
    let x ← Bytes.literalAsked b
    retStr x : Sem Fin) = _
  unfold Bytes.literalAsked
  have e : Bytes.tooLong (4 * b.size + 3 + 0) = false := by unfold Bytes.tooLong; simp only [decide_eq_false_iff_not]; omega
  rw [e]
  rfl
theorem isty_bytes (s : Shared) (b : Array UInt8) (t : Tok) : s.TypeIs (.bytes b t) "bytes" := rfl
theorem ReprIs_bytes {prog : Program} {w : World} (b : Array UInt8) (t : Tok) (h : 4 * b.size + 3 ≤ sizeLine) : ReprIs prog w (.bytes b t) (Bytes.literal b) := fun n hn A E s Q hq => by
  have hn' : n ≤ sizeLine := by omega
  rw [pyReprUnder_leaf (v := .bytes b t) hn' (fun _ e => nomatch e)]
  unfold pyRepr
  exact wpAny_bind (wpAny_pyReprObj_gives (isty_bytes s b t) slot_bytes_repr entry_bytes_repr (args_bytes_repr _) (gives_bytes_repr b t h) (wpAny_pure (hq _)) (hx := by omega))
theorem literal_len (b : Array UInt8) : (Bytes.literal b).length ≤ 4 * b.size + 3 := by
  unfold Bytes.literal
  dsimp only
  generalize (if b.contains 39 && !b.contains 34 then 34 else 39 : Nat) = q
  show Array.size _ ≤ _
  rw [Array.size_push]
  have gen : ∀ (l : List UInt8) (acc : Array Nat) (f : UInt8 → Array Nat), (∀ c, (f c).size ≤ 4) → (l.foldl (fun acc c => acc ++ f c) acc).size ≤ acc.size + 4 * l.length := by
    intro l
    induction l with
    | nil => intro acc f _; simp
    | cons c l ih =>
      intro acc f hf
      have h1 := ih (acc ++ f c) f hf
      have h2 := hf c
      simp only [List.foldl_cons, List.length_cons]
      rw [Array.size_append] at h1
      omega
  rw [← Array.foldl_toList]
  have h := gen b.toList #[98, q] (fun c => if (c.toNat == if false = true then 39 else q) || c.toNat == 92 then #[92, c.toNat]
    else if c.toNat == 9 then #[92, 116]
    else if c.toNat == 10 then #[92, 110]
    else if c.toNat == 13 then #[92, 114]
    else if c.toNat < 32 || c.toNat ≥ 127 then #[92, 120, if c.toNat / 16 < 10 then 48 + c.toNat / 16 else 87 + c.toNat / 16, if c.toNat % 16 < 10 then 48 + c.toNat % 16 else 87 + c.toNat % 16]
    else #[c.toNat]) (fun c => by repeat' split
                                  all_goals simp)
  have e : (#[98, q] : Array Nat).size = 2 := rfl
  rw [e, Array.length_toList] at h
  exact Nat.le_trans (Nat.add_le_add_right h 1) (by omega)
def rvText : RV → Str
  | .none => "None"
  | .bool b => if b then "True" else "False"
  | .int i => toString i
  | .bytes b => Bytes.literal b
def RV.fine : RV → Prop
  | .int i => i.natAbs < 10 ^ 10
  | .bytes b => b.size ≤ 50
  | _ => True
theorem rvText_len {x : RV} (h : x.fine) : (rvText x).length ≤ 203 := by
  cases x with
  | none => exact Nat.le_of_ble_eq_true rfl
  | bool b => cases b <;> exact Nat.le_of_ble_eq_true rfl
  | int i => 
    show (Str.ofString (toString i)).length ≤ _
    rw [PySem.ofString_length]
    exact Nat.le_trans (int_text_length_le10 (k := 10) (by decide) h) (by decide)
  | bytes b => 
    have h' : b.size ≤ 50 := h
    exact Nat.le_trans (literal_len b) (by omega)
theorem log2_small {n : Nat} (h : n < 10 ^ 10) : n.log2 < 1920 := by
  by_cases h0 : n = 0
  · subst h0; decide
  · exact Nat.lt_trans ((Nat.log2_lt h0).mpr (Nat.lt_of_lt_of_le h (by decide)) : n.log2 < 34) (by decide)
theorem reprIs_rv {prog : Program} {w : World} {x : RV} {v : Value} (hf : x.fine) (h : x.Is v) : ReprIs prog w v (rvText x) := by
  cases x with
  | none => cases h; exact ReprIs.none
  | bool b => cases h; exact ReprIs.bool b
  | int i => obtain ⟨t, rfl⟩ := h; exact ReprIs.int t (log2_small hf)
  | bytes b => obtain ⟨t, rfl⟩ := h; exact ReprIs_bytes b t (by simp only [RV.fine] at hf; rw [sizeLine_eq]; omega)
def pairText (nm t : Str) : Str := tupleText [reprText nm, t]
theorem listText_len : ∀ {ts : List Str} {k : Nat}, (∀ t ∈ ts, t.length ≤ k) → (listText ts).length ≤ ts.length * (k + 2) + 2 := by
  intro ts k h
  have gen : ∀ (ts : List Str) (i : Nat) (acc : Str), (∀ t ∈ ts, t.length ≤ k) → (textFrom i acc ts).length ≤ acc.length + ts.length * (k + 2) := by
    intro ts
    induction ts with
    | nil => intro i acc _; simp [textFrom]
    | cons t ts ih =>
      intro i acc h
      have h1 := h t (by simp)
      unfold textFrom
      have h2 := ih (i + 1) (acc ++ (if i > 0 then ", " else "" : String) ++ t) (fun t ht => h t (by simp [ht]))
      rw [strLen_append, strLen_append] at h2
      have h3 : (Str.ofString (if i > 0 then ", " else "")).length ≤ 2 := by split <;> exact Nat.le_of_ble_eq_true rfl
      simp only [List.length_cons, Nat.add_mul, Nat.one_mul]
      omega
  have h0 := gen ts 0 "[" h
  show (textFrom 0 "[" ts ++ "]").length ≤ _
  rw [strLen_append]
  have e1 : (("[" : Str)).length = 1 := rfl
  have e2 : (("]" : Str)).length = 1 := rfl
  omega
section
variable {prog : Program} {w : World} {A : Around} {E : Value → Shared → Prop} {s : Shared} {Q : Value → Shared → Prop}
theorem repr_tuple {h₀ : Heap} {L T : Addr} {m : Str → Option Value} {news : List (Addr × Obj)} {items : List Value} {n : Nat} {as : List Addr} {d : Nat} {ts : List Str} (F : Fr h₀ L s.heap m) (N : News h₀ L s.heap news) (hm : (T, ({ cls := .type "tuple", data := .seq items.toArray n } : Obj)) ∈ news)
    (hT : ReprAllK prog w as s.heap d items ts) (hna : T ∉ as) (hg : A.guards = some []) (hu : A.units + (d + 2) < cLine) (hsz : (tupleText ts).length ≤ sizeLine)
    (hQ : ∀ h' u tk, Fr h₀ L h' m → News h₀ L h' news → Q (.str (tupleText ts) u) { s with heap := h', toks := tk }) : wpAny (model prog w) A (call (.builtin "repr") [.ref T]) Q E s := by
  have ha := (N _ hm).1
  exact call_repr_slot (by omega) ⟨_, ha, rfl⟩ PySem.F.slot_tuple_repr (call_tuple_reprK ha rfl rfl hna hT hg (fun b _ => Clear.nil b) (by show A.units + 1 + (d + 1) < cLine; omega) (fun _ _ e => e) (fun h' u tk hk => ⟨_, _, rfl, hQ h' u tk (F.keptAll hk) (N.grown hk)⟩) hsz)
theorem rvs_all {h₀ : Heap} {as : List Addr} {d : Nat} : ∀ {xs : List RV} {vs : List Value}, RVs xs vs → (∀ x ∈ xs, x.fine) → ReprAllK prog w as h₀ d vs (xs.map rvText)
  | [], [], _, _ => .nil
  | x :: xs, v :: vs, h, hf => .cons (.of_is (reprIs_rv (hf x (by simp)) h.1) _ _ _) (rvs_all h.2 fun y hy => hf y (by simp [hy]))
  | [], _ :: _, h, _ => h.elim
  | _ :: _, [], h, _ => h.elim
theorem rvs_item {h₀ : Heap} {as : List Addr} {d : Nat} : ∀ {vs : List Value} {ts : List Str}, ReprAllK prog w as h₀ d vs ts → ∀ (i : Nat) (y : Value), vs[i]? = some y → ∃ t, ts[i]? = some t ∧ ReprK prog w as h₀ d y t := by
  intro vs ts k
  induction k with
  | nil => intro i y e; rw [List.getElem?_nil] at e; cases e
  | cons h _ ih =>
    intro i y e
    cases i with
    | zero => cases e; exact ⟨_, rfl, h⟩
    | succ i => rw [List.getElem?_cons_succ] at e ⊢; exact ih i y e
theorem list_reprK {h : Heap} {rl : Addr} {zs : List Value} {ys : List RV} {kr : Nat} (hl : h.get? rl = some (listOf zs.toArray kr)) (hx : RVs ys zs) (hf : ∀ y ∈ ys, y.fine) : ReprK prog w [rl] h 1 (.ref rl) (listText (ys.map rvText)) := by
  cases zs with
  | nil =>
    cases ys with
    | nil =>
      show ReprK prog w [rl] h 1 (.ref rl) (listText [])
      rw [listText_nil]
      exact ReprK.listEmpty hl rfl rfl
    | cons _ _ => exact hx.elim
  | cons z zs =>
    have k := rvs_all (prog := prog) (w := w) (as := []) (h₀ := h) (d := 0) hx hf
    exact ReprK.list hl rfl rfl (by simp) (by simpa using (RVs.length hx).symm) (fun i y e => rvs_item k i y (by simpa using e))
variable {h₀ : Heap} {L T : Addr} {m : Str → Option Value} {news : List (Addr × Obj)}
theorem pair_len {nm t : Str} {k : Nat} (h : (reprText nm).length ≤ 100) (h2 : t.length ≤ k) (hk : k ≤ 16000000) : (pairText nm t).length ≤ sizeLine := by
  unfold pairText tupleText
  simp only [Str.join, strLen_append, List.length_cons, List.length_nil]
  rw [sizeLine_eq]
  have e1 : (("(" : Str)).length = 1 := rfl
  have e2 : ((", " : Str)).length = 2 := rfl
  have e3 : (Str.ofString (if (0 + 1 + 1 == 1) = true then ",)" else ")")).length = 1 := rfl
  omega
theorem repr_pairI {nm : Str} {i : Int} {t u : Tok} {n : Nat} (FF : Fr h₀ L s.heap m) (N : News h₀ L s.heap news) (hm : (T, ({ cls := .type "tuple", data := .seq #[.str nm t, .int i u] n } : Obj)) ∈ news) (hnm : (reprText nm).length ≤ 100) (hi : i.natAbs < 10 ^ 10) (hg : A.guards = some []) (hu : A.units + 4 < cLine)
    (hQ : ∀ h' u tk, Fr h₀ L h' m → News h₀ L h' news → Q (.str (pairText nm (toString i)) u) { s with heap := h', toks := tk }) : wpAny (model prog w) A (call (.builtin "repr") [.ref T]) Q E s := by
  refine repr_tuple (as := []) (d := 1) (items := [.str nm t, .int i u]) FF N hm (.cons (.of_is (ReprIs.str nm t (by rw [sizeLine_eq]; omega)) _ _ _) (.cons (.of_is (ReprIs.int u (log2_small hi)) _ _ _) .nil)) (by simp) hg (by omega) ?_ hQ
  exact pair_len hnm (k := 11) (by show (Str.ofString (toString i)).length ≤ _; rw [PySem.ofString_length]; exact int_text_length_le10 (k := 10) (by decide) hi) (by decide)
theorem repr_pairL {nm : Str} {rl : Addr} {t : Tok} {n kr : Nat} {ys : List RV} {zs : List Value} (FF : Fr h₀ L s.heap m) (N : News h₀ L s.heap news) (hm : (T, ({ cls := .type "tuple", data := .seq #[.str nm t, .ref rl] n } : Obj)) ∈ news) (hl : (rl, listOf zs.toArray kr) ∈ news) (hx : RVs ys zs) (hf : ∀ y ∈ ys, y.fine) (hyl : ys.length ≤ 100) (hnm : (reprText nm).length ≤ 100) (hg : A.guards = some []) (hu : A.units + 4 < cLine)
    (hQ : ∀ h' u tk, Fr h₀ L h' m → News h₀ L h' news → Q (.str (pairText nm (listText (ys.map rvText))) u) { s with heap := h', toks := tk }) : wpAny (model prog w) A (call (.builtin "repr") [.ref T]) Q E s := by
  have hne : T ≠ rl := fun e => by
    have h1 := (N _ hm).1
    have h2 := (N _ hl).1
    dsimp only at h1 h2
    rw [e, h2] at h1
    exact absurd (congrArg (fun o => o.map Obj.cls) h1) (by simp)
  refine repr_tuple (as := [rl]) (d := 1) (items := [.str nm t, .ref rl]) FF N hm (.cons (.of_is (ReprIs.str nm t (by rw [sizeLine_eq]; omega)) _ _ _) (.cons (list_reprK (N _ hl).1 hx hf) .nil)) (by simpa using hne) hg (by omega) ?_ hQ
  refine pair_len hnm (listText_len (k := 203) (fun t ht => ?_)) ?_
  · obtain ⟨y, hy, rfl⟩ := List.mem_map.mp ht
    exact rvText_len (hf y hy)
  · rw [List.length_map]; omega
end
end Mine
end
section
namespace Mine
theorem getL_yes {n : Str} {e : DictEntry} {r : List DictEntry} (h : e.key.isStr n = true) : getL n (e :: r) = some (some e.val) := by simp [getL, h]
theorem getL_no {n : Str} {e : DictEntry} {r : List DictEntry} (h : e.key.isStr n = false) : getL n (e :: r) = match getL n r with | some (some v) => some (some v) | o => if e.refKey = true then none else o := by
  unfold getL
  simp only [List.find?_cons, h]
  cases r.find? (·.key.isStr n) with
  | some e' => rfl
  | none =>
    simp only [List.any_cons]
    rcases Bool.eq_false_or_eq_true e.refKey with h1 | h1 <;> rcases Bool.eq_false_or_eq_true (r.any (·.refKey)) with h2 | h2 <;> simp only [h1, h2] <;> rfl
theorem getL_put_same {n : Str} {t : Tok} {hsh : Int} {v : Value} : ∀ (es : List DictEntry), getL n (putL n hsh (.str n t) v es) = some (some v)
  | [] => by simp [getL, putL, Value.isStr]
  | e :: r => by
    unfold putL
    cases h : e.key.isStr n with
    | true => exact getL_yes h
    | false => rw [if_neg Bool.false_ne_true, getL_no h, getL_put_same r]
theorem isStr_both {k : Value} {a b : Str} (h1 : k.isStr a = true) (h2 : k.isStr b = true) : a = b := by
  cases k <;> simp [Value.isStr] at h1 h2
  exact h1.symm.trans h2
theorem getL_put_ne {n n' : Str} {t : Tok} {hsh : Int} {v : Value} (hn : n' ≠ n) : ∀ (es : List DictEntry), getL n' (putL n hsh (.str n t) v es) = getL n' es
  | [] => by
    have : (Value.str n t).isStr n' = false := by simp [Value.isStr]; exact fun h => hn h.symm
    simp [getL, putL, this, DictEntry.refKey]
  | e :: r => by
    unfold putL
    cases h : e.key.isStr n with
    | true =>
      have h' : e.key.isStr n' = false := Bool.eq_false_iff.mpr fun k => hn (isStr_both k h)
      rw [if_pos rfl, getL_no (e := e) h', getL_no (e := ⟨e.hash, e.key, v⟩) h']
      rfl
    | false =>
      rw [if_neg Bool.false_ne_true]
      cases h' : e.key.isStr n' with
      | true => rw [getL_yes h', getL_yes h']
      | false => rw [getL_no h', getL_no h', getL_put_ne hn r]
theorem putL_len {n : Str} {hsh : Int} {k v : Value} : ∀ (es : List DictEntry), (putL n hsh k v es).length ≤ es.length + 1
  | [] => by simp [putL]
  | e :: r => by
    unfold putL
    split
    · simp
    · simp only [List.length_cons]; exact Nat.succ_le_succ (putL_len r)
theorem upd_at {d : Addr} {o o' : Obj} {post : List (Addr × Obj)} : ∀ {pre : List (Addr × Obj)}, (∀ p ∈ pre, p.1 ≠ d) → (∀ p ∈ post, p.1 ≠ d) → Upd d o o' (pre ++ (d, o) :: post) (pre ++ (d, o') :: post)
  | [], _, b => .head b
  | p :: _, a, b => .tail (a p (.head _)) (upd_at (fun q hq => a q (.tail _ hq)) b)
theorem putN_has {n : Str} {es : List DictEntry} {k : Nat} {v : Value} (h : getL n es = some (some v)) : putN n es k = k := by
  unfold putN
  rw [if_pos]
  unfold getL at h
  cases hf : es.find? (·.key.isStr n) with
  | some e => exact List.any_eq_true.mpr ⟨e, List.mem_of_find?_eq_some hf, List.find?_some (p := fun x : DictEntry => x.key.isStr n) hf⟩
  | none => rw [hf] at h; dsimp only at h; split at h <;> cases h
theorem putL_len_has {n : Str} {hsh : Int} {k v : Value} : ∀ (es : List DictEntry), (es.any (·.key.isStr n)) = true → (putL n hsh k v es).length = es.length
  | [], h => by cases h
  | e :: r, h => by
    unfold putL
    cases h' : e.key.isStr n with
    | true => rfl
    | false =>
      rw [if_neg Bool.false_ne_true, List.length_cons, List.length_cons, putL_len_has r (by simpa [h'] using h)]
def methN : List Str := [Str.ofString "done", Str.ofString "done_table", Str.ofString "done_reckoning", Str.ofString "done_join", Str.ofString "done_jump", Str.ofString "done_other", Str.ofString "call_at", Str.ofString "done_call", Str.ofString "done_list"]
/-- a stepper's dict: its place, its result, what never changes, and that no method's name stands in it -/
structure StepD (fx : Str → Option Value) (es : List DictEntry) (pc res : Value) : Prop where
  pc : getL (Str.ofString "pc") es = some (some pc)
  res : getL (Str.ofString "result") es = some (some res)
  oth : ∀ n v, n ≠ Str.ofString "pc" → n ≠ Str.ofString "result" → fx n = some v → getL n es = some (some v)
  len : es.length ≤ 1000
  no : ∀ n, n ∈ methN → getL n es = some none
theorem StepD.get {fx : Str → Option Value} {es : List DictEntry} {pc res : Value} {n : Str} {v : Value} (D : StepD fx es pc res) (h : fx n = some v) (h1 : n ≠ Str.ofString "pc") (h2 : n ≠ Str.ofString "result") : getL n es = some (some v) := D.oth n v h1 h2 h
theorem any_of_getL {n : Str} {es : List DictEntry} {v : Value} (h : getL n es = some (some v)) : (es.any (·.key.isStr n)) = true := by
  unfold getL at h
  cases hf : es.find? (·.key.isStr n) with
  | some e => exact List.any_eq_true.mpr ⟨e, List.mem_of_find?_eq_some hf, List.find?_some (p := fun x : DictEntry => x.key.isStr n) hf⟩
  | none => rw [hf] at h; dsimp only at h; split at h <;> cases h
theorem StepD.set_pc {fx : Str → Option Value} {es : List DictEntry} {pc res v : Value} {hsh : Int} {t : Tok} (D : StepD fx es pc res) : StepD fx (putL (Str.ofString "pc") hsh (.str (Str.ofString "pc") t) v es) v res :=
  ⟨getL_put_same es, (getL_put_ne (by decide) es).trans D.res, fun n v' h1 h2 h => (getL_put_ne h1 es).trans (D.oth n v' h1 h2 h), by rw [putL_len_has es (any_of_getL D.pc)]; exact D.len, fun n hn => (getL_put_ne (fun e => absurd (e ▸ hn) (by decide)) es).trans (D.no n hn)⟩
theorem StepD.set_res {fx : Str → Option Value} {es : List DictEntry} {pc res v : Value} {hsh : Int} {t : Tok} (D : StepD fx es pc res) : StepD fx (putL (Str.ofString "result") hsh (.str (Str.ofString "result") t) v es) pc v :=
  ⟨(getL_put_ne (by decide) es).trans D.pc, getL_put_same es, fun n v' h1 h2 h => (getL_put_ne h2 es).trans (D.oth n v' h1 h2 h), by rw [putL_len_has es (any_of_getL D.res)]; exact D.len, fun n hn => (getL_put_ne (fun e => absurd (e ▸ hn) (by decide)) es).trans (D.no n hn)⟩
section
variable {prog : Program} {w : World} {A : Around} {E : Value → Shared → Prop} {s : Shared} {K : Frag} {x C dx L : Addr} {h₀ : Heap} {m : Str → Option Value} {news : List (Addr × Obj)} {g : Obj → List (Addr × Obj)} {ox : Obj} {es : List DictEntry} {n : Nat} {v : Value} {fx : Str → Option Value} {pc res : Value}
theorem set_pcK {Q : Unit → Shared → Prop} (F : Fr h₀ L s.heap m) (X₀ : K.In h₀) (N : News h₀ L s.heap news) (I : InstAt s.heap x ox C (some (dictOf es n))) (hd : ox.dict = some dx)
    (hs : findIn K (.ref C) "__setattr__" = some (some (.builtin "object.__setattr__"))) (hp : plainOver K C = true) (ht : takerIn K C (Str.ofString "pc") = some none) (hh : hasDictIn K C = true)
    (D : StepD fx es pc res) (U : UpdF dx (dictOf es n) news g)
    (h : ∀ es' h', StepD fx es' v res → Fr h₀ L h' m → News h₀ L h' (g (dictOf es' n)) → Q () { s with heap := h', toks := s.toks + 2 }) : wpAny (model prog w) A (setAttr (.ref x) (Str.ofString "pc") v) Q E s := by
  obtain ⟨pre, post, rfl, hg, a, b⟩ := U.split
  refine set_dict (es' := putL (Str.ofString "pc") (PyData.keyHash w.params (Str.ofString "pc")) (.str (Str.ofString "pc") (s.toks + 1)) v es) (n' := n) F X₀ N I hd hs hp ht hh (by rw [D.pc]; rfl) (Prod.ext rfl (putN_has D.pc)) (upd_at a b) (StepD.len (D.set_pc)) (fun h' F' N' => h (putL (Str.ofString "pc") (PyData.keyHash w.params (Str.ofString "pc")) (.str (Str.ofString "pc") (s.toks + 1)) v es) h' D.set_pc F' (by rw [hg]; exact N'))
theorem set_resK {Q : Unit → Shared → Prop} (F : Fr h₀ L s.heap m) (X₀ : K.In h₀) (N : News h₀ L s.heap news) (I : InstAt s.heap x ox C (some (dictOf es n))) (hd : ox.dict = some dx)
    (hs : findIn K (.ref C) "__setattr__" = some (some (.builtin "object.__setattr__"))) (hp : plainOver K C = true) (ht : takerIn K C (Str.ofString "result") = some none) (hh : hasDictIn K C = true)
    (D : StepD fx es pc res) (U : UpdF dx (dictOf es n) news g)
    (h : ∀ es' h', StepD fx es' pc v → Fr h₀ L h' m → News h₀ L h' (g (dictOf es' n)) → Q () { s with heap := h', toks := s.toks + 2 }) : wpAny (model prog w) A (setAttr (.ref x) (Str.ofString "result") v) Q E s := by
  obtain ⟨pre, post, rfl, hg, a, b⟩ := U.split
  refine set_dict (es' := putL (Str.ofString "result") (PyData.keyHash w.params (Str.ofString "result")) (.str (Str.ofString "result") (s.toks + 1)) v es) (n' := n) F X₀ N I hd hs hp ht hh (by rw [D.res]; rfl) (Prod.ext rfl (putN_has D.res)) (upd_at a b) (StepD.len (D.set_res)) (fun h' F' N' => h (putL (Str.ofString "result") (PyData.keyHash w.params (Str.ofString "result")) (.str (Str.ofString "result") (s.toks + 1)) v es) h' D.set_res F' (by rw [hg]; exact N'))
end
end Mine
end
section
namespace Mine

theorem rows_C1x_1 : True := by
  k_with_none
  k_with "EP" => (k_whole; fail_if_success (fail_if_success (rename Below _ _ _ _ => b9_z)))
  k_with "call ref" => (k_here; k_dflt (refine' a_of_ok _ _ _ _ _ _ _ _ _ _ _ _ _ _ _ _ _ _ _ _ _ _ _ _ _ _ _ ?kB ?kF ?kX ?kN ?kT ?kK ?kd ?ku ?q0 ?q1 ?q2 ?_; (case kB => k_asm); (case kF => k_asm); (case kX => k_asm); (case kN => k_asm); (case kT => k_asm); (case kK => first | exact rfl | assumption); (case kd => ktr_room); (case ku => ktr_units); (case q0 => first | assumption | l_fact); (case q1 => first | assumption | l_fact); (case q2 => first | assumption | exact rfl); k_whole); intro t_z h'_z tk'_z  F'_z N'_z; (try k_sweep))
  k_with "call ref" => (k_here; k_dflt (refine' b_of_ok _ _ _ _ _ _ _ _ _ _ _ _ _ _ _ _ _ _ _ _ _ _ _ _ _ _ _ ?kB ?kF ?kX ?kN ?kT ?kK ?kd ?ku ?q0 ?q1 ?q2 ?_; (case kB => k_asm); (case kF => k_asm); (case kX => k_asm); (case kN => k_asm); (case kT => k_asm); (case kK => first | exact rfl | assumption); (case kd => ktr_room); (case ku => ktr_units); (case q0 => first | assumption | l_fact); (case q1 => first | assumption | l_fact); (case q2 => first | assumption | exact rfl); k_whole); intro t_z h'_z tk'_z  F'_z N'_z; (try k_sweep))
  k_with "call ref" => (k_here; k_dflt (refine' c_of_ok _ _ _ _ _ _ _ _ _ _ _ _ _ _ _ _ _ _ _ _ _ _ _ _ _ _ _ ?kB ?kF ?kX ?kN ?kT ?kK ?kd ?ku ?q0 ?q1 ?q2 ?_; (case kB => k_asm); (case kF => k_asm); (case kX => k_asm); (case kN => k_asm); (case kT => k_asm); (case kK => first | exact rfl | assumption); (case kd => ktr_room); (case ku => ktr_units); (case q0 => first | assumption | l_fact); (case q1 => first | assumption | l_fact); (case q2 => first | assumption | exact rfl); k_whole); intro t_z h'_z tk'_z  F'_z N'_z; (try k_sweep))
  k_with "call ref" => (k_here; k_dflt (refine' wide_of_ok _ _ _ _ _ _ _ _ _ _ _ _ _ _ _ _ _ _ _ _ _ _ _ _ _ _ _ ?kB ?kF ?kX ?kN ?kT ?kK ?kd ?ku ?q0 ?q1 ?q2 ?_; (case kB => k_asm); (case kF => k_asm); (case kX => k_asm); (case kN => k_asm); (case kT => k_asm); (case kK => first | exact rfl | assumption); (case kd => ktr_room); (case ku => ktr_units); (case q0 => first | assumption | l_fact); (case q1 => first | assumption | l_fact); (case q2 => first | assumption | exact rfl); k_whole); intro t_z h'_z tk'_z  F'_z N'_z; (try k_sweep))
  trivial
local macro_rules | `(tactic| k_mem) => `(tactic| first | assumption | (refine mem_of ?_; assumption))
theorem rows_C1x_2 : True := by
  k_with "subscriptTail" => (k_here; (with_reducible show wpAny _ _ (subscriptTail _ _ (Value.ref _) (Value.int _ _)) _ _ _); k_dflt (refine' kv_sub ?k1 ?k2 ?k4 ?k5 ?k6 ?_ ?k7; (case k1 => k_asm); (case k2 => k_mem); (case k4 => first | omega | l_fact); (case k5 => first | omega | l_fact); (case k6 => first | omega | l_fact); (case k7 => with_unfolding_all rfl); k_whole))
  trivial
theorem cst_sub : ∀ {w : World} {A : Around} {E : Value → Shared → Prop} {s : Shared} {h₀ : Heap} {L : Addr} {m : Str → Option Value} {d : Int} {tk : Tok} {value slice : PySem.Expr} {Q : Value → Shared → Prop} (_ : 0 ≤ d ∧ d < 6) (_ : Fr h₀ L s.heap m) (_ : (Kf w.params).In h₀)
    (_ : subscripted slice false (.ref 510) (.int d tk) = operate [.ref 510, .int d tk] (getItem (.ref 510) (.int d tk))) (_ : ∀ v, (consts1.getD d.toNat .none).Is v → Q v s), wpAny (model PySem.Challenge.rw_pc0174_01.row.prog w) A (subscriptTail value slice (.ref 510) (.int d tk)) Q E s := by
  k_fill
  intro w A E s h₀ L m d tk value slice Q hd F X hs h
  rcases (show d = 0 ∨ d = 1 ∨ d = 2 ∨ d = 3 ∨ d = 4 ∨ d = 5 by omega) with e | e | e | e | e | e <;> subst e
  all_goals k_dflt (refine' topList_K (hs := hs) F X ?l ?a ?b ?d ?_; (case l => k_is); (case a => decide); (case b => decide); (case d => rfl))
  all_goals exact h _ ⟨_, rfl⟩
theorem rows_C1x_3 : True := by
  k_with "subscriptTail" => (k_here; (with_reducible show wpAny _ _ (subscriptTail _ _ (Value.ref 510) (Value.int _ _)) _ _ _); k_dflt (refine' cst_sub ?k1 ?k2 ?k3 ?k4 ?_; (case k1 => first | assumption | (constructor <;> omega)); (case k2 => k_asm); (case k3 => k_asm); (case k4 => with_unfolding_all rfl); k_whole); intro _ _)
  trivial
theorem operand_ok : ∀ (w : World) (p : Program) (loose : List Str) (mean : ExcName → Option Value) (mg mb : Str → Option Value) (dp un : Nat) (gd : Option (List Code)) (cn : Str) (cs : Scope) (a : Addr) (ccd : Value) (cl : List (Str × Addr)) (outer : List Env) (A₀ : Around) (base h₀ : Heap) (L : Addr) (m : Str → Option Value) (s : Shared) (Q E : Value → Shared → Prop) (news : List (Addr × Obj)) (xs : List RV) (vs : List Value) (st : Addr) (n : Nat) (k : Int) (tz tk : Tok), Below A₀ base outer h₀ → Fr h₀ L s.heap m → (Kf w.params).In h₀ → News h₀ L s.heap (news) → Top p loose mean mg mb h₀ → cs.kind = .function → dp + 1 < recursionLimit → un + 8 < cLine → ((st, listOf vs.toArray n) ∈ news) → (RVs xs vs) → (okOp k xs.length) → (∀ (v : Value) (h' : Heap) (tk' : Nat), ((opd1 xs k).Is v) → Fr h₀ L h' m → News h₀ L h' (news) → Q (v) { s with heap := h', toks := tk' }) → wpAny (model PySem.Challenge.rw_pc0174_01.row.prog w) (ktrTop dp un gd cn cs L a ccd cl outer) (call (.ref 310) [.ref st, .int 0 tz, .ref 510, .int k tk]) Q E s := by
  k_fill
  refine (?k1k : KBcx ?f1f); refine ep_cx ?_; apply (?f1f _ _ _ _ _ _ _ _ _ _ _ _ _ _ _ _ _ _ _ _ _ _ _); (try any_goals exact default); intros w p loose mean mg mb dp un gd cn cs a ccd cl outer A₀ base h₀ L m s Q E; refine Bx.mk ?_
  refine (?k2k : KB8 ?f2f); refine ep8 (by repeat' (first | infer_instance | exact ne_world | exact ne_shared | exact ne_around | exact ⟨.none⟩ | exact ⟨⟨0, 0, 0, 0⟩⟩ | refine ne_prod ?_ ?_)) ?_; apply (?f2f _ _ _ _ _ _ _ _); (try any_goals exact default); intros news xs vs st n k tz tk; refine Bx.mk ?_
  intro B F X N T hck hd9 hu9 hm hx hk hret
  have hl := hx.length
  rcases hk with ⟨h0, h1, h2⟩ | ⟨h0, h1⟩
  · refine wpAny_call ?_
    k_dflt cell_enter
    have e := and256s k h0 h1
    k_steps
    all_goals first
      | (exfalso; omega)
      | (refine hret _ _ _ ?_ (by k_asm) (by k_asm)
         rw [Int.zero_add]
         simp only [opd1, if_pos h1]
         exact hx.getD _)
  · refine wpAny_call ?_
    k_dflt cell_enter
    have e := and256b k h0 (by omega)
    k_steps
    all_goals first
      | (exfalso; omega)
      | (refine hret _ _ _ ?_ (by k_asm) (by k_asm)
         unfold opd1
         rw [if_neg (by omega)]
         assumption)
theorem rows_C1x_4 : True := by
  k_with "call ref" => (k_here; k_dflt (refine' operand_ok _ _ _ _ _ _ _ _ _ _ _ _ _ _ _ _ _ _ _ _ _ _ _ _ _ _ _ _ _ _ _ ?kB ?kF ?kX ?kN ?kT ?kK ?kd ?ku ?q0 ?q1 ?q2 ?_; (case kB => k_asm); (case kF => k_asm); (case kX => k_asm); (case kN => k_asm); (case kT => k_asm); (case kK => first | exact rfl | assumption); (case kd => ktr_room); (case ku => ktr_units); (case q0 => k_mem); (case q1 => assumption); (case q2 => assumption); k_whole); intro v_z h'_z tk'_z hv_z F'_z N'_z; (try k_sweep))
  trivial
theorem two_operands_ok : ∀ (w : World) (p : Program) (loose : List Str) (mean : ExcName → Option Value) (mg mb : Str → Option Value) (dp un : Nat) (gd : Option (List Code)) (cn : Str) (cs : Scope) (a : Addr) (ccd : Value) (cl : List (Str × Addr)) (outer : List Env) (A₀ : Around) (base h₀ : Heap) (L : Addr) (m : Str → Option Value) (s : Shared) (Q E : Value → Shared → Prop) (news : List (Addr × Obj)) (xs : List RV) (vs : List Value) (st : Addr) (n : Nat) (ins rb rc : Int) (ti tz : Tok), Below A₀ base outer h₀ → Fr h₀ L s.heap m → (Kf w.params).In h₀ → News h₀ L s.heap (news) → Top p loose mean mg mb h₀ → cs.kind = .function → dp + 2 < recursionLimit → un + 16 < cLine → (0 ≤ ins) → (ins < 2 ^ 40) → (ins / 8388608 = rb) → (ins / 16384 % 512 = rc) → ((st, listOf vs.toArray n) ∈ news) → (RVs xs vs) → (okOp rb xs.length) → (okOp rc xs.length) → (∀ (T : Addr) (v1 v2 : Value) (h' : Heap) (tk' : Nat), ((opd1 xs rb).Is v1) → ((opd1 xs rc).Is v2) → (∀ p ∈ news, p.1 < T) → Fr h₀ L h' m → News h₀ L h' ((T, { cls := .type "tuple", data := .seq #[v1, v2] }) :: news) → Q (.ref T) { s with heap := h', toks := tk' }) → wpAny (model PySem.Challenge.rw_pc0174_01.row.prog w) (ktrTop dp un gd cn cs L a ccd cl outer) (call (.ref 317) [.int ins ti, .ref st, .int 0 tz, .ref 510]) Q E s := by
  k_fill
  refine (?k3k : KBcx ?f3f); refine ep_cx ?_; apply (?f3f _ _ _ _ _ _ _ _ _ _ _ _ _ _ _ _ _ _ _ _ _ _ _); (try any_goals exact default); intros w p loose mean mg mb dp un gd cn cs a ccd cl outer A₀ base h₀ L m s Q E; refine Bx.mk ?_
  refine (?k4k : KB10 ?f4f); refine ep10 (by repeat' (first | infer_instance | exact ne_world | exact ne_shared | exact ne_around | exact ⟨.none⟩ | exact ⟨⟨0, 0, 0, 0⟩⟩ | refine ne_prod ?_ ?_)) ?_; apply (?f4f _ _ _ _ _ _ _ _ _ _); (try any_goals exact default); intros news xs vs st n ins rb rc ti tz; refine Bx.mk ?_
  intro B F X N T hck hd9 hu9 hi hi2 hb hc hm hx hkb hkc hret
  refine wpAny_call ?_
  k_dflt cell_enter
  k_steps
  rename News h₀ L _ _ => lN
  exact hret _ _ _ _ _ (by assumption) (by assumption) (by assumption) (by k_asm) lN
theorem rows_C1x_5 : True := by
  k_with "call ref" => (k_here; k_dflt (refine' two_operands_ok _ _ _ _ _ _ _ _ _ _ _ _ _ _ _ _ _ _ _ _ _ _ _ _ _ _ _ _ _ _ _ _ _ ?kB ?kF ?kX ?kN ?kT ?kK ?kd ?ku ?q0 ?q1 ?q2 ?q3 ?q4 ?q5 ?q6 ?q7 ?_; (case kB => k_asm); (case kF => k_asm); (case kX => k_asm); (case kN => k_asm); (case kT => k_asm); (case kK => first | exact rfl | assumption); (case kd => ktr_room); (case ku => ktr_units); (case q0 => assumption); (case q1 => assumption); (case q2 => assumption); (case q3 => assumption); (case q4 => k_mem); (case q5 => assumption); (case q6 => assumption); (case q7 => assumption); k_whole); intro T_z v1_z v2_z h'_z tk'_z hv1_z hv2_z hlt_z F'_z N'_z; (try k_sweep); (try k_lt hlt_z))
  trivial
end Mine
end
section
namespace Mine

local macro_rules | `(tactic| k_mem) => `(tactic| first | assumption | (refine mem_of ?_; assumption))
theorem rows_C1n_1 : True := by
  k_with_none
  k_with "EP" => (k_whole; fail_if_success (fail_if_success (rename Below _ _ _ _ => b9_z)))
  k_with "call builtin:list.append" => (k_here; (with_reducible show wpAny _ _ (call (Value.builtin _) [Value.ref _, _]) _ _ _); k_dflt (refine' kv_append ?k1 ?k2 ?k3 ?z ?_; (case k1 => k_asm); (case k2 => k_asm); (case k3 => k_upd); (case z => first | omega | (simp only [List.length_append, List.length_singleton]; omega)); k_whole); intro h'_z F'_z N'_z; (try k_sweep))
  k_with "call builtin:list.reverse" => (k_here; (with_reducible show wpAny _ _ (call (Value.builtin _) [Value.ref _]) _ _ _); k_dflt (refine' kl_reverse (l := List.reverse _) ?F ?N rfl ?U ?z ?_; (case F => k_asm); (case N => k_asm); (case U => k_upd); (case z => (simp [sizeLine_eq]; omega)); k_whole); intro h'_z F'_z N'_z; (try k_sweep))
  k_with "exec While" => (refine Stop.un ?_)
  k_with "WStepN" => ((first | refine wstep_brk ?_ | refine wstep_ret ?_); (try dsimp only))
  k_with "call type:bytes" => (refine Stop.un ?_)
  trivial
theorem number_text_ok : ∀ (w : World) (p : Program) (loose : List Str) (mean : ExcName → Option Value) (mg mb : Str → Option Value) (dp un : Nat) (gd : Option (List Code)) (cn : Str) (cs : Scope) (a : Addr) (ccd : Value) (cl : List (Str × Addr)) (outer : List Env) (A₀ : Around) (base h₀ : Heap) (L : Addr) (m : Str → Option Value) (s : Shared) (Q E : Value → Shared → Prop) (news : List (Addr × Obj)) (n : Int) (tn : Tok), Below A₀ base outer h₀ → Fr h₀ L s.heap m → (Kf w.params).In h₀ → News h₀ L s.heap (news) → Top p loose mean mg mb h₀ → cs.kind = .function → dp + 2 < recursionLimit → un + 16 < cLine → (-(2 ^ 18) < n ∧ n < 2 ^ 18) → (∀ (t : Tok) (h' : Heap) (tk' : Nat), Fr h₀ L h' m → News h₀ L h' (news) → Q (.bytes (decB n) t) { s with heap := h', toks := tk' }) → wpAny (model PySem.Challenge.rw_pc0174_01.row.prog w) (ktrTop dp un gd cn cs L a ccd cl outer) (call (.ref 237) [.int n tn]) Q E s := by
  k_fill
  refine (?k1k : KBcx ?f1f); refine ep_cx ?_; apply (?f1f _ _ _ _ _ _ _ _ _ _ _ _ _ _ _ _ _ _ _ _ _ _ _); (try any_goals exact default); intros w p loose mean mg mb dp un gd cn cs a ccd cl outer A₀ base h₀ L m s Q E; refine Bx.mk ?_
  refine (?k2k : KB3 ?f2f); refine ep3 (by repeat' (first | infer_instance | exact ne_world | exact ne_shared | exact ne_around | exact ⟨.none⟩ | exact ⟨⟨0, 0, 0, 0⟩⟩ | refine ne_prod ?_ ?_)) ?_; apply (?f2f _ _ _); (try any_goals exact default); intros news n tn; refine Bx.mk ?_
  intro B F X N T hck hd9 hu9 hn hret
  obtain ⟨hn0, hn1⟩ := hn
  have hdl := digs_len_le 5 n.natAbs (by omega)
  refine wpAny_call ?_
  k_dflt cell_enter
  k_steps
  refine Stop.mk ?_
  (rename Fr _ _ _ _ => lF'); (rename News _ _ _ _ => lN')
  have hab := abs_nat n
  refine While_ofN [Str.ofString "left"] (fun i g nw => ∃ (l : Int) (tl : Tok) (vs : List Value) (k : Nat) (ds : List Int), g (Str.ofString "left") = some (.int l tl) ∧ nw = (_, listOf vs.toArray k) :: news ∧ IntsAre vs ds ∧ 0 ≤ l ∧ i = l.toNat ∧ digs l.toNat ++ ds.reverse = digs n.natAbs) lF' (news_tl lN') ⟨_, _, [], 0, [], rfl, rfl, .nil, hab.1, rfl, by rw [hab.2]; simp⟩ ?turn
  clear lF' lN'
  intro i g nw h₁ tk₁ F1 N1 hj
  obtain ⟨l, tl, vs, k, ds, e1, rfl, hvs, hl0, rfl, hds⟩ := hj
  revert l tl vs k ds
  refine (?k3k : KB5 ?f3f); refine ep5 (by repeat' (first | infer_instance | exact ne_world | exact ne_shared | exact ne_around | exact ⟨.none⟩ | exact ⟨⟨0, 0, 0, 0⟩⟩ | refine ne_prod ?_ ?_)) ?_; apply (?f3f _ _ _ _ _); (try any_goals exact default); intros l tl vs k ds; refine Bx.mk ?_
  set_option tactic.hygienic false in intros
  simp only [over, e1] at F1
  have hvl := hvs.length
  have hdl2 : ds.length ≤ 6 := by have := congrArg List.length hds; simp only [List.length_append, List.length_reverse] at this; omega
  have hlt := dec_turn (l := l) (k := n.natAbs) (ds := ds)
  k_steps
  · have hd := hlt (by assumption) hds
    refine wstep_next (by k_asm) (by k_asm) hd.2.1 (by repeat (first | exact fun _ _ => rfl | refine keep_if (by k_mem) ?_)) ⟨_, _, _, _, _, rfl, rfl, ints_snoc hvs, hd.2.2, rfl, hd.1⟩
  all_goals
    (refine Stop.mk ?_
     (rename Fr _ _ _ _ => lF'); (rename News _ _ _ _ => lN')
     have hend := dec_end hl0 (by assumption) hds
     refine KBa.make_K lF' lN' rfl (PySem.IsL.isList (lN' _ (.head _)).1) (ns := decI n) ?hi (decI_in n) (decI_len hdl) ?_
     case hi => first
       | exact (dec_neg (by assumption) hend) ▸ ints_rev (ints_snoc (ints_snoc hvs))
       | exact (dec_pos (by assumption) hend) ▸ ints_rev (ints_snoc hvs)
     clear lF' lN'
     intro h' t' k' F' N' _
     k_steps
     (rename News h₀ L _ _ => lN)
     exact hret _ _ _ (by k_asm) (news_tl lN))

theorem rows_C1n_2 : True := by
  k_with "call ref" => (k_here; k_dflt (refine' number_text_ok _ _ _ _ _ _ _ _ _ _ _ _ _ _ _ _ _ _ _ _ _ _ _ _ _ _ ?kB ?kF ?kX ?kN ?kT ?kK ?kd ?ku ?q0 ?_; (case kB => k_asm); (case kF => k_asm); (case kX => k_asm); (case kN => k_asm); (case kT => k_asm); (case kK => first | exact rfl | assumption); (case kd => ktr_room); (case ku => ktr_units); (case q0 => first | assumption | (constructor <;> omega)); k_whole); intro t_z h'_z tk'_z  F'_z N'_z; (try k_sweep))
  trivial
end Mine
end
section
namespace Mine

theorem rows_C1t_1 : True := by
  k_with_none
  k_with "EP" => (k_whole; fail_if_success (fail_if_success (rename Below _ _ _ _ => b9_z)))
  k_with "exec While" => (refine Stop.un ?_)
  k_with "WStepN" => ((first | refine wstep_brk ?_ | refine wstep_ret ?_); (try dsimp only))
  trivial
theorem digit_of_ok : ∀ (w : World) (p : Program) (loose : List Str) (mean : ExcName → Option Value) (mg mb : Str → Option Value) (dp un : Nat) (gd : Option (List Code)) (cn : Str) (cs : Scope) (a : Addr) (ccd : Value) (cl : List (Str × Addr)) (outer : List Env) (A₀ : Around) (base h₀ : Heap) (L : Addr) (m : Str → Option Value) (s : Shared) (Q E : Value → Shared → Prop) (news : List (Addr × Obj)) (n : Int) (tn : Tok), Below A₀ base outer h₀ → Fr h₀ L s.heap m → (Kf w.params).In h₀ → News h₀ L s.heap (news) → Top p loose mean mg mb h₀ → cs.kind = .function → dp + 1 < recursionLimit → un + 8 < cLine → (0 ≤ n ∧ n < 256) → (∀ (t : Tok) (h' : Heap) (tk' : Nat), Fr h₀ L h' m → News h₀ L h' (news) → Q (.int (digI n) t) { s with heap := h', toks := tk' }) → wpAny (model PySem.Challenge.rw_pc0174_01.row.prog w) (ktrTop dp un gd cn cs L a ccd cl outer) (call (.ref 195) [.int n tn]) Q E s := by
  k_fill
  refine (?k1k : KBcx ?f1f); refine ep_cx ?_; apply (?f1f _ _ _ _ _ _ _ _ _ _ _ _ _ _ _ _ _ _ _ _ _ _ _); (try any_goals exact default); intros w p loose mean mg mb dp un gd cn cs a ccd cl outer A₀ base h₀ L m s Q E; refine Bx.mk ?_
  refine (?k2k : KB3 ?f2f); refine ep3 (by repeat' (first | infer_instance | exact ne_world | exact ne_shared | exact ne_around | exact ⟨.none⟩ | exact ⟨⟨0, 0, 0, 0⟩⟩ | refine ne_prod ?_ ?_)) ?_; apply (?f2f _ _ _); (try any_goals exact default); intros news n tn; refine Bx.mk ?_
  intro B F X N T hck hd9 hu9 h0 hret
  obtain ⟨h1, h2⟩ := h0
  refine wpAny_call ?_
  k_dflt cell_enter
  k_steps
  all_goals (refine q_int ?_ (hret _ _ _ (by k_asm) (by k_asm)); unfold digI; (repeat' split) <;> first | rfl | omega)
theorem rows_C1t_2 : True := by
  k_with "call ref" => (k_here; k_dflt (refine' digit_of_ok _ _ _ _ _ _ _ _ _ _ _ _ _ _ _ _ _ _ _ _ _ _ _ _ _ _ ?kB ?kF ?kX ?kN ?kT ?kK ?kd ?ku ?q0 ?_; (case kB => k_asm); (case kF => k_asm); (case kX => k_asm); (case kN => k_asm); (case kT => k_asm); (case kK => first | exact rfl | assumption); (case kd => ktr_room); (case ku => ktr_units); (case q0 => first | assumption | exact (okI_bd (by assumption)).1); k_whole); intro t_z h'_z tk'_z  F'_z N'_z; (try k_sweep))
  k_with "compareOp In int bytes" => (k_here; k_dflt (refine in_bytes (by omega) (by omega) ?_))
  trivial
theorem is_blank_ok : ∀ (w : World) (p : Program) (loose : List Str) (mean : ExcName → Option Value) (mg mb : Str → Option Value) (dp un : Nat) (gd : Option (List Code)) (cn : Str) (cs : Scope) (a : Addr) (ccd : Value) (cl : List (Str × Addr)) (outer : List Env) (A₀ : Around) (base h₀ : Heap) (L : Addr) (m : Str → Option Value) (s : Shared) (Q E : Value → Shared → Prop) (news : List (Addr × Obj)) (n : Int) (tn : Tok), Below A₀ base outer h₀ → Fr h₀ L s.heap m → (Kf w.params).In h₀ → News h₀ L s.heap (news) → Top p loose mean mg mb h₀ → cs.kind = .function → dp + 1 < recursionLimit → un + 8 < cLine → (0 ≤ n ∧ n < 256) → (13 < n ∧ n ≠ 32) → (∀  (h' : Heap) (tk' : Nat), Fr h₀ L h' m → News h₀ L h' (news) → Q (.bool false) { s with heap := h', toks := tk' }) → wpAny (model PySem.Challenge.rw_pc0174_01.row.prog w) (ktrTop dp un gd cn cs L a ccd cl outer) (call (.ref 188) [.int n tn]) Q E s := by
  k_fill
  refine (?k3k : KBcx ?f3f); refine ep_cx ?_; apply (?f3f _ _ _ _ _ _ _ _ _ _ _ _ _ _ _ _ _ _ _ _ _ _ _); (try any_goals exact default); intros w p loose mean mg mb dp un gd cn cs a ccd cl outer A₀ base h₀ L m s Q E; refine Bx.mk ?_
  refine (?k4k : KB3 ?f4f); refine ep3 (by repeat' (first | infer_instance | exact ne_world | exact ne_shared | exact ne_around | exact ⟨.none⟩ | exact ⟨⟨0, 0, 0, 0⟩⟩ | refine ne_prod ?_ ?_)) ?_; apply (?f4f _ _ _); (try any_goals exact default); intros news n tn; refine Bx.mk ?_
  intro B F X N T hck hd9 hu9 h0 h1 hret
  obtain ⟨h2, h3⟩ := h0
  have e := blank_no h2 h3 h1
  refine wpAny_call ?_
  k_dflt cell_enter
  k_steps
  all_goals first | exact q_bool e (hret _ _ (by k_asm) (by k_asm)) | skip
theorem rows_C1t_3 : True := by
  k_with "call ref" => (k_here; k_dflt (refine' is_blank_ok _ _ _ _ _ _ _ _ _ _ _ _ _ _ _ _ _ _ _ _ _ _ _ _ _ _ ?kB ?kF ?kX ?kN ?kT ?kK ?kd ?ku ?q0 ?q1 ?_; (case kB => k_asm); (case kF => k_asm); (case kX => k_asm); (case kN => k_asm); (case kT => k_asm); (case kK => first | exact rfl | assumption); (case kd => ktr_room); (case ku => ktr_units); (case q0 => first | assumption | exact (okI_bd (by assumption)).1); (case q1 => first | assumption | exact (okI_bd (by assumption)).2); k_whole); intro  h'_z tk'_z  F'_z N'_z; (try k_sweep))
  k_with "call builtin:len" => (k_here; (with_reducible show wpAny _ _ (call (Value.builtin "len") [Value.bytes _ _]) _ _ _); k_dflt (refine len_ok (by assumption) ?_))
  k_with "subscriptTail" => (k_here; (with_reducible show wpAny _ _ (subscriptTail _ _ (Value.bytes _ _) (Value.int _ _)) _ _ _); k_dflt (refine item_ok (by assumption) (by omega) (by omega) ?_); intro _ _ _)
  trivial
theorem skip_ok : ∀ (w : World) (p : Program) (loose : List Str) (mean : ExcName → Option Value) (mg mb : Str → Option Value) (dp un : Nat) (gd : Option (List Code)) (cn : Str) (cs : Scope) (a : Addr) (ccd : Value) (cl : List (Str × Addr)) (outer : List Env) (A₀ : Around) (base h₀ : Heap) (L : Addr) (m : Str → Option Value) (s : Shared) (Q E : Value → Shared → Prop) (news : List (Addr × Obj)) (b : Array UInt8) (i : Int) (tb ti : Tok), Below A₀ base outer h₀ → Fr h₀ L s.heap m → (Kf w.params).In h₀ → News h₀ L s.heap (news) → Top p loose mean mg mb h₀ → cs.kind = .function → dp + 2 < recursionLimit → un + 16 < cLine → (okB b) → (0 ≤ i ∧ i ≤ b.size) → (∀ (t : Tok) (h' : Heap) (tk' : Nat), Fr h₀ L h' m → News h₀ L h' (news) → Q (.int i t) { s with heap := h', toks := tk' }) → wpAny (model PySem.Challenge.rw_pc0174_01.row.prog w) (ktrTop dp un gd cn cs L a ccd cl outer) (call (.ref 209) [.bytes b tb, .int i ti]) Q E s := by
  k_fill
  refine (?k5k : KBcx ?f5f); refine ep_cx ?_; apply (?f5f _ _ _ _ _ _ _ _ _ _ _ _ _ _ _ _ _ _ _ _ _ _ _); (try any_goals exact default); intros w p loose mean mg mb dp un gd cn cs a ccd cl outer A₀ base h₀ L m s Q E; refine Bx.mk ?_
  refine (?k6k : KB5 ?f6f); refine ep5 (by repeat' (first | infer_instance | exact ne_world | exact ne_shared | exact ne_around | exact ⟨.none⟩ | exact ⟨⟨0, 0, 0, 0⟩⟩ | refine ne_prod ?_ ?_)) ?_; apply (?f6f _ _ _ _ _); (try any_goals exact default); intros news b i tb ti; refine Bx.mk ?_
  intro B F X N T hck hd9 hu9 hb h0 hret
  obtain ⟨h2, h3⟩ := h0
  have hbz := hb.1
  refine wpAny_call ?_
  k_dflt cell_enter
  k_steps
  refine Stop.mk ?_
  (rename Fr _ _ _ _ => lF'); (rename News _ _ _ _ => lN')
  refine While_ofN [Str.ofString "at"] (fun n g nw => n = 0 ∧ g (Str.ofString "at") = some (.int i ti) ∧ nw = news) lF' lN' ⟨rfl, rfl, rfl⟩ ?turn
  clear lF' lN'
  intro n g nw h₁ tk₁ F1 N1 hj
  obtain ⟨rfl, e1, rfl⟩ := hj
  simp only [over, e1] at F1
  k_steps
  all_goals exact hret _ _ _ (by k_asm) (by k_asm)
theorem rows_C1t_4 : True := by
  k_with "call ref" => (k_here; k_dflt (refine' skip_ok _ _ _ _ _ _ _ _ _ _ _ _ _ _ _ _ _ _ _ _ _ _ _ _ _ _ _ _ ?kB ?kF ?kX ?kN ?kT ?kK ?kd ?ku ?q0 ?q1 ?_; (case kB => k_asm); (case kF => k_asm); (case kX => k_asm); (case kN => k_asm); (case kT => k_asm); (case kK => first | exact rfl | assumption); (case kd => ktr_room); (case ku => ktr_units); (case q0 => assumption); (case q1 => first | assumption | omega); k_whole); intro t_z h'_z tk'_z  F'_z N'_z; (try k_sweep))
  trivial
theorem read_digits_ok : ∀ (w : World) (p : Program) (loose : List Str) (mean : ExcName → Option Value) (mg mb : Str → Option Value) (dp un : Nat) (gd : Option (List Code)) (cn : Str) (cs : Scope) (a : Addr) (ccd : Value) (cl : List (Str × Addr)) (outer : List Env) (A₀ : Around) (base h₀ : Heap) (L : Addr) (m : Str → Option Value) (s : Shared) (Q E : Value → Shared → Prop) (news : List (Addr × Obj)) (b : Array UInt8) (i : Int) (tb ti t10 : Tok), Below A₀ base outer h₀ → Fr h₀ L s.heap m → (Kf w.params).In h₀ → News h₀ L s.heap (news) → Top p loose mean mg mb h₀ → cs.kind = .function → dp + 2 < recursionLimit → un + 16 < cLine → (okB b) → (0 ≤ i ∧ i ≤ b.size) → (∀ (T : Addr) (t1 t2 : Tok) (h' : Heap) (tk' : Nat), (∀ p ∈ news, p.1 < T) → Fr h₀ L h' m → News h₀ L h' ((T, { cls := .type "tuple", data := .seq #[.int (numOf (digsAt b i)) t1, .int (i + (digsAt b i).length) t2] }) :: news) → Q (.ref T) { s with heap := h', toks := tk' }) → wpAny (model PySem.Challenge.rw_pc0174_01.row.prog w) (ktrTop dp un gd cn cs L a ccd cl outer) (call (.ref 202) [.bytes b tb, .int i ti, .int 10 t10]) Q E s := by
  k_fill
  refine (?k7k : KBcx ?f7f); refine ep_cx ?_; apply (?f7f _ _ _ _ _ _ _ _ _ _ _ _ _ _ _ _ _ _ _ _ _ _ _); (try any_goals exact default); intros w p loose mean mg mb dp un gd cn cs a ccd cl outer A₀ base h₀ L m s Q E; refine Bx.mk ?_
  refine (?k8k : KB6 ?f8f); refine ep6 (by repeat' (first | infer_instance | exact ne_world | exact ne_shared | exact ne_around | exact ⟨.none⟩ | exact ⟨⟨0, 0, 0, 0⟩⟩ | refine ne_prod ?_ ?_)) ?_; apply (?f8f _ _ _ _ _ _); (try any_goals exact default); intros news b i tb ti t10; refine Bx.mk ?_
  intro B F X N T hck hd9 hu9 hb h0 hret
  obtain ⟨h2, h3⟩ := h0
  have hbz := hb.1
  refine wpAny_call ?_
  k_dflt cell_enter
  k_steps
  refine Stop.mk ?_
  (rename Fr _ _ _ _ => lF'); (rename News _ _ _ _ => lN')
  refine While_ofN [Str.ofString "found", Str.ofString "at", Str.ofString "digit"] (fun n g nw => ∃ (k : Nat) (tf ta : Tok), g (Str.ofString "found") = some (.int (numOf (((KBw.bInts b).drop i.toNat).take k)) tf) ∧ g (Str.ofString "at") = some (.int (i + k) ta) ∧ nw = news ∧ k ≤ ((KBw.bInts b).drop i.toNat).length ∧ n = ((KBw.bInts b).drop i.toNat).length - k ∧ ∀ x ∈ ((KBw.bInts b).drop i.toNat).take k, isDig x = true) (n₀ := ((KBw.bInts b).drop i.toNat).length) lF' lN' ⟨0, _, ti, rfl, by rw [show i + ((0 : Nat) : Int) = i by omega]; rfl, rfl, Nat.zero_le _, rfl, by simp⟩ ?turn
  clear lF' lN'
  intro n g nw h₁ tk₁ F1 N1 hj
  obtain ⟨k, tf, ta, e1, e2, rfl, hk, rfl, ha⟩ := hj
  revert k tf ta
  refine (?k9k : KB3 ?f9f); refine ep3 (by repeat' (first | infer_instance | exact ne_world | exact ne_shared | exact ne_around | exact ⟨.none⟩ | exact ⟨⟨0, 0, 0, 0⟩⟩ | refine ne_prod ?_ ?_)) ?_; apply (?f9f _ _ _); (try any_goals exact default); intros k tf ta; refine Bx.mk ?_
  set_option tactic.hygienic false in intros
  simp only [over, e1, e2] at F1
  have hnn : 0 ≤ i + (k : Int) := by omega
  k_steps
  all_goals first
    | (have hd := dig_yes (c := cB b (i + k)) (by assumption) (by omega) (by omega)
       have ht := digs_turn h2 h3 (by assumption) ha hd
       refine wstep_next (by k_asm) (by k_asm) (by omega) (by repeat (first | exact fun _ _ => rfl | refine keep_if (by k_mem) ?_)) ⟨k + 1, _, _, by rw [← ht.2.1]; rfl, by rw [show i + ((k + 1 : Nat) : Int) = i + k + 1 by omega]; rfl, rfl, ht.1, rfl, ht.2.2⟩)
    | (have he := digs_end h2 h3 hk ha (by first | (left; assumption) | (right; exact dig_no (by first | (left; assumption) | (right; assumption) | omega)))
       (rename News h₀ L _ _ => lN)
       rw [he.1, he.2] at lN
       refine hret _ _ _ _ _ ?_ (by k_asm) lN
       assumption)

theorem rows_C1t_5 : True := by
  k_with "call ref" => (k_here; k_dflt (refine' read_digits_ok _ _ _ _ _ _ _ _ _ _ _ _ _ _ _ _ _ _ _ _ _ _ _ _ _ _ _ _ _ ?kB ?kF ?kX ?kN ?kT ?kK ?kd ?ku ?q0 ?q1 ?_; (case kB => k_asm); (case kF => k_asm); (case kX => k_asm); (case kN => k_asm); (case kT => k_asm); (case kK => first | exact rfl | assumption); (case kd => ktr_room); (case ku => ktr_units); (case q0 => assumption); (case q1 => first | assumption | omega); k_whole); intro T_z t1_z t2_z h'_z tk'_z hlt_z F'_z N'_z; (try k_sweep); (try k_lt hlt_z))
  trivial
end Mine
end
section
namespace Mine

theorem rows_C1u_1 : True := by
  k_with_none
  k_with "EP" => (k_whole; fail_if_success (fail_if_success (rename Below _ _ _ _ => b9_z)))
  k_with "call ref" => (k_here; k_dflt (refine' wrap_ok _ _ _ _ _ _ _ _ _ _ _ _ _ _ _ _ _ _ _ _ _ _ _ _ _ _ _ _ ?kB ?kF ?kX ?kN ?kT ?kK ?kd ?ku ?q0 ?q1 ?_; (case kB => k_asm); (case kF => k_asm); (case kX => k_asm); (case kN => k_asm); (case kT => k_asm); (case kK => first | exact rfl | assumption); (case kd => ktr_room); (case ku => ktr_units); (case q0 => first | assumption | omega); (case q1 => first | assumption | omega); k_whole); intro t_z h'_z tk'_z  F'_z N'_z; (try k_sweep))
  k_with "call ref" => (k_here; k_dflt (refine' skip_ok _ _ _ _ _ _ _ _ _ _ _ _ _ _ _ _ _ _ _ _ _ _ _ _ _ _ _ _ ?kB ?kF ?kX ?kN ?kT ?kK ?kd ?ku ?q0 ?q1 ?_; (case kB => k_asm); (case kF => k_asm); (case kX => k_asm); (case kN => k_asm); (case kT => k_asm); (case kK => first | exact rfl | assumption); (case kd => ktr_room); (case ku => ktr_units); (case q0 => assumption); (case q1 => first | assumption | omega); k_whole); intro t_z h'_z tk'_z  F'_z N'_z; (try k_sweep))
  k_with "call ref" => (k_here; k_dflt (refine' read_digits_ok _ _ _ _ _ _ _ _ _ _ _ _ _ _ _ _ _ _ _ _ _ _ _ _ _ _ _ _ _ ?kB ?kF ?kX ?kN ?kT ?kK ?kd ?ku ?q0 ?q1 ?_; (case kB => k_asm); (case kF => k_asm); (case kX => k_asm); (case kN => k_asm); (case kT => k_asm); (case kK => first | exact rfl | assumption); (case kd => ktr_room); (case ku => ktr_units); (case q0 => assumption); (case q1 => first | assumption | omega); k_whole); intro T_z t1_z t2_z h'_z tk'_z hlt_z F'_z N'_z; (try k_sweep); (try k_lt hlt_z))
  k_with "call builtin:len" => (k_here; (with_reducible show wpAny _ _ (call (Value.builtin "len") [Value.bytes _ _]) _ _ _); k_dflt (refine len_ok (by assumption) ?_))
  k_with "subscriptTail" => (k_here; (with_reducible show wpAny _ _ (subscriptTail _ _ (Value.bytes _ _) (Value.int _ _)) _ _ _); k_dflt (refine item_ok (by assumption) (by omega) (by omega) ?_); intro _ _ _)
  k_with "compareOp In int bytes" => (k_here; (with_reducible first | refine in_sign (by assumption) ?_ | refine in_hex (by assumption) ?_))
  k_with "getAttr ref" => (k_here; k_dflt (refine' get_own ?k1 ?k2 ?k3 ?k4 ?k5 ?k6 ?k7 ?k8 ?k9 ?_; (case k1 => k_asm); (case k2 => k_asm); (case k3 => k_inst); (case k4 => k_is); (case k5 => k_is); (case k6 => k_is); (case k7 => k_is); (case k8 => assumption); (case k9 => k_handed); k_whole))
  trivial
local macro_rules | `(tactic| k_mem) => `(tactic| first | assumption | (refine mem_of ?_; assumption))
theorem rows_C1u_2 : True := by
  k_with "exec If" => ((with_reducible show wpAny _ _ (exec (Stmt.If (PySem.Expr.BoolOp BoolOp.And [PySem.Expr.Compare _ _ _ _, _] _) _ _ _) _) _ _ _); refine Stop.un ?_)
  k_with "eval BoolOp" => ((with_reducible show wpAny _ _ (eval (PySem.Expr.BoolOp BoolOp.And [_, _, _, _] _) _) _ _ _); refine Stop.un ?_)
  trivial
theorem text_in_base_ok : ∀ (w : World) (p : Program) (loose : List Str) (mean : ExcName → Option Value) (mg mb : Str → Option Value) (dp un : Nat) (gd : Option (List Code)) (cn : Str) (cs : Scope) (a : Addr) (ccd : Value) (cl : List (Str × Addr)) (outer : List Env) (A₀ : Around) (base h₀ : Heap) (L : Addr) (m : Str → Option Value) (s : Shared) (Q E : Value → Shared → Prop) (news : List (Addr × Obj)) (b : Array UInt8) (tb t0 : Tok) (lm dl : Addr) (es : List DictEntry) (ne : Nat) (wd : Int) (tw : Tok), Below A₀ base outer h₀ → Fr h₀ L s.heap m → (Kf w.params).In h₀ → News h₀ L s.heap (news) → Top p loose mean mg mb h₀ → cs.kind = .function → dp + 3 < recursionLimit → un + 24 < cLine → (okB b) → ((lm, instObj 95 dl) ∈ news) → ((dl, dictOf es ne) ∈ news) → (getL (Str.ofString "width") es = some (some (.int wd tw))) → (1 ≤ wd ∧ wd ≤ 64) → (∀ (r : Value) (h' : Heap) (tk' : Nat), (OI (parseB b wd) r) → Fr h₀ L h' m → News h₀ L h' (news) → Q (r) { s with heap := h', toks := tk' }) → wpAny (model PySem.Challenge.rw_pc0174_01.row.prog w) (ktrTop dp un gd cn cs L a ccd cl outer) (call (.ref 223) [.bytes b tb, .int 0 t0, .ref lm]) Q E s := by
  k_fill
  refine (?k1k : KBcx ?f1f); refine ep_cx ?_; apply (?f1f _ _ _ _ _ _ _ _ _ _ _ _ _ _ _ _ _ _ _ _ _ _ _); (try any_goals exact default); intros w p loose mean mg mb dp un gd cn cs a ccd cl outer A₀ base h₀ L m s Q E; refine Bx.mk ?_
  refine (?k2k : KB10 ?f2f); refine ep10 (by repeat' (first | infer_instance | exact ne_world | exact ne_shared | exact ne_around | exact ⟨.none⟩ | exact ⟨⟨0, 0, 0, 0⟩⟩ | refine ne_prod ?_ ?_)) ?_; apply (?f2f _ _ _ _ _ _ _ _ _ _); (try any_goals exact default); intros news b tb t0 lm dl es ne wd tw; refine Bx.mk ?_
  intro B F X N T hck hd9 hu9 hb hlm hdl hes hw hret
  have hbz := hb.1
  have hsb := sign_bd b
  have hdg := digs_len (b := b) (i := signAt b) hsb.1 hsb.2.2
  obtain ⟨hs0, hs1, hs2⟩ := hsb
  refine wpAny_call ?_
  k_dflt cell_enter
  k_steps
  refine Stop.mk ?_
  (rename Fr _ _ _ _ => lF'); (rename News _ _ _ _ => lN')
  refine cut_two (τ := Tok) Flow.next (Str.ofString "at") (Str.ofString "is_below") (fun x => some (.int (signAt b) x)) (fun _ => some (.bool (decide (signAt b = 1)))) lF' lN' ?c1 ?c2
  case c1 =>
    refine wpAny_If ?_
    k_steps
    all_goals ((rename Fr _ _ _ _ => lF); (rename News _ _ _ _ => lN))
    · have hs := sign_yes (b := b) (by assumption) (by assumption)
      rw [hs]
      exact CutT.two _ lF lN fun y => by rw [‹cB b 0 = 45›]; rfl
    all_goals
      (have hs := sign_no (b := b) (by first | (left; assumption) | (right; assumption))
       rw [hs]
       exact CutT.same _ lF lN rfl rfl)
  case c2 =>
    clear lF' lN'
    intro x h tk lF' lN'
    k_steps
    refine Stop.mk ?_
    refine cut_none (Value.bool false) lF' lN' ?d1 ?d2
    case d1 =>
      refine BoolOp_and ?_
      k_steps
      all_goals ((rename Fr _ _ _ _ => lF); (rename News _ _ _ _ => lN); first | exact CutT.none lF lN | exact CutT.noneB (decide_eq_false (by assumption)) lF lN | exact CutT.noneB (beq_eq_false_iff_ne.mpr (by assumption)) lF lN)
    case d2 =>
      clear lF' lN'
      intro h tk lF' lN'
      k_steps
      all_goals (rename News h₀ L _ _ => lN)
      · refine hret _ _ _ ?_ (by k_asm) (news_tl (news_tl lN))
        rw [parse_none1 (by assumption)]
        rfl
      · refine hret _ _ _ ?_ (by k_asm) (news_tl (news_tl lN))
        rw [parse_none2 (by assumption)]
        rfl
      all_goals
        (refine hret _ _ _ ?_ (by k_asm) (news_tl (news_tl lN))
         rw [parse_some (by assumption) (by assumption)])
      · rw [if_pos (by assumption)]
        exact ⟨_, rfl⟩
      · rw [if_neg (by assumption)]
        exact ⟨_, rfl⟩

theorem rows_C1u_3 : True := by
  k_with "call ref" => (k_here; k_dflt (refine' text_in_base_ok _ _ _ _ _ _ _ _ _ _ _ _ _ _ _ _ _ _ _ _ _ _ _ _ _ _ _ _ _ _ _ _ _ ?kB ?kF ?kX ?kN ?kT ?kK ?kd ?ku ?q0 ?q1 ?q2 ?q3 ?q4 ?_; (case kB => k_asm); (case kF => k_asm); (case kX => k_asm); (case kN => k_asm); (case kT => k_asm); (case kK => first | exact rfl | assumption); (case kd => ktr_room); (case ku => ktr_units); (case q0 => assumption); (case q1 => k_mem); (case q2 => k_mem); (case q3 => assumption); (case q4 => assumption); k_whole); intro r_z h'_z tk'_z hr_z F'_z N'_z; (try k_sweep))
  trivial
end Mine
end
section
namespace Mine

theorem rows_C1p_1 : True := by
  k_with_none
  k_with "EP" => (k_whole; fail_if_success (fail_if_success (rename Below _ _ _ _ => b9_z)))
  k_with "call ref" => (k_here; k_dflt (refine' wrap_ok _ _ _ _ _ _ _ _ _ _ _ _ _ _ _ _ _ _ _ _ _ _ _ _ _ _ _ _ ?kB ?kF ?kX ?kN ?kT ?kK ?kd ?ku ?q0 ?q1 ?_; (case kB => k_asm); (case kF => k_asm); (case kX => k_asm); (case kN => k_asm); (case kT => k_asm); (case kK => first | exact rfl | assumption); (case kd => ktr_room); (case ku => ktr_units); (case q0 => first | assumption | omega); (case q1 => first | assumption | omega); k_whole); intro t_z h'_z tk'_z  F'_z N'_z; (try k_sweep))
  k_with "call ref" => (k_here; k_dflt (refine' divide_ok _ _ _ _ _ _ _ _ _ _ _ _ _ _ _ _ _ _ _ _ _ _ _ _ _ _ _ _ ?kB ?kF ?kX ?kN ?kT ?kK ?kd ?ku ?q0 ?q1 ?_; (case kB => k_asm); (case kF => k_asm); (case kX => k_asm); (case kN => k_asm); (case kT => k_asm); (case kK => first | exact rfl | assumption); (case kd => ktr_room); (case ku => ktr_units); (case q0 => first | assumption | omega); (case q1 => assumption); k_whole); intro t_z h'_z tk'_z  F'_z N'_z; (try k_sweep))
  k_with "exec While" => (refine Stop.un ?_)
  k_with "binaryOp Mult int int" => (k_here; k_dflt (refine mul_int ?_ (IntMulOk.of_left (by assumption))))
  trivial
theorem power_ok : ∀ (w : World) (p : Program) (loose : List Str) (mean : ExcName → Option Value) (mg mb : Str → Option Value) (dp un : Nat) (gd : Option (List Code)) (cn : Str) (cs : Scope) (a : Addr) (ccd : Value) (cl : List (Str × Addr)) (outer : List Env) (A₀ : Around) (base h₀ : Heap) (L : Addr) (m : Str → Option Value) (s : Shared) (Q E : Value → Shared → Prop) (news : List (Addr × Obj)) (x y wd : Int) (tx ty tw : Tok), Below A₀ base outer h₀ → Fr h₀ L s.heap m → (Kf w.params).In h₀ → News h₀ L s.heap (news) → Top p loose mean mg mb h₀ → cs.kind = .function → dp + 2 < recursionLimit → un + 16 < cLine → (¬ (x = 0 ∧ y < 0)) → (1 ≤ wd ∧ wd ≤ 64) → (-(2 ^ 29) < y ∧ y < 2 ^ 29) → (Builtin.Int.intBits x ≤ 64) → (∀ (t : Tok) (h' : Heap) (tk' : Nat), Fr h₀ L h' m → News h₀ L h' (news) → Q (.int (powW x y wd) t) { s with heap := h', toks := tk' }) → wpAny (model PySem.Challenge.rw_pc0174_01.row.prog w) (ktrTop dp un gd cn cs L a ccd cl outer) (call (.ref 174) [.int x tx, .int y ty, .int wd tw]) Q E s := by
  k_fill
  refine (?k1k : KBcx ?f1f); refine ep_cx ?_; apply (?f1f _ _ _ _ _ _ _ _ _ _ _ _ _ _ _ _ _ _ _ _ _ _ _); (try any_goals exact default); intros w p loose mean mg mb dp un gd cn cs a ccd cl outer A₀ base h₀ L m s Q E; refine Bx.mk ?_
  refine (?k2k : KB7 ?f2f); refine ep7 (by repeat' (first | infer_instance | exact ne_world | exact ne_shared | exact ne_around | exact ⟨.none⟩ | exact ⟨⟨0, 0, 0, 0⟩⟩ | refine ne_prod ?_ ?_)) ?_; apply (?f2f _ _ _ _ _ _ _); (try any_goals exact default); intros news x y wd tx ty tw; refine Bx.mk ?_
  intro B F X N T hck hd9 hu9 h0 h1 hb hxb hret
  obtain ⟨hb0, hb1⟩ := hb
  obtain ⟨hw0, hw1⟩ := h1
  have hfm := fmodK y 2 (by decide)
  refine wpAny_call ?_
  k_dflt cell_enter
  k_steps
  all_goals first
    | (exfalso; omega)
    | (refine q_int ?_ (hret _ _ _ (by k_asm) (by k_asm)); unfold powW; (repeat' split) <;> first | rfl | omega)
    | skip
  refine Stop.mk ?_
  (rename Fr _ _ _ _ => lF'); (rename News _ _ _ _ => lN')
  refine While_ofN [Str.ofString "found", Str.ofString "base", Str.ofString "b"] (fun n g nw => ∃ (f bs b : Int) (tf tb t : Tok), g (Str.ofString "found") = some (.int f tf) ∧ g (Str.ofString "base") = some (.int bs tb) ∧ g (Str.ofString "b") = some (.int b t) ∧ nw = _ ∧ Builtin.Int.intBits f ≤ 64 ∧ Builtin.Int.intBits bs ≤ 64 ∧ 0 ≤ b ∧ b < 2 ^ 29 ∧ n = b.toNat ∧ wrapW (f * bs ^ b.toNat) wd = powW x y wd) lF' lN' ⟨1, x, y, _, _, _, rfl, rfl, rfl, rfl, by decide, hxb, by omega, hb1, rfl, by unfold powW; rw [if_neg (by assumption), Int.one_mul]⟩ ?turn
  clear lF' lN'
  intro n g nw h₁ tk₁ F1 N1 hj
  obtain ⟨f, bs, b, tf, tb, t, e1, e2, e3, rfl, hfb, hbb, hb2, hb3, rfl, hinv⟩ := hj
  revert f bs b tf tb t
  refine (?k3k : KB6 ?f3f); refine ep6 (by repeat' (first | infer_instance | exact ne_world | exact ne_shared | exact ne_around | exact ⟨.none⟩ | exact ⟨⟨0, 0, 0, 0⟩⟩ | refine ne_prod ?_ ?_)) ?_; apply (?f3f _ _ _ _ _ _); (try any_goals exact default); intros f bs b tf tb t; refine Bx.mk ?_
  set_option tactic.hygienic false in intros
  simp only [over, e1, e2, e3] at F1
  have hfb2 := fmodK b 2 (by decide)
  have hst := half_less (b := b)
  k_steps
  · refine wstep_next (by k_asm) (by k_asm) (hst (by assumption)).1 (by repeat (first | exact fun _ _ => rfl | refine keep_if (by k_mem) ?_)) ⟨_, _, _, _, _, _, rfl, rfl, rfl, rfl, wrapW_bits hw0 hw1, wrapW_bits hw0 hw1, (hst (by assumption)).2.1, Int.lt_of_le_of_lt (hst (by assumption)).2.2 hb3, rfl, (pow_odd_step (by assumption) (by omega)).trans hinv⟩
  · refine wstep_next (by k_asm) (by k_asm) (hst (by assumption)).1 (by repeat (first | exact fun _ _ => rfl | refine keep_if (by k_mem) ?_)) ⟨_, _, _, _, _, _, rfl, rfl, rfl, rfl, hfb, wrapW_bits hw0 hw1, (hst (by assumption)).2.1, Int.lt_of_le_of_lt (hst (by assumption)).2.2 hb3, rfl, (pow_even_step (by assumption) (by omega)).trans hinv⟩
  · (rename News h₀ L _ _ => lN)
    exact q_int (by rw [← hinv, show b = 0 by omega]; simp) (hret _ _ _ (by k_asm) (news_tl lN))

theorem rows_C1p_2 : True := by
  k_with "call ref" => (k_here; k_dflt (refine' power_ok _ _ _ _ _ _ _ _ _ _ _ _ _ _ _ _ _ _ _ _ _ _ _ _ _ _ _ _ _ _ ?kB ?kF ?kX ?kN ?kT ?kK ?kd ?ku ?q0 ?q1 ?q2 ?q3 ?_; (case kB => k_asm); (case kF => k_asm); (case kX => k_asm); (case kN => k_asm); (case kT => k_asm); (case kK => first | exact rfl | assumption); (case kd => ktr_room); (case ku => ktr_units); (case q0 => first | assumption | omega); (case q1 => assumption); (case q2 => assumption); (case q3 => assumption); k_whole); intro t_z h'_z tk'_z  F'_z N'_z; (try k_sweep))
  trivial
end Mine
end
section
namespace Mine

theorem rows_C1q_1 : True := by
  k_with_none
  k_with "EP" => (k_whole; fail_if_success (fail_if_success (rename Below _ _ _ _ => b9_z)))
  k_with "call ref" => (k_here; k_dflt (refine' wrap_ok _ _ _ _ _ _ _ _ _ _ _ _ _ _ _ _ _ _ _ _ _ _ _ _ _ _ _ _ ?kB ?kF ?kX ?kN ?kT ?kK ?kd ?ku ?q0 ?q1 ?_; (case kB => k_asm); (case kF => k_asm); (case kX => k_asm); (case kN => k_asm); (case kT => k_asm); (case kK => first | exact rfl | assumption); (case kd => ktr_room); (case ku => ktr_units); (case q0 => first | assumption | omega); (case q1 => first | assumption | omega); k_whole); intro t_z h'_z tk'_z  F'_z N'_z; (try k_sweep))
  k_with "call ref" => (k_here; k_dflt (refine' divide_ok _ _ _ _ _ _ _ _ _ _ _ _ _ _ _ _ _ _ _ _ _ _ _ _ _ _ _ _ ?kB ?kF ?kX ?kN ?kT ?kK ?kd ?ku ?q0 ?q1 ?_; (case kB => k_asm); (case kF => k_asm); (case kX => k_asm); (case kN => k_asm); (case kT => k_asm); (case kK => first | exact rfl | assumption); (case kd => ktr_room); (case ku => ktr_units); (case q0 => first | assumption | omega); (case q1 => assumption); k_whole); intro t_z h'_z tk'_z  F'_z N'_z; (try k_sweep))
  k_with "call ref" => (k_here; k_dflt (refine' power_ok _ _ _ _ _ _ _ _ _ _ _ _ _ _ _ _ _ _ _ _ _ _ _ _ _ _ _ _ _ _ ?kB ?kF ?kX ?kN ?kT ?kK ?kd ?ku ?q0 ?q1 ?q2 ?q3 ?_; (case kB => k_asm); (case kF => k_asm); (case kX => k_asm); (case kN => k_asm); (case kT => k_asm); (case kK => first | exact rfl | assumption); (case kd => ktr_room); (case ku => ktr_units); (case q0 => first | assumption | omega); (case q1 => assumption); (case q2 => assumption); (case q3 => assumption); k_whole); intro t_z h'_z tk'_z  F'_z N'_z; (try k_sweep))
  k_with "binaryOp Mult int int" => (k_here; k_dflt (refine mul_int ?_ (IntMulOk.of_left (by assumption))))
  k_with "getAttr ref" => (k_here; k_dflt (refine' get_own ?k1 ?k2 ?k3 ?k4 ?k5 ?k6 ?k7 ?k8 ?k9 ?_; (case k1 => k_asm); (case k2 => k_asm); (case k3 => k_inst); (case k4 => k_is); (case k5 => k_is); (case k6 => k_is); (case k7 => k_is); (case k8 => assumption); (case k9 => k_handed); k_whole))
  trivial
theorem arith_ok : ∀ (w : World) (p : Program) (loose : List Str) (mean : ExcName → Option Value) (mg mb : Str → Option Value) (dp un : Nat) (gd : Option (List Code)) (cn : Str) (cs : Scope) (a : Addr) (ccd : Value) (cl : List (Str × Addr)) (outer : List Env) (A₀ : Around) (base h₀ : Heap) (L : Addr) (m : Str → Option Value) (s : Shared) (Q E : Value → Shared → Prop) (news : List (Addr × Obj)) (k : Nat) (x y wd : Int) (tk tx ty tw : Tok) (lm dl : Addr) (es : List DictEntry) (ne : Nat), Below A₀ base outer h₀ → Fr h₀ L s.heap m → (Kf w.params).In h₀ → News h₀ L s.heap (news) → Top p loose mean mg mb h₀ → cs.kind = .function → dp + 3 < recursionLimit → un + 24 < cLine → (k < 7) → ((k = 3 ∨ k = 4) → y ≠ 0) → (k = 5 → ¬ (x = 0 ∧ y < 0)) → (-(2 ^ 29) < y ∧ y < 2 ^ 29) → (Builtin.Int.intBits x ≤ 64) → ((lm, instObj 95 dl) ∈ news) → ((dl, dictOf es ne) ∈ news) → (getL (Str.ofString "width") es = some (some (.int wd tw))) → (1 ≤ wd ∧ wd ≤ 64) → (∀ (t : Tok) (h' : Heap) (tk' : Nat), Fr h₀ L h' m → News h₀ L h' (news) → Q (.int (arithW k x y wd) t) { s with heap := h', toks := tk' }) → wpAny (model PySem.Challenge.rw_pc0174_01.row.prog w) (ktrTop dp un gd cn cs L a ccd cl outer) (call (.ref 181) [.bytes (recName k) tk, .int x tx, .int y ty, .ref lm]) Q E s := by
  k_fill
  refine (?k1k : KBcx ?f1f); refine ep_cx ?_; apply (?f1f _ _ _ _ _ _ _ _ _ _ _ _ _ _ _ _ _ _ _ _ _ _ _); (try any_goals exact default); intros w p loose mean mg mb dp un gd cn cs a ccd cl outer A₀ base h₀ L m s Q E; refine Bx.mk ?_
  refine (?k2k : KB13 ?f2f); refine ep13 (by repeat' (first | infer_instance | exact ne_world | exact ne_shared | exact ne_around | exact ⟨.none⟩ | exact ⟨⟨0, 0, 0, 0⟩⟩ | refine ne_prod ?_ ?_)) ?_; apply (?f2f _ _ _ _ _ _ _ _ _ _ _ _ _); (try any_goals exact default); intros news k x y wd tk tx ty tw lm dl es ne; refine Bx.mk ?_
  intro B F X N T hck hd9 hu9 hk hz hp hy hxb hlm hdl hes hw hret
  rcases (show k = 0 ∨ k = 1 ∨ k = 2 ∨ k = 3 ∨ k = 4 ∨ k = 5 ∨ k = 6 by omega) with rfl | rfl | rfl | rfl | rfl | rfl | rfl
  all_goals (try (have hz := hz (by decide)))
  all_goals (try (have hp := hp rfl))
  all_goals simp only [recName, arithW] at hret ⊢
  all_goals (refine wpAny_call ?_; k_dflt cell_enter; k_steps)
  all_goals first | exact hret _ _ _ (by k_asm) (by k_asm) | (exfalso; omega) | skip
theorem rows_C1q_2 : True := by
  k_with "call ref" => (k_here; k_dflt (refine' arith_ok _ _ _ _ _ _ _ _ _ _ _ _ _ _ _ _ _ _ _ _ _ _ _ _ _ _ _ _ _ _ _ _ _ _ _ _ ?kB ?kF ?kX ?kN ?kT ?kK ?kd ?ku ?q0 ?q1 ?q2 ?q3 ?q4 ?q5 ?q6 ?q7 ?q8 ?_; (case kB => k_asm); (case kF => k_asm); (case kX => k_asm); (case kN => k_asm); (case kT => k_asm); (case kK => first | exact rfl | assumption); (case kd => ktr_room); (case ku => ktr_units); (case q0 => first | assumption | omega); (case q1 => first | assumption | exact noRes_z (by assumption)); (case q2 => first | assumption | exact noRes_p (by assumption)); (case q3 => first | assumption | exact (num_arg (by assumption)).1); (case q4 => first | assumption | exact (num_arg (by assumption)).2); (case q5 => k_mem); (case q6 => k_mem); (case q7 => assumption); (case q8 => assumption); k_whole); intro t_z h'_z tk'_z  F'_z N'_z; (try k_sweep))
  trivial
end Mine
end
section
namespace Mine

theorem rows_C1v_1 : True := by
  k_with_none
  k_with "EP" => (k_whole; fail_if_success (fail_if_success (rename Below _ _ _ _ => b9_z)))
  k_with "call ref" => (k_here; k_dflt (refine' text_in_base_ok _ _ _ _ _ _ _ _ _ _ _ _ _ _ _ _ _ _ _ _ _ _ _ _ _ _ _ _ _ _ _ _ _ ?kB ?kF ?kX ?kN ?kT ?kK ?kd ?ku ?q0 ?q1 ?q2 ?q3 ?q4 ?_; (case kB => k_asm); (case kF => k_asm); (case kX => k_asm); (case kN => k_asm); (case kT => k_asm); (case kK => first | exact rfl | assumption); (case kd => ktr_room); (case ku => ktr_units); (case q0 => assumption); (case q1 => k_mem); (case q2 => k_mem); (case q3 => assumption); (case q4 => assumption); k_whole); intro r_z h'_z tk'_z hr_z F'_z N'_z; (try k_sweep))
  trivial
local macro_rules | `(tactic| k_mem) => `(tactic| first | assumption | (refine mem_of ?_; assumption))
theorem is_number_ok : ∀ (w : World) (p : Program) (loose : List Str) (mean : ExcName → Option Value) (mg mb : Str → Option Value) (dp un : Nat) (gd : Option (List Code)) (cn : Str) (cs : Scope) (a : Addr) (ccd : Value) (cl : List (Str × Addr)) (outer : List Env) (A₀ : Around) (base h₀ : Heap) (L : Addr) (m : Str → Option Value) (s : Shared) (Q E : Value → Shared → Prop) (news : List (Addr × Obj)) (x : RV) (v : Value), Below A₀ base outer h₀ → Fr h₀ L s.heap m → (Kf w.params).In h₀ → News h₀ L s.heap (news) → Top p loose mean mg mb h₀ → cs.kind = .function → dp + 1 < recursionLimit → un + 8 < cLine → (x.Is v) → (∀  (h' : Heap) (tk' : Nat), Fr h₀ L h' m → News h₀ L h' (news) → Q (.bool (isIntR x)) { s with heap := h', toks := tk' }) → wpAny (model PySem.Challenge.rw_pc0174_01.row.prog w) (ktrTop dp un gd cn cs L a ccd cl outer) (call (.ref 146) [v]) Q E s := by
  k_fill
  refine (?k1k : KBcx ?f1f); refine ep_cx ?_; apply (?f1f _ _ _ _ _ _ _ _ _ _ _ _ _ _ _ _ _ _ _ _ _ _ _); (try any_goals exact default); intros w p loose mean mg mb dp un gd cn cs a ccd cl outer A₀ base h₀ L m s Q E; refine Bx.mk ?_
  refine (?k2k : KB3 ?f2f); refine ep3 (by repeat' (first | infer_instance | exact ne_world | exact ne_shared | exact ne_around | exact ⟨.none⟩ | exact ⟨⟨0, 0, 0, 0⟩⟩ | refine ne_prod ?_ ?_)) ?_; apply (?f2f _ _ _); (try any_goals exact default); intros news x v; refine Bx.mk ?_
  intro B F X N T hck hd9 hu9 hx hret
  rcases x with _ | b9 | b9 | b9 <;> simp only [RV.Is] at hx <;> (try obtain ⟨t1, rfl⟩ := hx) <;> (try subst hx)
  all_goals ((try revert hret); (try revert hv); (first | (revert b9 t1; intro b9 t1) | (revert b9; intro b9) | skip); (set_option tactic.hygienic false in intros))
  all_goals (refine wpAny_call ?_; k_dflt cell_enter; k_steps)
  all_goals (exact hret _ _ (by k_asm) (by k_asm))
theorem rows_C1v_2 : True := by
  k_with "call ref" => (k_here; k_dflt (refine' is_number_ok _ _ _ _ _ _ _ _ _ _ _ _ _ _ _ _ _ _ _ _ _ _ _ _ _ _ ?kB ?kF ?kX ?kN ?kT ?kK ?kd ?ku ?q0 ?_; (case kB => k_asm); (case kF => k_asm); (case kX => k_asm); (case kN => k_asm); (case kT => k_asm); (case kK => first | exact rfl | assumption); (case kd => ktr_room); (case ku => ktr_units); (case q0 => first | assumption | exact Is_none | exact Is_bool _ | exact Is_int _ _ | exact Is_bytes _ _ | exact RVs.getD _ (by assumption)); k_whole); intro  h'_z tk'_z  F'_z N'_z; (try k_sweep); (try dsimp only [isIntR]))
  trivial
theorem str_to_number_ok : ∀ (w : World) (p : Program) (loose : List Str) (mean : ExcName → Option Value) (mg mb : Str → Option Value) (dp un : Nat) (gd : Option (List Code)) (cn : Str) (cs : Scope) (a : Addr) (ccd : Value) (cl : List (Str × Addr)) (outer : List Env) (A₀ : Around) (base h₀ : Heap) (L : Addr) (m : Str → Option Value) (s : Shared) (Q E : Value → Shared → Prop) (news : List (Addr × Obj)) (b : Array UInt8) (tb : Tok) (lm dl : Addr) (es : List DictEntry) (ne : Nat) (wd : Int) (tw : Tok), Below A₀ base outer h₀ → Fr h₀ L s.heap m → (Kf w.params).In h₀ → News h₀ L s.heap (news) → Top p loose mean mg mb h₀ → cs.kind = .function → dp + 4 < recursionLimit → un + 32 < cLine → (okB b) → ((lm, instObj 95 dl) ∈ news) → ((dl, dictOf es ne) ∈ news) → (getL (Str.ofString "width") es = some (some (.int wd tw))) → (1 ≤ wd ∧ wd ≤ 64) → (∀ (r : Value) (h' : Heap) (tk' : Nat), (OI (parseB b wd) r) → Fr h₀ L h' m → News h₀ L h' (news) → Q (r) { s with heap := h', toks := tk' }) → wpAny (model PySem.Challenge.rw_pc0174_01.row.prog w) (ktrTop dp un gd cn cs L a ccd cl outer) (call (.ref 216) [.bytes b tb, .ref lm]) Q E s := by
  k_fill
  refine (?k3k : KBcx ?f3f); refine ep_cx ?_; apply (?f3f _ _ _ _ _ _ _ _ _ _ _ _ _ _ _ _ _ _ _ _ _ _ _); (try any_goals exact default); intros w p loose mean mg mb dp un gd cn cs a ccd cl outer A₀ base h₀ L m s Q E; refine Bx.mk ?_
  refine (?k4k : KB9 ?f4f); refine ep9 (by repeat' (first | infer_instance | exact ne_world | exact ne_shared | exact ne_around | exact ⟨.none⟩ | exact ⟨⟨0, 0, 0, 0⟩⟩ | refine ne_prod ?_ ?_)) ?_; apply (?f4f _ _ _ _ _ _ _ _ _); (try any_goals exact default); intros news b tb lm dl es ne wd tw; refine Bx.mk ?_
  intro B F X N T hck hd9 hu9 hb hlm hdl hes hw hret
  refine wpAny_call ?_
  k_dflt cell_enter
  k_steps
  all_goals exact hret _ _ _ (by assumption) (by k_asm) (by k_asm)
theorem rows_C1v_3 : True := by
  k_with "call ref" => (k_here; k_dflt (refine' str_to_number_ok _ _ _ _ _ _ _ _ _ _ _ _ _ _ _ _ _ _ _ _ _ _ _ _ _ _ _ _ _ _ _ _ ?kB ?kF ?kX ?kN ?kT ?kK ?kd ?ku ?q0 ?q1 ?q2 ?q3 ?q4 ?_; (case kB => k_asm); (case kF => k_asm); (case kX => k_asm); (case kN => k_asm); (case kT => k_asm); (case kK => first | exact rfl | assumption); (case kd => ktr_room); (case ku => ktr_units); (case q0 => assumption); (case q1 => k_mem); (case q2 => k_mem); (case q3 => assumption); (case q4 => assumption); k_whole); intro r_z h'_z tk'_z hr_z F'_z N'_z; (try k_sweep))
  trivial
theorem to_number_ok : ∀ (w : World) (p : Program) (loose : List Str) (mean : ExcName → Option Value) (mg mb : Str → Option Value) (dp un : Nat) (gd : Option (List Code)) (cn : Str) (cs : Scope) (a : Addr) (ccd : Value) (cl : List (Str × Addr)) (outer : List Env) (A₀ : Around) (base h₀ : Heap) (L : Addr) (m : Str → Option Value) (s : Shared) (Q E : Value → Shared → Prop) (news : List (Addr × Obj)) (x : RV) (v : Value) (lm dl : Addr) (es : List DictEntry) (ne : Nat) (wd : Int) (tw : Tok), Below A₀ base outer h₀ → Fr h₀ L s.heap m → (Kf w.params).In h₀ → News h₀ L s.heap (news) → Top p loose mean mg mb h₀ → cs.kind = .function → dp + 5 < recursionLimit → un + 40 < cLine → (x.Is v) → (okV x) → ((lm, instObj 95 dl) ∈ news) → ((dl, dictOf es ne) ∈ news) → (getL (Str.ofString "width") es = some (some (.int wd tw))) → (1 ≤ wd ∧ wd ≤ 64) → (∀ (r : Value) (h' : Heap) (tk' : Nat), (OI (numRV x wd) r) → Fr h₀ L h' m → News h₀ L h' (news) → Q (r) { s with heap := h', toks := tk' }) → wpAny (model PySem.Challenge.rw_pc0174_01.row.prog w) (ktrTop dp un gd cn cs L a ccd cl outer) (call (.ref 230) [v, .ref lm]) Q E s := by
  k_fill
  refine (?k5k : KBcx ?f5f); refine ep_cx ?_; apply (?f5f _ _ _ _ _ _ _ _ _ _ _ _ _ _ _ _ _ _ _ _ _ _ _); (try any_goals exact default); intros w p loose mean mg mb dp un gd cn cs a ccd cl outer A₀ base h₀ L m s Q E; refine Bx.mk ?_
  refine (?k6k : KB9 ?f6f); refine ep9 (by repeat' (first | infer_instance | exact ne_world | exact ne_shared | exact ne_around | exact ⟨.none⟩ | exact ⟨⟨0, 0, 0, 0⟩⟩ | refine ne_prod ?_ ?_)) ?_; apply (?f6f _ _ _ _ _ _ _ _ _); (try any_goals exact default); intros news x v lm dl es ne wd tw; refine Bx.mk ?_
  intro B F X N T hck hd9 hu9 hx hv hlm hdl hes hw hret
  rcases x with _ | b9 | b9 | b9 <;> simp only [RV.Is] at hx <;> (try obtain ⟨t1, rfl⟩ := hx) <;> (try subst hx)
  all_goals ((try revert hret); (try revert hv); (first | (revert b9 t1; intro b9 t1) | (revert b9; intro b9) | skip); (set_option tactic.hygienic false in intros))
  all_goals (try (have hv' : okB _ := hv))
  all_goals (refine wpAny_call ?_; k_dflt cell_enter; k_steps)
  all_goals exact hret _ _ _ (by first | assumption | exact rfl | exact ⟨_, rfl⟩) (by k_asm) (by k_asm)
theorem rows_C1v_4 : True := by
  k_with "call ref" => (k_here; k_dflt (refine' to_number_ok _ _ _ _ _ _ _ _ _ _ _ _ _ _ _ _ _ _ _ _ _ _ _ _ _ _ _ _ _ _ _ _ ?kB ?kF ?kX ?kN ?kT ?kK ?kd ?ku ?q0 ?q1 ?q2 ?q3 ?q4 ?q5 ?_; (case kB => k_asm); (case kF => k_asm); (case kX => k_asm); (case kN => k_asm); (case kT => k_asm); (case kK => first | exact rfl | assumption); (case kd => ktr_room); (case ku => ktr_units); (case q0 => first | assumption | exact Is_none | exact Is_bool _ | exact Is_int _ _ | exact Is_bytes _ _ | exact RVs.getD _ (by assumption)); (case q1 => assumption); (case q2 => k_mem); (case q3 => k_mem); (case q4 => assumption); (case q5 => assumption); k_whole); intro r_z h'_z tk'_z hr_z F'_z N'_z; (try k_sweep))
  trivial
end Mine
end
section
namespace Mine

theorem rows_C1j_1 : True := by
  k_with_none
  k_with "EP" => (k_whole; fail_if_success (fail_if_success (rename Below _ _ _ _ => b9_z)))
  k_with "call ref" => (k_here; k_dflt (refine' is_number_ok _ _ _ _ _ _ _ _ _ _ _ _ _ _ _ _ _ _ _ _ _ _ _ _ _ _ ?kB ?kF ?kX ?kN ?kT ?kK ?kd ?ku ?q0 ?_; (case kB => k_asm); (case kF => k_asm); (case kX => k_asm); (case kN => k_asm); (case kT => k_asm); (case kK => first | exact rfl | assumption); (case kd => ktr_room); (case ku => ktr_units); (case q0 => first | assumption | exact Is_none | exact Is_bool _ | exact Is_int _ _ | exact Is_bytes _ _ | exact RVs.getD _ (by assumption)); k_whole); intro  h'_z tk'_z  F'_z N'_z; (try k_sweep); (try dsimp only [isIntR]))
  k_with "call ref" => (k_here; k_dflt (refine' number_text_ok _ _ _ _ _ _ _ _ _ _ _ _ _ _ _ _ _ _ _ _ _ _ _ _ _ _ ?kB ?kF ?kX ?kN ?kT ?kK ?kd ?ku ?q0 ?_; (case kB => k_asm); (case kF => k_asm); (case kX => k_asm); (case kN => k_asm); (case kT => k_asm); (case kK => first | exact rfl | assumption); (case kd => ktr_room); (case ku => ktr_units); (case q0 => first | assumption | (constructor <;> omega)); k_whole); intro t_z h'_z tk'_z  F'_z N'_z; (try k_sweep))
  trivial
local macro_rules | `(tactic| k_mem) => `(tactic| first | assumption | (refine mem_of ?_; assumption))
theorem to_text_ok : ∀ (w : World) (p : Program) (loose : List Str) (mean : ExcName → Option Value) (mg mb : Str → Option Value) (dp un : Nat) (gd : Option (List Code)) (cn : Str) (cs : Scope) (a : Addr) (ccd : Value) (cl : List (Str × Addr)) (outer : List Env) (A₀ : Around) (base h₀ : Heap) (L : Addr) (m : Str → Option Value) (s : Shared) (Q E : Value → Shared → Prop) (news : List (Addr × Obj)) (x : RV) (v : Value), Below A₀ base outer h₀ → Fr h₀ L s.heap m → (Kf w.params).In h₀ → News h₀ L s.heap (news) → Top p loose mean mg mb h₀ → cs.kind = .function → dp + 3 < recursionLimit → un + 24 < cLine → (x.Is v) → (okV x) → (∀ (r : Value) (h' : Heap) (tk' : Nat), (OB (textRV x) r) → Fr h₀ L h' m → News h₀ L h' (news) → Q (r) { s with heap := h', toks := tk' }) → wpAny (model PySem.Challenge.rw_pc0174_01.row.prog w) (ktrTop dp un gd cn cs L a ccd cl outer) (call (.ref 244) [v]) Q E s := by
  k_fill
  refine (?k1k : KBcx ?f1f); refine ep_cx ?_; apply (?f1f _ _ _ _ _ _ _ _ _ _ _ _ _ _ _ _ _ _ _ _ _ _ _); (try any_goals exact default); intros w p loose mean mg mb dp un gd cn cs a ccd cl outer A₀ base h₀ L m s Q E; refine Bx.mk ?_
  refine (?k2k : KB3 ?f2f); refine ep3 (by repeat' (first | infer_instance | exact ne_world | exact ne_shared | exact ne_around | exact ⟨.none⟩ | exact ⟨⟨0, 0, 0, 0⟩⟩ | refine ne_prod ?_ ?_)) ?_; apply (?f2f _ _ _); (try any_goals exact default); intros news x v; refine Bx.mk ?_
  intro B F X N T hck hd9 hu9 hx hv hret
  rcases x with _ | b9 | b9 | b9 <;> simp only [RV.Is] at hx <;> (try obtain ⟨t1, rfl⟩ := hx) <;> (try subst hx)
  all_goals ((try revert hret); (try revert hv); (first | (revert b9 t1; intro b9 t1) | (revert b9; intro b9) | skip); (set_option tactic.hygienic false in intros))
  all_goals (try have hv' := okV_int hv)
  all_goals (refine wpAny_call ?_; k_dflt cell_enter; k_steps)
  all_goals exact hret _ _ _ (by first | exact rfl | exact ⟨_, rfl⟩) (by k_asm) (by k_asm)
theorem rows_C1j_2 : True := by
  k_with "call ref" => (k_here; k_dflt (refine' to_text_ok _ _ _ _ _ _ _ _ _ _ _ _ _ _ _ _ _ _ _ _ _ _ _ _ _ _ ?kB ?kF ?kX ?kN ?kT ?kK ?kd ?ku ?q0 ?q1 ?_; (case kB => k_asm); (case kF => k_asm); (case kX => k_asm); (case kN => k_asm); (case kT => k_asm); (case kK => first | exact rfl | assumption); (case kd => ktr_room); (case ku => ktr_units); (case q0 => first | assumption | exact Is_none | exact Is_bool _ | exact Is_int _ _ | exact Is_bytes _ _ | exact RVs.getD _ (by assumption)); (case q1 => first | assumption | exact okV_getD (by assumption) _); k_whole); intro r_z h'_z tk'_z hr_z F'_z N'_z; (try k_sweep))
  trivial
end Mine
end
section
open PySem PySem.W PyProof.Rows PySem.Calls PySem.Builtin PySem.Builtin.Bytes
namespace Mine
section
variable {prog : Program} {w : World} {A : Around} {E : Value → Shared → Prop} {s : Shared}
def BytesAre : List (Array UInt8) → List Value → Prop
  | [], [] => True
  | b :: bs, v :: vs => (∃ t, v = .bytes b t) ∧ BytesAre bs vs
  | _, _ => False
theorem BytesAre.length : ∀ {bs : List (Array UInt8)} {vs : List Value}, BytesAre bs vs → vs.length = bs.length
  | [], [], _ => rfl
  | _ :: _, _ :: _, h => by simp [BytesAre.length h.2]
  | [], _ :: _, h => h.elim
  | _ :: _, [], h => h.elim
theorem BytesAre.at : ∀ {bs : List (Array UInt8)} {vs : List Value}, BytesAre bs vs → ∀ i, i < bs.length → ∃ t, vs.getD i .none = .bytes (bs.getD i #[]) t
  | [], _, _, i, h => by simp at h
  | b :: bs, v :: vs, h, 0, _ => h.1
  | b :: bs, v :: vs, h, i + 1, hi => by simpa using BytesAre.at h.2 i (by simpa using hi)
  | _ :: _, [], h, _, _ => h.elim
theorem forIn_wp {β : Type} {n : Nat} (f : Nat → β → Sem (ForInStep β)) (I : Nat → β → Prop) {Q : β → Shared → Prop}
    (step : ∀ i b, i < n → I i b → wpAny (model prog w) A (f i b) (fun r s' => s' = s ∧ ∃ b', r = .yield b' ∧ I (i + 1) b') E s) (done : ∀ b, I n b → Q b s) :
    ∀ (k i : Nat) (b : β), i + k = n → I i b → wpAny (model prog w) A (forIn (List.range' i k) b f) Q E s
  | 0, i, b, e, h => by
    show wpAny _ _ (pure b) _ _ _
    rw [Nat.add_zero] at e
    subst e
    exact wpAny_pure (done b h)
  | k + 1, i, b, e, h => by
    rw [List.range'_succ, List.forIn_cons]
    refine wpAny_bind (wpAny_mono (step i b (by omega) h) ?_ fun _ _ e => e)
    rintro r s' ⟨e1, b', e2, h'⟩
    rw [e1, e2]
    exact forIn_wp f I step done k (i + 1) b' (by omega) h'
theorem take_quiet {id : String} {b : Array UInt8} {t : Tok} {Q : Option (Array UInt8 × Option Value) → Shared → Prop} (h : Q (some (b, none)) s) : wpAny (model prog w) A (takeBufferQuiet? id (.bytes b t) 0) Q E s := by
  have e : takeBuffer? id (.bytes b t) 0 = pure (some (b, none)) := by
    unfold takeBuffer?
    rw [KBy.special_eq KBy.look_buffer, KBy.own_buffer, show ((0 : Int) == fullReadOnly) = false from by decide, KBy.buffer_eq]
    kernel_rfl
  unfold takeBufferQuiet?
  rw [e]
  exact wpAny_pure h
theorem letgo_wp {keep : List Value} {Q : Unit → Shared → Prop} : ∀ (taken : List (Value × Option Value)), (∀ p ∈ taken, p.2 = none) → Q () s → wpAny (model prog w) A (joinLetGo taken keep) Q E s
  | [], _, h => by unfold joinLetGo; exact wpAny_pure h
  | (x, u) :: rest, hp, h => by
    have hu : u = none := hp (x, u) (.head _)
    subst hu
    unfold joinLetGo
    exact wpAny_bind (wpAny_letGo (letgo_wp rest (fun p q => hp p (.tail _ q)) h))
theorem joined_nil : ∀ (l : List (Array UInt8)) (k : Nat) (out : Array UInt8), (l.zipIdx k).foldl (fun out (p, i) => (if i > 0 then out ++ (#[] : Array UInt8) else out) ++ p) out = out ++ l.foldl (· ++ ·) #[]
  | [], _, out => by simp
  | a :: l, k, out => by
    have g : ∀ (l : List (Array UInt8)) (x y : Array UInt8), l.foldl (· ++ ·) (x ++ y) = x ++ l.foldl (· ++ ·) y := by
      intro l
      induction l with
      | nil => intro x y; rfl
      | cons b l ih => intro x y; simp only [List.foldl_cons, Array.append_assoc]; exact ih x (y ++ b)
    simp only [List.zipIdx_cons, List.foldl_cons]
    rw [joined_nil l (k + 1)]
    have : (if k > 0 then out ++ (#[] : Array UInt8) else out) = out := by split <;> simp
    rw [this, Array.append_assoc]
    congr 1
    rw [show (#[] : Array UInt8) ++ a = a ++ #[] by simp, g]
theorem join_go {D : Addr} {t : Tok} {bs : List (Array UInt8)} {vs : List Value} {Q : PySem.Fin → Shared → Prop} (hl : s.heap.IsList D vs.toArray) (hv : BytesAre bs vs) (h2 : 2 ≤ bs.length) (hz : (bs.foldl (fun n b => n + b.size) 0) ≤ 16777216)
    (h : ∀ u k, Q (.done (.ret (.bytes (bs.foldl (· ++ ·) #[]) u))) { s with toks := k }) : wpAny (model prog w) A (Builtin.«bytes.join» ⟨[.bytes #[] t, .ref D], []⟩) Q E s := by
  revert hl hv h2 hz h
  revert prog w A E s D t bs vs Q
  refine (?k531k : KB10 ?f531f); refine ep10 (by repeat' (first | infer_instance | exact ne_world | exact ne_shared | exact ne_around | exact ⟨.none⟩ | exact ⟨⟨0, 0, 0, 0⟩⟩ | refine ne_prod ?_ ?_)) ?_; apply (?f531f _ _ _ _ _ _ _ _ _ _); (try any_goals exact default); intros prog w A E s D t bs vs Q; refine Bx.mk ?_
  intro hl hv h2 hz h
  show wpAny _ _ (joinItems (.ref D) >>= fun r => _) _ _ _
  unfold joinItems
  refine wpAny_bind (wpAny_bind (wpAny_typeOf hl.typeIs ?_))
  show wpAny _ _ (pure _) _ _ _
  refine wpAny_pure ?_
  show wpAny _ _ (seqItems? (.ref D) >>= fun r => _) _ _ _
  obtain ⟨o, ho, hc, n, hdata⟩ := hl
  revert ho hc hdata
  revert o n
  refine (?k532k : KB2 ?f532f); refine ep2 (by repeat' (first | infer_instance | exact ne_world | exact ne_shared | exact ne_around | exact ⟨.none⟩ | exact ⟨⟨0, 0, 0, 0⟩⟩ | refine ne_prod ?_ ?_)) ?_; apply (?f532f _ _); (try any_goals exact default); intros o n; refine Bx.mk ?_
  intro ho hc hdata
  refine wpAny_bind ?_
  unfold seqItems?
  refine wpAny_bind (wpAny_load ho ?_)
  rw [hdata]
  refine wpAny_pure ?_
  have hl := hv.length
  obtain ⟨v0, v1, r, rfl⟩ : ∃ v0 v1 r, vs = v0 :: v1 :: r := by
    match vs, hl with
    | v0 :: v1 :: r, _ => exact ⟨v0, v1, r, rfl⟩
    | [_], e => simp at e; omega
    | [], e => simp at e; omega
  dsimp only
  rw [if_pos (by rfl)]
  show wpAny _ _ (forIn _ _ _ >>= fun z => _) _ _ _
  generalize v0 :: v1 :: r = V at *
  revert V
  refine (?k533k : KB1 ?f533f); refine ep1 (by repeat' (first | infer_instance | exact ne_world | exact ne_shared | exact ne_around | exact ⟨.none⟩ | exact ⟨⟨0, 0, 0, 0⟩⟩ | refine ne_prod ?_ ?_)) ?_; apply (?f533f _); (try any_goals exact default); intros V; refine Bx.mk ?_
  set_option tactic.hygienic false in intros
  refine wpAny_bind ?_
  rw [Std.Legacy.Range.forIn_eq_forIn_range']
  refine forIn_wp (n := bs.length) _ (fun i b => b.1 = (bs.take i).toArray ∧ (∀ p ∈ b.2, p.2 = none ∧ p.1.onHeap = false)) ?step ?done _ 0 _ ?e ?i0
  case e => simp [Std.Legacy.Range.size, hl]
  case i0 => exact ⟨rfl, fun p hp => nomatch hp⟩
  case step =>
    rintro i ⟨ps, tk⟩ hi ⟨rfl, htk⟩
    revert i tk
    refine (?k534k : KB2 ?f534f); refine ep2 (by repeat' (first | infer_instance | exact ne_world | exact ne_shared | exact ne_around | exact ⟨.none⟩ | exact ⟨⟨0, 0, 0, 0⟩⟩ | refine ne_prod ?_ ?_)) ?_; apply (?f534f _ _); (try any_goals exact default); intros i tk; refine Bx.mk ?_
    set_option tactic.hygienic false in intros
    dsimp only
    refine wpAny_bind (wpAny_bind (wpAny_load ho ?_))
    rw [hdata]
    refine wpAny_pure ?_
    dsimp only
    have hany : (tk.any fun x => x.fst.onHeap) = false := List.any_eq_false.mpr fun p hp => by rw [(htk p hp).2]; exact Bool.false_ne_true
    rw [hany, if_neg (by decide)]
    obtain ⟨u, hu⟩ := hv.at i hi
    have eV : V.toArray.getD i Value.none = .bytes (bs.getD i #[]) u := by
      have hi' : i < V.length := by rw [hl]; exact hi
      rw [← hu]
      simp [List.getD, Array.getD, hi']
    rw [eV]
    refine wpAny_bind (wpAny_holding (take_quiet ?_))
    dsimp only
    refine wpAny_bind (wpAny_bind (wpAny_load ho ?_))
    rw [hdata]
    refine wpAny_pure ?_
    dsimp only
    rw [if_neg (by simp)]
    refine wpAny_pure ⟨rfl, _, rfl, ?_, ?_⟩
    · rw [show bs.take (i + 1) = bs.take i ++ [bs.getD i #[]] by rw [List.take_add_one, List.getElem?_eq_getElem hi]; simp [List.getD, hi]]
      simp
    · intro p hp
      rcases List.mem_append.mp hp with h | h
      · exact htk p h
      · rw [List.mem_singleton.mp h]; exact ⟨rfl, rfl⟩
  case done =>
    rintro ⟨ps, tk⟩ ⟨rfl, htk⟩
    revert tk
    refine (?k535k : KB1 ?f535f); refine ep1 (by repeat' (first | infer_instance | exact ne_world | exact ne_shared | exact ne_around | exact ⟨.none⟩ | exact ⟨⟨0, 0, 0, 0⟩⟩ | refine ne_prod ?_ ?_)) ?_; apply (?f535f _); (try any_goals exact default); intros tk; refine Bx.mk ?_
    set_option tactic.hygienic false in intros
    dsimp only
    have hsz : ∀ (l : List (Array UInt8)) (n : Nat), l.foldl (fun n b => n + b.size) n = n + l.foldl (fun n b => n + b.size) 0 := by
      intro l
      induction l with
      | nil => intro n; rfl
      | cons a l ih => intro n; simp only [List.foldl_cons]; rw [ih (n + a.size), ih (0 + a.size)]; omega
    have hjs : ∀ (l : List (Array UInt8)) (x : Array UInt8), (l.foldl (· ++ ·) x).size = x.size + l.foldl (fun n b => n + b.size) 0 := by
      intro l
      induction l with
      | nil => intro x; rfl
      | cons a l ih => intro x; simp only [List.foldl_cons]; rw [ih (x ++ a), hsz l (0 + a.size)]; simp; omega
    rw [List.take_length]
    show wpAny _ _ (pure #[] >>= fun sep => _) _ _ _
    refine wpAny_bind (wpAny_pure ?_)
    rw [if_neg (by
      unfold tooLong
      rw [sizeLine_eq]
      simp
      exact hz)]
    have ej : joined #[] bs = bs.foldl (· ++ ·) #[] := by
      unfold joined
      rw [joined_nil bs 0 #[]]
      simp
    rw [ej]
    refine wpAny_bind (wpAny_mkBytes ?_ (by rw [hjs, sizeLine_eq]; simpa using hz))
    exact wpAny_bind (wpAny_holding (wpAny_point (wpAny_bind (letgo_wp tk (fun p hp => (htk p hp).1) (wpAny_pure (h _ _))))))
end
theorem slot_join : Slot "bytes" "join" "bytes.join" :=
  .of (owner := "bytes") (n := "join") (by rw [typeLookup_type, builtinLookup_eq_fast]; kernel_rfl) (by decide +kernel) (by decide +kernel) (by decide +kernel)
    (by first | exact .inl (by decide +kernel) | exact .inr (by decide +kernel)) (by rw [isSubtype_type]; kernel_rfl)
theorem type_join : typeOf (.builtin "bytes.join") = pure (.type "method_descriptor") := by show builtinType _ = _; rw [builtinType_eq_fast]; kernel_rfl
theorem entry_join : entryFor table "bytes.join" = some Builtin.«bytes.join» := entryFor_of_tree (by kernel_rfl)
theorem args_join (a b : Value) : argsOk "bytes.join" ⟨[a, b], []⟩ := by
  unfold argsOk; rw [signature?_of (id := "bytes.join") (n := ['n', 'i', 'o', 'j']) (o := ['s', 'e', 't', 'y', 'b']) (by kernel_rfl) FB.owner_bytes]; kernel_rfl
section
variable {prog : Program} {w : World} {A : Around} {E : Value → Shared → Prop} {s : Shared}
theorem join_method {b : Array UInt8} {t : Tok} {pl : Sem Bool} {Q : Value × List Value → Shared → Prop} (h : Q (.builtin "bytes.join", [.bytes b t]) s) : wpAny (model prog w) A (getMethod (.bytes b t) "join" pl) Q E s :=
  getMethod_builtin (typeIs_bytes s b t) FB.plainAttrs_bytes slot_join type_join (fun a e => by cases e) h
theorem join_call {D : Addr} {t : Tok} {bs : List (Array UInt8)} {vs : List Value} {Q : Value → Shared → Prop} (hl : s.heap.IsList D vs.toArray) (hv : BytesAre bs vs) (h2 : 2 ≤ bs.length) (hz : (bs.foldl (fun n b => n + b.size) 0) ≤ 16777216)
    (h : ∀ u k, Q (.bytes (bs.foldl (· ++ ·) #[]) u) { s with toks := k }) : wpAny (model prog w) A (call (.builtin "bytes.join") [.bytes #[] t, .ref D]) Q E s :=
  wpAny_call_entry slot_join (typeIs_bytes s #[] t) entry_join (join_go hl hv h2 hz fun u k => ⟨_, rfl, h u k⟩) (args_join _ _)
end
end Mine
end
section
namespace Mine

theorem bytes_snoc : ∀ {bs : List (Array UInt8)} {ws : List Value} {b : Array UInt8} {t : Tok}, BytesAre bs ws → BytesAre (bs ++ [b]) (ws ++ [.bytes b t])
  | [], [], _, t, _ => ⟨⟨t, rfl⟩, trivial⟩
  | _ :: _, _ :: _, _, _, h => ⟨h.1, bytes_snoc h.2⟩
  | [], _ :: _, _, _, h => h.elim
  | _ :: _, [], _, _, h => h.elim
theorem lt_ne_all {D : Addr} {n : List (Addr × Obj)} (h : ∀ q ∈ n, q.1 < D) : ∀ q ∈ n, q.1 ≠ D := fun q hq => Nat.ne_of_lt (h q hq)
def Tops (top most : Int) : Prop := (top = 8 ∧ most = 2) ∨ (top = 9 ∧ most = 3) ∨ (top = 10 ∧ most = 4)
def texAt (xs : List RV) (top : Int) (j : Nat) : Option (Array UInt8) := textRV (xs.getD (top - 1 - (j : Int)).toNat .none)
theorem tex_snoc {xs : List RV} {top : Int} {bs : List (Array UInt8)} {b : Array UInt8} {i : Nat} (hl : bs.length = i) (h : ∀ j, j < i → texAt xs top j = some (bs.getD j #[])) (e : texAt xs top i = some b) : ∀ j, j < i + 1 → texAt xs top j = some ((bs ++ [b]).getD j #[]) := by
  intro j hj
  subst hl
  by_cases hlt : j < bs.length
  · rw [h j hlt]; simp [List.getD, List.getElem?_append_left hlt]
  · rw [show j = bs.length by omega, e]; simp [List.getD]
theorem rows_C1k_1 : True := by
  k_with_none
  k_with "EP" => (k_whole; fail_if_success (fail_if_success (rename Below _ _ _ _ => b9_z)))
  k_with "call ref" => (k_here; k_dflt (refine' to_text_ok _ _ _ _ _ _ _ _ _ _ _ _ _ _ _ _ _ _ _ _ _ _ _ _ _ _ ?kB ?kF ?kX ?kN ?kT ?kK ?kd ?ku ?q0 ?q1 ?_; (case kB => k_asm); (case kF => k_asm); (case kX => k_asm); (case kN => k_asm); (case kT => k_asm); (case kK => first | exact rfl | assumption); (case kd => ktr_room); (case ku => ktr_units); (case q0 => first | assumption | exact Is_none | exact Is_bool _ | exact Is_int _ _ | exact Is_bytes _ _ | exact RVs.getD _ (by assumption)); (case q1 => first | assumption | exact okV_getD (by assumption) _); k_whole); intro r_z h'_z tk'_z hr_z F'_z N'_z; (try k_sweep))
  trivial
local macro_rules | `(tactic| k_mem) => `(tactic| first | assumption | (refine mem_of ?_; assumption))
theorem rows_C1k_2 : True := by
  k_with "subscriptTail" => (k_here; (with_reducible show wpAny _ _ (subscriptTail _ _ (Value.ref _) (Value.int _ _)) _ _ _); k_dflt (refine' kv_sub ?k1 ?k2 ?k4 ?k5 ?k6 ?_ ?k7; (case k1 => k_asm); (case k2 => k_mem); (case k4 => first | omega | l_fact); (case k5 => first | omega | l_fact); (case k6 => first | omega | l_fact); (case k7 => with_unfolding_all rfl); k_whole))
  k_with "call builtin:list.append" => (k_here; (with_reducible show wpAny _ _ (call (Value.builtin _) [Value.ref _, _]) _ _ _); k_dflt (refine' kv_append ?k1 ?k2 ?k3 ?z ?_; (case k1 => k_asm); (case k2 => k_asm); (case k3 => k_upd); (case z => first | omega | (simp only [List.length_append, List.length_singleton]; omega)); k_whole); intro h'_z F'_z N'_z; (try k_sweep))
  k_with "exec For Name Call cons nil" => (k_here; (rename Fr _ _ _ _ => lF'_z); (with_unfolding_all refine' For_invVF lF'_z ?k1 ?k2 ?_; (case k1 => exact rfl); (case k2 => exact rfl); k_whole))
  k_with "pyIter ref" => ((with_reducible show wpAny _ _ (pyIter (Value.ref _)) (fun it s₂ => LoopAtV _ _ _ _ _ _ _ _ _ it s₂) _ _); refine Stop.un ?_)
  trivial
local macro_rules | `(tactic| k_ne) => `(tactic| ((try dsimp only); first | assumption | exact Ne.symm (by assumption)))
theorem texts_below_ok : ∀ (w : World) (p : Program) (loose : List Str) (mean : ExcName → Option Value) (mg mb : Str → Option Value) (dp un : Nat) (gd : Option (List Code)) (cn : Str) (cs : Scope) (a : Addr) (ccd : Value) (cl : List (Str × Addr)) (outer : List Env) (A₀ : Around) (base h₀ : Heap) (L : Addr) (m : Str → Option Value) (s : Shared) (Q E : Value → Shared → Prop) (news : List (Addr × Obj)) (st : Addr) (xs : List RV) (vs : List Value) (k : Nat) (top most : Int) (tp tm : Tok), Below A₀ base outer h₀ → Fr h₀ L s.heap m → (Kf w.params).In h₀ → News h₀ L s.heap (news) → Top p loose mean mg mb h₀ → cs.kind = .function → dp + 4 < recursionLimit → un + 32 < cLine → ((st, listOf vs.toArray k) ∈ news) → (RVs xs vs) → (∀ x ∈ xs, okV x) → (xs.length = 17) → (Tops top most) → (∀ (D : Addr) (bs : List (Array UInt8)) (ws : List Value) (k2 : Nat) (h' : Heap) (tk' : Nat), (BytesAre bs ws) → (bs.length ≤ most.toNat) → (∀ j, j < bs.length → texAt xs top j = some (bs.getD j #[])) → (bs.length = most.toNat ∨ texAt xs top bs.length = none) → (∀ p ∈ news, p.1 < D) → Fr h₀ L h' m → News h₀ L h' ((D, listOf ws.toArray k2) :: news) → Q (.ref D) { s with heap := h', toks := tk' }) → wpAny (model PySem.Challenge.rw_pc0174_01.row.prog w) (ktrTop dp un gd cn cs L a ccd cl outer) (call (.ref 258) [.ref st, .int top tp, .int most tm]) Q E s := by
  k_fill
  refine (?k1k : KBcx ?f1f); refine ep_cx ?_; apply (?f1f _ _ _ _ _ _ _ _ _ _ _ _ _ _ _ _ _ _ _ _ _ _ _); (try any_goals exact default); intros w p loose mean mg mb dp un gd cn cs a ccd cl outer A₀ base h₀ L m s Q E; refine Bx.mk ?_
  refine (?k2k : KB9 ?f2f); refine ep9 (by repeat' (first | infer_instance | exact ne_world | exact ne_shared | exact ne_around | exact ⟨.none⟩ | exact ⟨⟨0, 0, 0, 0⟩⟩ | refine ne_prod ?_ ?_)) ?_; apply (?f2f _ _ _ _ _ _ _ _ _); (try any_goals exact default); intros news st xs vs k top most tp tm; refine Bx.mk ?_
  intro B F X N T hck hd9 hu9 hm hx hok hxl ht hret
  have hl := hx.length
  have hsm : Builtin.Range.small 0 most 1 = true := by rcases ht with ⟨rfl, rfl⟩ | ⟨rfl, rfl⟩ | ⟨rfl, rfl⟩ <;> decide
  have hsz : Builtin.Range.rangeSize 0 most 1 = (most.toNat : Int) := by rcases ht with ⟨rfl, rfl⟩ | ⟨rfl, rfl⟩ | ⟨rfl, rfl⟩ <;> decide
  refine wpAny_call ?_
  k_dflt cell_enter
  k_steps
  refine Stop.mk ?_
  (rename Fr _ _ _ _ => lF'); (rename News _ _ _ _ => lN'); (rename IsRange _ _ _ _ _ _ _ _ => lR')
  have hnl := lt_ne_all (show ∀ q ∈ news, q.1 < _ by assumption)
  with_unfolding_all refine iter_rangeUnr (n := most.toNat) (by rfl) lR' hsm hsz lF' lN' ?_
  have htb : 2 ≤ most ∧ most ≤ 4 ∧ top = most + 6 := by unfold Tops at ht; omega
  obtain ⟨hm0, hm1, hm2⟩ := htb
  clear lF' lN'
  intro I hI
  have hIm : @Ne Nat I st := Nat.ne_of_gt (hI (st, _) (.tail _ hm))
  have hIn : ∀ p ∈ news, p.1 ≠ I := fun p hp => Nat.ne_of_lt (hI p (.tail _ hp))
  have hDI := Nat.ne_of_gt (hI _ (.head _))
  dsimp only at hDI
  refine rangeRest_ofN [Str.ofString "turn", Str.ofString "text"] (fun i g nw => ∃ (bs : List (Array UInt8)) (ws : List Value) (k2 : Nat), nw = (_, listOf ws.toArray k2) :: news ∧ BytesAre bs ws ∧ bs.length = i ∧ ∀ j, j < i → texAt xs top j = some (bs.getD j #[])) ?turn ?done ⟨[], [], 0, rfl, trivial, rfl, fun j hj => nomatch hj⟩
  case turn =>
    intro i g nw t h₂ tk₂ hi hj F2 N2
    obtain ⟨bs, ws, k2, rfl, hbw, hbl, hbt⟩ := hj
    revert bs ws k2
    refine (?k3k : KB3 ?f3f); refine ep3 (by repeat' (first | infer_instance | exact ne_world | exact ne_shared | exact ne_around | exact ⟨.none⟩ | exact ⟨⟨0, 0, 0, 0⟩⟩ | refine ne_prod ?_ ?_)) ?_; apply (?f3f _ _ _); (try any_goals exact default); intros bs ws k2; refine Bx.mk ?_
    set_option tactic.hygienic false in intros
    have hwl := hbw.length
    dsimp only [over] at F2
    generalize itR (0 + ((i + 1 : Nat) : Int)) (((most.toNat : Nat) : Int) - ((i + 1 : Nat) : Int)) = oI at N2 ⊢
    k_steps
    (rename OB _ _ => q1)
    rw [show top - 1 - (0 + (i : Int)) = top - 1 - (i : Int) by omega] at q1
    rcases OB_cases q1 with ⟨e, rfl⟩ | ⟨b, tb, e, rfl⟩
    all_goals (try (revert b tb; intro b tb; (set_option tactic.hygienic false in intros)))
    · k_steps
      (rename News h₀ L _ _ => lN)
      refine hret _ _ _ _ _ _ hbw (by omega) (fun j hj => hbt j (hbl ▸ hj)) (.inr ?_) (by assumption) (by k_asm) (news_tl lN)
      rw [hbl]
      exact e
    · k_steps
      (rename Fr _ _ _ _ => lF); (rename News _ _ _ _ => lN)
      exact unrEnd_of lF lN 1 (.head _) (lt_same hI) ⟨by repeat (first | exact fun _ _ => rfl | refine keep_if (by k_mem) ?_), bs ++ [b], ws ++ [.bytes b tb], k2 + 1, rfl, bytes_snoc hbw, by simp [hbl], tex_snoc hbl hbt e⟩
  case done =>
    intro g nw h₂ tk₂ hj F2 N2
    obtain ⟨bs, ws, k2, rfl, hbw, hbl, hbt⟩ := hj
    revert bs ws k2
    refine (?k4k : KB3 ?f4f); refine ep3 (by repeat' (first | infer_instance | exact ne_world | exact ne_shared | exact ne_around | exact ⟨.none⟩ | exact ⟨⟨0, 0, 0, 0⟩⟩ | refine ne_prod ?_ ?_)) ?_; apply (?f4f _ _ _); (try any_goals exact default); intros bs ws k2; refine Bx.mk ?_
    set_option tactic.hygienic false in intros
    dsimp only [over] at F2
    k_steps
    (rename News h₀ L _ _ => lN)
    exact hret _ _ _ _ _ _ hbw (by omega) (fun j hj => hbt j (hbl ▸ hj)) (.inl hbl) (by assumption) (by k_asm) lN

theorem rows_C1k_3 : True := by
  k_with "call ref" => (k_here; k_dflt (refine' texts_below_ok _ _ _ _ _ _ _ _ _ _ _ _ _ _ _ _ _ _ _ _ _ _ _ _ _ _ _ _ _ _ _ _ ?kB ?kF ?kX ?kN ?kT ?kK ?kd ?ku ?q0 ?q1 ?q2 ?q3 ?q4 ?_; (case kB => k_asm); (case kF => k_asm); (case kX => k_asm); (case kN => k_asm); (case kT => k_asm); (case kK => first | exact rfl | assumption); (case kd => ktr_room); (case ku => ktr_units); (case q0 => k_mem); (case q1 => assumption); (case q2 => assumption); (case q3 => assumption); (case q4 => assumption); k_whole); intro D_z bs_z ws_z k2_z h'_z tk'_z hb_z hbl_z hbs_z hbe_z hlt_z F'_z N'_z; (try k_sweep); (try k_lt hlt_z))
  trivial
end Mine
end
section
namespace Mine

theorem byteArr_len (l : List Int) : (byteArr l).size = l.length := by simp [byteArr]
theorem text_small {x : RV} {b : Array UInt8} (h : okV x) (e : textRV x = some b) : b.size ≤ 12 := by
  cases x with
  | none => cases e
  | bool b => cases e
  | bytes c => cases e; exact (show okB _ from h).1
  | int i =>
    cases e
    have h : -(2 ^ 17) ≤ i ∧ i ≤ 2 ^ 17 := h
    have k := digs_len_le 5 i.natAbs (by omega)
    unfold decB
    rw [byteArr_len]
    unfold decI
    rw [List.length_append]
    split <;> simp <;> omega
theorem tex_small {xs : List RV} {top : Int} {j : Nat} {b : Array UInt8} (h : ∀ x ∈ xs, okV x) (e : texAt xs top j = some b) : b.size ≤ 12 := text_small (okV_getD h _) e
theorem OB_some {o : Option (Array UInt8)} {r : Value} {b : Array UInt8} (h : OB o r) (e : o = some b) : ∃ t, r = .bytes b t := by subst e; exact h
def Pre (xs : List RV) (top most : Int) (bs : List (Array UInt8)) : Prop := bs.length ≤ most.toNat ∧ (∀ j, j < bs.length → texAt xs top j = some (bs.getD j #[])) ∧ (bs.length = most.toNat ∨ texAt xs top bs.length = none)
def sizes (bs : List (Array UInt8)) : Nat := bs.foldl (fun n b => n + b.size) 0
def Bad (xs : List RV) (top most : Int) : Prop := texAt xs top 0 = none ∨ texAt xs top 1 = none ∨ ∃ bs, Pre xs top most bs ∧ 12 < sizes bs
def Good (xs : List RV) (top most : Int) (tk : Int) (b : Array UInt8) : Prop :=
  (texAt xs top 0 = some #[] ∧ texAt xs top 1 = some b ∧ tk = 2) ∨ ∃ bs, Pre xs top most bs ∧ 2 ≤ bs.length ∧ sizes bs ≤ 12 ∧ b = bs.reverse.foldl (· ++ ·) #[] ∧ tk = bs.length
theorem pre_len {xs : List RV} {top most : Int} {bs : List (Array UInt8)} {a b : Array UInt8} (ht : Tops top most) (h : Pre xs top most bs) (e1 : texAt xs top 0 = some a) (e2 : texAt xs top 1 = some b) : 2 ≤ bs.length ∧ bs.length ≤ 4 := by
  have hm : 2 ≤ most.toNat ∧ most.toNat ≤ 4 := by unfold Tops at ht; omega
  refine ⟨?_, Nat.le_trans h.1 hm.2⟩
  rcases h.2.2 with k | k
  · omega
  · match hl : bs.length with
    | 0 => rw [hl] at k; rw [e1] at k; cases k
    | 1 => rw [hl] at k; rw [e2] at k; cases k
    | n + 2 => omega
theorem sizes_snoc {bs : List (Array UInt8)} {i : Nat} (h : i < bs.length) : (bs.take (i + 1)).map (fun b => (b.size : Int)) = (bs.take i).map (fun b => (b.size : Int)) ++ [((bs.getD i #[]).size : Int)] := by
  rw [List.take_add_one, List.getElem?_eq_getElem h, List.map_append]
  congr 1
  simp [List.getD, h]
theorem sizes_sum (bs : List (Array UInt8)) : (bs.map fun b => (b.size : Int)).sum = (sizes bs : Int) := by
  have g : ∀ (l : List (Array UInt8)) (n : Nat), l.foldl (fun n b => n + b.size) n = n + l.foldl (fun n b => n + b.size) 0 := by
    intro l
    induction l with
    | nil => intro n; rfl
    | cons a l ih => intro n; simp only [List.foldl_cons]; rw [ih (n + a.size), ih (0 + a.size)]; omega
  unfold sizes
  induction bs with
  | nil => rfl
  | cons a l ih => simp only [List.map_cons, List.sum_cons, List.foldl_cons]; rw [g l (0 + a.size), ih]; push_cast; omega
theorem sizes_rev (bs : List (Array UInt8)) : sizes bs.reverse = sizes bs := by
  have h1 := sizes_sum bs.reverse
  rw [List.map_reverse, List.sum_reverse, sizes_sum] at h1
  omega
theorem bytes_app : ∀ {bs cs : List (Array UInt8)} {vs us : List Value}, BytesAre bs vs → BytesAre cs us → BytesAre (bs ++ cs) (vs ++ us)
  | [], _, [], _, _, h => h
  | _ :: _, _, _ :: _, _, h, k => ⟨h.1, bytes_app h.2 k⟩
  | [], _, _ :: _, _, h, _ => h.elim
  | _ :: _, _, [], _, h, _ => h.elim
theorem bytes_rev : ∀ {bs : List (Array UInt8)} {vs : List Value}, BytesAre bs vs → BytesAre bs.reverse vs.reverse
  | [], [], _ => trivial
  | b :: bs, v :: vs, h => by
    simp only [List.reverse_cons]
    exact bytes_app (bytes_rev h.2) ⟨h.1, trivial⟩
  | [], _ :: _, h => h.elim
  | _ :: _, [], h => h.elim
def Joint (xs : List RV) (top most oc tk : Int) (r : Value) : Prop := (oc ≠ 0 ∧ Bad xs top most) ∨ (oc = 0 ∧ ∃ b u, r = .bytes b u ∧ Good xs top most tk b)
theorem rows_C1l_1 : True := by
  k_with_none
  k_with "EP" => (k_whole; fail_if_success (fail_if_success (rename Below _ _ _ _ => b9_z)))
  k_with "call ref" => (k_here; k_dflt (refine' to_text_ok _ _ _ _ _ _ _ _ _ _ _ _ _ _ _ _ _ _ _ _ _ _ _ _ _ _ ?kB ?kF ?kX ?kN ?kT ?kK ?kd ?ku ?q0 ?q1 ?_; (case kB => k_asm); (case kF => k_asm); (case kX => k_asm); (case kN => k_asm); (case kT => k_asm); (case kK => first | exact rfl | assumption); (case kd => ktr_room); (case ku => ktr_units); (case q0 => first | assumption | exact Is_none | exact Is_bool _ | exact Is_int _ _ | exact Is_bytes _ _ | exact RVs.getD _ (by assumption)); (case q1 => first | assumption | exact okV_getD (by assumption) _); k_whole); intro r_z h'_z tk'_z hr_z F'_z N'_z; (try k_sweep))
  k_with "call ref" => (k_here; k_dflt (refine' texts_below_ok _ _ _ _ _ _ _ _ _ _ _ _ _ _ _ _ _ _ _ _ _ _ _ _ _ _ _ _ _ _ _ _ ?kB ?kF ?kX ?kN ?kT ?kK ?kd ?ku ?q0 ?q1 ?q2 ?q3 ?q4 ?_; (case kB => k_asm); (case kF => k_asm); (case kX => k_asm); (case kN => k_asm); (case kT => k_asm); (case kK => first | exact rfl | assumption); (case kd => ktr_room); (case ku => ktr_units); (case q0 => k_mem); (case q1 => assumption); (case q2 => assumption); (case q3 => assumption); (case q4 => assumption); k_whole); intro D_z bs_z ws_z k2_z h'_z tk'_z hb_z hbl_z hbs_z hbe_z hlt_z F'_z N'_z; (try k_sweep); (try k_lt hlt_z))
  trivial
local macro_rules | `(tactic| k_mem) => `(tactic| first | assumption | (refine mem_of ?_; assumption))
theorem rows_C1l_2 : True := by
  k_with "subscriptTail" => (k_here; (with_reducible show wpAny _ _ (subscriptTail _ _ (Value.ref _) (Value.int _ _)) _ _ _); k_dflt (refine' kv_sub ?k1 ?k2 ?k4 ?k5 ?k6 ?_ ?k7; (case k1 => k_asm); (case k2 => k_mem); (case k4 => first | omega | l_fact); (case k5 => first | omega | l_fact); (case k6 => first | omega | l_fact); (case k7 => with_unfolding_all rfl); k_whole))
  k_with "call builtin:list.append" => (k_here; (with_reducible show wpAny _ _ (call (Value.builtin _) [Value.ref _, _]) _ _ _); k_dflt (refine' kv_append ?k1 ?k2 ?k3 ?z ?_; (case k1 => k_asm); (case k2 => k_asm); (case k3 => k_upd); (case z => first | omega | (simp only [List.length_append, List.length_singleton]; omega)); k_whole); intro h'_z F'_z N'_z; (try k_sweep))
  k_with "call builtin:list.reverse" => (k_here; (with_reducible show wpAny _ _ (call (Value.builtin _) [Value.ref _]) _ _ _); k_dflt (refine' kl_reverse (l := List.reverse _) ?F ?N rfl ?U ?z ?_; (case F => k_asm); (case N => k_asm); (case U => k_upd); (case z => (simp [sizeLine_eq]; omega)); k_whole); intro h'_z F'_z N'_z; (try k_sweep))
  k_with "call builtin:len" => (k_here; (with_reducible show wpAny _ _ (call (Value.builtin "len") [Value.bytes _ _]) _ _ _); k_dflt (refine len_ok (by assumption) ?_))
  k_with "eval ListComp" => (k_here; lcg_look; k_dflt (refine LCg.ListComp_U (F₀ := by k_asm) (by rfl) (by decide) (by rfl) (by decide) (by rfl) ?_))
  k_with "CompSrc" => (refine Stop.un ?_)
  k_with "call builtin:len" => (k_here; (with_reducible show wpAny _ _ (call (Value.builtin _) [Value.ref _]) _ _ _); k_dflt (refine' kv_len ?k1 ?k2 ?k3 ?k4 ?_; (case k1 => k_asm); (case k2 => k_mem); (case k3 => first | assumption | exact List.length_reverse.trans (by assumption)); (case k4 => omega); k_whole); intro _ _)
  k_with "getMethod bytes" => (k_here; (with_reducible refine join_method ?_))
  k_with "call builtin:bytes.join" => (refine Stop.un ?_)
  trivial
theorem join_below_ok : ∀ (w : World) (p : Program) (loose : List Str) (mean : ExcName → Option Value) (mg mb : Str → Option Value) (dp un : Nat) (gd : Option (List Code)) (cn : Str) (cs : Scope) (a : Addr) (ccd : Value) (cl : List (Str × Addr)) (outer : List Env) (A₀ : Around) (base h₀ : Heap) (L : Addr) (m : Str → Option Value) (s : Shared) (Q E : Value → Shared → Prop) (news : List (Addr × Obj)) (st : Addr) (xs : List RV) (vs : List Value) (k : Nat) (top most : Int) (tp tm tl : Tok), Below A₀ base outer h₀ → Fr h₀ L s.heap m → (Kf w.params).In h₀ → News h₀ L s.heap (news) → Top p loose mean mg mb h₀ → cs.kind = .function → dp + 6 < recursionLimit → un + 48 < cLine → ((st, listOf vs.toArray k) ∈ news) → (RVs xs vs) → (∀ x ∈ xs, okV x) → (xs.length = 17) → (Tops top most) → (∀ (T : Addr) (oc tk : Int) (to tt : Tok) (r : Value) (h' : Heap) (tk' : Nat), (Joint xs top most oc tk r) → (∀ p ∈ news, p.1 < T) → Fr h₀ L h' m → News h₀ L h' ((T, { cls := .type "tuple", data := .seq #[.int oc to, .int tk tt, r] }) :: news) → Q (.ref T) { s with heap := h', toks := tk' }) → wpAny (model PySem.Challenge.rw_pc0174_01.row.prog w) (ktrTop dp un gd cn cs L a ccd cl outer) (call (.ref 263) [.ref st, .int top tp, .int most tm, .int 12 tl]) Q E s := by
  k_fill
  refine (?k1k : KBcx ?f1f); refine ep_cx ?_; apply (?f1f _ _ _ _ _ _ _ _ _ _ _ _ _ _ _ _ _ _ _ _ _ _ _); (try any_goals exact default); intros w p loose mean mg mb dp un gd cn cs a ccd cl outer A₀ base h₀ L m s Q E; refine Bx.mk ?_
  refine (?k2k : KB10 ?f2f); refine ep10 (by repeat' (first | infer_instance | exact ne_world | exact ne_shared | exact ne_around | exact ⟨.none⟩ | exact ⟨⟨0, 0, 0, 0⟩⟩ | refine ne_prod ?_ ?_)) ?_; apply (?f2f _ _ _ _ _ _ _ _ _ _); (try any_goals exact default); intros news st xs vs k top most tp tm tl; refine Bx.mk ?_
  intro B F X N T hck hd9 hu9 hm hx hok hxl ht hret
  have hl := hx.length
  have htb : 8 ≤ top ∧ top ≤ 10 := by unfold Tops at ht; omega
  obtain ⟨ht0, ht1⟩ := htb
  refine wpAny_call ?_
  k_dflt cell_enter
  k_steps
  (rename OB _ _ => q1)
  rw [show (top - 1 : Int) = top - 1 - ((0 : Nat) : Int) by simp] at q1
  rcases OB_cases q1 with ⟨e1, rfl⟩ | ⟨b1, t1, e1, rfl⟩
  all_goals (try (revert b1 t1; intro b1 t1; (set_option tactic.hygienic false in intros)))
  · k_steps
    (rename News h₀ L _ _ => lN)
    exact hret _ _ _ _ _ _ _ _ (.inl ⟨by decide, .inl e1⟩) (by assumption) (by k_asm) lN
  clear q1
  k_steps
  (rename OB _ _ => q2)
  rw [show (top - 2 : Int) = top - 1 - ((1 : Nat) : Int) by simp; omega] at q2
  rcases OB_cases q2 with ⟨e2, rfl⟩ | ⟨b2, t2, e2, rfl⟩
  all_goals (try (revert b2 t2; intro b2 t2; (set_option tactic.hygienic false in intros)))
  · k_steps
    (rename News h₀ L _ _ => lN)
    exact hret _ _ _ _ _ _ _ _ (.inl ⟨by decide, .inr (.inl e2)⟩) (by assumption) (by k_asm) lN
  clear q2
  k_steps
  (rename OB _ _ => q3)
  rw [show (top - 1 : Int) = top - 1 - ((0 : Nat) : Int) by simp] at q3
  obtain ⟨t3, rfl⟩ := OB_some q3 e1
  revert t3
  intro t3
  set_option tactic.hygienic false in intros
  clear q3
  have hb1 := tex_small hok e1
  have hb2 := tex_small hok e2
  k_steps
  · (rename OB _ _ => q4)
    rw [show (top - 2 : Int) = top - 1 - ((1 : Nat) : Int) by simp; omega] at q4
    obtain ⟨t4, rfl⟩ := OB_some q4 e2
    (rename News h₀ L _ _ => lN)
    refine hret _ _ _ _ _ _ _ _ (.inr ⟨rfl, b2, t4, rfl, .inl ⟨?_, e2, rfl⟩⟩) (by assumption) (by k_asm) lN
    exact e1.trans (congrArg some (Array.eq_empty_of_size_eq_zero (by omega)))
  (rename BytesAre _ _ => hbw); (rename _ ∨ texAt _ _ _ = none => hbe); (rename _ ≤ most.toNat => hbl); (rename ∀ j, j < _ → texAt _ _ _ = some _ => hbs)
  (rename List (Array UInt8) => bs9); (rename List Value => ws9)
  have hpre : Pre xs top most bs9 := ⟨hbl, hbs, hbe⟩
  have hb24 := pre_len ht hpre e1 e2
  have hwl := hbw.length
  refine Stop.mk ?_
  refine LCg.CompSrc.ledger (by rfl) (by k_asm) (by k_asm) (by k_mem) (by rw [List.size_toArray, sizeLine_eq]; omega) ?_
  intro g'
  refine compU_inv (n := _) (fun i ys nw => nw = _ ∧ IntsAre ys ((bs9.take i).map fun b => (b.size : Int))) ?turn ?fin _ 0 [] _ (Nat.zero_add _) ⟨rfl, .nil⟩
  case turn =>
    refine (?k3k : KB13 ?f3f); refine ep13 (by repeat' (first | infer_instance | exact ne_world | exact ne_shared | exact ne_around | exact ⟨.none⟩ | exact ⟨⟨0, 0, 0, 0⟩⟩ | refine ne_prod ?_ ?_)) ?_; apply (?f3f _ _ _ _ _ _ _ _ _ _ _ _ _); (try any_goals exact default); intros i2 ys nw v I2 oI C2 oC D2 m₂ h₃ tk₃ E'; refine Bx.mk ?_
    intros hi2 hj3 hv hC hx'' F3 N3 off3 ne3
    obtain ⟨rfl, hys⟩ := hj3
    rw [List.size_toArray] at hi2
    have hlt : i2 < bs9.length := by omega
    obtain ⟨u, hu⟩ := hbw.at i2 hlt
    have hv2 : v = .bytes (bs9.getD i2 #[]) u := by
      have hv3 := hv
      simp [hi2] at hv3
      rw [← hu, ← hv3]
      simp [List.getD, hi2]
    subst hv2
    revert u
    intro u
    set_option tactic.hygienic false in intros
    have hsm := tex_small hok (hbs i2 hlt)
    k_steps
    refine LCg.CompEnd.intro (by k_asm) (by assumption) _ (fun _ hp => hp) (by assumption) (by exact Or.inr ⟨_, by k_mem, rfl, _, rfl⟩) ⟨rfl, ?_⟩
    rw [sizes_snoc hlt]
    exact ints_snoc hys
  case fin =>
    intro ys nw hj3
    obtain ⟨rfl, hys⟩ := hj3
    have htk : bs9.take ws9.toArray.size = bs9 := by rw [List.size_toArray, hwl]; exact List.take_length
    rw [htk] at hys
    have hss := sizes_sum bs9
    k_steps
    · (rename News h₀ L _ _ => lN)
      refine hret _ _ _ _ _ _ _ _ (.inl ⟨?n0, .inr (.inr ⟨bs9, hpre, by omega⟩)⟩) ?lt (by k_asm) (news_mid (news_mid lN))
      case n0 => decide
      case lt => exact allLt_all (And.right (And.right (by assumption)))
    refine Stop.mk ?_
    (rename Fr _ _ _ _ => lF'); (rename News _ _ _ _ => lN')
    (try dsimp only)
    refine join_call (vs := ws9.reverse) ?hl2 (bytes_rev hbw) (by rw [List.length_reverse]; exact hb24.1) ?hz ?_
    case hl2 => exact new_isL (k := _) lN' (by k_mem)
    case hz => exact Nat.le_trans (Nat.le_of_eq (sizes_rev bs9)) (by omega)
    intro u3 tk3
    k_steps
    (rename News h₀ L _ _ => lN)
    refine hret _ _ _ _ _ _ _ _ (.inr ⟨?o0, _, u3, rfl, .inr ⟨bs9, hpre, hb24.1, by omega, rfl, rfl⟩⟩) ?lt (by k_asm) (news_mid (news_mid lN))
    case o0 => rfl
    case lt => exact allLt_all (And.right (And.right (by assumption)))

theorem rows_C1l_3 : True := by
  k_with "call ref" => (k_here; k_dflt (refine' join_below_ok _ _ _ _ _ _ _ _ _ _ _ _ _ _ _ _ _ _ _ _ _ _ _ _ _ _ _ _ _ _ _ _ _ ?kB ?kF ?kX ?kN ?kT ?kK ?kd ?ku ?q0 ?q1 ?q2 ?q3 ?q4 ?_; (case kB => k_asm); (case kF => k_asm); (case kX => k_asm); (case kN => k_asm); (case kT => k_asm); (case kK => first | exact rfl | assumption); (case kd => ktr_room); (case ku => ktr_units); (case q0 => k_mem); (case q1 => assumption); (case q2 => assumption); (case q3 => assumption); (case q4 => assumption); k_whole); intro T_z oc_z tk_z to_z tt_z r_z h'_z tk'_z hj_z hlt_z F'_z N'_z; (try k_sweep); (try k_lt hlt_z))
  trivial
end Mine
end
section
namespace Mine
def catL : List (Option (Array UInt8)) → Option (Array UInt8)
  | [] => some #[]
  | none :: _ => none
  | some a :: r => (catL r).map (a ++ ·)
def catS (o : Option (Array UInt8)) : Option (Array UInt8) := o.bind fun b => if b.size ≤ 12 then some b else none
def catAt (xs : List RV) (n : Nat) : Option (Array UInt8) := catS (catL ((List.range n).map fun j => textRV (xs.getD (6 + j) .none)))
theorem catAt1 (xs : List RV) : catAt xs 1 = catS (catL [textRV (xs.getD 6 .none)]) := rfl
theorem cat_none : ∀ (l : List (Option (Array UInt8))), none ∈ l → catL l = none
  | none :: _, _ => rfl
  | some a :: r, h => by
    rcases List.mem_cons.mp h with h | h
    · cases h
    · simp only [catL, cat_none r h, Option.map_none]
theorem cat_some : ∀ (bs : List (Array UInt8)), catL (bs.map some) = some (bs.foldl (· ++ ·) #[])
  | [] => rfl
  | a :: r => by
    have g : ∀ (l : List (Array UInt8)) (x y : Array UInt8), l.foldl (· ++ ·) (x ++ y) = x ++ l.foldl (· ++ ·) y := by
      intro l
      induction l with
      | nil => intro x y; rfl
      | cons b l ih => intro x y; simp only [List.foldl_cons, Array.append_assoc]; exact ih x (y ++ b)
    simp only [List.map_cons, catL, cat_some r, Option.map_some, List.foldl_cons]
    congr 1
    rw [show (#[] : Array UInt8) ++ a = a ++ #[] by simp, g]
theorem cat_app : ∀ (l r : List (Option (Array UInt8))) (b : Array UInt8), catL r = some b → catL (l ++ r) = catL (l ++ [some b])
  | [], r, b, h => by simp [catL, h]
  | none :: _, _, _, _ => rfl
  | some a :: l, r, b, h => by simp only [List.cons_append, catL, cat_app l r b h]
theorem fold_size : ∀ (l : List (Array UInt8)) (x : Array UInt8), (l.foldl (· ++ ·) x).size = x.size + sizes l
  | [], _ => rfl
  | a :: l, x => by
    have g : ∀ (l : List (Array UInt8)) (n : Nat), l.foldl (fun n b => n + b.size) n = n + l.foldl (fun n b => n + b.size) 0 := by
      intro l
      induction l with
      | nil => intro n; rfl
      | cons a l ih => intro n; simp only [List.foldl_cons]; rw [ih (n + a.size), ih (0 + a.size)]; omega
    simp only [List.foldl_cons, sizes]
    rw [fold_size l, g l (0 + a.size), Array.size_append, sizes]
    omega
theorem cat_long : ∀ (l : List (Option (Array UInt8))) (bs : List (Array UInt8)) (b : Array UInt8), catL (l ++ bs.map some) = some b → sizes bs ≤ b.size
  | [], bs, b, h => by
    rw [List.nil_append, cat_some] at h
    cases h
    rw [fold_size]; simp
  | none :: _, _, _, h => by cases h
  | some a :: l, bs, b, h => by
    simp only [List.cons_append, catL] at h
    cases e : catL (l ++ bs.map some) with
    | none => rw [e] at h; cases h
    | some c =>
      rw [e] at h
      cases h
      have := cat_long l bs c e
      show _ ≤ (a ++ c).size
      rw [Array.size_append]; omega
def texs (xs : List RV) (n : Nat) : List (Option (Array UInt8)) := (List.range n).map fun j => textRV (xs.getD (6 + j) .none)
theorem texs_len (xs : List RV) (n : Nat) : (texs xs n).length = n := by simp [texs]
theorem texs_get {xs : List RV} {n j : Nat} {top : Int} (ht : top = n + 6) (h : j < n) : (texs xs n).reverse[j]? = some (texAt xs top j) := by
  rw [List.getElem?_reverse (by rw [texs_len]; exact h), texs_len]
  unfold texs texAt
  rw [List.getElem?_map, List.getElem?_range (by omega), Option.map_some, show (top - 1 - (j : Int)).toNat = 6 + (n - 1 - j) by omega]
theorem texs_pre {xs : List RV} {n : Nat} {top : Int} {bs : List (Array UInt8)} (ht : top = n + 6) (hl : bs.length ≤ n) (h : ∀ j, j < bs.length → texAt xs top j = some (bs.getD j #[])) : texs xs n = texs xs (n - bs.length) ++ bs.reverse.map some := by
  have e : (texs xs n).reverse = bs.map some ++ (texs xs (n - bs.length)).reverse := by
    apply List.ext_getElem?
    intro j
    by_cases h1 : j < bs.length
    · rw [texs_get ht (by omega), h j h1, List.getElem?_append_left (by simpa using h1)]
      simp [h1]
    · by_cases h2 : j < n
      · rw [texs_get ht h2, List.getElem?_append_right (by simpa using h1), List.length_map]
        rw [texs_get (top := ((n - bs.length : Nat) : Int) + 6) rfl (by omega)]
        unfold texAt
        congr 3
        omega
      · rw [List.getElem?_eq_none (by simp [texs_len]; omega), List.getElem?_eq_none (by simp [texs_len]; omega)]
  have e2 := congrArg List.reverse e
  rw [List.reverse_reverse, List.reverse_append, List.reverse_reverse, ← List.map_reverse] at e2
  exact e2
theorem catS_none {o : Option (Array UInt8)} (h : ∀ b, o = some b → 12 < b.size) : catS o = none := by
  cases o with
  | none => rfl
  | some b => exact if_neg (by have := h b rfl; omega)
theorem cat_bad {xs : List RV} {top most : Int} (ht : Tops top most) (h : Bad xs top most) : catAt xs most.toNat = none := by
  have hm : top = (most.toNat : Nat) + 6 ∧ 2 ≤ most.toNat := by unfold Tops at ht; omega
  have mem : ∀ j, j < most.toNat → texAt xs top j ∈ texs xs most.toNat := fun j hj => List.mem_reverse.mp (List.mem_of_getElem? (texs_get hm.1 hj))
  refine catS_none fun b hb => ?_
  have hb : catL (texs xs most.toNat) = some b := hb
  rcases h with h | h | ⟨bs, hp, h⟩
  · rw [cat_none _ (h ▸ mem 0 (by omega))] at hb; cases hb
  · rw [cat_none _ (h ▸ mem 1 (by omega))] at hb; cases hb
  · rw [texs_pre hm.1 hp.1 hp.2.1] at hb
    have := cat_long _ _ _ hb
    rw [sizes_rev] at this
    omega
theorem okB_app {a b : Array UInt8} (ha : okB a) (hb : okB b) (h : (a ++ b).size ≤ 12) : okB (a ++ b) := ⟨h, fun k hk => by
  rw [KBw.ints_app rfl rfl] at hk
  exact (List.mem_append.mp hk).elim (ha.2 k) (hb.2 k)⟩
theorem okB_fold : ∀ (l : List (Array UInt8)) (x : Array UInt8), okB x → (∀ b ∈ l, okB b) → (l.foldl (· ++ ·) x).size ≤ 12 → okB (l.foldl (· ++ ·) x)
  | [], _, hx, _, _ => hx
  | a :: l, x, hx, hl, h => by
    have h' := h
    rw [fold_size] at h'
    simp only [List.foldl_cons] at h ⊢
    rw [fold_size] at h
    exact okB_fold l (x ++ a) (okB_app hx (hl a (.head _)) (by omega)) (fun b hb => hl b (.tail _ hb)) (by rw [fold_size]; omega)
theorem okB_dec {i : Int} (h : okV (.int i)) : okB (decB i) := by
  refine ⟨text_small (x := .int i) h rfl, fun k hk => ?_⟩
  unfold decB at hk
  rw [KBa.ints_make (decI_in i)] at hk
  unfold decI at hk
  rcases List.mem_append.mp hk with h | h
  · split at h
    · rw [List.mem_singleton.mp h]; exact .inr (.inl rfl)
    · cases h
  · exact .inl (digs_all _ k h)
theorem okB_text {x : RV} {b : Array UInt8} (h : okV x) (e : textRV x = some b) : okB b := by
  cases x with
  | none => cases e
  | bool b => cases e
  | bytes c => cases e; exact h
  | int i => cases e; exact okB_dec h
theorem pre_mem {xs : List RV} {top most : Int} {bs : List (Array UInt8)} (hok : ∀ x ∈ xs, okV x) (h : Pre xs top most bs) : ∀ b ∈ bs, okB b := by
  intro b hb
  obtain ⟨j, hj, e⟩ := List.getElem_of_mem hb
  have h2 := h.2.1 j hj
  rw [show bs.getD j #[] = b by simp [List.getD, hj, e]] at h2
  exact okB_text (okV_getD hok _) h2
theorem texs_set {xs : List RV} {n k : Nat} {v : RV} (hk : n ≤ k) : texs (xs.set (6 + k) v) n = texs xs n := by
  unfold texs
  refine List.map_congr_left fun j hj => ?_
  have := List.mem_range.mp hj
  simp only [List.getD_eq_getElem?_getD]
  rw [List.getElem?_set_ne (by omega)]
theorem texs_snoc (xs : List RV) (n : Nat) : texs xs (n + 1) = texs xs n ++ [textRV (xs.getD (6 + n) .none)] := by simp [texs, List.range_succ]
theorem cat_step {xs : List RV} {n k : Nat} {b : Array UInt8} {l : List (Option (Array UInt8))} (hl : xs.length = 17) (hk : k < 11) (e : texs xs n = texs xs k ++ l) (hb : catL l = some b) : catAt (xs.set (6 + k) (.bytes b)) (k + 1) = catAt xs n := by
  show catS (catL (texs _ _)) = catS (catL (texs _ _))
  rw [e, cat_app _ _ _ hb, texs_snoc, texs_set (Nat.le_refl k)]
  have : (xs.set (6 + k) (.bytes b)).getD (6 + k) .none = .bytes b := by simp [List.getD, hl, show 6 + k < 17 by omega]
  rw [this]
  rfl
theorem cat_good {xs : List RV} {top most tk : Int} {b : Array UInt8} (ht : Tops top most) (hok : ∀ x ∈ xs, okV x) (hl : xs.length = 17) (h : Good xs top most tk b) :
    (2 ≤ tk ∧ tk ≤ most) ∧ okB b ∧ catAt (xs.set (top - tk).toNat (.bytes b)) (most - tk + 1).toNat = catAt xs most.toNat := by
  have hm : top = (most.toNat : Nat) + 6 ∧ 2 ≤ most.toNat ∧ most.toNat ≤ 4 ∧ 0 ≤ most := by unfold Tops at ht; omega
  obtain ⟨hm1, hm2, hm3, hm4⟩ := hm
  rcases h with ⟨h0, h1, rfl⟩ | ⟨bs, hp, h2, hz, rfl, rfl⟩
  · refine ⟨⟨by omega, by omega⟩, okB_text (okV_getD hok _) h1, ?_⟩
    have e := texs_pre (xs := xs) (bs := [#[], b]) hm1 hm2 (fun j hj => by
      match j, hj with
      | 0, _ => exact h0
      | 1, _ => exact h1)
    have := cat_step (b := b) hl (k := most.toNat - 2) (by omega) e (by simp [catL])
    rw [show (top - 2).toNat = 6 + (most.toNat - 2) by omega, show (most - 2 + 1).toNat = most.toNat - 2 + 1 by omega]
    exact this
  · have hb := hp.1
    refine ⟨⟨by omega, by omega⟩, okB_fold _ _ ⟨by decide, by simp [KBw.bInts]⟩ (fun c hc => pre_mem hok hp c (List.mem_reverse.mp hc)) (by rw [fold_size, sizes_rev]; simpa using hz), ?_⟩
    have := cat_step (b := bs.reverse.foldl (· ++ ·) #[]) hl (k := most.toNat - bs.length) (by omega) (texs_pre hm1 hb hp.2.1) (cat_some _)
    rw [show (top - bs.length).toNat = 6 + (most.toNat - bs.length) by omega, show (most - bs.length + 1).toNat = most.toNat - bs.length + 1 by omega]
    exact this
end Mine
end
section
namespace Mine
local macro_rules | `(tactic| k_mem) => `(tactic| first | assumption | (refine mem_of ?_; assumption))
def JoinR (xs : List RV) (ra rc : Int) (ok : Bool) (ys : List RV) : Prop := (∀ y ∈ ys, okV y) ∧ ys.length = 17 ∧ ((ok = false ∧ catAt xs (rc - 5).toNat = none) ∨ (ok = true ∧ ∃ b, catAt xs (rc - 5).toNat = some b ∧ okB b ∧ ∀ i : Nat, i < 6 → ys.getD i .none = (xs.set ra.toNat (.bytes b)).getD i .none))
def JoinJ (xs ys : List RV) (rc last : Int) : Prop := ys.length = 17 ∧ (∀ y ∈ ys, okV y) ∧ (6 ≤ last ∧ last ≤ rc) ∧ catAt ys (last - 5).toNat = catAt xs (rc - 5).toNat ∧ (∀ i : Nat, i < 6 → ys.getD i .none = xs.getD i .none) ∧ (last = rc ∨ ∃ b, okB b ∧ ys.getD last.toNat .none = .bytes b)
theorem tops_of {last rc : Int} (h : 6 < last) (h2 : last ≤ rc) (hc : rc ≤ 9) : Tops (last + 1) (last - 6 + 1) := by unfold Tops; omega
theorem okV_set {xs : List RV} {i : Nat} {v : RV} (h : ∀ x ∈ xs, okV x) (hv : okV v) : ∀ x ∈ xs.set i v, okV x := fun x hx => by
  rcases List.mem_or_eq_of_mem_set hx with h1 | h1
  · exact h x h1
  · rw [h1]; exact hv
theorem getD_set_ne {xs : List RV} {i j : Nat} {v d : RV} (h : i ≠ j) : (xs.set i v).getD j d = xs.getD j d := by
  simp only [List.getD_eq_getElem?_getD]; rw [List.getElem?_set_ne h]
theorem getD_set_eq {xs : List RV} {i : Nat} {v d : RV} (h : i < xs.length) : (xs.set i v).getD i d = v := by
  simp [List.getD, h]
theorem getD_set_congr {xs ys : List RV} {i j : Nat} {v d : RV} (hl : xs.length = ys.length) (h : xs.getD j d = ys.getD j d) : (xs.set i v).getD j d = (ys.set i v).getD j d := by
  by_cases e : i = j
  · subst e
    by_cases hi : i < xs.length
    · rw [getD_set_eq hi, getD_set_eq (hl ▸ hi)]
    · rw [List.set_eq_of_length_le (by omega), List.set_eq_of_length_le (by omega)]; exact h
  · rw [getD_set_ne e, getD_set_ne e]; exact h
theorem joinJ_step {xs ys : List RV} {rc last tk : Int} {b : Array UInt8} (hc : rc ≤ 9) (h : JoinJ xs ys rc last) (h6 : 6 < last) (hg : Good ys (last + 1) (last - 6 + 1) tk b) :
    (2 ≤ tk ∧ tk ≤ last - 6 + 1) ∧ JoinJ xs (ys.set (last + 1 - tk).toNat (.bytes b)) rc (last - (tk - 1)) := by
  obtain ⟨hl, hok, h1, h2, h3, h4⟩ := h
  have k := cat_good (tops_of h6 h1.2 hc) hok hl hg
  refine ⟨k.1, by rw [List.length_set]; exact hl, okV_set hok k.2.1, ⟨by omega, by omega⟩, ?_, fun i hi => ?_, .inr ⟨b, k.2.1, ?_⟩⟩
  · rw [← h2, show (last - 5).toNat = (last - 6 + 1).toNat by omega, ← k.2.2]
    congr 1
    omega
  · rw [getD_set_ne (by omega)]
    exact h3 i hi
  · rw [show (last - (tk - 1)).toNat = (last + 1 - tk).toNat by omega]
    exact getD_set_eq (by omega)
theorem joinJ_bad {xs ys : List RV} {rc last : Int} (hc : rc ≤ 9) (h : JoinJ xs ys rc last) (h6 : 6 < last) (hb : Bad ys (last + 1) (last - 6 + 1)) {ra : Int} : JoinR xs ra rc false ys := by
  obtain ⟨hl, hok, h1, h2, h3, h4⟩ := h
  refine ⟨hok, hl, .inl ⟨rfl, ?_⟩⟩
  rw [← h2, show (last - 5).toNat = (last - 6 + 1).toNat by omega]
  exact cat_bad (tops_of h6 h1.2 hc) hb
theorem joinJ_end {xs ys : List RV} {ra rc last : Int} (hx : xs.length = 17) (hra : 0 ≤ ra ∧ ra < 6) (hc : 6 < rc) (h : JoinJ xs ys rc last) (h6 : ¬ 6 < last) : JoinR xs ra rc true (ys.set ra.toNat (ys.getD (6 : Int).toNat .none)) := by
  obtain ⟨hl, hok, h1, h2, h3, h4⟩ := h
  have e : last = 6 := by omega
  subst e
  obtain ⟨b, hb, hy⟩ := h4.resolve_left (by omega)
  have hy' : ys.getD 6 .none = .bytes b := hy
  refine ⟨okV_set hok (okV_getD hok _), by rw [List.length_set]; exact hl, .inr ⟨rfl, b, ?_, hb, fun i hi => ?_⟩⟩
  · rw [← h2]
    show catAt ys 1 = _
    rw [catAt1, hy']
    show catS (some (b ++ #[])) = _
    rw [Array.append_empty]
    exact if_pos hb.1
  · rw [hy]
    exact getD_set_congr (by rw [hl, hx]) (h3 i hi)
theorem rows_D1j_1 : True := by
  k_with_none
  k_with "EP" => (k_whole; fail_if_success (fail_if_success (rename Below _ _ _ _ => b9_z)))
  k_with "call ref" => (k_here; k_dflt (refine' a_of_ok _ _ _ _ _ _ _ _ _ _ _ _ _ _ _ _ _ _ _ _ _ _ _ _ _ _ _ ?kB ?kF ?kX ?kN ?kT ?kK ?kd ?ku ?q0 ?q1 ?q2 ?_; (case kB => k_asm); (case kF => k_asm); (case kX => k_asm); (case kN => k_asm); (case kT => k_asm); (case kK => first | exact rfl | assumption); (case kd => ktr_room); (case ku => ktr_units); (case q0 => first | assumption | l_fact); (case q1 => first | assumption | l_fact); (case q2 => first | assumption | exact rfl); k_whole); intro t_z h'_z tk'_z  F'_z N'_z; (try k_sweep))
  k_with "call ref" => (k_here; k_dflt (refine' b_of_ok _ _ _ _ _ _ _ _ _ _ _ _ _ _ _ _ _ _ _ _ _ _ _ _ _ _ _ ?kB ?kF ?kX ?kN ?kT ?kK ?kd ?ku ?q0 ?q1 ?q2 ?_; (case kB => k_asm); (case kF => k_asm); (case kX => k_asm); (case kN => k_asm); (case kT => k_asm); (case kK => first | exact rfl | assumption); (case kd => ktr_room); (case ku => ktr_units); (case q0 => first | assumption | l_fact); (case q1 => first | assumption | l_fact); (case q2 => first | assumption | exact rfl); k_whole); intro t_z h'_z tk'_z  F'_z N'_z; (try k_sweep))
  k_with "call ref" => (k_here; k_dflt (refine' c_of_ok _ _ _ _ _ _ _ _ _ _ _ _ _ _ _ _ _ _ _ _ _ _ _ _ _ _ _ ?kB ?kF ?kX ?kN ?kT ?kK ?kd ?ku ?q0 ?q1 ?q2 ?_; (case kB => k_asm); (case kF => k_asm); (case kX => k_asm); (case kN => k_asm); (case kT => k_asm); (case kK => first | exact rfl | assumption); (case kd => ktr_room); (case ku => ktr_units); (case q0 => first | assumption | l_fact); (case q1 => first | assumption | l_fact); (case q2 => first | assumption | exact rfl); k_whole); intro t_z h'_z tk'_z  F'_z N'_z; (try k_sweep))
  k_with "call ref" => (k_here; k_dflt (refine' join_below_ok _ _ _ _ _ _ _ _ _ _ _ _ _ _ _ _ _ _ _ _ _ _ _ _ _ _ _ _ _ _ _ _ _ ?kB ?kF ?kX ?kN ?kT ?kK ?kd ?ku ?q0 ?q1 ?q2 ?q3 ?q4 ?_; (case kB => k_asm); (case kF => k_asm); (case kX => k_asm); (case kN => k_asm); (case kT => k_asm); (case kK => first | exact rfl | assumption); (case kd => ktr_room); (case ku => ktr_units); (case q0 => k_mem); (case q1 => assumption); (case q2 => assumption); (case q3 => assumption); (case q4 => assumption); k_whole); intro T_z oc_z tk_z to_z tt_z r_z h'_z tk'_z hj_z hlt_z F'_z N'_z; (try k_sweep); (try k_lt hlt_z))
  k_with "subscriptTail" => (k_here; (with_reducible show wpAny _ _ (subscriptTail _ _ (Value.ref _) (Value.int _ _)) _ _ _); k_dflt (refine' kv_sub ?k1 ?k2 ?k4 ?k5 ?k6 ?_ ?k7; (case k1 => k_asm); (case k2 => k_mem); (case k4 => first | omega | l_fact); (case k5 => first | omega | l_fact); (case k6 => first | omega | l_fact); (case k7 => with_unfolding_all rfl); k_whole))
  k_with "setItem ref int" => (k_here; (with_reducible show wpAny _ _ (setItem (Value.ref _) (Value.int _ _) _) _ _ _); k_dflt (refine' kv_set ?k1 ?k2 ?k3 ?k4 ?k5 ?k6 ?_; (case k1 => k_asm); (case k2 => k_asm); (case k3 => k_upd); (case k4 => first | omega | l_fact); (case k5 => (try simp only [List.length_set]); first | omega | l_fact); (case k6 => first | omega | l_fact); k_whole; intro h'_z F'_z N'_z; (try k_sweep)))
  k_with "setItem ref" => walk_at "setItem ref int"
  k_with "getAttr ref" => (k_here; k_dflt (refine' get_own ?k1 ?k2 ?k3 ?k4 ?k5 ?k6 ?k7 ?k8 ?k9 ?_; (case k1 => k_asm); (case k2 => k_asm); (case k3 => k_inst); (case k4 => k_is); (case k5 => k_is); (case k6 => k_is); (case k7 => k_is); (case k8 => first | assumption | exact StepD.get (by assumption) (by assumption) (by decide) (by decide) | exact StepD.pc (by assumption)); (case k9 => k_handed); k_whole))
  k_with "exec While" => (refine Stop.un ?_)
  k_with "exec If" => ((rename StopAt => hsA_z); clear hsA_z; refine Stop.un ?_)
  k_with "WStepN" => ((first | refine wstep_brk ?_ | refine wstep_ret ?_); (try dsimp only))
  trivial
theorem done_join_ok : ∀ (w : World) (p : Program) (loose : List Str) (mean : ExcName → Option Value) (mg mb : Str → Option Value) (dp un : Nat) (gd : Option (List Code)) (cn : Str) (cs : Scope) (a : Addr) (ccd : Value) (cl : List (Str × Addr)) (outer : List Env) (A₀ : Around) (base h₀ : Heap) (L : Addr) (m : Str → Option Value) (s : Shared) (Q E : Value → Shared → Prop) (x dx st lm dl wk dw : Addr) (es esl esw : List DictEntry) (nd nl nw k : Nat) (fx : Str → Option Value) (pcv : Value) (wd : Int) (tw : Tok) (xs : List RV) (vs : List Value) (rest : List (Addr × Obj)) (ins ra rb rc : Int) (ti tt : Tok), Below A₀ base outer h₀ → Fr h₀ L s.heap m → (Kf w.params).In h₀ → News h₀ L s.heap ((x, instObj 503 dx) :: (dx, dictOf es nd) :: (st, listOf vs.toArray k) :: rest) → Top p loose mean mg mb h₀ → cs.kind = .function → dp + 8 < recursionLimit → un + 64 < cLine → (@Ne Nat x dx ∧ @Ne Nat x st ∧ @Ne Nat dx st) → (∀ p ∈ rest, p.1 ≠ dx) → (∀ p ∈ rest, p.1 ≠ st) → (StepD fx es pcv .none) → (fx (Str.ofString "stack") = some (.ref st) ∧ fx (Str.ofString "constants") = some (.ref 510) ∧ fx (Str.ofString "limits") = some (.ref lm) ∧ fx (Str.ofString "works") = some (.ref wk)) → (RVs xs vs) → (xs.length = 17) → (∀ x ∈ xs, okV x) → (1 ≤ wd ∧ wd ≤ 64) → (wd ≤ 17) → ((lm, instObj 95 dl) ∈ rest) → ((dl, dictOf esl nl) ∈ rest) → (getL (Str.ofString "width") esl = some (some (.int wd tw))) → (0 ≤ ins) → (ins < 2 ^ 40) → (ins / 64 % 256 = ra) → (ins / 8388608 = rb) → (ins / 16384 % 512 = rc) → (0 ≤ ra ∧ ra < 17) → (rb = 6) → (7 ≤ rc ∧ rc ≤ 9) → (ra < 6) → (getL (Str.ofString "text") esl = some (some (.int 12 tt))) → (∀ (vs1 : List Value) (ys : List RV) (ok : Bool) (h' : Heap) (tk' : Nat), (RVs ys vs1) → (JoinR xs ra rc ok ys) → Fr h₀ L h' m → News h₀ L h' ((x, instObj 503 dx) :: (dx, dictOf es nd) :: (st, listOf vs1.toArray k) :: rest) → Q (.bool ok) { s with heap := h', toks := tk' }) → wpAny (model PySem.Challenge.rw_pc0174_01.row.prog w) (ktrTop dp un gd cn cs L a ccd cl outer) (call (.ref 465) [.ref x, .int ins ti]) Q E s := by
  k_fill
  refine (?k1k : KBcx ?f1f); refine ep_cx ?_; apply (?f1f _ _ _ _ _ _ _ _ _ _ _ _ _ _ _ _ _ _ _ _ _ _ _); (try any_goals exact default); intros w p loose mean mg mb dp un gd cn cs a ccd cl outer A₀ base h₀ L m s Q E; refine Bx.mk ?_
  refine (?k2k : KB14 ?f2f); refine ep14 (by repeat' (first | infer_instance | exact ne_world | exact ne_shared | exact ne_around | exact ⟨.none⟩ | exact ⟨⟨0, 0, 0, 0⟩⟩ | refine ne_prod ?_ ?_)) ?_; apply (?f2f _ _ _ _ _ _ _ _ _ _ _ _ _ _); (try any_goals exact default); intros x dx st lm dl wk dw es esl esw nd nl nw k; refine Bx.mk ?_; refine (?k3k : KB13 ?f3f); refine ep13 (by repeat' (first | infer_instance | exact ne_world | exact ne_shared | exact ne_around | exact ⟨.none⟩ | exact ⟨⟨0, 0, 0, 0⟩⟩ | refine ne_prod ?_ ?_)) ?_; apply (?f3f _ _ _ _ _ _ _ _ _ _ _ _ _); (try any_goals exact default); intros fx pcv wd tw xs vs rest ins ra rb rc ti tt; refine Bx.mk ?_
  intro B F X N T hck hd9 hu9 hne hrd hrs hD hf hx hxl hok hw hw2 hlm hdl hes hi hi2 ha hb hc hra hrb hrc hra6 het hret
  obtain ⟨hne1, hne2, hne3⟩ := hne
  obtain ⟨hf1, hf2, hf3, hf4⟩ := hf
  have hl := hx.length
  obtain ⟨hra0, hra1⟩ := hra
  obtain ⟨hrc0, hrc1⟩ := hrc
  subst hrb
  refine wpAny_call ?_
  k_dflt cell_enter
  k_steps
  refine Stop.mk ?_
  (rename Fr _ _ _ _ => lF'); (rename News _ _ _ _ => lN')
  refine While_ofN [Str.ofString "last", Str.ofString "outcome", Str.ofString "taken", Str.ofString "found"] (fun i g nw => ∃ (last : Int) (tl : Tok) (ys : List RV) (vs' : List Value), g (Str.ofString "last") = some (.int last tl) ∧ nw = (x, instObj 503 dx) :: (dx, dictOf es nd) :: (st, listOf vs'.toArray k) :: rest ∧ RVs ys vs' ∧ i = last.toNat ∧ JoinJ xs ys rc last) lF' (by exact news_tl lN') ⟨_, _, xs, vs, rfl, rfl, hx, rfl, ⟨hxl, hok, ⟨by omega, Int.le_refl _⟩, rfl, fun _ _ => rfl, .inl rfl⟩⟩ ?turn
  clear lF' lN'
  intro i g nw h₁ tk₁ F1 N1 hj
  obtain ⟨last, tl, ys, vs', e1, rfl, hys, rfl, hJ⟩ := hj
  revert last tl ys vs'
  refine (?k4k : KB4 ?f4f); refine ep4 (by repeat' (first | infer_instance | exact ne_world | exact ne_shared | exact ne_around | exact ⟨.none⟩ | exact ⟨⟨0, 0, 0, 0⟩⟩ | refine ne_prod ?_ ?_)) ?_; apply (?f4f _ _ _ _); (try any_goals exact default); intros last tl ys vs'; refine Bx.mk ?_
  set_option tactic.hygienic false in intros
  simp only [over, e1] at F1
  have hyl := hJ.1
  have hvl := hys.length
  have hyo := hJ.2.1
  have hlb := hJ.2.2.1
  by_cases h6 : 6 < last
  · have ht := tops_of h6 hlb.2 hrc1
    have hsA : StopAt := trivial
    k_steps
    refine Stop.mk ?_
    rcases hj_z with ⟨ho, hb⟩ | ⟨rfl, b, u, rfl, hg⟩
    all_goals (try (revert b u; intro b u; (set_option tactic.hygienic false in intros)))
    · k_steps
      all_goals (first | (exfalso; exact ho (by assumption)) | skip)
      (rename News h₀ L _ _ => lN)
      exact hret _ _ _ _ _ hys (joinJ_bad hrc1 hJ h6 hb) (by k_asm) (news_tl lN)
    · have hst := joinJ_step hrc1 hJ h6 hg
      obtain ⟨⟨ht0, ht1⟩, hJ2⟩ := hst
      k_steps
      (rename News _ _ _ _ => lN); (rename Fr _ _ _ _ => lF)
      refine wstep_next lF (news_tl lN) (show _ < last.toNat by omega) (by repeat (first | exact fun _ _ => rfl | refine keep_if (by k_mem) ?_)) ⟨_, _, _, _, rfl, rfl, hys.set _ (Is_bytes _ _), rfl, hJ2⟩
  · k_steps
    (rename News h₀ L _ _ => lN)
    exact hret _ _ _ _ _ (hys.set _ (hys.getD _)) (joinJ_end hxl ⟨hra0, hra6⟩ (by omega) hJ h6) (by k_asm) lN

theorem rows_D1j_2 : True := by
  k_with "call ref" => (k_here; k_dflt (refine' done_join_ok _ _ _ _ _ _ _ _ _ _ _ _ _ _ _ _ _ _ _ _ _ _ _ _ _ _ _ _ _ _ _ _ _ _ _ _ _ _ _ _ _ _ _ _ _ _ _ _ _ _ _ ?kB ?kF ?kX ?kN ?kT ?kK ?kd ?ku ?q0 ?q1 ?q2 ?q3 ?q4 ?q5 ?q6 ?q7 ?q8 ?q9 ?q10 ?q11 ?q12 ?q13 ?q14 ?q15 ?q16 ?q17 ?q18 ?q19 ?q20 ?q21 ?q22 ?_; (case kB => k_asm); (case kF => k_asm); (case kX => k_asm); (case kN => k_asm); (case kT => k_asm); (case kK => first | exact rfl | assumption); (case kd => ktr_room); (case ku => ktr_units); (case q0 => assumption); (case q1 => assumption); (case q2 => assumption); (case q3 => assumption); (case q4 => assumption); (case q5 => assumption); (case q6 => assumption); (case q7 => assumption); (case q8 => assumption); (case q9 => assumption); (case q10 => assumption); (case q11 => assumption); (case q12 => assumption); (case q13 => assumption); (case q14 => assumption); (case q15 => assumption); (case q16 => assumption); (case q17 => assumption); (case q18 => assumption); (case q19 => assumption); (case q20 => assumption); (case q21 => assumption); (case q22 => assumption); k_whole); intro vs1_z ys_z ok_z h'_z tk'_z hv1_z ho_z F'_z N'_z; (try k_sweep))
  trivial
end Mine
end
section
namespace Mine
local macro_rules | `(tactic| k_mem) => `(tactic| first | assumption | (refine mem_of ?_; assumption))
abbrev lamP {α : Type} {n : Str} {ar : Arguments} {b0 b1 : Stmt} {tg : List PySem.Expr} {fe : PySem.Expr} {prm : Arguments} {bdy : PySem.Expr} {scp : Scope} {p0 p1 p2 ps : Pos} {as : List PySem.Expr} {kw : List Keyword} {bdr : List Stmt} {ds : List PySem.Expr} {re : Option PySem.Expr} {tp : List TypeParam} {sc : Scope} {ts : Option Scope} {bi : Str} (st : Stmt) (_ : st = Stmt.FunctionDef n ar (b0 :: b1 :: Stmt.Assign tg (.Call fe (.Lambda prm bdy scp p0 :: as) kw p1) p2 :: bdr) ds re tp sc ts bi ps) (f : Arguments → PySem.Expr → Scope → α) : α := f prm bdy scp
noncomputable def lamObj (nm ql : Str) (pmv : Value) (lc : Addr) (ctv : Value) : Obj := lamP (α := Obj) (stm 93) (by with_unfolding_all rfl) fun prm bdy scp => kla_obj nm ql prm bdy scp [] pmv lc ctv
theorem lam_fn {h₀ h : Heap} {L lf lc : Addr} {nm ql : Str} {pmv ctv : Value} {news : List (Addr × Obj)} (N : News h₀ L h news) (hm : (lf, lamObj nm ql pmv lc ctv) ∈ news) : FnAt lf h := by
  exact FnAt.of N hm
def lenR : RV → Option Int | .bytes b => some b.size | _ => none
theorem rows_D1s_1 : True := by
  k_with_none
  k_with "EP" => (k_whole; fail_if_success (fail_if_success (rename Below _ _ _ _ => b9_z)))
  k_with "call builtin:len" => (k_here; (with_reducible show wpAny _ _ (call (Value.builtin _) [Value.bytes _ _]) _ _ _); (refine len_ok ?k1 ?k2; (case k1 => assumption)))
  trivial
theorem lam_ok : ∀ (w : World) (p : Program) (loose : List Str) (mean : ExcName → Option Value) (mg mb : Str → Option Value) (dp un : Nat) (gd : Option (List Code)) (cn : Str) (cs : Scope) (a : Addr) (ccd : Value) (cl : List (Str × Addr)) (outer : List Env) (A₀ : Around) (base h₀ : Heap) (L : Addr) (m : Str → Option Value) (s : Shared) (Q E : Value → Shared → Prop) (news : List (Addr × Obj)) (x : RV) (v : Value) (lf lc : Addr) (nm ql : Str) (pmv ctv : Value) (lo : Obj) (lvs : Array Value) (tq : Tok), Below A₀ base outer h₀ → Fr h₀ L s.heap m → (Kf w.params).In h₀ → News h₀ L s.heap (news) → Top p loose mean mg mb h₀ → cs.kind = .function → dp + 3 < recursionLimit → un + 24 < cLine → ((lf, lamObj nm ql pmv lc ctv) ∈ news) → ((lc, lo) ∈ news) → (lo.data = .fields lvs ∧ lvs[1]? = some (.str ql tq)) → (x.Is v) → (okV x) → (∀ (r : Value) (h' : Heap) (tk' : Nat), (OI (lenR x) r) → Fr h₀ L h' m → News h₀ L h' (news) → Q (r) { s with heap := h', toks := tk' }) → wpAny (model PySem.Challenge.rw_pc0174_01.row.prog w) (ktrTop dp un gd cn cs L a ccd cl outer) (call (.ref lf) [v]) Q E s := by
  k_fill
  refine (?k1k : KBcx ?f1f); refine ep_cx ?_; apply (?f1f _ _ _ _ _ _ _ _ _ _ _ _ _ _ _ _ _ _ _ _ _ _ _); (try any_goals exact default); intros w p loose mean mg mb dp un gd cn cs a ccd cl outer A₀ base h₀ L m s Q E; refine Bx.mk ?_
  refine (?k2k : KB12 ?f2f); refine ep12 (by repeat' (first | infer_instance | exact ne_world | exact ne_shared | exact ne_around | exact ⟨.none⟩ | exact ⟨⟨0, 0, 0, 0⟩⟩ | refine ne_prod ?_ ?_)) ?_; apply (?f2f _ _ _ _ _ _ _ _ _ _ _ _); (try any_goals exact default); intros news x v lf lc nm ql pmv ctv lo lvs tq; refine Bx.mk ?_
  intro B F X N T hck hd9 hu9 hlf hlc hlo hx hv hret
  obtain ⟨hlo1, hlo2⟩ := hlo
  rcases x with _ | b9 | b9 | b9 <;> simp only [RV.Is] at hx <;> (try obtain ⟨t1, rfl⟩ := hx) <;> (try subst hx)
  all_goals ((try revert hret); (try revert hv); (first | (revert b9 t1; intro b9 t1) | (revert b9; intro b9) | skip); (set_option tactic.hygienic false in intros))
  all_goals (try (have hz := (show okB _ from hv).1))
  all_goals (refine wpAny_call ?_; k_dflt (refine' kla_code ?k1 ?k2 ?k3 ?k4 ?k5 ?kA ?kF ?kK hlf ?k7 ?k8 ?k9 ?kB ?_ ?c2 ?c3 ?c4 ?c5; (case kA => exact rfl); (case kF => exact rfl); (case kK => assumption); (case k1 => k_asm); (case k2 => k_asm); (case k3 => k_asm); (case k4 => k_asm); (case k5 => k_asm); (case k7 => exact codeRec_news (by k_asm) hlc hlo1 hlo2); (case k8 => ktr_room); (case k9 => exact rfl); (case c5 => decide); (case kB => exact locs rfl); (case c2 => exact rfl); (case c3 => exact rfl); (case c4 => exact rfl); k_whole; intro g' L' h' FG' F' N' B' X' T'; (try dsimp only); (try k_lift B'); (try k_fold)); k_steps)
  all_goals exact hret _ _ _ (by first | exact rfl | exact ⟨_, rfl⟩) (by k_asm) (by k_asm)
theorem rows_D1s_2 : True := by
  k_with "callWith ref" => (k_here; k_dflt (refine' callWith_F ?k1 ?_; (case k1 => exact lam_fn (by k_asm) (by k_mem)); k_whole))
  k_with "subscriptTail" => ((rename OI _ _ => qo_z); refine Stop.un ?_)
  k_with "FnAt" => (k_dflt (exact lam_fn (by k_asm) (by k_mem)))
  k_with "call ref" => (k_here; k_dflt (refine' lam_ok _ _ _ _ _ _ _ _ _ _ _ _ _ _ _ _ _ _ _ _ _ _ _ _ _ _ _ _ _ _ _ _ _ _ _ ?kB ?kF ?kX ?kN ?kT ?kK ?kd ?ku ?q0 ?q1 ?q2 ?q3 ?q4 ?_; (case kB => k_asm); (case kF => k_asm); (case kX => k_asm); (case kN => k_asm); (case kT => k_asm); (case kK => first | exact rfl | assumption); (case kd => ktr_room); (case ku => ktr_units); (case q0 => k_mem); (case q1 => k_mem); (case q2 => assumption); (case q3 => assumption); (case q4 => assumption); k_whole); intro r_z h'_z tk'_z hr_z F'_z N'_z; (try k_sweep))
  k_with "call ref" => (k_here; k_dflt (refine' a_of_ok _ _ _ _ _ _ _ _ _ _ _ _ _ _ _ _ _ _ _ _ _ _ _ _ _ _ _ ?kB ?kF ?kX ?kN ?kT ?kK ?kd ?ku ?q0 ?q1 ?q2 ?_; (case kB => k_asm); (case kF => k_asm); (case kX => k_asm); (case kN => k_asm); (case kT => k_asm); (case kK => first | exact rfl | assumption); (case kd => ktr_room); (case ku => ktr_units); (case q0 => first | assumption | l_fact); (case q1 => first | assumption | l_fact); (case q2 => first | assumption | exact rfl); k_whole); intro t_z h'_z tk'_z  F'_z N'_z; (try k_sweep))
  k_with "call ref" => (k_here; k_dflt (refine' b_of_ok _ _ _ _ _ _ _ _ _ _ _ _ _ _ _ _ _ _ _ _ _ _ _ _ _ _ _ ?kB ?kF ?kX ?kN ?kT ?kK ?kd ?ku ?q0 ?q1 ?q2 ?_; (case kB => k_asm); (case kF => k_asm); (case kX => k_asm); (case kN => k_asm); (case kT => k_asm); (case kK => first | exact rfl | assumption); (case kd => ktr_room); (case ku => ktr_units); (case q0 => first | assumption | l_fact); (case q1 => first | assumption | l_fact); (case q2 => first | assumption | exact rfl); k_whole); intro t_z h'_z tk'_z  F'_z N'_z; (try k_sweep))
  k_with "subscriptTail" => (k_here; (with_reducible show wpAny _ _ (subscriptTail _ _ (Value.ref _) (Value.int _ _)) _ _ _); k_dflt (refine' kv_sub ?k1 ?k2 ?k4 ?k5 ?k6 ?_ ?k7; (case k1 => k_asm); (case k2 => k_mem); (case k4 => first | omega | l_fact); (case k5 => first | omega | l_fact); (case k6 => first | omega | l_fact); (case k7 => with_unfolding_all rfl); k_whole))
  k_with "setItem ref int" => (k_here; (with_reducible show wpAny _ _ (setItem (Value.ref _) (Value.int _ _) _) _ _ _); k_dflt (refine' kv_set ?k1 ?k2 ?k3 ?k4 ?k5 ?k6 ?_; (case k1 => k_asm); (case k2 => k_asm); (case k3 => k_upd); (case k4 => first | omega | l_fact); (case k5 => (try simp only [List.length_set]); first | omega | l_fact); (case k6 => first | omega | l_fact); k_whole; intro h'_z F'_z N'_z; (try k_sweep)))
  k_with "setItem ref" => walk_at "setItem ref int"
  k_with "getAttr ref" => (k_here; k_dflt (refine' get_own ?k1 ?k2 ?k3 ?k4 ?k5 ?k6 ?k7 ?k8 ?k9 ?_; (case k1 => k_asm); (case k2 => k_asm); (case k3 => k_inst); (case k4 => k_is); (case k5 => k_is); (case k6 => k_is); (case k7 => k_is); (case k8 => first | assumption | exact StepD.get (by assumption) (by assumption) (by decide) (by decide) | exact StepD.pc (by assumption)); (case k9 => k_handed); k_whole))
  trivial
theorem done_len_ok : ∀ (w : World) (p : Program) (loose : List Str) (mean : ExcName → Option Value) (mg mb : Str → Option Value) (dp un : Nat) (gd : Option (List Code)) (cn : Str) (cs : Scope) (a : Addr) (ccd : Value) (cl : List (Str × Addr)) (outer : List Env) (A₀ : Around) (base h₀ : Heap) (L : Addr) (m : Str → Option Value) (s : Shared) (Q E : Value → Shared → Prop) (x dx st lm dl wk dw : Addr) (es esl esw : List DictEntry) (nd nl nw k : Nat) (fx : Str → Option Value) (pcv : Value) (wd : Int) (tw : Tok) (xs : List RV) (vs : List Value) (rest : List (Addr × Obj)) (lf lc : Addr) (nm ql : Str) (pmv ctv : Value) (lo : Obj) (lvs : Array Value) (tq : Tok) (nw2 : Nat) (ins ra rb rc : Int) (to ti : Tok), Below A₀ base outer h₀ → Fr h₀ L s.heap m → (Kf w.params).In h₀ → News h₀ L s.heap ((x, instObj 503 dx) :: (dx, dictOf es nd) :: (st, listOf vs.toArray k) :: rest) → Top p loose mean mg mb h₀ → cs.kind = .function → dp + 8 < recursionLimit → un + 64 < cLine → (@Ne Nat x dx ∧ @Ne Nat x st ∧ @Ne Nat dx st) → (∀ p ∈ rest, p.1 ≠ dx) → (∀ p ∈ rest, p.1 ≠ st) → (StepD fx es pcv .none) → (fx (Str.ofString "stack") = some (.ref st) ∧ fx (Str.ofString "constants") = some (.ref 510) ∧ fx (Str.ofString "limits") = some (.ref lm) ∧ fx (Str.ofString "works") = some (.ref wk)) → (RVs xs vs) → (xs.length = 17) → (∀ x ∈ xs, okV x) → (1 ≤ wd ∧ wd ≤ 64) → (wd ≤ 17) → ((lm, instObj 95 dl) ∈ rest) → ((dl, dictOf esl nl) ∈ rest) → (getL (Str.ofString "width") esl = some (some (.int wd tw))) → (0 ≤ ins) → (ins < 2 ^ 40) → (ins / 64 % 256 = ra) → (ins / 8388608 = rb) → (ins / 16384 % 512 = rc) → (0 ≤ ra ∧ ra < 17) → (0 ≤ rb ∧ rb < 17) → ((wk, instObj 412 dw) ∈ rest) → ((dw, dictOf esw nw2) ∈ rest) → (getL (Str.ofString "length") esw = some (some (.ref lf))) → ((lf, lamObj nm ql pmv lc ctv) ∈ rest) → ((lc, lo) ∈ rest) → (lo.data = .fields lvs ∧ lvs[1]? = some (.str ql tq)) → (∀ (vs1 : List Value) (ok : Bool) (h' : Heap) (tk' : Nat), (ok = (lenR (xs.getD rb.toNat .none)).isSome) → (ok = true → RVs (recSet xs ra (lenR (xs.getD rb.toNat .none))) vs1) → Fr h₀ L h' m → News h₀ L h' ((x, instObj 503 dx) :: (dx, dictOf es nd) :: (st, listOf vs1.toArray k) :: rest) → Q (.bool ok) { s with heap := h', toks := tk' }) → wpAny (model PySem.Challenge.rw_pc0174_01.row.prog w) (ktrTop dp un gd cn cs L a ccd cl outer) (call (.ref 458) [.ref x, .int 20 to, .int ins ti]) Q E s := by
  k_fill
  refine (?k3k : KBcx ?f3f); refine ep_cx ?_; apply (?f3f _ _ _ _ _ _ _ _ _ _ _ _ _ _ _ _ _ _ _ _ _ _ _); (try any_goals exact default); intros w p loose mean mg mb dp un gd cn cs a ccd cl outer A₀ base h₀ L m s Q E; refine Bx.mk ?_
  refine (?k4k : KB13 ?f4f); refine ep13 (by repeat' (first | infer_instance | exact ne_world | exact ne_shared | exact ne_around | exact ⟨.none⟩ | exact ⟨⟨0, 0, 0, 0⟩⟩ | refine ne_prod ?_ ?_)) ?_; apply (?f4f _ _ _ _ _ _ _ _ _ _ _ _ _); (try any_goals exact default); intros x dx st lm dl wk dw es esl esw nd nl nw; refine Bx.mk ?_; refine (?k5k : KB13 ?f5f); refine ep13 (by repeat' (first | infer_instance | exact ne_world | exact ne_shared | exact ne_around | exact ⟨.none⟩ | exact ⟨⟨0, 0, 0, 0⟩⟩ | refine ne_prod ?_ ?_)) ?_; apply (?f5f _ _ _ _ _ _ _ _ _ _ _ _ _); (try any_goals exact default); intros k fx pcv wd tw xs vs rest lf lc nm ql pmv; refine Bx.mk ?_; refine (?k6k : KB11 ?f6f); refine ep11 (by repeat' (first | infer_instance | exact ne_world | exact ne_shared | exact ne_around | exact ⟨.none⟩ | exact ⟨⟨0, 0, 0, 0⟩⟩ | refine ne_prod ?_ ?_)) ?_; apply (?f6f _ _ _ _ _ _ _ _ _ _ _); (try any_goals exact default); intros ctv lo lvs tq nw2 ins ra rb rc to ti; refine Bx.mk ?_
  intro B F X N T hck hd9 hu9 hne hrd hrs hD hf hx hxl hok hw hw2 hlm hdl hes hi hi2 ha hb hc hra hrb hwk hdw hew hlf hlc hlo hret
  obtain ⟨hne1, hne2, hne3⟩ := hne
  obtain ⟨hf1, hf2, hf3, hf4⟩ := hf
  have hl := hx.length
  obtain ⟨hra0, hra1⟩ := hra
  obtain ⟨hrb0, hrb1⟩ := hrb
  have hvb := okV_getD hok rb.toNat
  have hxb := hx.getD rb.toNat
  refine wpAny_call ?_
  k_dflt cell_enter
  k_steps
  refine Stop.mk ?_
  (rename News h₀ _ _ _ => lN0)
  (rename News _ _ _ _ => lN)
  rcases OI_cases qo_z with ⟨e, rfl⟩ | ⟨i, ti', e, rfl⟩
  all_goals (try (revert i ti'; intro i ti'; (set_option tactic.hygienic false in intros)))
  all_goals (rw [e] at hret; refine kv_subE lN (by k_mem) hra0 (by rw [List.length_set]; omega) (by omega) (by simp [List.getD, hl, hxl, show ra.toNat < 17 by omega]; exact rfl) ?_; k_steps)
  all_goals (rename News h₀ L _ _ => lN9)
  · exact hret _ _ _ _ rfl (fun h => nomatch h) (by k_asm) (by first | exact lN9 | exact news_tl lN9)
  · exact hret _ _ _ _ rfl (fun h => hx.set _ ⟨_, rfl⟩) (by k_asm) (by first | exact lN9 | exact news_tl lN9)
theorem rows_D1s_3 : True := by
  k_with "call ref" => (k_here; k_dflt (refine' done_len_ok _ _ _ _ _ _ _ _ _ _ _ _ _ _ _ _ _ _ _ _ _ _ _ _ _ _ _ _ _ _ _ _ _ _ _ _ _ _ _ _ _ _ _ _ _ _ _ _ _ _ _ _ _ _ _ _ _ _ _ _ _ ?kB ?kF ?kX ?kN ?kT ?kK ?kd ?ku ?q0 ?q1 ?q2 ?q3 ?q4 ?q5 ?q6 ?q7 ?q8 ?q9 ?q10 ?q11 ?q12 ?q13 ?q14 ?q15 ?q16 ?q17 ?q18 ?q19 ?q20 ?q21 ?q22 ?q23 ?q24 ?q25 ?_; (case kB => k_asm); (case kF => k_asm); (case kX => k_asm); (case kN => k_asm); (case kT => k_asm); (case kK => first | exact rfl | assumption); (case kd => ktr_room); (case ku => ktr_units); (case q0 => assumption); (case q1 => assumption); (case q2 => assumption); (case q3 => assumption); (case q4 => assumption); (case q5 => assumption); (case q6 => assumption); (case q7 => assumption); (case q8 => assumption); (case q9 => assumption); (case q10 => assumption); (case q11 => assumption); (case q12 => assumption); (case q13 => assumption); (case q14 => assumption); (case q15 => assumption); (case q16 => assumption); (case q17 => assumption); (case q18 => assumption); (case q19 => assumption); (case q20 => assumption); (case q21 => assumption); (case q22 => assumption); (case q23 => assumption); (case q24 => assumption); (case q25 => assumption); k_whole); intro vs1_z ok_z h'_z tk'_z ho_z hv1_z F'_z N'_z; (try k_sweep))
  trivial
end Mine
end
section
namespace Mine
structure R where
  (t a b c : Int)
deriving Inhabited
def RET : R := ⟨30, 0, 6, 0⟩
def R.code (r : R) : Int := if r.t = 1 then 1 + 64 * r.a + 16384 * r.b else r.t + 64 * r.a + 16384 * r.c + 8388608 * r.b
def rowAt (rows : List R) (i : Int) : R := rows.getD i.toNat RET
def prevAt (rows : List R) (i : Int) : R := if i = 0 then RET else rowAt rows (i - 1)
def okOpd (k : Int) : Prop := (0 ≤ k ∧ k < 5) ∨ (256 ≤ k ∧ k < 262)
def okR (p r r' : R) : Prop :=
  (r.t = 0 ∧ ((0 ≤ r.a ∧ r.a < 5) ∨ (6 ≤ r.a ∧ r.a < 10 ∧ (r.a = 6 ∨ (p.t = 0 ∧ p.a = r.a - 1)))) ∧ (0 ≤ r.b ∧ r.b < 5) ∧ r.c = 0) ∨
  (r.t = 1 ∧ (0 ≤ r.a ∧ r.a < 5) ∧ (0 ≤ r.b ∧ r.b < 6) ∧ r.c = 0) ∨
  (r.t = 2 ∧ (0 ≤ r.a ∧ r.a < 5) ∧ (0 ≤ r.b ∧ r.b ≤ 1) ∧ (0 ≤ r.c ∧ r.c ≤ 1) ∧ r'.t = 0 ∧ r'.a < 5) ∨
  ((12 ≤ r.t ∧ r.t < 18) ∧ (0 ≤ r.a ∧ r.a < 5) ∧ okOpd r.b ∧ okOpd r.c) ∨
  ((18 ≤ r.t ∧ r.t ≤ 20) ∧ (0 ≤ r.a ∧ r.a < 5) ∧ (0 ≤ r.b ∧ r.b < 5) ∧ r.c = 0) ∨
  (r.t = 21 ∧ (0 ≤ r.a ∧ r.a < 5) ∧ r.b = 6 ∧ (7 ≤ r.c ∧ r.c ≤ 9) ∧ p.t = 0 ∧ p.a = r.c)
def okPre (rows : List R) : Prop := ∀ i : Nat, i < rows.length → okR (prevAt rows i) (rowAt rows i) (rowAt rows (i + 1))
def okRows (rows : List R) : Prop := ∃ rs, rows = rs ++ [RET] ∧ okPre rs ∧ rs.length ≤ 25
theorem bdw {k a b c d : Int} (h : a ≤ k ∧ k < b) (h1 : c ≤ a) (h2 : b ≤ d) : c ≤ k ∧ k < d := ⟨Int.le_trans h1 h.1, Int.lt_of_lt_of_le h.2 h2⟩
theorem bdl {k a b c d : Int} (h : a ≤ k ∧ k ≤ b) (h1 : c ≤ a) (h2 : b < d) : c ≤ k ∧ k < d := ⟨Int.le_trans h1 h.1, Int.lt_of_le_of_lt h.2 h2⟩
theorem eqw {k v c d : Int} (h : k = v) (h1 : c ≤ v) (h2 : v < d) : c ≤ k ∧ k < d := h ▸ ⟨h1, h2⟩
theorem nev {k v u : Int} (h : k = v) (n : v ≠ u) : k ≠ u := h ▸ n
theorem nlo {k a u : Int} (h : a ≤ k) (n : u < a) : k ≠ u := fun e => absurd (Int.lt_of_lt_of_le n h) (by rw [e]; exact Int.lt_irrefl _)
theorem nhi {k b u : Int} (h : k < b) (n : b ≤ u) : k ≠ u := fun e => absurd (Int.lt_of_lt_of_le h n) (by rw [e]; exact Int.lt_irrefl _)
theorem nhl {k b u : Int} (h : k ≤ b) (n : b < u) : k ≠ u := fun e => absurd (Int.lt_of_le_of_lt h n) (by rw [e]; exact Int.lt_irrefl _)
theorem okOpd_bd {k : Int} (h : okOpd k) : 0 ≤ k ∧ k < 262 := h.elim (fun h => bdw h (by decide) (by decide)) (fun h => bdw h (by decide) (by decide))
theorem okR_bd' {p r r' : R} (h : okR p r r') : (0 ≤ r.t ∧ r.t < 22) ∧ (0 ≤ r.a ∧ r.a < 10) ∧ (0 ≤ r.b ∧ r.b < 262) ∧ (0 ≤ r.c ∧ r.c < 262) := by
  rcases h with ⟨ht, ha, hb, hc⟩ | ⟨ht, ha, hb, hc⟩ | ⟨ht, ha, hb, hc, -⟩ | ⟨ht, ha, hb, hc⟩ | ⟨ht, ha, hb, hc⟩ | ⟨ht, ha, hb, hc, -⟩
  · exact ⟨eqw ht (by decide) (by decide), ha.elim (fun h => bdw h (by decide) (by decide)) (fun h => bdw ⟨h.1, h.2.1⟩ (by decide) (by decide)), bdw hb (by decide) (by decide), eqw hc (by decide) (by decide)⟩
  · exact ⟨eqw ht (by decide) (by decide), bdw ha (by decide) (by decide), bdw hb (by decide) (by decide), eqw hc (by decide) (by decide)⟩
  · exact ⟨eqw ht (by decide) (by decide), bdw ha (by decide) (by decide), bdl hb (by decide) (by decide), bdl hc (by decide) (by decide)⟩
  · exact ⟨bdw ht (by decide) (by decide), bdw ha (by decide) (by decide), okOpd_bd hb, okOpd_bd hc⟩
  · exact ⟨bdl ht (by decide) (by decide), bdw ha (by decide) (by decide), bdw hb (by decide) (by decide), eqw hc (by decide) (by decide)⟩
  · exact ⟨eqw ht (by decide) (by decide), bdw ha (by decide) (by decide), eqw hb (by decide) (by decide), bdl hc (by decide) (by decide)⟩
theorem okR_bd {p r r' : R} (h : okR p r r') : (0 ≤ r.t ∧ r.t ≤ 21) ∧ (0 ≤ r.a ∧ r.a < 10) ∧ (0 ≤ r.b ∧ r.b < 262) ∧ (0 ≤ r.c ∧ r.c < 262) :=
  have k := okR_bd' h
  ⟨⟨k.1.1, Int.le_of_lt_add_one k.1.2⟩, k.2⟩
theorem okR_one {p r r' : R} (h : okR p r r') (e : r.t = 1) : (0 ≤ r.a ∧ r.a < 5) ∧ (0 ≤ r.b ∧ r.b < 6) ∧ r.c = 0 := by
  rcases h with h | h | h | h | h | h
  · exact absurd e (nev h.1 (by decide))
  · exact h.2
  · exact absurd e (nev h.1 (by decide))
  · exact absurd e (nlo h.1.1 (by decide))
  · exact absurd e (nlo h.1.1 (by decide))
  · exact absurd e (nev h.1 (by decide))
theorem okR_cat {p r r' : R} (h : okR p r r') (e : r.t = 21) : (0 ≤ r.a ∧ r.a < 5) ∧ r.b = 6 ∧ (7 ≤ r.c ∧ r.c ≤ 9) ∧ p.t = 0 ∧ p.a = r.c := by
  rcases h with h | h | h | h | h | h
  · exact absurd e (nev h.1 (by decide))
  · exact absurd e (nev h.1 (by decide))
  · exact absurd e (nev h.1 (by decide))
  · exact absurd e (nhi h.1.2 (by decide))
  · exact absurd e (nhl h.1.2 (by decide))
  · exact h.2
theorem okR_three {p r r' : R} (h : okR p r r') : r.t < 4 ∧ ((r.t = 0 ∧ (0 ≤ r.b ∧ r.b < 5)) ∨ (r.t = 1 ∧ (0 ≤ r.b ∧ r.b < 6)) ∨ r.t = 2) ∨ (12 ≤ r.t ∧ r.t ≤ 20) ∨ r.t = 21 := by
  rcases h with h | h | h | h | h | h
  · exact .inl ⟨by rw [h.1]; decide, .inl ⟨h.1, h.2.2.1⟩⟩
  · exact .inl ⟨by rw [h.1]; decide, .inr (.inl ⟨h.1, h.2.2.1⟩)⟩
  · exact .inl ⟨by rw [h.1]; decide, .inr (.inr h.1)⟩
  · exact .inr (.inl ⟨h.1.1, Int.le_of_lt (Int.lt_of_lt_of_le h.1.2 (by decide))⟩)
  · exact .inr (.inl ⟨Int.le_trans (by decide) h.1.1, h.1.2⟩)
  · exact .inr (.inr h.1)
theorem okR_un {p r r' : R} (h : okR p r r') (e1 : 18 ≤ r.t) (e2 : r.t ≤ 20) : (0 ≤ r.a ∧ r.a < 5) ∧ (0 ≤ r.b ∧ r.b < 5) := by
  rcases h with h | h | h | h | h | h
  · exact absurd e1 (by rw [h.1]; decide)
  · exact absurd e1 (by rw [h.1]; decide)
  · exact absurd e1 (by rw [h.1]; decide)
  · exact absurd (Int.lt_of_lt_of_le h.1.2 e1) (Int.lt_irrefl _)
  · exact ⟨h.2.1, h.2.2.1⟩
  · exact absurd e2 (by rw [h.1]; decide)
theorem okR_rk {p r r' : R} (h : okR p r r') (e1 : 12 ≤ r.t) (e2 : r.t < 18) : okOpd r.b ∧ okOpd r.c := by
  rcases h with h | h | h | h | h | h
  · exact absurd e1 (by rw [h.1]; decide)
  · exact absurd e1 (by rw [h.1]; decide)
  · exact absurd e1 (by rw [h.1]; decide)
  · exact h.2.2
  · exact absurd (Int.lt_of_lt_of_le e2 h.1.1) (Int.lt_irrefl _)
  · exact absurd e2 (by rw [h.1]; decide)
theorem three18 {op : Int} (h : 18 ≤ op) (h2 : op ≤ 20) : op = 18 ∨ op = 19 ∨ op = 20 := by omega
theorem okR_next {p r x : R} (h : okR p r RET) : okR p r x := by
  rcases h with h | h | h | h | h | h
  · exact .inl h
  · exact .inr (.inl h)
  · exact absurd h.2.2.2.2.1 (by decide)
  · exact .inr (.inr (.inr (.inl h)))
  · exact .inr (.inr (.inr (.inr (.inl h))))
  · exact .inr (.inr (.inr (.inr (.inr h))))
theorem okR_prev {p r x : R} (h : okR RET r x) : okR p r x := by
  rcases h with h | h | h | h | h | h
  · refine .inl ⟨h.1, ?_, h.2.2⟩
    rcases h.2.1 with k | ⟨k1, k2, k⟩
    · exact .inl k
    · rcases k with k | k
      · exact .inr ⟨k1, k2, .inl k⟩
      · exact absurd k.1 (by decide)
  · exact .inr (.inl h)
  · exact .inr (.inr (.inl h))
  · exact .inr (.inr (.inr (.inl h)))
  · exact .inr (.inr (.inr (.inr (.inl h))))
  · exact absurd h.2.2.2.2.1 (by decide)
theorem rowAt_left {a b : List R} {i : Int} (h0 : 0 ≤ i) (h : i < a.length) : rowAt (a ++ b) i = rowAt a i := by
  unfold rowAt
  rw [List.getD_eq_getElem?_getD, List.getD_eq_getElem?_getD, List.getElem?_append_left (by omega)]
theorem rowAt_right {a b : List R} {i : Int} (h : (a.length : Int) ≤ i) : rowAt (a ++ b) i = rowAt b (i - a.length) := by
  unfold rowAt
  rw [List.getD_eq_getElem?_getD, List.getD_eq_getElem?_getD, List.getElem?_append_right (by omega), show (i - (a.length : Int)).toNat = i.toNat - a.length by omega]
theorem rowAt_end {a : List R} {i : Int} (h : (a.length : Int) ≤ i) : rowAt a i = RET := by
  unfold rowAt
  rw [List.getD_eq_getElem?_getD, List.getElem?_eq_none (by omega)]; rfl
theorem okPre_nil : okPre [] := fun i h => absurd h (Nat.not_lt_zero i)
theorem okPre_left {a b : List R} (h : okPre a) {i : Nat} (hi : i < a.length) : okR (prevAt (a ++ b) i) (rowAt (a ++ b) i) (rowAt (a ++ b) (i + 1)) := by
  have k := h i hi
  rw [rowAt_left (by omega) (by omega)]
  have ep : prevAt (a ++ b) i = prevAt a i := by
    unfold prevAt
    split
    · rfl
    · rw [rowAt_left (by omega) (by omega)]
  rw [ep]
  by_cases h1 : i + 1 < a.length
  · rw [rowAt_left (by omega) (by omega)]
    exact k
  · rw [rowAt_end (i := (i : Int) + 1) (by omega)] at k
    exact okR_next k
theorem okPre_app {a b : List R} (h : okPre a) (h2 : okPre b) : okPre (a ++ b) := fun i hi => by
  by_cases hl : i < a.length
  · exact okPre_left h hl
  · rw [List.length_append] at hi
    have k := h2 (i - a.length) (by omega)
    rw [show ((i - a.length : Nat) : Int) = (i : Int) - a.length by omega] at k
    rw [rowAt_right (by omega), rowAt_right (by omega), show (i : Int) + 1 - a.length = (i : Int) - a.length + 1 by omega]
    by_cases h0 : i = a.length
    · have e : prevAt b ((i : Int) - a.length) = RET := if_pos (by omega)
      rw [e] at k
      exact okR_prev k
    · have e1 : prevAt b ((i : Int) - a.length) = rowAt b ((i : Int) - a.length - 1) := if_neg (by omega)
      have e2 : prevAt (a ++ b) i = rowAt (a ++ b) (i - 1) := if_neg (by omega)
      rw [e2, rowAt_right (by omega), show (i : Int) - 1 - a.length = (i : Int) - a.length - 1 by omega, ← e1]
      exact k
/-- what is known of a row of the whole -/
theorem okRows_at {rows : List R} (h : okRows rows) {i : Int} (h0 : 0 ≤ i) (h1 : i < rows.length) : (i + 1 = rows.length ∧ rowAt rows i = RET) ∨ (i + 1 < rows.length ∧ okR (prevAt rows i) (rowAt rows i) (rowAt rows (i + 1))) := by
  obtain ⟨rs, rfl, hp, hl⟩ := h
  rw [List.length_append, List.length_singleton] at h1 ⊢
  by_cases e : i = rs.length
  · refine .inl ⟨by omega, ?_⟩
    rw [rowAt_right (by omega), e, Int.sub_self]; rfl
  · have k := okPre_left (b := [RET]) hp (i := i.toNat) (by omega)
    rw [Int.toNat_of_nonneg h0] at k
    exact .inr ⟨by omega, k⟩
theorem okRows_len {rows : List R} (h : okRows rows) : 0 < rows.length ∧ rows.length ≤ 26 := by
  obtain ⟨rs, rfl, hp, hl⟩ := h
  rw [List.length_append, List.length_singleton]; omega
def stepL (wd : Int) (r : R) (xs : List RV) : Option (List RV) :=
  if r.t = 0 then some (xs.set r.a.toNat (xs.getD r.b.toNat .none))
  else if r.t = 1 then some (xs.set r.a.toNat (consts1.getD r.b.toNat .none))
  else if r.t = 2 then some (xs.set r.a.toNat (.bool (decide (r.b ≠ 0))))
  else if r.t < 18 then (reckW (r.t - 12).toNat (opd1 xs r.b) (opd1 xs r.c) wd).map fun i => xs.set r.a.toNat (.int i)
  else if r.t = 18 then (reckW 6 (xs.getD r.b.toNat .none) (xs.getD r.b.toNat .none) wd).map fun i => xs.set r.a.toNat (.int i)
  else if r.t = 19 then some (xs.set r.a.toNat (.bool (isFalse (xs.getD r.b.toNat .none))))
  else if r.t = 20 then (lenR (xs.getD r.b.toNat .none)).map fun i => xs.set r.a.toNat (.int i)
  else (catAt xs (r.c - 5).toNat).map fun b => xs.set r.a.toNat (.bytes b)
def shift (r : R) : Int := if r.t = 2 ∧ r.c ≠ 0 then 2 else 1
inductive Out | back (xs : List RV) | stopped (i : Int)
def runL (rows : List R) (wd : Int) : Nat → Int → List RV → Out
  | 0, i, _ => .stopped i
  | n + 1, i, xs => if (rowAt rows i).t = 30 then .back (xs.take 5) else match stepL wd (rowAt rows i) xs with
    | none => .stopped i
    | some xs' => runL rows wd n (i + shift (rowAt rows i)) xs'
/-- what the stepper makes of a row: the same, or the same in the first six places -/
def StepS (wd : Int) (r : R) (ys : List RV) (ok : Bool) (ys' : List RV) : Prop :=
  (ok = false ∧ stepL wd r ys = none) ∨ (ok = true ∧ ∃ zs, stepL wd r ys = some zs ∧ ys'.length = 17 ∧ (r.t ≠ 21 → ys' = zs) ∧ (r.t = 21 → ∀ y ∈ ys', okV y) ∧ ∀ i : Nat, i < 6 → ys'.getD i .none = zs.getD i .none)
theorem arith_small {k : Nat} {a b w : Int} (h0 : 1 ≤ w) (h1 : w ≤ 17) : -(2 ^ 17) ≤ arithW k a b w ∧ arithW k a b w ≤ 2 ^ 17 := by
  have g := fun n => wrapW_small (n := n) h0 h1
  unfold arithW
  split
  · exact g _
  · exact g _
  · exact g _
  · exact g _
  · exact g _
  · unfold powW
    split
    · split
      · decide
      · split
        · split <;> decide
        · decide
    · exact g _
  · exact g _
theorem reck_small {k : Nat} {x y : RV} {w i : Int} (h0 : 1 ≤ w) (h1 : w ≤ 17) (h : reckW k x y w = some i) : okV (.int i) := by
  unfold reckW at h
  split at h
  · split at h
    · cases h
    · cases h; exact arith_small h0 h1
  · cases h
theorem catAt_ok {xs : List RV} {n : Nat} {b : Array UInt8} (h : ∀ x ∈ xs, okV x) (e : catAt xs n = some b) : okB b := by
  have g : ∀ (l : List (Option (Array UInt8))) (c : Array UInt8), (∀ o ∈ l, ∀ d, o = some d → okB d) → catL l = some c → ∀ k ∈ KBw.bInts c, okI k := by
    intro l
    induction l with
    | nil => intro c _ hc; cases hc; simp [KBw.bInts]
    | cons o l ih =>
      intro c hl hc
      cases o with
      | none => cases hc
      | some d =>
        simp only [catL] at hc
        cases he : catL l with
        | none => rw [he] at hc; cases hc
        | some f =>
          rw [he] at hc
          cases hc
          intro k hk
          rw [KBw.ints_app rfl rfl] at hk
          rcases List.mem_append.mp hk with q | q
          · exact (hl _ (.head _) d rfl).2 k q
          · exact ih f (fun o ho => hl o (.tail _ ho)) he k q
  unfold catAt at e
  cases he : catL ((List.range n).map fun j => textRV (xs.getD (6 + j) .none)) with
  | none => rw [he] at e; cases e
  | some c =>
    rw [he] at e
    have e : (if c.size ≤ 12 then some c else none) = some b := e
    split at e
    · next hz =>
      cases e
      refine ⟨hz, g _ _ (fun o ho d hd => ?_) he⟩
      obtain ⟨j, _, rfl⟩ := List.mem_map.mp ho
      exact okB_text (okV_getD h _) hd
    · cases e
theorem len_small {x : RV} {i : Int} (h : okV x) (e : lenR x = some i) : okV (.int i) := by
  cases x with
  | bytes b =>
    cases e
    have := (show okB b from h).1
    exact ⟨by omega, by omega⟩
  | none => cases e
  | bool b => cases e
  | int j => cases e
theorem stepL_ok {wd : Int} {r : R} {xs zs : List RV} (h0 : 1 ≤ wd) (h1 : wd ≤ 17) (h : ∀ x ∈ xs, okV x) (e : stepL wd r xs = some zs) : zs.length = xs.length ∧ ∀ z ∈ zs, okV z := by
  unfold stepL at e
  split at e
  · cases e; exact ⟨List.length_set, okV_set h (okV_getD h _)⟩
  split at e
  · cases e; exact ⟨List.length_set, okV_set h (okV_getD okV_consts _)⟩
  split at e
  · cases e; exact ⟨List.length_set, okV_set h trivial⟩
  split at e
  · obtain ⟨i, he, rfl⟩ := Option.map_eq_some_iff.mp e
    exact ⟨List.length_set, okV_set h (reck_small h0 h1 he)⟩
  split at e
  · obtain ⟨i, he, rfl⟩ := Option.map_eq_some_iff.mp e
    exact ⟨List.length_set, okV_set h (reck_small h0 h1 he)⟩
  split at e
  · cases e; exact ⟨List.length_set, okV_set h trivial⟩
  split at e
  · obtain ⟨i, he, rfl⟩ := Option.map_eq_some_iff.mp e
    exact ⟨List.length_set, okV_set h (len_small (okV_getD h _) he)⟩
  · obtain ⟨b, he, rfl⟩ := Option.map_eq_some_iff.mp e
    exact ⟨List.length_set, okV_set h (catAt_ok h he)⟩
def pend (p : R) : Nat := if p.t = 0 ∧ 6 ≤ p.a then (p.a - 5).toNat else 0
def agree (q : Nat) (xs ys : List RV) : Prop := ∀ i : Nat, (i < 5 ∨ (6 ≤ i ∧ i < 6 + q)) → xs.getD i .none = ys.getD i .none
theorem agree_opd {q : Nat} {xs ys : List RV} (h : agree q xs ys) {k : Int} (hk : okOpd k) : opd1 xs k = opd1 ys k := by
  unfold opd1
  split
  · refine h _ (.inl ?_)
    unfold okOpd at hk; omega
  · rfl
theorem agree_set {xs ys : List RV} (hl : xs.length = ys.length) {q q' a : Nat} (h : agree q xs ys) (v : RV) (hq : ∀ i, (6 ≤ i ∧ i < 6 + q') → i = a ∨ i < 6 + q) (ha : a < xs.length) : agree q' (xs.set a v) (ys.set a v) := by
  intro i hi
  by_cases e : a = i
  · subst e
    rw [getD_set_eq ha, getD_set_eq (hl ▸ ha)]
  · rw [getD_set_ne e, getD_set_ne e]
    rcases hi with hi | hi
    · exact h i (.inl hi)
    · exact h i (.inr ⟨hi.1, (hq i hi).resolve_left (fun k => e k.symm)⟩)
theorem agree_cat {q n : Nat} {xs ys : List RV} (h : agree q xs ys) (hn : n ≤ q) : catAt xs n = catAt ys n := by
  unfold catAt
  congr 2
  refine List.map_congr_left fun j hj => ?_
  have := List.mem_range.mp hj
  rw [h (6 + j) (.inr ⟨by omega, by omega⟩)]
theorem step_agree {p r r' : R} {wd : Int} {xs ys : List RV} (hok : okR p r r') (hx : xs.length = 17) (hy : ys.length = 17) (h : agree (pend p) xs ys) :
    (stepL wd r xs = none ∧ stepL wd r ys = none) ∨ ∃ zs us, stepL wd r xs = some zs ∧ stepL wd r ys = some us ∧ agree (pend r) zs us := by
  revert hok hx hy h
  revert p r r' wd xs ys
  refine (?k509k : KB6 ?f509f); refine ep6 (by repeat' (first | infer_instance | exact ne_world | exact ne_shared | exact ne_around | exact ⟨.none⟩ | exact ⟨⟨0, 0, 0, 0⟩⟩ | refine ne_prod ?_ ?_)) ?_; apply (?f509f _ _ _ _ _ _); (try any_goals exact default); intros p r r' wd xs ys; refine Bx.mk ?_
  intro hok hx hy h
  have hl : xs.length = ys.length := by rw [hx, hy]
  have z : ∀ {a : Nat} (v : RV), a < 17 → pend r = 0 → agree (pend r) (xs.set a v) (ys.set a v) := fun v ha hp => agree_set hl h v (by rw [hp]; intro i hi; omega) (by omega)
  have reg : ∀ {k : Int}, 0 ≤ k ∧ k < 5 → xs.getD k.toNat .none = ys.getD k.toNat .none := fun hk => h _ (.inl (by omega))
  have opt : ∀ {α : Type} (o : Option α) (f : α → RV) {a : Nat}, a < 17 → pend r = 0 → (o.map (fun i => xs.set a (f i)) = none ∧ o.map (fun i => ys.set a (f i)) = none) ∨ ∃ zs us, o.map (fun i => xs.set a (f i)) = some zs ∧ o.map (fun i => ys.set a (f i)) = some us ∧ agree (pend r) zs us := by
    intro α o f a ha hp
    cases o with
    | none => exact .inl ⟨rfl, rfl⟩
    | some i => exact .inr ⟨_, _, rfl, rfl, z _ ha hp⟩
  have ps : r.t ≠ 0 → pend r = 0 := fun k => if_neg fun q => k q.1
  unfold stepL
  rcases hok with ⟨ht, ha, hb, hc⟩ | ⟨ht, ha, hb, hc⟩ | ⟨ht, ha, hb, hc, hn⟩ | ⟨ht, ha, hb, hc⟩ | ⟨ht, ha, hb, hc⟩ | ⟨ht, ha, hb, hc, hp⟩
  · rw [if_pos ht, if_pos ht]
    refine .inr ⟨_, _, rfl, rfl, ?_⟩
    rw [reg hb]
    refine agree_set hl h _ (fun i hi => ?_) (by omega)
    unfold pend at hi ⊢
    rw [ht] at hi
    simp only [true_and] at hi
    rcases ha with ha | ⟨ha, ha2, ha3⟩
    · rw [if_neg (by omega)] at hi; omega
    · rw [if_pos ha] at hi
      rcases ha3 with e | ⟨e1, e2⟩
      · omega
      · by_cases e3 : i = r.a.toNat
        · exact .inl e3
        · rw [if_pos ⟨e1, by omega⟩]; omega
  · rw [if_neg (by omega), if_pos ht, if_neg (by omega), if_pos ht]
    exact .inr ⟨_, _, rfl, rfl, z _ (by omega) (ps (by omega))⟩
  · have n0 : ¬ r.t = 0 := by omega
    have n1 : ¬ r.t = 1 := by omega
    rw [if_neg n0, if_neg n1, if_pos ht, if_neg n0, if_neg n1, if_pos ht]
    exact .inr ⟨_, _, rfl, rfl, z _ (by omega) (ps n0)⟩
  · have n0 : ¬ r.t = 0 := by omega
    have n1 : ¬ r.t = 1 := by omega
    have n2 : ¬ r.t = 2 := by omega
    rw [if_neg n0, if_neg n1, if_neg n2, if_pos ht.2, if_neg n0, if_neg n1, if_neg n2, if_pos ht.2, agree_opd h hb, agree_opd h hc]
    exact opt _ _ (by omega) (ps n0)
  · have n0 : ¬ r.t = 0 := by omega
    have n1 : ¬ r.t = 1 := by omega
    have n2 : ¬ r.t = 2 := by omega
    have n3 : ¬ r.t < 18 := by omega
    rw [if_neg n0, if_neg n1, if_neg n2, if_neg n3, if_neg n0, if_neg n1, if_neg n2, if_neg n3, reg hb]
    split
    · exact opt _ _ (by omega) (ps n0)
    · split
      · exact .inr ⟨_, _, rfl, rfl, z _ (by omega) (ps n0)⟩
      · rw [if_pos (by omega), if_pos (by omega)]
        exact opt _ _ (by omega) (ps n0)
  · have n0 : ¬ r.t = 0 := by omega
    have n1 : ¬ r.t = 1 := by omega
    have n2 : ¬ r.t = 2 := by omega
    have n3 : ¬ r.t < 18 := by omega
    have n4 : ¬ r.t = 18 := by omega
    have n5 : ¬ r.t = 19 := by omega
    have n6 : ¬ r.t = 20 := by omega
    have hq : (r.c - 5).toNat ≤ pend p := by unfold pend; rw [if_pos ⟨hp.1, by omega⟩]; omega
    rw [if_neg n0, if_neg n1, if_neg n2, if_neg n3, if_neg n4, if_neg n5, if_neg n6, if_neg n0, if_neg n1, if_neg n2, if_neg n3, if_neg n4, if_neg n5, if_neg n6, agree_cat h hq]
    exact opt _ _ (by omega) (ps n0)
/-- between two rows of the stepper's run -/
def InvS (rows : List R) (wd : Int) (xs0 : List RV) (pc : Int) (ys : List RV) : Prop :=
  ∃ n xs, rows.length ≤ pc.toNat + n ∧ runL rows wd rows.length 0 xs0 = runL rows wd n pc xs ∧ agree (pend (prevAt rows pc)) xs ys ∧ xs.length = 17 ∧ (∀ x ∈ xs, okV x) ∧ ys.length = 17 ∧ (∀ y ∈ ys, okV y) ∧ 0 ≤ pc ∧ pc < rows.length
theorem InvS.start {rows : List R} {wd : Int} {xs : List RV} (h : okRows rows) (hl : xs.length = 17) (hx : ∀ x ∈ xs, okV x) : InvS rows wd xs 0 xs :=
  ⟨rows.length, xs, by simp, rfl, fun _ _ => rfl, hl, hx, hl, hx, Int.le_refl _, by have := (okRows_len h).1; omega⟩
theorem runL_step {rows : List R} {wd i : Int} {n : Nat} {xs zs : List RV} (ht : (rowAt rows i).t ≠ 30) (e : stepL wd (rowAt rows i) xs = some zs) : runL rows wd (n + 1) i xs = runL rows wd n (i + shift (rowAt rows i)) zs := by
  simp only [runL, if_neg ht, e]
theorem runL_stop {rows : List R} {wd i : Int} {n : Nat} {xs : List RV} (ht : (rowAt rows i).t ≠ 30) (e : stepL wd (rowAt rows i) xs = none) : runL rows wd (n + 1) i xs = .stopped i := by
  simp only [runL, if_neg ht, e]
theorem runL_ret {rows : List R} {wd i : Int} {n : Nat} {xs : List RV} (ht : (rowAt rows i).t = 30) : runL rows wd (n + 1) i xs = .back (xs.take 5) := by
  simp only [runL, if_pos ht]
theorem shift_ok {rows : List R} (h : okRows rows) {pc : Int} (h0 : 0 ≤ pc) (h1 : pc + 1 < rows.length) (hr : okR (prevAt rows pc) (rowAt rows pc) (rowAt rows (pc + 1))) : 0 < shift (rowAt rows pc) ∧ pc + shift (rowAt rows pc) < rows.length ∧ pend (prevAt rows (pc + shift (rowAt rows pc))) = pend (rowAt rows pc) := by
  unfold shift
  by_cases e : (rowAt rows pc).t = 2 ∧ (rowAt rows pc).c ≠ 0
  · rw [if_pos e]
    have hn : (rowAt rows (pc + 1)).t = 0 ∧ (rowAt rows (pc + 1)).a < 5 := by
      rcases hr with h | h | h | h | h | h
      · exact absurd (h.1.symm.trans e.1) (by decide)
      · exact absurd (h.1.symm.trans e.1) (by decide)
      · exact h.2.2.2.2
      · have := h.1; omega
      · have := h.1; omega
      · exact absurd (h.1.symm.trans e.1) (by decide)
    have h2 : pc + 2 < rows.length := by
      rcases okRows_at h (i := pc + 1) (by omega) h1 with ⟨_, k⟩ | ⟨k, _⟩
      · rw [k] at hn; exact absurd hn.1 (by decide)
      · omega
    refine ⟨by omega, h2, ?_⟩
    have ep : prevAt rows (pc + 2) = rowAt rows (pc + 1) := by
      unfold prevAt
      rw [if_neg (by omega), show pc + 2 - 1 = pc + 1 by omega]
    rw [ep]
    unfold pend
    rw [if_neg (by omega), if_neg (by omega)]
  · rw [if_neg e]
    refine ⟨by omega, h1, ?_⟩
    have ep : prevAt rows (pc + 1) = rowAt rows pc := by
      unfold prevAt
      rw [if_neg (by omega), show pc + 1 - 1 = pc by omega]
    rw [ep]
theorem t_not30 {p r r' : R} (h : okR p r r') : r.t ≠ 30 := nhi (okR_bd' h).1.2 (by decide)
theorem InvS.step {rows : List R} {wd : Int} {xs0 : List RV} {pc : Int} {ys ys' : List RV} (h0 : 1 ≤ wd) (h1 : wd ≤ 17) (hr : okRows rows) (I : InvS rows wd xs0 pc ys) (h2 : pc + 1 < rows.length) (hs : StepS wd (rowAt rows pc) ys true ys') : InvS rows wd xs0 (pc + shift (rowAt rows pc)) ys' := by
  obtain ⟨n, xs, hn, hrun, hag, hxl, hxo, hyl, hyo, hp0, hp1⟩ := I
  have hok := (okRows_at hr hp0 hp1).resolve_left (fun k => by omega)
  have hsh := shift_ok hr hp0 hok.1 hok.2
  obtain ⟨zs, he, hl', hne, hokc, hsix⟩ := (hs.resolve_left fun k => Bool.noConfusion k.1).2
  obtain ⟨m, rfl⟩ : ∃ m, n = m + 1 := ⟨n - 1, by omega⟩
  rcases step_agree (wd := wd) hok.2 hxl hyl hag with ⟨_, e2⟩ | ⟨zs1, us, e1, e2, hag2⟩
  · rw [e2] at he; cases he
  rw [e2] at he
  cases he
  have k1 := stepL_ok h0 h1 hxo e1
  have k2 := stepL_ok h0 h1 hyo e2
  refine ⟨m, zs1, by omega, ?_, ?_, k1.1.trans hxl, k1.2, hl', ?_, by omega, hsh.2.1⟩
  · rw [hrun, runL_step (t_not30 hok.2) e1]
  · rw [hsh.2.2]
    by_cases e : (rowAt rows pc).t = 21
    · intro i hi
      have hz : pend (rowAt rows pc) = 0 := if_neg (by omega)
      rw [hz] at hi
      have hi5 : i < 5 := by omega
      rw [hsix i (by omega)]
      exact hag2 i (.inl hi5)
    · rw [hne e]; exact hag2
  · by_cases e : (rowAt rows pc).t = 21
    · exact hokc e
    · rw [hne e]; exact k2.2
theorem InvS.stop {rows : List R} {wd : Int} {xs0 : List RV} {pc : Int} {ys ys' : List RV} (hr : okRows rows) (I : InvS rows wd xs0 pc ys) (h2 : pc + 1 < rows.length) (hs : StepS wd (rowAt rows pc) ys false ys') : runL rows wd rows.length 0 xs0 = .stopped pc := by
  obtain ⟨n, xs, hn, hrun, hag, hxl, hxo, hyl, hyo, hp0, hp1⟩ := I
  have hok := (okRows_at hr hp0 hp1).resolve_left (fun k => by omega)
  have he := (hs.resolve_right fun k => Bool.noConfusion k.1).2
  obtain ⟨m, rfl⟩ : ∃ m, n = m + 1 := ⟨n - 1, by omega⟩
  rcases step_agree (wd := wd) hok.2 hxl hyl hag with ⟨e1, _⟩ | ⟨zs1, us, e1, e2, hag2⟩
  · rw [hrun, runL_stop (t_not30 hok.2) e1]
  · rw [e2] at he; cases he
theorem take5 {xs ys : List RV} {q : Nat} (hx : xs.length = 17) (hy : ys.length = 17) (h : agree q xs ys) : xs.take 5 = ys.take 5 := by
  apply List.ext_getElem?
  intro i
  by_cases hi : i < 5
  · have := h i (.inl hi)
    rw [List.getElem?_take_of_lt hi, List.getElem?_take_of_lt hi]
    simp only [List.getD_eq_getElem?_getD] at this
    rw [List.getElem?_eq_getElem (by omega), List.getElem?_eq_getElem (by omega)] at this ⊢
    simpa using this
  · rw [List.getElem?_eq_none (by simp; omega), List.getElem?_eq_none (by simp; omega)]
theorem InvS.ret {rows : List R} {wd : Int} {xs0 : List RV} {pc : Int} {ys : List RV} (I : InvS rows wd xs0 pc ys) (h2 : (rowAt rows pc).t = 30) : runL rows wd rows.length 0 xs0 = .back (ys.take 5) := by
  obtain ⟨n, xs, hn, hrun, hag, hxl, hxo, hyl, hyo, hp0, hp1⟩ := I
  obtain ⟨m, rfl⟩ : ∃ m, n = m + 1 := ⟨n - 1, by omega⟩
  rw [hrun, runL_ret h2, take5 hxl hyl hag]
end Mine
end
section
namespace Mine
local macro_rules | `(tactic| k_mem) => `(tactic| first | assumption | (refine mem_of ?_; assumption))
def nameOf (t : Int) : Str := if t = 0 then Str.ofString "MOVE" else if t = 1 then Str.ofString "LOADK" else if t = 2 then Str.ofString "LOADBOOL" else if t = 3 then Str.ofString "LOADNIL" else if t = 12 then Str.ofString "ADD" else if t = 13 then Str.ofString "SUB" else if t = 14 then Str.ofString "MUL" else if t = 15 then Str.ofString "DIV" else if t = 16 then Str.ofString "MOD" else if t = 17 then Str.ofString "POW" else if t = 18 then Str.ofString "UNM" else if t = 19 then Str.ofString "NOT" else if t = 20 then Str.ofString "LEN" else if t = 21 then Str.ofString "CONCAT" else Str.ofString "RETURN"
theorem fmod_of (x y : Int) : x - y * x.fdiv y = x.fmod y := by have := Int.fmod_add_mul_fdiv x y; omega
def reckO (k : Nat) (a b wd : Int) : Option Int := if noRes k a b = true then none else some (arithW k a b wd)
theorem rk_none {k : Nat} {x y wd : Int} (h : noRes k x y = true) : OI (reckO k x y wd) .none := by unfold reckO; rw [if_pos h]; rfl
theorem rk_some {k : Nat} {x y wd v : Int} {t : Tok} (h : noRes k x y = false) (e : v = arithW k x y wd) : OI (reckO k x y wd) (.int v t) := by unfold reckO; rw [if_neg (by rw [h]; exact Bool.false_ne_true), e]; exact ⟨_, rfl⟩
theorem nr_z {k : Nat} {x : Int} (h : k = 3 ∨ k = 4) {y : Int} (hy : y = 0) : noRes k x y = true := by subst hy; rcases h with rfl | rfl <;> rfl
theorem nr_nz {k : Nat} {x y : Int} (h : k = 3 ∨ k = 4) (hy : ¬ y = 0) : noRes k x y = false := by
  unfold noRes
  rcases h with rfl | rfl <;> simp [hy]
theorem nr_p {x y : Int} (hx : x = 0) (hy : y < 0) : noRes 5 x y = true := by subst hx; unfold noRes; simp [hy]
theorem nr_np {x y : Int} (h : ¬ (x = 0 ∧ y < 0)) : noRes 5 x y = false := by
  unfold noRes
  by_cases hx : x = 0
  · have hy : ¬ y < 0 := fun k => h ⟨hx, k⟩
    simp [hx, hy]
  · simp [hx]
theorem div_same {x y : Int} (h : (decide (x < 0) == decide (y < 0)) = true) : (if x < 0 then -x else x).fdiv (if y < 0 then -y else y) = divT x y := by
  unfold divT
  rw [bne_eq_false_iff_eq.mpr (beq_iff_eq.mp h)]
  exact (if_neg Bool.false_ne_true).symm
theorem div_diff {x y : Int} (h : (decide (x < 0) == decide (y < 0)) = false) : 0 - (if x < 0 then -x else x).fdiv (if y < 0 then -y else y) = divT x y := by
  unfold divT
  rw [if_pos (bne_iff_ne.mpr (beq_eq_false_iff_ne.mp h)), Int.zero_sub]
theorem pow_nn {x y wd : Int} (h1 : 1 ≤ wd) (h : ¬ y < 0) : wrapW ((Builtin.powMod (x % (2 : Int) ^ wd.toNat).toNat y.natAbs ((2 : Int) ^ wd.toNat).natAbs : Nat) : Int) wd = arithW 5 x y wd := by
  show _ = powW x y wd
  unfold powW
  rw [if_neg h, wrap_pow h1 (by omega)]
theorem pow_one {x y wd : Int} (hx : x = 1) (h : y < 0) : 1 = arithW 5 x y wd := by
  subst hx
  show _ = powW 1 y wd
  unfold powW
  rw [if_pos h, if_pos rfl]
theorem pow_mone {x y wd : Int} (hx : x = -1) (h : y < 0) (h2 : y.fmod 2 = 0) : 1 = arithW 5 x y wd := by
  subst hx
  show _ = powW (-1) y wd
  unfold powW
  rw [if_pos h, if_neg (by decide), if_pos rfl, if_pos (by rw [fmodK _ _ (by decide)] at h2; exact h2)]
theorem pow_modd {x y wd : Int} (hx : x = -1) (h : y < 0) (h2 : ¬ y.fmod 2 = 0) : -1 = arithW 5 x y wd := by
  subst hx
  show _ = powW (-1) y wd
  unfold powW
  rw [if_pos h, if_neg (by decide), if_pos rfl, if_neg (by rw [fmodK _ _ (by decide)] at h2; exact h2)]
theorem pow_else {x y wd : Int} (h : y < 0) (h1 : ¬ x = 1) (h2 : ¬ x = -1) : 0 = arithW 5 x y wd := by
  show _ = powW x y wd
  unfold powW
  rw [if_pos h, if_neg h1, if_neg h2]
theorem rows_L1r_1 : True := by
  k_with_none
  k_with "EP" => (k_whole; fail_if_success (fail_if_success (rename Below _ _ _ _ => b9_z)))
  k_with "call ref" => (k_here; k_dflt (refine' lwrap_ok _ _ _ _ _ _ _ _ _ _ _ _ _ _ _ _ _ _ _ _ _ _ _ _ _ _ _ _ ?kB ?kF ?kX ?kN ?kT ?kK ?kd ?ku ?q0 ?_; (case kB => k_asm); (case kF => k_asm); (case kX => k_asm); (case kN => k_asm); (case kT => k_asm); (case kK => first | exact rfl | assumption); (case kd => ktr_room); (case ku => ktr_units); (case q0 => assumption); k_whole); intro t_z h'_z tk'_z  F'_z N'_z; (try k_sweep))
  k_with "eval Dict" => (k_here; k_dflt (refine' kdn_eval (knd := PySem.intKind _ _) ?F ?N ?b ?a ?l ?e ?n ?_; (case F => k_asm); (case N => k_asm); (case b => exact Top.nolimit (by k_asm)); (case a => rfl); (case l => rfl); (case e => exact List.cons_ne_nil _ _); (case n => exact Nat.le_of_ble_eq_true rfl)); intro d_z h'_z o_z F'_z N'_z l1_z lo_z hd_z; (try k_lt l1_z))
  k_with "call builtin:pow" => (k_here; (with_reducible show wpAny _ _ (call (Value.builtin "pow") [Value.int _ _, Value.int _ _, Value.int _ _]) _ _ _); (refine pow3_call (by omega) (by assumption) ?_); intro t_z k_z)
  trivial
theorem lreck_ok : ∀ (w : World) (p : Program) (loose : List Str) (mean : ExcName → Option Value) (mg mb : Str → Option Value) (dp un : Nat) (gd : Option (List Code)) (cn : Str) (cs : Scope) (a : Addr) (ccd : Value) (cl : List (Str × Addr)) (outer : List Env) (A₀ : Around) (base h₀ : Heap) (L : Addr) (m : Str → Option Value) (s : Shared) (Q E : Value → Shared → Prop) (news : List (Addr × Obj)) (op x y wd : Int) (tn tx ty tw : Tok), Below A₀ base outer h₀ → Fr h₀ L s.heap m → (Kf w.params).In h₀ → News h₀ L s.heap (news) → Top p loose mean mg mb h₀ → cs.kind = .function → dp + 2 < recursionLimit → un + 16 < cLine → (12 ≤ op ∧ op ≤ 18) → (1 ≤ wd ∧ wd ≤ 17) → (-(2 ^ 17) ≤ x ∧ x ≤ 2 ^ 17) → (-(2 ^ 17) ≤ y ∧ y ≤ 2 ^ 17) → (op = 18 → x = y) → (∀ (r : Value) (h' : Heap) (tk' : Nat), (OI (reckO (op - 12).toNat x y wd) r) → Fr h₀ L h' m → News h₀ L h' (news) → Q (r) { s with heap := h', toks := tk' }) → wpAny (model PySem.Challenge.rw_pc0174_01.row.prog w) (ktrTop dp un gd cn cs L a ccd cl outer) (call (.ref 564) [.str (nameOf op) tn, .int x tx, .int y ty, .int wd tw]) Q E s := by
  k_fill
  refine (?k1k : KBcx ?f1f); refine ep_cx ?_; apply (?f1f _ _ _ _ _ _ _ _ _ _ _ _ _ _ _ _ _ _ _ _ _ _ _); (try any_goals exact default); intros w p loose mean mg mb dp un gd cn cs a ccd cl outer A₀ base h₀ L m s Q E; refine Bx.mk ?_
  refine (?k2k : KB9 ?f2f); refine ep9 (by repeat' (first | infer_instance | exact ne_world | exact ne_shared | exact ne_around | exact ⟨.none⟩ | exact ⟨⟨0, 0, 0, 0⟩⟩ | refine ne_prod ?_ ?_)) ?_; apply (?f2f _ _ _ _ _ _ _ _ _); (try any_goals exact default); intros news op x y wd tn tx ty tw; refine Bx.mk ?_
  intro B F X N T hck hd9 hu9 hop hw hx hy hu hret
  obtain ⟨hx0, hx1⟩ := hx
  obtain ⟨hy0, hy1⟩ := hy
  have hxb : Builtin.Int.intBits x ≤ 64 := intBits_le_64 (by omega) (by omega)
  have hyb : Builtin.Int.intBits y ≤ 64 := intBits_le_64 (by omega) (by omega)
  have hp : 1 < (2 : Int) ^ wd.toNat := by
    have := pow_le (show 1 ≤ wd.toNat by omega)
    omega
  have hyn : y.natAbs < 1073741824 := by omega
  have hyz : (if y < 0 then -y else y).natAbs < 1073741824 := by split <;> omega
  rcases (show op = 12 ∨ op = 13 ∨ op = 14 ∨ op = 15 ∨ op = 16 ∨ op = 17 ∨ op = 18 by omega) with h | h | h | h | h | h | h
  all_goals subst h
  rotate_left 3
  · -- DIV
    simp only [nameOf, Int.reduceEq, if_true, if_false]
    refine wpAny_call ?_
    k_dflt cell_enter
    k_steps
    · exact hret _ _ _ (rk_none (nr_z (.inl rfl) (by assumption))) (by k_asm) (by (rename News h₀ L _ _ => lN); first | exact lN | exact news_tl lN | exact news_tl (news_tl lN) | exact news_tl (news_tl (news_tl lN)))
    · exact hret _ _ _ (rk_some (nr_nz (.inl rfl) (by assumption)) (congrArg (wrapW · wd) (div_same (by assumption)))) (by k_asm) (by (rename News h₀ L _ _ => lN); first | exact lN | exact news_tl lN | exact news_tl (news_tl lN) | exact news_tl (news_tl (news_tl lN)))
    · exact hret _ _ _ (rk_some (nr_nz (.inl rfl) (by assumption)) (congrArg (wrapW · wd) (div_diff (by assumption)))) (by k_asm) (by (rename News h₀ L _ _ => lN); first | exact lN | exact news_tl lN | exact news_tl (news_tl lN) | exact news_tl (news_tl (news_tl lN)))
  · -- MOD
    simp only [nameOf, Int.reduceEq, if_true, if_false]
    refine wpAny_call ?_
    k_dflt cell_enter
    k_steps
    · exact hret _ _ _ (rk_none (nr_z (.inr rfl) (by assumption))) (by k_asm) (by (rename News h₀ L _ _ => lN); first | exact lN | exact news_tl lN | exact news_tl (news_tl lN) | exact news_tl (news_tl (news_tl lN)))
    · exact hret _ _ _ (rk_some (nr_nz (.inr rfl) (by assumption)) (congrArg (wrapW · wd) (fmod_of x y))) (by k_asm) (by (rename News h₀ L _ _ => lN); first | exact lN | exact news_tl lN | exact news_tl (news_tl lN) | exact news_tl (news_tl (news_tl lN)))
  · -- POW
    simp only [nameOf, Int.reduceEq, if_true, if_false]
    refine wpAny_call ?_
    k_dflt cell_enter
    k_steps
    all_goals first
      | exact hret _ _ _ (rk_none (nr_p (by assumption) (by assumption))) (by k_asm) (by (rename News h₀ L _ _ => lN); first | exact lN | exact news_tl lN | exact news_tl (news_tl lN) | exact news_tl (news_tl (news_tl lN)))
      | exact hret _ _ _ (rk_some (nr_np fun q => absurd q.2 (by assumption)) (pow_nn hw.1 (by assumption))) (by k_asm) (by (rename News h₀ L _ _ => lN); first | exact lN | exact news_tl lN | exact news_tl (news_tl lN) | exact news_tl (news_tl (news_tl lN)))
      | exact hret _ _ _ (rk_some (nr_np fun q => absurd q.1 (by omega)) (pow_one (by omega) (by assumption))) (by k_asm) (by (rename News h₀ L _ _ => lN); first | exact lN | exact news_tl lN | exact news_tl (news_tl lN) | exact news_tl (news_tl (news_tl lN)))
      | exact hret _ _ _ (rk_some (nr_np fun q => absurd q.1 (by omega)) (pow_mone (by omega) (by assumption) (by assumption))) (by k_asm) (by (rename News h₀ L _ _ => lN); first | exact lN | exact news_tl lN | exact news_tl (news_tl lN) | exact news_tl (news_tl (news_tl lN)))
      | exact hret _ _ _ (rk_some (nr_np fun q => absurd q.1 (by omega)) (pow_modd (by omega) (by assumption) (by assumption))) (by k_asm) (by (rename News h₀ L _ _ => lN); first | exact lN | exact news_tl lN | exact news_tl (news_tl lN) | exact news_tl (news_tl (news_tl lN)))
      | exact hret _ _ _ (rk_some (nr_np fun q => absurd q.1 (by omega)) (pow_else (by assumption) (by assumption) (by assumption))) (by k_asm) (by (rename News h₀ L _ _ => lN); first | exact lN | exact news_tl lN | exact news_tl (news_tl lN) | exact news_tl (news_tl (news_tl lN)))
  · -- UNM
    simp only [nameOf, Int.reduceEq, if_true, if_false]
    refine wpAny_call ?_
    k_dflt cell_enter
    k_steps
    exact hret _ _ _ (rk_some rfl (by rw [Int.zero_sub]; rfl)) (by k_asm) (by (rename News h₀ L _ _ => lN); first | exact lN | exact news_tl lN | exact news_tl (news_tl lN) | exact news_tl (news_tl (news_tl lN)))
  all_goals
    simp only [nameOf, Int.reduceEq, if_true, if_false]
    refine wpAny_call ?_
    k_dflt cell_enter
    k_steps
    exact hret _ _ _ (rk_some rfl rfl) (by k_asm) (by (rename News h₀ L _ _ => lN); first | exact lN | exact news_tl lN | exact news_tl (news_tl lN) | exact news_tl (news_tl (news_tl lN)))
theorem rows_L1r_2 : True := by
  k_with "call ref" => (k_here; k_dflt (refine' lreck_ok _ _ _ _ _ _ _ _ _ _ _ _ _ _ _ _ _ _ _ _ _ _ _ _ _ _ _ _ _ _ _ _ ?kB ?kF ?kX ?kN ?kT ?kK ?kd ?ku ?q0 ?q1 ?q2 ?q3 ?q4 ?_; (case kB => k_asm); (case kF => k_asm); (case kX => k_asm); (case kN => k_asm); (case kT => k_asm); (case kK => first | exact rfl | assumption); (case kd => ktr_room); (case ku => ktr_units); (case q0 => assumption); (case q1 => assumption); (case q2 => assumption); (case q3 => assumption); (case q4 => first | assumption | omega); k_whole); intro r_z h'_z tk'_z hr_z F'_z N'_z; (try k_sweep))
  trivial
end Mine
end
section
open PySem PySem.W PyProof.Rows PySem.Calls PyProof.Rows.LCg PyProof.Rows.LCt
namespace Mine
section
variable {prog : Program} {w : World} {A : Around} {E : Value → Shared → Prop} {s : Shared} {h₀ : Heap} {L : Addr} {m : Str → Option Value} {env : Env}
def byteP (b : Array UInt8) (i : Nat) (v : Value) : Prop := ∃ c u, b[i]? = some c ∧ v = .int ((c : UInt8).toNat : Int) u
def CompSrcBT (prog : Program) (w : World) (A : Around) (h₀ : Heap) (L : Addr) (m : Str → Option Value) (env : Env) (ct elt : PySem.Expr) (x : Str) (scope : Scope) (cl : List (Str × Addr)) (Fin : Shared → List Value → List (Addr × Obj) → Prop) (xv : Value) (s₁ : Shared) : Prop :=
  ∃ b t news, xv = .bytes b t ∧ A.handled = none ∧ Fr h₀ L s₁.heap m ∧ News h₀ L s₁.heap news ∧ b.size ≤ 1000 ∧
    ∀ s₂ : Shared, (∃ h, s₂ = { s₁ with heap := h }) → CompRestT prog w A h₀ L m env ct elt x scope cl s₂ (fun _ => True) (byteP b) (Fin s₂) b.size 0 [] news
theorem CompSrcBT.intro {ct elt : PySem.Expr} {x : Str} {scope : Scope} {cl : List (Str × Addr)} {Fin : Shared → List Value → List (Addr × Obj) → Prop} {b : Array UInt8} {t : Tok} {news : List (Addr × Obj)} {s₁ : Shared}
    (hh : A.handled = none) (F : Fr h₀ L s₁.heap m) (N : News h₀ L s₁.heap news) (hsz : b.size ≤ 1000)
    (h : ∀ g, CompRestT prog w A h₀ L m env ct elt x scope cl { s₁ with heap := g } (fun _ => True) (byteP b) (Fin { s₁ with heap := g }) b.size 0 [] news) :
    CompSrcBT prog w A h₀ L m env ct elt x scope cl Fin (.bytes b t) s₁ := ⟨b, t, news, rfl, hh, F, N, hsz, fun _ ⟨g, e⟩ => e ▸ h g⟩
theorem bit_st {b : Array UInt8} {t : Tok} {I : Addr} {S : List (Addr × Obj) → Prop} : ∀ i (h h' : Heap) (o : Obj) (nw : List (Addr × Obj)), KBw.IsBytesIter h I b t i → h.get? I = some o → h'.get? I = some o → (∀ b o, h₀.get? b = some o → h'.get? b = some o) → News h₀ L h' nw → S nw → KBw.IsBytesIter h' I b t i :=
  fun i h h' o nw st e e' _ _ _ => by obtain ⟨o', q, r⟩ := st; rw [e] at q; cases q; exact ⟨o, e', r⟩
theorem ListComp_BT {ct elt : PySem.Expr} {y : Str} {ps : Pos} {x : Str} {px : Pos} {scope : Scope} {cl : List (Str × Addr)} {pos : Pos} {Q : Value → Shared → Prop} (F₀ : Fr h₀ L s.heap m)
    (hclos : closureFor scope env = pure cl) (hcell : ∀ y ∈ scope.names, y.2 ≠ .cell) (hkind : scope.kind = .function)
    (hnames : ∀ y ∈ scope.names, y.2 = .local → scope.names.lookup y.1 = some .local) (hx : scope.names.lookup x = some .local)
    (h : wpAny (model prog w) A (eval (.Name y ps) env) (CompSrcBT prog w A h₀ L m env ct elt x scope cl (fun s₂ => FinE h₀ L m s₂ Q)) E s)
    (hs : ∀ x, foldedSetIterable (.Name y ps) env x = pure x := by intro _; rfl) :
    wpAny (model prog w) A (eval (.ListComp elt [⟨.Name x px, .Name y ps, [ct], 0⟩] scope pos) env) Q E s := by
  rw [eval_ListComp]
  refine wpAny_comprehension_free (use := none) rfl hs hclos hkind hnames (wpAny_mono h (fun xv s₁ h₁ => ?_) fun _ _ e => e)
  obtain ⟨b, t, news, rfl, hh, F, N, hsz, R⟩ := h₁
  refine KBw.pyIter_bytes ?_
  have up : ∀ b' o, s₁.heap.get? b' = some o → (s₁.heap.push { cls := .type "bytes_iterator", data := .fields #[.bytes b t, .int 0 0] }).get? b' = some o := fun b' o e => Heap.get?_push_of_some _ e
  refine block_T (KBw.walks hh s₁.heap.objs.size b t) (by rw [sizeLine_eq]; omega) (fun i h st => by obtain ⟨o, e, _⟩ := st; exact ⟨o, e⟩) bit_st hcell hkind hx ⟨_, Heap.get?_push_size _ rfl, rfl, rfl⟩ (fun b' hb => by rw [List.mem_singleton.mp hb, Heap.size_push]; exact Nat.lt_succ_self _)
    (F.keeps up) (N.grown up) (Nat.ne_of_lt F.ns.lt) (next_is_new F) (fun p hp => Nat.ne_of_lt (Heap.lt_size (N p hp).1)) trivial (R _ ⟨_, rfl⟩) ?_
  intro D C h tk m' ys news' F' N' o1 hn hC₀ hD₀ hCL hDL hCD offC fin
  refine ⟨m', hn, fun h'' hs'' => fin D h'' tk (F'.change hs'' hCL hC₀) (fun p hp => ?_) o1⟩
  refine ⟨hs''.extBut _ _ ?_ (N' p hp).1, (N' p hp).2⟩
  rcases List.mem_cons.mp hp with rfl | hp
  · exact Ne.symm hCD
  · exact offC p hp
end
def notDig (k : Int) : Bool := !(decide (48 ≤ k) && decide (k ≤ 57))
theorem bytes_at {b : Array UInt8} {i : Nat} {v : Value} (hi : i < b.size) (h : byteP b i v) : ∃ u, v = .int ((KBw.bInts b).getD i 0) u := by
  obtain ⟨c, u, hc, rfl⟩ := h
  have := KBw.ints_get hc
  exact ⟨u, by rw [List.getD_eq_getElem?_getD, this]; rfl⟩
theorem filt_snoc {p : Int → Bool} {l : List Int} {i : Nat} (h : i < l.length) : (l.take (i + 1)).filter p = (l.take i).filter p ++ (if p (l.getD i 0) = true then [l.getD i 0] else []) := by
  rw [take_snoc l i h, List.filter_append]
  congr 1
  rw [List.filter_cons]
  cases p (l.getD i 0) <;> rfl
theorem tw_all : ∀ {l : List Int}, l.filter notDig = [] → l.takeWhile isDig = l
  | [], _ => rfl
  | k :: l, h => by
    have hk : notDig k = false := by
      cases e : notDig k with
      | false => rfl
      | true => rw [List.filter_cons_of_pos e] at h; cases h
    have hd : isDig k = true := by unfold notDig at hk; unfold isDig; simpa using hk
    rw [List.filter_cons_of_neg (by rw [hk]; exact Bool.false_ne_true)] at h
    rw [List.takeWhile_cons_of_pos hd, tw_all h]
theorem tw_part : ∀ {l : List Int}, l.filter notDig ≠ [] → (l.takeWhile isDig).length ≠ l.length
  | [], h => absurd rfl h
  | k :: l, h => by
    cases e : isDig k with
    | false => rw [List.takeWhile_cons_of_neg (by rw [e]; exact Bool.false_ne_true)]; simp
    | true =>
      rw [List.takeWhile_cons_of_pos e]
      have hk : notDig k = false := by unfold notDig; unfold isDig at e; simpa using e
      rw [List.filter_cons_of_neg (by rw [hk]; exact Bool.false_ne_true)] at h
      have := tw_part h
      simpa using this
theorem lnum_eq (l : List Int) (a : Int) : l.foldl (fun a k => 10 * a + k - 48) a = l.foldl (fun a k => a * 10 + (k - 48)) a := by
  congr 1
  funext a k
  omega
def lawNum (neg : Bool) (l : List Int) (wd : Int) : Option Int := if l = [] ∨ l.filter notDig ≠ [] then none else some (wrapW (if neg = true then 0 - l.foldl (fun a k => 10 * a + k - 48) 0 else l.foldl (fun a k => 10 * a + k - 48) 0) wd)
theorem lawNum_eq {b : Array UInt8} {neg : Bool} {wd : Int} (hs : signAt b = if neg = true then 1 else 0) : lawNum neg ((KBw.bInts b).drop (signAt b).toNat) wd = parseB b wd := by
  have hl : (((KBw.bInts b).drop (signAt b).toNat).length : Int) = b.size - signAt b := drop_len (sign_bd b).1 (sign_bd b).2.2
  unfold lawNum
  by_cases h0 : (KBw.bInts b).drop (signAt b).toNat = []
  · rw [if_pos (.inl h0)]
    have : digsAt b (signAt b) = [] := by unfold digsAt; rw [h0]; rfl
    exact (if_pos (.inl this)).symm
  · by_cases h1 : ((KBw.bInts b).drop (signAt b).toNat).filter notDig = []
    · rw [if_neg (by simp [h0, h1])]
      have hd : digsAt b (signAt b) = (KBw.bInts b).drop (signAt b).toNat := tw_all h1
      rw [parse_some (by
        rw [hd]
        have : 0 < ((KBw.bInts b).drop (signAt b).toNat).length := List.length_pos_iff.mpr h0
        omega) (by rw [hd]; omega), hd]
      congr 2
      rw [lnum_eq]
      cases neg
      · rw [if_neg Bool.false_ne_true, if_neg (by rw [hs]; decide)]; rfl
      · rw [if_pos rfl, if_pos (by rw [hs]; rfl), Int.zero_sub]; rfl
    · rw [if_pos (.inr h1)]
      refine (parse_none2 ?_).symm
      have := tw_part h1
      unfold digsAt
      omega
end Mine
end
section
namespace Mine
local macro_rules | `(tactic| k_mem) => `(tactic| first | assumption | (refine mem_of ?_; assumption))
theorem cut_one {τ β : Type} {M : Model} {A : Around} {t : Sem β} {E : Value → Shared → Prop} {Q : β → Shared → Prop} {s : Shared} {g : Heap} {L : Addr} {m : Str → Option Value} {news : List (Addr × Obj)} (v : β) (n1 : Str) (f1 : τ → Option Value) (_ : Fr g L s.heap m) (_ : News g L s.heap news)
    (h : wpAny M A t (CutT g L s (fun x y => if y = n1 then f1 x else m y) news v) E s)
    (k : ∀ x h tk, Fr g L h (fun y => if y = n1 then f1 x else m y) → News g L h news → Q v { s with heap := h, toks := tk }) : wpAny M A t Q E s :=
  wpAny_mono h (by rintro b s' ⟨rfl, x, h, tk, rfl, F, N⟩; exact k x h tk F N) fun _ _ e => e
theorem ints_inj {b c : Array UInt8} (h : KBw.bInts b = KBw.bInts c) : b = c := by
  apply Array.toList_inj.mp
  unfold KBw.bInts at h
  exact (List.map_inj_right fun x y e => UInt8.toNat_inj.mp (Int.ofNat.inj e)).mp h
theorem clip_one (n : Nat) : clipAt n 1 = min 1 n := by unfold clipAt; rw [if_neg (by decide)]; omega
theorem cut_hd {b : Array UInt8} {ks : List Int} (hk : KBw.bInts b = ks) (h : KBw.bInts (KBy.picked b none (some 1)) = ks.take (clipAt ks.length 1)) : ((KBy.picked b none (some 1)).toList == #[45].toList) = decide (signAt b = 1) := by
  rw [clip_one] at h
  have hz : b.size = ks.length := by rw [← hk, KBw.ints_length]
  rw [Bool.eq_iff_iff, beq_iff_eq, decide_eq_true_iff, Array.toList_inj]
  have hc : signAt b = 1 ↔ (0 < ks.length ∧ ks.getD 0 0 = 45) := by
    unfold signAt cB
    rw [hk, hz]
    show (if 0 < ks.length ∧ ks.getD 0 0 = 45 then (1 : Int) else 0) = 1 ↔ _
    by_cases e : 0 < ks.length ∧ ks.getD 0 0 = 45
    · exact ⟨fun _ => e, fun _ => if_pos e⟩
    · rw [if_neg e]
      exact ⟨fun h => absurd h (by decide), fun h => absurd h e⟩
  rw [hc]
  constructor
  · intro e
    rw [e] at h
    cases ks with
    | nil => exact absurd h (by decide)
    | cons k ks =>
      rw [show min 1 (k :: ks).length = 1 by simp] at h
      have : [(45 : Int)] = [k] := h
      cases this
      exact ⟨by simp, rfl⟩
  · rintro ⟨e1, e2⟩
    refine ints_inj (h.trans ?_)
    cases ks with
    | nil => cases e1
    | cons k ks =>
      have : k = 45 := e2
      subst this
      rw [show min 1 ((45 : Int) :: ks).length = 1 by simp]
      rfl
theorem cut_tl {b : Array UInt8} {ks : List Int} (h : KBw.bInts (KBy.picked b (some 1) none) = List.take (ks.length - clipAt ks.length 1) (List.drop (clipAt ks.length 1) ks)) : KBw.bInts (KBy.picked b (some 1) none) = ks.drop 1 := by
  rw [clip_one] at h
  rw [h, List.take_of_length_le (by simp)]
  cases ks with
  | nil => rfl
  | cons k ks => rw [show min 1 (k :: ks).length = 1 by simp]
def FigP (b : Array UInt8) (ks : List Int) (c : Array UInt8) : Prop := KBw.bInts c = ks.drop (signAt b).toNat
theorem fig_yes {b c : Array UInt8} {ks : List Int} (h : decide (signAt b = 1) = true) (hc : KBw.bInts c = ks.drop 1) : FigP b ks c := by
  have h : signAt b = 1 := of_decide_eq_true h
  unfold FigP
  rw [h]; exact hc
theorem fig_no {b : Array UInt8} {ks : List Int} (hk : KBw.bInts b = ks) (h : decide (signAt b = 1) = false) : FigP b ks b := by
  have h : signAt b ≠ 1 := of_decide_eq_false h
  have h2 : signAt b = 0 := by have := sign_bd b; omega
  unfold FigP
  rw [h2]; exact hk
theorem filt_isEmpty {ys : List Value} {l : List Int} (h : IntsAre ys l) : ys.toArray.isEmpty = decide (l = []) := by
  cases h <;> rfl
theorem lnum_none {l : List Int} {neg : Bool} {wd : Int} (h : l = [] ∨ l.filter notDig ≠ []) : lawNum neg l wd = none := if_pos h
theorem lnum_some {l : List Int} {neg : Bool} {wd : Int} (h : l ≠ []) (h2 : l.filter notDig = []) : lawNum neg l wd = some (wrapW (if neg = true then 0 - l.foldl (fun a k => 10 * a + k - 48) 0 else l.foldl (fun a k => 10 * a + k - 48) 0) wd) := if_neg fun k => k.elim h fun q => q h2
theorem sign_neg (b : Array UInt8) : signAt b = if decide (signAt b = 1) = true then 1 else 0 := by
  by_cases h : signAt b = 1
  · rw [if_pos (decide_eq_true h), h]
  · rw [if_neg (by simpa using h)]; have := sign_bd b; omega
theorem fig_nil {c : Array UInt8} {f : List Int} (hf : KBw.bInts c = f) : (c.toList == #[].toList) = decide (f = []) := by
  rw [Bool.eq_iff_iff, beq_iff_eq, decide_eq_true_iff, ← hf]
  unfold KBw.bInts
  simp
theorem rows_L1n_1 : True := by
  k_with_none
  k_with "EP" => (k_whole; fail_if_success (fail_if_success (rename Below _ _ _ _ => b9_z)))
  k_with "call ref" => (k_here; k_dflt (refine' lwrap_ok _ _ _ _ _ _ _ _ _ _ _ _ _ _ _ _ _ _ _ _ _ _ _ _ _ _ _ _ ?kB ?kF ?kX ?kN ?kT ?kK ?kd ?ku ?q0 ?_; (case kB => k_asm); (case kF => k_asm); (case kX => k_asm); (case kN => k_asm); (case kT => k_asm); (case kK => first | exact rfl | assumption); (case kd => ktr_room); (case ku => ktr_units); (case q0 => assumption); k_whole); intro t_z h'_z tk'_z  F'_z N'_z; (try k_sweep))
  k_with "eval ListComp" => (k_here; k_dflt (refine ListComp_BT (F₀ := by k_asm) (by rfl) (by decide) (by rfl) (by decide) (by rfl) ?_))
  k_with "exec Assign" => ((rename StopAt => hsA_z); clear hsA_z; refine Stop.un ?_)
  k_with "compareOp NotEq ref ref" => (k_here; k_dflt (refine' ne_nilK ?k1 ?k2 ?k3 ?_; (case k1 => first | exact lst_isL (by k_asm) (by k_mem) | exact new_isL (by k_asm) (by k_mem)); (case k2 => first | exact lst_isL (by k_asm) (by k_mem) | exact new_isL (by k_asm) (by k_mem)); (case k3 => first | units_room | ktr_units); k_whole))
  k_with "CompSrcBT" => (refine Stop.un ?_)
  k_with "pyIter bytes" => ((with_reducible show wpAny _ _ (pyIter (Value.bytes _ _)) (fun it s₂ => LoopAtV _ _ _ _ _ _ _ _ _ it s₂) _ _); refine Stop.un ?_)
  trivial
theorem lnumber_ok : ∀ (w : World) (p : Program) (loose : List Str) (mean : ExcName → Option Value) (mg mb : Str → Option Value) (dp un : Nat) (gd : Option (List Code)) (cn : Str) (cs : Scope) (a : Addr) (ccd : Value) (cl : List (Str × Addr)) (outer : List Env) (A₀ : Around) (base h₀ : Heap) (L : Addr) (m : Str → Option Value) (s : Shared) (Q E : Value → Shared → Prop) (news : List (Addr × Obj)) (x : RV) (v : Value) (wd : Int) (tw : Tok), Below A₀ base outer h₀ → Fr h₀ L s.heap m → (Kf w.params).In h₀ → News h₀ L s.heap (news) → Top p loose mean mg mb h₀ → cs.kind = .function → dp + 2 < recursionLimit → un + 16 < cLine → (x.Is v) → (okV x) → (1 ≤ wd ∧ wd ≤ 17) → (∀ (r : Value) (h' : Heap) (tk' : Nat), (OI (numRV x wd) r) → Fr h₀ L h' m → News h₀ L h' (news) → Q (r) { s with heap := h', toks := tk' }) → wpAny (model PySem.Challenge.rw_pc0174_01.row.prog w) (ktrTop dp un gd cn cs L a ccd cl outer) (call (.ref 550) [v, .int wd tw]) Q E s := by
  k_fill
  refine (?k1k : KBcx ?f1f); refine ep_cx ?_; apply (?f1f _ _ _ _ _ _ _ _ _ _ _ _ _ _ _ _ _ _ _ _ _ _ _); (try any_goals exact default); intros w p loose mean mg mb dp un gd cn cs a ccd cl outer A₀ base h₀ L m s Q E; refine Bx.mk ?_
  refine (?k2k : KB5 ?f2f); refine ep5 (by repeat' (first | infer_instance | exact ne_world | exact ne_shared | exact ne_around | exact ⟨.none⟩ | exact ⟨⟨0, 0, 0, 0⟩⟩ | refine ne_prod ?_ ?_)) ?_; apply (?f2f _ _ _ _ _); (try any_goals exact default); intros news x v wd tw; refine Bx.mk ?_
  intro B F X N T hck hd9 hu9 hx hv hw hret
  cases x with
  | bytes b =>
    obtain ⟨t1, rfl⟩ := hx
    have hv' : okB b := hv
    revert hret hv' hv
    revert b t1
    intro b t1
    set_option tactic.hygienic false in intros
    obtain ⟨ks, hk⟩ : ∃ ks, KBw.bInts b = ks := ⟨_, rfl⟩
    revert ks
    intro ks
    set_option tactic.hygienic false in intros
    have hkz : ks.length ≤ 12 := by rw [← hk, KBw.ints_length]; exact hv'.1
    have hsA : StopAt := trivial
    refine wpAny_call ?_
    k_dflt cell_enter
    k_steps
    refine Stop.mk ?_
    (rename Fr _ _ _ _ => lF'); (rename News _ _ _ _ => lN')
    refine cut_one (τ := {x : Array UInt8 × Tok // FigP b ks x.1}) Flow.next (Str.ofString "figures") (fun x => some (.bytes x.1.1 x.1.2)) lF' lN' ?cut ?rest
    case cut =>
      k_steps
      · (rename Fr _ _ _ _ => lF); (rename News _ _ _ _ => lN)
        exact CutT.mk ⟨(_, _), fig_yes ((cut_hd hk (by assumption)).symm.trans (by assumption)) (cut_tl (by assumption))⟩ lF lN
      · (rename Fr _ _ _ _ => lF); (rename News _ _ _ _ => lN)
        exact CutT.mk ⟨(_, _), fig_no hk ((cut_hd hk (by assumption)).symm.trans (by assumption))⟩ lF lN
    case rest =>
      clear lF' lN'
      rintro ⟨⟨c, tc⟩, hfig⟩ h₂ tk₂ F2 N2
      revert F2 N2 hfig
      revert c tc h₂ tk₂
      intro c tc h₂ tk₂
      set_option tactic.hygienic false in intros
      have hres := lawNum_eq (b := b) (wd := wd) (sign_neg b)
      rw [hk] at hres
      unfold FigP at hfig
      dsimp only at hfig F2
      have hfz : (ks.drop (signAt b).toNat).length ≤ 12 := by rw [List.length_drop]; omega
      generalize ks.drop (signAt b).toNat = f at hfig hres hfz
      have hcz : c.size = f.length := by rw [← hfig, KBw.ints_length]
      have hfn := fig_nil hfig
      k_steps
      · refine hret _ _ _ ?_ (by k_asm) (by k_asm)
        show OI (parseB b wd) _
        rw [← hres, lnum_none (.inl (of_decide_eq_true (hfn.symm.trans (by assumption))))]
        rfl
      have hf0 : f ≠ [] := of_decide_eq_false (hfn.symm.trans (by assumption))
      refine Stop.mk ?_
      refine CompSrcBT.intro (by rfl) (by k_asm) (by k_asm) (by omega) ?_
      intro g'
      refine compT_inv (n := c.size) (fun i ys nw => nw = _ ∧ IntsAre ys ((f.take i).filter notDig)) ?turn ?fin c.size 0 [] _ (Nat.zero_add _) ⟨rfl, .nil⟩
      case turn =>
        refine (?k3k : KB13 ?f3f); refine ep13 (by repeat' (first | infer_instance | exact ne_world | exact ne_shared | exact ne_around | exact ⟨.none⟩ | exact ⟨⟨0, 0, 0, 0⟩⟩ | refine ne_prod ?_ ?_)) ?_; apply (?f3f _ _ _ _ _ _ _ _ _ _ _ _ _); (try any_goals exact default); intros i ys nW v I oI C oC D m₂ h₃ tk₃ E'; refine Bx.mk ?_
        intros hi hj hv hC hx' F3 N3 off2 ne2
        obtain ⟨rfl, hys⟩ := hj
        obtain ⟨u, rfl⟩ := bytes_at hi hv
        revert u
        intro u
        set_option tactic.hygienic false in intros
        rw [hfig] at hx'
        have hsn := filt_snoc (p := notDig) (l := f) (i := i) (by omega)
        generalize f.getD i 0 = k at hx' hsn
        k_steps
        all_goals (refine LCg.CompEnd.intro (by k_asm) (by assumption) _ (fun _ hp => hp) (by assumption) trivial ⟨rfl, ?_⟩; rw [hsn])
        · rw [show notDig k = false by unfold notDig; simp [‹48 ≤ k›, ‹k ≤ 57›], if_neg Bool.false_ne_true, List.append_nil]
          exact hys
        all_goals (rw [show notDig k = true by unfold notDig; simp; omega, if_pos rfl]; exact ints_snoc hys)
      case fin =>
        intro ys nW hj
        obtain ⟨rfl, hys⟩ := hj
        rw [hcz, List.take_length] at hys
        have hem := filt_isEmpty hys
        k_steps
        rotate_left 1
        · refine hret _ _ _ ?_ (by k_asm) (by (rename News h₀ L _ _ => lN); exact fun p hp => lN p (by simp [hp]))
          show OI (parseB b wd) _
          rw [← hres, lnum_none (.inr (of_decide_eq_false (hem.symm.trans (by assumption))))]
          rfl
        have hfe : f.filter notDig = [] := of_decide_eq_true (hem.symm.trans (by assumption))
        refine Stop.mk ?_
        (rename Fr _ _ _ _ => lF'); (rename News _ _ _ _ => lN')
        refine KBw.iterBytes_acc1 (y := Str.ofString "number") (c₀ := 0) (fun a k => 10 * a + k - 48) hfig (by rfl) lF' lN' (by rfl) ?turn ?done
        case turn =>
          clear lF' lN'
          intro k t a ta h₄ tk₄ own hkm hk0 hk1 hoff F4 N4
          k_steps
          (rename News _ _ _ _ => lN); (rename Fr _ _ _ _ => lF)
          exact InvEndN.intro (nx := _ :: _ :: nW) lF lN ⟨rfl, ⟨_, by with_unfolding_all rfl⟩, by intro z h1 h2; simp only [h1, h2, if_false]⟩ rfl (fun p hp => List.mem_append_left _ hp) (fun p hp => List.mem_append_right _ hp)
        case done =>
          clear lF' lN'
          intro u t h₄ tk₄ F4 N4
          k_steps
          all_goals
            (have hsg := (cut_hd hk (by assumption)).symm.trans (by assumption)
             refine hret _ _ _ ?_ (by k_asm) (by (rename News h₀ L _ _ => lN); exact fun p hp => lN p (by simp [hp]))
             show OI (parseB b wd) _
             rw [← hres, lnum_some hf0 hfe, hsg])
          · exact ⟨_, rfl⟩
          · exact ⟨_, rfl⟩
  | none =>
    simp only [RV.Is] at hx
    (try obtain ⟨t1, rfl⟩ := hx)
    (try subst hx)
    refine wpAny_call ?_
    k_dflt cell_enter
    k_steps
    exact hret _ _ _ (by first | exact rfl | exact ⟨_, rfl⟩) (by k_asm) (by k_asm)
  | bool b9 =>
    simp only [RV.Is] at hx
    (try obtain ⟨t1, rfl⟩ := hx)
    (try subst hx)
    revert hret hv
    (first | (revert b9 t1; intro b9 t1) | (revert b9; intro b9))
    set_option tactic.hygienic false in intros
    refine wpAny_call ?_
    k_dflt cell_enter
    k_steps
    exact hret _ _ _ (by first | exact rfl | exact ⟨_, rfl⟩) (by k_asm) (by k_asm)
  | int b9 =>
    simp only [RV.Is] at hx
    (try obtain ⟨t1, rfl⟩ := hx)
    (try subst hx)
    revert hret hv
    (first | (revert b9 t1; intro b9 t1) | (revert b9; intro b9))
    set_option tactic.hygienic false in intros
    refine wpAny_call ?_
    k_dflt cell_enter
    k_steps
    exact hret _ _ _ (by first | exact rfl | exact ⟨_, rfl⟩) (by k_asm) (by k_asm)
theorem rows_L1n_2 : True := by
  k_with "call ref" => (k_here; k_dflt (refine' lnumber_ok _ _ _ _ _ _ _ _ _ _ _ _ _ _ _ _ _ _ _ _ _ _ _ _ _ _ _ _ ?kB ?kF ?kX ?kN ?kT ?kK ?kd ?ku ?q0 ?q1 ?q2 ?_; (case kB => k_asm); (case kF => k_asm); (case kX => k_asm); (case kN => k_asm); (case kT => k_asm); (case kK => first | exact rfl | assumption); (case kd => ktr_room); (case ku => ktr_units); (case q0 => first | assumption | exact Is_none | exact Is_bool _ | exact Is_int _ _ | exact Is_bytes _ _ | exact RVs.getD _ (by assumption)); (case q1 => first | assumption | exact okV_getD (by assumption) _); (case q2 => assumption); k_whole); intro r_z h'_z tk'_z hr_z F'_z N'_z; (try k_sweep))
  trivial
end Mine
end
section
open PySem PySem.W PyProof.Rows PySem.Calls PySem.Builtin PySem.Builtin._codecs
namespace Mine
theorem ascii_ok {x : Str} (h : ∀ c ∈ x.cps, c < 128) : x.cps.findIdx? Str.isSurrogate = none := by
  rw [Array.findIdx?_eq_none_iff]
  intro c hc
  have := h c hc
  unfold Str.isSurrogate
  simp; omega
theorem fold_ascii : ∀ (l : List Nat) (acc : Array UInt8), (∀ c ∈ l, c < 128) → l.foldl (fun acc y => acc ++ (Str.utf8Of y).toArray) acc = acc ++ (l.map Nat.toUInt8).toArray
  | [], acc, _ => by simp
  | c :: l, acc, h => by
    have hc : Str.utf8Of c = [c.toUInt8] := if_pos (h c (.head _))
    simp only [List.foldl_cons, List.map_cons]
    rw [fold_ascii l _ fun d hd => h d (.tail _ hd), hc]
    apply Array.toList_inj.mp
    simp
theorem fold_cps {x : Str} (h : ∀ c ∈ x.cps, c < 128) : x.cps.foldl (fun acc y => acc ++ (Str.utf8Of y).toArray) #[] = (x.cps.toList.map Nat.toUInt8).toArray := by
  rw [← Array.foldl_toList, fold_ascii _ _ fun c hc => h c (Array.mem_toList_iff.mp hc)]
  simp
theorem fold_small {x : Str} (h : ∀ c ∈ x.cps, c < 128) : (x.cps.foldl (fun acc y => acc ++ (Str.utf8Of y).toArray) #[]).size = x.cps.size := by
  rw [fold_cps h]; simp
theorem narrow_ascii {id : String} {self : Value} {x : Str} (h : ∀ c ∈ x.cps, c < 128) (hz : 0 < x.cps.size) (hle : x.cps.size ≤ 1000) :
    encodeNarrow id utf8Codec none self x = pure (x.cps.foldl (fun acc y => acc ++ (Str.utf8Of y).toArray) #[]) := by
  revert h hz hle
  revert id self x
  refine (?k501k : KB3 ?f501f); refine ep3 (by repeat' (first | infer_instance | exact ne_world | exact ne_shared | exact ne_around | exact ⟨.none⟩ | exact ⟨⟨0, 0, 0, 0⟩⟩ | refine ne_prod ?_ ?_)) ?_; apply (?f501f _ _ _); (try any_goals exact default); intros id self x; refine Bx.mk ?_
  intro h hz hle
  obtain ⟨n, hn⟩ : ∃ n, x.length = n + 1 := ⟨x.cps.size - 1, by show x.cps.size = _; omega⟩
  revert n
  refine (?k502k : KB1 ?f502f); refine ep1 (by repeat' (first | infer_instance | exact ne_world | exact ne_shared | exact ne_around | exact ⟨.none⟩ | exact ⟨⟨0, 0, 0, 0⟩⟩ | refine ne_prod ?_ ?_)) ?_; apply (?f502f _); (try any_goals exact default); intros n; refine Bx.mk ?_
  set_option tactic.hygienic false in intros
  have hn' : x.cps.size = n + 1 := hn
  unfold encodeNarrow
  dsimp only
  rw [Std.Legacy.Range.forIn_eq_forIn_range', hn]
  simp only [Std.Legacy.Range.size, Nat.sub_zero, Nat.add_sub_cancel, Nat.div_one]
  rw [List.range'_succ, List.forIn_cons]
  have h0 : x.cps[0]? = some (x.cps[0]'hz) := by simp [hz]
  have hb : utf8Codec.bad (x.cps[0]'hz) = false := by
    have := h _ (Array.getElem_mem hz)
    show Str.isSurrogate _ = false
    unfold Str.isSurrogate
    simp; omega
  have he : x.cps.extract 0 x.cps.size = x.cps := by simp
  have hf : x.cps.findIdx? utf8Codec.bad = none := ascii_ok h
  simp only [h0, hb, he, hf, Option.getD_none]
  rw [if_neg (show ¬ (#[] : Array UInt8).size > sizeLine by rw [sizeLine_eq]; decide), if_pos (by rfl)]
  have eo : (x.cps.foldl (fun acc y => acc ++ (utf8Codec.bytesOf y).toArray) #[]) = x.cps.foldl (fun acc y => acc ++ (Str.utf8Of y).toArray) #[] := rfl
  rw [eo]
  have hs := fold_small h
  generalize x.cps.foldl (fun acc y => acc ++ (Str.utf8Of y).toArray) #[] = out at hs ⊢
  have hE : x.cps[0 + x.cps.size]? = none := by simp
  cases n with
  | zero => rfl
  | succ n =>
    simp only [pure_bind, List.range'_succ, List.forIn_cons, hE, if_neg (show ¬ out.size > sizeLine by rw [sizeLine_eq]; omega)]

theorem cps_of (s : String) : (Str.ofString s).cps = (s.toList.map Char.toNat).toArray := by rw [Str.ofString_eq_toList]
theorem dec_cps (i : Int) : ((toString i).toList.map fun c => (c.toNat : Int)) = decI i := by
  unfold decI
  rw [Int.toString_eq_repr, Int.repr_eq_if]
  by_cases h : i < 0
  · rw [if_neg (by omega), if_pos h, String.toList_append, Nat.toList_repr]
    unfold digs
    rw [List.map_append]
    congr 1
    rw [show (-i).toNat = i.natAbs by omega]
  · rw [if_pos (by omega), if_neg h, Nat.toList_repr]
    unfold digs
    rw [List.nil_append, show i.toNat = i.natAbs by omega]
theorem int_cps (i : Int) : ∀ c ∈ (Str.ofString (toString i)).cps, c < 128 := by
  intro c hc
  rw [cps_of] at hc
  obtain ⟨d, hd, rfl⟩ := List.mem_map.mp (List.mem_toArray.mp hc)
  exact int_ascii i d hd
theorem int_bytes (i : Int) : (Str.ofString (toString i)).cps.foldl (fun acc y => acc ++ (Str.utf8Of y).toArray) #[] = decB i := by
  rw [fold_cps (int_cps i), cps_of]
  unfold decB byteArr
  rw [← dec_cps]
  simp
theorem int_len {i : Int} (h : okV (.int i)) : 0 < (Str.ofString (toString i)).cps.size ∧ (Str.ofString (toString i)).cps.size ≤ 1000 := by
  have e : (Str.ofString (toString i)).cps.size = (decI i).length := by rw [cps_of, ← dec_cps]; simp
  rw [e]
  have h2 : (decI i).length ≤ 7 := by
    have h : -(2 ^ 17) ≤ i ∧ i ≤ 2 ^ 17 := h
    have k := digs_len_le 5 i.natAbs (by omega)
    unfold decI
    rw [List.length_append]
    split <;> simp <;> omega
  refine ⟨?_, by omega⟩
  unfold decI digs
  have : 0 < (Nat.toDigits 10 i.natAbs).length := by
    by_cases hk : i.natAbs < 10
    · rw [Nat.toDigits_of_lt_base hk]; simp
    · rw [Nat.toDigits_of_base_le (by decide) (by omega)]; simp
  simp only [List.length_append, List.length_map]
  omega
section
variable {prog : Program} {w : World} {A : Around} {E : Value → Shared → Prop} {s : Shared}
theorem encode_call {i : Int} {t : Tok} {Q : Value → Shared → Prop} (hi : okV (.int i)) (h : ∀ u k, Q (.bytes (decB i) u) { s with toks := k }) : wpAny (model prog w) A (call (.builtin "str.encode") [.str (Str.ofString (toString i)) t]) Q E s := by
  refine wpAny_call_entry F.slot_str_encode (typeIs_str s _ _) F.entry_str_encode ?_ (F.args_str_encode_1 _)
  rw [encode_tree, encodeRoad_utf8, narrow_ascii (int_cps i) (int_len hi).1 (int_len hi).2, int_bytes]
  refine wpAny_bind (wpAny_bind (wpAny_pure (wpAny_mkBytes ?_ ?_)))
  · exact wpAny_pure ⟨_, rfl, h _ _⟩
  · have e := fold_small (int_cps i)
    rw [int_bytes] at e
    rw [e, sizeLine_eq]
    exact Nat.le_trans (int_len hi).2 (by decide)
theorem encode_method {x : Str} {t : Tok} {pl : Sem Bool} {Q : Value × List Value → Shared → Prop} (h : Q (.builtin "str.encode", [.str x t]) s) : wpAny (model prog w) A (getMethod (.str x t) "encode" pl) Q E s :=
  getMethod_builtin (typeIs_str s x t) F.plainAttrs_str F.slot_str_encode F.type_str_encode (fun a e => by cases e) h
theorem str_call {i : Int} {t : Tok} {Q : Value → Shared → Prop} (hi : okV (.int i)) (h : Q (.str (Str.ofString (toString i)) s.toks) { s with toks := s.toks + 1 }) : wpAny (model prog w) A (call (.type "str") [.int i t]) Q E s := by
  refine PySem.P.str_of_int ?_ h
  have h : -(2 ^ 17) ≤ i ∧ i ≤ 2 ^ 17 := hi
  by_cases h0 : i.natAbs = 0
  · rw [h0]; decide
  · exact Nat.lt_trans ((Nat.log2_lt h0).mpr (show i.natAbs < 2 ^ 18 by omega)) (by decide)
end
end Mine
end
section
namespace Mine
local macro_rules | `(tactic| k_mem) => `(tactic| first | assumption | (refine mem_of ?_; assumption))
theorem rows_L1t_1 : True := by
  k_with_none
  k_with "EP" => (k_whole; fail_if_success (fail_if_success (rename Below _ _ _ _ => b9_z)))
  k_with "call type:str" => (k_here; (with_reducible show wpAny _ _ (call (Value.type "str") [Value.int _ _]) _ _ _); (refine str_call (by assumption) ?_))
  k_with "getMethod str" => (k_here; (with_reducible refine encode_method ?_))
  k_with "call builtin:str.encode" => (k_here; (with_reducible show wpAny _ _ (call (Value.builtin "str.encode") [Value.str _ _]) _ _ _); (refine encode_call (by assumption) ?_); intro u_z k_z)
  trivial
theorem ltext_ok : ∀ (w : World) (p : Program) (loose : List Str) (mean : ExcName → Option Value) (mg mb : Str → Option Value) (dp un : Nat) (gd : Option (List Code)) (cn : Str) (cs : Scope) (a : Addr) (ccd : Value) (cl : List (Str × Addr)) (outer : List Env) (A₀ : Around) (base h₀ : Heap) (L : Addr) (m : Str → Option Value) (s : Shared) (Q E : Value → Shared → Prop) (news : List (Addr × Obj)) (x : RV) (v : Value), Below A₀ base outer h₀ → Fr h₀ L s.heap m → (Kf w.params).In h₀ → News h₀ L s.heap (news) → Top p loose mean mg mb h₀ → cs.kind = .function → dp + 1 < recursionLimit → un + 8 < cLine → (x.Is v) → (okV x) → (∀ (r : Value) (h' : Heap) (tk' : Nat), (OB (textRV x) r) → Fr h₀ L h' m → News h₀ L h' (news) → Q (r) { s with heap := h', toks := tk' }) → wpAny (model PySem.Challenge.rw_pc0174_01.row.prog w) (ktrTop dp un gd cn cs L a ccd cl outer) (call (.ref 557) [v]) Q E s := by
  k_fill
  refine (?k1k : KBcx ?f1f); refine ep_cx ?_; apply (?f1f _ _ _ _ _ _ _ _ _ _ _ _ _ _ _ _ _ _ _ _ _ _ _); (try any_goals exact default); intros w p loose mean mg mb dp un gd cn cs a ccd cl outer A₀ base h₀ L m s Q E; refine Bx.mk ?_
  refine (?k2k : KB3 ?f2f); refine ep3 (by repeat' (first | infer_instance | exact ne_world | exact ne_shared | exact ne_around | exact ⟨.none⟩ | exact ⟨⟨0, 0, 0, 0⟩⟩ | refine ne_prod ?_ ?_)) ?_; apply (?f2f _ _ _); (try any_goals exact default); intros news x v; refine Bx.mk ?_
  intro B F X N T hck hd9 hu9 hx hv hret
  rcases x with _ | b9 | b9 | b9 <;> simp only [RV.Is] at hx <;> (try obtain ⟨t1, rfl⟩ := hx) <;> (try subst hx)
  all_goals ((try revert hret); (try revert hv); (first | (revert b9 t1; intro b9 t1) | (revert b9; intro b9) | skip); (set_option tactic.hygienic false in intros))
  all_goals (refine wpAny_call ?_; k_dflt cell_enter; k_steps)
  all_goals exact hret _ _ _ (by first | exact rfl | exact ⟨_, rfl⟩) (by k_asm) (by k_asm)
theorem rows_L1t_2 : True := by
  k_with "call ref" => (k_here; k_dflt (refine' ltext_ok _ _ _ _ _ _ _ _ _ _ _ _ _ _ _ _ _ _ _ _ _ _ _ _ _ _ ?kB ?kF ?kX ?kN ?kT ?kK ?kd ?ku ?q0 ?q1 ?_; (case kB => k_asm); (case kF => k_asm); (case kX => k_asm); (case kN => k_asm); (case kT => k_asm); (case kK => first | exact rfl | assumption); (case kd => ktr_room); (case ku => ktr_units); (case q0 => first | assumption | exact Is_none | exact Is_bool _ | exact Is_int _ _ | exact Is_bytes _ _ | exact RVs.getD _ (by assumption)); (case q1 => first | assumption | exact okV_getD (by assumption) _); k_whole); intro r_z h'_z tk'_z hr_z F'_z N'_z; (try k_sweep))
  trivial
end Mine
end
section
namespace Mine

local macro_rules | `(tactic| k_mem) => `(tactic| first | assumption | (refine mem_of ?_; assumption))
theorem rows_L1b_1 : True := by
  k_with_none
  k_with "EP" => (k_whole; fail_if_success (fail_if_success (rename Below _ _ _ _ => b9_z)))
  k_with "subscriptTail" => (k_here; (with_reducible show wpAny _ _ (subscriptTail _ _ (Value.ref _) (Value.int _ _)) _ _ _); k_dflt (refine' kv_sub ?k1 ?k2 ?k4 ?k5 ?k6 ?_ ?k7; (case k1 => k_asm); (case k2 => k_mem); (case k4 => first | omega | l_fact); (case k5 => first | omega | l_fact); (case k6 => first | omega | l_fact); (case k7 => with_unfolding_all rfl); k_whole))
  k_with "subscriptTail" => (k_here; (with_reducible show wpAny _ _ (subscriptTail _ _ (Value.ref 510) (Value.int _ _)) _ _ _); k_dflt (refine' cst_sub ?k1 ?k2 ?k3 ?k4 ?_; (case k1 => first | assumption | (constructor <;> omega)); (case k2 => k_asm); (case k3 => k_asm); (case k4 => with_unfolding_all rfl); k_whole); intro _ _)
  trivial
theorem lvalue_ok : ∀ (w : World) (p : Program) (loose : List Str) (mean : ExcName → Option Value) (mg mb : Str → Option Value) (dp un : Nat) (gd : Option (List Code)) (cn : Str) (cs : Scope) (a : Addr) (ccd : Value) (cl : List (Str × Addr)) (outer : List Env) (A₀ : Around) (base h₀ : Heap) (L : Addr) (m : Str → Option Value) (s : Shared) (Q E : Value → Shared → Prop) (news : List (Addr × Obj)) (xs : List RV) (vs : List Value) (st : Addr) (n : Nat) (k : Int) (tk : Tok), Below A₀ base outer h₀ → Fr h₀ L s.heap m → (Kf w.params).In h₀ → News h₀ L s.heap (news) → Top p loose mean mg mb h₀ → cs.kind = .function → dp + 1 < recursionLimit → un + 8 < cLine → ((st, listOf vs.toArray n) ∈ news) → (RVs xs vs) → (okOp k xs.length) → (∀ (v : Value) (h' : Heap) (tk' : Nat), ((opd1 xs k).Is v) → Fr h₀ L h' m → News h₀ L h' (news) → Q (v) { s with heap := h', toks := tk' }) → wpAny (model PySem.Challenge.rw_pc0174_01.row.prog w) (ktrTop dp un gd cn cs L a ccd cl outer) (call (.ref 571) [.ref st, .int k tk]) Q E s := by
  k_fill
  refine (?k1k : KBcx ?f1f); refine ep_cx ?_; apply (?f1f _ _ _ _ _ _ _ _ _ _ _ _ _ _ _ _ _ _ _ _ _ _ _); (try any_goals exact default); intros w p loose mean mg mb dp un gd cn cs a ccd cl outer A₀ base h₀ L m s Q E; refine Bx.mk ?_
  refine (?k2k : KB7 ?f2f); refine ep7 (by repeat' (first | infer_instance | exact ne_world | exact ne_shared | exact ne_around | exact ⟨.none⟩ | exact ⟨⟨0, 0, 0, 0⟩⟩ | refine ne_prod ?_ ?_)) ?_; apply (?f2f _ _ _ _ _ _ _); (try any_goals exact default); intros news xs vs st n k tk; refine Bx.mk ?_
  intro B F X N T hck hd9 hu9 hm hx hk hret
  have hl := hx.length
  have hk2 : (255 < k ∧ 0 ≤ k - 256 ∧ k - 256 < 6) ∨ (¬ 255 < k ∧ 0 ≤ k ∧ k < vs.length) := by unfold okOp at hk; omega
  rcases hk2 with ⟨h0, h1, h2⟩ | ⟨h0, h1, h2⟩
  · refine wpAny_call ?_
    k_dflt cell_enter
    k_steps
    all_goals first
      | (exfalso; omega)
      | (refine hret _ _ _ ?_ (by k_asm) (by k_asm); unfold opd1; rw [if_neg (by omega)]; assumption)
  · refine wpAny_call ?_
    k_dflt cell_enter
    k_steps
    all_goals first
      | (exfalso; omega)
      | (refine hret _ _ _ ?_ (by k_asm) (by k_asm); unfold opd1; rw [if_pos (by omega)]; exact hx.getD _)
theorem rows_L1b_2 : True := by
  k_with "call ref" => (k_here; k_dflt (refine' lvalue_ok _ _ _ _ _ _ _ _ _ _ _ _ _ _ _ _ _ _ _ _ _ _ _ _ _ _ _ _ _ _ ?kB ?kF ?kX ?kN ?kT ?kK ?kd ?ku ?q0 ?q1 ?q2 ?_; (case kB => k_asm); (case kF => k_asm); (case kX => k_asm); (case kN => k_asm); (case kT => k_asm); (case kK => first | exact rfl | assumption); (case kd => ktr_room); (case ku => ktr_units); (case q0 => k_mem); (case q1 => assumption); (case q2 => assumption); k_whole); intro v_z h'_z tk'_z hv_z F'_z N'_z; (try k_sweep))
  trivial
end Mine
end
section
open PySem PySem.W PyProof.Rows PySem.Calls PySem.Builtin PySem.SeqAt PySem.MeetsSeq
namespace Mine
section
variable {A : Around} {s : Shared}
theorem bytes_eq_none (b : Array UInt8) (t : Tok) : Gives (Builtin.«bytes.__eq__» ⟨[.bytes b t, .none], []⟩) (.val (Value.notImplemented)) :=
  .of_wp fun M A E s Q h => by
    show wpAny _ _ (PySem.isInstance .none (.type "bytes") >>= fun _ => _) _ _ _
    refine wpAny_bind (wpAny_isInstance (T := "NoneType") (b := false) rfl F.sub_NoneType_bytes ?_)
    show wpAny _ _ (rule _ >>= fun _ => _) _ _ _
    exact wpAny_bind (wpAny_rule (wpAny_pure ⟨_, rfl, h⟩))
theorem none_eq_bytes (b : Array UInt8) (t : Tok) : Gives (Builtin.«NoneType.__eq__» ⟨[.none, .bytes b t], []⟩) (.val (Value.notImplemented)) :=
  .of_wp fun M A E s Q h => by obtain ⟨hp, g, d, tk, os⟩ := s; wp_walk; exact ⟨_, rfl, h⟩
theorem rc_bytes_none (b : Array UInt8) (t : Tok) : RcAt A s (.bytes b t) .none false := fun prog w E Q h =>
  rc_eq_decline_or (k := false) (typeIs_bytes s b t) rfl (by decide) F.sub_NoneType_bytes FB.slot_bytes_eq F.slot_NoneType_eq_refl
    (fun _ hq => call_gives FB.slot_bytes_eq (typeIs_bytes s b t) FB.entry_bytes_eq (FB.args_bytes_eq_2 _ _) (bytes_eq_none b t) hq)
    (fun _ hq => call_gives F.slot_NoneType_eq_refl rfl F.entry_NoneType_eq (F.args_NoneType_eq_2 _ _) (none_eq_bytes b t) hq)
    (fun _ hq => wpAny_of_eq (rfl : isSame (.bytes b t) .none = pure false) hq) (.inl rfl) h
theorem eq_bytes_none (b : Array UInt8) (t : Tok) : EqAt A s (.bytes b t) .none false := fun prog w E Q h => by
  unfold eqBool
  refine wpAny_holding ?_
  refine wpAny_ite_split (fun hab => absurd (eq_of_beq hab) nofun) (fun _ => ?_)
  exact wpAny_bind (rc_bytes_none b t prog w E _ (wpAny_truthy_bool h))
end
end Mine
end
section
namespace Mine
local macro_rules | `(tactic| k_mem) => `(tactic| first | assumption | (refine mem_of ?_; assumption))
def MadeIs : Option RV → List Value → Prop
  | none, zs => zs = []
  | some x, zs => ∃ v, zs = [v] ∧ x.Is v
theorem nm_ar {op : Int} (h : 12 ≤ op ∧ op < 18) : (nameOf op == Str.ofString "CONCAT") = false ∧ ([Str.ofString "NOT", Str.ofString "LEN", Str.ofString "UNM"].any (· == nameOf op)) = false := by
  rcases (show op = 12 ∨ op = 13 ∨ op = 14 ∨ op = 15 ∨ op = 16 ∨ op = 17 by omega) with h | h | h | h | h | h <;> subst h <;> decide +kernel
theorem nm_un : (nameOf 18 == Str.ofString "CONCAT") = false ∧ ([Str.ofString "NOT", Str.ofString "LEN", Str.ofString "UNM"].any (· == nameOf 18)) = true ∧ (nameOf 18 == Str.ofString "NOT") = false ∧ (nameOf 18 == Str.ofString "LEN") = false := by decide +kernel
theorem nm_not : (nameOf 19 == Str.ofString "CONCAT") = false ∧ ([Str.ofString "NOT", Str.ofString "LEN", Str.ofString "UNM"].any (· == nameOf 19)) = true ∧ (nameOf 19 == Str.ofString "NOT") = true := by decide +kernel
theorem nm_len : (nameOf 20 == Str.ofString "CONCAT") = false ∧ ([Str.ofString "NOT", Str.ofString "LEN", Str.ofString "UNM"].any (· == nameOf 20)) = true ∧ (nameOf 20 == Str.ofString "NOT") = false ∧ (nameOf 20 == Str.ofString "LEN") = true := by decide +kernel
theorem nm_cat : (nameOf 21 == Str.ofString "CONCAT") = true := by decide +kernel
theorem reck_O {k : Nat} {x y : RV} {wd i j : Int} (h1 : numRV x wd = some i) (h2 : numRV y wd = some j) : reckW k x y wd = reckO k i j wd := by unfold reckW reckO; rw [h1, h2]
theorem made_n {o : Option Int} (h : o = none) : MadeIs (o.map RV.int) [] := by subst h; rfl
theorem made_i {o : Option Int} {i : Int} {t : Tok} (h : o = some i) : MadeIs (o.map RV.int) [.int i t] := by subst h; exact ⟨_, rfl, _, rfl⟩
theorem rows_L1m_1 : True := by
  k_with_none
  k_with "EP" => (k_whole; fail_if_success (fail_if_success (rename Below _ _ _ _ => b9_z)))
  k_with "call ref" => (k_here; k_dflt (refine' lnumber_ok _ _ _ _ _ _ _ _ _ _ _ _ _ _ _ _ _ _ _ _ _ _ _ _ _ _ _ _ ?kB ?kF ?kX ?kN ?kT ?kK ?kd ?ku ?q0 ?q1 ?q2 ?_; (case kB => k_asm); (case kF => k_asm); (case kX => k_asm); (case kN => k_asm); (case kT => k_asm); (case kK => first | exact rfl | assumption); (case kd => ktr_room); (case ku => ktr_units); (case q0 => first | assumption | exact Is_none | exact Is_bool _ | exact Is_int _ _ | exact Is_bytes _ _ | exact RVs.getD _ (by assumption)); (case q1 => first | assumption | exact okV_getD (by assumption) _); (case q2 => assumption); k_whole); intro r_z h'_z tk'_z hr_z F'_z N'_z; (try k_sweep))
  k_with "call ref" => (k_here; k_dflt (refine' lreck_ok _ _ _ _ _ _ _ _ _ _ _ _ _ _ _ _ _ _ _ _ _ _ _ _ _ _ _ _ _ _ _ _ ?kB ?kF ?kX ?kN ?kT ?kK ?kd ?ku ?q0 ?q1 ?q2 ?q3 ?q4 ?_; (case kB => k_asm); (case kF => k_asm); (case kX => k_asm); (case kN => k_asm); (case kT => k_asm); (case kK => first | exact rfl | assumption); (case kd => ktr_room); (case ku => ktr_units); (case q0 => assumption); (case q1 => assumption); (case q2 => assumption); (case q3 => assumption); (case q4 => first | assumption | omega); k_whole); intro r_z h'_z tk'_z hr_z F'_z N'_z; (try k_sweep))
  k_with "call ref" => (k_here; k_dflt (refine' lvalue_ok _ _ _ _ _ _ _ _ _ _ _ _ _ _ _ _ _ _ _ _ _ _ _ _ _ _ _ _ _ _ ?kB ?kF ?kX ?kN ?kT ?kK ?kd ?ku ?q0 ?q1 ?q2 ?_; (case kB => k_asm); (case kF => k_asm); (case kX => k_asm); (case kN => k_asm); (case kT => k_asm); (case kK => first | exact rfl | assumption); (case kd => ktr_room); (case ku => ktr_units); (case q0 => k_mem); (case q1 => assumption); (case q2 => assumption); k_whole); intro v_z h'_z tk'_z hv_z F'_z N'_z; (try k_sweep))
  k_with "subscriptTail" => (k_here; (with_reducible show wpAny _ _ (subscriptTail _ _ (Value.ref _) (Value.int _ _)) _ _ _); k_dflt (refine' kv_sub ?k1 ?k2 ?k4 ?k5 ?k6 ?_ ?k7; (case k1 => k_asm); (case k2 => k_mem); (case k4 => first | omega | l_fact); (case k5 => first | omega | l_fact); (case k6 => first | omega | l_fact); (case k7 => with_unfolding_all rfl); k_whole))
  k_with "compareOp Is" => (k_here; (rename OI _ _ => qq_z); refine Stop.un ?_)
  trivial
theorem lmade_ar : ∀ (w : World) (p : Program) (loose : List Str) (mean : ExcName → Option Value) (mg mb : Str → Option Value) (dp un : Nat) (gd : Option (List Code)) (cn : Str) (cs : Scope) (a : Addr) (ccd : Value) (cl : List (Str × Addr)) (outer : List Env) (A₀ : Around) (base h₀ : Heap) (L : Addr) (m : Str → Option Value) (s : Shared) (Q E : Value → Shared → Prop) (news : List (Addr × Obj)) (op b c wd : Int) (xs : List RV) (vs : List Value) (ro : Addr) (kg : Nat) (tn tb tc tw : Tok), Below A₀ base outer h₀ → Fr h₀ L s.heap m → (Kf w.params).In h₀ → News h₀ L s.heap (news) → Top p loose mean mg mb h₀ → cs.kind = .function → dp + 4 < recursionLimit → un + 32 < cLine → ((ro, listOf vs.toArray kg) ∈ news) → (RVs xs vs) → (xs.length = 17) → (∀ x ∈ xs, okV x) → (1 ≤ wd ∧ wd ≤ 17) → (12 ≤ op ∧ op < 18) → (okOp b xs.length) → (okOp c xs.length) → (∀ (D : Addr) (zs : List Value) (kz : Nat) (h' : Heap) (tk' : Nat), (MadeIs ((reckW (op - 12).toNat (opd1 xs b) (opd1 xs c) wd).map RV.int) zs) → (∀ p ∈ news, p.1 < D) → Fr h₀ L h' m → News h₀ L h' ((D, listOf zs.toArray kz) :: news) → Q (.ref D) { s with heap := h', toks := tk' }) → wpAny (model PySem.Challenge.rw_pc0174_01.row.prog w) (ktrTop dp un gd cn cs L a ccd cl outer) (call (.ref 576) [.str (nameOf op) tn, .ref ro, .int b tb, .int c tc, .int wd tw]) Q E s := by
  k_fill
  refine (?k1k : KBcx ?f1f); refine ep_cx ?_; apply (?f1f _ _ _ _ _ _ _ _ _ _ _ _ _ _ _ _ _ _ _ _ _ _ _); (try any_goals exact default); intros w p loose mean mg mb dp un gd cn cs a ccd cl outer A₀ base h₀ L m s Q E; refine Bx.mk ?_
  refine (?k2k : KB13 ?f2f); refine ep13 (by repeat' (first | infer_instance | exact ne_world | exact ne_shared | exact ne_around | exact ⟨.none⟩ | exact ⟨⟨0, 0, 0, 0⟩⟩ | refine ne_prod ?_ ?_)) ?_; apply (?f2f _ _ _ _ _ _ _ _ _ _ _ _ _); (try any_goals exact default); intros news op b c wd xs vs ro kg tn tb tc tw; refine Bx.mk ?_
  intro B F X N T hck hd9 hu9 hm hx hxl hok hw hop hkb hkc hret
  have hvb := okV_opd hok b
  have hvc := okV_opd hok c
  obtain ⟨e1, e2⟩ := nm_ar hop
  have hl := hx.length
  refine wpAny_call ?_
  k_dflt cell_enter
  k_steps
  refine Stop.mk ?_
  (rename OI (numRV (opd1 xs c) wd) _ => q2)
  revert q2
  (rename OI (numRV (opd1 xs b) wd) _ => q1)
  intro q2

  rcases OI_cases q1 with ⟨n1, rfl⟩ | ⟨i, ti, n1, rfl⟩
  all_goals (try (revert i ti; intro i ti; (set_option tactic.hygienic false in intros)))
  · clear q1 q2
    k_steps
    exact hret _ _ _ _ _ (made_n (reck_n1 n1)) (by first | exact allLt_all (by assumption) | exact allLt_all (And.right (by assumption)) | exact allLt_all (And.right (And.right (by assumption))) | exact allLt_all (And.right (And.right (And.right (by assumption))))) (by k_asm) (by (rename News h₀ L _ _ => lN); first | exact lN | exact news_mid lN | exact news_mid (news_mid lN) | exact news_mid (news_mid (news_mid lN)) | exact news_mid (news_mid (news_mid (news_mid lN))))
  clear q1
  rcases OI_cases q2 with ⟨n2, rfl⟩ | ⟨j, tj, n2, rfl⟩
  all_goals (try (revert j tj; intro j tj; (set_option tactic.hygienic false in intros)))
  · clear q2
    k_steps
    exact hret _ _ _ _ _ (made_n (reck_n2 n2)) (by first | exact allLt_all (by assumption) | exact allLt_all (And.right (by assumption)) | exact allLt_all (And.right (And.right (by assumption))) | exact allLt_all (And.right (And.right (And.right (by assumption))))) (by k_asm) (by (rename News h₀ L _ _ => lN); first | exact lN | exact news_mid lN | exact news_mid (news_mid lN) | exact news_mid (news_mid (news_mid lN)) | exact news_mid (news_mid (news_mid (news_mid lN))))
  clear q2
  have hi := num_small hvb hw.1 hw.2 n1
  have hj := num_small hvc hw.1 hw.2 n2
  have hu : op = 18 → i = j := fun h => absurd hop.2 (by omega)
  have hop2 : 12 ≤ op ∧ op ≤ 18 := ⟨hop.1, by omega⟩
  have hrk := reck_O (k := (op - 12).toNat) n1 n2
  k_steps
  refine Stop.mk ?_
  (rename OI (reckO _ _ _ _) _ => q3)
  rw [← hrk] at q3
  rcases OI_cases q3 with ⟨n3, rfl⟩ | ⟨v, tv, n3, rfl⟩
  all_goals (try (revert v tv; intro v tv; (set_option tactic.hygienic false in intros)))
  all_goals (clear q3; k_steps)
  · exact hret _ _ _ _ _ (made_n n3) (by first | exact allLt_all (by assumption) | exact allLt_all (And.right (by assumption)) | exact allLt_all (And.right (And.right (by assumption))) | exact allLt_all (And.right (And.right (And.right (by assumption))))) (by k_asm) (by (rename News h₀ L _ _ => lN); first | exact lN | exact news_mid lN | exact news_mid (news_mid lN) | exact news_mid (news_mid (news_mid lN)) | exact news_mid (news_mid (news_mid (news_mid lN))))
  · exact hret _ _ _ _ _ (made_i n3) (by first | exact allLt_all (by assumption) | exact allLt_all (And.right (by assumption)) | exact allLt_all (And.right (And.right (by assumption))) | exact allLt_all (And.right (And.right (And.right (by assumption))))) (by k_asm) (by (rename News h₀ L _ _ => lN); first | exact lN | exact news_mid lN | exact news_mid (news_mid lN) | exact news_mid (news_mid (news_mid lN)) | exact news_mid (news_mid (news_mid (news_mid lN))))

theorem rows_L1m_2 : True := by
  k_with "call ref" => (k_here; k_dflt (refine' lmade_ar _ _ _ _ _ _ _ _ _ _ _ _ _ _ _ _ _ _ _ _ _ _ _ _ _ _ _ _ _ _ _ _ _ _ _ _ ?kB ?kF ?kX ?kN ?kT ?kK ?kd ?ku ?q0 ?q1 ?q2 ?q3 ?q4 ?q5 ?q6 ?q7 ?_; (case kB => k_asm); (case kF => k_asm); (case kX => k_asm); (case kN => k_asm); (case kT => k_asm); (case kK => first | exact rfl | assumption); (case kd => ktr_room); (case ku => ktr_units); (case q0 => k_mem); (case q1 => assumption); (case q2 => assumption); (case q3 => assumption); (case q4 => assumption); (case q5 => assumption); (case q6 => assumption); (case q7 => assumption); k_whole); intro D_z zs_z kz_z h'_z tk'_z hz_z hlt_z F'_z N'_z; (try k_sweep); (try k_lt hlt_z))
  trivial
theorem lmade_um : ∀ (w : World) (p : Program) (loose : List Str) (mean : ExcName → Option Value) (mg mb : Str → Option Value) (dp un : Nat) (gd : Option (List Code)) (cn : Str) (cs : Scope) (a : Addr) (ccd : Value) (cl : List (Str × Addr)) (outer : List Env) (A₀ : Around) (base h₀ : Heap) (L : Addr) (m : Str → Option Value) (s : Shared) (Q E : Value → Shared → Prop) (news : List (Addr × Obj)) (b c wd : Int) (xs : List RV) (vs : List Value) (ro : Addr) (kg : Nat) (tn tb tc tw : Tok), Below A₀ base outer h₀ → Fr h₀ L s.heap m → (Kf w.params).In h₀ → News h₀ L s.heap (news) → Top p loose mean mg mb h₀ → cs.kind = .function → dp + 4 < recursionLimit → un + 32 < cLine → ((ro, listOf vs.toArray kg) ∈ news) → (RVs xs vs) → (xs.length = 17) → (∀ x ∈ xs, okV x) → (1 ≤ wd ∧ wd ≤ 17) → (0 ≤ b ∧ b < 5) → (∀ (D : Addr) (zs : List Value) (kz : Nat) (h' : Heap) (tk' : Nat), (MadeIs ((reckW 6 (xs.getD b.toNat .none) (xs.getD b.toNat .none) wd).map RV.int) zs) → (∀ p ∈ news, p.1 < D) → Fr h₀ L h' m → News h₀ L h' ((D, listOf zs.toArray kz) :: news) → Q (.ref D) { s with heap := h', toks := tk' }) → wpAny (model PySem.Challenge.rw_pc0174_01.row.prog w) (ktrTop dp un gd cn cs L a ccd cl outer) (call (.ref 576) [.str (nameOf 18) tn, .ref ro, .int b tb, .int c tc, .int wd tw]) Q E s := by
  k_fill
  refine (?k3k : KBcx ?f3f); refine ep_cx ?_; apply (?f3f _ _ _ _ _ _ _ _ _ _ _ _ _ _ _ _ _ _ _ _ _ _ _); (try any_goals exact default); intros w p loose mean mg mb dp un gd cn cs a ccd cl outer A₀ base h₀ L m s Q E; refine Bx.mk ?_
  refine (?k4k : KB12 ?f4f); refine ep12 (by repeat' (first | infer_instance | exact ne_world | exact ne_shared | exact ne_around | exact ⟨.none⟩ | exact ⟨⟨0, 0, 0, 0⟩⟩ | refine ne_prod ?_ ?_)) ?_; apply (?f4f _ _ _ _ _ _ _ _ _ _ _ _); (try any_goals exact default); intros news b c wd xs vs ro kg tn tb tc tw; refine Bx.mk ?_
  intro B F X N T hck hd9 hu9 hm hx hxl hok hw hb hret
  have hvb := okV_opd hok b
  have hvc := hvb
  have hkb : okOp b xs.length := by unfold okOp; omega
  have eop : opd1 xs b = xs.getD b.toNat .none := if_pos (by omega)
  rw [← eop] at hret
  obtain ⟨e1, e2, e3, e4⟩ := nm_un
  have hl := hx.length
  refine wpAny_call ?_
  k_dflt cell_enter
  k_steps
  refine Stop.mk ?_
  (rename OI (numRV (opd1 xs b) wd) _ => q2)
  revert q2
  (rename OI (numRV (opd1 xs b) wd) _ => q1)
  intro q2

  rcases OI_cases q1 with ⟨n1, rfl⟩ | ⟨i, ti, n1, rfl⟩
  all_goals (try (revert i ti; intro i ti; (set_option tactic.hygienic false in intros)))
  · clear q1 q2
    k_steps
    exact hret _ _ _ _ _ (made_n (reck_n1 n1)) (by first | exact allLt_all (by assumption) | exact allLt_all (And.right (by assumption)) | exact allLt_all (And.right (And.right (by assumption))) | exact allLt_all (And.right (And.right (And.right (by assumption))))) (by k_asm) (by (rename News h₀ L _ _ => lN); first | exact lN | exact news_mid lN | exact news_mid (news_mid lN) | exact news_mid (news_mid (news_mid lN)) | exact news_mid (news_mid (news_mid (news_mid lN))))
  clear q1
  have hij : ∀ i j, numRV (opd1 xs b) wd = some i → numRV (opd1 xs b) wd = some j → i = j := fun i j h1 h2 => Option.some.inj (h1.symm.trans h2)
  rcases OI_cases q2 with ⟨n2, rfl⟩ | ⟨j, tj, n2, rfl⟩
  all_goals (try (revert j tj; intro j tj; (set_option tactic.hygienic false in intros)))
  · clear q2
    k_steps
    exact hret _ _ _ _ _ (made_n (reck_n2 n2)) (by first | exact allLt_all (by assumption) | exact allLt_all (And.right (by assumption)) | exact allLt_all (And.right (And.right (by assumption))) | exact allLt_all (And.right (And.right (And.right (by assumption))))) (by k_asm) (by (rename News h₀ L _ _ => lN); first | exact lN | exact news_mid lN | exact news_mid (news_mid lN) | exact news_mid (news_mid (news_mid lN)) | exact news_mid (news_mid (news_mid (news_mid lN))))
  clear q2
  have hi := num_small hvb hw.1 hw.2 n1
  have hj := num_small hvc hw.1 hw.2 n2
  have hu : (18 : Int) = 18 → i = j := fun _ => hij i j n1 n2
  have hop2 : 12 ≤ (18 : Int) ∧ (18 : Int) ≤ 18 := by decide
  have hrk := reck_O (k := ((18 : Int) - 12).toNat) n1 n2
  k_steps
  refine Stop.mk ?_
  (rename OI (reckO _ _ _ _) _ => q3)
  rw [← hrk] at q3
  rcases OI_cases q3 with ⟨n3, rfl⟩ | ⟨v, tv, n3, rfl⟩
  all_goals (try (revert v tv; intro v tv; (set_option tactic.hygienic false in intros)))
  all_goals (clear q3; k_steps)
  · exact hret _ _ _ _ _ (made_n n3) (by first | exact allLt_all (by assumption) | exact allLt_all (And.right (by assumption)) | exact allLt_all (And.right (And.right (by assumption))) | exact allLt_all (And.right (And.right (And.right (by assumption))))) (by k_asm) (by (rename News h₀ L _ _ => lN); first | exact lN | exact news_mid lN | exact news_mid (news_mid lN) | exact news_mid (news_mid (news_mid lN)) | exact news_mid (news_mid (news_mid (news_mid lN))))
  · exact hret _ _ _ _ _ (made_i n3) (by first | exact allLt_all (by assumption) | exact allLt_all (And.right (by assumption)) | exact allLt_all (And.right (And.right (by assumption))) | exact allLt_all (And.right (And.right (And.right (by assumption))))) (by k_asm) (by (rename News h₀ L _ _ => lN); first | exact lN | exact news_mid lN | exact news_mid (news_mid lN) | exact news_mid (news_mid (news_mid lN)) | exact news_mid (news_mid (news_mid (news_mid lN))))

theorem rows_L1m_3 : True := by
  k_with "call ref" => (k_here; k_dflt (refine' lmade_um _ _ _ _ _ _ _ _ _ _ _ _ _ _ _ _ _ _ _ _ _ _ _ _ _ _ _ _ _ _ _ _ _ _ _ ?kB ?kF ?kX ?kN ?kT ?kK ?kd ?ku ?q0 ?q1 ?q2 ?q3 ?q4 ?q5 ?_; (case kB => k_asm); (case kF => k_asm); (case kX => k_asm); (case kN => k_asm); (case kT => k_asm); (case kK => first | exact rfl | assumption); (case kd => ktr_room); (case ku => ktr_units); (case q0 => k_mem); (case q1 => assumption); (case q2 => assumption); (case q3 => assumption); (case q4 => assumption); (case q5 => assumption); k_whole); intro D_z zs_z kz_z h'_z tk'_z hz_z hlt_z F'_z N'_z; (try k_sweep); (try k_lt hlt_z))
  trivial
theorem rows_L1m_4 : True := by
  k_with "call builtin:len" => (k_here; (with_reducible show wpAny _ _ (call (Value.builtin _) [Value.bytes _ _]) _ _ _); (refine len_ok ?k1 ?k2; (case k1 => assumption)))
  trivial
theorem rows_L1m_5 : True := by
  k_with "subscriptTail" => ((with_reducible show wpAny _ _ (subscriptTail _ _ (Value.ref _) (Value.int _ _)) _ _ _); refine Stop.un ?_)
  trivial
theorem lmade_not : ∀ (w : World) (p : Program) (loose : List Str) (mean : ExcName → Option Value) (mg mb : Str → Option Value) (dp un : Nat) (gd : Option (List Code)) (cn : Str) (cs : Scope) (a : Addr) (ccd : Value) (cl : List (Str × Addr)) (outer : List Env) (A₀ : Around) (base h₀ : Heap) (L : Addr) (m : Str → Option Value) (s : Shared) (Q E : Value → Shared → Prop) (news : List (Addr × Obj)) (b c wd : Int) (xs : List RV) (vs : List Value) (ro : Addr) (kg : Nat) (tn tb tc tw : Tok), Below A₀ base outer h₀ → Fr h₀ L s.heap m → (Kf w.params).In h₀ → News h₀ L s.heap (news) → Top p loose mean mg mb h₀ → cs.kind = .function → dp + 4 < recursionLimit → un + 32 < cLine → ((ro, listOf vs.toArray kg) ∈ news) → (RVs xs vs) → (xs.length = 17) → (∀ x ∈ xs, okV x) → (1 ≤ wd ∧ wd ≤ 17) → (0 ≤ b ∧ b < 5) → (∀ (D : Addr) (zs : List Value) (kz : Nat) (h' : Heap) (tk' : Nat), (MadeIs (some (RV.bool (isFalse (xs.getD b.toNat .none)))) zs) → (∀ p ∈ news, p.1 < D) → Fr h₀ L h' m → News h₀ L h' ((D, listOf zs.toArray kz) :: news) → Q (.ref D) { s with heap := h', toks := tk' }) → wpAny (model PySem.Challenge.rw_pc0174_01.row.prog w) (ktrTop dp un gd cn cs L a ccd cl outer) (call (.ref 576) [.str (nameOf 19) tn, .ref ro, .int b tb, .int c tc, .int wd tw]) Q E s := by
  k_fill
  refine (?k5k : KBcx ?f5f); refine ep_cx ?_; apply (?f5f _ _ _ _ _ _ _ _ _ _ _ _ _ _ _ _ _ _ _ _ _ _ _); (try any_goals exact default); intros w p loose mean mg mb dp un gd cn cs a ccd cl outer A₀ base h₀ L m s Q E; refine Bx.mk ?_
  refine (?k6k : KB12 ?f6f); refine ep12 (by repeat' (first | infer_instance | exact ne_world | exact ne_shared | exact ne_around | exact ⟨.none⟩ | exact ⟨⟨0, 0, 0, 0⟩⟩ | refine ne_prod ?_ ?_)) ?_; apply (?f6f _ _ _ _ _ _ _ _ _ _ _ _); (try any_goals exact default); intros news b c wd xs vs ro kg tn tb tc tw; refine Bx.mk ?_
  intro B F X N T hck hd9 hu9 hm hx hxl hok hw hb hret
  have hvb := okV_getD hok b.toNat
  have hxb := hx.getD b.toNat
  have hl := hx.length
  obtain ⟨e1, e2, e3⟩ := nm_not
  refine wpAny_call ?_
  k_dflt cell_enter
  k_steps
  refine Stop.mk ?_
  (rename News _ _ _ _ => lN0)
  refine kv_sub lN0 (by k_mem) hb.1 (by omega) (by omega) ?_
  clear hx
  generalize xs.getD b.toNat .none = x at hxb hvb hret
  generalize vs.getD b.toNat .none = v at hxb ⊢
  rcases x with _ | b9 | b9 | b9 <;> simp only [RV.Is] at hxb <;> (try obtain ⟨t1, rfl⟩ := hxb) <;> (try subst hxb)
  all_goals ((try revert hz); (try revert hret); (try revert hvb); (first | (revert b9 t1; intro b9 t1) | (revert b9; intro b9) | skip); (set_option tactic.hygienic false in intros))
  all_goals k_steps
  all_goals exact hret _ _ _ _ _ ⟨_, rfl, by first | exact rfl | (show _ = Value.bool _; congr 1; first | rfl | (simp only [isFalse]; first | assumption | simp_all))⟩ (by first | exact allLt_all (by assumption) | exact allLt_all (And.right (by assumption)) | exact allLt_all (And.right (And.right (by assumption))) | exact allLt_all (And.right (And.right (And.right (by assumption))))) (by k_asm) (by (rename News h₀ L _ _ => lN); first | exact lN | exact news_mid lN | exact news_mid (news_mid lN) | exact news_mid (news_mid (news_mid lN)) | exact news_mid (news_mid (news_mid (news_mid lN))))

theorem rows_L1m_6 : True := by
  k_with "call ref" => (k_here; k_dflt (refine' lmade_not _ _ _ _ _ _ _ _ _ _ _ _ _ _ _ _ _ _ _ _ _ _ _ _ _ _ _ _ _ _ _ _ _ _ _ ?kB ?kF ?kX ?kN ?kT ?kK ?kd ?ku ?q0 ?q1 ?q2 ?q3 ?q4 ?q5 ?_; (case kB => k_asm); (case kF => k_asm); (case kX => k_asm); (case kN => k_asm); (case kT => k_asm); (case kK => first | exact rfl | assumption); (case kd => ktr_room); (case ku => ktr_units); (case q0 => k_mem); (case q1 => assumption); (case q2 => assumption); (case q3 => assumption); (case q4 => assumption); (case q5 => assumption); k_whole); intro D_z zs_z kz_z h'_z tk'_z hz_z hlt_z F'_z N'_z; (try k_sweep); (try k_lt hlt_z))
  trivial
theorem lmade_len : ∀ (w : World) (p : Program) (loose : List Str) (mean : ExcName → Option Value) (mg mb : Str → Option Value) (dp un : Nat) (gd : Option (List Code)) (cn : Str) (cs : Scope) (a : Addr) (ccd : Value) (cl : List (Str × Addr)) (outer : List Env) (A₀ : Around) (base h₀ : Heap) (L : Addr) (m : Str → Option Value) (s : Shared) (Q E : Value → Shared → Prop) (news : List (Addr × Obj)) (b c wd : Int) (xs : List RV) (vs : List Value) (ro : Addr) (kg : Nat) (tn tb tc tw : Tok), Below A₀ base outer h₀ → Fr h₀ L s.heap m → (Kf w.params).In h₀ → News h₀ L s.heap (news) → Top p loose mean mg mb h₀ → cs.kind = .function → dp + 4 < recursionLimit → un + 32 < cLine → ((ro, listOf vs.toArray kg) ∈ news) → (RVs xs vs) → (xs.length = 17) → (∀ x ∈ xs, okV x) → (1 ≤ wd ∧ wd ≤ 17) → (0 ≤ b ∧ b < 5) → (∀ (D : Addr) (zs : List Value) (kz : Nat) (h' : Heap) (tk' : Nat), (MadeIs ((lenR (xs.getD b.toNat .none)).map RV.int) zs) → (∀ p ∈ news, p.1 < D) → Fr h₀ L h' m → News h₀ L h' ((D, listOf zs.toArray kz) :: news) → Q (.ref D) { s with heap := h', toks := tk' }) → wpAny (model PySem.Challenge.rw_pc0174_01.row.prog w) (ktrTop dp un gd cn cs L a ccd cl outer) (call (.ref 576) [.str (nameOf 20) tn, .ref ro, .int b tb, .int c tc, .int wd tw]) Q E s := by
  k_fill
  refine (?k7k : KBcx ?f7f); refine ep_cx ?_; apply (?f7f _ _ _ _ _ _ _ _ _ _ _ _ _ _ _ _ _ _ _ _ _ _ _); (try any_goals exact default); intros w p loose mean mg mb dp un gd cn cs a ccd cl outer A₀ base h₀ L m s Q E; refine Bx.mk ?_
  refine (?k8k : KB12 ?f8f); refine ep12 (by repeat' (first | infer_instance | exact ne_world | exact ne_shared | exact ne_around | exact ⟨.none⟩ | exact ⟨⟨0, 0, 0, 0⟩⟩ | refine ne_prod ?_ ?_)) ?_; apply (?f8f _ _ _ _ _ _ _ _ _ _ _ _); (try any_goals exact default); intros news b c wd xs vs ro kg tn tb tc tw; refine Bx.mk ?_
  intro B F X N T hck hd9 hu9 hm hx hxl hok hw hb hret
  have hvb := okV_getD hok b.toNat
  have hxb := hx.getD b.toNat
  have hl := hx.length
  obtain ⟨e1, e2, e3, e4⟩ := nm_len
  refine wpAny_call ?_
  k_dflt cell_enter
  k_steps
  refine Stop.mk ?_
  (rename News _ _ _ _ => lN0)
  refine kv_sub lN0 (by k_mem) hb.1 (by omega) (by omega) ?_
  clear hx
  generalize xs.getD b.toNat .none = x at hxb hvb hret
  generalize vs.getD b.toNat .none = v at hxb ⊢
  rcases x with _ | b9 | b9 | b9 <;> simp only [RV.Is] at hxb <;> (try obtain ⟨t1, rfl⟩ := hxb) <;> (try subst hxb) <;> (try have hz := (show okB _ from hvb).1)
  all_goals ((try revert hz); (try revert hret); (try revert hvb); (first | (revert b9 t1; intro b9 t1) | (revert b9; intro b9) | skip); (set_option tactic.hygienic false in intros))
  all_goals k_steps
  all_goals first | exact hret _ _ _ _ _ (made_n rfl) (by first | exact allLt_all (by assumption) | exact allLt_all (And.right (by assumption)) | exact allLt_all (And.right (And.right (by assumption))) | exact allLt_all (And.right (And.right (And.right (by assumption))))) (by k_asm) (by (rename News h₀ L _ _ => lN); first | exact lN | exact news_mid lN | exact news_mid (news_mid lN) | exact news_mid (news_mid (news_mid lN)) | exact news_mid (news_mid (news_mid (news_mid lN)))) | exact hret _ _ _ _ _ (made_i rfl) (by first | exact allLt_all (by assumption) | exact allLt_all (And.right (by assumption)) | exact allLt_all (And.right (And.right (by assumption))) | exact allLt_all (And.right (And.right (And.right (by assumption))))) (by k_asm) (by (rename News h₀ L _ _ => lN); first | exact lN | exact news_mid lN | exact news_mid (news_mid lN) | exact news_mid (news_mid (news_mid lN)) | exact news_mid (news_mid (news_mid (news_mid lN))))

theorem rows_L1m_7 : True := by
  k_with "call ref" => (k_here; k_dflt (refine' lmade_len _ _ _ _ _ _ _ _ _ _ _ _ _ _ _ _ _ _ _ _ _ _ _ _ _ _ _ _ _ _ _ _ _ _ _ ?kB ?kF ?kX ?kN ?kT ?kK ?kd ?ku ?q0 ?q1 ?q2 ?q3 ?q4 ?q5 ?_; (case kB => k_asm); (case kF => k_asm); (case kX => k_asm); (case kN => k_asm); (case kT => k_asm); (case kK => first | exact rfl | assumption); (case kd => ktr_room); (case ku => ktr_units); (case q0 => k_mem); (case q1 => assumption); (case q2 => assumption); (case q3 => assumption); (case q4 => assumption); (case q5 => assumption); k_whole); intro D_z zs_z kz_z h'_z tk'_z hz_z hlt_z F'_z N'_z; (try k_sweep); (try k_lt hlt_z))
  trivial
end Mine
end
section
namespace Mine
local macro_rules | `(tactic| k_mem) => `(tactic| first | assumption | (refine mem_of ?_; assumption))
def OBs : List (Option (Array UInt8)) → List Value → Prop
  | [], [] => True
  | o :: os, v :: vs => OB o v ∧ OBs os vs
  | _, _ => False
theorem OBs.snoc : ∀ {os : List (Option (Array UInt8))} {vs : List Value} {o : Option (Array UInt8)} {v : Value}, OBs os vs → OB o v → OBs (os ++ [o]) (vs ++ [v])
  | [], [], _, _, _, h => ⟨h, trivial⟩
  | _ :: _, _ :: _, _, _, h, k => ⟨h.1, OBs.snoc h.2 k⟩
  | [], _ :: _, _, _, h, _ => h.elim
  | _ :: _, [], _, _, h, _ => h.elim
def nonV (v : Value) : Bool := match v with | .none => true | _ => false
theorem OBs.all : ∀ {os : List (Option (Array UInt8))} {vs : List Value}, OBs os vs → ∀ v ∈ vs, v = .none ∨ ∃ b t, v = .bytes b t
  | [], [], _, _, h => absurd h List.not_mem_nil
  | o :: _, _ :: _, h, v, hv => by
    rcases List.mem_cons.mp hv with rfl | hv
    · rcases OB_cases h.1 with ⟨_, e⟩ | ⟨b, t, _, e⟩
      · exact .inl e
      · exact .inr ⟨b, t, e⟩
    · exact OBs.all h.2 v hv
  | [], _ :: _, h, _, _ => h.elim
  | _ :: _, [], h, _, _ => h.elim
theorem OBs.yes : ∀ {os : List (Option (Array UInt8))} {vs : List Value}, OBs os vs → vs.any nonV = true → none ∈ os
  | [], [], _, h => by simp at h
  | o :: _, v :: _, h, k => by
    rcases OB_cases h.1 with ⟨e, _⟩ | ⟨b, t, _, e⟩
    · rw [e]; exact .head _
    · rw [List.any_cons, e] at k
      exact .tail _ (OBs.yes h.2 (by simpa [nonV] using k))
  | [], _ :: _, h, _ => h.elim
  | _ :: _, [], h, _ => h.elim
theorem OBs.no : ∀ {os : List (Option (Array UInt8))} {vs : List Value}, OBs os vs → vs.any nonV = false → ∃ bs, os = bs.map some ∧ BytesAre bs vs
  | [], [], _, _ => ⟨[], rfl, trivial⟩
  | o :: _, v :: _, h, k => by
    rw [List.any_cons, Bool.or_eq_false_iff] at k
    obtain ⟨bs, e1, e2⟩ := OBs.no h.2 k.2
    rcases OB_cases h.1 with ⟨_, e⟩ | ⟨b, t, e, e3⟩
    · rw [e] at k; cases k.1
    · exact ⟨b :: bs, by rw [e, e1]; rfl, ⟨t, e3⟩, e2⟩
  | [], _ :: _, h, _ => h.elim
  | _ :: _, [], h, _ => h.elim
section
variable {prog : Program} {w : World} {A : Around} {E : Value → Shared → Prop} {s : Shared} {h₀ : Heap} {L D : Addr} {news : List (Addr × Obj)}
theorem in_none {os : List (Option (Array UInt8))} {ys : List Value} {Q : Value → Shared → Prop} (hl : s.heap.IsList D ys.toArray) (hb : OBs os ys) (h : Q (.bool (ys.any nonV)) s) : wpAny (model prog w) A (compareOp .In .none (.ref D)) Q E s := by
  refine PySem.SeqAt.in_listAt nonV hl (fun y hy => ?_) (by rw [List.any_toArray]; exact h)
  rcases hb.all y (by simpa using hy) with rfl | ⟨b, t, rfl⟩
  · exact PySem.SeqAt.EqAt.same _
  · exact eq_bytes_none b t
end
theorem seg_get {xs : List RV} {vs : List Value} {c : Int} {i : Nat} {v : Value} (hx : RVs xs vs) (h : ((vs.drop (6 : Int).toNat).take (min (c + 1).toNat vs.length - (6 : Int).toNat)).toArray[i]? = some v) : (xs.getD (6 + i) .none).Is v := by
  have h : ((vs.drop 6).take (min (c + 1).toNat vs.length - 6))[i]? = some v := by simpa using h
  rw [List.getElem?_take] at h
  split at h
  · rw [List.getElem?_drop] at h
    have := hx.getD (6 + i)
    have e : vs.getD (6 + i) .none = v := by rw [List.getD_eq_getElem?_getD, h]; rfl
    rw [e] at this
    exact this
  · cases h
theorem seg_len {vs : List Value} {c : Int} (hl : vs.length = 17) (h0 : 7 ≤ c) (h1 : c ≤ 9) : ((vs.drop (6 : Int).toNat).take (min (c + 1).toNat vs.length - (6 : Int).toNat)).toArray.size = (c - 5).toNat := by
  show ((vs.drop 6).take (min (c + 1).toNat vs.length - 6)).toArray.size = _
  simp [hl]
  omega
theorem madeC_none {xs : List RV} {n : Nat} (h : none ∈ texs xs n) : MadeIs ((catAt xs n).map RV.bytes) [] := by
  have : catAt xs n = none := by show catS (catL (texs xs n)) = none; rw [cat_none _ h]; rfl
  rw [this]; rfl
theorem madeC_long {xs : List RV} {n : Nat} {bs : List (Array UInt8)} (h : texs xs n = bs.map some) (hz : 12 < sizes bs) : MadeIs ((catAt xs n).map RV.bytes) [] := by
  have : catAt xs n = none := by
    show catS (catL (texs xs n)) = none
    rw [h, cat_some]
    exact if_neg (by rw [fold_size]; simp; omega)
  rw [this]; rfl
theorem madeC_some {xs : List RV} {n : Nat} {bs : List (Array UInt8)} {u : Tok} (h : texs xs n = bs.map some) (hz : ¬ 12 < sizes bs) : MadeIs ((catAt xs n).map RV.bytes) [.bytes (bs.foldl (· ++ ·) #[]) u] := by
  have : catAt xs n = some (bs.foldl (· ++ ·) #[]) := by
    show catS (catL (texs xs n)) = _
    rw [h, cat_some]
    exact if_pos (by rw [fold_size]; simp; omega)
  rw [this]; exact ⟨_, rfl, _, rfl⟩
theorem bs_ok {xs : List RV} {n : Nat} {bs : List (Array UInt8)} (hok : ∀ x ∈ xs, okV x) (h : texs xs n = bs.map some) {i : Nat} (hi : i < bs.length) : (bs.getD i #[]).size ≤ 12 := by
  have hm : (some (bs.getD i #[]) : Option (Array UInt8)) ∈ texs xs n := by
    rw [h, List.getD_eq_getElem?_getD, List.getElem?_eq_getElem hi]
    exact List.mem_map_of_mem (List.getElem_mem hi)
  obtain ⟨j, _, e⟩ := List.mem_map.mp hm
  exact text_small (okV_getD hok _) e
theorem rows_L1c_1 : True := by
  k_with_none
  k_with "EP" => (k_whole; fail_if_success (fail_if_success (rename Below _ _ _ _ => b9_z)))
  k_with "call ref" => (k_here; k_dflt (refine' ltext_ok _ _ _ _ _ _ _ _ _ _ _ _ _ _ _ _ _ _ _ _ _ _ _ _ _ _ ?kB ?kF ?kX ?kN ?kT ?kK ?kd ?ku ?q0 ?q1 ?_; (case kB => k_asm); (case kF => k_asm); (case kX => k_asm); (case kN => k_asm); (case kT => k_asm); (case kK => first | exact rfl | assumption); (case kd => ktr_room); (case ku => ktr_units); (case q0 => first | assumption | exact Is_none | exact Is_bool _ | exact Is_int _ _ | exact Is_bytes _ _ | exact RVs.getD _ (by assumption)); (case q1 => first | assumption | exact okV_getD (by assumption) _); k_whole); intro r_z h'_z tk'_z hr_z F'_z N'_z; (try k_sweep))
  k_with "subscriptTail Name Slice ref ref" => (k_here; (with_reducible show wpAny _ _ (subscriptTail _ (PySem.Expr.Slice _ _ _ _) (Value.ref _) (Value.ref _)) _ _ _); k_dflt (refine' kmk_slice_lit ?k1 ?k2 ?k3 ?k4 ?k5 ?k6 ?_ ?k7 ?k8 ?k9; (case k1 => k_asm); (case k2 => k_asm); (case k3 => kmk_list); (case k4 => kmk_part); (case k5 => kmk_part); (case k6 => first | exact kv_all _ | exact kv_upto _ (by omega) | exact kv_run _ (by omega) (by omega)); (case k7 => with_unfolding_all rfl); (case k8 => kmk_pure); (case k9 => first | exact kv_size (by assumption) (by simp only [sizeLine_eq]; omega) | exact Nat.le_of_ble_eq_true rfl); k_whole); intro D_z h'_z F'_z N'_z l1_z; (try k_lt l1_z); (try k_sweep))
  k_with "eval ListComp" => (k_here; lcg_look; k_dflt (refine LCg.ListComp_U (F₀ := by k_asm) (by rfl) (by decide) (by rfl) (by decide) (by rfl) ?_))
  k_with "CompSrc" => (refine Stop.un ?_)
  k_with "compareOp In none ref" => (k_here; k_dflt (refine' in_none ?k1 ?k2 ?_; (case k1 => first | exact lst_isL (by k_asm) (by k_mem) | exact new_isL (by k_asm) (by k_mem)); (case k2 => assumption); k_whole))
  k_with "getMethod bytes" => (k_here; (with_reducible refine join_method ?_))
  k_with "call builtin:bytes.join" => (refine Stop.un ?_)
  k_with "call builtin:len" => (k_here; (with_reducible show wpAny _ _ (call (Value.builtin _) [Value.bytes _ _]) _ _ _); (refine len_ok ?k1 ?k2; (case k1 => assumption)))
  trivial
theorem lmade_cat : ∀ (w : World) (p : Program) (loose : List Str) (mean : ExcName → Option Value) (mg mb : Str → Option Value) (dp un : Nat) (gd : Option (List Code)) (cn : Str) (cs : Scope) (a : Addr) (ccd : Value) (cl : List (Str × Addr)) (outer : List Env) (A₀ : Around) (base h₀ : Heap) (L : Addr) (m : Str → Option Value) (s : Shared) (Q E : Value → Shared → Prop) (news : List (Addr × Obj)) (c wd : Int) (xs : List RV) (vs : List Value) (ro : Addr) (kg : Nat) (tn tb tc tw : Tok), Below A₀ base outer h₀ → Fr h₀ L s.heap m → (Kf w.params).In h₀ → News h₀ L s.heap (news) → Top p loose mean mg mb h₀ → cs.kind = .function → dp + 4 < recursionLimit → un + 32 < cLine → ((ro, listOf vs.toArray kg) ∈ news) → (RVs xs vs) → (xs.length = 17) → (∀ x ∈ xs, okV x) → (1 ≤ wd ∧ wd ≤ 17) → (7 ≤ c ∧ c ≤ 9) → (∀ (D : Addr) (zs : List Value) (kz : Nat) (h' : Heap) (tk' : Nat), (MadeIs ((catAt xs (c - 5).toNat).map RV.bytes) zs) → (∀ p ∈ news, p.1 < D) → Fr h₀ L h' m → News h₀ L h' ((D, listOf zs.toArray kz) :: news) → Q (.ref D) { s with heap := h', toks := tk' }) → wpAny (model PySem.Challenge.rw_pc0174_01.row.prog w) (ktrTop dp un gd cn cs L a ccd cl outer) (call (.ref 576) [.str (nameOf 21) tn, .ref ro, .int 6 tb, .int c tc, .int wd tw]) Q E s := by
  k_fill
  refine (?k1k : KBcx ?f1f); refine ep_cx ?_; apply (?f1f _ _ _ _ _ _ _ _ _ _ _ _ _ _ _ _ _ _ _ _ _ _ _); (try any_goals exact default); intros w p loose mean mg mb dp un gd cn cs a ccd cl outer A₀ base h₀ L m s Q E; refine Bx.mk ?_
  refine (?k2k : KB11 ?f2f); refine ep11 (by repeat' (first | infer_instance | exact ne_world | exact ne_shared | exact ne_around | exact ⟨.none⟩ | exact ⟨⟨0, 0, 0, 0⟩⟩ | refine ne_prod ?_ ?_)) ?_; apply (?f2f _ _ _ _ _ _ _ _ _ _ _); (try any_goals exact default); intros news c wd xs vs ro kg tn tb tc tw; refine Bx.mk ?_
  intro B F X N T hck hd9 hu9 hm hx hxl hok hw hc hret
  have hl := hx.length
  rw [hxl] at hl
  obtain ⟨hc0, hc1⟩ := hc
  have e1 := nm_cat
  refine wpAny_call ?_
  k_dflt cell_enter
  k_steps
  refine Stop.mk ?_
  have hsl := seg_len (c := c) hl hc0 hc1
  refine LCg.CompSrc.ledger (by rfl) (by k_asm) (by k_asm) (by k_mem) (by rw [sizeLine_eq]; omega) ?_
  intro g'
  refine compU_inv (n := _) (fun i ys nw => nw = _ ∧ OBs (texs xs i) ys) ?turn ?fin _ 0 [] _ (Nat.zero_add _) ⟨rfl, trivial⟩
  case turn =>
    refine (?k3k : KB13 ?f3f); refine ep13 (by repeat' (first | infer_instance | exact ne_world | exact ne_shared | exact ne_around | exact ⟨.none⟩ | exact ⟨⟨0, 0, 0, 0⟩⟩ | refine ne_prod ?_ ?_)) ?_; apply (?f3f _ _ _ _ _ _ _ _ _ _ _ _ _); (try any_goals exact default); intros i2 ys nW v I2 oI C2 oC D2 m₂ h₃ tk₃ E'; refine Bx.mk ?_
    intros hi2 hj3 hv hC hx'' F3 N3 off3 ne3
    obtain ⟨rfl, hys⟩ := hj3
    have hxv := seg_get hx hv
    have hvo := okV_getD hok (6 + i2)
    k_steps
    refine LCg.CompEnd.intro (by k_asm) (by assumption) _ (fun _ hp => hp) (by assumption) (by exact Or.inr ⟨_, by k_mem, rfl, _, rfl⟩) ⟨rfl, ?_⟩
    rw [texs_snoc]
    exact hys.snoc (by assumption)
  case fin =>
    intro ys nW hj3
    obtain ⟨rfl, hys⟩ := hj3
    rw [hsl] at hys
    k_steps
    · exact hret _ _ _ _ _ (madeC_none (hys.yes (by assumption))) (by first | exact allLt_all (by assumption) | exact allLt_all (And.right (by assumption)) | exact allLt_all (And.right (And.right (by assumption))) | exact allLt_all (And.right (And.right (And.right (by assumption))))) (by k_asm) (by (rename News h₀ L _ _ => lN); first | exact lN | exact news_mid lN | exact news_mid (news_mid lN) | exact news_mid (news_mid (news_mid lN)) | exact news_mid (news_mid (news_mid (news_mid lN))))
    obtain ⟨bs9, htx, hbw⟩ := hys.no (by assumption)
    revert bs9
    intro bs9
    set_option tactic.hygienic false in intros
    have hwl := hbw.length
    have hbl : bs9.length = (c - 5).toNat := by have := congrArg List.length htx; rw [texs_len, List.length_map] at this; exact this.symm
    refine Stop.mk ?_
    refine LCg.CompSrc.ledger (by rfl) (by k_asm) (by k_asm) (by k_mem) (by rw [List.size_toArray, sizeLine_eq]; omega) ?_
    intro g''
    refine compU_inv (n := _) (fun i zs nw => nw = _ ∧ IntsAre zs ((bs9.take i).map fun b => (b.size : Int))) ?turn ?fin _ 0 [] _ (Nat.zero_add _) ⟨rfl, .nil⟩
    case turn =>
      refine (?k4k : KB13 ?f4f); refine ep13 (by repeat' (first | infer_instance | exact ne_world | exact ne_shared | exact ne_around | exact ⟨.none⟩ | exact ⟨⟨0, 0, 0, 0⟩⟩ | refine ne_prod ?_ ?_)) ?_; apply (?f4f _ _ _ _ _ _ _ _ _ _ _ _ _); (try any_goals exact default); intros i2 zs nW v I2 oI C2 oC D2 m₂ h₃ tk₃ E'; refine Bx.mk ?_
      intros hi2 hj3 hv hC hx'' F3 N3 off3 ne3
      obtain ⟨rfl, hzs⟩ := hj3
      rw [List.size_toArray] at hi2
      have hlt : i2 < bs9.length := by omega
      obtain ⟨u, hu⟩ := hbw.at i2 hlt
      have hv2 : v = .bytes (bs9.getD i2 #[]) u := by
        have hv3 := hv
        simp [hi2] at hv3
        rw [← hu, ← hv3]
        simp [List.getD, hi2]
      subst hv2
      revert u
      intro u
      set_option tactic.hygienic false in intros
      have hsm := bs_ok hok htx hlt
      k_steps
      refine LCg.CompEnd.intro (by k_asm) (by assumption) _ (fun _ hp => hp) (by assumption) (by exact Or.inr ⟨_, by k_mem, rfl, _, rfl⟩) ⟨rfl, ?_⟩
      rw [sizes_snoc hlt]
      exact ints_snoc hzs
    case fin =>
      intro zs nW hj3
      obtain ⟨rfl, hzs⟩ := hj3
      have htk : bs9.take ys.toArray.size = bs9 := by rw [List.size_toArray, hwl]; exact List.take_length
      rw [htk] at hzs
      have hss := sizes_sum bs9
      k_steps
      · exact hret _ _ _ _ _ (madeC_long htx (by omega)) (by first | exact allLt_all (by assumption) | exact allLt_all (And.right (by assumption)) | exact allLt_all (And.right (And.right (by assumption))) | exact allLt_all (And.right (And.right (And.right (by assumption))))) (by k_asm) (by (rename News h₀ L _ _ => lN); first | exact lN | exact news_mid lN | exact news_mid (news_mid lN) | exact news_mid (news_mid (news_mid lN)) | exact news_mid (news_mid (news_mid (news_mid lN))))
      refine Stop.mk ?_
      (rename Fr _ _ _ _ => lF'); (rename News _ _ _ _ => lN')
      (try dsimp only)
      have hz12 : ¬ 12 < sizes bs9 := by omega
      refine join_call (vs := ys) ?hl2 hbw (by omega) ?hz ?_
      case hl2 => first | exact lst_isL lN' (by k_mem) | exact new_isL (k := _) lN' (by k_mem)
      case hz => exact Nat.le_trans (Nat.le_of_not_lt hz12) (by decide)
      intro u3 tk3
      k_steps
      exact hret _ _ _ _ _ (madeC_some htx hz12) (by first | exact allLt_all (by assumption) | exact allLt_all (And.right (by assumption)) | exact allLt_all (And.right (And.right (by assumption))) | exact allLt_all (And.right (And.right (And.right (by assumption))))) (by k_asm) (by (rename News h₀ L _ _ => lN); first | exact lN | exact news_mid lN | exact news_mid (news_mid lN) | exact news_mid (news_mid (news_mid lN)) | exact news_mid (news_mid (news_mid (news_mid lN))))

theorem rows_L1c_2 : True := by
  k_with "call ref" => (k_here; k_dflt (refine' lmade_cat _ _ _ _ _ _ _ _ _ _ _ _ _ _ _ _ _ _ _ _ _ _ _ _ _ _ _ _ _ _ _ _ _ _ ?kB ?kF ?kX ?kN ?kT ?kK ?kd ?ku ?q0 ?q1 ?q2 ?q3 ?q4 ?q5 ?_; (case kB => k_asm); (case kF => k_asm); (case kX => k_asm); (case kN => k_asm); (case kT => k_asm); (case kK => first | exact rfl | assumption); (case kd => ktr_room); (case ku => ktr_units); (case q0 => k_mem); (case q1 => assumption); (case q2 => assumption); (case q3 => assumption); (case q4 => assumption); (case q5 => assumption); k_whole); intro D_z zs_z kz_z h'_z tk'_z hz_z hlt_z F'_z N'_z; (try k_sweep); (try k_lt hlt_z))
  trivial
end Mine
end
section
namespace Mine

theorem rows_C1w_1 : True := by
  k_with_none
  k_with "EP" => (k_whole; fail_if_success (fail_if_success (rename Below _ _ _ _ => b9_z)))
  k_with "call ref" => (k_here; k_dflt (refine' str_to_number_ok _ _ _ _ _ _ _ _ _ _ _ _ _ _ _ _ _ _ _ _ _ _ _ _ _ _ _ _ _ _ _ _ ?kB ?kF ?kX ?kN ?kT ?kK ?kd ?ku ?q0 ?q1 ?q2 ?q3 ?q4 ?_; (case kB => k_asm); (case kF => k_asm); (case kX => k_asm); (case kN => k_asm); (case kT => k_asm); (case kK => first | exact rfl | assumption); (case kd => ktr_room); (case ku => ktr_units); (case q0 => assumption); (case q1 => k_mem); (case q2 => k_mem); (case q3 => assumption); (case q4 => assumption); k_whole); intro r_z h'_z tk'_z hr_z F'_z N'_z; (try k_sweep))
  k_with "call ref" => (k_here; k_dflt (refine' to_number_ok _ _ _ _ _ _ _ _ _ _ _ _ _ _ _ _ _ _ _ _ _ _ _ _ _ _ _ _ _ _ _ _ ?kB ?kF ?kX ?kN ?kT ?kK ?kd ?ku ?q0 ?q1 ?q2 ?q3 ?q4 ?q5 ?_; (case kB => k_asm); (case kF => k_asm); (case kX => k_asm); (case kN => k_asm); (case kT => k_asm); (case kK => first | exact rfl | assumption); (case kd => ktr_room); (case ku => ktr_units); (case q0 => first | assumption | exact Is_none | exact Is_bool _ | exact Is_int _ _ | exact Is_bytes _ _ | exact RVs.getD _ (by assumption)); (case q1 => assumption); (case q2 => k_mem); (case q3 => k_mem); (case q4 => assumption); (case q5 => assumption); k_whole); intro r_z h'_z tk'_z hr_z F'_z N'_z; (try k_sweep))
  k_with "call ref" => (k_here; k_dflt (refine' arith_ok _ _ _ _ _ _ _ _ _ _ _ _ _ _ _ _ _ _ _ _ _ _ _ _ _ _ _ _ _ _ _ _ _ _ _ _ ?kB ?kF ?kX ?kN ?kT ?kK ?kd ?ku ?q0 ?q1 ?q2 ?q3 ?q4 ?q5 ?q6 ?q7 ?q8 ?_; (case kB => k_asm); (case kF => k_asm); (case kX => k_asm); (case kN => k_asm); (case kT => k_asm); (case kK => first | exact rfl | assumption); (case kd => ktr_room); (case ku => ktr_units); (case q0 => first | assumption | omega); (case q1 => first | assumption | exact noRes_z (by assumption)); (case q2 => first | assumption | exact noRes_p (by assumption)); (case q3 => first | assumption | exact (num_arg (by assumption)).1); (case q4 => first | assumption | exact (num_arg (by assumption)).2); (case q5 => k_mem); (case q6 => k_mem); (case q7 => assumption); (case q8 => assumption); k_whole); intro t_z h'_z tk'_z  F'_z N'_z; (try k_sweep))
  trivial
local macro_rules | `(tactic| k_mem) => `(tactic| first | assumption | (refine mem_of ?_; assumption))
theorem rec_sub : ∀ {w : World} {A : Around} {E : Value → Shared → Prop} {s : Shared} {h₀ : Heap} {L : Addr} {m : Str → Option Value} {d : Int} {tk : Tok} {value slice : PySem.Expr} {Q : Value → Shared → Prop} (_ : 0 ≤ d ∧ d < 7) (_ : Fr h₀ L s.heap m) (_ : (Kf w.params).In h₀)
    (_ : subscripted slice false (.ref 381) (.int d tk) = operate [.ref 381, .int d tk] (getItem (.ref 381) (.int d tk))) (_ : ∀ t, Q (.bytes (recName d.toNat) t) s), wpAny (model PySem.Challenge.rw_pc0174_01.row.prog w) A (subscriptTail value slice (.ref 381) (.int d tk)) Q E s := by
  k_fill
  intro w A E s h₀ L m d tk value slice Q hd F X hs h
  rcases (show d = 0 ∨ d = 1 ∨ d = 2 ∨ d = 3 ∨ d = 4 ∨ d = 5 ∨ d = 6 by omega) with e | e | e | e | e | e | e <;> subst e
  all_goals k_dflt (refine' topList_K (hs := hs) F X ?l ?a ?b ?d ?_; (case l => k_is); (case a => decide); (case b => decide); (case d => rfl))
  all_goals exact h _
theorem rows_C1w_2 : True := by
  k_with "subscriptTail" => (k_here; (with_reducible show wpAny _ _ (subscriptTail _ _ (Value.ref 381) (Value.int _ _)) _ _ _); k_dflt (refine' rec_sub ?k1 ?k2 ?k3 ?k4 ?_; (case k1 => assumption); (case k2 => k_asm); (case k3 => k_asm); (case k4 => with_unfolding_all rfl); k_whole); intro t_z)
  trivial
theorem has_no_result_ok : ∀ (w : World) (p : Program) (loose : List Str) (mean : ExcName → Option Value) (mg mb : Str → Option Value) (dp un : Nat) (gd : Option (List Code)) (cn : Str) (cs : Scope) (a : Addr) (ccd : Value) (cl : List (Str × Addr)) (outer : List Env) (A₀ : Around) (base h₀ : Heap) (L : Addr) (m : Str → Option Value) (s : Shared) (Q E : Value → Shared → Prop) (news : List (Addr × Obj)) (k x y : Int) (tk tx ty : Tok), Below A₀ base outer h₀ → Fr h₀ L s.heap m → (Kf w.params).In h₀ → News h₀ L s.heap (news) → Top p loose mean mg mb h₀ → cs.kind = .function → dp + 1 < recursionLimit → un + 8 < cLine → (0 ≤ k ∧ k < 7) → (∀  (h' : Heap) (tk' : Nat), Fr h₀ L h' m → News h₀ L h' (news) → Q (.bool (noRes k.toNat x y)) { s with heap := h', toks := tk' }) → wpAny (model PySem.Challenge.rw_pc0174_01.row.prog w) (ktrTop dp un gd cn cs L a ccd cl outer) (call (.ref 388) [.int k tk, .int x tx, .int y ty]) Q E s := by
  k_fill
  refine (?k1k : KBcx ?f1f); refine ep_cx ?_; apply (?f1f _ _ _ _ _ _ _ _ _ _ _ _ _ _ _ _ _ _ _ _ _ _ _); (try any_goals exact default); intros w p loose mean mg mb dp un gd cn cs a ccd cl outer A₀ base h₀ L m s Q E; refine Bx.mk ?_
  refine (?k2k : KB7 ?f2f); refine ep7 (by repeat' (first | infer_instance | exact ne_world | exact ne_shared | exact ne_around | exact ⟨.none⟩ | exact ⟨⟨0, 0, 0, 0⟩⟩ | refine ne_prod ?_ ?_)) ?_; apply (?f2f _ _ _ _ _ _ _); (try any_goals exact default); intros news k x y tk tx ty; refine Bx.mk ?_
  intro B F X N T hck hd9 hu9 hk hret
  obtain ⟨hk0, hk1⟩ := hk
  refine wpAny_call ?_
  k_dflt cell_enter
  k_steps
  all_goals (refine q_bool ?_ (hret _ _ (by k_asm) (by k_asm)); rw [Bool.eq_iff_iff]; simp only [noRes, Bool.or_eq_true, Bool.and_eq_true, beq_iff_eq, decide_eq_true_eq]; omega)
theorem rows_C1w_3 : True := by
  k_with "call ref" => (k_here; k_dflt (refine' has_no_result_ok _ _ _ _ _ _ _ _ _ _ _ _ _ _ _ _ _ _ _ _ _ _ _ _ _ _ _ _ _ _ ?kB ?kF ?kX ?kN ?kT ?kK ?kd ?ku ?q0 ?_; (case kB => k_asm); (case kF => k_asm); (case kX => k_asm); (case kN => k_asm); (case kT => k_asm); (case kK => first | exact rfl | assumption); (case kd => ktr_room); (case ku => ktr_units); (case q0 => assumption); k_whole); intro  h'_z tk'_z  F'_z N'_z; (try k_sweep))
  trivial
theorem reckon_ok : ∀ (w : World) (p : Program) (loose : List Str) (mean : ExcName → Option Value) (mg mb : Str → Option Value) (dp un : Nat) (gd : Option (List Code)) (cn : Str) (cs : Scope) (a : Addr) (ccd : Value) (cl : List (Str × Addr)) (outer : List Env) (A₀ : Around) (base h₀ : Heap) (L : Addr) (m : Str → Option Value) (s : Shared) (Q E : Value → Shared → Prop) (news : List (Addr × Obj)) (k : Int) (tk : Tok) (x y : RV) (v1 v2 : Value) (lm dl : Addr) (es : List DictEntry) (ne : Nat) (wd : Int) (tw : Tok), Below A₀ base outer h₀ → Fr h₀ L s.heap m → (Kf w.params).In h₀ → News h₀ L s.heap (news) → Top p loose mean mg mb h₀ → cs.kind = .function → dp + 7 < recursionLimit → un + 56 < cLine → (0 ≤ k ∧ k < 7) → (x.Is v1) → (y.Is v2) → (okV x) → (okV y) → ((lm, instObj 95 dl) ∈ news) → ((dl, dictOf es ne) ∈ news) → (getL (Str.ofString "width") es = some (some (.int wd tw))) → (1 ≤ wd ∧ wd ≤ 64) → (wd ≤ 17) → (∀ (T : Addr) (oc : Int) (to : Tok) (r : Value) (h' : Heap) (tk' : Nat), (OI (reckW k.toNat x y wd) r) → ((oc = 0 ↔ (reckW k.toNat x y wd).isSome = true)) → (∀ p ∈ news, p.1 < T) → Fr h₀ L h' m → News h₀ L h' ((T, { cls := .type "tuple", data := .seq #[.int oc to, r] }) :: news) → Q (.ref T) { s with heap := h', toks := tk' }) → wpAny (model PySem.Challenge.rw_pc0174_01.row.prog w) (ktrTop dp un gd cn cs L a ccd cl outer) (call (.ref 395) [.int k tk, v1, v2, .ref lm]) Q E s := by
  k_fill
  refine (?k3k : KBcx ?f3f); refine ep_cx ?_; apply (?f3f _ _ _ _ _ _ _ _ _ _ _ _ _ _ _ _ _ _ _ _ _ _ _); (try any_goals exact default); intros w p loose mean mg mb dp un gd cn cs a ccd cl outer A₀ base h₀ L m s Q E; refine Bx.mk ?_
  refine (?k4k : KB13 ?f4f); refine ep13 (by repeat' (first | infer_instance | exact ne_world | exact ne_shared | exact ne_around | exact ⟨.none⟩ | exact ⟨⟨0, 0, 0, 0⟩⟩ | refine ne_prod ?_ ?_)) ?_; apply (?f4f _ _ _ _ _ _ _ _ _ _ _ _ _); (try any_goals exact default); intros news k tk x y v1 v2 lm dl es ne wd tw; refine Bx.mk ?_
  intro B F X N T hck hd9 hu9 hk hx hy hvx hvy hlm hdl hes hw hw2 hret
  refine wpAny_call ?_
  k_dflt cell_enter
  k_steps
  (rename OI (numRV x wd) _ => q1); (rename OI (numRV y wd) _ => q2)
  rcases OI_cases q1 with ⟨e1, rfl⟩ | ⟨i, ti, e1, rfl⟩
  all_goals (try (revert i ti; intro i ti; (set_option tactic.hygienic false in intros)))
  · k_steps
    rename News h₀ L _ _ => lN
    refine hret _ _ _ _ _ _ ?_ ?_ ?_ (by k_asm) (news_mid lN)
    · rw [reck_n1 e1]; rfl
    · rw [reck_n1 e1]; decide
    · exact allLt_all (And.right (by assumption))
  rcases OI_cases q2 with ⟨e2, rfl⟩ | ⟨j, tj, e2, rfl⟩
  all_goals (try (revert j tj; intro j tj; (set_option tactic.hygienic false in intros)))
  · k_steps
    rename News h₀ L _ _ => lN
    refine hret _ _ _ _ _ _ ?_ ?_ ?_ (by k_asm) (news_mid lN)
    · rw [reck_n2 e2]; rfl
    · rw [reck_n2 e2]; decide
    · exact allLt_all (And.right (by assumption))
  have hi := num_small hvx hw.1 hw2 e1
  have hj := num_small hvy hw.1 hw2 e2
  k_steps
  all_goals rename News h₀ L _ _ => lN
  · refine hret _ _ _ _ _ _ ?_ ?_ ?_ (by k_asm) (news_mid lN)
    · rw [reck_z e1 e2 (by assumption)]; rfl
    · rw [reck_z e1 e2 (by assumption)]; decide
    · exact allLt_all (And.right (by assumption))
  · refine hret _ _ _ _ _ _ ?_ ?_ ?_ (by k_asm) (news_mid lN)
    · rw [reck_s e1 e2 (by assumption)]; exact ⟨_, rfl⟩
    · rw [reck_s e1 e2 (by assumption)]; simp
    · exact allLt_all (And.right (by assumption))

theorem rows_C1w_4 : True := by
  k_with "call ref" => (k_here; k_dflt (refine' reckon_ok _ _ _ _ _ _ _ _ _ _ _ _ _ _ _ _ _ _ _ _ _ _ _ _ _ _ _ _ _ _ _ _ _ _ _ _ ?kB ?kF ?kX ?kN ?kT ?kK ?kd ?ku ?q0 ?q1 ?q2 ?q3 ?q4 ?q5 ?q6 ?q7 ?q8 ?q9 ?_; (case kB => k_asm); (case kF => k_asm); (case kX => k_asm); (case kN => k_asm); (case kT => k_asm); (case kK => first | exact rfl | assumption); (case kd => ktr_room); (case ku => ktr_units); (case q0 => assumption); (case q1 => assumption); (case q2 => assumption); (case q3 => assumption); (case q4 => assumption); (case q5 => k_mem); (case q6 => k_mem); (case q7 => assumption); (case q8 => assumption); (case q9 => assumption); k_whole); intro T_z oc_z to_z r_z h'_z tk'_z hr_z ho_z hlt_z F'_z N'_z; (try k_sweep); (try k_lt hlt_z))
  trivial
end Mine
end
section
namespace Mine

theorem rows_D1r_1 : True := by
  k_with_none
  k_with "EP" => (k_whole; fail_if_success (fail_if_success (rename Below _ _ _ _ => b9_z)))
  k_with "call ref" => (k_here; k_dflt (refine' a_of_ok _ _ _ _ _ _ _ _ _ _ _ _ _ _ _ _ _ _ _ _ _ _ _ _ _ _ _ ?kB ?kF ?kX ?kN ?kT ?kK ?kd ?ku ?q0 ?q1 ?q2 ?_; (case kB => k_asm); (case kF => k_asm); (case kX => k_asm); (case kN => k_asm); (case kT => k_asm); (case kK => first | exact rfl | assumption); (case kd => ktr_room); (case ku => ktr_units); (case q0 => first | assumption | l_fact); (case q1 => first | assumption | l_fact); (case q2 => first | assumption | exact rfl); k_whole); intro t_z h'_z tk'_z  F'_z N'_z; (try k_sweep))
  k_with "call ref" => (k_here; k_dflt (refine' b_of_ok _ _ _ _ _ _ _ _ _ _ _ _ _ _ _ _ _ _ _ _ _ _ _ _ _ _ _ ?kB ?kF ?kX ?kN ?kT ?kK ?kd ?ku ?q0 ?q1 ?q2 ?_; (case kB => k_asm); (case kF => k_asm); (case kX => k_asm); (case kN => k_asm); (case kT => k_asm); (case kK => first | exact rfl | assumption); (case kd => ktr_room); (case ku => ktr_units); (case q0 => first | assumption | l_fact); (case q1 => first | assumption | l_fact); (case q2 => first | assumption | exact rfl); k_whole); intro t_z h'_z tk'_z  F'_z N'_z; (try k_sweep))
  k_with "call ref" => (k_here; k_dflt (refine' two_operands_ok _ _ _ _ _ _ _ _ _ _ _ _ _ _ _ _ _ _ _ _ _ _ _ _ _ _ _ _ _ _ _ _ _ ?kB ?kF ?kX ?kN ?kT ?kK ?kd ?ku ?q0 ?q1 ?q2 ?q3 ?q4 ?q5 ?q6 ?q7 ?_; (case kB => k_asm); (case kF => k_asm); (case kX => k_asm); (case kN => k_asm); (case kT => k_asm); (case kK => first | exact rfl | assumption); (case kd => ktr_room); (case ku => ktr_units); (case q0 => assumption); (case q1 => assumption); (case q2 => assumption); (case q3 => assumption); (case q4 => k_mem); (case q5 => assumption); (case q6 => assumption); (case q7 => assumption); k_whole); intro T_z v1_z v2_z h'_z tk'_z hv1_z hv2_z hlt_z F'_z N'_z; (try k_sweep); (try k_lt hlt_z))
  k_with "call ref" => (k_here; k_dflt (refine' reckon_ok _ _ _ _ _ _ _ _ _ _ _ _ _ _ _ _ _ _ _ _ _ _ _ _ _ _ _ _ _ _ _ _ _ _ _ _ ?kB ?kF ?kX ?kN ?kT ?kK ?kd ?ku ?q0 ?q1 ?q2 ?q3 ?q4 ?q5 ?q6 ?q7 ?q8 ?q9 ?_; (case kB => k_asm); (case kF => k_asm); (case kX => k_asm); (case kN => k_asm); (case kT => k_asm); (case kK => first | exact rfl | assumption); (case kd => ktr_room); (case ku => ktr_units); (case q0 => assumption); (case q1 => assumption); (case q2 => assumption); (case q3 => assumption); (case q4 => assumption); (case q5 => k_mem); (case q6 => k_mem); (case q7 => assumption); (case q8 => assumption); (case q9 => assumption); k_whole); intro T_z oc_z to_z r_z h'_z tk'_z hr_z ho_z hlt_z F'_z N'_z; (try k_sweep); (try k_lt hlt_z))
  trivial
local macro_rules | `(tactic| k_mem) => `(tactic| first | assumption | (refine mem_of ?_; assumption))
theorem rows_D1r_2 : True := by
  k_with "subscriptTail" => (k_here; (with_reducible show wpAny _ _ (subscriptTail _ _ (Value.ref _) (Value.int _ _)) _ _ _); k_dflt (refine' kv_sub ?k1 ?k2 ?k4 ?k5 ?k6 ?_ ?k7; (case k1 => k_asm); (case k2 => k_mem); (case k4 => first | omega | l_fact); (case k5 => first | omega | l_fact); (case k6 => first | omega | l_fact); (case k7 => with_unfolding_all rfl); k_whole))
  k_with "setItem ref int" => (k_here; (with_reducible show wpAny _ _ (setItem (Value.ref _) (Value.int _ _) _) _ _ _); k_dflt (refine' kv_set ?k1 ?k2 ?k3 ?k4 ?k5 ?k6 ?_; (case k1 => k_asm); (case k2 => k_asm); (case k3 => k_upd); (case k4 => first | omega | l_fact); (case k5 => (try simp only [List.length_set]); first | omega | l_fact); (case k6 => first | omega | l_fact); k_whole; intro h'_z F'_z N'_z; (try k_sweep)))
  k_with "setItem ref" => walk_at "setItem ref int"
  k_with "getAttr ref" => (k_here; k_dflt (refine' get_own ?k1 ?k2 ?k3 ?k4 ?k5 ?k6 ?k7 ?k8 ?k9 ?_; (case k1 => k_asm); (case k2 => k_asm); (case k3 => k_inst); (case k4 => k_is); (case k5 => k_is); (case k6 => k_is); (case k7 => k_is); (case k8 => first | assumption | exact StepD.get (by assumption) (by assumption) (by decide) (by decide) | exact StepD.pc (by assumption)); (case k9 => k_handed); k_whole))
  trivial
theorem done_reck_ok : ∀ (w : World) (p : Program) (loose : List Str) (mean : ExcName → Option Value) (mg mb : Str → Option Value) (dp un : Nat) (gd : Option (List Code)) (cn : Str) (cs : Scope) (a : Addr) (ccd : Value) (cl : List (Str × Addr)) (outer : List Env) (A₀ : Around) (base h₀ : Heap) (L : Addr) (m : Str → Option Value) (s : Shared) (Q E : Value → Shared → Prop) (x dx st lm dl wk dw : Addr) (es esl esw : List DictEntry) (nd nl nw k : Nat) (fx : Str → Option Value) (pcv : Value) (wd : Int) (tw : Tok) (xs : List RV) (vs : List Value) (rest : List (Addr × Obj)) (op ins ra rb rc : Int) (to ti : Tok), Below A₀ base outer h₀ → Fr h₀ L s.heap m → (Kf w.params).In h₀ → News h₀ L s.heap ((x, instObj 503 dx) :: (dx, dictOf es nd) :: (st, listOf vs.toArray k) :: rest) → Top p loose mean mg mb h₀ → cs.kind = .function → dp + 8 < recursionLimit → un + 64 < cLine → (@Ne Nat x dx ∧ @Ne Nat x st ∧ @Ne Nat dx st) → (∀ p ∈ rest, p.1 ≠ dx) → (∀ p ∈ rest, p.1 ≠ st) → (StepD fx es pcv .none) → (fx (Str.ofString "stack") = some (.ref st) ∧ fx (Str.ofString "constants") = some (.ref 510) ∧ fx (Str.ofString "limits") = some (.ref lm) ∧ fx (Str.ofString "works") = some (.ref wk)) → (RVs xs vs) → (xs.length = 17) → (∀ x ∈ xs, okV x) → (1 ≤ wd ∧ wd ≤ 64) → (wd ≤ 17) → ((lm, instObj 95 dl) ∈ rest) → ((dl, dictOf esl nl) ∈ rest) → (getL (Str.ofString "width") esl = some (some (.int wd tw))) → (0 ≤ ins) → (ins < 2 ^ 40) → (ins / 64 % 256 = ra) → (ins / 8388608 = rb) → (ins / 16384 % 512 = rc) → (0 ≤ ra ∧ ra < 17) → (12 ≤ op ∧ op < 18) → (okOp rb xs.length) → (okOp rc xs.length) → (∀ (vs1 : List Value) (ok : Bool) (h' : Heap) (tk' : Nat), (ok = (reckW (op - 12).toNat (opd1 xs rb) (opd1 xs rc) wd).isSome) → (RVs (recSet xs ra (reckW (op - 12).toNat (opd1 xs rb) (opd1 xs rc) wd)) vs1) → Fr h₀ L h' m → News h₀ L h' ((x, instObj 503 dx) :: (dx, dictOf es nd) :: (st, listOf vs1.toArray k) :: rest) → Q (.bool ok) { s with heap := h', toks := tk' }) → wpAny (model PySem.Challenge.rw_pc0174_01.row.prog w) (ktrTop dp un gd cn cs L a ccd cl outer) (call (.ref 458) [.ref x, .int op to, .int ins ti]) Q E s := by
  k_fill
  refine (?k1k : KBcx ?f1f); refine ep_cx ?_; apply (?f1f _ _ _ _ _ _ _ _ _ _ _ _ _ _ _ _ _ _ _ _ _ _ _); (try any_goals exact default); intros w p loose mean mg mb dp un gd cn cs a ccd cl outer A₀ base h₀ L m s Q E; refine Bx.mk ?_
  refine (?k2k : KB14 ?f2f); refine ep14 (by repeat' (first | infer_instance | exact ne_world | exact ne_shared | exact ne_around | exact ⟨.none⟩ | exact ⟨⟨0, 0, 0, 0⟩⟩ | refine ne_prod ?_ ?_)) ?_; apply (?f2f _ _ _ _ _ _ _ _ _ _ _ _ _ _); (try any_goals exact default); intros x dx st lm dl wk dw es esl esw nd nl nw k; refine Bx.mk ?_; refine (?k3k : KB14 ?f3f); refine ep14 (by repeat' (first | infer_instance | exact ne_world | exact ne_shared | exact ne_around | exact ⟨.none⟩ | exact ⟨⟨0, 0, 0, 0⟩⟩ | refine ne_prod ?_ ?_)) ?_; apply (?f3f _ _ _ _ _ _ _ _ _ _ _ _ _ _); (try any_goals exact default); intros fx pcv wd tw xs vs rest op ins ra rb rc to ti; refine Bx.mk ?_
  intro B F X N T hck hd9 hu9 hne hrd hrs hD hf hx hxl hok hw hw2 hlm hdl hes hi hi2 ha hb hc hra hop hkb hkc hret
  obtain ⟨hne1, hne2, hne3⟩ := hne
  obtain ⟨hf1, hf2, hf3, hf4⟩ := hf
  have hl := hx.length
  obtain ⟨hop0, hop1⟩ := hop
  obtain ⟨hra0, hra1⟩ := hra
  have h19 : op ≠ 19 := by omega
  have h20 : op ≠ 20 := by omega
  have g19 : (op == 19) = false := by simpa using h19
  have g20 : (op == 20) = false := by simpa using h20
  have hvb := okV_opd hok rb
  have hvc := okV_opd hok rc
  have hk7 : 0 ≤ op - 12 ∧ op - 12 < 7 := by omega
  refine wpAny_call ?_
  k_dflt cell_enter
  k_steps
  all_goals ((rename OI _ _ => q1); (rename _ ↔ _ => q2); (rename News h₀ L _ _ => lN); rcases OI_cases q1 with ⟨e, rfl⟩ | ⟨i, ti', e, rfl⟩)
  all_goals (rw [e] at q2 hret)
  all_goals first
    | (exfalso; have := q2.mp (by assumption); cases this; done)
    | (exfalso; exact absurd (q2.mpr rfl) (by assumption))
    | (refine hret _ _ _ _ ?_ (hx.set _ ⟨_, rfl⟩) (by k_asm) (news_tl (news_tl (news_tl lN)))
       rw [q2.mpr rfl]; rfl)
    | (refine hret vs _ _ _ ?_ hx (by k_asm) (by rw [set_getD_self] at lN; exact news_tl (news_tl (news_tl lN)))
       exact beq_eq_false_iff_ne.mpr (by assumption))

theorem rows_D1r_3 : True := by
  k_with "call ref" => (k_here; k_dflt (refine' done_reck_ok _ _ _ _ _ _ _ _ _ _ _ _ _ _ _ _ _ _ _ _ _ _ _ _ _ _ _ _ _ _ _ _ _ _ _ _ _ _ _ _ _ _ _ _ _ _ _ _ _ _ _ _ ?kB ?kF ?kX ?kN ?kT ?kK ?kd ?ku ?q0 ?q1 ?q2 ?q3 ?q4 ?q5 ?q6 ?q7 ?q8 ?q9 ?q10 ?q11 ?q12 ?q13 ?q14 ?q15 ?q16 ?q17 ?q18 ?q19 ?q20 ?q21 ?_; (case kB => k_asm); (case kF => k_asm); (case kX => k_asm); (case kN => k_asm); (case kT => k_asm); (case kK => first | exact rfl | assumption); (case kd => ktr_room); (case ku => ktr_units); (case q0 => assumption); (case q1 => assumption); (case q2 => assumption); (case q3 => assumption); (case q4 => assumption); (case q5 => assumption); (case q6 => assumption); (case q7 => assumption); (case q8 => assumption); (case q9 => assumption); (case q10 => assumption); (case q11 => assumption); (case q12 => assumption); (case q13 => assumption); (case q14 => assumption); (case q15 => assumption); (case q16 => assumption); (case q17 => assumption); (case q18 => assumption); (case q19 => assumption); (case q20 => assumption); (case q21 => assumption); k_whole); intro vs1_z ok_z h'_z tk'_z ho_z hv1_z F'_z N'_z; (try k_sweep))
  k_with "call ref" => (k_here; k_dflt (refine' is_false_ok _ _ _ _ _ _ _ _ _ _ _ _ _ _ _ _ _ _ _ _ _ _ _ _ _ _ ?kB ?kF ?kX ?kN ?kT ?kK ?kd ?ku ?q0 ?_; (case kB => k_asm); (case kF => k_asm); (case kX => k_asm); (case kN => k_asm); (case kT => k_asm); (case kK => first | exact rfl | assumption); (case kd => ktr_room); (case ku => ktr_units); (case q0 => first | assumption | exact RVs.getD _ (by assumption)); k_whole); intro  h'_z tk'_z  F'_z N'_z; (try k_sweep))
  trivial
theorem done_unm_ok : ∀ (w : World) (p : Program) (loose : List Str) (mean : ExcName → Option Value) (mg mb : Str → Option Value) (dp un : Nat) (gd : Option (List Code)) (cn : Str) (cs : Scope) (a : Addr) (ccd : Value) (cl : List (Str × Addr)) (outer : List Env) (A₀ : Around) (base h₀ : Heap) (L : Addr) (m : Str → Option Value) (s : Shared) (Q E : Value → Shared → Prop) (x dx st lm dl wk dw : Addr) (es esl esw : List DictEntry) (nd nl nw k : Nat) (fx : Str → Option Value) (pcv : Value) (wd : Int) (tw : Tok) (xs : List RV) (vs : List Value) (rest : List (Addr × Obj)) (ins ra rb rc : Int) (to ti : Tok), Below A₀ base outer h₀ → Fr h₀ L s.heap m → (Kf w.params).In h₀ → News h₀ L s.heap ((x, instObj 503 dx) :: (dx, dictOf es nd) :: (st, listOf vs.toArray k) :: rest) → Top p loose mean mg mb h₀ → cs.kind = .function → dp + 8 < recursionLimit → un + 64 < cLine → (@Ne Nat x dx ∧ @Ne Nat x st ∧ @Ne Nat dx st) → (∀ p ∈ rest, p.1 ≠ dx) → (∀ p ∈ rest, p.1 ≠ st) → (StepD fx es pcv .none) → (fx (Str.ofString "stack") = some (.ref st) ∧ fx (Str.ofString "constants") = some (.ref 510) ∧ fx (Str.ofString "limits") = some (.ref lm) ∧ fx (Str.ofString "works") = some (.ref wk)) → (RVs xs vs) → (xs.length = 17) → (∀ x ∈ xs, okV x) → (1 ≤ wd ∧ wd ≤ 64) → (wd ≤ 17) → ((lm, instObj 95 dl) ∈ rest) → ((dl, dictOf esl nl) ∈ rest) → (getL (Str.ofString "width") esl = some (some (.int wd tw))) → (0 ≤ ins) → (ins < 2 ^ 40) → (ins / 64 % 256 = ra) → (ins / 8388608 = rb) → (ins / 16384 % 512 = rc) → (0 ≤ ra ∧ ra < 17) → (0 ≤ rb ∧ rb < 17) → (∀ (vs1 : List Value) (ok : Bool) (h' : Heap) (tk' : Nat), (ok = (reckW ((18 : Int) - 12).toNat (xs.getD rb.toNat .none) (xs.getD rb.toNat .none) wd).isSome) → (RVs (recSet xs ra (reckW ((18 : Int) - 12).toNat (xs.getD rb.toNat .none) (xs.getD rb.toNat .none) wd)) vs1) → Fr h₀ L h' m → News h₀ L h' ((x, instObj 503 dx) :: (dx, dictOf es nd) :: (st, listOf vs1.toArray k) :: rest) → Q (.bool ok) { s with heap := h', toks := tk' }) → wpAny (model PySem.Challenge.rw_pc0174_01.row.prog w) (ktrTop dp un gd cn cs L a ccd cl outer) (call (.ref 458) [.ref x, .int 18 to, .int ins ti]) Q E s := by
  k_fill
  refine (?k4k : KBcx ?f4f); refine ep_cx ?_; apply (?f4f _ _ _ _ _ _ _ _ _ _ _ _ _ _ _ _ _ _ _ _ _ _ _); (try any_goals exact default); intros w p loose mean mg mb dp un gd cn cs a ccd cl outer A₀ base h₀ L m s Q E; refine Bx.mk ?_
  refine (?k5k : KB14 ?f5f); refine ep14 (by repeat' (first | infer_instance | exact ne_world | exact ne_shared | exact ne_around | exact ⟨.none⟩ | exact ⟨⟨0, 0, 0, 0⟩⟩ | refine ne_prod ?_ ?_)) ?_; apply (?f5f _ _ _ _ _ _ _ _ _ _ _ _ _ _); (try any_goals exact default); intros x dx st lm dl wk dw es esl esw nd nl nw k; refine Bx.mk ?_; refine (?k6k : KB13 ?f6f); refine ep13 (by repeat' (first | infer_instance | exact ne_world | exact ne_shared | exact ne_around | exact ⟨.none⟩ | exact ⟨⟨0, 0, 0, 0⟩⟩ | refine ne_prod ?_ ?_)) ?_; apply (?f6f _ _ _ _ _ _ _ _ _ _ _ _ _); (try any_goals exact default); intros fx pcv wd tw xs vs rest ins ra rb rc to ti; refine Bx.mk ?_
  intro B F X N T hck hd9 hu9 hne hrd hrs hD hf hx hxl hok hw hw2 hlm hdl hes hi hi2 ha hb hc hra hrb hret
  obtain ⟨hne1, hne2, hne3⟩ := hne
  obtain ⟨hf1, hf2, hf3, hf4⟩ := hf
  have hl := hx.length
  obtain ⟨hra0, hra1⟩ := hra
  obtain ⟨hrb0, hrb1⟩ := hrb
  have hvb := okV_getD hok rb.toNat
  have hxb := hx.getD rb.toNat
  have hk7 : 0 ≤ (18 : Int) - 12 ∧ (18 : Int) - 12 < 7 := by decide
  refine wpAny_call ?_
  k_dflt cell_enter
  k_steps
  all_goals ((rename OI _ _ => q1); (rename _ ↔ _ => q2); (rename News h₀ L _ _ => lN); rcases OI_cases q1 with ⟨e, rfl⟩ | ⟨i, ti', e, rfl⟩)
  all_goals (rw [e] at q2 hret)
  all_goals first
    | (exfalso; have := q2.mp (by assumption); cases this; done)
    | (exfalso; exact absurd (q2.mpr rfl) (by assumption))
    | (refine hret _ _ _ _ ?_ (hx.set _ ⟨_, rfl⟩) (by k_asm) (news_tl (news_tl lN))
       rw [q2.mpr rfl]; rfl)
    | (refine hret vs _ _ _ ?_ hx (by k_asm) (by rw [set_getD_self] at lN; exact news_tl (news_tl lN))
       exact beq_eq_false_iff_ne.mpr (by assumption))

theorem rows_D1r_4 : True := by
  k_with "call ref" => (k_here; k_dflt (refine' done_unm_ok _ _ _ _ _ _ _ _ _ _ _ _ _ _ _ _ _ _ _ _ _ _ _ _ _ _ _ _ _ _ _ _ _ _ _ _ _ _ _ _ _ _ _ _ _ _ _ _ _ _ _ ?kB ?kF ?kX ?kN ?kT ?kK ?kd ?ku ?q0 ?q1 ?q2 ?q3 ?q4 ?q5 ?q6 ?q7 ?q8 ?q9 ?q10 ?q11 ?q12 ?q13 ?q14 ?q15 ?q16 ?q17 ?q18 ?q19 ?_; (case kB => k_asm); (case kF => k_asm); (case kX => k_asm); (case kN => k_asm); (case kT => k_asm); (case kK => first | exact rfl | assumption); (case kd => ktr_room); (case ku => ktr_units); (case q0 => assumption); (case q1 => assumption); (case q2 => assumption); (case q3 => assumption); (case q4 => assumption); (case q5 => assumption); (case q6 => assumption); (case q7 => assumption); (case q8 => assumption); (case q9 => assumption); (case q10 => assumption); (case q11 => assumption); (case q12 => assumption); (case q13 => assumption); (case q14 => assumption); (case q15 => assumption); (case q16 => assumption); (case q17 => assumption); (case q18 => assumption); (case q19 => assumption); k_whole); intro vs1_z ok_z h'_z tk'_z ho_z hv1_z F'_z N'_z; (try k_sweep))
  trivial
theorem done_not_ok : ∀ (w : World) (p : Program) (loose : List Str) (mean : ExcName → Option Value) (mg mb : Str → Option Value) (dp un : Nat) (gd : Option (List Code)) (cn : Str) (cs : Scope) (a : Addr) (ccd : Value) (cl : List (Str × Addr)) (outer : List Env) (A₀ : Around) (base h₀ : Heap) (L : Addr) (m : Str → Option Value) (s : Shared) (Q E : Value → Shared → Prop) (x dx st lm dl wk dw : Addr) (es esl esw : List DictEntry) (nd nl nw k : Nat) (fx : Str → Option Value) (pcv : Value) (wd : Int) (tw : Tok) (xs : List RV) (vs : List Value) (rest : List (Addr × Obj)) (ins ra rb rc : Int) (to ti : Tok), Below A₀ base outer h₀ → Fr h₀ L s.heap m → (Kf w.params).In h₀ → News h₀ L s.heap ((x, instObj 503 dx) :: (dx, dictOf es nd) :: (st, listOf vs.toArray k) :: rest) → Top p loose mean mg mb h₀ → cs.kind = .function → dp + 8 < recursionLimit → un + 64 < cLine → (@Ne Nat x dx ∧ @Ne Nat x st ∧ @Ne Nat dx st) → (∀ p ∈ rest, p.1 ≠ dx) → (∀ p ∈ rest, p.1 ≠ st) → (StepD fx es pcv .none) → (fx (Str.ofString "stack") = some (.ref st) ∧ fx (Str.ofString "constants") = some (.ref 510) ∧ fx (Str.ofString "limits") = some (.ref lm) ∧ fx (Str.ofString "works") = some (.ref wk)) → (RVs xs vs) → (xs.length = 17) → (∀ x ∈ xs, okV x) → (1 ≤ wd ∧ wd ≤ 64) → (wd ≤ 17) → ((lm, instObj 95 dl) ∈ rest) → ((dl, dictOf esl nl) ∈ rest) → (getL (Str.ofString "width") esl = some (some (.int wd tw))) → (0 ≤ ins) → (ins < 2 ^ 40) → (ins / 64 % 256 = ra) → (ins / 8388608 = rb) → (ins / 16384 % 512 = rc) → (0 ≤ ra ∧ ra < 17) → (0 ≤ rb ∧ rb < 17) → (∀ (vs1 : List Value) (h' : Heap) (tk' : Nat), (RVs (xs.set ra.toNat (.bool (isFalse (xs.getD rb.toNat .none)))) vs1) → Fr h₀ L h' m → News h₀ L h' ((x, instObj 503 dx) :: (dx, dictOf es nd) :: (st, listOf vs1.toArray k) :: rest) → Q (.bool true) { s with heap := h', toks := tk' }) → wpAny (model PySem.Challenge.rw_pc0174_01.row.prog w) (ktrTop dp un gd cn cs L a ccd cl outer) (call (.ref 458) [.ref x, .int 19 to, .int ins ti]) Q E s := by
  k_fill
  refine (?k7k : KBcx ?f7f); refine ep_cx ?_; apply (?f7f _ _ _ _ _ _ _ _ _ _ _ _ _ _ _ _ _ _ _ _ _ _ _); (try any_goals exact default); intros w p loose mean mg mb dp un gd cn cs a ccd cl outer A₀ base h₀ L m s Q E; refine Bx.mk ?_
  refine (?k8k : KB14 ?f8f); refine ep14 (by repeat' (first | infer_instance | exact ne_world | exact ne_shared | exact ne_around | exact ⟨.none⟩ | exact ⟨⟨0, 0, 0, 0⟩⟩ | refine ne_prod ?_ ?_)) ?_; apply (?f8f _ _ _ _ _ _ _ _ _ _ _ _ _ _); (try any_goals exact default); intros x dx st lm dl wk dw es esl esw nd nl nw k; refine Bx.mk ?_; refine (?k9k : KB13 ?f9f); refine ep13 (by repeat' (first | infer_instance | exact ne_world | exact ne_shared | exact ne_around | exact ⟨.none⟩ | exact ⟨⟨0, 0, 0, 0⟩⟩ | refine ne_prod ?_ ?_)) ?_; apply (?f9f _ _ _ _ _ _ _ _ _ _ _ _ _); (try any_goals exact default); intros fx pcv wd tw xs vs rest ins ra rb rc to ti; refine Bx.mk ?_
  intro B F X N T hck hd9 hu9 hne hrd hrs hD hf hx hxl hok hw hw2 hlm hdl hes hi hi2 ha hb hc hra hrb hret
  obtain ⟨hne1, hne2, hne3⟩ := hne
  obtain ⟨hf1, hf2, hf3, hf4⟩ := hf
  have hl := hx.length
  obtain ⟨hra0, hra1⟩ := hra
  obtain ⟨hrb0, hrb1⟩ := hrb
  have hxb := hx.getD rb.toNat
  refine wpAny_call ?_
  k_dflt cell_enter
  k_steps
  rename News h₀ L _ _ => lN
  exact hret _ _ _ (hx.set _ rfl) (by k_asm) (news_tl lN)
theorem rows_D1r_5 : True := by
  k_with "call ref" => (k_here; k_dflt (refine' done_not_ok _ _ _ _ _ _ _ _ _ _ _ _ _ _ _ _ _ _ _ _ _ _ _ _ _ _ _ _ _ _ _ _ _ _ _ _ _ _ _ _ _ _ _ _ _ _ _ _ _ _ _ ?kB ?kF ?kX ?kN ?kT ?kK ?kd ?ku ?q0 ?q1 ?q2 ?q3 ?q4 ?q5 ?q6 ?q7 ?q8 ?q9 ?q10 ?q11 ?q12 ?q13 ?q14 ?q15 ?q16 ?q17 ?q18 ?q19 ?_; (case kB => k_asm); (case kF => k_asm); (case kX => k_asm); (case kN => k_asm); (case kT => k_asm); (case kK => first | exact rfl | assumption); (case kd => ktr_room); (case ku => ktr_units); (case q0 => assumption); (case q1 => assumption); (case q2 => assumption); (case q3 => assumption); (case q4 => assumption); (case q5 => assumption); (case q6 => assumption); (case q7 => assumption); (case q8 => assumption); (case q9 => assumption); (case q10 => assumption); (case q11 => assumption); (case q12 => assumption); (case q13 => assumption); (case q14 => assumption); (case q15 => assumption); (case q16 => assumption); (case q17 => assumption); (case q18 => assumption); (case q19 => assumption); k_whole); intro vs1_z h'_z tk'_z hv1_z F'_z N'_z; (try k_sweep))
  trivial
end Mine
end
section
namespace Mine
theorem rows_EP_T1 : True := by
  k_with_none
  k_with "EP" => (k_whole; fail_if_success (fail_if_success (rename Below _ _ _ _ => b9_z)))
  trivial

theorem take_core : ∀ (w : World) (p : Program) (loose : List Str) (mean : ExcName → Option Value) (mg mb : Str → Option Value) (dp un : Nat) (gd : Option (List Code)) (cn : Str) (cs : Scope) (a : Addr) (ccd : Value) (cl : List (Str × Addr)) (outer : List Env) (A₀ : Around) (base h₀ : Heap) (L : Addr) (m : Str → Option Value) (s : Shared) (Q E : Value → Shared → Prop) (b : Addr) (g c k : Int) (t0 t1 tk : Tok) (n : Nat) (rest : List (Addr × Obj)), Below A₀ base outer h₀ → Fr h₀ L s.heap m → (Kf w.params).In h₀ → News h₀ L s.heap ((b, listOf [.int g t0, .int c t1].toArray n) :: rest) → Top p loose mean mg mb h₀ → cs.kind = .function → dp + 1 < recursionLimit → un + 8 < cLine → (∀ p ∈ rest, p.1 ≠ b) → (0 ≤ g ∧ g < 2 ^ 400) → (0 ≤ c ∧ c < 2 ^ 20) → (0 < k ∧ k < 2 ^ 10) → (∀ (d : Int) (g' c' : Int) (td t0' t1' : Tok) (h' : Heap) (tk' : Nat), (0 ≤ d ∧ d < k) → (0 ≤ g' ∧ g' ≤ g) → (c' = c + 1) → Fr h₀ L h' m → News h₀ L h' ((b, listOf [.int g' t0', .int c' t1'].toArray n) :: rest) → Q (.int d td) { s with heap := h', toks := tk' }) → wpAny (model PySem.Challenge.rw_pc0174_01.row.prog w) (ktrTop dp un gd cn cs L a ccd cl outer) (call (.ref 517) [.ref b, .int k tk]) Q E s := by
  k_fill
  refine (?k1k : KBcx ?f1f); refine ep_cx ?_; apply (?f1f _ _ _ _ _ _ _ _ _ _ _ _ _ _ _ _ _ _ _ _ _ _ _); (try any_goals exact default); intros w p loose mean mg mb dp un gd cn cs a ccd cl outer A₀ base h₀ L m s Q E; refine Bx.mk ?_
  refine (?k2k : KB9 ?f2f); refine ep9 (by repeat' (first | infer_instance | exact ne_world | exact ne_shared | exact ne_around | exact ⟨.none⟩ | exact ⟨⟨0, 0, 0, 0⟩⟩ | refine ne_prod ?_ ?_)) ?_; apply (?f2f _ _ _ _ _ _ _ _ _); (try any_goals exact default); intros b g c k t0 t1 tk n rest; refine Bx.mk ?_
  intro B F X N T hck hd9 hu9 hne hg hc hk hret
  obtain ⟨hg0, hg1⟩ := hg
  obtain ⟨hc0, hc1⟩ := hc
  obtain ⟨hk0, hk1⟩ := hk
  refine wpAny_call ?_
  k_dflt cell_enter
  k_steps
  · refine hret (g.fmod k) (g.fdiv k) (c + 1) _ _ _ _ _ ?_ ?_ rfl (by k_asm) (by k_asm)
    · rw [fmodK _ _ (Int.le_of_lt hk0)]
      exact ⟨Int.emod_nonneg _ (by omega), Int.emod_lt_of_pos _ hk0⟩
    · rw [fdivK _ _ (Int.le_of_lt hk0)]
      exact ⟨Int.ediv_nonneg hg0 (Int.le_of_lt hk0), Int.ediv_le_self _ hg0⟩
  · refine hret (((c + 1) * 7 + (c + 1).fdiv 5).fmod k) g (c + 1) _ _ _ _ _ ?_ ⟨hg0, Int.le_refl _⟩ rfl (by k_asm) (by k_asm)
    rw [fmodK _ _ (Int.le_of_lt hk0)]
    exact ⟨Int.emod_nonneg _ (by omega), Int.emod_lt_of_pos _ hk0⟩
theorem news_front {h₀ h : Heap} {L d : Addr} {ob : Obj} {pre post : List (Addr × Obj)} (N : News h₀ L h (pre ++ (d, ob) :: post)) : News h₀ L h ((d, ob) :: (pre ++ post)) := fun q hq => N q (by
  simp only [List.mem_cons, List.mem_append] at hq ⊢
  rcases hq with h | h | h <;> simp [h])
theorem news_back {h₀ h : Heap} {L d : Addr} {ob : Obj} {pre post : List (Addr × Obj)} (N : News h₀ L h ((d, ob) :: (pre ++ post))) : News h₀ L h (pre ++ (d, ob) :: post) := fun q hq => N q (by
  simp only [List.mem_cons, List.mem_append] at hq ⊢
  rcases hq with h | h | h <;> simp [h])
theorem ne_parts {d : Addr} {pre post : List (Addr × Obj)} (a : ∀ p ∈ pre, p.1 ≠ d) (b : ∀ p ∈ post, p.1 ≠ d) : ∀ p ∈ pre ++ post, p.1 ≠ d := fun p hp => (List.mem_append.mp hp).elim (a p) (b p)
theorem take_ok : ∀ (w : World) (p : Program) (loose : List Str) (mean : ExcName → Option Value) (mg mb : Str → Option Value) (dp un : Nat) (gd : Option (List Code)) (cn : Str) (cs : Scope) (a : Addr) (ccd : Value) (cl : List (Str × Addr)) (outer : List Env) (A₀ : Around) (base h₀ : Heap) (L : Addr) (m : Str → Option Value) (s : Shared) (Q E : Value → Shared → Prop) (news : List (Addr × Obj)) (b : Addr) (g c k : Int) (t0 t1 tk : Tok) (n : Nat) (gg : Obj → List (Addr × Obj)), Below A₀ base outer h₀ → Fr h₀ L s.heap m → (Kf w.params).In h₀ → News h₀ L s.heap (news) → Top p loose mean mg mb h₀ → cs.kind = .function → dp + 1 < recursionLimit → un + 8 < cLine → (UpdF b (listOf [.int g t0, .int c t1].toArray n) news gg) → (0 ≤ g ∧ g < 2 ^ 400) → (0 ≤ c ∧ c < 2 ^ 20) → (0 < k ∧ k < 2 ^ 10) → (∀ (d : Int) (g' c' : Int) (td t0' t1' : Tok) (h' : Heap) (tk' : Nat), (0 ≤ d ∧ d < k) → (0 ≤ g' ∧ g' < 2 ^ 400) → (c' = c + 1) → Fr h₀ L h' m → News h₀ L h' (gg (listOf [.int g' t0', .int c' t1'].toArray n)) → Q (.int d td) { s with heap := h', toks := tk' }) → wpAny (model PySem.Challenge.rw_pc0174_01.row.prog w) (ktrTop dp un gd cn cs L a ccd cl outer) (call (.ref 517) [.ref b, .int k tk]) Q E s := by
  k_fill
  refine (?k3k : KBcx ?f3f); refine ep_cx ?_; apply (?f3f _ _ _ _ _ _ _ _ _ _ _ _ _ _ _ _ _ _ _ _ _ _ _); (try any_goals exact default); intros w p loose mean mg mb dp un gd cn cs a ccd cl outer A₀ base h₀ L m s Q E; refine Bx.mk ?_
  refine (?k4k : KB10 ?f4f); refine ep10 (by repeat' (first | infer_instance | exact ne_world | exact ne_shared | exact ne_around | exact ⟨.none⟩ | exact ⟨⟨0, 0, 0, 0⟩⟩ | refine ne_prod ?_ ?_)) ?_; apply (?f4f _ _ _ _ _ _ _ _ _ _); (try any_goals exact default); intros news b g c k t0 t1 tk n gg; refine Bx.mk ?_
  intro B F X N T hck hd9 hu9 hU hg hc hk hret
  obtain ⟨pre, post, rfl, hgg, ha, hb⟩ := hU.split
  refine take_core _ _ _ _ _ _ _ _ _ _ _ _ _ _ _ _ _ _ _ _ _ _ _ _ _ _ _ _ _ _ _ _ B F X (news_front N) T hck hd9 hu9 (ne_parts ha hb) hg hc hk fun d g' c' td t0' t1' h' tk' hd hg1 hc1 F' N' => ?_
  refine hret d g' c' td t0' t1' h' tk' hd ⟨hg1.1, Int.lt_of_le_of_lt hg1.2 hg.2⟩ hc1 F' ?_
  rw [hgg]
  exact (news_back N' :)
theorem rows_T1_1 : True := by
  k_with_none
  k_with "EP" => (k_whole; fail_if_success (fail_if_success (rename Below _ _ _ _ => b9_z)))
  k_with "call ref" => (k_here; k_dflt (refine' take_ok _ _ _ _ _ _ _ _ _ _ _ _ _ _ _ _ _ _ _ _ _ _ _ _ _ _ _ _ _ _ _ _ _ ?kB ?kF ?kX ?kN ?kT ?kK ?kd ?ku ?q0 ?q1 ?q2 ?q3 ?_; (case kB => k_asm); (case kF => k_asm); (case kX => k_asm); (case kN => k_asm); (case kT => k_asm); (case kK => first | exact rfl | assumption); (case kd => ktr_room); (case ku => ktr_units); (case q0 => k_updF); (case q1 => first | assumption | (constructor <;> omega)); (case q2 => first | assumption | (constructor <;> omega)); (case q3 => first | assumption | (constructor <;> omega)); k_whole); intro d_z g'_z c'_z td_z t0'_z t1'_z h'_z tk'_z hd_z hg1_z hc1_z F'_z N'_z; (try k_sweep); (try dsimp only at N'_z); (subst hc1_z))
  trivial
end Mine
end
section
namespace Mine

theorem rows_D1l_1 : True := by
  k_with_none
  k_with "EP" => (k_whole; fail_if_success (fail_if_success (rename Below _ _ _ _ => b9_z)))
  k_with "call ref" => (k_here; k_dflt (refine' a_of_ok _ _ _ _ _ _ _ _ _ _ _ _ _ _ _ _ _ _ _ _ _ _ _ _ _ _ _ ?kB ?kF ?kX ?kN ?kT ?kK ?kd ?ku ?q0 ?q1 ?q2 ?_; (case kB => k_asm); (case kF => k_asm); (case kX => k_asm); (case kN => k_asm); (case kT => k_asm); (case kK => first | exact rfl | assumption); (case kd => ktr_room); (case ku => ktr_units); (case q0 => first | assumption | l_fact); (case q1 => first | assumption | l_fact); (case q2 => first | assumption | exact rfl); k_whole); intro t_z h'_z tk'_z  F'_z N'_z; (try k_sweep))
  k_with "call ref" => (k_here; k_dflt (refine' b_of_ok _ _ _ _ _ _ _ _ _ _ _ _ _ _ _ _ _ _ _ _ _ _ _ _ _ _ _ ?kB ?kF ?kX ?kN ?kT ?kK ?kd ?ku ?q0 ?q1 ?q2 ?_; (case kB => k_asm); (case kF => k_asm); (case kX => k_asm); (case kN => k_asm); (case kT => k_asm); (case kK => first | exact rfl | assumption); (case kd => ktr_room); (case ku => ktr_units); (case q0 => first | assumption | l_fact); (case q1 => first | assumption | l_fact); (case q2 => first | assumption | exact rfl); k_whole); intro t_z h'_z tk'_z  F'_z N'_z; (try k_sweep))
  k_with "call ref" => (k_here; k_dflt (refine' c_of_ok _ _ _ _ _ _ _ _ _ _ _ _ _ _ _ _ _ _ _ _ _ _ _ _ _ _ _ ?kB ?kF ?kX ?kN ?kT ?kK ?kd ?ku ?q0 ?q1 ?q2 ?_; (case kB => k_asm); (case kF => k_asm); (case kX => k_asm); (case kN => k_asm); (case kT => k_asm); (case kK => first | exact rfl | assumption); (case kd => ktr_room); (case ku => ktr_units); (case q0 => first | assumption | l_fact); (case q1 => first | assumption | l_fact); (case q2 => first | assumption | exact rfl); k_whole); intro t_z h'_z tk'_z  F'_z N'_z; (try k_sweep))
  k_with "call ref" => (k_here; k_dflt (refine' wide_of_ok _ _ _ _ _ _ _ _ _ _ _ _ _ _ _ _ _ _ _ _ _ _ _ _ _ _ _ ?kB ?kF ?kX ?kN ?kT ?kK ?kd ?ku ?q0 ?q1 ?q2 ?_; (case kB => k_asm); (case kF => k_asm); (case kX => k_asm); (case kN => k_asm); (case kT => k_asm); (case kK => first | exact rfl | assumption); (case kd => ktr_room); (case ku => ktr_units); (case q0 => first | assumption | l_fact); (case q1 => first | assumption | l_fact); (case q2 => first | assumption | exact rfl); k_whole); intro t_z h'_z tk'_z  F'_z N'_z; (try k_sweep))
  trivial
local macro_rules | `(tactic| k_mem) => `(tactic| first | assumption | (refine mem_of ?_; assumption))
theorem rows_D1l_2 : True := by
  k_with "subscriptTail" => (k_here; (with_reducible show wpAny _ _ (subscriptTail _ _ (Value.ref _) (Value.int _ _)) _ _ _); k_dflt (refine' kv_sub ?k1 ?k2 ?k4 ?k5 ?k6 ?_ ?k7; (case k1 => k_asm); (case k2 => k_mem); (case k4 => first | omega | l_fact); (case k5 => first | omega | l_fact); (case k6 => first | omega | l_fact); (case k7 => with_unfolding_all rfl); k_whole))
  k_with "subscriptTail" => (k_here; (with_reducible show wpAny _ _ (subscriptTail _ _ (Value.ref 510) (Value.int _ _)) _ _ _); k_dflt (refine' cst_sub ?k1 ?k2 ?k3 ?k4 ?_; (case k1 => first | assumption | (constructor <;> omega)); (case k2 => k_asm); (case k3 => k_asm); (case k4 => with_unfolding_all rfl); k_whole); intro _ _)
  k_with "setItem ref int" => (k_here; (with_reducible show wpAny _ _ (setItem (Value.ref _) (Value.int _ _) _) _ _ _); k_dflt (refine' kv_set ?k1 ?k2 ?k3 ?k4 ?k5 ?k6 ?_; (case k1 => k_asm); (case k2 => k_asm); (case k3 => k_upd); (case k4 => first | omega | l_fact); (case k5 => (try simp only [List.length_set]); first | omega | l_fact); (case k6 => first | omega | l_fact); k_whole; intro h'_z F'_z N'_z; (try k_sweep)))
  k_with "setItem ref" => walk_at "setItem ref int"
  trivial
theorem load_core : ∀ (w : World) (p : Program) (loose : List Str) (mean : ExcName → Option Value) (mg mb : Str → Option Value) (dp un : Nat) (gd : Option (List Code)) (cn : Str) (cs : Scope) (a : Addr) (ccd : Value) (cl : List (Str × Addr)) (outer : List Env) (A₀ : Around) (base h₀ : Heap) (L : Addr) (m : Str → Option Value) (s : Shared) (Q E : Value → Shared → Prop) (st : Addr) (xs : List RV) (vs : List Value) (k : Nat) (rest : List (Addr × Obj)) (op ins ra rb rc bb : Int) (to ti tz : Tok), Below A₀ base outer h₀ → Fr h₀ L s.heap m → (Kf w.params).In h₀ → News h₀ L s.heap ((st, listOf vs.toArray k) :: rest) → Top p loose mean mg mb h₀ → cs.kind = .function → dp + 2 < recursionLimit → un + 16 < cLine → (∀ p ∈ rest, p.1 ≠ st) → (RVs xs vs) → (xs.length = 17) → (0 ≤ ins) → (ins < 2 ^ 40) → (ins / 64 % 256 = ra) → (ins / 8388608 = rb) → (ins / 16384 % 512 = rc) → (ins / 16384 = bb) → (0 ≤ ra ∧ ra < 17) → ((op = 0 ∧ 0 ≤ rb ∧ rb < 17) ∨ (op = 1 ∧ 0 ≤ bb ∧ bb < 6) ∨ op = 2) → (∀ (vs1 : List Value) (t : Tok) (h' : Heap) (tk' : Nat), (RVs (loadR op ra rb rc bb xs) vs1) → Fr h₀ L h' m → News h₀ L h' ((st, listOf vs1.toArray k) :: rest) → Q (.int (if op = 2 ∧ rc ≠ 0 then 1 else 0) t) { s with heap := h', toks := tk' }) → wpAny (model PySem.Challenge.rw_pc0174_01.row.prog w) (ktrTop dp un gd cn cs L a ccd cl outer) (call (.ref 303) [.int op to, .int ins ti, .ref st, .int 0 tz, .ref 510]) Q E s := by
  k_fill
  refine (?k1k : KBcx ?f1f); refine ep_cx ?_; apply (?f1f _ _ _ _ _ _ _ _ _ _ _ _ _ _ _ _ _ _ _ _ _ _ _); (try any_goals exact default); intros w p loose mean mg mb dp un gd cn cs a ccd cl outer A₀ base h₀ L m s Q E; refine Bx.mk ?_
  refine (?k2k : KB14 ?f2f); refine ep14 (by repeat' (first | infer_instance | exact ne_world | exact ne_shared | exact ne_around | exact ⟨.none⟩ | exact ⟨⟨0, 0, 0, 0⟩⟩ | refine ne_prod ?_ ?_)) ?_; apply (?f2f _ _ _ _ _ _ _ _ _ _ _ _ _ _); (try any_goals exact default); intros st xs vs k rest op ins ra rb rc bb to ti tz; refine Bx.mk ?_
  intro B F X N T hck hd9 hu9 hrs hx hxl hi hi2 ha hb hc hbb hra hop hret
  have hl := hx.length
  obtain ⟨hra0, hra1⟩ := hra
  rcases hop with ⟨rfl, hr0, hr1⟩ | ⟨rfl, hr0, hr1⟩ | rfl
  all_goals (refine wpAny_call ?_; k_dflt cell_enter; k_steps)
  all_goals (rename News h₀ L _ _ => lN)
  all_goals first
    | (refine q_int (x := if (0 : Int) = 2 ∧ rc ≠ 0 then 1 else 0) rfl (hret _ _ _ _ ?_ (by k_asm) lN); rw [Int.zero_add, Int.zero_add]; exact hx.set _ (hx.getD _))
    | (refine q_int (x := if (1 : Int) = 2 ∧ rc ≠ 0 then 1 else 0) rfl (hret _ _ _ _ ?_ (by k_asm) lN); rw [Int.zero_add]; exact hx.set _ (by assumption))
    | (refine q_int (x := if (2 : Int) = 2 ∧ rc ≠ 0 then 1 else 0) ?_ (hret _ _ _ _ ?_ (by k_asm) lN)
       · first | exact (if_pos ⟨rfl, by assumption⟩).symm | exact (if_neg fun h => h.2 (by assumption)).symm
       · rw [Int.zero_add]
         exact hx.set _ (show _ = Value.bool _ by congr 1; rw [Bool.eq_iff_iff]; simp))

theorem load_ok : ∀ (w : World) (p : Program) (loose : List Str) (mean : ExcName → Option Value) (mg mb : Str → Option Value) (dp un : Nat) (gd : Option (List Code)) (cn : Str) (cs : Scope) (a : Addr) (ccd : Value) (cl : List (Str × Addr)) (outer : List Env) (A₀ : Around) (base h₀ : Heap) (L : Addr) (m : Str → Option Value) (s : Shared) (Q E : Value → Shared → Prop) (news : List (Addr × Obj)) (st : Addr) (xs : List RV) (vs : List Value) (k : Nat) (op ins ra rb rc bb : Int) (to ti tz : Tok) (gg : Obj → List (Addr × Obj)), Below A₀ base outer h₀ → Fr h₀ L s.heap m → (Kf w.params).In h₀ → News h₀ L s.heap (news) → Top p loose mean mg mb h₀ → cs.kind = .function → dp + 2 < recursionLimit → un + 16 < cLine → (UpdF st (listOf vs.toArray k) news gg) → (RVs xs vs) → (xs.length = 17) → (0 ≤ ins) → (ins < 2 ^ 40) → (ins / 64 % 256 = ra) → (ins / 8388608 = rb) → (ins / 16384 % 512 = rc) → (ins / 16384 = bb) → (0 ≤ ra ∧ ra < 17) → ((op = 0 ∧ 0 ≤ rb ∧ rb < 17) ∨ (op = 1 ∧ 0 ≤ bb ∧ bb < 6) ∨ op = 2) → (∀ (vs1 : List Value) (t : Tok) (h' : Heap) (tk' : Nat), (RVs (loadR op ra rb rc bb xs) vs1) → Fr h₀ L h' m → News h₀ L h' (gg (listOf vs1.toArray k)) → Q (.int (if op = 2 ∧ rc ≠ 0 then 1 else 0) t) { s with heap := h', toks := tk' }) → wpAny (model PySem.Challenge.rw_pc0174_01.row.prog w) (ktrTop dp un gd cn cs L a ccd cl outer) (call (.ref 303) [.int op to, .int ins ti, .ref st, .int 0 tz, .ref 510]) Q E s := by
  k_fill
  refine (?k3k : KBcx ?f3f); refine ep_cx ?_; apply (?f3f _ _ _ _ _ _ _ _ _ _ _ _ _ _ _ _ _ _ _ _ _ _ _); (try any_goals exact default); intros w p loose mean mg mb dp un gd cn cs a ccd cl outer A₀ base h₀ L m s Q E; refine Bx.mk ?_
  refine (?k4k : KB8 ?f4f); refine ep8 (by repeat' (first | infer_instance | exact ne_world | exact ne_shared | exact ne_around | exact ⟨.none⟩ | exact ⟨⟨0, 0, 0, 0⟩⟩ | refine ne_prod ?_ ?_)) ?_; apply (?f4f _ _ _ _ _ _ _ _); (try any_goals exact default); intros news st xs vs k op ins ra; refine Bx.mk ?_; refine (?k5k : KB7 ?f5f); refine ep7 (by repeat' (first | infer_instance | exact ne_world | exact ne_shared | exact ne_around | exact ⟨.none⟩ | exact ⟨⟨0, 0, 0, 0⟩⟩ | refine ne_prod ?_ ?_)) ?_; apply (?f5f _ _ _ _ _ _ _); (try any_goals exact default); intros rb rc bb to ti tz gg; refine Bx.mk ?_
  intro B F X N T hck hd9 hu9 hU hx hxl hi hi2 ha hb hc hbb hra hop hret
  obtain ⟨pre, post, rfl, hgg, ha', hb'⟩ := hU.split
  refine load_core _ _ _ _ _ _ _ _ _ _ _ _ _ _ _ _ _ _ _ _ _ _ _ st xs vs k (pre ++ post) op ins ra rb rc bb to ti tz B F X (news_front N) T hck hd9 hu9 (ne_parts ha' hb') hx hxl hi hi2 ha hb hc hbb hra hop fun vs1 t h' tk' hv1 F' N' => ?_
  refine hret vs1 t h' tk' hv1 F' ?_
  rw [hgg]
  exact (news_back N' :)
theorem rows_D1l_3 : True := by
  k_with "call ref" => (k_here; k_dflt (refine' load_ok _ _ _ _ _ _ _ _ _ _ _ _ _ _ _ _ _ _ _ _ _ _ _ _ _ _ _ _ _ _ _ _ _ _ _ _ _ _ ?kB ?kF ?kX ?kN ?kT ?kK ?kd ?ku ?q0 ?q1 ?q2 ?q3 ?q4 ?q5 ?q6 ?q7 ?q8 ?q9 ?q10 ?_; (case kB => k_asm); (case kF => k_asm); (case kX => k_asm); (case kN => k_asm); (case kT => k_asm); (case kK => first | exact rfl | assumption); (case kd => ktr_room); (case ku => ktr_units); (case q0 => k_updF); (case q1 => assumption); (case q2 => assumption); (case q3 => assumption); (case q4 => assumption); (case q5 => assumption); (case q6 => assumption); (case q7 => assumption); (case q8 => assumption); (case q9 => assumption); (case q10 => assumption); k_whole); intro vs1_z t_z h'_z tk'_z hv1_z F'_z N'_z; (try k_sweep); (try dsimp only at N'_z))
  trivial
end Mine
end
section
namespace Mine
theorem low (x y : Int) (n : Int) (hx : 0 ≤ x ∧ x < n) : (x + n * y) % n = x ∧ (x + n * y) / n = y := by
  obtain ⟨h0, h1⟩ := hx
  have hn : 0 < n := Int.lt_of_le_of_lt h0 h1
  refine ⟨?_, ?_⟩
  · rw [Int.add_mul_emod_self_left, Int.emod_eq_of_lt h0 h1]
  · rw [Int.add_mul_ediv_left _ _ (Int.ne_of_gt hn), Int.ediv_eq_zero_of_lt h0 h1, Int.zero_add]
theorem enc_eq (t a b c : Int) : t + 64 * a + 16384 * c + 8388608 * b = t + 64 * (a + 256 * (c + 512 * b)) := by omega
theorem div_two (x : Int) : x / 16384 = x / 64 / 256 := by rw [Int.ediv_ediv_of_nonneg (by decide)]; rfl
theorem div_three (x : Int) : x / 8388608 = x / 64 / 256 / 512 := by rw [Int.ediv_ediv_of_nonneg (by decide), Int.ediv_ediv_of_nonneg (by decide)]; rfl
theorem enc_ok {t a b c : Int} (ht : 0 ≤ t ∧ t < 64) (ha : 0 ≤ a ∧ a < 256) (hc : 0 ≤ c ∧ c < 512) (hb : 0 ≤ b ∧ b < 512) :
    (0 ≤ t + 64 * a + 16384 * c + 8388608 * b ∧ t + 64 * a + 16384 * c + 8388608 * b < 2 ^ 40) ∧ (t + 64 * a + 16384 * c + 8388608 * b) % 64 = t ∧ (t + 64 * a + 16384 * c + 8388608 * b) / 64 % 256 = a ∧
    (t + 64 * a + 16384 * c + 8388608 * b) / 8388608 = b ∧ (t + 64 * a + 16384 * c + 8388608 * b) / 16384 % 512 = c := by
  have h1 := low t (a + 256 * (c + 512 * b)) 64 ht
  have h2 := low a (c + 512 * b) 256 ha
  have h3 := low c b 512 hc
  refine ⟨⟨by omega, by omega⟩, ?_, ?_, ?_, ?_⟩
  · rw [enc_eq, h1.1]
  · rw [enc_eq, h1.2, h2.1]
  · rw [div_three, enc_eq, h1.2, h2.2, h3.2]
  · rw [div_two, enc_eq, h1.2, h2.2, h3.1]
theorem code_ok {p r r' : R} (h : okR p r r') : (0 ≤ r.code ∧ r.code < 2 ^ 40) ∧ r.code % 64 = r.t ∧ r.code / 64 % 256 = r.a ∧ (r.t ≠ 1 → r.code / 8388608 = r.b ∧ r.code / 16384 % 512 = r.c) ∧ (r.t = 1 → r.code / 16384 = r.b) := by
  obtain ⟨h1, h2, h3, h4⟩ := okR_bd h
  by_cases e : r.t = 1
  · have hb : r.b < 6 := (okR_one h e).2.1.2
    have ec : r.code = 1 + 64 * (r.a + 256 * r.b) := by unfold R.code; rw [if_pos e]; omega
    have k1 := low 1 (r.a + 256 * r.b) 64 (by decide)
    have k2 := low r.a r.b 256 ⟨h2.1, by omega⟩
    rw [ec]
    exact ⟨⟨by omega, by omega⟩, by rw [k1.1, e], by rw [k1.2, k2.1], fun k => absurd e k, fun _ => by rw [div_two, k1.2, k2.2]⟩
  · have ec : r.code = r.t + 64 * r.a + 16384 * r.c + 8388608 * r.b := by unfold R.code; rw [if_neg e]
    have k := enc_ok (t := r.t) (a := r.a) (b := r.b) (c := r.c) ⟨h1.1, by omega⟩ ⟨h2.1, by omega⟩ ⟨h4.1, by omega⟩ ⟨h3.1, by omega⟩
    rw [ec]
    exact ⟨k.1, k.2.1, k.2.2.1, fun _ => ⟨k.2.2.2.1, k.2.2.2.2⟩, fun q => absurd q e⟩
theorem stepS_opt {wd : Int} {r : R} {xs : List RV} {o : Option Int} {ok : Bool} (hx : xs.length = 17) (h : stepL wd r xs = o.map fun i => xs.set r.a.toNat (.int i)) (hok : ok = o.isSome) (ht : r.t ≠ 21) : StepS wd r xs ok (recSet xs r.a o) := by
  cases o with
  | none => exact .inl ⟨hok, h⟩
  | some i => exact .inr ⟨hok, _, h, by show (xs.set _ _).length = 17; rw [List.length_set, hx], fun _ => rfl, fun k => absurd k ht, fun _ _ => rfl⟩
theorem stepS_some {wd : Int} {r : R} {xs zs : List RV} (hz : zs.length = 17) (h : stepL wd r xs = some zs) (ht : r.t ≠ 21) : StepS wd r xs true zs := .inr ⟨rfl, zs, h, hz, fun _ => rfl, fun k => absurd k ht, fun _ _ => rfl⟩
theorem stepL_rk {wd : Int} {r : R} {xs : List RV} (h : 12 ≤ r.t ∧ r.t < 18) : stepL wd r xs = (reckW (r.t - 12).toNat (opd1 xs r.b) (opd1 xs r.c) wd).map fun i => xs.set r.a.toNat (.int i) := by
  unfold stepL
  rw [if_neg (nlo h.1 (by decide)), if_neg (nlo h.1 (by decide)), if_neg (nlo h.1 (by decide)), if_pos h.2]
theorem stepL_un {wd : Int} {r : R} {xs : List RV} (h : r.t = 18) : stepL wd r xs = (reckW ((18 : Int) - 12).toNat (xs.getD r.b.toNat .none) (xs.getD r.b.toNat .none) wd).map fun i => xs.set r.a.toNat (.int i) := by
  unfold stepL
  rw [if_neg (nev h (by decide)), if_neg (nev h (by decide)), if_neg (nev h (by decide)), if_neg (by rw [h]; decide), if_pos h]; rfl
theorem stepL_nt {wd : Int} {r : R} {xs : List RV} (h : r.t = 19) : stepL wd r xs = some (xs.set r.a.toNat (.bool (isFalse (xs.getD r.b.toNat .none)))) := by
  unfold stepL
  rw [if_neg (nev h (by decide)), if_neg (nev h (by decide)), if_neg (nev h (by decide)), if_neg (by rw [h]; decide), if_neg (nev h (by decide)), if_pos h]
theorem stepL_ln {wd : Int} {r : R} {xs : List RV} (h : r.t = 20) : stepL wd r xs = (lenR (xs.getD r.b.toNat .none)).map fun i => xs.set r.a.toNat (.int i) := by
  unfold stepL
  rw [if_neg (nev h (by decide)), if_neg (nev h (by decide)), if_neg (nev h (by decide)), if_neg (by rw [h]; decide), if_neg (nev h (by decide)), if_neg (nev h (by decide)), if_pos h]
theorem stepL_cat {wd : Int} {r : R} {xs : List RV} (h : r.t = 21) : stepL wd r xs = (catAt xs (r.c - 5).toNat).map fun b => xs.set r.a.toNat (.bytes b) := by
  unfold stepL
  rw [if_neg (nev h (by decide)), if_neg (nev h (by decide)), if_neg (nev h (by decide)), if_neg (by rw [h]; decide), if_neg (nev h (by decide)), if_neg (nev h (by decide)), if_neg (nev h (by decide))]
theorem stepS_join {wd : Int} {r : R} {xs ys : List RV} {ok : Bool} (ht : r.t = 21) (h : JoinR xs r.a r.c ok ys) : StepS wd r xs ok ys := by
  obtain ⟨h1, h2, ⟨h3, h4⟩ | ⟨h3, b, h4, h5, h6⟩⟩ := h
  · exact .inl ⟨h3, by rw [stepL_cat ht, h4]; rfl⟩
  · exact .inr ⟨h3, _, by rw [stepL_cat ht, h4]; rfl, h2, fun k => absurd ht k, fun _ => h1, h6⟩
theorem stepL_ld {wd : Int} {r : R} {xs : List RV} (h : r.t = 0 ∨ r.t = 1 ∨ r.t = 2) {bb : Int} (hb : r.t = 1 → bb = r.b) : stepL wd r xs = some (loadR r.t r.a r.b r.c bb xs) := by
  unfold stepL loadR
  by_cases h0 : r.t = 0
  · rw [if_pos h0, if_pos h0]
  · rw [if_neg h0, if_neg h0]
    by_cases h1 : r.t = 1
    · rw [if_pos h1, if_pos h1, hb h1]
    · rw [if_neg h1, if_neg h1, if_pos (h.resolve_left h0 |>.resolve_left h1)]
theorem loadR_len {t a b c bb : Int} {xs : List RV} : (loadR t a b c bb xs).length = xs.length := by
  unfold loadR
  split
  · exact List.length_set
  · split <;> exact List.length_set
theorem okOp_of {k : Int} {n : Nat} (h : okOpd k) (hn : n = 17) : okOp k n := by unfold okOpd at h; unfold okOp; omega
theorem okV_join {xs ys : List RV} {a c : Int} {ok : Bool} (h : JoinR xs a c ok ys) : ∀ y ∈ ys, okV y := h.1
theorem reck_all : ∀ (w : World) (p : Program) (loose : List Str) (mean : ExcName → Option Value) (mg mb : Str → Option Value) (dp un : Nat) (gd : Option (List Code)) (cn : Str) (cs : Scope) (a : Addr) (ccd : Value) (cl : List (Str × Addr)) (outer : List Env) (A₀ : Around) (base h₀ : Heap) (L : Addr) (m : Str → Option Value) (s : Shared) (Q E : Value → Shared → Prop) (x dx st lm dl wk dw : Addr) (es esl esw : List DictEntry) (nd nl nw k : Nat) (fx : Str → Option Value) (pcv : Value) (wd : Int) (tw : Tok) (xs : List RV) (vs : List Value) (rest : List (Addr × Obj)) (lf lc : Addr) (nm ql : Str) (pmv ctv : Value) (lo : Obj) (lvs : Array Value) (tq : Tok) (tt : Tok) (pr r rn : R) (op ins : Int) (to ti : Tok), Below A₀ base outer h₀ → Fr h₀ L s.heap m → (Kf w.params).In h₀ → News h₀ L s.heap ((x, instObj 503 dx) :: (dx, dictOf es nd) :: (st, listOf vs.toArray k) :: rest) → Top p loose mean mg mb h₀ → cs.kind = .function → dp + 8 < recursionLimit → un + 64 < cLine → (@Ne Nat x dx ∧ @Ne Nat x st ∧ @Ne Nat dx st) → (∀ p ∈ rest, p.1 ≠ dx) → (∀ p ∈ rest, p.1 ≠ st) → (StepD fx es pcv .none) → (fx (Str.ofString "stack") = some (.ref st) ∧ fx (Str.ofString "constants") = some (.ref 510) ∧ fx (Str.ofString "limits") = some (.ref lm) ∧ fx (Str.ofString "works") = some (.ref wk)) → (RVs xs vs) → (xs.length = 17) → (∀ x ∈ xs, okV x) → (1 ≤ wd ∧ wd ≤ 64) → (wd ≤ 17) → ((lm, instObj 95 dl) ∈ rest) → ((dl, dictOf esl nl) ∈ rest) → (getL (Str.ofString "width") esl = some (some (.int wd tw))) → ((wk, instObj 412 dw) ∈ rest) → ((dw, dictOf esw nw) ∈ rest) → (getL (Str.ofString "length") esw = some (some (.ref lf))) → ((lf, lamObj nm ql pmv lc ctv) ∈ rest) → ((lc, lo) ∈ rest) → (lo.data = .fields lvs ∧ lvs[1]? = some (.str ql tq)) → (getL (Str.ofString "text") esl = some (some (.int 12 tt))) → (okR pr r rn) → (r.t = op) → (r.code = ins) → (12 ≤ op ∧ op ≤ 20) → (∀ (vs1 : List Value) (ys : List RV) (ok : Bool) (h' : Heap) (tk' : Nat), (StepS wd r xs ok ys) → (ok = true → RVs ys vs1) → Fr h₀ L h' m → News h₀ L h' ((x, instObj 503 dx) :: (dx, dictOf es nd) :: (st, listOf vs1.toArray k) :: rest) → Q (.bool ok) { s with heap := h', toks := tk' }) → wpAny (model PySem.Challenge.rw_pc0174_01.row.prog w) (ktrTop dp un gd cn cs L a ccd cl outer) (call (.ref 458) [.ref x, .int op to, .int ins ti]) Q E s := by
  k_fill
  intro w p loose mean mg mb dp un gd cn cs a ccd cl outer A₀ base h₀ L m s Q E x dx st lm dl wk dw es esl esw nd nl nw k fx pcv wd tw xs vs rest lf lc nm ql pmv ctv lo lvs tq tt pr r rn op ins to ti B F X N T hck hd9 hu9 hne hrd hrs hD hf hx hxl hok hw hw2 hlm hdl hes hwk hdw hew hlf hlc hlo het hR hop hins hk hret
  obtain ⟨hc0, hc1, hc2, hc3, -⟩ := code_ok hR
  obtain ⟨hc4, hc5⟩ := hc3 (nlo (hop ▸ hk.1) (by decide))
  rw [hins] at hc0 hc2 hc4 hc5
  have hab : (0 ≤ r.a ∧ r.a < 17) ∧ r.t ≠ 21 := ⟨bdw (okR_bd hR).2.1 (by decide) (by decide), nhl (hop ▸ hk.2) (by decide)⟩
  obtain ⟨hra, hn21⟩ := hab
  by_cases h18 : op < 18
  · have hoo : okOpd r.b ∧ okOpd r.c := okR_rk hR (hop ▸ hk.1) (hop ▸ h18)
    refine done_reck_ok _ _ _ _ _ _ _ _ _ _ _ _ _ _ _ _ _ _ _ _ _ _ _ x dx st lm dl wk dw es esl esw nd nl nw k fx pcv wd tw xs vs rest _ _ _ _ _ _ _ B F X N T hck hd9 hu9 hne hrd hrs hD hf hx hxl hok hw hw2 hlm hdl hes hc0.1 hc0.2 hc2 hc4 hc5 hra ⟨hk.1, h18⟩ (okOp_of hoo.1 hxl) (okOp_of hoo.2 hxl) fun vs1 ok h' tk' ho hv1 F' N' => ?_
    rw [← hop] at ho hv1
    exact hret vs1 _ ok h' tk' (stepS_opt hxl (stepL_rk ⟨hop ▸ hk.1, hop ▸ h18⟩) ho hn21) (fun _ => hv1) F' N'
  · have hrb : 0 ≤ r.b ∧ r.b < 17 := bdw (okR_un hR (hop ▸ Int.not_lt.mp h18) (hop ▸ hk.2)).2 (by decide) (by decide)
    rcases three18 (Int.not_lt.mp h18) hk.2 with rfl | rfl | rfl
    · refine done_unm_ok _ _ _ _ _ _ _ _ _ _ _ _ _ _ _ _ _ _ _ _ _ _ _ x dx st lm dl wk dw es esl esw nd nl nw k fx pcv wd tw xs vs rest _ _ _ _ _ _ B F X N T hck hd9 hu9 hne hrd hrs hD hf hx hxl hok hw hw2 hlm hdl hes hc0.1 hc0.2 hc2 hc4 hc5 hra hrb fun vs1 ok h' tk' ho hv1 F' N' => ?_
      exact hret vs1 _ ok h' tk' (stepS_opt hxl (stepL_un hop) ho hn21) (fun _ => hv1) F' N'
    · refine done_not_ok _ _ _ _ _ _ _ _ _ _ _ _ _ _ _ _ _ _ _ _ _ _ _ x dx st lm dl wk dw es esl esw nd nl nw k fx pcv wd tw xs vs rest _ _ _ _ _ _ B F X N T hck hd9 hu9 hne hrd hrs hD hf hx hxl hok hw hw2 hlm hdl hes hc0.1 hc0.2 hc2 hc4 hc5 hra hrb fun vs1 h' tk' hv1 F' N' => ?_
      exact hret vs1 _ true h' tk' (stepS_some (by rw [List.length_set, hxl]) (stepL_nt hop) hn21) (fun _ => hv1) F' N'
    · refine done_len_ok _ _ _ _ _ _ _ _ _ _ _ _ _ _ _ _ _ _ _ _ _ _ _ x dx st lm dl wk dw es esl esw nd nl nw k fx pcv wd tw xs vs rest _ _ _ _ _ _ _ _ _ _ _ _ _ _ _ _ B F X N T hck hd9 hu9 hne hrd hrs hD hf hx hxl hok hw hw2 hlm hdl hes hc0.1 hc0.2 hc2 hc4 hc5 hra hrb hwk hdw hew hlf hlc hlo fun vs1 ok h' tk' ho hv1 F' N' => ?_
      exact hret vs1 _ ok h' tk' (stepS_opt hxl (stepL_ln hop) ho hn21) hv1 F' N' 
theorem rows_Ds1_1 : True := by
  k_with_none
  k_with "call ref" => (k_here; k_dflt (refine' reck_all _ _ _ _ _ _ _ _ _ _ _ _ _ _ _ _ _ _ _ _ _ _ _ _ _ _ _ _ _ _ _ _ _ _ _ _ _ _ _ _ _ _ _ _ _ _ _ _ _ _ _ _ _ _ _ _ _ _ _ _ _ ?kB ?kF ?kX ?kN ?kT ?kK ?kd ?ku ?q0 ?q1 ?q2 ?q3 ?q4 ?q5 ?q6 ?q7 ?q8 ?q9 ?q10 ?q11 ?q12 ?q13 ?q14 ?q15 ?q16 ?q17 ?q18 ?q19 ?q20 ?q21 ?q22 ?q23 ?_; (case kB => k_asm); (case kF => k_asm); (case kX => k_asm); (case kN => k_asm); (case kT => k_asm); (case kK => first | exact rfl | assumption); (case kd => ktr_room); (case ku => ktr_units); (case q0 => assumption); (case q1 => assumption); (case q2 => assumption); (case q3 => assumption); (case q4 => assumption); (case q5 => assumption); (case q6 => assumption); (case q7 => assumption); (case q8 => assumption); (case q9 => assumption); (case q10 => assumption); (case q11 => assumption); (case q12 => assumption); (case q13 => assumption); (case q14 => assumption); (case q15 => assumption); (case q16 => assumption); (case q17 => assumption); (case q18 => assumption); (case q19 => assumption); (case q20 => assumption); (case q21 => first | assumption | exact rfl); (case q22 => assumption); (case q23 => assumption); k_whole); intro vs1_z ys_z ok_z h'_z tk'_z hs_z hv_z F'_z N'_z; (try k_sweep))
  trivial
theorem join_all : ∀ (w : World) (p : Program) (loose : List Str) (mean : ExcName → Option Value) (mg mb : Str → Option Value) (dp un : Nat) (gd : Option (List Code)) (cn : Str) (cs : Scope) (a : Addr) (ccd : Value) (cl : List (Str × Addr)) (outer : List Env) (A₀ : Around) (base h₀ : Heap) (L : Addr) (m : Str → Option Value) (s : Shared) (Q E : Value → Shared → Prop) (x dx st lm dl wk dw : Addr) (es esl esw : List DictEntry) (nd nl nw k : Nat) (fx : Str → Option Value) (pcv : Value) (wd : Int) (tw : Tok) (xs : List RV) (vs : List Value) (rest : List (Addr × Obj)) (lf lc : Addr) (nm ql : Str) (pmv ctv : Value) (lo : Obj) (lvs : Array Value) (tq : Tok) (tt : Tok) (pr r rn : R) (op ins : Int) (ti : Tok), Below A₀ base outer h₀ → Fr h₀ L s.heap m → (Kf w.params).In h₀ → News h₀ L s.heap ((x, instObj 503 dx) :: (dx, dictOf es nd) :: (st, listOf vs.toArray k) :: rest) → Top p loose mean mg mb h₀ → cs.kind = .function → dp + 8 < recursionLimit → un + 64 < cLine → (@Ne Nat x dx ∧ @Ne Nat x st ∧ @Ne Nat dx st) → (∀ p ∈ rest, p.1 ≠ dx) → (∀ p ∈ rest, p.1 ≠ st) → (StepD fx es pcv .none) → (fx (Str.ofString "stack") = some (.ref st) ∧ fx (Str.ofString "constants") = some (.ref 510) ∧ fx (Str.ofString "limits") = some (.ref lm) ∧ fx (Str.ofString "works") = some (.ref wk)) → (RVs xs vs) → (xs.length = 17) → (∀ x ∈ xs, okV x) → (1 ≤ wd ∧ wd ≤ 64) → (wd ≤ 17) → ((lm, instObj 95 dl) ∈ rest) → ((dl, dictOf esl nl) ∈ rest) → (getL (Str.ofString "width") esl = some (some (.int wd tw))) → ((wk, instObj 412 dw) ∈ rest) → ((dw, dictOf esw nw) ∈ rest) → (getL (Str.ofString "length") esw = some (some (.ref lf))) → ((lf, lamObj nm ql pmv lc ctv) ∈ rest) → ((lc, lo) ∈ rest) → (lo.data = .fields lvs ∧ lvs[1]? = some (.str ql tq)) → (getL (Str.ofString "text") esl = some (some (.int 12 tt))) → (okR pr r rn) → (r.t = op) → (r.code = ins) → (op = 21) → (∀ (vs1 : List Value) (ys : List RV) (ok : Bool) (h' : Heap) (tk' : Nat), (StepS wd r xs ok ys) → (ok = true → RVs ys vs1) → Fr h₀ L h' m → News h₀ L h' ((x, instObj 503 dx) :: (dx, dictOf es nd) :: (st, listOf vs1.toArray k) :: rest) → Q (.bool ok) { s with heap := h', toks := tk' }) → wpAny (model PySem.Challenge.rw_pc0174_01.row.prog w) (ktrTop dp un gd cn cs L a ccd cl outer) (call (.ref 465) [.ref x, .int ins ti]) Q E s := by
  k_fill
  intro w p loose mean mg mb dp un gd cn cs a ccd cl outer A₀ base h₀ L m s Q E x dx st lm dl wk dw es esl esw nd nl nw k fx pcv wd tw xs vs rest lf lc nm ql pmv ctv lo lvs tq tt pr r rn op ins ti B F X N T hck hd9 hu9 hne hrd hrs hD hf hx hxl hok hw hw2 hlm hdl hes hwk hdw hew hlf hlc hlo het hR hop hins hk hret
  obtain ⟨hc0, hc1, hc2, hc3, -⟩ := code_ok hR
  obtain ⟨hc4, hc5⟩ := hc3 (nev (hop.trans hk) (by decide))
  rw [hins] at hc0 hc2 hc4 hc5
  have hab : (0 ≤ r.a ∧ r.a < 17) ∧ r.a < 6 ∧ r.b = 6 ∧ (7 ≤ r.c ∧ r.c ≤ 9) := have q := okR_cat hR (hop.trans hk); ⟨bdw q.1 (by decide) (by decide), Int.lt_of_lt_of_le q.1.2 (by decide), q.2.1, q.2.2.1⟩
  obtain ⟨hra, hra6, hrb, hrc⟩ := hab
  refine done_join_ok _ _ _ _ _ _ _ _ _ _ _ _ _ _ _ _ _ _ _ _ _ _ _ x dx st lm dl wk dw es esl esw nd nl nw k fx pcv wd tw xs vs rest _ _ _ _ _ _ B F X N T hck hd9 hu9 hne hrd hrs hD hf hx hxl hok hw hw2 hlm hdl hes hc0.1 hc0.2 hc2 hc4 hc5 hra hrb hrc hra6 het fun vs1 ys ok h' tk' hv1 ho F' N' => ?_
  exact hret vs1 ys ok h' tk' (stepS_join (hop.trans hk) ho) (fun _ => hv1) F' N' 
theorem rows_Ds1_2 : True := by
  k_with "call ref" => (k_here; k_dflt (refine' join_all _ _ _ _ _ _ _ _ _ _ _ _ _ _ _ _ _ _ _ _ _ _ _ _ _ _ _ _ _ _ _ _ _ _ _ _ _ _ _ _ _ _ _ _ _ _ _ _ _ _ _ _ _ _ _ _ _ _ _ _ ?kB ?kF ?kX ?kN ?kT ?kK ?kd ?ku ?q0 ?q1 ?q2 ?q3 ?q4 ?q5 ?q6 ?q7 ?q8 ?q9 ?q10 ?q11 ?q12 ?q13 ?q14 ?q15 ?q16 ?q17 ?q18 ?q19 ?q20 ?q21 ?q22 ?q23 ?_; (case kB => k_asm); (case kF => k_asm); (case kX => k_asm); (case kN => k_asm); (case kT => k_asm); (case kK => first | exact rfl | assumption); (case kd => ktr_room); (case ku => ktr_units); (case q0 => assumption); (case q1 => assumption); (case q2 => assumption); (case q3 => assumption); (case q4 => assumption); (case q5 => assumption); (case q6 => assumption); (case q7 => assumption); (case q8 => assumption); (case q9 => assumption); (case q10 => assumption); (case q11 => assumption); (case q12 => assumption); (case q13 => assumption); (case q14 => assumption); (case q15 => assumption); (case q16 => assumption); (case q17 => assumption); (case q18 => assumption); (case q19 => assumption); (case q20 => assumption); (case q21 => first | assumption | exact rfl); (case q22 => assumption); (case q23 => assumption); k_whole); intro vs1_z ys_z ok_z h'_z tk'_z hs_z hv_z F'_z N'_z; (try k_sweep))
  trivial
end Mine
end
section
namespace Mine
def madeO (wd op b c : Int) (xs : List RV) : Option RV :=
  if op < 18 then (reckW (op - 12).toNat (opd1 xs b) (opd1 xs c) wd).map RV.int
  else if op = 18 then (reckW 6 (xs.getD b.toNat .none) (xs.getD b.toNat .none) wd).map RV.int
  else if op = 19 then some (RV.bool (isFalse (xs.getD b.toNat .none)))
  else if op = 20 then (lenR (xs.getD b.toNat .none)).map RV.int
  else (catAt xs (c - 5).toNat).map RV.bytes
theorem stepL_made {wd op a b c : Int} {xs : List RV} (h : 12 ≤ op) : stepL wd ⟨op, a, b, c⟩ xs = (madeO wd op b c xs).map fun x => xs.set a.toNat x := by
  unfold stepL madeO
  dsimp only
  rw [if_neg (by omega), if_neg (by omega), if_neg (by omega)]
  by_cases h1 : op < 18
  · rw [if_pos h1, if_pos h1, Option.map_map]; rfl
  · rw [if_neg h1, if_neg h1]
    by_cases h2 : op = 18
    · rw [if_pos h2, if_pos h2, Option.map_map]; rfl
    · rw [if_neg h2, if_neg h2]
      by_cases h3 : op = 19
      · rw [if_pos h3, if_pos h3]; rfl
      · rw [if_neg h3, if_neg h3]
        by_cases h4 : op = 20
        · rw [if_pos h4, if_pos h4, Option.map_map]; rfl
        · rw [if_neg h4, if_neg h4, Option.map_map]; rfl
theorem lmade_ok : ∀ (w : World) (p : Program) (loose : List Str) (mean : ExcName → Option Value) (mg mb : Str → Option Value) (dp un : Nat) (gd : Option (List Code)) (cn : Str) (cs : Scope) (a : Addr) (ccd : Value) (cl : List (Str × Addr)) (outer : List Env) (A₀ : Around) (base h₀ : Heap) (L : Addr) (m : Str → Option Value) (s : Shared) (Q E : Value → Shared → Prop) (news : List (Addr × Obj)) (op ra b c wd : Int) (pr rn : R) (xs : List RV) (vs : List Value) (ro : Addr) (kg : Nat) (tn tb tc tw : Tok), Below A₀ base outer h₀ → Fr h₀ L s.heap m → (Kf w.params).In h₀ → News h₀ L s.heap (news) → Top p loose mean mg mb h₀ → cs.kind = .function → dp + 4 < recursionLimit → un + 32 < cLine → ((ro, listOf vs.toArray kg) ∈ news) → (RVs xs vs) → (xs.length = 17) → (∀ x ∈ xs, okV x) → (1 ≤ wd ∧ wd ≤ 17) → (okR pr ⟨op, ra, b, c⟩ rn) → (12 ≤ op) → (∀ (D : Addr) (zs : List Value) (kz : Nat) (h' : Heap) (tk' : Nat), (MadeIs (madeO wd op b c xs) zs) → (∀ p ∈ news, p.1 < D) → Fr h₀ L h' m → News h₀ L h' ((D, listOf zs.toArray kz) :: news) → Q (.ref D) { s with heap := h', toks := tk' }) → wpAny (model PySem.Challenge.rw_pc0174_01.row.prog w) (ktrTop dp un gd cn cs L a ccd cl outer) (call (.ref 576) [.str (nameOf op) tn, .ref ro, .int b tb, .int c tc, .int wd tw]) Q E s := by
  k_fill
  intro w p loose mean mg mb dp un gd cn cs a ccd cl outer A₀ base h₀ L m s Q E news op ra b c wd pr rn xs vs ro kg tn tb tc tw B F X N T hck hd9 hu9 hm hx hxl hok hw hR hop hret
  unfold okR at hR
  dsimp only at hR
  have hk : (op < 18 ∧ okOpd b ∧ okOpd c) ∨ ((18 ≤ op ∧ op ≤ 20) ∧ (0 ≤ b ∧ b < 5)) ∨ (op = 21 ∧ b = 6 ∧ (7 ≤ c ∧ c ≤ 9)) := by
    rcases hR with h | h | h | h | h | h
    · exact absurd h.1 (nlo hop (by decide))
    · exact absurd h.1 (nlo hop (by decide))
    · exact absurd h.1 (nlo hop (by decide))
    · exact .inl ⟨h.1.2, h.2.2⟩
    · exact .inr (.inl ⟨h.1, h.2.2.1⟩)
    · exact .inr (.inr ⟨h.1, h.2.2.1, h.2.2.2.1⟩)
  unfold madeO at hret
  rcases hk with ⟨h18, hkb, hkc⟩ | ⟨hun, hb⟩ | ⟨rfl, rfl, hc⟩
  · rw [if_pos h18] at hret
    exact lmade_ar _ _ _ _ _ _ _ _ _ _ _ _ _ _ _ _ _ _ _ _ _ _ _ _ op b c wd xs vs ro kg _ _ _ _ B F X N T hck hd9 hu9 hm hx hxl hok hw ⟨hop, h18⟩ (okOp_of hkb hxl) (okOp_of hkc hxl) hret
  · rw [if_neg (Int.not_lt.mpr hun.1)] at hret
    rcases three18 hun.1 hun.2 with rfl | rfl | rfl
    · rw [if_pos rfl] at hret
      exact lmade_um _ _ _ _ _ _ _ _ _ _ _ _ _ _ _ _ _ _ _ _ _ _ _ _ b c wd xs vs ro kg _ _ _ _ B F X N T hck hd9 hu9 hm hx hxl hok hw hb hret
    · rw [if_neg (by decide), if_pos rfl] at hret
      exact lmade_not _ _ _ _ _ _ _ _ _ _ _ _ _ _ _ _ _ _ _ _ _ _ _ _ b c wd xs vs ro kg _ _ _ _ B F X N T hck hd9 hu9 hm hx hxl hok hw hb hret
    · rw [if_neg (by decide), if_neg (by decide), if_pos rfl] at hret
      exact lmade_len _ _ _ _ _ _ _ _ _ _ _ _ _ _ _ _ _ _ _ _ _ _ _ _ b c wd xs vs ro kg _ _ _ _ B F X N T hck hd9 hu9 hm hx hxl hok hw hb hret
  · rw [if_neg (by decide), if_neg (by decide), if_neg (by decide), if_neg (by decide)] at hret
    exact lmade_cat _ _ _ _ _ _ _ _ _ _ _ _ _ _ _ _ _ _ _ _ _ _ _ _ c wd xs vs ro kg _ _ _ _ B F X N T hck hd9 hu9 hm hx hxl hok hw hc hret
theorem rows_L1d_1 : True := by
  k_with_none
  k_with "call ref" => (k_here; k_dflt (refine' lmade_ok _ _ _ _ _ _ _ _ _ _ _ _ _ _ _ _ _ _ _ _ _ _ _ _ _ _ _ _ _ _ _ _ _ _ _ _ _ _ _ ?kB ?kF ?kX ?kN ?kT ?kK ?kd ?ku ?q0 ?q1 ?q2 ?q3 ?q4 ?q5 ?q6 ?_; (case kB => k_asm); (case kF => k_asm); (case kX => k_asm); (case kN => k_asm); (case kT => k_asm); (case kK => first | exact rfl | assumption); (case kd => ktr_room); (case ku => ktr_units); (case q0 => k_mem); (case q1 => assumption); (case q2 => assumption); (case q3 => assumption); (case q4 => assumption); (case q5 => assumption); (case q6 => first | assumption | omega); k_whole); intro D_z zs_z kz_z h'_z tk'_z hz_z hlt_z F'_z N'_z; (try k_sweep); (try k_lt hlt_z))
  trivial
end Mine
end
section
namespace Mine
def rowObj (r : R) (t0 t1 t2 t3 : Tok) : Obj := { cls := .type "tuple", data := .seq #[.str (nameOf r.t) t0, .int r.a t1, .int r.b t2, .int r.c t3] }
def RowIs (news : List (Addr × Obj)) (r : R) (v : Value) : Prop := ∃ ta t0 t1 t2 t3, v = .ref ta ∧ (ta, rowObj r t0 t1 t2 t3) ∈ news
def RowsIn (news : List (Addr × Obj)) : List R → List Value → Prop
  | [], [] => True
  | r :: rs, v :: vs => RowIs news r v ∧ RowsIn news rs vs
  | _, _ => False
theorem RowsIn.length {news : List (Addr × Obj)} : ∀ {rows : List R} {vs : List Value}, RowsIn news rows vs → vs.length = rows.length
  | [], [], _ => rfl
  | _ :: _, _ :: _, h => by simp [RowsIn.length h.2]
  | [], _ :: _, h => h.elim
  | _ :: _, [], h => h.elim
theorem RowsIn.getN {news : List (Addr × Obj)} : ∀ {rows : List R} {vs : List Value} (i : Nat), RowsIn news rows vs → i < rows.length → RowIs news (rows.getD i RET) (vs.getD i .none)
  | _ :: _, _ :: _, 0, h, _ => h.1
  | _ :: _, _ :: _, i + 1, h, hi => by simpa using RowsIn.getN i h.2 (by simpa using hi)
  | [], [], _, _, hi => absurd hi (Nat.not_lt_zero _)
  | [], _ :: _, _, h, _ => h.elim
  | _ :: _, [], _, h, _ => h.elim
theorem RowsIn.get {news : List (Addr × Obj)} {rows : List R} {vs : List Value} (i : Int) (h : RowsIn news rows vs) (h0 : 0 ≤ i) (h1 : i < rows.length) : RowIs news (rowAt rows i) (vs.getD i.toNat .none) := h.getN i.toNat (by omega)
theorem RowsIn.more {news news' : List (Addr × Obj)} (hs : ∀ p ∈ news, p ∈ news') : ∀ {rows : List R} {vs : List Value}, RowsIn news rows vs → RowsIn news' rows vs
  | [], [], _ => trivial
  | _ :: _, _ :: _, ⟨⟨ta, t0, t1, t2, t3, e, hm⟩, h⟩ => ⟨⟨ta, t0, t1, t2, t3, e, hs _ hm⟩, RowsIn.more hs h⟩
  | [], _ :: _, h => h.elim
  | _ :: _, [], h => h.elim
theorem RowsIn.append {news : List (Addr × Obj)} : ∀ {r1 r2 : List R} {v1 v2 : List Value}, RowsIn news r1 v1 → RowsIn news r2 v2 → RowsIn news (r1 ++ r2) (v1 ++ v2)
  | [], _, [], _, _, h => h
  | _ :: _, _, _ :: _, _, h, k => ⟨h.1, RowsIn.append h.2 k⟩
  | [], _, _ :: _, _, h, _ => h.elim
  | _ :: _, _, [], _, h, _ => h.elim
def isNum (t : Int) : Prop := t = 0 ∨ t = 2 ∨ t = 3 ∨ (12 ≤ t ∧ t ≤ 21) ∨ t = 30
theorem isNum_of {p r r' : R} (h : okR p r r') (h1 : r.t ≠ 1) : isNum r.t := by
  rcases okR_three h with ⟨-, h | h | h⟩ | h | h
  · exact .inl h.1
  · exact absurd h.1 h1
  · exact .inr (.inl h)
  · exact .inr (.inr (.inr (.inl ⟨h.1, Int.le_trans h.2 (by decide)⟩)))
  · exact .inr (.inr (.inr (.inl ⟨by rw [h]; decide, Int.le_of_eq h⟩)))
theorem isNum_cases {P : Int → Prop} {t : Int} (h : isNum t) (h0 : P 0) (h2 : P 2) (h3 : P 3) (a : P 12) (b : P 13) (c : P 14) (d : P 15) (e : P 16) (f : P 17) (g : P 18) (i : P 19) (j : P 20) (k : P 21) (l : P 30) : P t := by
  unfold isNum at h
  rcases (show t = 0 ∨ t = 2 ∨ t = 3 ∨ t = 12 ∨ t = 13 ∨ t = 14 ∨ t = 15 ∨ t = 16 ∨ t = 17 ∨ t = 18 ∨ t = 19 ∨ t = 20 ∨ t = 21 ∨ t = 30 by omega) with h | h | h | h | h | h | h | h | h | h | h | h | h | h <;> subst h <;> assumption
theorem num_sub : ∀ {w : World} {A : Around} {E : Value → Shared → Prop} {s : Shared} {h₀ : Heap} {L : Addr} {m : Str → Option Value} {t : Int} {tk : Tok} {value slice : PySem.Expr} {Q : Value → Shared → Prop} (_ : isNum t) (_ : Fr h₀ L s.heap m) (_ : (Kf w.params).In h₀)
    (_ : subscripted slice false (.ref 508) (.str (nameOf t) tk) = operate [.ref 508, .str (nameOf t) tk] (getItem (.ref 508) (.str (nameOf t) tk))) (_ : ∀ u, Q (.int t u) { s with toks := s.toks + 1 }), wpAny (model PySem.Challenge.rw_pc0174_01.row.prog w) A (subscriptTail value slice (.ref 508) (.str (nameOf t) tk)) Q E s := by
  k_fill
  refine (?k510k : KB12 ?f510f); refine ep12 (by repeat' (first | infer_instance | exact ne_world | exact ne_shared | exact ne_around | exact ⟨.none⟩ | exact ⟨⟨0, 0, 0, 0⟩⟩ | refine ne_prod ?_ ?_)) ?_; apply (?f510f _ _ _ _ _ _ _ _ _ _ _ _); (try any_goals exact default); intros w A E s h₀ L m t tk value slice Q; refine Bx.mk ?_
  intro ht F X hs h
  revert hs h
  refine isNum_cases (P := fun t => subscripted slice false (.ref 508) (.str (nameOf t) tk) = operate [.ref 508, .str (nameOf t) tk] (getItem (.ref 508) (.str (nameOf t) tk)) → (∀ u, Q (.int t u) { s with toks := s.toks + 1 }) → wpAny (model PySem.Challenge.rw_pc0174_01.row.prog w) A (subscriptTail value slice (.ref 508) (.str (nameOf t) tk)) Q E s) ht ?_ ?_ ?_ ?_ ?_ ?_ ?_ ?_ ?_ ?_ ?_ ?_ ?_ ?_
  all_goals
    intro hs h
    simp only [nameOf, Int.reduceEq, if_true, if_false] at hs ⊢
    k_dflt (refine' topItem_K (hs := hs) F X ?l ?k ?e ?_; (case l => k_is); (case k => k_keys); (case e => k_is))
    exact h _
def nmF (s : String) (t : Int) : Prop := (nameOf t == Str.ofString s) = false
theorem nm_word {t : Int} (h : isNum t) : (nameOf t == Str.ofString "WORD") = false := by
  revert h; intro h
  exact isNum_cases (P := fun t => (nameOf t == Str.ofString "WORD") = false) h (by decide +kernel) (by decide +kernel) (by decide +kernel) (by decide +kernel) (by decide +kernel) (by decide +kernel) (by decide +kernel) (by decide +kernel) (by decide +kernel) (by decide +kernel) (by decide +kernel) (by decide +kernel) (by decide +kernel) (by decide +kernel)
theorem nm_loadk {t : Int} (h : isNum t) : (nameOf t == Str.ofString "LOADK") = false := by
  exact isNum_cases (P := fun t => (nameOf t == Str.ofString "LOADK") = false) h (by decide +kernel) (by decide +kernel) (by decide +kernel) (by decide +kernel) (by decide +kernel) (by decide +kernel) (by decide +kernel) (by decide +kernel) (by decide +kernel) (by decide +kernel) (by decide +kernel) (by decide +kernel) (by decide +kernel) (by decide +kernel)
theorem nm_jmps {t : Int} (h : isNum t) : ([Str.ofString "JMP", Str.ofString "FORLOOP", Str.ofString "FORPREP"].any (· == nameOf t)) = false := by
  exact isNum_cases (P := fun t => ([Str.ofString "JMP", Str.ofString "FORLOOP", Str.ofString "FORPREP"].any (· == nameOf t)) = false) h (by decide +kernel) (by decide +kernel) (by decide +kernel) (by decide +kernel) (by decide +kernel) (by decide +kernel) (by decide +kernel) (by decide +kernel) (by decide +kernel) (by decide +kernel) (by decide +kernel) (by decide +kernel) (by decide +kernel) (by decide +kernel)
theorem nm_kw : (nameOf 1 == Str.ofString "WORD") = false ∧ (nameOf 1 == Str.ofString "LOADK") = true := by decide +kernel
theorem nm_ret : (nameOf 30 == Str.ofString "RETURN") = true := by decide +kernel
theorem nm_mv : (nameOf 0 == Str.ofString "RETURN") = false ∧ (nameOf 0 == Str.ofString "MOVE") = true := by decide +kernel
theorem nm_lk : (nameOf 1 == Str.ofString "RETURN") = false ∧ (nameOf 1 == Str.ofString "MOVE") = false ∧ (nameOf 1 == Str.ofString "LOADK") = true := by decide +kernel
theorem nm_lb : (nameOf 2 == Str.ofString "RETURN") = false ∧ (nameOf 2 == Str.ofString "MOVE") = false ∧ (nameOf 2 == Str.ofString "LOADK") = false ∧ (nameOf 2 == Str.ofString "LOADBOOL") = true := by decide +kernel
theorem nm_els {t : Int} (h : 12 ≤ t ∧ t ≤ 21) : (nameOf t == Str.ofString "RETURN") = false ∧ (nameOf t == Str.ofString "MOVE") = false ∧ (nameOf t == Str.ofString "LOADK") = false ∧ (nameOf t == Str.ofString "LOADBOOL") = false ∧ (nameOf t == Str.ofString "LOADNIL") = false := by
  rcases (show t = 12 ∨ t = 13 ∨ t = 14 ∨ t = 15 ∨ t = 16 ∨ t = 17 ∨ t = 18 ∨ t = 19 ∨ t = 20 ∨ t = 21 by omega) with h | h | h | h | h | h | h | h | h | h <;> subst h <;> decide +kernel
def InvL (rows : List R) (wd : Int) (xs0 : List RV) (pc : Int) (ys : List RV) : Prop :=
  ∃ n, rows.length ≤ pc.toNat + n ∧ runL rows wd rows.length 0 xs0 = runL rows wd n pc ys ∧ ys.length = 17 ∧ (∀ y ∈ ys, okV y) ∧ 0 ≤ pc ∧ pc < rows.length
theorem InvL.start {rows : List R} {wd : Int} {xs : List RV} (h : okRows rows) (hl : xs.length = 17) (hx : ∀ x ∈ xs, okV x) : InvL rows wd xs 0 xs :=
  ⟨rows.length, by simp, rfl, hl, hx, Int.le_refl _, by have := (okRows_len h).1; omega⟩
theorem InvL.step {rows : List R} {wd : Int} {xs0 : List RV} {pc : Int} {ys zs : List RV} {r : R} (h0 : 1 ≤ wd) (h1 : wd ≤ 17) (hr : okRows rows) (I : InvL rows wd xs0 pc ys) (h2 : pc + 1 < rows.length) (er : rowAt rows pc = r) (hs : stepL wd r ys = some zs) : InvL rows wd xs0 (pc + shift r) zs ∧ (rows.length - (pc + shift r)).toNat < (rows.length - pc).toNat := by
  obtain ⟨n, hn, hrun, hyl, hyo, hp0, hp1⟩ := I
  subst er
  have hok := (okRows_at hr hp0 hp1).resolve_left (fun k => by omega)
  have hsh := shift_ok hr hp0 hok.1 hok.2
  obtain ⟨m, rfl⟩ : ∃ m, n = m + 1 := ⟨n - 1, by omega⟩
  have k := stepL_ok h0 h1 hyo hs
  exact ⟨⟨m, by omega, by rw [hrun, runL_step (t_not30 hok.2) hs], k.1.trans hyl, k.2, by omega, hsh.2.1⟩, by omega⟩
theorem InvL.stop {rows : List R} {wd : Int} {xs0 : List RV} {pc : Int} {ys : List RV} {r : R} (hr : okRows rows) (I : InvL rows wd xs0 pc ys) (h2 : pc + 1 < rows.length) (er : rowAt rows pc = r) (hs : stepL wd r ys = none) : runL rows wd rows.length 0 xs0 = .stopped pc := by
  obtain ⟨n, hn, hrun, hyl, hyo, hp0, hp1⟩ := I
  subst er
  have hok := (okRows_at hr hp0 hp1).resolve_left (fun k => by omega)
  obtain ⟨m, rfl⟩ : ∃ m, n = m + 1 := ⟨n - 1, by omega⟩
  rw [hrun, runL_stop (t_not30 hok.2) hs]
theorem InvL.ret {rows : List R} {wd : Int} {xs0 : List RV} {pc : Int} {ys : List RV} (I : InvL rows wd xs0 pc ys) (h2 : (rowAt rows pc).t = 30) : runL rows wd rows.length 0 xs0 = .back (ys.take 5) := by
  obtain ⟨n, hn, hrun, hyl, hyo, hp0, hp1⟩ := I
  obtain ⟨m, rfl⟩ : ∃ m, n = m + 1 := ⟨n - 1, by omega⟩
  rw [hrun, runL_ret h2]
theorem InvL.bd {rows : List R} {wd : Int} {xs0 : List RV} {pc : Int} {ys : List RV} (I : InvL rows wd xs0 pc ys) : ys.length = 17 ∧ (∀ y ∈ ys, okV y) ∧ 0 ≤ pc ∧ pc < rows.length := by
  obtain ⟨n, hn, hrun, hyl, hyo, hp0, hp1⟩ := I
  exact ⟨hyl, hyo, hp0, hp1⟩
end Mine
end
section
namespace Mine
def okC (r : R) : Prop := (r.t = 1 ∨ isNum r.t) ∧ (0 ≤ r.a ∧ r.a < 10) ∧ (0 ≤ r.b ∧ r.b < 300) ∧ (0 ≤ r.c ∧ r.c < 300)
theorem okC_of {p r r' : R} (h : okR p r r') : okC r := by
  have k := okR_bd h
  exact ⟨(Classical.em (r.t = 1)).imp id (isNum_of h), k.2.1, bdw k.2.2.1 (by decide) (by decide), bdw k.2.2.2 (by decide) (by decide)⟩
theorem okC_rows {rows : List R} (h : okRows rows) : (∀ r ∈ rows, okC r) ∧ rows.length ≤ 26 := by
  refine ⟨fun r hr => ?_, (okRows_len h).2⟩
  obtain ⟨i, hi, e⟩ := List.getElem_of_mem hr
  have e2 : rowAt rows (i : Int) = r := by
    unfold rowAt
    rw [Int.toNat_natCast, List.getD_eq_getElem?_getD, List.getElem?_eq_getElem hi, e]; rfl
  rcases okRows_at h (i := i) (by omega) (by omega) with k | k
  · rw [← e2, k.2]
    exact ⟨.inr (.inr (.inr (.inr (.inr rfl)))), by decide, by decide, by decide⟩
  · rw [← e2]
    exact okC_of k.2
theorem rows_Cd1_1 : True := by
  k_with_none
  k_with "EP" => (k_whole; fail_if_success (fail_if_success (rename Below _ _ _ _ => b9_z)))
  k_with "subscriptTail Name Name ref str" => (k_here; (with_reducible show wpAny _ _ (subscriptTail _ _ (Value.ref 508) (Value.str (nameOf _) _)) _ _ _); k_dflt (refine' num_sub ?zt ?zF ?zX ?zs ?_; (case zt => assumption); (case zF => k_asm); (case zX => k_asm); (case zs => with_unfolding_all rfl); k_whole); intro u_z)
  k_with "exec For Tuple Name cons nil" => (k_here; (rename Fr _ _ _ _ => lF'_z); (with_unfolding_all refine' For_turns lF'_z ?_; k_whole))
  k_with "pyIter ref" => ((with_reducible show wpAny _ _ (pyIter (Value.ref _)) (fun it s₂ => TurnsAt _ _ _ _ _ _ _ _ _ it s₂) _ _); refine Stop.un ?_)
  k_with "call builtin:list.append" => (k_here; (with_reducible show wpAny _ _ (call (Value.builtin _) [Value.ref _, _]) _ _ _); k_dflt (refine' kv_append ?k1 ?k2 ?k3 ?z ?_; (case k1 => k_asm); (case k2 => k_asm); (case k3 => k_upd); (case z => first | assumption | omega | (simp only [List.length_append, List.length_cons, List.length_nil]; omega)); k_whole); intro h'_z F'_z N'_z; (try k_sweep))
  trivial
theorem coded_ok : ∀ (w : World) (p : Program) (loose : List Str) (mean : ExcName → Option Value) (mg mb : Str → Option Value) (dp un : Nat) (gd : Option (List Code)) (cn : Str) (cs : Scope) (a : Addr) (ccd : Value) (cl : List (Str × Addr)) (outer : List Env) (A₀ : Around) (base h₀ : Heap) (L : Addr) (m : Str → Option Value) (s : Shared) (Q E : Value → Shared → Prop) (news : List (Addr × Obj)) (rl : Addr) (kr : Nat) (rvs : List Value) (rows : List R), Below A₀ base outer h₀ → Fr h₀ L s.heap m → (Kf w.params).In h₀ → News h₀ L s.heap (news) → Top p loose mean mg mb h₀ → cs.kind = .function → dp + 3 < recursionLimit → un + 24 < cLine → ((rl, listOf rvs.toArray kr) ∈ news) → (RowsIn news rows rvs) → ((∀ r ∈ rows, okC r) ∧ rows.length ≤ 26) → (∀ (D : Addr) (kc : Nat) (cvs : List Value) (h' : Heap) (tk' : Nat), (IntsAre cvs (rows.map R.code)) → (∀ p ∈ news, p.1 < D) → Fr h₀ L h' m → News h₀ L h' ((D, listOf cvs.toArray kc) :: news) → Q (.ref D) { s with heap := h', toks := tk' }) → wpAny (model PySem.Challenge.rw_pc0174_01.row.prog w) (ktrTop dp un gd cn cs L a ccd cl outer) (call (.ref 531) [.ref rl, .ref 508]) Q E s := by
  k_fill
  refine (?k1k : KBcx ?f1f); refine ep_cx ?_; apply (?f1f _ _ _ _ _ _ _ _ _ _ _ _ _ _ _ _ _ _ _ _ _ _ _); (try any_goals exact default); intros w p loose mean mg mb dp un gd cn cs a ccd cl outer A₀ base h₀ L m s Q E; refine Bx.mk ?_
  refine (?k2k : KB5 ?f2f); refine ep5 (by repeat' (first | infer_instance | exact ne_world | exact ne_shared | exact ne_around | exact ⟨.none⟩ | exact ⟨⟨0, 0, 0, 0⟩⟩ | refine ne_prod ?_ ?_)) ?_; apply (?f2f _ _ _ _ _); (try any_goals exact default); intros news rl kr rvs rows; refine Bx.mk ?_
  intro B F X N T hck hd9 hu9 hm hro hrows hret
  replace N := news_put N hm
  refine wpAny_call ?_
  k_dflt cell_enter
  k_steps
  refine Stop.mk ?_
  (rename _ ∧ AllLt _ _ => hl1)
  (rename Fr _ _ _ _ => lF'); (rename News _ _ _ _ => lN')
  with_unfolding_all refine iter_listTurnsS (by rfl) lF' lN' (by k_mem) rfl rfl ?_
  clear lF' lN'
  intro I hI
  have hIl := ltN (hI _ (.head _))
  have hIr := ltN (hI _ (.tail _ (.head _)))
  dsimp only at hIl hIr
  refine itemsRest_of [Str.ofString "name", Str.ofString "a", Str.ofString "b", Str.ofString "c"]
    (fun r g nw => ∃ (pre post : List R) (cvs : List Value) (kc : Nat), rows = pre ++ post ∧ RowsIn news post r ∧ IntsAre cvs (pre.map R.code) ∧ nw = (_, listOf cvs.toArray kc) :: (rl, listOf rvs.toArray kr) :: news) ?turn ?done ⟨[], rows, [], _, rfl, hro, .nil, rfl⟩
  case turn =>
    intro v r g nw it h₂ tk₂ hit hj F2 N2
    obtain ⟨pre, post, cvs, kc, hrw, hrest, hcv, rfl⟩ := hj
    revert pre post cvs kc
    refine (?k3k : KB4 ?f3f); refine ep4 (by repeat' (first | infer_instance | exact ne_world | exact ne_shared | exact ne_around | exact ⟨.none⟩ | exact ⟨⟨0, 0, 0, 0⟩⟩ | refine ne_prod ?_ ?_)) ?_; apply (?f3f _ _ _ _); (try any_goals exact default); intros pre post cvs kc; refine Bx.mk ?_
    set_option tactic.hygienic false in intros
    dsimp only [over] at F2
    rcases post with _ | ⟨row, post⟩
    · exact hrest.elim
    obtain ⟨⟨ta, t0, t1, t2, t3, rfl, hmem⟩, hrest⟩ := hrest
    revert hrw hrest
    revert row post ta t0 t1 t2 t3
    intro row post ta t0 t1 t2 t3
    set_option tactic.hygienic false in intros
    have hok := hrows.1 row (by rw [hrw]; simp)
    have hta := neN (allLt_ne hl1.2 _ hmem)
    have hnl := allLt_ne hl1.2
    have hl0 := hl1.1
    replace N2 := news_put N2 (.tail _ (.tail _ (.tail _ hmem)))
    obtain ⟨hnum, hba, hbb, hbc⟩ := hok
    obtain ⟨rt, ra, rb, rc⟩ := row
    revert rt ra rb rc
    intro rt ra rb rc
    set_option tactic.hygienic false in intros
    unfold rowObj at N2
    dsimp only at N2 hba hbb hbc hnum hta
    have hlr := hrows.2
    have hz0 : cvs.length < 1000 := by rw [IntsAre.length hcv, List.length_map]; rw [hrw, List.length_append] at hlr; omega
    by_cases h1 : rt = 1
    · subst h1
      have e1 := nm_kw.1
      have e2 := nm_kw.2
      k_steps
      (rename News _ _ _ _ => lN); (rename Fr _ _ _ _ => lF)
      refine unrEndW_of lF lN 2 (.tail _ (.head _)) (lt_same hI) ⟨subL_one (.tail _ (.head _)), ?_, pre ++ [⟨1, ra, rb, rc⟩], post, _, _, by rw [hrw]; simp, hrest, ?_, rfl⟩
      · intro y hy
        simp only [List.mem_cons, List.not_mem_nil, or_false, not_or] at hy
        simp only [hy, if_false]
      · rw [List.map_append]
        exact hcv.append (.cons _ _ .nil)
    · have hnum := hnum.resolve_left h1
      have e1 := nm_word hnum
      have e2 := nm_loadk hnum
      have e3 := nm_jmps hnum
      k_steps
      (rename News _ _ _ _ => lN); (rename Fr _ _ _ _ => lF)
      refine unrEndW_of lF lN 3 (.tail _ (.tail _ (.head _))) (lt_same hI) ⟨subL_one (.tail _ (.head _)), ?_, pre ++ [⟨rt, ra, rb, rc⟩], post, _, _, by rw [hrw]; simp, hrest, ?_, rfl⟩
      · intro y hy
        simp only [List.mem_cons, List.not_mem_nil, or_false, not_or] at hy
        simp only [hy, if_false]
      · rw [List.map_append]
        have ec : R.code ⟨rt, ra, rb, rc⟩ = rt + 64 * ra + 16384 * rc + 8388608 * rb := if_neg h1
        rw [List.map_cons, ec]
        exact hcv.append (.cons _ _ .nil)
  case done =>
    intro g nw h₂ tk₂ hj F2 N2
    obtain ⟨pre, post, cvs, kc, hrw, hrest, hcv, rfl⟩ := hj
    revert pre post cvs kc
    refine (?k4k : KB4 ?f4f); refine ep4 (by repeat' (first | infer_instance | exact ne_world | exact ne_shared | exact ne_around | exact ⟨.none⟩ | exact ⟨⟨0, 0, 0, 0⟩⟩ | refine ne_prod ?_ ?_)) ?_; apply (?f4f _ _ _ _); (try any_goals exact default); intros pre post cvs kc; refine Bx.mk ?_
    set_option tactic.hygienic false in intros
    dsimp only [over] at F2
    rcases post with _ | ⟨row, post⟩
    · rw [List.append_nil] at hrw
      subst hrw
      k_steps
      (rename News h₀ L _ _ => lN)
      exact hret _ _ _ _ _ hcv (allLt_all hl1.2) (by k_asm) (news_skip2 lN)
    · exact hrest.elim

theorem rows_Cd1_2 : True := by
  k_with "call ref" => (k_here; k_dflt (refine' coded_ok _ _ _ _ _ _ _ _ _ _ _ _ _ _ _ _ _ _ _ _ _ _ _ _ _ _ _ _ ?kB ?kF ?kX ?kN ?kT ?kK ?kd ?ku ?q0 ?q1 ?q2 ?_; (case kB => k_asm); (case kF => k_asm); (case kX => k_asm); (case kN => k_asm); (case kT => k_asm); (case kK => first | exact rfl | assumption); (case kd => ktr_room); (case ku => ktr_units); (case q0 => k_mem); (case q1 => first | assumption | (refine RowsIn.more ?_ (by assumption); intro p_z hp_z; repeat (first | exact hp_z | refine List.Mem.tail _ ?_))); (case q2 => assumption); k_whole); intro D_z kc_z cvs_z h'_z tk'_z hcv_z hlt_z F'_z N'_z; (try k_sweep))
  trivial
end Mine
end
section
namespace Mine
theorem shift_ld {r : R} (h : r.t = 2 ∧ r.c ≠ 0) : shift r - 1 = 1 := by unfold shift; rw [if_pos h]; rfl
theorem shift_no {r : R} (h : ¬ (r.t = 2 ∧ r.c ≠ 0)) : shift r - 1 = 0 := by unfold shift; rw [if_neg h]; rfl
theorem pc_ld {r : R} {pc op rc : Int} (ht : r.t = op) (h : op = 2 → rc = r.c) : pc + (if op = 2 ∧ rc ≠ 0 then 1 else 0) = pc + (shift r - 1) := by
  by_cases e : op = 2
  · rw [h e]
    by_cases k : r.c ≠ 0
    · rw [if_pos ⟨e, k⟩, shift_ld ⟨ht.trans e, k⟩]
    · rw [if_neg fun q => k q.2, shift_no fun q => k q.2]
  · rw [if_neg fun q => e q.1, shift_no fun q => e (ht ▸ q.1)]
theorem load_kinds {p r r' : R} {op : Int} (h : okR p r r') (ht : r.t = op) (h3 : op < 4) : (op = 0 ∧ 0 ≤ r.b ∧ r.b < 17) ∨ (op = 1 ∧ 0 ≤ r.b ∧ r.b < 6) ∨ op = 2 := by
  subst ht
  rcases okR_three h with ⟨-, h | h⟩ | h | h
  · exact .inl ⟨h.1, bdw h.2 (by decide) (by decide)⟩
  · exact .inr h
  · exact absurd (Int.lt_of_le_of_lt h.1 h3) (by decide)
  · exact absurd h3 (by rw [h]; decide)
theorem load_same {t a b c b' c' bb : Int} {xs : List RV} (h : t ≠ 1 → b' = b ∧ c' = c) : loadR t a b' c' bb xs = loadR t a b c bb xs := by
  by_cases e : t = 1
  · subst e; rfl
  · rw [(h e).1, (h e).2]
local macro_rules | `(tactic| k_mem) => `(tactic| first | assumption | (refine mem_of ?_; assumption))
theorem rows_Ds2_1 : True := by
  k_with_none
  k_with "EP" => (k_whole; fail_if_success (fail_if_success (rename Below _ _ _ _ => b9_z)))
  k_with "call ref" => (k_here; k_dflt (refine' load_ok _ _ _ _ _ _ _ _ _ _ _ _ _ _ _ _ _ _ _ _ _ _ _ _ _ _ _ _ _ _ _ _ _ _ _ _ _ _ ?kB ?kF ?kX ?kN ?kT ?kK ?kd ?ku ?q0 ?q1 ?q2 ?q3 ?q4 ?q5 ?q6 ?q7 ?q8 ?q9 ?q10 ?_; (case kB => k_asm); (case kF => k_asm); (case kX => k_asm); (case kN => k_asm); (case kT => k_asm); (case kK => first | exact rfl | assumption); (case kd => ktr_room); (case ku => ktr_units); (case q0 => k_updF); (case q1 => assumption); (case q2 => assumption); (case q3 => assumption); (case q4 => assumption); (case q5 => assumption); (case q6 => assumption); (case q7 => assumption); (case q8 => assumption); (case q9 => assumption); (case q10 => assumption); k_whole); intro vs1_z t_z h'_z tk'_z hv1_z F'_z N'_z; (try k_sweep); (try dsimp only at N'_z))
  k_with "call ref" => (k_here; k_dflt (refine' reck_all _ _ _ _ _ _ _ _ _ _ _ _ _ _ _ _ _ _ _ _ _ _ _ _ _ _ _ _ _ _ _ _ _ _ _ _ _ _ _ _ _ _ _ _ _ _ _ _ _ _ _ _ _ _ _ _ _ _ _ _ _ ?kB ?kF ?kX ?kN ?kT ?kK ?kd ?ku ?q0 ?q1 ?q2 ?q3 ?q4 ?q5 ?q6 ?q7 ?q8 ?q9 ?q10 ?q11 ?q12 ?q13 ?q14 ?q15 ?q16 ?q17 ?q18 ?q19 ?q20 ?q21 ?q22 ?q23 ?_; (case kB => k_asm); (case kF => k_asm); (case kX => k_asm); (case kN => k_asm); (case kT => k_asm); (case kK => first | exact rfl | assumption); (case kd => ktr_room); (case ku => ktr_units); (case q0 => assumption); (case q1 => assumption); (case q2 => assumption); (case q3 => assumption); (case q4 => assumption); (case q5 => assumption); (case q6 => assumption); (case q7 => assumption); (case q8 => assumption); (case q9 => assumption); (case q10 => assumption); (case q11 => assumption); (case q12 => assumption); (case q13 => assumption); (case q14 => assumption); (case q15 => assumption); (case q16 => assumption); (case q17 => assumption); (case q18 => assumption); (case q19 => assumption); (case q20 => assumption); (case q21 => first | assumption | exact rfl); (case q22 => assumption); (case q23 => assumption); k_whole); intro vs1_z ys_z ok_z h'_z tk'_z hs_z hv_z F'_z N'_z; (try k_sweep))
  k_with "call ref" => (k_here; k_dflt (refine' join_all _ _ _ _ _ _ _ _ _ _ _ _ _ _ _ _ _ _ _ _ _ _ _ _ _ _ _ _ _ _ _ _ _ _ _ _ _ _ _ _ _ _ _ _ _ _ _ _ _ _ _ _ _ _ _ _ _ _ _ _ ?kB ?kF ?kX ?kN ?kT ?kK ?kd ?ku ?q0 ?q1 ?q2 ?q3 ?q4 ?q5 ?q6 ?q7 ?q8 ?q9 ?q10 ?q11 ?q12 ?q13 ?q14 ?q15 ?q16 ?q17 ?q18 ?q19 ?q20 ?q21 ?q22 ?q23 ?_; (case kB => k_asm); (case kF => k_asm); (case kX => k_asm); (case kN => k_asm); (case kT => k_asm); (case kK => first | exact rfl | assumption); (case kd => ktr_room); (case ku => ktr_units); (case q0 => assumption); (case q1 => assumption); (case q2 => assumption); (case q3 => assumption); (case q4 => assumption); (case q5 => assumption); (case q6 => assumption); (case q7 => assumption); (case q8 => assumption); (case q9 => assumption); (case q10 => assumption); (case q11 => assumption); (case q12 => assumption); (case q13 => assumption); (case q14 => assumption); (case q15 => assumption); (case q16 => assumption); (case q17 => assumption); (case q18 => assumption); (case q19 => assumption); (case q20 => assumption); (case q21 => first | assumption | exact rfl); (case q22 => assumption); (case q23 => assumption); k_whole); intro vs1_z ys_z ok_z h'_z tk'_z hs_z hv_z F'_z N'_z; (try k_sweep))
  k_with "getAttr ref" => (k_here; k_dflt (refine' get_own ?k1 ?k2 ?k3 ?k4 ?k5 ?k6 ?k7 ?k8 ?k9 ?_; (case k1 => k_asm); (case k2 => k_asm); (case k3 => k_inst); (case k4 => k_is); (case k5 => k_is); (case k6 => k_is); (case k7 => k_is); (case k8 => first | assumption | exact StepD.get (by assumption) (by assumption) (by decide) (by decide) | exact StepD.pc (by assumption)); (case k9 => k_handed); k_whole))
  k_with "setAttr ref" => (k_here; k_dflt (refine' set_pcK ?k1 ?k2 ?k3 ?k4 ?k5 ?k6 ?k7 ?k8 ?k9 ?k10 ?k11 ?_; (case k1 => k_asm); (case k2 => k_asm); (case k3 => k_asm); (case k4 => k_inst); (case k5 => exact rfl); (case k6 => k_is); (case k7 => k_is); (case k8 => k_is); (case k9 => k_is); (case k10 => assumption); (case k11 => k_updF); k_whole); intro es_z h'_z hD_z F'_z N'_z; (try dsimp only at N'_z); (try k_sweep))
  k_with "getMethod ref" => (k_here; k_dflt (refine' method_inst ?k1 ?k2 ?k3 ?k4 ?k5 ?k6 ?k7 ?_; (case k1 => k_asm); (case k2 => k_asm); (case k3 => k_inst); (case k4 => k_is); (case k5 => k_is); (case k6 => k_is); (case k7 => exact StepD.no (by assumption) _ (by decide)); k_whole))
  trivial
theorem done_ok : ∀ (w : World) (p : Program) (loose : List Str) (mean : ExcName → Option Value) (mg mb : Str → Option Value) (dp un : Nat) (gd : Option (List Code)) (cn : Str) (cs : Scope) (a : Addr) (ccd : Value) (cl : List (Str × Addr)) (outer : List Env) (A₀ : Around) (base h₀ : Heap) (L : Addr) (m : Str → Option Value) (s : Shared) (Q E : Value → Shared → Prop) (x dx st lm dl wk dw : Addr) (es esl esw : List DictEntry) (nd nl nw k : Nat) (fx : Str → Option Value) (wd : Int) (tw : Tok) (xs : List RV) (vs : List Value) (rest : List (Addr × Obj)) (lf lc : Addr) (nm ql : Str) (pmv ctv : Value) (lo : Obj) (lvs : Array Value) (tq : Tok) (tt tpc : Tok) (pc : Int) (pr r rn : R) (op ins : Int) (to ti : Tok), Below A₀ base outer h₀ → Fr h₀ L s.heap m → (Kf w.params).In h₀ → News h₀ L s.heap ((x, instObj 503 dx) :: (dx, dictOf es nd) :: (st, listOf vs.toArray k) :: rest) → Top p loose mean mg mb h₀ → cs.kind = .function → dp + 10 < recursionLimit → un + 80 < cLine → (@Ne Nat x dx ∧ @Ne Nat x st ∧ @Ne Nat dx st) → (∀ p ∈ rest, p.1 ≠ dx) → (∀ p ∈ rest, p.1 ≠ st) → (StepD fx es (.int pc tpc) .none) → (fx (Str.ofString "stack") = some (.ref st) ∧ fx (Str.ofString "constants") = some (.ref 510) ∧ fx (Str.ofString "limits") = some (.ref lm) ∧ fx (Str.ofString "works") = some (.ref wk)) → (RVs xs vs) → (xs.length = 17) → (∀ x ∈ xs, okV x) → (1 ≤ wd ∧ wd ≤ 64) → (wd ≤ 17) → ((lm, instObj 95 dl) ∈ rest) → ((dl, dictOf esl nl) ∈ rest) → (getL (Str.ofString "width") esl = some (some (.int wd tw))) → ((wk, instObj 412 dw) ∈ rest) → ((dw, dictOf esw nw) ∈ rest) → (getL (Str.ofString "length") esw = some (some (.ref lf))) → ((lf, lamObj nm ql pmv lc ctv) ∈ rest) → ((lc, lo) ∈ rest) → (lo.data = .fields lvs ∧ lvs[1]? = some (.str ql tq)) → (getL (Str.ofString "text") esl = some (some (.int 12 tt))) → (okR pr r rn) → (r.t = op) → (r.code = ins) → (∀ (vs1 : List Value) (ys : List RV) (ok : Bool) (es' : List DictEntry) (tp' : Tok) (h' : Heap) (tk' : Nat), (StepS wd r xs ok ys) → (ok = true → RVs ys vs1) → (StepD fx es' (.int (pc + (shift r - 1)) tp') .none) → Fr h₀ L h' m → News h₀ L h' ((x, instObj 503 dx) :: (dx, dictOf es' nd) :: (st, listOf vs1.toArray k) :: rest) → Q (.bool ok) { s with heap := h', toks := tk' }) → wpAny (model PySem.Challenge.rw_pc0174_01.row.prog w) (ktrTop dp un gd cn cs L a ccd cl outer) (call (.ref 444) [.ref x, .int op to, .int ins ti]) Q E s := by
  k_fill
  refine (?k1k : KBcx ?f1f); refine ep_cx ?_; apply (?f1f _ _ _ _ _ _ _ _ _ _ _ _ _ _ _ _ _ _ _ _ _ _ _); (try any_goals exact default); intros w p loose mean mg mb dp un gd cn cs a ccd cl outer A₀ base h₀ L m s Q E; refine Bx.mk ?_
  refine (?k2k : KB13 ?f2f); refine ep13 (by repeat' (first | infer_instance | exact ne_world | exact ne_shared | exact ne_around | exact ⟨.none⟩ | exact ⟨⟨0, 0, 0, 0⟩⟩ | refine ne_prod ?_ ?_)) ?_; apply (?f2f _ _ _ _ _ _ _ _ _ _ _ _ _); (try any_goals exact default); intros x dx st lm dl wk dw es esl esw nd nl nw; refine Bx.mk ?_; refine (?k3k : KB13 ?f3f); refine ep13 (by repeat' (first | infer_instance | exact ne_world | exact ne_shared | exact ne_around | exact ⟨.none⟩ | exact ⟨⟨0, 0, 0, 0⟩⟩ | refine ne_prod ?_ ?_)) ?_; apply (?f3f _ _ _ _ _ _ _ _ _ _ _ _ _); (try any_goals exact default); intros k fx wd tw xs vs rest lf lc nm ql pmv ctv; refine Bx.mk ?_; refine (?k4k : KB13 ?f4f); refine ep13 (by repeat' (first | infer_instance | exact ne_world | exact ne_shared | exact ne_around | exact ⟨.none⟩ | exact ⟨⟨0, 0, 0, 0⟩⟩ | refine ne_prod ?_ ?_)) ?_; apply (?f4f _ _ _ _ _ _ _ _ _ _ _ _ _); (try any_goals exact default); intros lo lvs tq tt tpc pc pr r rn op ins to ti; refine Bx.mk ?_
  intro B F X N T hck hd9 hu9 hne hrd hrs hD hf hx hxl hok hw hw2 hlm hdl hes hwk hdw hew hlf hlc hlo het hR hop hins hret
  have hne0 := hne
  obtain ⟨hne1, hne2, hne3⟩ := hne0
  have hf0 := hf
  obtain ⟨hf1, hf2, hf3, hf4⟩ := hf0
  have hbd := okR_bd hR
  rcases (show op < 4 ∨ (12 ≤ op ∧ op ≤ 20) ∨ op = 21 from hop ▸ (okR_three hR).imp And.left id) with h3 | hk | hk
  · obtain ⟨⟨hc0, hc1⟩, hc2, hc3, hc4, hc5⟩ := code_ok hR
    rw [hins] at hc0 hc1 hc3 hc4 hc5
    obtain ⟨bb, hbb⟩ : ∃ bb, ins / 16384 = bb := ⟨_, rfl⟩
    revert bb
    intro bb
    set_option tactic.hygienic false in intros
    obtain ⟨rb, hrb⟩ : ∃ rb, ins / 8388608 = rb := ⟨_, rfl⟩
    revert rb
    intro rb
    set_option tactic.hygienic false in intros
    obtain ⟨rc, hrc⟩ : ∃ rc, ins / 16384 % 512 = rc := ⟨_, rfl⟩
    revert rc
    intro rc
    set_option tactic.hygienic false in intros
    rw [hrb, hrc] at hc4
    rw [hbb] at hc5
    rw [hop] at hc4 hc5
    have hra : 0 ≤ r.a ∧ r.a < 17 := bdw hbd.2.1 (by decide) (by decide)
    have hkk : (op = 0 ∧ 0 ≤ rb ∧ rb < 17) ∨ (op = 1 ∧ 0 ≤ bb ∧ bb < 6) ∨ op = 2 := by
      rcases load_kinds hR hop h3 with h | h | h
      · have q := hc4 (nev h.1 (by decide)); exact .inl ⟨h.1, q.1 ▸ h.2⟩
      · have q := hc5 h.1; exact .inr (.inl ⟨h.1, q ▸ h.2⟩)
      · exact .inr (.inr h)
    have h321 : r.t ≠ 21 := nhi (hop ▸ h3 : r.t < 4) (by decide)
    have hst : stepL wd r xs = some (loadR op r.a rb rc bb xs) := by
      rw [load_same hc4, ← hop]
      exact stepL_ld ((load_kinds hR hop h3).imp (fun h => hop.trans h.1) (fun h => h.imp (fun h => hop.trans h.1) hop.trans)) fun k => hc5 (hop ▸ k)
    have hsh := pc_ld (pc := pc) (rc := rc) hop fun k => (hc4 (nev k (by decide))).2
    refine wpAny_call ?_
    k_dflt cell_enter
    k_steps
    (rename News h₀ L _ _ => lN)
    (rename RVs _ _ => h1); (rename StepD _ _ _ _ => h3)
    rw [hsh] at h3
    exact hret _ _ _ _ _ _ _ (stepS_some (by rw [loadR_len, hxl]) hst h321) (fun _ => h1) h3 (by k_asm) lN
  · refine wpAny_call ?_
    k_dflt cell_enter
    k_steps
    (rename News h₀ L _ _ => lN)
    (rename StepS _ _ _ _ _ => h1); (rename _ = true → _ => h2); (rename StepD _ _ _ _ => h3)
    have h4 : StepD fx es (.int (pc + (shift r - 1)) tpc) .none := by rw [shift_no fun q => (nlo (hop ▸ hk.1 : 12 ≤ r.t) (by decide) : r.t ≠ 2) q.1, Int.add_zero]; exact h3
    exact hret _ _ _ _ _ _ _ h1 h2 h4 (by k_asm) lN
  · have h21 : (op == 21) = true := by simpa using hk
    refine wpAny_call ?_
    k_dflt cell_enter
    k_steps
    all_goals (first | (exfalso; omega) | skip)
    (rename News h₀ L _ _ => lN)
    (rename StepS _ _ _ _ _ => h1); (rename _ = true → _ => h2); (rename StepD _ _ _ _ => h3)
    have h4 : StepD fx es (.int (pc + (shift r - 1)) tpc) .none := by rw [shift_no fun q => (nev (hop.trans hk) (by decide) : r.t ≠ 2) q.1, Int.add_zero]; exact h3
    exact hret _ _ _ _ _ _ _ h1 h2 h4 (by k_asm) lN
theorem rows_Ds2_2 : True := by
  k_with "call ref" => (k_here; k_dflt (refine' done_ok _ _ _ _ _ _ _ _ _ _ _ _ _ _ _ _ _ _ _ _ _ _ _ _ _ _ _ _ _ _ _ _ _ _ _ _ _ _ _ _ _ _ _ _ _ _ _ _ _ _ _ _ _ _ _ _ _ _ _ _ _ _ ?kB ?kF ?kX ?kN ?kT ?kK ?kd ?ku ?q0 ?q1 ?q2 ?q3 ?q4 ?q5 ?q6 ?q7 ?q8 ?q9 ?q10 ?q11 ?q12 ?q13 ?q14 ?q15 ?q16 ?q17 ?q18 ?q19 ?q20 ?q21 ?q22 ?_; (case kB => k_asm); (case kF => k_asm); (case kX => k_asm); (case kN => k_asm); (case kT => k_asm); (case kK => first | exact rfl | assumption); (case kd => ktr_room); (case ku => ktr_units); (case q0 => assumption); (case q1 => assumption); (case q2 => assumption); (case q3 => assumption); (case q4 => assumption); (case q5 => assumption); (case q6 => assumption); (case q7 => assumption); (case q8 => assumption); (case q9 => assumption); (case q10 => assumption); (case q11 => assumption); (case q12 => assumption); (case q13 => assumption); (case q14 => assumption); (case q15 => assumption); (case q16 => assumption); (case q17 => assumption); (case q18 => assumption); (case q19 => assumption); (case q20 => assumption); (case q21 => first | assumption | exact rfl); (case q22 => assumption); k_whole); intro vs1_z ys_z ok_z es'_z tp'_z h'_z tk'_z hs_z hv_z hD1_z F'_z N'_z; (try k_sweep))
  trivial
end Mine
end
section
namespace Mine
local macro_rules | `(tactic| k_mem) => `(tactic| first | assumption | (refine mem_of ?_; assumption))
theorem rows_Ds3_1 : True := by
  k_with_none
  k_with "EP" => (k_whole; fail_if_success (fail_if_success (rename Below _ _ _ _ => b9_z)))
  k_with "call ref" => (k_here; (with_reducible show wpAny _ _ (call (Value.ref 479) _) _ _ _); refine wpAny_call ?_; k_dflt (refine' code_def ?k1 ?k2 ?k3 ?k4 ?k5 ?kA ?kF ?kK ?k6 ?k7 ?k8 ?k9 ?kB ?_ ?c2 ?c3 ?c4 ?c5; (case kA => exact rfl); (case kF => exact rfl); (case kK => first | exact rfl | assumption); (case k1 => k_asm); (case k2 => k_asm); (case k3 => k_asm); (case k4 => k_asm); (case k5 => k_asm); (case k6 => k_is); (case k7 => k_is); (case k8 => ktr_room); (case k9 => first | exact BindsTo.of_eq rfl | exact binds_K (by k_in) rfl (by k_is) rfl rfl rfl); (case c5 => decide); (case kB => exact locs rfl); (case c2 => exact rfl); (case c3 => exact rfl); (case c4 => exact rfl); k_whole; intro g_z L_z h_z FG_z F_z N_z B_z X_z T_z; (try dsimp only); (try k_lift B_z); (try k_fold)))
  k_with "call ref" => (k_here; k_dflt (refine' a_of_ok _ _ _ _ _ _ _ _ _ _ _ _ _ _ _ _ _ _ _ _ _ _ _ _ _ _ _ ?kB ?kF ?kX ?kN ?kT ?kK ?kd ?ku ?q0 ?q1 ?q2 ?_; (case kB => k_asm); (case kF => k_asm); (case kX => k_asm); (case kN => k_asm); (case kT => k_asm); (case kK => first | exact rfl | assumption); (case kd => ktr_room); (case ku => ktr_units); (case q0 => first | assumption | l_fact); (case q1 => first | assumption | l_fact); (case q2 => first | assumption | exact rfl); k_whole); intro t_z h'_z tk'_z  F'_z N'_z; (try k_sweep))
  k_with "call ref" => (k_here; k_dflt (refine' b_of_ok _ _ _ _ _ _ _ _ _ _ _ _ _ _ _ _ _ _ _ _ _ _ _ _ _ _ _ ?kB ?kF ?kX ?kN ?kT ?kK ?kd ?ku ?q0 ?q1 ?q2 ?_; (case kB => k_asm); (case kF => k_asm); (case kX => k_asm); (case kN => k_asm); (case kT => k_asm); (case kK => first | exact rfl | assumption); (case kd => ktr_room); (case ku => ktr_units); (case q0 => first | assumption | l_fact); (case q1 => first | assumption | l_fact); (case q2 => first | assumption | exact rfl); k_whole); intro t_z h'_z tk'_z  F'_z N'_z; (try k_sweep))
  k_with "getAttr ref" => (k_here; k_dflt (refine' get_own ?k1 ?k2 ?k3 ?k4 ?k5 ?k6 ?k7 ?k8 ?k9 ?_; (case k1 => k_asm); (case k2 => k_asm); (case k3 => k_inst); (case k4 => k_is); (case k5 => k_is); (case k6 => k_is); (case k7 => k_is); (case k8 => first | assumption | exact StepD.get (by assumption) (by assumption) (by decide) (by decide) | exact StepD.pc (by assumption)); (case k9 => k_handed); k_whole))
  k_with "setAttr ref" => (k_here; k_dflt (refine' set_resK ?k1 ?k2 ?k3 ?k4 ?k5 ?k6 ?k7 ?k8 ?k9 ?k10 ?k11 ?_; (case k1 => k_asm); (case k2 => k_asm); (case k3 => k_asm); (case k4 => k_inst); (case k5 => exact rfl); (case k6 => k_is); (case k7 => k_is); (case k8 => k_is); (case k9 => k_is); (case k10 => assumption); (case k11 => k_updF); k_whole); intro es_z h'_z hD_z F'_z N'_z; (try dsimp only at N'_z); (try k_sweep))
  k_with "getMethod ref" => (k_here; k_dflt (refine' method_inst ?k1 ?k2 ?k3 ?k4 ?k5 ?k6 ?k7 ?_; (case k1 => k_asm); (case k2 => k_asm); (case k3 => k_inst); (case k4 => k_is); (case k5 => k_is); (case k6 => k_is); (case k7 => exact StepD.no (by assumption) _ (by decide)); k_whole))
  k_with "subscriptTail Name Slice ref ref" => (k_here; (with_reducible show wpAny _ _ (subscriptTail _ (PySem.Expr.Slice _ _ _ _) (Value.ref _) (Value.ref _)) _ _ _); k_dflt (refine' kmk_slice_lit ?k1 ?k2 ?k3 ?k4 ?k5 ?k6 ?_ ?k7 ?k8 ?k9; (case k1 => k_asm); (case k2 => k_asm); (case k3 => kmk_list); (case k4 => kmk_part); (case k5 => kmk_part); (case k6 => first | exact kv_all _ | exact kv_upto _ (by omega) | exact kv_run _ (by omega) (by omega)); (case k7 => with_unfolding_all rfl); (case k8 => kmk_pure); (case k9 => first | exact kv_size (by assumption) (by simp only [sizeLine_eq]; omega) | exact Nat.le_of_ble_eq_true rfl); k_whole); intro D_z h'_z F'_z N'_z l1_z; (try k_lt l1_z); (try k_sweep))
  trivial
theorem done_ret : ∀ (w : World) (p : Program) (loose : List Str) (mean : ExcName → Option Value) (mg mb : Str → Option Value) (dp un : Nat) (gd : Option (List Code)) (cn : Str) (cs : Scope) (a : Addr) (ccd : Value) (cl : List (Str × Addr)) (outer : List Env) (A₀ : Around) (base h₀ : Heap) (L : Addr) (m : Str → Option Value) (s : Shared) (Q E : Value → Shared → Prop) (x dx st : Addr) (es : List DictEntry) (nd k : Nat) (fx : Str → Option Value) (pcv : Value) (xs : List RV) (vs : List Value) (rest : List (Addr × Obj)) (ins : Int) (to ti : Tok), Below A₀ base outer h₀ → Fr h₀ L s.heap m → (Kf w.params).In h₀ → News h₀ L s.heap ((x, instObj 503 dx) :: (dx, dictOf es nd) :: (st, listOf vs.toArray k) :: rest) → Top p loose mean mg mb h₀ → cs.kind = .function → dp + 4 < recursionLimit → un + 32 < cLine → (@Ne Nat x dx ∧ @Ne Nat x st ∧ @Ne Nat dx st) → (∀ p ∈ rest, p.1 ≠ dx) → (∀ p ∈ rest, p.1 ≠ st) → (StepD fx es pcv .none) → (RVs xs vs) → (xs.length = 17) → (fx (Str.ofString "stack") = some (.ref st)) → (0 ≤ ins) → (ins < 2 ^ 40) → (ins / 64 % 256 = 0) → (ins / 8388608 = 6) → (∀ (rl : Addr) (kr : Nat) (zs : List Value) (es' : List DictEntry) (h' : Heap) (tk' : Nat), (RVs (xs.take 5) zs) → (StepD fx es' pcv (.ref rl)) → (∀ p ∈ (x, instObj 503 dx) :: (dx, dictOf es nd) :: (st, listOf vs.toArray k) :: rest, p.1 < rl) → Fr h₀ L h' m → News h₀ L h' ((rl, listOf zs.toArray kr) :: (x, instObj 503 dx) :: (dx, dictOf es' nd) :: (st, listOf vs.toArray k) :: rest) → Q (.bool true) { s with heap := h', toks := tk' }) → wpAny (model PySem.Challenge.rw_pc0174_01.row.prog w) (ktrTop dp un gd cn cs L a ccd cl outer) (call (.ref 444) [.ref x, .int 30 to, .int ins ti]) Q E s := by
  k_fill
  refine (?k1k : KBcx ?f1f); refine ep_cx ?_; apply (?f1f _ _ _ _ _ _ _ _ _ _ _ _ _ _ _ _ _ _ _ _ _ _ _); (try any_goals exact default); intros w p loose mean mg mb dp un gd cn cs a ccd cl outer A₀ base h₀ L m s Q E; refine Bx.mk ?_
  refine (?k2k : KB14 ?f2f); refine ep14 (by repeat' (first | infer_instance | exact ne_world | exact ne_shared | exact ne_around | exact ⟨.none⟩ | exact ⟨⟨0, 0, 0, 0⟩⟩ | refine ne_prod ?_ ?_)) ?_; apply (?f2f _ _ _ _ _ _ _ _ _ _ _ _ _ _); (try any_goals exact default); intros x dx st es nd k fx pcv xs vs rest ins to ti; refine Bx.mk ?_
  intro B F X N T hck hd9 hu9 hne hrd hrs hD hx hxl hf1 hi hi2 ha hb hret
  have hne0 := hne
  obtain ⟨hne1, hne2, hne3⟩ := hne0
  have hl := hx.length
  refine wpAny_call ?_
  k_dflt cell_enter
  k_steps
  (rename News h₀ L _ _ => lN); (rename StepD _ _ _ _ => h3)
  exact hret _ _ _ _ _ _ (hx.take 5) h3 (allLt_all (l := (x, instObj 503 dx) :: (dx, dictOf es nd) :: (st, listOf vs.toArray k) :: rest) (by assumption)) (by k_asm) lN
theorem rows_Ds3_2 : True := by
  k_with "call ref" => (k_here; k_dflt (refine' done_ret _ _ _ _ _ _ _ _ _ _ _ _ _ _ _ _ _ _ _ _ _ _ _ _ _ _ _ _ _ _ _ _ _ _ _ _ _ ?kB ?kF ?kX ?kN ?kT ?kK ?kd ?ku ?q0 ?q1 ?q2 ?q3 ?q4 ?q5 ?q6 ?q7 ?q8 ?q9 ?q10 ?_; (case kB => k_asm); (case kF => k_asm); (case kX => k_asm); (case kN => k_asm); (case kT => k_asm); (case kK => first | exact rfl | assumption); (case kd => ktr_room); (case ku => ktr_units); (case q0 => assumption); (case q1 => assumption); (case q2 => assumption); (case q3 => assumption); (case q4 => assumption); (case q5 => assumption); (case q6 => assumption); (case q7 => assumption); (case q8 => assumption); (case q9 => assumption); (case q10 => assumption); k_whole); intro rl_z kr_z zs_z es'_z h'_z tk'_z hzs_z hD1_z hlt_z F'_z N'_z; (try k_sweep))
  trivial
end Mine
end
section
namespace Mine
local macro_rules | `(tactic| k_mem) => `(tactic| first | assumption | (refine mem_of ?_; assumption))
section
variable {prog : Program} {w : World} {A : Around} {E : Value → Shared → Prop} {s : Shared} {h₀ : Heap} {L D : Addr} {m : Str → Option Value} {news : List (Addr × Obj)} {vs : List Value} {n : Nat} {k : Int} {u : Tok}
theorem ints_getD : ∀ {vs : List Value} {ns : List Int}, IntsAre vs ns → ∀ i, i < vs.length → ∃ t, vs.getD i .none = .int (ns.getD i 0) t := by
  intro vs ns k
  induction k with
  | nil => exact fun _ hi => absurd hi (Nat.not_lt_zero _)
  | cons _ _ _ ih =>
    intro i hi
    cases i with
    | zero => exact ⟨_, rfl⟩
    | succ i => exact ih i (Nat.lt_of_succ_lt_succ hi)
theorem kv_subI {value slice : PySem.Expr} {ns : List Int} {Q : Value → Shared → Prop} (N : News h₀ L s.heap news) (hm : (D, listOf vs.toArray n) ∈ news) (hI : IntsAre vs ns) (h0 : 0 ≤ k) (h1 : k < vs.length) (hfit : k < 2 ^ 63) (h : ∀ t, Q (.int (ns.getD k.toNat 0) t) s)
    (hs : subscripted slice false (.ref D) (.int k u) = operate [.ref D, .int k u] (getItem (.ref D) (.int k u))) : wpAny (model prog w) A (subscriptTail value slice (.ref D) (.int k u)) Q E s :=
  kv_sub N hm h0 h1 hfit (by obtain ⟨t, e⟩ := ints_getD hI k.toNat (by omega); rw [e]; exact h t) hs
end
theorem news_in3 {h₀ h : Heap} {L : Addr} {p a b c : Addr × Obj} {r : List (Addr × Obj)} (N : News h₀ L h (p :: a :: b :: c :: r)) : News h₀ L h (a :: b :: c :: p :: r) := fun q hq => N q (sub_cons (.tail _ (.head _)) (sub_cons (.tail _ (.tail _ (.head _))) (sub_cons (.tail _ (.tail _ (.tail _ (.head _)))) (sub_cons (.head _) (fun q h => .tail _ (.tail _ (.tail _ (.tail _ (h)))))))) q hq)
theorem news_out3 {h₀ h : Heap} {L : Addr} {p a b c : Addr × Obj} {r : List (Addr × Obj)} (N : News h₀ L h (a :: b :: c :: p :: r)) : News h₀ L h (p :: a :: b :: c :: r) := fun q hq => N q (sub_cons (.tail _ (.tail _ (.tail _ (.head _)))) (sub_cons (.head _) (sub_cons (.tail _ (.head _)) (sub_cons (.tail _ (.tail _ (.head _))) (fun q h => .tail _ (.tail _ (.tail _ (.tail _ (h)))))))) q hq)
theorem off3 {I a b c : Addr} {oa ob oc : Obj} {r : List (Addr × Obj)} (h1 : @LT.lt Nat _ a I) (h2 : @LT.lt Nat _ b I) (h3 : @LT.lt Nat _ c I) (hr : ∀ p ∈ r, p.1 < I) : ∀ q ∈ (a, oa) :: (b, ob) :: (c, oc) :: r, q.1 ≠ I := by
  intro q hq
  simp only [List.mem_cons] at hq
  rcases hq with rfl | rfl | rfl | h
  · exact Nat.ne_of_lt h1
  · exact Nat.ne_of_lt h2
  · exact Nat.ne_of_lt h3
  · exact Nat.ne_of_lt (hr q h)
theorem cons_all {d : Addr} {p : Addr × Obj} {r : List (Addr × Obj)} (h : p.1 ≠ d) (t : ∀ q ∈ r, q.1 ≠ d) : ∀ q ∈ p :: r, q.1 ≠ d := fun q hq => by
  rcases List.mem_cons.mp hq with rfl | hq
  · exact h
  · exact t q hq
theorem codes_getD (rows : List R) (i : Int) (h0 : 0 ≤ i) (h1 : i < rows.length) : (rows.map R.code).getD i.toNat 0 = (rowAt rows i).code := by
  have : i.toNat < rows.length := by omega
  simp [rowAt, this]
theorem nwS {h₀ h : Heap} {L : Addr} {t a b c i : Addr × Obj} {r : List (Addr × Obj)} (N : News h₀ L h (t :: a :: b :: c :: i :: r)) : News h₀ L h (r ++ [t]) := fun q hq => N q (by
  simp only [List.mem_cons, List.mem_append, List.not_mem_nil, or_false] at hq ⊢
  rcases hq with h | h <;> simp only [h, true_or, or_true])
theorem nwBk {h₀ h : Heap} {L : Addr} {t l a b c i : Addr × Obj} {r : List (Addr × Obj)} (N : News h₀ L h (t :: l :: a :: b :: c :: i :: r)) : News h₀ L h (r ++ [t, l]) := fun q hq => N q (by
  simp only [List.mem_cons, List.mem_append, List.not_mem_nil, or_false] at hq ⊢
  rcases hq with h | h | h <;> simp only [h, true_or, or_true])
theorem shift_pos (r : R) : 1 ≤ shift r := by unfold shift; split <;> decide
theorem stop_shift {wd : Int} {r : R} {ys ys' : List RV} (h : StepS wd r ys false ys') : shift r = 1 := by
  have h := (h.resolve_right fun k => Bool.noConfusion k.1).2
  refine if_neg fun k => ?_
  unfold stepL at h
  rw [if_neg (by omega), if_neg (by omega), if_pos k.1] at h
  cases h
def OutL (o : Out) (T : Addr) (news : List (Addr × Obj)) : Prop := match o with
  | .back ys => ∃ rl t kr zs, news = [(T, ({ cls := .type "tuple", data := .seq #[.str (Str.ofString "back") t, .ref rl] } : Obj)), (rl, listOf zs.toArray kr)] ∧ RVs ys zs
  | .stopped i => ∃ t u, news = [(T, ({ cls := .type "tuple", data := .seq #[.str (Str.ofString "stopped") t, .int i u] } : Obj))]
theorem InvS.bd {rows : List R} {wd : Int} {xs0 : List RV} {pc : Int} {ys : List RV} (I : InvS rows wd xs0 pc ys) : ys.length = 17 ∧ (∀ y ∈ ys, okV y) ∧ 0 ≤ pc ∧ pc < rows.length := by
  obtain ⟨n, xs, hn, hrun, hag, hxl, hxo, hyl, hyo, hp0, hp1⟩ := I
  exact ⟨hyl, hyo, hp0, hp1⟩
theorem rows_Rn1_1 : True := by
  k_with_none
  k_with "EP" => (k_whole; fail_if_success (fail_if_success (rename Below _ _ _ _ => b9_z)))
  k_with "call ref" => (k_here; k_dflt (refine' op_of_ok _ _ _ _ _ _ _ _ _ _ _ _ _ _ _ _ _ _ _ _ _ _ _ _ _ _ _ ?kB ?kF ?kX ?kN ?kT ?kK ?kd ?ku ?q0 ?q1 ?q2 ?_; (case kB => k_asm); (case kF => k_asm); (case kX => k_asm); (case kN => k_asm); (case kT => k_asm); (case kK => first | exact rfl | assumption); (case kd => ktr_room); (case ku => ktr_units); (case q0 => first | assumption | l_fact); (case q1 => first | assumption | l_fact); (case q2 => first | assumption | exact rfl); k_whole); intro t_z h'_z tk'_z  F'_z N'_z; (try k_sweep))
  k_with "call ref" => (k_here; k_dflt (refine' done_ok _ _ _ _ _ _ _ _ _ _ _ _ _ _ _ _ _ _ _ _ _ _ _ _ _ _ _ _ _ _ _ _ _ _ _ _ _ _ _ _ _ _ _ _ _ _ _ _ _ _ _ _ _ _ _ _ _ _ _ _ _ _ ?kB ?kF ?kX ?kN ?kT ?kK ?kd ?ku ?q0 ?q1 ?q2 ?q3 ?q4 ?q5 ?q6 ?q7 ?q8 ?q9 ?q10 ?q11 ?q12 ?q13 ?q14 ?q15 ?q16 ?q17 ?q18 ?q19 ?q20 ?q21 ?q22 ?_; (case kB => k_asm); (case kF => k_asm); (case kX => k_asm); (case kN => first | exact news_in3 (by k_asm) | k_asm); (case kT => k_asm); (case kK => first | exact rfl | assumption); (case kd => ktr_room); (case ku => ktr_units); (case q0 => assumption); (case q1 => assumption); (case q2 => assumption); (case q3 => assumption); (case q4 => assumption); (case q5 => assumption); (case q6 => assumption); (case q7 => assumption); (case q8 => assumption); (case q9 => assumption); (case q10 => assumption); (case q11 => assumption); (case q12 => assumption); (case q13 => assumption); (case q14 => assumption); (case q15 => assumption); (case q16 => assumption); (case q17 => assumption); (case q18 => assumption); (case q19 => assumption); (case q20 => assumption); (case q21 => first | assumption | exact rfl); (case q22 => assumption); k_whole); intro vs1_z ys_z ok_z es'_z tp'_z h'_z tk'_z hs_z hv_z hD1_z F'_z N'_z; (try k_sweep))
  k_with "call ref" => (k_here; k_dflt (refine' done_ret _ _ _ _ _ _ _ _ _ _ _ _ _ _ _ _ _ _ _ _ _ _ _ _ _ _ _ _ _ _ _ _ _ _ _ _ _ ?kB ?kF ?kX ?kN ?kT ?kK ?kd ?ku ?q0 ?q1 ?q2 ?q3 ?q4 ?q5 ?q6 ?q7 ?q8 ?q9 ?q10 ?_; (case kB => k_asm); (case kF => k_asm); (case kX => k_asm); (case kN => first | exact news_in3 (by k_asm) | k_asm); (case kT => k_asm); (case kK => first | exact rfl | assumption); (case kd => ktr_room); (case ku => ktr_units); (case q0 => assumption); (case q1 => assumption); (case q2 => assumption); (case q3 => assumption); (case q4 => assumption); (case q5 => assumption); (case q6 => assumption); (case q7 => assumption); (case q8 => assumption); (case q9 => assumption); (case q10 => assumption); k_whole); intro rl_z kr_z zs_z es'_z h'_z tk'_z hzs_z hD1_z hlt_z F'_z N'_z; (try k_sweep))
  k_with "getAttr ref" => (k_here; k_dflt (refine' get_own ?k1 ?k2 ?k3 ?k4 ?k5 ?k6 ?k7 ?k8 ?k9 ?_; (case k1 => k_asm); (case k2 => k_asm); (case k3 => k_inst); (case k4 => k_is); (case k5 => k_is); (case k6 => k_is); (case k7 => k_is); (case k8 => first | assumption | exact StepD.get (by assumption) (by assumption) (by decide) (by decide) | exact StepD.pc (by assumption) | exact StepD.res (by assumption)); (case k9 => k_handed); k_whole))
  k_with "setAttr ref" => (k_here; k_dflt (refine' set_pcK ?k1 ?k2 ?k3 ?k4 ?k5 ?k6 ?k7 ?k8 ?k9 ?k10 ?k11 ?_; (case k1 => k_asm); (case k2 => k_asm); (case k3 => k_asm); (case k4 => k_inst); (case k5 => exact rfl); (case k6 => k_is); (case k7 => k_is); (case k8 => k_is); (case k9 => k_is); (case k10 => assumption); (case k11 => k_updF); k_whole); intro es_z h'_z hD_z F'_z N'_z; (try dsimp only at N'_z); (try k_sweep))
  k_with "getMethod ref" => (k_here; k_dflt (refine' method_inst ?k1 ?k2 ?k3 ?k4 ?k5 ?k6 ?k7 ?_; (case k1 => k_asm); (case k2 => k_asm); (case k3 => k_inst); (case k4 => k_is); (case k5 => k_is); (case k6 => k_is); (case k7 => exact StepD.no (by assumption) _ (by decide)); k_whole))
  k_with "subscriptTail" => (k_here; (with_reducible show wpAny _ _ (subscriptTail _ _ (Value.ref _) (Value.int _ _)) _ _ _); k_dflt (refine' kv_subI ?k1 ?k2 ?k3 ?k4 ?k5 ?k6 ?_ ?k7; (case k1 => k_asm); (case k2 => k_mem); (case k3 => assumption); (case k4 => assumption); (case k5 => omega); (case k6 => omega); (case k7 => with_unfolding_all rfl); k_whole); intro u_z)
  k_with "exec For Name Call cons nil" => (k_here; (rename Fr _ _ _ _ => lF'_z); (with_unfolding_all refine' For_invVF lF'_z ?k1 ?k2 ?_; (case k1 => exact rfl); (case k2 => exact rfl); k_whole))
  k_with "pyIter ref" => ((with_reducible show wpAny _ _ (pyIter (Value.ref _)) (fun it s₂ => LoopAtV _ _ _ _ _ _ _ _ _ it s₂) _ _); refine Stop.un ?_)
  trivial
theorem run_ok : ∀ (w : World) (p : Program) (loose : List Str) (mean : ExcName → Option Value) (mg mb : Str → Option Value) (dp un : Nat) (gd : Option (List Code)) (cn : Str) (cs : Scope) (a : Addr) (ccd : Value) (cl : List (Str × Addr)) (outer : List Env) (A₀ : Around) (base h₀ : Heap) (L : Addr) (m : Str → Option Value) (s : Shared) (Q E : Value → Shared → Prop) (x dx st lm dl wk dw : Addr) (es esl esw : List DictEntry) (nd nl nw k : Nat) (fx : Str → Option Value) (wd : Int) (tw : Tok) (xs : List RV) (vs : List Value) (rest : List (Addr × Obj)) (lf lc : Addr) (nm ql : Str) (pmv ctv : Value) (lo : Obj) (lvs : Array Value) (tq : Tok) (tt tpc : Tok) (cd : Addr) (kc : Nat) (cvs : List Value) (rows : List R) (tm : Tok), Below A₀ base outer h₀ → Fr h₀ L s.heap m → (Kf w.params).In h₀ → News h₀ L s.heap ((x, instObj 503 dx) :: (dx, dictOf es nd) :: (st, listOf vs.toArray k) :: rest) → Top p loose mean mg mb h₀ → cs.kind = .function → dp + 11 < recursionLimit → un + 88 < cLine → (@Ne Nat x dx ∧ @Ne Nat x st ∧ @Ne Nat dx st) → (∀ p ∈ rest, p.1 ≠ dx) → (∀ p ∈ rest, p.1 ≠ st) → (StepD fx es (.int 0 tpc) .none) → (fx (Str.ofString "stack") = some (.ref st) ∧ fx (Str.ofString "constants") = some (.ref 510) ∧ fx (Str.ofString "limits") = some (.ref lm) ∧ fx (Str.ofString "works") = some (.ref wk)) → (RVs xs vs) → (xs.length = 17) → (∀ x ∈ xs, okV x) → (1 ≤ wd ∧ wd ≤ 64) → (wd ≤ 17) → ((lm, instObj 95 dl) ∈ rest) → ((dl, dictOf esl nl) ∈ rest) → (getL (Str.ofString "width") esl = some (some (.int wd tw))) → ((wk, instObj 412 dw) ∈ rest) → ((dw, dictOf esw nw) ∈ rest) → (getL (Str.ofString "length") esw = some (some (.ref lf))) → ((lf, lamObj nm ql pmv lc ctv) ∈ rest) → ((lc, lo) ∈ rest) → (lo.data = .fields lvs ∧ lvs[1]? = some (.str ql tq)) → (getL (Str.ofString "text") esl = some (some (.int 12 tt))) → (fx (Str.ofString "code") = some (.ref cd)) → ((cd, listOf cvs.toArray kc) ∈ rest) → (IntsAre cvs (rows.map R.code)) → (okRows rows) → (∀ (T : Addr) (outL : List (Addr × Obj)) (h' : Heap) (tk' : Nat), (OutL (runL rows wd rows.length 0 xs) T outL) → Fr h₀ L h' m → News h₀ L h' (rest ++ outL) → Q (.ref T) { s with heap := h', toks := tk' }) → wpAny (model PySem.Challenge.rw_pc0174_01.row.prog w) (ktrTop dp un gd cn cs L a ccd cl outer) (call (.ref 437) [.ref x, .int 40 tm]) Q E s := by
  k_fill
  refine (?k1k : KBcx ?f1f); refine ep_cx ?_; apply (?f1f _ _ _ _ _ _ _ _ _ _ _ _ _ _ _ _ _ _ _ _ _ _ _); (try any_goals exact default); intros w p loose mean mg mb dp un gd cn cs a ccd cl outer A₀ base h₀ L m s Q E; refine Bx.mk ?_
  refine (?k2k : KB12 ?f2f); refine ep12 (by repeat' (first | infer_instance | exact ne_world | exact ne_shared | exact ne_around | exact ⟨.none⟩ | exact ⟨⟨0, 0, 0, 0⟩⟩ | refine ne_prod ?_ ?_)) ?_; apply (?f2f _ _ _ _ _ _ _ _ _ _ _ _); (try any_goals exact default); intros x dx st lm dl wk dw es esl esw nd nl; refine Bx.mk ?_; refine (?k3k : KB12 ?f3f); refine ep12 (by repeat' (first | infer_instance | exact ne_world | exact ne_shared | exact ne_around | exact ⟨.none⟩ | exact ⟨⟨0, 0, 0, 0⟩⟩ | refine ne_prod ?_ ?_)) ?_; apply (?f3f _ _ _ _ _ _ _ _ _ _ _ _); (try any_goals exact default); intros nw k fx wd tw xs vs rest lf lc nm ql; refine Bx.mk ?_; refine (?k4k : KB12 ?f4f); refine ep12 (by repeat' (first | infer_instance | exact ne_world | exact ne_shared | exact ne_around | exact ⟨.none⟩ | exact ⟨⟨0, 0, 0, 0⟩⟩ | refine ne_prod ?_ ?_)) ?_; apply (?f4f _ _ _ _ _ _ _ _ _ _ _ _); (try any_goals exact default); intros pmv ctv lo lvs tq tt tpc cd kc cvs rows tm; refine Bx.mk ?_
  intro B F X N T hck hd9 hu9 hne hrd hrs hD hf hx hxl hok hw hw2 hlm hdl hes hwk hdw hew hlf hlc hlo het hfc hcd hcv hrows hret
  have hne0 := hne
  obtain ⟨hne1, hne2, hne3⟩ := hne0
  have hf0 := hf
  obtain ⟨hf1, hf2, hf3, hf4⟩ := hf0
  have hcl := IntsAre.length hcv
  have hml : (rows.map R.code).length = rows.length := List.length_map ..
  have hlen := okRows_len hrows
  refine wpAny_call ?_
  k_dflt cell_enter
  k_steps
  refine Stop.mk ?_
  (rename Fr _ _ _ _ => lF'); (rename News _ _ _ _ => lN'); (rename IsRange _ _ _ _ _ _ _ _ => lR')
  with_unfolding_all refine iter_rangeUnr (n := 40) (by rfl) lR' (by decide) (by decide) lF' lN' ?_
  clear lF' lN'
  intro I hI
  have hIr : ∀ p ∈ rest, p.1 < I := fun p hp => hI p (.tail _ (.tail _ (.tail _ hp)))
  have hI1 : @LT.lt Nat _ x I := hI (x, _) (.head _)
  have hI2 : @LT.lt Nat _ dx I := hI (dx, _) (.tail _ (.head _))
  have hI3 : @LT.lt Nat _ st I := hI (st, _) (.tail _ (.tail _ (.head _)))
  have hIx : @Ne Nat I x := Nat.ne_of_gt hI1
  have hId : @Ne Nat I dx := Nat.ne_of_gt hI2
  have hIs : @Ne Nat I st := Nat.ne_of_gt hI3
  clear hI
  refine rangeRest_ofN [Str.ofString "turn", Str.ofString "instruction"] (fun i g nw => ∃ (pc : Int) (tp : Tok) (vs' : List Value) (ys : List RV) (es' : List DictEntry), nw = (x, instObj 503 dx) :: (dx, dictOf es' nd) :: (st, listOf vs'.toArray k) :: rest ∧ StepD fx es' (.int pc tp) .none ∧ RVs ys vs' ∧ InvS rows wd xs pc ys ∧ (i : Int) ≤ pc) ?turn ?done ⟨0, _, vs, xs, es, rfl, hD, hx, InvS.start hrows hxl hok, Int.le_refl _⟩
  case turn =>
    intro i g nW t h₂ tk₂ hi hj F2 N2
    obtain ⟨pc, tp, vs', ys, es', rfl, hD', hys, hinv, hip⟩ := hj
    revert pc tp vs' ys es'
    refine (?k5k : KB5 ?f5f); refine ep5 (by repeat' (first | infer_instance | exact ne_world | exact ne_shared | exact ne_around | exact ⟨.none⟩ | exact ⟨⟨0, 0, 0, 0⟩⟩ | refine ne_prod ?_ ?_)) ?_; apply (?f5f _ _ _ _ _); (try any_goals exact default); intros pc tp vs' ys es'; refine Bx.mk ?_
    set_option tactic.hygienic false in intros
    dsimp only [over] at F2
    clear hx hxl hok hD
    generalize itR (0 + ((i + 1 : Nat) : Int)) (((40 : Nat) : Int) - ((i + 1 : Nat) : Int)) = oI at N2 ⊢
    obtain ⟨hyl, hyo, hp0, hp1⟩ := hinv.bd
    have hgd := codes_getD rows pc hp0 hp1
    have hrJ : ∀ q ∈ (I, oI) :: rest, q.1 ≠ dx := cons_all hId hrd
    have hsJ : ∀ q ∈ (I, oI) :: rest, q.1 ≠ st := cons_all hIs hrs
    have hlmJ : (lm, instObj 95 dl) ∈ (I, oI) :: rest := .tail _ hlm
    have hdlJ : (dl, dictOf esl nl) ∈ (I, oI) :: rest := .tail _ hdl
    have hwkJ : (wk, instObj 412 dw) ∈ (I, oI) :: rest := .tail _ hwk
    have hdwJ : (dw, dictOf esw nw) ∈ (I, oI) :: rest := .tail _ hdw
    have hlfJ : (lf, lamObj nm ql pmv lc ctv) ∈ (I, oI) :: rest := .tail _ hlf
    have hlcJ : (lc, lo) ∈ (I, oI) :: rest := .tail _ hlc
    have hpp : pc + 1 < 100 := by omega
    rcases okRows_at hrows hp0 hp1 with ⟨hq, hret30⟩ | ⟨hq, hR⟩
    · rw [hret30] at hgd
      have hcr : (0 ≤ (rows.map R.code).getD pc.toNat 0 ∧ (rows.map R.code).getD pc.toNat 0 < 2 ^ 40) ∧ (rows.map R.code).getD pc.toNat 0 % 64 = 30 ∧ (rows.map R.code).getD pc.toNat 0 / 64 % 256 = 0 ∧ (rows.map R.code).getD pc.toNat 0 / 8388608 = 6 := by rw [hgd]; decide
      obtain ⟨⟨hc0, hc1⟩, hc2, hc3, hc4⟩ := hcr
      k_steps
      (rename News h₀ L _ _ => lN)
      refine hret _ _ _ _ ?_ (by k_asm) (nwBk lN)
      rw [hinv.ret (by rw [hret30]; rfl)]
      exact ⟨_, _, _, _, rfl, by assumption⟩
    · have hcr := code_ok hR
      rw [← hgd] at hcr
      obtain ⟨⟨hc0, hc1⟩, hc2, hc3⟩ := hcr
      have hins := hgd.symm
      k_steps
      · have hz := ‹(_ : Bool) = true›
        (rename StepS _ _ _ _ _ => hs); (rename _ = true → _ => hv); (rename StepD _ _ _ _ => hD2)
        rw [hz] at hs
        have hst := hinv.step hw.1 hw2 hrows hq hs
        have hsp := shift_pos (rowAt rows pc)
        (rename News _ _ _ _ => lN); (rename Fr _ _ _ _ => lF)
        refine unrEnd_of lF (news_out3 lN) 1 (.head _) (off3 hI1 hI2 hI3 hIr) ⟨by repeat (first | exact fun _ _ => rfl | refine keep_if (by k_mem) ?_), _, _, _, _, _, rfl, hD2, hv hz, ?_, by omega⟩
        rw [show pc + 1 + (shift (rowAt rows pc) - 1) = pc + shift (rowAt rows pc) by omega]
        exact hst
      · have hz := ‹(_ : Bool) = false›
        (rename StepS _ _ _ _ _ => hs)
        rw [hz] at hs
        have hst := hinv.stop hrows hq hs
        (rename News h₀ L _ _ => lN)
        rw [stop_shift hs] at lN
        refine hret _ _ _ _ ?_ (by k_asm) (nwS lN)
        rw [hst]
        exact ⟨_, _, by rw [show pc + 1 + (1 - 1) - 1 = pc by omega]⟩
  case done =>
    intro g nW h₂ tk₂ hj F2 N2
    obtain ⟨pc, tp, vs', ys, es', rfl, hD', hys, hinv, hip⟩ := hj
    revert pc tp vs' ys es'
    refine (?k6k : KB5 ?f6f); refine ep5 (by repeat' (first | infer_instance | exact ne_world | exact ne_shared | exact ne_around | exact ⟨.none⟩ | exact ⟨⟨0, 0, 0, 0⟩⟩ | refine ne_prod ?_ ?_)) ?_; apply (?f6f _ _ _ _ _); (try any_goals exact default); intros pc tp vs' ys es'; refine Bx.mk ?_
    set_option tactic.hygienic false in intros
    have := hinv.bd
    exfalso
    omega

end Mine
end
section
namespace Mine
local macro_rules | `(tactic| k_mem) => `(tactic| first | assumption | (refine mem_of ?_; assumption))
theorem kv_mul12 {prog : Program} {w : World} {A : Around} {E : Value → Shared → Prop} {s : Shared} {h₀ : Heap} {L : Addr} {m : Str → Option Value} {news : List (Addr × Obj)} {l : Addr} {n : Nat} {u : Tok} {Q : Value → Shared → Prop} (FF : Fr h₀ L s.heap m) (N : News h₀ L s.heap news) (hl : (l, listOf [Value.none].toArray n) ∈ news)
    (h : ∀ D h', Fr h₀ L h' m → News h₀ L h' ((D, listOf (List.replicate 12 Value.none).toArray 0) :: news) → (∀ q ∈ news, q.1 < D) → Q (.ref D) { s with heap := h' }) : wpAny (model prog w) A (binaryOp .Mult (.ref l) (.int 12 u)) Q E s :=
  mul_list FF N (N _ hl).1 (by decide) (by decide) (by decide) (fun h' F' N' => h _ h' F' N' fun p hp => Heap.lt_size (N p hp).1)
theorem nones_is : RVs (List.replicate 12 .none) (List.replicate 12 Value.none) := ⟨rfl, rfl, rfl, rfl, rfl, rfl, rfl, rfl, rfl, rfl, rfl, rfl, trivial⟩
theorem pad_ok {xs : List RV} (h : ∀ x ∈ xs, okV x) : ∀ x ∈ xs ++ List.replicate 12 .none, okV x := fun x hx => by
  rcases List.mem_append.mp hx with h1 | h1
  · exact h x h1
  · rw [List.eq_of_mem_replicate h1]; trivial
theorem nw_loop {h₀ h : Heap} {L : Addr} {t a b c d e f : Addr × Obj} {r : List (Addr × Obj)} (N : News h₀ L h (t :: a :: b :: c :: d :: e :: f :: r)) : News h₀ L h (a :: e :: r) := fun q hq => N q (sub_cons (.tail _ (.head _)) (sub_cons (.tail _ (.tail _ (.tail _ (.tail _ (.tail _ (.head _)))))) (fun q h => .tail _ (.tail _ (.tail _ (.tail _ (.tail _ (.tail _ (.tail _ (h))))))))) q hq)
section
variable {prog : Program} {w : World} {A : Around} {E : Value → Shared → Prop} {s : Shared}
theorem eq_nil_yes {a b : Addr} {Q : Value → Shared → Prop} (hl : s.heap.IsList a (List.toArray [])) (hb : s.heap.IsList b #[]) (hu : A.units < cLine) (h : Q (.bool true) s) : wpAny (model prog w) A (compareOp .Eq (.ref a) (.ref b)) Q E s :=
  PySem.SeqAt.eq_listAt (e := fun _ => true) hl hb rfl hu (fun j h1 _ => absurd h1 (by simp)) h
theorem eq_nil_no {a b : Addr} {x : Value} {Q : Value → Shared → Prop} (hl : s.heap.IsList a (List.toArray [x])) (hb : s.heap.IsList b #[]) (hu : A.units < cLine) (h : Q (.bool false) s) : wpAny (model prog w) A (compareOp .Eq (.ref a) (.ref b)) Q E s :=
  PySem.SeqAt.eq_list_lengthsAt hl hb rfl hu h
end
theorem bne_of_f {a b : Str} (h : (a == b) = false) : (a != b) = true := by rw [bne, h]; rfl
theorem bne_of_t {a b : Str} (h : (a == b) = true) : (a != b) = false := by rw [bne, h]; rfl
theorem st_mv {wd a b c : Int} {xs : List RV} : stepL wd ⟨0, a, b, c⟩ xs = some (xs.set a.toNat (xs.getD b.toNat .none)) := rfl
theorem st_lk {wd a b c : Int} {xs : List RV} : stepL wd ⟨1, a, b, c⟩ xs = some (xs.set a.toNat (consts1.getD b.toNat .none)) := rfl
theorem st_lb {wd a b c : Int} {xs : List RV} : stepL wd ⟨2, a, b, c⟩ xs = some (xs.set a.toNat (.bool (decide (b ≠ 0)))) := rfl
theorem sh_mv {a b c : Int} : shift ⟨0, a, b, c⟩ = 1 := if_neg fun h => absurd (show (0 : Int) = 2 from h.1) (by decide)
theorem sh_lk {a b c : Int} : shift ⟨1, a, b, c⟩ = 1 := if_neg fun h => absurd (show (1 : Int) = 2 from h.1) (by decide)
theorem sh_lb {a b c : Int} (h : c ≠ 0) : shift ⟨2, a, b, c⟩ = 2 := if_pos ⟨rfl, h⟩
theorem sh_lb0 {a b c : Int} (h : c = 0) : shift ⟨2, a, b, c⟩ = 1 := if_neg fun k => k.2 h
theorem sh_els {t a b c : Int} (h : 12 ≤ t) : shift ⟨t, a, b, c⟩ = 1 := if_neg fun k => absurd (show t = 2 from k.1) (by omega)
theorem gtz_ne {b : Int} (h : 0 ≤ b) : (RV.bool (decide (b ≠ 0))).Is (.bool (decide (0 < b))) := by
  show _ = Value.bool _
  congr 1
  rw [decide_eq_decide]
  omega
theorem nw_end {h₀ h : Heap} {L : Addr} {j k : Nat} {all news : List (Addr × Obj)} (N : News h₀ L h all) (e : all.drop k = news) : News h₀ L h (news ++ all.take j) := nw_cut j k N e
theorem rows_Lr1_1 : True := by
  k_with_none
  k_with "EP" => (k_whole; fail_if_success (fail_if_success (rename Below _ _ _ _ => b9_z)))
  k_with "call ref" => (k_here; k_dflt (refine' lmade_ok _ _ _ _ _ _ _ _ _ _ _ _ _ _ _ _ _ _ _ _ _ _ _ _ _ _ _ _ _ _ _ _ _ _ _ _ _ _ _ ?kB ?kF ?kX ?kN ?kT ?kK ?kd ?ku ?q0 ?q1 ?q2 ?q3 ?q4 ?q5 ?q6 ?_; (case kB => k_asm); (case kF => k_asm); (case kX => k_asm); (case kN => k_asm); (case kT => k_asm); (case kK => first | exact rfl | assumption); (case kd => ktr_room); (case ku => ktr_units); (case q0 => k_mem); (case q1 => assumption); (case q2 => assumption); (case q3 => assumption); (case q4 => assumption); (case q5 => assumption); (case q6 => first | assumption | omega); k_whole); intro D_z zs_z kz_z h'_z tk'_z hz_z hlt_z F'_z N'_z; (try k_sweep); (try k_lt hlt_z))
  k_with "subscriptTail Name Name ref int" => (k_here; (with_reducible show wpAny _ _ (subscriptTail _ _ (Value.ref _) (Value.int _ _)) _ _ _); k_dflt (refine' kv_sub ?k1 ?k2 ?k4 ?k5 ?k6 ?_ ?k7; (case k1 => k_asm); (case k2 => k_mem); (case k4 => first | omega | l_fact); (case k5 => first | omega | l_fact); (case k6 => first | omega | l_fact); (case k7 => with_unfolding_all rfl); k_whole))
  k_with "subscriptTail Name Name ref int" => (k_here; (with_reducible show wpAny _ _ (subscriptTail _ _ (Value.ref _) (Value.int _ _)) _ _ _); k_dflt (refine' kv_subE ?k1 ?k2 ?k4 ?k5 ?k6 ?k8 ?_ ?k7; (case k1 => k_asm); (case k2 => k_mem); (case k4 => assumption); (case k5 => omega); (case k6 => omega); (case k8 => assumption); (case k7 => with_unfolding_all rfl); k_whole))
  k_with "subscriptTail Name Name ref int" => (k_here; (with_reducible show wpAny _ _ (subscriptTail _ _ (Value.ref 510) (Value.int _ _)) _ _ _); k_dflt (refine' cst_sub ?k1 ?k2 ?k3 ?k4 ?_; (case k1 => first | assumption | (constructor <;> omega)); (case k2 => k_asm); (case k3 => k_asm); (case k4 => with_unfolding_all rfl); k_whole); intro _ _)
  k_with "subscriptTail Name Constant ref int" => (k_here; (with_reducible show wpAny _ _ (subscriptTail _ _ (Value.ref _) (Value.int _ _)) _ _ _); k_dflt (refine' kv_subE ?k1 ?k2 ?k4 ?k5 ?k6 ?k8 ?_ ?k7; (case k1 => k_asm); (case k2 => k_mem); (case k4 => decide); (case k5 => (simp only [List.length_cons, List.length_nil]; omega)); (case k6 => decide); (case k8 => exact rfl); (case k7 => with_unfolding_all rfl); k_whole))
  k_with "setItem ref int" => (k_here; (with_reducible show wpAny _ _ (setItem (Value.ref _) (Value.int _ _) _) _ _ _); k_dflt (refine' kv_set ?k1 ?k2 ?k3 ?k4 ?k5 ?k6 ?_; (case k1 => k_asm); (case k2 => k_asm); (case k3 => k_upd); (case k4 => first | omega | l_fact); (case k5 => (try simp only [List.length_set]); first | omega | l_fact); (case k6 => first | omega | l_fact); k_whole; intro h'_z F'_z N'_z; (try k_sweep)))
  k_with "setItem ref" => walk_at "setItem ref int"
  k_with "subscriptTail Name Slice ref ref" => (k_here; (with_reducible show wpAny _ _ (subscriptTail _ (PySem.Expr.Slice _ _ _ _) (Value.ref _) (Value.ref _)) _ _ _); k_dflt (refine' kmk_slice_lit ?k1 ?k2 ?k3 ?k4 ?k5 ?k6 ?_ ?k7 ?k8 ?k9; (case k1 => k_asm); (case k2 => k_asm); (case k3 => kmk_list); (case k4 => kmk_part); (case k5 => kmk_part); (case k6 => first | exact kv_all _ | exact kv_upto _ (by omega) | exact kv_run _ (by omega) (by omega)); (case k7 => with_unfolding_all rfl); (case k8 => kmk_pure); (case k9 => first | exact kv_size (by assumption) (by simp only [sizeLine_eq]; omega) | exact Nat.le_of_ble_eq_true rfl); k_whole); intro D_z h'_z F'_z N'_z l1_z; (try k_lt l1_z); (try k_sweep))
  k_with "binaryOp Mult ref int" => (k_here; (with_reducible show wpAny _ _ (binaryOp _ (Value.ref _) (Value.int _ _)) _ _ _); k_dflt (refine' kv_mul12 ?F ?N ?a ?_; (case F => k_asm); (case N => k_asm); (case a => k_mem); k_whole); intro D_z h'_z F'_z N'_z l1_z; (try k_lt l1_z); (try k_sweep))
  k_with "binaryOp Add ref ref" => (k_here; (with_reducible show wpAny _ _ (binaryOp _ (Value.ref _) (Value.ref _)) _ _ _); k_dflt (refine' kv_add ?F ?N ?a ?b ?z ?_; (case F => k_asm); (case N => k_asm); (case a => k_mem); (case b => k_mem); (case z => ((try simp only [List.length_append, List.length_cons, List.length_nil, List.length_replicate]); omega)); k_whole); intro D_z h'_z F'_z N'_z l1_z; (try k_lt l1_z); (try k_sweep))
  k_with "compareOp Eq ref ref" => (k_here; k_dflt (refine' eq_nil_yes ?k1 ?k2 ?k3 ?_; (case k1 => exact new_isL (k := _) (by k_asm) (by k_mem)); (case k2 => exact new_isL (k := _) (by k_asm) (by k_mem)); (case k3 => first | units_room | ktr_units); k_whole))
  k_with "compareOp Eq ref ref" => (k_here; k_dflt (refine' eq_nil_no ?k1 ?k2 ?k3 ?_; (case k1 => exact new_isL (k := _) (by k_asm) (by k_mem)); (case k2 => exact new_isL (k := _) (by k_asm) (by k_mem)); (case k3 => first | units_room | ktr_units); k_whole))
  k_with "compareOp Eq ref ref" => ((rename MadeIs _ _ => mm_z); refine Stop.un ?_)
  k_with "exec While" => (refine Stop.un ?_)
  k_with "WStepN" => ((first | refine wstep_brk ?_ | refine wstep_ret ?_); (try dsimp only))
  trivial
theorem lrun_ok : ∀ (w : World) (p : Program) (loose : List Str) (mean : ExcName → Option Value) (mg mb : Str → Option Value) (dp un : Nat) (gd : Option (List Code)) (cn : Str) (cs : Scope) (a : Addr) (ccd : Value) (cl : List (Str × Addr)) (outer : List Env) (A₀ : Around) (base h₀ : Heap) (L : Addr) (m : Str → Option Value) (s : Shared) (Q E : Value → Shared → Prop) (news : List (Addr × Obj)) (rl ro : Addr) (kr kg : Nat) (rvs vs : List Value) (rows : List R) (xs : List RV) (wd : Int) (tw : Tok), Below A₀ base outer h₀ → Fr h₀ L s.heap m → (Kf w.params).In h₀ → News h₀ L s.heap (news) → Top p loose mean mg mb h₀ → cs.kind = .function → dp + 6 < recursionLimit → un + 48 < cLine → ((rl, listOf rvs.toArray kr) ∈ news) → ((ro, listOf vs.toArray kg) ∈ news) → (RowsIn news rows rvs) → (RVs xs vs) → (xs.length = 5) → (∀ x ∈ xs, okV x) → (okRows rows) → (1 ≤ wd ∧ wd ≤ 17) → (∀ (T : Addr) (outL : List (Addr × Obj)) (h' : Heap) (tk' : Nat), (OutL (runL rows wd rows.length 0 (xs ++ List.replicate 12 .none)) T outL) → Fr h₀ L h' m → News h₀ L h' (news ++ outL) → Q (.ref T) { s with heap := h', toks := tk' }) → wpAny (model PySem.Challenge.rw_pc0174_01.row.prog w) (ktrTop dp un gd cn cs L a ccd cl outer) (call (.ref 583) [.ref rl, .ref ro, .int wd tw]) Q E s := by
  k_fill
  refine (?k1k : KBcx ?f1f); refine ep_cx ?_; apply (?f1f _ _ _ _ _ _ _ _ _ _ _ _ _ _ _ _ _ _ _ _ _ _ _); (try any_goals exact default); intros w p loose mean mg mb dp un gd cn cs a ccd cl outer A₀ base h₀ L m s Q E; refine Bx.mk ?_
  refine (?k2k : KB11 ?f2f); refine ep11 (by repeat' (first | infer_instance | exact ne_world | exact ne_shared | exact ne_around | exact ⟨.none⟩ | exact ⟨⟨0, 0, 0, 0⟩⟩ | refine ne_prod ?_ ?_)) ?_; apply (?f2f _ _ _ _ _ _ _ _ _ _ _); (try any_goals exact default); intros news rl ro kr kg rvs vs rows xs wd tw; refine Bx.mk ?_
  intro B F X N T hck hd9 hu9 hm1 hm2 hro hx hxl hok hrows hw hret
  have hl := hx.length
  rw [hxl] at hl
  replace N := news_put (news_put N hm2) (.tail _ hm1)
  refine wpAny_call ?_
  k_dflt cell_enter
  k_steps
  refine Stop.mk ?_
  (rename Fr _ _ _ _ => lF'); (rename News _ _ _ _ => lN')
  have lN2 := nw_loop lN'
  clear lN'
  obtain ⟨-, -, -, hlr, -, hln⟩ := l1_z
  have hrD : @Ne Nat rl D_z := Nat.ne_of_lt hlr
  have hnD := allLt_ne hln
  refine While_ofN [Str.ofString "at", Str.ofString "name", Str.ofString "a", Str.ofString "b", Str.ofString "c", Str.ofString "here", Str.ofString "found"] (fun i g nw => ∃ (pc : Int) (tp : Tok) (vs' : List Value) (ys : List RV), g (Str.ofString "at") = some (.int pc tp) ∧ nw = (D_z, listOf vs'.toArray 0) :: (rl, listOf rvs.toArray kr) :: news ∧ RVs ys vs' ∧ InvL rows wd (xs ++ List.replicate 12 .none) pc ys ∧ i = (rows.length - pc).toNat) lF' lN2 ⟨0, _, _, _, rfl, rfl, RVs.append hx nones_is, InvL.start hrows (by rw [List.length_append, hxl]; rfl) (pad_ok hok), rfl⟩ ?turn
  clear lF' lN2 hx hxl hok N
  intro n g nW h₁ tk₁ F1 N1 hj
  obtain ⟨pc, tp, vs', ys, e1, rfl, hys, hinv, rfl⟩ := hj
  revert pc tp vs' ys
  refine (?k3k : KB4 ?f3f); refine ep4 (by repeat' (first | infer_instance | exact ne_world | exact ne_shared | exact ne_around | exact ⟨.none⟩ | exact ⟨⟨0, 0, 0, 0⟩⟩ | refine ne_prod ?_ ?_)) ?_; apply (?f3f _ _ _ _); (try any_goals exact default); intros pc tp vs' ys; refine Bx.mk ?_
  set_option tactic.hygienic false in intros
  simp only [over, e1] at F1
  obtain ⟨hyl, hyo, hp0, hp1⟩ := hinv.bd
  have hvl := hys.length
  rw [hyl] at hvl
  have hro' := RowsIn.length hro
  have hlen := okRows_len hrows
  obtain ⟨ta, t0, t1, t2, t3, hta, hmem⟩ := RowsIn.get pc hro hp0 hp1
  revert ta t0 t1 t2 t3
  intro ta t0 t1 t2 t3
  set_option tactic.hygienic false in intros
  have htD : @Ne Nat ta D_z := hnD _ hmem
  replace N1 := news_put N1 (.tail _ (.tail _ hmem))
  unfold rowObj at N1
  have hat := okRows_at hrows hp0 hp1
  generalize hrr : rowAt rows pc = r at N1 hat
  obtain ⟨rt, ra, rb, rc⟩ := r
  revert rt ra rb rc
  intro rt ra rb rc
  set_option tactic.hygienic false in intros
  dsimp only at N1
  rcases hat with ⟨hq, he⟩ | ⟨hq, hR⟩
  · cases he
    have e0 := bne_of_t nm_ret
    k_steps
    (rename News h₀ L _ _ => lN)
    refine hret _ _ _ _ ?_ (by k_asm) (nw_end (j := 2) (k := 5) lN rfl)
    rw [hinv.ret (congrArg R.t hrr)]
    exact ⟨_, _, _, _, rfl, hys.take 5⟩
  · have hR0 := hR
    unfold okR at hR
    dsimp only at hR
    rcases hR with ⟨rfl, ha, hb, hc⟩ | ⟨rfl, ha, hb, hc⟩ | ⟨rfl, ha, hb, hc, hn⟩ | hR
    · obtain ⟨e1, e2⟩ := nm_mv
      have e0 := bne_of_f e1
      have ha' : 0 ≤ ra ∧ ra < 17 := by omega
      clear ha
      k_steps
      (rename News _ _ _ _ => lN); (rename Fr _ _ _ _ => lF)
      have hst := hinv.step hw.1 hw.2 hrows hq hrr st_mv
      rw [sh_mv] at hst
      refine wstep_next lF (news_tl (news_tl lN)) hst.2 (by repeat (first | exact fun _ _ => rfl | refine keep_if (by k_mem) ?_)) ⟨_, _, _, _, rfl, rfl, hys.set _ (hys.getD _), hst.1, rfl⟩
    · obtain ⟨e1, e2, e3⟩ := nm_lk
      have e0 := bne_of_f e1
      k_steps
      (rename News _ _ _ _ => lN); (rename Fr _ _ _ _ => lF)
      have hst := hinv.step hw.1 hw.2 hrows hq hrr st_lk
      rw [sh_lk] at hst
      refine wstep_next lF (news_tl (news_tl lN)) hst.2 (by repeat (first | exact fun _ _ => rfl | refine keep_if (by k_mem) ?_)) ⟨_, _, _, _, rfl, rfl, hys.set _ (by assumption), hst.1, rfl⟩
    · obtain ⟨e1, e2, e3, e4⟩ := nm_lb
      have e0 := bne_of_f e1
      clear hn
      k_steps
      · have hst := hinv.step hw.1 hw.2 hrows hq hrr st_lb
        rw [sh_lb (by omega)] at hst
        (rename News _ _ _ _ => lN); (rename Fr _ _ _ _ => lF)
        refine wstep_next lF (news_tl (news_tl lN)) (by rw [show pc + 1 + 1 = pc + 2 by omega]; exact hst.2) (by repeat (first | exact fun _ _ => rfl | refine keep_if (by k_mem) ?_)) ⟨_, _, _, _, rfl, rfl, hys.set _ (gtz_ne hb.1), by rw [show pc + 1 + 1 = pc + 2 by omega]; exact hst.1, rfl⟩
      · have hst := hinv.step hw.1 hw.2 hrows hq hrr st_lb
        rw [sh_lb0 (by omega)] at hst
        (rename News _ _ _ _ => lN); (rename Fr _ _ _ _ => lF)
        refine wstep_next lF (news_tl (news_tl lN)) (by rw [Int.add_zero]; exact hst.2) (by repeat (first | exact fun _ _ => rfl | refine keep_if (by k_mem) ?_)) ⟨_, _, _, _, rfl, rfl, hys.set _ (gtz_ne hb.1), by rw [Int.add_zero]; exact hst.1, rfl⟩
    · have h12 : 12 ≤ rt ∧ rt ≤ 21 := by
        rcases hR with h | h | h
        · exact ⟨h.1.1, by omega⟩
        · exact ⟨by omega, by omega⟩
        · exact ⟨by omega, by omega⟩
      have hra : 0 ≤ ra ∧ ra < 5 := by
        rcases hR with h | h | h
        · exact h.2.1
        · exact h.2.1
        · exact h.2.1
      clear hR
      obtain ⟨e1, e2, e3, e4, e5⟩ := nm_els h12
      have e0 := bne_of_f e1
      have hR9 : okR (prevAt rows pc) ⟨rt, ra, rb, rc⟩ (rowAt rows (pc + 1)) := hR0
      generalize prevAt rows pc = pr9 at hR9
      generalize rowAt rows (pc + 1) = rn9 at hR9
      have h12a := h12.1
      k_steps
      refine Stop.mk ?_
      generalize hmo : madeO wd rt rb rc ys = mo at mm_z
      cases mo with
      | none =>
        have hzs : zs_z = [] := mm_z
        subst hzs
        all_goals (try (revert v; intro v; (set_option tactic.hygienic false in intros)))
        clear mm_z
        k_steps
        (rename News h₀ L _ _ => lN)
        have hst := hinv.stop hrows hq hrr (by rw [stepL_made h12a, hmo]; rfl)
        refine hret _ _ _ _ ?_ (by k_asm) (nw_end (j := 1) (k := 7) lN rfl)
        rw [hst]
        exact ⟨_, _, rfl⟩
      | some x =>
        revert x
        intro x
        set_option tactic.hygienic false in intros
        obtain ⟨v, hzs, hxv⟩ := mm_z
        subst hzs
        all_goals (try (revert v; intro v; (set_option tactic.hygienic false in intros)))
        k_steps
        (rename News _ _ _ _ => lN); (rename Fr _ _ _ _ => lF)
        have hst := hinv.step hw.1 hw.2 hrows hq hrr (zs := ys.set ra.toNat x) (by rw [stepL_made h12a, hmo]; rfl)
        rw [sh_els h12a] at hst
        refine wstep_next lF (fun q hq => lN q (.tail _ (.tail _ (.tail _ (.tail _ hq))))) hst.2 (by repeat (first | exact fun _ _ => rfl | refine keep_if (by k_mem) ?_)) ⟨_, _, _, _, rfl, rfl, hys.set _ hxv, hst.1, rfl⟩

end Mine
end
section
open PySem PySem.W PyProof.Rows PySem.Calls PySem.Spec
namespace Mine
theorem fr_kk {h₀ h h' : Heap} {L e it : Addr} {m : Str → Option Value} (F : Fr h₀ L h m) (kk : ∀ b o, b ∉ [e, it] → h.get? b = some o → h'.get? b = some o) (h1 : L ≠ e ∧ L ≠ it) (h2 : h₀.get? e = none ∧ h₀.get? it = none) : Fr h₀ L h' m :=
  ⟨F.ns.at' fun o x => kk L o (by simp [h1.1, h1.2]) x, fun b o x => kk b o (fun hm => by
    rcases List.mem_cons.mp hm with rfl | hm
    · rw [h2.1] at x; cases x
    · rw [List.mem_singleton.mp hm, h2.2] at x; cases x) (F.keep b o x), F.above⟩
theorem news_kk {h₀ h h' : Heap} {L e it : Addr} {news : List (Addr × Obj)} (N : News h₀ L h news) (kk : ∀ b o, b ∉ [e, it] → h.get? b = some o → h'.get? b = some o) (off : ∀ p ∈ news, p.1 ≠ e ∧ p.1 ≠ it) : News h₀ L h' news :=
  fun p hp => ⟨kk _ _ (by simp [(off p hp).1, (off p hp).2]) (N p hp).1, (N p hp).2⟩
def Off4 (e it C D : Addr) (news : List (Addr × Obj)) : Prop := ∀ p ∈ news, (p.1 ≠ e ∧ p.1 ≠ it) ∧ p.1 ≠ C ∧ p.1 ≠ D
def EnEnd (h₀ : Heap) (L : Addr) (m : Str → Option Value) (s : Shared) (e it C D : Addr) (oe oi oC oD : Obj) (news : List (Addr × Obj)) (J : Value → List (Addr × Obj) → Prop) (y : Value) (s' : Shared) : Prop :=
  ∃ h' tk' news', s' = { s with heap := h', toks := tk' } ∧ Fr h₀ L h' m ∧ News h₀ L h' ((e, oe) :: (it, oi) :: (C, oC) :: (D, oD) :: news') ∧ Off4 e it C D news' ∧ (∀ p ∈ news, p ∈ news') ∧ J y news'
theorem EnEnd.intro {h₀ : Heap} {L : Addr} {m : Str → Option Value} {s : Shared} {e it C D : Addr} {oe oi oC oD : Obj} {news : List (Addr × Obj)} {J : Value → List (Addr × Obj) → Prop} {y : Value} {h' : Heap} {tk' : Nat} {a : Addr} {o : Obj} (F : Fr h₀ L h' m) (N : News h₀ L h' ((a, o) :: (e, oe) :: (it, oi) :: (C, oC) :: (D, oD) :: news)) (off : Off4 e it C D news) (ha : (@Ne Nat a e ∧ @Ne Nat a it) ∧ @Ne Nat a C ∧ @Ne Nat a D) (hJ : J y ((a, o) :: news)) : EnEnd h₀ L m s e it C D oe oi oC oD news J y { s with heap := h', toks := tk' } :=
  ⟨h', tk', (a, o) :: news, rfl, F, fun p hp => N p (by
    simp only [List.mem_cons] at hp ⊢
    rcases hp with h | h | h | h | h | h
    · exact .inr (.inl h)
    · exact .inr (.inr (.inl h))
    · exact .inr (.inr (.inr (.inl h)))
    · exact .inr (.inr (.inr (.inr (.inl h))))
    · exact .inl h
    · exact .inr (.inr (.inr (.inr (.inr h))))), fun p hp => by
    rcases List.mem_cons.mp hp with rfl | hp
    · exact ha
    · exact off p hp, fun _ hp => .tail _ hp, hJ⟩
section
variable (prog : Program) (w : World) (A : Around) (h₀ : Heap) (L : Addr) (m : Str → Option Value) (env : Env) (elt : PySem.Expr) (x x₂ : Str) (scope : Scope) (cl : List (Str × Addr))
def EnTurn (s : Shared) (vs : List Value) (J : Nat → List Value → List (Addr × Obj) → Prop) : Prop :=
  ∀ i ys news v t e it C D oe oi oC m₂ h tk (E' : Value → Shared → Prop), i < vs.length → vs[i]? = some v → J i ys news → LCg.NsObj oC m₂ → m₂ x = some (.int (i : Int) t) → m₂ x₂ = some v → Fr h₀ L h m → News h₀ L h ((e, oe) :: (it, oi) :: (C, oC) :: (D, LCg.lst ys) :: news) → Off4 e it C D news →
    wpAny (model prog w) A (eval elt (compEnvC scope cl C env)) (EnEnd h₀ L m s e it C D oe oi oC (LCg.lst ys) news (fun y news' => J (i + 1) (ys ++ [y]) news')) E' { s with heap := h, toks := tk }
def SrcEn (Fin : Shared → List Value → List (Addr × Obj) → Prop) (xv : Value) (s₁ : Shared) : Prop :=
  ∃ e it l vs n news, xv = .ref e ∧ A.handled = none ∧ Fr h₀ L s₁.heap m ∧ News h₀ L s₁.heap news ∧ (IsEnum s₁.heap e it 0 .none ∧ s₁.heap.IsListIter it l 0) ∧ (l, listOf vs.toArray n) ∈ news ∧ (e ≠ it ∧ L ≠ e ∧ L ≠ it) ∧ (h₀.get? e = none ∧ h₀.get? it = none) ∧ (∀ p ∈ news, p.1 ≠ e ∧ p.1 ≠ it) ∧ (e < s₁.heap.objs.size ∧ it < s₁.heap.objs.size) ∧ vs.length ≤ 1000 ∧
    ∃ J : Nat → List Value → List (Addr × Obj) → Prop, J 0 [] news ∧ EnTurn prog w A h₀ L m env elt x x₂ scope cl s₁ vs J ∧ ∀ ys news', J vs.length ys news' → Fin s₁ ys news'
end
section
variable {prog : Program} {w : World} {A : Around} {E : Value → Shared → Prop} {s : Shared} {h₀ : Heap} {L : Addr} {m : Str → Option Value} {env : Env} {elt : PySem.Expr} {x x₂ : Str} {scope : Scope} {cl : List (Str × Addr)}
theorem call_enum {Fin : Shared → List Value → List (Addr × Obj) → Prop} {l : Addr} {vs : List Value} {n : Nat} {news : List (Addr × Obj)} (hh : A.handled = none) (F : Fr h₀ L s.heap m) (N : News h₀ L s.heap news) (hm : (l, listOf vs.toArray n) ∈ news) (hz : vs.length ≤ 1000)
    (h : ∀ g, ∃ J : Nat → List Value → List (Addr × Obj) → Prop, J 0 [] news ∧ EnTurn prog w A h₀ L m env elt x x₂ scope cl { s with heap := g } vs J ∧ ∀ ys news', J vs.length ys news' → Fin { s with heap := g } ys news') :
    wpAny (model prog w) A (call (.type "enumerate") [.ref l]) (SrcEn prog w A h₀ L m env elt x x₂ scope cl Fin) E s := by
  have hl : s.heap.IsList l vs.toArray := PySem.IsL.isList (n := n) (N _ hm).1
  refine call_enumerate_list hl fun h' hE hI hsz hk => ?_
  have fresh : ∀ a, s.heap.objs.size ≤ a → h₀.get? a = none := fun a ha => Heap.get?_none_of_le (Nat.le_trans F.above (Nat.le_trans (Nat.le_of_lt F.ns.lt) ha))
  have hLs := F.ns.lt
  refine ⟨_, _, l, vs, n, news, rfl, hh, F.keeps hk, N.grown hk, ⟨hE, hI⟩, hm, ⟨Nat.succ_ne_self _, Nat.ne_of_lt (Nat.lt_succ_of_lt hLs), Nat.ne_of_lt hLs⟩, ⟨fresh _ (Nat.le_succ _), fresh _ (Nat.le_refl _)⟩, fun p hp => ?_, ?_, hz, h h'⟩
  · have := Heap.lt_size (N p hp).1
    exact ⟨Nat.ne_of_lt (Nat.lt_succ_of_lt this), Nat.ne_of_lt this⟩
  · show _ < h'.objs.size ∧ _ < h'.objs.size
    rw [hsz]
    exact ⟨Nat.lt_succ_self _, Nat.lt_succ_of_lt (Nat.lt_succ_self _)⟩
theorem Assign_ListComp_En {iter : PySem.Expr} {y : Str} {py px px₂ tp : Pos} {tk : Nat} {pos spos : Pos} {Q : Flow → Shared → Prop} (F₀ : Fr h₀ L s.heap m) (hLe : env.locals = L)
    (hsw : swapsWith (.ListComp elt [⟨.Tuple [.Name x px, .Name x₂ px₂] tk tp, iter, [], 0⟩] scope pos) (some (.Name y py)) spos.line env = pure true)
    (hclos : closureFor scope env = pure cl) (hcell : ∀ y ∈ scope.names, y.2 ≠ .cell) (hkind : scope.kind = .function)
    (hnames : ∀ y ∈ scope.names, y.2 = .local → scope.names.lookup y.1 = some .local) (hx : scope.names.lookup x = some .local) (hx₂ : scope.names.lookup x₂ = some .local) (hxx : x ≠ x₂)
    (hy : env.kindOf y = some .local) (hp : (env.scope.kind == .class || (env.scope.kind == .module && env.locals != env.globals)) = false)
    (h : wpAny (model prog w) A (eval iter env) (SrcEn prog w A h₀ L m env elt x x₂ scope cl (fun s₂ => LCg.FinA h₀ L m s₂ y Q)) E s)
    (hs : ∀ x, foldedSetIterable iter env x = pure x := by intro _; rfl) :
    wpAny (model prog w) A (exec (.Assign [.Name y py] (.ListComp elt [⟨.Tuple [.Name x px, .Name x₂ px₂] tk tp, iter, [], 0⟩] scope pos) spos) env) Q E s := by
  revert F₀ hLe hsw hclos hcell hkind hnames hx hx₂ hxx hy hp h hs
  revert prog w A E s h₀ L m env elt x x₂ scope cl iter y py px px₂ tp tk pos spos Q
  refine (?k561k : KB12 ?f561f); refine ep12 (by repeat' (first | infer_instance | exact ne_world | exact ne_shared | exact ne_around | exact ⟨.none⟩ | exact ⟨⟨0, 0, 0, 0⟩⟩ | refine ne_prod ?_ ?_)) ?_; apply (?f561f _ _ _ _ _ _ _ _ _ _ _ _); (try any_goals exact default); intros prog w A E s h₀ L m env elt x x₂; refine Bx.mk ?_; refine (?k562k : KB12 ?f562f); refine ep12 (by repeat' (first | infer_instance | exact ne_world | exact ne_shared | exact ne_around | exact ⟨.none⟩ | exact ⟨⟨0, 0, 0, 0⟩⟩ | refine ne_prod ?_ ?_)) ?_; apply (?f562f _ _ _ _ _ _ _ _ _ _ _ _); (try any_goals exact default); intros scope cl iter y py px px₂ tp tk pos spos Q; refine Bx.mk ?_
  intro F₀ hLe hsw hclos hcell hkind hnames hx hx₂ hxx hy hp h hs
  subst hLe
  rw [exec_Assign_Name_used _ _ _ _ hsw]
  refine wpAny_bind (wpAny_standAt (wpAny_bind ?_))
  show wpAny _ A (do let _ ← comprehension (.ListComp elt [⟨.Tuple [.Name x px, .Name x₂ px₂] tk tp, iter, [], 0⟩] scope pos) scope env _ (newList []) false (eval iter env) (some (assign (.Name y py) env))) _ _ s
  refine wpAny_bind (wpAny_mono (wpAny_comprehension_free (use := some (assign (.Name y py) env)) (Q := fun _ s' => Q .next s') rfl hs hclos hkind hnames
    (wpAny_mono h (fun xv s₁ h₁ => ?_) fun _ _ e => e)) (fun _ s' hq => wpAny_pure (wpAny_pure hq)) fun _ _ e => e)
  obtain ⟨e, it, l, vs, n, news, rfl, hh, F, N, ⟨hE, hI⟩, hm, ⟨hei, hLe, hLi⟩, ⟨he0, hi0⟩, off, ⟨hes, his⟩, hz, J, J0, turn, fin⟩ := h₁
  revert hh F N hE hI hm hei hLe hLi he0 hi0 off hes his hz J0 turn fin
  revert s₁ e it l vs n news J
  refine (?k563k : KB8 ?f563f); refine ep8 (by repeat' (first | infer_instance | exact ne_world | exact ne_shared | exact ne_around | exact ⟨.none⟩ | exact ⟨⟨0, 0, 0, 0⟩⟩ | refine ne_prod ?_ ?_)) ?_; apply (?f563f _ _ _ _ _ _ _ _); (try any_goals exact default); intros s₁ e it l vs n news J; refine Bx.mk ?_
  intro hh F N hE hI hm hei hLe hLi he0 hi0 off hes his hz J0 turn fin
  refine wpAny_pyIter_enum hE ?_
  have hl : s₁.heap.IsList l vs.toArray := PySem.IsL.isList (n := n) (N _ hm).1
  have hle := (off _ hm).1
  have hli := (off _ hm).2
  have W := (WalksT.enumerate (prog := prog) (w := w) (A := A) hh e it l hei hle hli vs.toArray).toU
  refine wpAny_newObj_type (wpAny_newFunctionEnv hcell (by intro y hy; simp at hy) (fun h₁ hns₁ hsb₁ => ?_) hkind)
  dsimp only at hns₁ hsb₁ ⊢
  obtain ⟨D, hD⟩ : ∃ D, D = s₁.heap.objs.size := ⟨_, rfl⟩
  rw [← hD]
  obtain ⟨C, hC⟩ : ∃ C, C = (s₁.heap.push { cls := .type "list", data := .seq #[] }).objs.size := ⟨_, rfl⟩
  rw [← hC] at hns₁ hsb₁ ⊢
  revert hns₁ hsb₁ hD hC
  revert h₁ D C
  refine (?k564k : KB3 ?f564f); refine ep3 (by repeat' (first | infer_instance | exact ne_world | exact ne_shared | exact ne_around | exact ⟨.none⟩ | exact ⟨⟨0, 0, 0, 0⟩⟩ | refine ne_prod ?_ ?_)) ?_; apply (?f564f _ _ _); (try any_goals exact default); intros h₁ D C; refine Bx.mk ?_
  set_option tactic.hygienic false in intros
  have hCD : C = D + 1 := by rw [hC, hD, Heap.size_push]
  have old : ∀ b o, s₁.heap.get? b = some o → h₁.get? b = some o := fun b o q => hsb₁.extBut b o (by have := Heap.lt_size q; show b ≠ C; rw [hCD]; exact Nat.ne_of_lt (Nat.lt_succ_of_lt (hD ▸ this))) (Heap.get?_push_of_some _ (Heap.get?_push_of_some _ q))
  have hDo : h₁.get? D = some (LCg.lst []) := hsb₁.extBut _ _ (by show D ≠ C; rw [hCD]; exact Nat.ne_of_lt (Nat.lt_succ_self _)) (Heap.get?_push_of_some _ (hD ▸ Heap.get?_push_size (o := { cls := .type "list", data := .seq #[] }) _ rfl))
  have fresh : ∀ a, D ≤ a → h₀.get? a = none := fun a ha => Heap.get?_none_of_le (Nat.le_trans F.above (Nat.le_trans (Nat.le_of_lt F.ns.lt) (hD ▸ ha)))
  have hD₀ := fresh D (Nat.le_refl _)
  have hC₀ := fresh C (by rw [hCD]; exact Nat.le_succ _)
  have lo : ∀ a, a < s₁.heap.objs.size → a ≠ C ∧ a ≠ D := fun a ha => by
    rw [← hD] at ha
    exact ⟨by rw [hCD]; exact Nat.ne_of_lt (Nat.lt_succ_of_lt ha), Nat.ne_of_lt ha⟩
  have hL := lo env.locals F.ns.lt
  have hE' := lo e hes
  have hI' := lo it his
  have hl' := lo l (Heap.lt_size (N _ hm).1)
  have hCDn : C ≠ D := by rw [hCD]; exact Nat.succ_ne_self _
  have stI : ∀ {i : Nat} {h h' : Heap}, ((∃ ol, IsEnum h e it i ol) ∧ h.IsListIter it l i ∧ h.IsList l vs.toArray) → (∀ b, b = e ∨ b = it ∨ b = l → ∀ o, h.get? b = some o → h'.get? b = some o) → ((∃ ol, IsEnum h' e it i ol) ∧ h'.IsListIter it l i ∧ h'.IsList l vs.toArray) := fun {i h h'} st k => W.frame i h h' st fun b hb o q => k b (by simpa using hb) o q
  have loop : ∀ tk', codeAny (model prog w) A (.compLoop (.ListComp elt [⟨.Tuple [.Name x px, .Name x₂ px₂] tk tp, iter, [], 0⟩] scope pos) 0 (.ref e) (.ref D) (compEnvC scope cl C env)) (compPost (model prog w) A E (some (assign (.Name y py) env)) (fun _ s' => Q .next s') (.ref D) C) { s₁ with heap := h₁, toks := tk' } := fun tk' => by
    refine LCp.codeAny_compLoop_pair
      (fun k s' => ∃ h' tk i ys m' nw, s' = { s₁ with heap := h', toks := tk } ∧ i ≤ vs.length ∧ k = vs.length + 1 - i ∧ ys.length = i ∧ ((∃ ol, IsEnum h' e it i ol) ∧ h'.IsListIter it l i ∧ h'.IsList l vs.toArray) ∧ Fr h₀ env.locals h' m ∧ h'.Ns C m' ∧ News h₀ env.locals h' ((D, LCg.lst ys) :: nw) ∧ Off4 e it C D nw ∧ (l, listOf vs.toArray n) ∈ nw ∧ J i ys nw) ?_ (vs.length + 1)
      ⟨h₁, _, 0, [], _, news, rfl, Nat.zero_le _, rfl, rfl, stI ⟨⟨_, hE⟩, hI, hl⟩ fun b _ o q => old b o q, F.keeps old, hns₁, fun p hp => ?_, fun p hp => ⟨off p hp, lo _ (Heap.lt_size (N p hp).1)⟩, hm, J0⟩
    · rintro k s' ⟨h', tk₁, i, ys, m', nw, rfl, hi, rfl, hyl, hst, F', hn', N', off', hm', hJ⟩
      revert hi hyl hst F' hn' N' off' hm' hJ
      revert h' tk₁ i ys m' nw
      refine (?k565k : KB6 ?f565f); refine ep6 (by repeat' (first | infer_instance | exact ne_world | exact ne_shared | exact ne_around | exact ⟨.none⟩ | exact ⟨⟨0, 0, 0, 0⟩⟩ | refine ne_prod ?_ ?_)) ?_; apply (?f565f _ _ _ _ _ _); (try any_goals exact default); intros h' tk₁ i ys m' nw; refine Bx.mk ?_
      intro hi hyl hst F' hn' N' off' hm' hJ
      by_cases hlt : i < vs.length
      · refine W.item i _ _ _ (by rw [List.size_toArray]; exact hlt) hst fun T vals h₂ tk₂ hP hT hmid hk₂ => ?_
        obtain ⟨t, v, hv, rfl⟩ := hP
        refine W.go _ _ _ i T _ _ _ hmid fun h₃ hst₃ hk₃ => ?_
        have hTn := W.apart _ _ _ hmid
        have ht : IsTup h₃ T #[.int (i : Int) t, v] := by
          obtain ⟨o, q, r⟩ := hT
          exact ⟨o, hk₃ T o hTn q, r⟩
        refine assign_Tuple_tuple hh ht rfl rfl fun h₄ hx₄ => ?_
        have kA : ∀ b o, b ∉ [e, it] → h'.get? b = some o → h₄.get? b = some o := fun b o hb q => (fun q' => hx₄ b o (Nat.ne_of_lt (Heap.lt_size q')) q') (hk₃ b o hb (hk₂ b o hb q))
        have st₄ : ((∃ ol, IsEnum h₄ e it ((i + 1 : Nat) : Int) ol) ∧ h₄.IsListIter it l (i + 1) ∧ h₄.IsList l vs.toArray) := stI hst₃ fun b _ o q => hx₄ b o (Nat.ne_of_lt (Heap.lt_size q)) q
        have n₄ : h₄.Ns C m' := hn'.at' fun o q => kA C o (by simp [Ne.symm hE'.1, Ne.symm hI'.1]) q
        refine assignInOrder_cons (wpAny_assign_Name (wpAny_storeName_local (lookup_relabel_local hx) n₄ (fun h₅ n₅ s₅ => ?_) (by simp [compEnvC, relabel, hkind])))
        refine assignInOrder_cons (wpAny_assign_Name (wpAny_storeName_local (lookup_relabel_local hx₂) n₅ (fun h₆ n₆ s₆ => ?_) (by simp [compEnvC, relabel, hkind])))
        refine assignInOrder_nil ?_
        have kB : ∀ b o, b ≠ C → h₄.get? b = some o → h₆.get? b = some o := fun b o hb q => s₆.extBut b o hb (s₅.extBut b o hb q)
        have F₆ : Fr h₀ env.locals h₆ m := ((fr_kk F' kA ⟨hLe, hLi⟩ ⟨he0, hi0⟩).change s₅ (Ne.symm hL.1) hC₀).change s₆ (Ne.symm hL.1) hC₀
        have st₆ := stI st₄ fun b hb o q => kB b o (hb.elim (fun e' => e' ▸ hE'.1) fun hb => hb.elim (fun e' => e' ▸ hI'.1) fun e' => e' ▸ hl'.1) q
        obtain ⟨oC, gC, nC⟩ := LCg.ns_obj n₆
        obtain ⟨⟨ol, gE⟩, gI, gL⟩ := id st₆
        obtain ⟨oI, gI1, gI2⟩ := id gI
        have N₄ : News h₀ env.locals h₄ ((D, LCg.lst ys) :: nw) := news_kk N' kA fun p hp => by
          rcases List.mem_cons.mp hp with rfl | hp
          · exact ⟨Ne.symm hE'.2, Ne.symm hI'.2⟩
          · exact (off' p hp).1
        have N₆ : News h₀ env.locals h₆ ((e, _) :: (it, oI) :: (C, oC) :: (D, LCg.lst ys) :: nw) := fun p hp => by
          rcases List.mem_cons.mp hp with rfl | hp
          · exact ⟨gE, Ne.symm hLe, he0⟩
          rcases List.mem_cons.mp hp with rfl | hp
          · exact ⟨gI1, Ne.symm hLi, hi0⟩
          rcases List.mem_cons.mp hp with rfl | hp
          · exact ⟨gC, Ne.symm hL.1, hC₀⟩
          · refine ⟨kB _ _ ?_ (N₄ p hp).1, (N₄ p hp).2⟩
            rcases List.mem_cons.mp hp with rfl | hp
            · exact Ne.symm hCDn
            · exact (off' p hp).2.1
        refine wpAny_mono (turn i ys nw v t e it C D _ oI oC _ h₆ _ _ hlt (by simpa using hv) hJ nC (by simp [hxx]) (by simp) F₆ N₆ off') (fun y s₇ h₇ => ?_) fun _ _ q => q
        obtain ⟨h₇, tk₇, nw₇, rfl, F₇, N₇, off₇, sub₇, J₇⟩ := h₇
        have z : ∀ p ∈ (e, _) :: (it, oI) :: (C, oC) :: (D, LCg.lst ys) :: nw₇, h₇.get? p.1 = some p.2 := fun p hp => (N₇ p hp).1
        have zl : h₇.get? l = some (listOf vs.toArray n) := (N₇ _ (.tail _ (.tail _ (.tail _ (.tail _ (sub₇ _ hm')))))).1
        have st₇ := stI st₆ (h' := h₇) fun b hb o q => by
          rcases hb with rfl | rfl | rfl
          · rw [gE] at q; cases q; exact z _ (.head _)
          · rw [gI1] at q; cases q; exact z _ (.tail _ (.head _))
          · have q2 : h₆.get? b = some (listOf vs.toArray n) := (N₆ _ (.tail _ (.tail _ (.tail _ (.tail _ hm'))))).1
            rw [q2] at q; cases q; exact zl
        refine append_at (hsz := by rw [List.size_toArray, sizeLine_eq, hyl]; omega) (z (D, LCg.lst ys) (.tail _ (.tail _ (.tail _ (.head _))))) fun h₈ s₈ g₈ => ?_
        refine ⟨vs.length + 1 - (i + 1), by omega, h₈, tk₇, i + 1, ys ++ [y], _, nw₇, rfl, hlt, rfl, by rw [List.length_append, List.length_singleton, hyl], stI st₇ fun b hb o q => s₈.extBut b o (hb.elim (fun e' => e' ▸ hE'.2) fun hb => hb.elim (fun e' => e' ▸ hI'.2) fun e' => e' ▸ hl'.2) q, F₇.change s₈ (Ne.symm hL.2) hD₀,
          (nC.ns (z (C, oC) (.tail _ (.tail _ (.head _))))).sameBut s₈ hCDn, fun p hp => ?_, off₇, sub₇ _ hm', J₇⟩
        rcases List.mem_cons.mp hp with rfl | hp
        · exact ⟨g₈.trans (congrArg some (LCg.lst_snoc ys y)), Ne.symm hL.2, hD₀⟩
        · have q := N₇ p (.tail _ (.tail _ (.tail _ (.tail _ hp))))
          exact ⟨s₈.extBut _ _ (off₇ p hp).2.2 q.1, q.2⟩
      · obtain rfl : i = vs.length := Nat.le_antisymm hi (Nat.not_lt.mp hlt)
        refine W.done _ _ _ (by rw [List.size_toArray]; exact hst) fun h₂ tk₂ hk₂ => ?_
        have F₂ := fr_kk F' hk₂ ⟨hLe, hLi⟩ ⟨he0, hi0⟩
        have N₂ : News h₀ env.locals h₂ ((D, LCg.lst ys) :: nw) := news_kk N' hk₂ fun p hp => by
          rcases List.mem_cons.mp hp with rfl | hp
          · exact ⟨Ne.symm hE'.2, Ne.symm hI'.2⟩
          · exact (off' p hp).1
        have hn₂ := hn'.at' fun o q => hk₂ C o (by simp [Ne.symm hE'.1, Ne.symm hI'.1]) q
        have o1 := (LCg.Off3.of (I := e) (C := C) fun p hp => ⟨(off' p hp).1.1, (off' p hp).2.1, (off' p hp).2.2⟩).one
        show wpAny _ A (assign (.Name y py) env (.ref D)) _ _ _
        refine wpAny_assign_Name (wpAny_storeName_local hy F₂.ns (fun h₃ hn₃ hs₃ => ?_) hp)
        have hL₀ : h₀.get? env.locals = none := Heap.get?_none_of_le F₂.above
        have F₃ : Fr h₀ env.locals h₃ (fun z => if z = y then some (.ref D) else m z) := ⟨hn₃, fun b o q => hs₃.extBut b o (fun z => by rw [z, hL₀] at q; cases q) (F₂.keep b o q), F₂.above⟩
        refine ⟨m', hn₂.sameBut hs₃ (Ne.symm hL.1), fun h'' hs'' => fin ys nw hJ D h'' _ (F₃.change hs'' (Ne.symm hL.1) hC₀) (fun p hp => ?_) o1⟩
        have z : h₃.get? p.1 = some p.2 := hs₃.extBut _ _ (N₂ p hp).2.1 (N₂ p hp).1
        refine ⟨hs''.extBut _ _ ?_ z, (N₂ p hp).2⟩
        rcases List.mem_cons.mp hp with rfl | hp
        · exact Ne.symm hCDn
        · exact (off' p hp).2.1
    · rcases List.mem_cons.mp hp with rfl | hp
      · exact ⟨hDo, Ne.symm hL.2, hD₀⟩
      · exact ⟨old _ _ (N p hp).1, (N p hp).2⟩
  exact codeAny_compStart_list (loop _) (W.self 0 _ _ _ (stI ⟨⟨_, hE⟩, hI, hl⟩ fun b _ o q => old b o q) (loop _))
end
end Mine
end
section
namespace Mine
def Mark : Prop := True
theorem addMark {p : Prop} (h : Mark → p) : p := h trivial
end Mine
end
section
namespace Mine
local macro_rules | `(tactic| walk_at "REC1") => do
  let mut t ← `(tactic| fail)
  let u ← `(_)
  for k in [1:15] do
    let hs := Array.replicate k u
    let n := Lean.Syntax.mkNumLit (toString k)
    let e := Lean.mkIdent (Lean.Name.mkStr `Mine s!"ep{k}")
    let b := Lean.mkIdent (Lean.Name.mkStr `Mine s!"KB{k}")
    t ← `(tactic| first | ((with_reducible (refine (?k : $b ?f); refine $e (by first | infer_instance | exact default) ?_; apply (?f $hs*); (try any_goals exact default))); (iterate $n (with_reducible (set_option tactic.hygienic false in intro))); refine Mine.Bx.mk ?_) | $t:tactic)
  return t
theorem sub_drop (k : Nat) {all : List (Addr × Obj)} : ∀ q ∈ all.drop k, q ∈ all := fun _ hq => List.mem_of_mem_drop hq
theorem off_cons {I a : Addr} {o : Obj} {r : List (Addr × Obj)} (h : @Ne Nat a I) (t : ∀ q ∈ r, q.1 ≠ I) : ∀ q ∈ (a, o) :: r, q.1 ≠ I := fun q hq => by
  rcases List.mem_cons.mp hq with rfl | hq
  · exact h
  · exact t q hq
section
variable {prog : Program} {w : World} {A : Around} {E : Value → Shared → Prop} {s : Shared} {h₀ : Heap} {L D : Addr} {m : Str → Option Value} {news : List (Addr × Obj)} {vs : List Value} {n : Nat} {k : Int} {u : Tok}
theorem strs_getD : ∀ {vs : List Value} {ss : List Str}, StrsAre vs ss → ∀ i, i < vs.length → ∃ t, vs.getD i .none = .str (ss.getD i (Str.ofString "")) t := by
  intro vs ns k
  induction k with
  | nil => exact fun _ hi => absurd hi (Nat.not_lt_zero _)
  | cons _ _ _ ih =>
    intro i hi
    cases i with
    | zero => exact ⟨_, rfl⟩
    | succ i => exact ih i (Nat.lt_of_succ_lt_succ hi)
theorem kv_subS {value slice : PySem.Expr} {ss : List Str} {Q : Value → Shared → Prop} (N : News h₀ L s.heap news) (hm : (D, listOf vs.toArray n) ∈ news) (hI : StrsAre vs ss) (h0 : 0 ≤ k) (h1 : k < vs.length) (hfit : k < 2 ^ 63) (h : ∀ t, Q (.str (ss.getD k.toNat (Str.ofString "")) t) s)
    (hs : subscripted slice false (.ref D) (.int k u) = operate [.ref D, .int k u] (getItem (.ref D) (.int k u))) : wpAny (model prog w) A (subscriptTail value slice (.ref D) (.int k u)) Q E s :=
  kv_sub N hm h0 h1 hfit (by obtain ⟨t, e⟩ := strs_getD hI k.toNat (by omega); rw [e]; exact h t) hs
theorem kv_two {value slice : PySem.Expr} {v0 v1 : Value} {Q : Value → Shared → Prop} (N : News h₀ L s.heap news) (hm : (D, listOf [v0, v1].toArray n) ∈ news) (hk : 0 ≤ k ∧ k < 2)
    (hs : subscripted slice false (.ref D) (.int k u) = operate [.ref D, .int k u] (getItem (.ref D) (.int k u))) (h0 : k = 0 → Q v0 s) (h1 : k = 1 → Q v1 s) : wpAny (model prog w) A (subscriptTail value slice (.ref D) (.int k u)) Q E s :=
  kv_sub N hm hk.1 (by simp only [List.length_cons, List.length_nil]; omega) (by omega) (by
    rcases (show k = 0 ∨ k = 1 by omega) with h | h
    · subst h; exact h0 rfl
    · subst h; exact h1 rfl) hs
end

theorem opd7 {d : Int} (h : 0 ≤ d ∧ d < 7) : okOpd ([0, 1, 2, 3, 4, 256, 259].getD d.toNat 0) := by
  rcases (show d = 0 ∨ d = 1 ∨ d = 2 ∨ d = 3 ∨ d = 4 ∨ d = 5 ∨ d = 6 by omega) with h | h | h | h | h | h | h <;> subst h <;> unfold okOpd <;> decide
theorem opd10 {d : Int} (h : 0 ≤ d ∧ d < 10) : okOpd ([0, 1, 2, 3, 4, 256, 257, 258, 260, 261].getD d.toNat 0) := by
  rcases (show d = 0 ∨ d = 1 ∨ d = 2 ∨ d = 3 ∨ d = 4 ∨ d = 5 ∨ d = 6 ∨ d = 7 ∨ d = 8 ∨ d = 9 by omega) with h | h | h | h | h | h | h | h | h | h <;> subst h <;> unfold okOpd <;> decide
def opF (d : Int) : Int := if d < 6 then 12 + d else 12
theorem nm7 {d : Int} (h0 : 0 ≤ d) (h1 : d < 7) : [Str.ofString "ADD", Str.ofString "SUB", Str.ofString "MUL", Str.ofString "DIV", Str.ofString "MOD", Str.ofString "POW", Str.ofString "ADD"].getD d.toNat (Str.ofString "") = nameOf (opF d) := by
  rcases (show d = 0 ∨ d = 1 ∨ d = 2 ∨ d = 3 ∨ d = 4 ∨ d = 5 ∨ d = 6 by omega) with h | h | h | h | h | h | h <;> subst h <;> rfl
theorem nm3 {d : Int} (h0 : 7 ≤ d) (h1 : d < 10) : [Str.ofString "UNM", Str.ofString "NOT", Str.ofString "LEN"].getD (d - 7).toNat (Str.ofString "") = nameOf (11 + d) := by
  rcases (show d = 7 ∨ d = 8 ∨ d = 9 by omega) with h | h | h <;> subst h <;> rfl
theorem nm1 : Str.ofString "MOVE" = nameOf 0 ∧ Str.ofString "LOADK" = nameOf 1 ∧ Str.ofString "LOADBOOL" = nameOf 2 ∧ Str.ofString "CONCAT" = nameOf 21 ∧ Str.ofString "RETURN" = nameOf 30 := by decide +kernel
theorem okPre_one {r : R} (h : okR RET r RET) : okPre [r] := fun i hi => by
  have : i = 0 := by simpa using hi
  subst this
  exact h
theorem rng3 {d : Int} (h : 0 ≤ d ∧ d < 3) : Builtin.Range.small 0 (2 + d) 1 = true ∧ Builtin.Range.rangeSize 0 (2 + d) 1 = (((2 + d).toNat : Nat) : Int) := by
  rcases (show d = 0 ∨ d = 1 ∨ d = 2 by omega) with h | h | h <;> subst h <;> decide
def mvR (ks : List Int) (i : Nat) : List R := (List.range i).map fun (j : Nat) => ⟨0, 6 + (j : Int), ks.getD j 0, 0⟩
theorem mvR_succ (ks : List Int) (i : Nat) : mvR ks (i + 1) = mvR ks i ++ [⟨0, 6 + (i : Int), ks.getD i 0, 0⟩] := by
  unfold mvR
  rw [List.range_succ, List.map_append]; rfl
theorem mvR_len (ks : List Int) (i : Nat) : (mvR ks i).length = i := by unfold mvR; rw [List.length_map, List.length_range]
theorem okPre_cat {ks : List Int} {a : Int} {n : Nat} (hl : ks.length = n) (hn : 2 ≤ n ∧ n ≤ 4) (hk : ∀ k ∈ ks, 0 ≤ k ∧ k < 5) (ha : 0 ≤ a ∧ a < 5) : okPre (mvR ks n ++ [⟨21, a, 6, 5 + (n : Int)⟩]) := by
  have hg : ∀ j, 0 ≤ ks.getD j 0 ∧ ks.getD j 0 < 5 := fun j => by
    rw [List.getD_eq_getElem?_getD]
    cases e : ks[j]? with
    | none => exact ⟨by decide, by decide⟩
    | some k => exact hk k (List.mem_of_getElem? e)
  intro i hi
  rw [List.length_append, mvR_len, List.length_singleton] at hi
  by_cases h : i < n
  · have e : rowAt (mvR ks n ++ [⟨21, a, 6, 5 + (n : Int)⟩]) i = ⟨0, 6 + (i : Int), ks.getD i 0, 0⟩ := by
      rw [rowAt_left (by omega) (by rw [mvR_len]; omega)]
      unfold rowAt mvR
      rw [List.getD_eq_getElem?_getD, List.getElem?_map, List.getElem?_range (by omega)]; simp
    rw [e]
    refine .inl ⟨rfl, .inr ⟨by dsimp only; omega, by dsimp only; omega, ?_⟩, hg i, rfl⟩
    by_cases h0 : i = 0
    · exact .inl (by dsimp only; omega)
    · refine .inr ?_
      have e2 : prevAt (mvR ks n ++ [⟨21, a, 6, 5 + (n : Int)⟩]) i = ⟨0, 6 + ((i - 1 : Nat) : Int), ks.getD (i - 1) 0, 0⟩ := by
        unfold prevAt
        rw [if_neg (by omega), rowAt_left (by omega) (by rw [mvR_len]; omega)]
        unfold rowAt mvR
        rw [show ((i : Int) - 1).toNat = i - 1 by omega, List.getD_eq_getElem?_getD, List.getElem?_map, List.getElem?_range (by omega)]; rfl
      rw [e2]
      exact ⟨rfl, by dsimp only; omega⟩
  · have hin : i = n := by omega
    subst hin
    have e : rowAt (mvR ks i ++ [⟨21, a, 6, 5 + (i : Int)⟩]) i = ⟨21, a, 6, 5 + (i : Int)⟩ := by
      rw [rowAt_right (by rw [mvR_len]; omega), mvR_len, Int.sub_self]; rfl
    have e2 : prevAt (mvR ks i ++ [⟨21, a, 6, 5 + (i : Int)⟩]) i = ⟨0, 6 + ((i - 1 : Nat) : Int), ks.getD (i - 1) 0, 0⟩ := by
      unfold prevAt
      rw [if_neg (by omega), rowAt_left (by omega) (by rw [mvR_len]; omega)]
      unfold rowAt mvR
      rw [show ((i : Int) - 1).toNat = i - 1 by omega, List.getD_eq_getElem?_getD, List.getElem?_map, List.getElem?_range (by omega)]; rfl
    rw [e, e2]
    exact .inr (.inr (.inr (.inr (.inr ⟨rfl, ha, rfl, ⟨by dsimp only; omega, by dsimp only; omega⟩, rfl, by dsimp only; omega⟩))))
theorem news_midR {h₀ h : Heap} {L : Addr} {x p0 p1 p2 p3 : Addr × Obj} {out rest : List (Addr × Obj)} (N : News h₀ L h (x :: (out ++ (p0 :: p1 :: p2 :: p3 :: rest)))) : News h₀ L h (x :: p0 :: p2 :: p3 :: (out ++ rest)) := fun q hq => N q (by
  simp only [List.mem_cons, List.mem_append] at hq ⊢
  rcases hq with h | h | h | h | h | h
  · exact .inl h
  · exact .inr (.inr (.inl h))
  · exact .inr (.inr (.inr (.inr (.inl h))))
  · exact .inr (.inr (.inr (.inr (.inr (.inl h)))))
  · exact .inr (.inl h)
  · exact .inr (.inr (.inr (.inr (.inr (.inr h))))))
theorem rowsIn_one {news : List (Addr × Obj)} {r : R} {T : Addr} {t0 t1 t2 t3 : Tok} (h : (T, rowObj r t0 t1 t2 t3) ∈ news) : RowsIn news [r] [.ref T] := ⟨⟨_, _, _, _, _, rfl, h⟩, trivial⟩
theorem new_cons {b T : Addr} {o : Obj} {out rest : List (Addr × Obj)} (h1 : @LT.lt Nat _ b T) (h2 : ∀ q ∈ rest, @LT.lt Nat _ q.1 T) (h : ∀ p ∈ out, @LT.lt Nat _ b p.1 ∧ ∀ q ∈ rest, @LT.lt Nat _ q.1 p.1) : ∀ p ∈ (T, o) :: out, @LT.lt Nat _ b p.1 ∧ ∀ q ∈ rest, @LT.lt Nat _ q.1 p.1 := fun p hp => by
  rcases List.mem_cons.mp hp with rfl | hp
  · exact ⟨h1, h2⟩
  · exact h p hp
theorem new_one {b T : Addr} {o : Obj} {rest : List (Addr × Obj)} (h1 : @LT.lt Nat _ b T) (h2 : AllLt T rest) : ∀ p ∈ [(T, o)], @LT.lt Nat _ b p.1 ∧ ∀ q ∈ rest, @LT.lt Nat _ q.1 p.1 := new_cons h1 (allLt_all h2) fun _ h => nomatch h
theorem new_two {b T U : Addr} {o o' : Obj} {rest : List (Addr × Obj)} (h1 : @LT.lt Nat _ b T) (h2 : AllLt T rest) (h3 : @LT.lt Nat _ b U) (h4 : AllLt U rest) : ∀ p ∈ [(T, o), (U, o')], @LT.lt Nat _ b p.1 ∧ ∀ q ∈ rest, @LT.lt Nat _ q.1 p.1 := new_cons h1 (allLt_all h2) (new_one h3 h4)
theorem okPre_two {r1 r2 : R} (h1 : okR RET r1 r2) (h2 : okR r1 r2 RET) : okPre [r1, r2] := fun i hi => by
  rcases (show i = 0 ∨ i = 1 by simp only [List.length_cons, List.length_nil] at hi; omega) with rfl | rfl
  · exact h1
  · exact h2
theorem rows_Ro1_1 : True := by
  k_with_none
  k_with "CHK" => ((repeat ((rename (_ : Prop) => x9_z); (fail_if_success (have h9_z : Mark := x9_z)); revert x9_z)); (repeat ((rename _ => x9_z); (fail_if_success (have h9_z : Mark := x9_z)); first | clear x9_z | revert x9_z)); (repeat walk_at "REC1"); intros; refine addMark ?_; intros hmk_z)
  k_with "execs cons" => (k_whole; (fail_if_success ((rename _ => x9_z); have h9_z : Mark := x9_z)); (fail_if_success (with_reducible show wpAny _ _ (execs [Stmt.Return _ _] _) _ _ _)); walk_at "CHK")
  k_with "call ref" => (k_here; k_dflt (refine' take_ok _ _ _ _ _ _ _ _ _ _ _ _ _ _ _ _ _ _ _ _ _ _ _ _ _ _ _ _ _ _ _ _ _ ?kB ?kF ?kX ?kN ?kT ?kK ?kd ?ku ?q0 ?q1 ?q2 ?q3 ?_; (case kB => k_asm); (case kF => k_asm); (case kX => k_asm); (case kN => k_asm); (case kT => k_asm); (case kK => first | exact rfl | assumption); (case kd => ktr_room); (case ku => ktr_units); (case q0 => k_updF); (case q1 => first | assumption | (constructor <;> omega)); (case q2 => first | assumption | (constructor <;> omega)); (case q3 => first | assumption | (constructor <;> omega)); k_whole); intro d_z g'_z c'_z td_z t0'_z t1'_z h'_z tk'_z hd_z hg1_z hc1_z F'_z N'_z; (try k_sweep); (try dsimp only at N'_z); (subst hc1_z))
  k_with "subscriptTail List cons Name ref int" => (k_here; (with_reducible show wpAny _ _ (subscriptTail _ _ (Value.ref _) (Value.int _ _)) _ _ _); k_dflt (refine' kv_subS ?k1 ?k2 ?k3 ?k4 ?k5 ?k6 ?_ ?k7; (case k1 => k_asm); (case k2 => k_mem); (case k3 => repeat constructor); (case k4 => omega); (case k5 => (simp only [List.length_cons, List.length_nil]; omega)); (case k6 => omega); (case k7 => with_unfolding_all rfl); k_whole); intro u_z)
  k_with "subscriptTail List cons BinOp ref int" => walk_at "subscriptTail List cons Name ref int"
  k_with "subscriptTail List cons BinOp ref int" => (k_here; (with_reducible show wpAny _ _ (subscriptTail _ _ (Value.ref _) (Value.int _ _)) _ _ _); k_dflt (refine' kv_two ?k1 ?k2 ?k3 ?k7 ?_ ?_; (case k1 => k_asm); (case k2 => (first | exact List.Mem.head _ | exact List.Mem.tail _ (List.Mem.head _) | k_mem)); (case k3 => (constructor <;> omega)); (case k7 => with_unfolding_all rfl); k_whole) <;> intro hk_z)
  k_with "callWith" => (k_here; (show wpAny _ _ (callWith _ (Prod.fst _) _ _ _) _ _ _); dsimp only; k_dflt (refine callWith_method1 ?_))
  k_with "call builtin:len" => (k_here; (with_reducible show wpAny _ _ (call (Value.builtin _) [Value.ref _]) _ _ _); k_dflt (refine' kv_len ?k1 ?k2 ?k3 ?k4 ?_; (case k1 => k_asm); (case k2 => k_mem); (case k3 => (try simp only [List.length_append, List.length_cons, List.length_nil]); exact rfl); (case k4 => omega); k_whole); intro t'_z tk'_z)
  k_with "binaryOp Add ref ref" => (k_here; (with_reducible show wpAny _ _ (binaryOp _ (Value.ref _) (Value.ref _)) _ _ _); k_dflt (refine' kv_add ?aF ?aN ?aa ?ab ?az ?_; (case aF => k_asm); (case aN => k_asm); (case aa => k_mem); (case ab => k_mem); (case az => ((try simp only [List.length_append, List.length_cons, List.length_nil, List.length_replicate]); omega)); k_whole); intro D_z h'_z F'_z N'_z l1_z; (try k_lt l1_z); (try k_sweep))
  k_with "CompSrc" => (refine Stop.un ?_)
  k_with "exec Assign cons ListComp" => (k_here; (with_reducible show wpAny _ _ (exec (Stmt.Assign [_] (PySem.Expr.ListComp _ [⟨PySem.Expr.Tuple _ _ _, _, _, _⟩] _ _) _) _) _ _ _); k_dflt (refine Assign_ListComp_En (F₀ := by k_asm) (by rfl) (by with_unfolding_all rfl) (by with_unfolding_all rfl) (by decide) (by rfl) (by decide) (by rfl) (by rfl) (by decide) (by rfl) (by rfl) ?_))
  k_with "call type:enumerate" => (refine Stop.un ?_)
  trivial
theorem rows_ok : ∀ (w : World) (p : Program) (loose : List Str) (mean : ExcName → Option Value) (mg mb : Str → Option Value) (dp un : Nat) (gd : Option (List Code)) (cn : Str) (cs : Scope) (a : Addr) (ccd : Value) (cl : List (Str × Addr)) (outer : List Env) (A₀ : Around) (base h₀ : Heap) (L : Addr) (m : Str → Option Value) (s : Shared) (Q E : Value → Shared → Prop) (b : Addr) (g c : Int) (t0 t1 : Tok) (n : Nat) (rest : List (Addr × Obj)), Below A₀ base outer h₀ → Fr h₀ L s.heap m → (Kf w.params).In h₀ → News h₀ L s.heap ((b, listOf [.int g t0, .int c t1].toArray n) :: rest) → Top p loose mean mg mb h₀ → cs.kind = .function → dp + 3 < recursionLimit → un + 24 < cLine → (∀ p ∈ rest, p.1 ≠ b) → (0 ≤ g ∧ g < 2 ^ 400) → (0 ≤ c ∧ c < 2 ^ 19) → (∀ (D : Addr) (kr : Nat) (rvs : List Value) (rows : List R) (g' c' : Int) (t0' t1' : Tok) (tup : List (Addr × Obj)) (h' : Heap) (tk' : Nat), (okPre rows ∧ rows.length ≤ 5) → (RowsIn tup rows rvs) → (0 ≤ g' ∧ g' < 2 ^ 400) → (0 ≤ c' ∧ c' ≤ c + 12) → (∀ p ∈ tup, @LT.lt Nat _ b p.1 ∧ ∀ q ∈ rest, @LT.lt Nat _ q.1 p.1) → (∀ p ∈ (b, listOf [.int g' t0', .int c' t1'].toArray n) :: (tup ++ rest), p.1 < D) → Fr h₀ L h' m → News h₀ L h' ((D, listOf rvs.toArray kr) :: (b, listOf [.int g' t0', .int c' t1'].toArray n) :: (tup ++ rest)) → Q (.ref D) { s with heap := h', toks := tk' }) → wpAny (model PySem.Challenge.rw_pc0174_01.row.prog w) (ktrTop dp un gd cn cs L a ccd cl outer) (call (.ref 588) [.ref b]) Q E s := by
  k_fill
  refine (?k1k : KBcx ?f1f); refine ep_cx ?_; apply (?f1f _ _ _ _ _ _ _ _ _ _ _ _ _ _ _ _ _ _ _ _ _ _ _); (try any_goals exact default); intros w p loose mean mg mb dp un gd cn cs a ccd cl outer A₀ base h₀ L m s Q E; refine Bx.mk ?_
  refine (?k2k : KB7 ?f2f); refine ep7 (by repeat' (first | infer_instance | exact ne_world | exact ne_shared | exact ne_around | exact ⟨.none⟩ | exact ⟨⟨0, 0, 0, 0⟩⟩ | refine ne_prod ?_ ?_)) ?_; apply (?f2f _ _ _ _ _ _ _); (try any_goals exact default); intros b g c t0 t1 n rest; refine Bx.mk ?_
  intro B F X N T hck hd9 hu9 hne hg hc hret
  refine addMark ?_; intros hmk
  refine wpAny_call ?_
  k_dflt (refine' code_defC ?k1 ?k2 ?k3 ?k4 ?k5 ?kA ?kF ?kK ?k6 ?k7 ?k8 ?k9 ?kB ?kD ?_ ?c2 ?c3 ?c4; (case kA => exact rfl); (case kF => exact rfl); (case kK => first | exact rfl | assumption); (case k1 => k_asm); (case k2 => k_asm); (case k3 => k_asm); (case k4 => k_asm); (case k5 => k_asm); (case k6 => k_is); (case k7 => k_is); (case k8 => ktr_room); (case k9 => first | exact BindsTo.of_eq rfl | exact binds_K (by k_in) rfl (by k_is) rfl rfl rfl); (case kB => exact rfl); (case kD => decide +kernel); (case c2 => exact rfl); (case c3 => exact rfl); (case c4 => exact rfl); k_whole; intro g' L' h' tk' cells' FG' F' N' Y' B' X' T' l1; have l1r := l1; (try k_lt l1); k_cells Y'; (try simp only [List.cons_append, List.nil_append] at N'); (try dsimp only); (try k_lift B'); (try k_fold))
  k_steps
  · (rename News h₀ L _ _ => lN)
    simp (disch := omega) only [nm7] at lN
    refine' hret _ _ [.ref _] [⟨opF _, _, _, _⟩] _ _ _ _ [(_, _)] _ _ ⟨okPre_one ?ok, Nat.le_of_ble_eq_true rfl⟩ ⟨⟨_, _, _, _, _, rfl, .head _⟩, trivial⟩ (by assumption) ⟨by omega, by omega⟩ (new_one ?n1 ?n2) (allLt_all (l := _ :: _ :: rest) ⟨?l1, ?l2, ?l3⟩) (by k_asm) (fun q hq => lN q ((sub_cons (.head _) (sub_cons (.tail _ (.tail _ (.tail _ (.tail _ (.tail _ (.tail _ (.tail _ (.tail _ (.head _))))))))) (sub_cons (.tail _ (.head _)) (fun q hq => (.tail _ (.tail _ (.tail _ (.tail _ (.tail _ (.tail _ (.tail _ (.tail _ (.tail _ hq))))))))))))) q hq))
    case ok => exact .inr (.inr (.inr (.inl ⟨by dsimp only; unfold opF; split <;> omega, by dsimp only; omega, opd7 (by assumption), opd10 (by assumption)⟩)))
    case l1 => omega
    case l2 => omega
    case l3 => exact (‹_ ∧ _ ∧ _ ∧ _ ∧ _ ∧ _ ∧ _ ∧ _ ∧ AllLt _ rest›).2.2.2.2.2.2.2.2
    case n1 => omega
    case n2 => exact (‹_ ∧ _ ∧ _ ∧ _ ∧ _ ∧ _ ∧ _ ∧ AllLt _ rest›).2.2.2.2.2.2.2
  · (rename News h₀ L _ _ => lN)
    simp (disch := omega) only [nm3] at lN
    refine' hret _ _ [.ref _] [⟨11 + _, _, _, _⟩] _ _ _ _ [(_, _)] _ _ ⟨okPre_one ?ok, Nat.le_of_ble_eq_true rfl⟩ ⟨⟨_, _, _, _, _, rfl, .head _⟩, trivial⟩ (by assumption) ⟨by omega, by omega⟩ (new_one ?n1 ?n2) (allLt_all (l := _ :: _ :: rest) ⟨?l1, ?l2, ?l3⟩) (by k_asm) (fun q hq => lN q ((sub_cons (.head _) (sub_cons (.tail _ (.tail _ (.tail _ (.tail _ (.tail _ (.head _)))))) (sub_cons (.tail _ (.head _)) (fun q hq => (.tail _ (.tail _ (.tail _ (.tail _ (.tail _ (.tail _ hq)))))))))) q hq))
    case ok => exact .inr (.inr (.inr (.inr (.inl ⟨by dsimp only; omega, by dsimp only; omega, by dsimp only; omega, rfl⟩))))
    case l1 => omega
    case l2 => omega
    case l3 => exact (‹_ ∧ _ ∧ _ ∧ _ ∧ _ ∧ AllLt _ rest›).2.2.2.2.2
    case n1 => omega
    case n2 => exact (‹_ ∧ _ ∧ _ ∧ _ ∧ AllLt _ rest›).2.2.2.2
  · refine Stop.mk ?_
    (rename ((0 : Int) ≤ _ ∧ _ < (3 : Int)) => hd3)
    refine LCg.CompSrc.range (by rfl) (by k_asm) (by k_asm) (by assumption) (rng3 hd3).1 (rng3 hd3).2 (by rw [sizeLine_eq]; omega) ?_
    intro gg
    refine compU_inv (n := _) (fun i ys nw => ∃ (g' c' : Int) (t0' t1' : Tok) (ks : List Int), nw = _ :: _ :: (b, listOf [.int g' t0', .int c' t1'].toArray n) :: rest ∧ (0 ≤ g' ∧ g' < 2 ^ 400) ∧ (c' = c + 3 + i) ∧ IntsAre ys ks ∧ ks.length = i ∧ ∀ k ∈ ks, 0 ≤ k ∧ k < 5) ?turn ?fin _ 0 [] _ (Nat.zero_add _) ⟨_, _, _, _, [], rfl, by assumption, by omega, .nil, rfl, fun _ h => nomatch h⟩
    case turn =>
      intro i2 ys nw v I2 oI C2 oC D2 m₂ h₃ tk₃ E' hi2 hj3 hv hC hx'' F3 N3 off3 ne3
      obtain ⟨g', c', t0', t1', ks, rfl, hg', rfl, hys, hkl, hk5⟩ := hj3
      have hc' : 0 ≤ c + 3 + (i2 : Int) ∧ c + 3 + (i2 : Int) < 2 ^ 20 := ⟨by omega, by omega⟩
      simp only [LCg.Off3] at off3
      clear hret
      k_steps
      refine LCg.CompEnd.intro (by k_asm) (by assumption) _ (fun _ hp => hp) (by exact off3) trivial ⟨_, _, _, _, ks ++ [_], rfl, by assumption, by push_cast; omega, ints_snoc hys, ?_, ?_⟩
      · rw [List.length_append, hkl]; rfl
      · intro k hk
        rcases List.mem_append.mp hk with hk | hk
        · exact hk5 k hk
        · rw [List.mem_singleton.mp hk]; assumption
    case fin =>
      intro ys nw hj3
      obtain ⟨g', c', t0', t1', ks, rfl, hg', rfl, hys, hkl, hk5⟩ := hj3
      (rename Fr _ _ _ _ => lF0); (rename News _ _ _ _ => lN0); clear lF0 lN0
      refine addMark ?_; intros hmk
      k_steps
      refine Stop.mk ?_
      (rename Fr _ _ _ _ => lF); (rename News _ _ _ _ => lN)
      have hyk := IntsAre.length hys
      have hyl := hyk
      rw [hkl] at hyl
      refine call_enum (vs := ys) (n := ys.length) (by rfl) lF lN (.head _) (by rw [hyl]; omega) fun g9 => ?_
      clear lF
      refine ⟨fun i ys2 nw => ∃ out : List (Addr × Obj), nw = out ++ _ ∧ RowsIn out (mvR ks i) ys2 ∧ ∀ p ∈ out, @LT.lt Nat _ b p.1 ∧ ∀ q ∈ rest, @LT.lt Nat _ q.1 p.1, ⟨[], rfl, trivial, fun _ h => nomatch h⟩, ?turn2, ?fin2⟩
      case turn2 =>
        intro i2 ys2 nw v tv e9 it9 C9 D9 oe oi oC m₂ h₃ tk₃ E' hi2 hv2 hj4 hC hx1 hx2 F3 N3 off3
        obtain ⟨out, rfl, hro, hob⟩ := hj4
        obtain ⟨t9, e9'⟩ := hys.get i2 (ks.getD i2 0) (by rw [List.getD_eq_getElem?_getD, List.getElem?_eq_getElem (by omega)]; rfl)
        rw [hv2] at e9'
        obtain rfl := Option.some.inj e9'
        clear hret lN
        k_steps
        (rename News _ _ _ _ => lN); (rename _ ∧ _ ∧ _ ∧ _ ∧ AllLt _ _ => l9)
        have l10 := allLt_all l9.2.2.2.2
        refine EnEnd.intro (by k_asm) lN off3 ⟨⟨Ne.symm (Nat.ne_of_lt l9.1), Ne.symm (Nat.ne_of_lt l9.2.1)⟩, Ne.symm (Nat.ne_of_lt l9.2.2.1), Ne.symm (Nat.ne_of_lt l9.2.2.2.1)⟩ ⟨(_, _) :: out, rfl, ?_, new_cons (l10 _ (List.mem_append_right _ (.tail _ (.tail _ (.tail _ (.head _)))))) (fun q hq => l10 q (List.mem_append_right _ (.tail _ (.tail _ (.tail _ (.tail _ hq)))))) hob⟩
        rw [mvR_succ]
        exact RowsIn.append (hro.more fun _ hp => .tail _ hp) ⟨⟨_, _, _, _, _, rfl, .head _⟩, trivial⟩
      case fin2 =>
        intro ys2 nw hj4
        obtain ⟨out, rfl, hro, hob⟩ := hj4
        refine fun D9 h9 tk9 F9 N9 off9 => ?_
        have N10 := news_midR N9
        rw [hyk] at hro
        have hl2 := RowsIn.length hro
        rw [mvR_len] at hl2
        clear N9 lN
        replace N10 : News _ _ _ ((D9, listOf ys2.toArray ys2.length) :: (_, listOf ys.toArray ys.length) :: _) := N10
        k_steps
        (rename News h₀ L _ _ => lN); (rename _ ∧ _ ∧ _ ∧ _ ∧ _ ∧ _ ∧ AllLt _ _ => l9)
        simp only [nm1.2.2.2.1, hyk] at lN
        have l10 := allLt_all l9.2.2.2.2.2.2
        refine' hret _ _ (ys2 ++ _) (mvR ks ks.length ++ _) _ _ _ _ ((_, _) :: out) _ _ ⟨okPre_cat rfl ⟨by omega, by omega⟩ hk5 (by assumption), ?len⟩ (RowsIn.append (hro.more fun _ hp => .tail _ hp) (rowsIn_one (.head _))) hg' ⟨by omega, by omega⟩ (new_cons ?l0 ?l0b hob) (allLt_all (l := _ :: _ :: (out ++ rest)) ⟨?l1, ?l2, l9.2.2.2.2.2.2⟩) (by k_asm) (fun q hq => lN q ((sub_cons (.head _) (sub_cons (.tail _ (.tail _ (.tail _ (.tail _ (.tail _ (.tail _ (.head _))))))) (sub_cons (.tail _ (.tail _ (.head _))) (fun q hq => (.tail _ (.tail _ (.tail _ (.tail _ (.tail _ (.tail _ (.tail _ hq))))))))))) q hq))
        case len => rw [List.length_append, mvR_len, List.length_singleton]; omega
        case l0 => omega
        case l0b => exact fun q hq => allLt_all (‹_ ∧ _ ∧ _ ∧ _ ∧ AllLt _ (out ++ rest)›).2.2.2.2 q (List.mem_append_right _ hq)
        case l1 => omega
        case l2 => omega
  · (rename News h₀ L _ _ => lN)
    simp only [nm1.1, nm1.2.2.1] at lN
    refine' hret _ _ [.ref _, .ref _] [⟨2, _, _, _⟩, ⟨0, _, _, _⟩] _ _ _ _ [(_, _), (_, _)] _ _ ⟨okPre_two ?ok1 ?ok2, Nat.le_of_ble_eq_true rfl⟩ ⟨⟨_, _, _, _, _, rfl, .head _⟩, ⟨_, _, _, _, _, rfl, .tail _ (.head _)⟩, trivial⟩ (by assumption) ⟨by omega, by omega⟩ (new_two ?n1 ?n2 ?n3 ?n4) (allLt_all (l := _ :: _ :: _ :: rest) ⟨?l1, ?l2, ?l2b, ?l3⟩) (by k_asm) (fun q hq => lN q ((sub_cons (.head _) (sub_cons (.tail _ (.tail _ (.tail _ (.tail _ (.tail _ (.head _)))))) (sub_cons (.tail _ (.tail _ (.head _))) (sub_cons (.tail _ (.head _)) (fun q hq => (.tail _ (.tail _ (.tail _ (.tail _ (.tail _ (.tail _ hq))))))))))) q hq))
    case ok1 => exact .inr (.inr (.inl ⟨rfl, by dsimp only; omega, by dsimp only; omega, by dsimp only; omega, rfl, by dsimp only; omega⟩))
    case ok2 => exact .inl ⟨rfl, .inl (by dsimp only; omega), by dsimp only; omega, rfl⟩
    case l1 => omega
    case l2 => omega
    case l2b => omega
    case n1 => omega
    case n2 => exact (‹_ ∧ _ ∧ _ ∧ AllLt _ rest›).2.2.2
    case n3 => omega
    case n4 => exact (‹_ ∧ _ ∧ _ ∧ _ ∧ AllLt _ rest›).2.2.2.2
    case l3 => exact (‹_ ∧ _ ∧ _ ∧ _ ∧ _ ∧ AllLt _ rest›).2.2.2.2.2
  · (rename News h₀ L _ _ => lN)
    simp only [nm1.1] at lN
    refine' hret _ _ [.ref _] [⟨0, _, _, _⟩] _ _ _ _ [(_, _)] _ _ ⟨okPre_one ?ok, Nat.le_of_ble_eq_true rfl⟩ ⟨⟨_, _, _, _, _, rfl, .head _⟩, trivial⟩ (by assumption) ⟨by omega, by omega⟩ (new_one ?n1 ?n2) (allLt_all (l := _ :: _ :: rest) ⟨?l1, ?l2, ?l3⟩) (by k_asm) (fun q hq => lN q ((sub_cons (.tail _ (.tail _ (.tail _ (.head _)))) (sub_cons (.tail _ (.tail _ (.tail _ (.tail _ (.tail _ (.tail _ (.tail _ (.head _)))))))) (sub_cons (.tail _ (.tail _ (.tail _ (.tail _ (.head _))))) (fun q hq => (.tail _ (.tail _ (.tail _ (.tail _ (.tail _ (.tail _ (.tail _ (.tail _ hq)))))))))))) q hq))
    case ok => exact .inl ⟨rfl, .inl (by dsimp only; omega), by dsimp only; omega, rfl⟩
    case l1 => omega
    case l2 => omega
    case l3 => exact (‹_ ∧ _ ∧ _ ∧ _ ∧ AllLt _ rest›).2.2.2.2
    case n1 => omega
    case n2 => exact (‹_ ∧ _ ∧ _ ∧ AllLt _ rest›).2.2.2
  · (rename News h₀ L _ _ => lN)
    simp only [nm1.2.1] at lN
    refine' hret _ _ [.ref _] [⟨1, _, _, _⟩] _ _ _ _ [(_, _)] _ _ ⟨okPre_one ?ok, Nat.le_of_ble_eq_true rfl⟩ ⟨⟨_, _, _, _, _, rfl, .head _⟩, trivial⟩ (by assumption) ⟨by omega, by omega⟩ (new_one ?n1 ?n2) (allLt_all (l := _ :: _ :: rest) ⟨?l1, ?l2, ?l3⟩) (by k_asm) (fun q hq => lN q ((sub_cons (.tail _ (.head _)) (sub_cons (.tail _ (.tail _ (.tail _ (.tail _ (.tail _ (.tail _ (.tail _ (.head _)))))))) (sub_cons (.tail _ (.tail _ (.head _))) (fun q hq => (.tail _ (.tail _ (.tail _ (.tail _ (.tail _ (.tail _ (.tail _ (.tail _ hq)))))))))))) q hq))
    case ok => exact .inr (.inl ⟨rfl, by dsimp only; omega, by dsimp only; omega, rfl⟩)
    case l1 => omega
    case l2 => omega
    case l3 => exact (‹_ ∧ _ ∧ _ ∧ _ ∧ _ ∧ _ ∧ AllLt _ rest›).2.2.2.2.2.2
    case n1 => omega
    case n2 => exact (‹_ ∧ _ ∧ _ ∧ _ ∧ _ ∧ AllLt _ rest›).2.2.2.2.2

end Mine
end
section
namespace Mine
def fxOf (cd kk st lm wk : Addr) (n : Str) : Option Value := if n = (Str.ofString "code") then some (.ref cd) else if n = (Str.ofString "constants") then some (.ref kk) else if n = (Str.ofString "stack") then some (.ref st) else if n = (Str.ofString "limits") then some (.ref lm) else if n = (Str.ofString "works") then some (.ref wk) else none
theorem stepD_new {cd kk st lm wk : Addr} {tr tp tt : Tok} {h0 : Int} {k0 : Tok} {h1 : Int} {k1 : Tok} {h2 : Int} {k2 : Tok} {h3 : Int} {k3 : Tok} {h4 : Int} {k4 : Tok} {h5 : Int} {k5 : Tok} {h6 : Int} {k6 : Tok} {h7 : Int} {k7 : Tok} {h8 : Int} {k8 : Tok} : StepD (fxOf cd kk st lm wk) [⟨h0, .str (Str.ofString "code") k0, .ref cd⟩, ⟨h1, .str (Str.ofString "constants") k1, .ref kk⟩, ⟨h2, .str (Str.ofString "stack") k2, .ref st⟩, ⟨h3, .str (Str.ofString "room") k3, .int 5 tr⟩, ⟨h4, .str (Str.ofString "limits") k4, .ref lm⟩, ⟨h5, .str (Str.ofString "works") k5, .ref wk⟩, ⟨h6, .str (Str.ofString "pc") k6, .int 0 tp⟩, ⟨h7, .str (Str.ofString "top") k7, .int 5 tt⟩, ⟨h8, .str (Str.ofString "result") k8, .none⟩] (.int 0 tp) .none where
  pc := rfl
  res := rfl
  oth := fun n v _ _ h => by
    unfold fxOf at h
    repeat' (split at h)
    all_goals first | (subst_vars; cases h; rfl) | cases h
  len := by show 9 ≤ 1000; decide
  no := fun n hn => by
    simp only [methN, List.mem_cons, List.not_mem_nil, or_false] at hn
    rcases hn with h | h | h | h | h | h | h | h | h <;> subst h <;> rfl
theorem fxOf_is {cd kk st lm wk : Addr} : (fxOf cd kk st lm wk (Str.ofString "stack") = some (.ref st) ∧ fxOf cd kk st lm wk (Str.ofString "constants") = some (.ref kk) ∧ fxOf cd kk st lm wk (Str.ofString "limits") = some (.ref lm) ∧ fxOf cd kk st lm wk (Str.ofString "works") = some (.ref wk)) ∧ fxOf cd kk st lm wk (Str.ofString "code") = some (.ref cd) := ⟨⟨rfl, rfl, rfl, rfl⟩, rfl⟩
theorem rows_St1_1 : True := by
  k_with_none
  k_with "EP" => (k_whole; fail_if_success (fail_if_success (rename Below _ _ _ _ => b9_z)))
  k_with "binaryOp Add ref ref" => (k_here; (with_reducible show wpAny _ _ (binaryOp _ (Value.ref _) (Value.ref _)) _ _ _); k_dflt (refine' kv_add ?aF ?aN ?aa ?ab ?az ?_; (case aF => k_asm); (case aN => k_asm); (case aa => k_mem); (case ab => k_mem); (case az => ((try simp only [List.length_append, List.length_cons, List.length_nil, List.length_replicate]); omega)); k_whole); intro D_z h'_z F'_z N'_z l1_z; (try k_lt l1_z); (try k_sweep))
  k_with "call builtin:len" => (k_here; (with_reducible show wpAny _ _ (call (Value.builtin _) [Value.ref _]) _ _ _); k_dflt (refine' kv_len ?k1 ?k2 ?k3 ?k4 ?_; (case k1 => k_asm); (case k2 => k_mem); (case k3 => first | assumption | (try simp only [List.length_append, List.length_cons, List.length_nil]); exact rfl); (case k4 => omega); k_whole); intro t'_z tk'_z)
  k_with "binaryOp Mult ref int" => (k_here; (with_reducible show wpAny _ _ (binaryOp _ (Value.ref _) (Value.int _ _)) _ _ _); k_dflt (refine' kv_mul12 ?F ?N ?a ?_; (case F => k_asm); (case N => k_asm); (case a => k_mem); k_whole); intro D_z h'_z F'_z N'_z l1_z; (try k_lt l1_z); (try k_sweep))
  trivial
theorem stepper_new : ∀ (w : World) (p : Program) (loose : List Str) (mean : ExcName → Option Value) (mg mb : Str → Option Value) (dp un : Nat) (gd : Option (List Code)) (cn : Str) (cs : Scope) (a : Addr) (ccd : Value) (cl : List (Str × Addr)) (outer : List Env) (A₀ : Around) (base h₀ : Heap) (L : Addr) (m : Str → Option Value) (s : Shared) (Q E : Value → Shared → Prop) (news : List (Addr × Obj)) (cd kk rg lm wk : Addr) (kg : Nat) (vs : List Value), Below A₀ base outer h₀ → Fr h₀ L s.heap m → (Kf w.params).In h₀ → News h₀ L s.heap (news) → Top p loose mean mg mb h₀ → cs.kind = .function → dp + 3 < recursionLimit → un + 24 < cLine → ((rg, listOf vs.toArray kg) ∈ news) → (vs.length = 5) → (∀ (x dx st : Addr) (es : List DictEntry) (nd k : Nat) (tp : Tok) (h' : Heap) (tk' : Nat), (StepD (fxOf cd kk st lm wk) es (.int 0 tp) .none) → (getL (Str.ofString "run") es = some none) → (∀ p ∈ news, p.1 < dx) → (@LT.lt Nat _ dx x) → (@LT.lt Nat _ x st) → Fr h₀ L h' m → News h₀ L h' ((x, instObj 503 dx) :: (dx, dictOf es nd) :: (st, listOf (vs ++ List.replicate 12 Value.none).toArray k) :: news) → Q (.ref x) { s with heap := h', toks := tk' }) → wpAny (model PySem.Challenge.rw_pc0174_01.row.prog w) (ktrTop dp un gd cn cs L a ccd cl outer) (call (.ref 503) [.ref cd, .ref kk, .ref rg, .ref lm, .ref wk]) Q E s := by
  k_fill
  refine (?k1k : KBcx ?f1f); refine ep_cx ?_; apply (?f1f _ _ _ _ _ _ _ _ _ _ _ _ _ _ _ _ _ _ _ _ _ _ _); (try any_goals exact default); intros w p loose mean mg mb dp un gd cn cs a ccd cl outer A₀ base h₀ L m s Q E; refine Bx.mk ?_
  refine (?k2k : KB8 ?f2f); refine ep8 (by repeat' (first | infer_instance | exact ne_world | exact ne_shared | exact ne_around | exact ⟨.none⟩ | exact ⟨⟨0, 0, 0, 0⟩⟩ | refine ne_prod ?_ ?_)) ?_; apply (?f2f _ _ _ _ _ _ _ _); (try any_goals exact default); intros news cd kk rg lm wk kg vs; refine Bx.mk ?_
  intro B F X N T hck hd9 hu9 hm hvl hret
  have hl := hvl
  replace N := news_put N hm
  k_dflt (refine' call_cls ?k1 ?k2 ?k3 ?k4 ?k5 ?k6 ?_; (case k1 => k_asm); (case k2 => k_asm); (case k3 => k_asm); (case k4 => k_is); (case k5 => k_is); (case k6 => k_is); k_whole; intro x' d' h' F' N' l1 l2; (try k_lt l1); (try k_lt2 l2); (try k_sweep))
  k_dflt (refine' code_def ?k1 ?k2 ?k3 ?k4 ?k5 ?kA ?kF ?kK ?k6 ?k7 ?k8 ?k9 ?kB ?_ ?c2 ?c3 ?c4 ?c5; (case kA => exact rfl); (case kF => exact rfl); (case kK => first | exact rfl | assumption); (case k1 => k_asm); (case k2 => k_asm); (case k3 => k_asm); (case k4 => k_asm); (case k5 => k_asm); (case k6 => k_is); (case k7 => k_is); (case k8 => ktr_room); (case k9 => first | exact BindsTo.of_eq rfl | exact binds_K (by k_in) rfl (by k_is) rfl rfl rfl); (case c5 => decide); (case kB => exact locs rfl); (case c2 => exact rfl); (case c3 => exact rfl); (case c4 => exact rfl); k_whole; intro g' L' h' FG' F' N' B' X' T'; (try dsimp only); (try k_lift B'); (try k_fold))
  k_steps
  (rename News h₀ L _ _ => lN)
  (rename _ ∧ _ ∧ _ ∧ _ ∧ _ ∧ AllLt _ _ => l1x)
  exact hret _ _ _ _ _ _ _ _ _ stepD_new rfl (allLt_all l1.2) l2 l1x.2.2.1 (by k_asm) (fun q hq => lN q (sub_cons (.tail _ (.tail _ (.tail _ (.head _)))) (sub_cons (.tail _ (.tail _ (.tail _ (.tail _ (.head _))))) (sub_cons (.head _) fun q hq => .tail _ (.tail _ (.tail _ (.tail _ (.tail _ (.tail _ hq))))))) q hq))

theorem rows_St1_2 : True := by
  k_with "call ref" => (k_here; k_dflt (refine' stepper_new _ _ _ _ _ _ _ _ _ _ _ _ _ _ _ _ _ _ _ _ _ _ _ _ _ _ _ _ _ _ _ ?kB ?kF ?kX ?kN ?kT ?kK ?kd ?ku ?q0 ?q1 ?_; (case kB => k_asm); (case kF => k_asm); (case kX => k_asm); (case kN => k_asm); (case kT => k_asm); (case kK => first | exact rfl | assumption); (case kd => ktr_room); (case ku => ktr_units); (case q0 => k_mem); (case q1 => assumption); k_whole); intro x_z dx_z st_z es_z nd_z k_z tp_z h'_z tk'_z hD_z hno_z hlt_z hlt2_z hlt3_z F'_z N'_z; (try k_sweep))
  trivial
end Mine
end
section
namespace Mine
theorem okV_fine {x : RV} (h : okV x) : x.fine := by
  cases x with
  | int i => have h : -(2 ^ 17) ≤ i ∧ i ≤ 2 ^ 17 := h; show i.natAbs < 10 ^ 10; omega
  | bytes b => have h := (show okB b from h).1; show b.size ≤ 50; omega
  | none => trivial
  | bool b => trivial
def Out.fine : Out → Prop
  | .back ys => (∀ y ∈ ys, y.fine) ∧ ys.length ≤ 100
  | .stopped i => i.natAbs < 10 ^ 10
theorem runL_fine {rows : List R} {wd : Int} (h0 : 1 ≤ wd) (h1 : wd ≤ 17) : ∀ (n : Nat) (i : Int) (xs : List RV), (∀ x ∈ xs, okV x) → 0 ≤ i → i + 2 * n ≤ 1000 → (runL rows wd n i xs).fine
  | 0, i, _, _, hi, hj => by show i.natAbs < 10 ^ 10; omega
  | n + 1, i, xs, h, hi, hj => by
    unfold runL
    split
    · refine ⟨fun x hx => okV_fine (h x (List.mem_of_mem_take hx)), ?_⟩
      rw [List.length_take]; omega
    · cases e : stepL wd (rowAt rows i) xs with
      | none => show i.natAbs < 10 ^ 10; omega
      | some zs =>
        have k := stepL_ok h0 h1 h e
        have hs : 1 ≤ shift (rowAt rows i) ∧ shift (rowAt rows i) ≤ 2 := by unfold shift; split <;> decide
        exact runL_fine h0 h1 n _ zs k.2 (by omega) (by omega)
def outText : Out → Str
  | .back ys => pairText (Str.ofString "back") (listText (ys.map rvText))
  | .stopped i => pairText (Str.ofString "stopped") (toString i)
theorem short_back : (reprText (Str.ofString "back")).length ≤ 100 := by decide +kernel
theorem short_stopped : (reprText (Str.ofString "stopped")).length ≤ 100 := by decide +kernel
section
variable {prog : Program} {w : World} {A : Around} {E : Value → Shared → Prop} {s : Shared} {h₀ : Heap} {L : Addr} {m : Str → Option Value} {news : List (Addr × Obj)}
theorem repr_out {o : Out} {T : Addr} {outL : List (Addr × Obj)} {Q : Value → Shared → Prop} (FF : Fr h₀ L s.heap m) (N : News h₀ L s.heap news) (hol : OutL o T outL) (hsub : ∀ p ∈ outL, p ∈ news) (hf : o.fine) (hg : A.guards = some []) (hu : A.units + 4 < cLine)
    (hQ : ∀ h' u tk, Fr h₀ L h' m → News h₀ L h' news → Q (.str (outText o) u) { s with heap := h', toks := tk }) : wpAny (model prog w) A (call (.builtin "repr") [.ref T]) Q E s := by
  cases o with
  | back ys =>
    obtain ⟨rl, t, kr, zs, rfl, hx⟩ := hol
    exact repr_pairL FF N (hsub _ (.head _)) (hsub _ (.tail _ (.head _))) hx hf.1 hf.2 short_back hg hu hQ
  | stopped i =>
    obtain ⟨t, u, rfl⟩ := hol
    exact repr_pairI FF N (hsub _ (.head _)) short_stopped hf hg hu hQ
end
end Mine
end
section
namespace Mine
abbrev lawP {n : Str} {ar : Arguments} {b0 b1 b2 b3 b4 b5 b6 t0 t1 t2 t3 : Stmt} {tl bdr oe : List Stmt} {tg it : PySem.Expr} {ps : Pos} {ds : List PySem.Expr} {re : Option PySem.Expr} {tp : List TypeParam} {sc : Scope} {ts : Option Scope} {bi : Str} {ps2 : Pos} (st : Stmt) (_ : st = Stmt.FunctionDef n ar (b0 :: b1 :: b2 :: b3 :: b4 :: b5 :: b6 :: Stmt.For tg it (t0 :: t1 :: t2 :: t3 :: tl) oe ps :: bdr) ds re tp sc ts bi ps2) (f : Stmt → Stmt → Stmt → Stmt → Stmt → Stmt → Stmt → List Stmt → Scope → Prop) : Prop := f b4 b5 b6 t0 t1 t2 t3 tl sc
/-- the works and the bounds that the law makes -/
structure WB (news : List (Addr × Obj)) (wk bn dw dl lf lc : Addr) (nl nw : Nat) (esl esw : List DictEntry) (wd : Int) (tw tt : Tok) (nm ql : Str) (pmv ctv : Value) (lo : Obj) (lvs : Array Value) (tq : Tok) : Prop where
  wk : (wk, instObj 412 dw) ∈ news
  dw : (dw, dictOf esw nw) ∈ news
  bn : (bn, instObj 95 dl) ∈ news
  dl : (dl, dictOf esl nl) ∈ news
  wdt : getL (Str.ofString "width") esl = some (some (.int wd tw))
  txt : getL (Str.ofString "text") esl = some (some (.int 12 tt))
  len : getL (Str.ofString "length") esw = some (some (.ref lf))
  lf : (lf, lamObj nm ql pmv lc ctv) ∈ news
  lc : (lc, lo) ∈ news
  lo : lo.data = .fields lvs ∧ lvs[1]? = some (.str ql tq)
  w0 : 1 ≤ wd ∧ wd ≤ 17
theorem WB.more {news news' : List (Addr × Obj)} {wk bn dw dl lf lc : Addr} {nl nw : Nat} {esl esw : List DictEntry} {wd : Int} {tw tt : Tok} {nm ql : Str} {pmv ctv : Value} {lo : Obj} {lvs : Array Value} {tq : Tok} (h : WB news wk bn dw dl lf lc nl nw esl esw wd tw tt nm ql pmv ctv lo lvs tq) (hs : ∀ p ∈ news, p ∈ news') : WB news' wk bn dw dl lf lc nl nw esl esw wd tw tt nm ql pmv ctv lo lvs tq :=
  ⟨hs _ h.wk, hs _ h.dw, hs _ h.bn, hs _ h.dl, h.wdt, h.txt, h.len, hs _ h.lf, hs _ h.lc, h.lo, h.w0⟩
theorem rvs_nones : RVs (List.replicate 12 .none) (List.replicate 12 Value.none) := ⟨rfl, rfl, rfl, rfl, rfl, rfl, rfl, rfl, rfl, rfl, rfl, rfl, trivial⟩
theorem run_ne3 {x dx st : Addr} (h1 : @LT.lt Nat _ dx x) (h2 : @LT.lt Nat _ x st) : (@Ne Nat x dx ∧ @Ne Nat x st ∧ @Ne Nat dx st) := ⟨Ne.symm (Nat.ne_of_lt h1), Nat.ne_of_lt h2, Nat.ne_of_lt (Nat.lt_trans h1 h2)⟩
theorem rows_Tl1_1 : True := by
  k_with_none
  k_with "EP" => (k_whole; fail_if_success (fail_if_success (rename Below _ _ _ _ => b9_z)))
  k_with "subscriptTail Name Slice ref ref" => (k_here; (with_reducible show wpAny _ _ (subscriptTail _ (PySem.Expr.Slice _ _ _ _) (Value.ref _) (Value.ref _)) _ _ _); k_dflt (refine' kmk_slice_lit ?k1 ?k2 ?k3 ?k4 ?k5 ?k6 ?_ ?k7 ?k8 ?k9; (case k1 => k_asm); (case k2 => k_asm); (case k3 => kmk_list); (case k4 => kmk_part); (case k5 => kmk_part); (case k6 => first | exact kv_all _ | exact kv_upto _ (by omega) | exact kv_run _ (by omega) (by omega)); (case k7 => with_unfolding_all rfl); (case k8 => kmk_pure); (case k9 => first | exact kv_size (by assumption) (by simp only [sizeLine_eq]; omega) | exact Nat.le_of_ble_eq_true rfl); k_whole); intro D_z h'_z F'_z N'_z l1_z; (try k_lt l1_z); (try k_sweep))
  k_with "call ref" => (k_here; k_dflt (refine' coded_ok _ _ _ _ _ _ _ _ _ _ _ _ _ _ _ _ _ _ _ _ _ _ _ _ _ _ _ _ ?kB ?kF ?kX ?kN ?kT ?kK ?kd ?ku ?q0 ?q1 ?q2 ?_; (case kB => k_asm); (case kF => k_asm); (case kX => k_asm); (case kN => k_asm); (case kT => k_asm); (case kK => first | exact rfl | assumption); (case kd => ktr_room); (case ku => ktr_units); (case q0 => k_mem); (case q1 => first | assumption | (refine RowsIn.more ?_ (by assumption); intro p_z hp_z; repeat (first | exact hp_z | refine List.Mem.tail _ ?_))); (case q2 => assumption); k_whole); intro D_z kc_z cvs_z h'_z tk'_z hcv_z hlt_z F'_z N'_z; (try k_sweep))
  k_with "call ref" => (k_here; k_dflt (refine' stepper_new _ _ _ _ _ _ _ _ _ _ _ _ _ _ _ _ _ _ _ _ _ _ _ _ _ _ _ _ _ _ _ ?kB ?kF ?kX ?kN ?kT ?kK ?kd ?ku ?q0 ?q1 ?_; (case kB => k_asm); (case kF => k_asm); (case kX => k_asm); (case kN => k_asm); (case kT => k_asm); (case kK => first | exact rfl | assumption); (case kd => ktr_room); (case ku => ktr_units); (case q0 => k_mem); (case q1 => assumption); k_whole); intro x_z dx_z st_z es_z nd_z k_z tp_z h'_z tk'_z hD_z hno_z hlt_z hlt2_z hlt3_z F'_z N'_z; (try k_sweep))
  k_with "call builtin:repr" => (k_here; (with_reducible show wpAny _ _ (call (Value.builtin "repr") [Value.ref _]) _ _ _); k_dflt (refine' repr_out ?k1 ?k2 ?k3 ?k4 ?k5 ?k6 ?k7 ?_; (case k1 => k_asm); (case k2 => k_asm); (case k3 => assumption); (case k4 => (intro p hp; simp only [List.mem_cons, List.mem_append, List.cons_append, hp, or_true, true_or])); (case k5 => assumption); (case k6 => rfl); (case k7 => ktr_units); k_whole); intro h'_z u_z tk_z F'_z N'_z; (try k_sweep))
  k_with "getMethod ref" => (k_here; k_dflt (refine' method_inst ?k1 ?k2 ?k3 ?k4 ?k5 ?k6 ?k7 ?_; (case k1 => k_asm); (case k2 => k_asm); (case k3 => k_inst); (case k4 => k_is); (case k5 => k_is); (case k6 => k_is); (case k7 => assumption); k_whole))
  k_with "call ref" => ((show wpAny _ _ (call (Value.ref 437) _) _ _ _); refine Stop.un ?_)
  k_with "call ref" => ((show wpAny _ _ (call (Value.ref 583) _) _ _ _); refine Stop.un ?_)
  trivial
theorem tail_ok : lawP (stm 93) (by with_unfolding_all rfl) fun _ _ _ _ _ _ _ tl sc => ∀ (w : World) (p : Program) (loose : List Str) (mean : ExcName → Option Value) (mg mb : Str → Option Value) (dp un : Nat) (a : Addr) (ccd : Value) (A₀ : Around) (base h₀ : Heap) (L : Addr) (gm : Str → Option Value) (s : Shared) (Q : Flow → Shared → Prop) (E : Value → Shared → Prop) (news : List (Addr × Obj)) (rl ro : Addr) (kr kg : Nat) (rvs vs : List Value) (rows : List R) (xs : List RV) (wk bn dw dl lf lc : Addr) (nl nw : Nat) (esl esw : List DictEntry) (wd : Int) (tw tw2 tt : Tok) (nm ql : Str) (pmv ctv : Value) (lo : Obj) (lvs : Array Value) (tq : Tok), Below A₀ base [] h₀ → Fr h₀ L s.heap (fun y => if y = Str.ofString "registers" then some (.ref ro) else if y = Str.ofString "rows" then some (.ref rl) else if y = Str.ofString "works" then some (.ref wk) else if y = Str.ofString "bounds" then some (.ref bn) else if y = Str.ofString "width" then some (.int wd tw2) else gm y) → (Kf w.params).In h₀ → News h₀ L s.heap news → Top p loose mean mg mb h₀ → dp + 16 < recursionLimit → un + 128 < cLine → (rl, listOf rvs.toArray kr) ∈ news → (ro, listOf vs.toArray kg) ∈ news → WB news wk bn dw dl lf lc nl nw esl esw wd tw tt nm ql pmv ctv lo lvs tq → RowsIn news rows rvs → RVs xs vs → xs.length = 5 → (∀ x ∈ xs, okV x) → okRows rows →
   (∀ (v : Value) (h' : Heap) (tk' : Nat), Fr h₀ L h' (fun y => if y = Str.ofString "stepper" then some (v) else if y = Str.ofString "registers" then some (.ref ro) else if y = Str.ofString "rows" then some (.ref rl) else if y = Str.ofString "works" then some (.ref wk) else if y = Str.ofString "bounds" then some (.ref bn) else if y = Str.ofString "width" then some (.int wd tw2) else gm y) → News h₀ L h' news → Q .next { s with heap := h', toks := tk' }) →
   wpAny (model PySem.Challenge.rw_pc0174_01.row.prog w) (ktrTop dp un (some []) (Str.ofString "law") sc L a ccd (cellsFrom (L + 1) sc.names []) []) (execs tl (envOfC (Str.ofString "law") sc L a ccd)) Q E s := by
  dsimp only [lawP]
  k_fill
  refine (?k1k : KB12 ?f1f); refine ep12 (by repeat' (first | infer_instance | exact ne_world | exact ne_shared | exact ne_around | exact ⟨.none⟩ | exact ⟨⟨0, 0, 0, 0⟩⟩ | refine ne_prod ?_ ?_)) ?_; apply (?f1f _ _ _ _ _ _ _ _ _ _ _ _); (try any_goals exact default); intros w p loose mean mg mb dp un a ccd A₀ base; refine Bx.mk ?_; refine (?k2k : KB12 ?f2f); refine ep12 (by repeat' (first | infer_instance | exact ne_world | exact ne_shared | exact ne_around | exact ⟨.none⟩ | exact ⟨⟨0, 0, 0, 0⟩⟩ | refine ne_prod ?_ ?_)) ?_; apply (?f2f _ _ _ _ _ _ _ _ _ _ _ _); (try any_goals exact default); intros h₀ L gm s Q E news rl ro kr kg rvs; refine Bx.mk ?_; refine (?k3k : KB12 ?f3f); refine ep12 (by repeat' (first | infer_instance | exact ne_world | exact ne_shared | exact ne_around | exact ⟨.none⟩ | exact ⟨⟨0, 0, 0, 0⟩⟩ | refine ne_prod ?_ ?_)) ?_; apply (?f3f _ _ _ _ _ _ _ _ _ _ _ _); (try any_goals exact default); intros vs rows xs wk bn dw dl lf lc nl nw esl; refine Bx.mk ?_; refine (?k4k : KB12 ?f4f); refine ep12 (by repeat' (first | infer_instance | exact ne_world | exact ne_shared | exact ne_around | exact ⟨.none⟩ | exact ⟨⟨0, 0, 0, 0⟩⟩ | refine ne_prod ?_ ?_)) ?_; apply (?f4f _ _ _ _ _ _ _ _ _ _ _ _); (try any_goals exact default); intros esw wd tw tw2 tt nm ql pmv ctv lo lvs tq; refine Bx.mk ?_
  intro B F X N T hd9 hu9 hm1 hm2 hW hro hx hxl hok hrows hret
  have hl := hx.length
  rw [hxl] at hl
  have hC := okC_rows hrows
  replace N := news_put (news_put N hm2) (.tail _ hm1)
  k_steps
  refine Stop.mk ?_
  (rename News _ _ _ _ => lN); (rename Fr _ _ _ _ => lF); (rename IntsAre _ _ => hcv); (rename StepD _ _ _ _ => hD)
  refine' run_ok _ _ _ _ _ _ _ _ _ _ _ _ _ _ _ _ _ _ _ _ _ _ _ _ _ _ bn dl wk dw _ esl esw _ nl nw _ _ wd tw (xs ++ List.replicate 12 .none) _ _ lf lc nm ql pmv ctv lo lvs tq tt _ _ _ _ rows _ B lF X lN T ?kk ?kd ?ku (run_ne3 hlt2_z hlt3_z) (fun q hq => Nat.ne_of_lt (hlt_z q hq)) (fun q hq => Nat.ne_of_lt (Nat.lt_trans (hlt_z q hq) (Nat.lt_trans hlt2_z hlt3_z))) hD fxOf_is.1 (RVs.append hx rvs_nones) ?len (pad_ok hok) ⟨hW.w0.1, by have := hW.w0.2; omega⟩ hW.w0.2 ?m1 ?m2 hW.wdt ?m3 ?m4 hW.len ?m5 ?m6 hW.lo hW.txt fxOf_is.2 (.tail _ (.head _)) hcv hrows ?fin
  case kk => exact rfl
  case kd => ktr_room
  case ku => ktr_units
  case len => rw [List.length_append, hxl]; rfl
  case m1 => exact .tail _ (.tail _ (.tail _ (.tail _ hW.bn)))
  case m2 => exact .tail _ (.tail _ (.tail _ (.tail _ hW.dl)))
  case m3 => exact .tail _ (.tail _ (.tail _ (.tail _ hW.wk)))
  case m4 => exact .tail _ (.tail _ (.tail _ (.tail _ hW.dw)))
  case m5 => exact .tail _ (.tail _ (.tail _ (.tail _ hW.lf)))
  case m6 => exact .tail _ (.tail _ (.tail _ (.tail _ hW.lc)))
  case fin =>
    intro T1 out1 h1 tk1 hol1 F1 N1
    have hfine := runL_fine (rows := rows) hW.w0.1 hW.w0.2 rows.length 0 _ (pad_ok hok) (Int.le_refl 0) (by have := hC.2; omega)
    replace N1 : News _ _ _ ((rl, listOf rvs.toArray kr) :: (ro, listOf vs.toArray kg) :: (news ++ out1)) := fun q hq => N1 q (.tail _ (.tail _ hq))
    clear lN lF hcv hD
    k_steps
    refine Stop.mk ?_
    (rename News _ _ _ _ => lN); (rename Fr _ _ _ _ => lF)
    refine' lrun_ok _ _ _ _ _ _ _ _ _ _ _ _ _ _ _ _ _ _ _ _ _ _ _ _ rl ro kr kg rvs vs rows xs wd _ B lF X lN T ?kk ?kd ?ku (.head _) (.tail _ (.head _)) (RowsIn.more ?more hro) hx hxl hok hrows hW.w0 ?fin
    case kk => exact rfl
    case kd => ktr_room
    case ku => ktr_units
    case more => exact fun p hp => .tail _ (.tail _ (List.mem_append_left _ hp))
    case fin =>
      intro T2 out2 h2 tk2 hol2 F2 N2
      clear lN lF
      have hsame : (outText (runL rows wd rows.length 0 (xs ++ List.replicate 12 .none)) != outText (runL rows wd rows.length 0 (xs ++ List.replicate 12 .none))) = false := bne_self_eq_false _
      k_steps
      (rename News _ _ _ _ => lN)
      exact hret _ _ _ (by k_asm) fun q hq => lN q (.tail _ (.tail _ (List.mem_append_left _ (List.mem_append_left _ hq))))

end Mine
end
section
namespace Mine
local macro_rules | `(tactic| k_mem) => `(tactic| first | assumption | (refine mem_of ?_; assumption))
def nilN (xs : List RV) : Nat → List RV
  | 0 => xs
  | i + 1 => (nilN xs i).set (i + 1) .none
theorem nilN_len {xs : List RV} : ∀ i, (nilN xs i).length = xs.length
  | 0 => rfl
  | i + 1 => by unfold nilN; rw [List.length_set, nilN_len i]
theorem keep_two {I : Addr} {st : Addr} {r : List (Addr × Obj)} (h : @Ne Nat I st) (hr : ∀ p ∈ r, p.1 ≠ I) {o : Obj} : ∀ q ∈ (st, o) :: r, q.1 ≠ I := off_cons (Ne.symm h) hr
theorem rows_Fx1_1 : True := by
  k_with_none
  k_with "EP" => (k_whole; fail_if_success (fail_if_success (rename Below _ _ _ _ => b9_z)))
  k_with "call ref" => (k_here; k_dflt (refine' a_of_ok _ _ _ _ _ _ _ _ _ _ _ _ _ _ _ _ _ _ _ _ _ _ _ _ _ _ _ ?kB ?kF ?kX ?kN ?kT ?kK ?kd ?ku ?q0 ?q1 ?q2 ?_; (case kB => k_asm); (case kF => k_asm); (case kX => k_asm); (case kN => k_asm); (case kT => k_asm); (case kK => first | exact rfl | assumption); (case kd => ktr_room); (case ku => ktr_units); (case q0 => first | assumption | l_fact); (case q1 => first | assumption | l_fact); (case q2 => first | assumption | exact rfl); k_whole); intro t_z h'_z tk'_z  F'_z N'_z; (try k_sweep))
  k_with "call ref" => (k_here; k_dflt (refine' b_of_ok _ _ _ _ _ _ _ _ _ _ _ _ _ _ _ _ _ _ _ _ _ _ _ _ _ _ _ ?kB ?kF ?kX ?kN ?kT ?kK ?kd ?ku ?q0 ?q1 ?q2 ?_; (case kB => k_asm); (case kF => k_asm); (case kX => k_asm); (case kN => k_asm); (case kT => k_asm); (case kK => first | exact rfl | assumption); (case kd => ktr_room); (case ku => ktr_units); (case q0 => first | assumption | l_fact); (case q1 => first | assumption | l_fact); (case q2 => first | assumption | exact rfl); k_whole); intro t_z h'_z tk'_z  F'_z N'_z; (try k_sweep))
  k_with "setItem ref int" => (k_here; (with_reducible show wpAny _ _ (setItem (Value.ref _) (Value.int _ _) _) _ _ _); k_dflt (refine' kv_set ?k1 ?k2 ?k3 ?k4 ?k5 ?k6 ?_; (case k1 => k_asm); (case k2 => k_asm); (case k3 => k_upd); (case k4 => first | omega | l_fact); (case k5 => (try simp only [List.length_set]); first | omega | l_fact); (case k6 => first | omega | l_fact); k_whole; intro h'_z F'_z N'_z; (try k_sweep)))
  k_with "setItem ref" => walk_at "setItem ref int"
  k_with "exec For Name Call cons nil" => (k_here; (rename Fr _ _ _ _ => lF'_z); (with_unfolding_all refine' For_invVF lF'_z ?k1 ?k2 ?_; (case k1 => exact rfl); (case k2 => exact rfl); k_whole))
  k_with "pyIter ref" => ((with_reducible show wpAny _ _ (pyIter (Value.ref _)) (fun it s₂ => LoopAtV _ _ _ _ _ _ _ _ _ it s₂) _ _); refine Stop.un ?_)
  trivial
theorem load3_core : ∀ (w : World) (p : Program) (loose : List Str) (mean : ExcName → Option Value) (mg mb : Str → Option Value) (dp un : Nat) (gd : Option (List Code)) (cn : Str) (cs : Scope) (a : Addr) (ccd : Value) (cl : List (Str × Addr)) (outer : List Env) (A₀ : Around) (base h₀ : Heap) (L : Addr) (m : Str → Option Value) (s : Shared) (Q E : Value → Shared → Prop) (st kk : Addr) (xs : List RV) (vs : List Value) (k : Nat) (rest : List (Addr × Obj)) (ins : Int) (to ti tz : Tok), Below A₀ base outer h₀ → Fr h₀ L s.heap m → (Kf w.params).In h₀ → News h₀ L s.heap ((st, listOf vs.toArray k) :: rest) → Top p loose mean mg mb h₀ → cs.kind = .function → dp + 2 < recursionLimit → un + 16 < cLine → (∀ p ∈ rest, p.1 ≠ st) → (RVs xs vs) → (xs.length = 17) → (0 ≤ ins) → (ins < 2 ^ 40) → (ins / 64 % 256 = 1) → (ins / 8388608 = 2) → (∀ (vs1 : List Value) (t : Tok) (h' : Heap) (tk' : Nat), (RVs (nilN xs 2) vs1) → Fr h₀ L h' m → News h₀ L h' ((st, listOf vs1.toArray k) :: rest) → Q (.int 0 t) { s with heap := h', toks := tk' }) → wpAny (model PySem.Challenge.rw_pc0174_01.row.prog w) (ktrTop dp un gd cn cs L a ccd cl outer) (call (.ref 303) [.int 3 to, .int ins ti, .ref st, .int 0 tz, .ref kk]) Q E s := by
  k_fill
  refine (?k1k : KBcx ?f1f); refine ep_cx ?_; apply (?f1f _ _ _ _ _ _ _ _ _ _ _ _ _ _ _ _ _ _ _ _ _ _ _); (try any_goals exact default); intros w p loose mean mg mb dp un gd cn cs a ccd cl outer A₀ base h₀ L m s Q E; refine Bx.mk ?_
  refine (?k2k : KB10 ?f2f); refine ep10 (by repeat' (first | infer_instance | exact ne_world | exact ne_shared | exact ne_around | exact ⟨.none⟩ | exact ⟨⟨0, 0, 0, 0⟩⟩ | refine ne_prod ?_ ?_)) ?_; apply (?f2f _ _ _ _ _ _ _ _ _ _); (try any_goals exact default); intros st kk xs vs k rest ins to ti tz; refine Bx.mk ?_
  intro B F X N T hck hd9 hu9 hrs hx hxl hi hi2 ha hb hret
  refine wpAny_call ?_
  k_dflt cell_enter
  k_steps
  refine Stop.mk ?_
  (rename Fr _ _ _ _ => lF'); (rename News _ _ _ _ => lN'); (rename IsRange _ _ _ _ _ _ _ _ => lR')
  with_unfolding_all refine iter_rangeUnr (n := 2) (by rfl) lR' (by decide) (by decide) lF' lN' ?_
  clear lF' lN'
  intro I hI
  have hIs : @Ne Nat I st := Nat.ne_of_gt (hI (st, _) (.head _))
  have hIr : ∀ p ∈ rest, p.1 ≠ I := fun p hp => Nat.ne_of_lt (hI p (.tail _ hp))
  clear hI
  refine rangeRest_ofN [Str.ofString "at"] (fun i g nw => ∃ (vs' : List Value), nw = (st, listOf vs'.toArray k) :: rest ∧ RVs (nilN xs i) vs') ?turn ?done ⟨vs, rfl, hx⟩
  case turn =>
    intro i g nw t h₂ tk₂ hi hj F2 N2
    obtain ⟨vs', rfl, hys⟩ := hj
    revert vs'
    refine (?k3k : KB1 ?f3f); refine ep1 (by repeat' (first | infer_instance | exact ne_world | exact ne_shared | exact ne_around | exact ⟨.none⟩ | exact ⟨⟨0, 0, 0, 0⟩⟩ | refine ne_prod ?_ ?_)) ?_; apply (?f3f _); (try any_goals exact default); intros vs'; refine Bx.mk ?_
    set_option tactic.hygienic false in intros
    dsimp only [over] at F2
    have hvl := hys.length
    rw [nilN_len, hxl] at hvl
    clear hret hx
    generalize itR _ _ = oI at N2 ⊢
    k_steps
    (rename News _ _ _ _ => lN); (rename Fr _ _ _ _ => lF)
    refine unrEnd_of lF lN 1 (.head _) (keep_two hIs hIr) ⟨?keep, _, rfl, ?hv⟩
    case keep =>
      intro y hy
      simp only [List.mem_cons, List.not_mem_nil, or_false, not_or] at hy
      simp only [hy, if_false]
    case hv =>
      have e : (0 + 1 + (i : Int)).toNat = i + 1 := by omega
      first
        | (rw [e]; exact hys.set _ rfl)
        | (have e : (1 + (i : Int)).toNat = i + 1 := by omega
           rw [e]; exact hys.set _ rfl)
  case done =>
    intro g nw h₂ tk₂ hj F2 N2
    obtain ⟨vs', rfl, hys⟩ := hj
    revert vs'
    refine (?k4k : KB1 ?f4f); refine ep1 (by repeat' (first | infer_instance | exact ne_world | exact ne_shared | exact ne_around | exact ⟨.none⟩ | exact ⟨⟨0, 0, 0, 0⟩⟩ | refine ne_prod ?_ ?_)) ?_; apply (?f4f _); (try any_goals exact default); intros vs'; refine Bx.mk ?_
    set_option tactic.hygienic false in intros
    dsimp only [over] at F2
    k_steps
    (rename News h₀ L _ _ => lN)
    exact hret _ _ _ _ hys (by k_asm) lN

theorem load3_ok : ∀ (w : World) (p : Program) (loose : List Str) (mean : ExcName → Option Value) (mg mb : Str → Option Value) (dp un : Nat) (gd : Option (List Code)) (cn : Str) (cs : Scope) (a : Addr) (ccd : Value) (cl : List (Str × Addr)) (outer : List Env) (A₀ : Around) (base h₀ : Heap) (L : Addr) (m : Str → Option Value) (s : Shared) (Q E : Value → Shared → Prop) (news : List (Addr × Obj)) (st kk : Addr) (xs : List RV) (vs : List Value) (k : Nat) (ins : Int) (to ti tz : Tok) (gg : Obj → List (Addr × Obj)), Below A₀ base outer h₀ → Fr h₀ L s.heap m → (Kf w.params).In h₀ → News h₀ L s.heap (news) → Top p loose mean mg mb h₀ → cs.kind = .function → dp + 2 < recursionLimit → un + 16 < cLine → (UpdF st (listOf vs.toArray k) news gg) → (RVs xs vs) → (xs.length = 17) → (0 ≤ ins) → (ins < 2 ^ 40) → (ins / 64 % 256 = 1) → (ins / 8388608 = 2) → (∀ (vs1 : List Value) (t : Tok) (h' : Heap) (tk' : Nat), (RVs (nilN xs 2) vs1) → Fr h₀ L h' m → News h₀ L h' (gg (listOf vs1.toArray k)) → Q (.int 0 t) { s with heap := h', toks := tk' }) → wpAny (model PySem.Challenge.rw_pc0174_01.row.prog w) (ktrTop dp un gd cn cs L a ccd cl outer) (call (.ref 303) [.int 3 to, .int ins ti, .ref st, .int 0 tz, .ref kk]) Q E s := by
  k_fill
  refine (?k5k : KBcx ?f5f); refine ep_cx ?_; apply (?f5f _ _ _ _ _ _ _ _ _ _ _ _ _ _ _ _ _ _ _ _ _ _ _); (try any_goals exact default); intros w p loose mean mg mb dp un gd cn cs a ccd cl outer A₀ base h₀ L m s Q E; refine Bx.mk ?_
  refine (?k6k : KB11 ?f6f); refine ep11 (by repeat' (first | infer_instance | exact ne_world | exact ne_shared | exact ne_around | exact ⟨.none⟩ | exact ⟨⟨0, 0, 0, 0⟩⟩ | refine ne_prod ?_ ?_)) ?_; apply (?f6f _ _ _ _ _ _ _ _ _ _ _); (try any_goals exact default); intros news st kk xs vs k ins to ti tz gg; refine Bx.mk ?_
  intro B F X N T hck hd9 hu9 hU hx hxl hi hi2 ha hb hret
  obtain ⟨pre, post, rfl, hgg, ha', hb'⟩ := hU.split
  refine load3_core _ _ _ _ _ _ _ _ _ _ _ _ _ _ _ _ _ _ _ _ _ _ _ st kk xs vs k (pre ++ post) ins to ti tz B F X (news_front N) T hck hd9 hu9 (ne_parts ha' hb') hx hxl hi hi2 ha hb fun vs1 t h' tk' hv1 F' N' => ?_
  refine hret vs1 t h' tk' hv1 F' ?_
  rw [hgg]
  exact (news_back N' :)

theorem rows_Fx1_2 : True := by
  k_with "call ref" => (k_here; k_dflt (refine' load3_ok _ _ _ _ _ _ _ _ _ _ _ _ _ _ _ _ _ _ _ _ _ _ _ _ _ _ _ _ _ _ _ _ _ _ ?kB ?kF ?kX ?kN ?kT ?kK ?kd ?ku ?q0 ?q1 ?q2 ?q3 ?q4 ?q5 ?q6 ?_; (case kB => k_asm); (case kF => k_asm); (case kX => k_asm); (case kN => k_asm); (case kT => k_asm); (case kK => first | exact rfl | assumption); (case kd => ktr_room); (case ku => ktr_units); (case q0 => k_updF); (case q1 => assumption); (case q2 => assumption); (case q3 => assumption); (case q4 => assumption); (case q5 => assumption); (case q6 => assumption); k_whole); intro vs1_z t_z h'_z tk'_z hv1_z F'_z N'_z; (try k_sweep); (try dsimp only at N'_z))
  trivial
theorem rows_Fx1_3 : True := by
  k_with "getAttr ref" => (k_here; k_dflt (refine' get_own ?k1 ?k2 ?k3 ?k4 ?k5 ?k6 ?k7 ?k8 ?k9 ?_; (case k1 => k_asm); (case k2 => k_asm); (case k3 => k_inst); (case k4 => k_is); (case k5 => k_is); (case k6 => k_is); (case k7 => k_is); (case k8 => first | assumption | exact StepD.get (by assumption) (by assumption) (by decide) (by decide) | exact StepD.pc (by assumption)); (case k9 => k_handed); k_whole))
  k_with "setAttr ref" => (k_here; k_dflt (refine' set_pcK ?k1 ?k2 ?k3 ?k4 ?k5 ?k6 ?k7 ?k8 ?k9 ?k10 ?k11 ?_; (case k1 => k_asm); (case k2 => k_asm); (case k3 => k_asm); (case k4 => k_inst); (case k5 => exact rfl); (case k6 => k_is); (case k7 => k_is); (case k8 => k_is); (case k9 => k_is); (case k10 => assumption); (case k11 => k_updF); k_whole); intro es_z h'_z hD_z F'_z N'_z; (try dsimp only at N'_z); (try k_sweep))
  k_with "getMethod ref" => (k_here; k_dflt (refine' method_inst ?k1 ?k2 ?k3 ?k4 ?k5 ?k6 ?k7 ?_; (case k1 => k_asm); (case k2 => k_asm); (case k3 => k_inst); (case k4 => k_is); (case k5 => k_is); (case k6 => k_is); (case k7 => exact StepD.no (by assumption) _ (by decide)); k_whole))
  trivial
theorem done3_ok : ∀ (w : World) (p : Program) (loose : List Str) (mean : ExcName → Option Value) (mg mb : Str → Option Value) (dp un : Nat) (gd : Option (List Code)) (cn : Str) (cs : Scope) (a : Addr) (ccd : Value) (cl : List (Str × Addr)) (outer : List Env) (A₀ : Around) (base h₀ : Heap) (L : Addr) (m : Str → Option Value) (s : Shared) (Q E : Value → Shared → Prop) (x dx st kk : Addr) (es : List DictEntry) (nd k : Nat) (fx : Str → Option Value) (pc : Int) (tpc : Tok) (xs : List RV) (vs : List Value) (rest : List (Addr × Obj)) (ins : Int) (to ti : Tok), Below A₀ base outer h₀ → Fr h₀ L s.heap m → (Kf w.params).In h₀ → News h₀ L s.heap ((x, instObj 503 dx) :: (dx, dictOf es nd) :: (st, listOf vs.toArray k) :: rest) → Top p loose mean mg mb h₀ → cs.kind = .function → dp + 4 < recursionLimit → un + 32 < cLine → (@Ne Nat x dx ∧ @Ne Nat x st ∧ @Ne Nat dx st) → (∀ p ∈ rest, p.1 ≠ dx) → (∀ p ∈ rest, p.1 ≠ st) → (StepD fx es (.int pc tpc) .none) → (RVs xs vs) → (xs.length = 17) → (fx (Str.ofString "stack") = some (.ref st)) → (0 ≤ ins) → (ins < 2 ^ 40) → (ins / 64 % 256 = 1) → (ins / 8388608 = 2) → (fx (Str.ofString "constants") = some (.ref kk)) → (∀ (vs1 : List Value) (es' : List DictEntry) (tp' : Tok) (h' : Heap) (tk' : Nat), (RVs (nilN xs 2) vs1) → (StepD fx es' (.int pc tp') .none) → Fr h₀ L h' m → News h₀ L h' ((x, instObj 503 dx) :: (dx, dictOf es' nd) :: (st, listOf vs1.toArray k) :: rest) → Q (.bool true) { s with heap := h', toks := tk' }) → wpAny (model PySem.Challenge.rw_pc0174_01.row.prog w) (ktrTop dp un gd cn cs L a ccd cl outer) (call (.ref 444) [.ref x, .int 3 to, .int ins ti]) Q E s := by
  k_fill
  refine (?k7k : KBcx ?f7f); refine ep_cx ?_; apply (?f7f _ _ _ _ _ _ _ _ _ _ _ _ _ _ _ _ _ _ _ _ _ _ _); (try any_goals exact default); intros w p loose mean mg mb dp un gd cn cs a ccd cl outer A₀ base h₀ L m s Q E; refine Bx.mk ?_
  refine (?k8k : KB8 ?f8f); refine ep8 (by repeat' (first | infer_instance | exact ne_world | exact ne_shared | exact ne_around | exact ⟨.none⟩ | exact ⟨⟨0, 0, 0, 0⟩⟩ | refine ne_prod ?_ ?_)) ?_; apply (?f8f _ _ _ _ _ _ _ _); (try any_goals exact default); intros x dx st kk es nd k fx; refine Bx.mk ?_; refine (?k9k : KB8 ?f9f); refine ep8 (by repeat' (first | infer_instance | exact ne_world | exact ne_shared | exact ne_around | exact ⟨.none⟩ | exact ⟨⟨0, 0, 0, 0⟩⟩ | refine ne_prod ?_ ?_)) ?_; apply (?f9f _ _ _ _ _ _ _ _); (try any_goals exact default); intros pc tpc xs vs rest ins to ti; refine Bx.mk ?_
  intro B F X N T hck hd9 hu9 hne hrd hrs hD hx hxl hf1 hi hi2 ha hb hf2 hret
  have hne0 := hne
  obtain ⟨hne1, hne2, hne3⟩ := hne0
  have hl := hx.length
  refine wpAny_call ?_
  k_dflt cell_enter
  k_steps
  (rename News h₀ L _ _ => lN); (rename RVs _ _ => h1); (rename StepD _ _ _ _ => h3)
  rw [Int.add_zero] at h3
  exact hret _ _ _ _ _ h1 h3 (by k_asm) lN

theorem rows_Fx1_4 : True := by
  k_with "call ref" => (k_here; k_dflt (refine' done3_ok _ _ _ _ _ _ _ _ _ _ _ _ _ _ _ _ _ _ _ _ _ _ _ _ _ _ _ _ _ _ _ _ _ _ _ _ _ _ _ ?kB ?kF ?kX ?kN ?kT ?kK ?kd ?ku ?q0 ?q1 ?q2 ?q3 ?q4 ?q5 ?q6 ?q7 ?q8 ?q9 ?q10 ?q11 ?_; (case kB => k_asm); (case kF => k_asm); (case kX => k_asm); (case kN => k_asm); (case kT => k_asm); (case kK => first | exact rfl | assumption); (case kd => ktr_room); (case ku => ktr_units); (case q0 => assumption); (case q1 => assumption); (case q2 => assumption); (case q3 => assumption); (case q4 => assumption); (case q5 => assumption); (case q6 => assumption); (case q7 => assumption); (case q8 => assumption); (case q9 => assumption); (case q10 => assumption); (case q11 => assumption); k_whole); intro vs1_z es'_z tp'_z h'_z tk'_z hzs_z hD1_z F'_z N'_z; (try k_sweep))
  trivial
theorem rows_Fx1_5 : True := by
  k_with "call ref" => (k_here; k_dflt (refine' op_of_ok _ _ _ _ _ _ _ _ _ _ _ _ _ _ _ _ _ _ _ _ _ _ _ _ _ _ _ ?kB ?kF ?kX ?kN ?kT ?kK ?kd ?ku ?q0 ?q1 ?q2 ?_; (case kB => k_asm); (case kF => k_asm); (case kX => k_asm); (case kN => k_asm); (case kT => k_asm); (case kK => first | exact rfl | assumption); (case kd => ktr_room); (case ku => ktr_units); (case q0 => first | assumption | l_fact); (case q1 => first | assumption | l_fact); (case q2 => first | assumption | exact rfl); k_whole); intro t_z h'_z tk'_z  F'_z N'_z; (try k_sweep))
  k_with "call ref" => (k_here; k_dflt (refine' done_ret _ _ _ _ _ _ _ _ _ _ _ _ _ _ _ _ _ _ _ _ _ _ _ _ _ _ _ _ _ _ _ _ _ _ _ _ _ ?kB ?kF ?kX ?kN ?kT ?kK ?kd ?ku ?q0 ?q1 ?q2 ?q3 ?q4 ?q5 ?q6 ?q7 ?q8 ?q9 ?q10 ?_; (case kB => k_asm); (case kF => k_asm); (case kX => k_asm); (case kN => first | exact news_in3 (by k_asm) | k_asm); (case kT => k_asm); (case kK => first | exact rfl | assumption); (case kd => ktr_room); (case ku => ktr_units); (case q0 => assumption); (case q1 => assumption); (case q2 => assumption); (case q3 => assumption); (case q4 => assumption); (case q5 => assumption); (case q6 => assumption); (case q7 => assumption); (case q8 => assumption); (case q9 => assumption); (case q10 => assumption); k_whole); intro rl_z kr_z zs_z es'_z h'_z tk'_z hzs_z hD1_z hlt_z F'_z N'_z; (try k_sweep))
  k_with "getAttr ref" => (k_here; k_dflt (refine' get_own ?k1 ?k2 ?k3 ?k4 ?k5 ?k6 ?k7 ?k8 ?k9 ?_; (case k1 => k_asm); (case k2 => k_asm); (case k3 => k_inst); (case k4 => k_is); (case k5 => k_is); (case k6 => k_is); (case k7 => k_is); (case k8 => first | assumption | exact StepD.get (by assumption) (by assumption) (by decide) (by decide) | exact StepD.pc (by assumption) | exact StepD.res (by assumption)); (case k9 => k_handed); k_whole))
  k_with "setAttr ref" => (k_here; k_dflt (refine' set_pcK ?k1 ?k2 ?k3 ?k4 ?k5 ?k6 ?k7 ?k8 ?k9 ?k10 ?k11 ?_; (case k1 => k_asm); (case k2 => k_asm); (case k3 => k_asm); (case k4 => k_inst); (case k5 => exact rfl); (case k6 => k_is); (case k7 => k_is); (case k8 => k_is); (case k9 => k_is); (case k10 => assumption); (case k11 => k_updF); k_whole); intro es_z h'_z hD_z F'_z N'_z; (try dsimp only at N'_z); (try k_sweep))
  k_with "getMethod ref" => (k_here; k_dflt (refine' method_inst ?k1 ?k2 ?k3 ?k4 ?k5 ?k6 ?k7 ?_; (case k1 => k_asm); (case k2 => k_asm); (case k3 => k_inst); (case k4 => k_is); (case k5 => k_is); (case k6 => k_is); (case k7 => exact StepD.no (by assumption) _ (by decide)); k_whole))
  k_with "subscriptTail" => (k_here; (with_reducible show wpAny _ _ (subscriptTail _ _ (Value.ref _) (Value.int _ _)) _ _ _); k_dflt (refine' kv_subI ?k1 ?k2 ?k3 ?k4 ?k5 ?k6 ?_ ?k7; (case k1 => k_asm); (case k2 => k_mem); (case k3 => assumption); (case k4 => decide); (case k5 => (rw [hcl]; decide)); (case k6 => omega); (case k7 => with_unfolding_all rfl); k_whole); intro u_z)
  k_with "exec For Name Call cons nil" => (k_here; (rename Fr _ _ _ _ => lF'_z); (with_unfolding_all refine' For_invVF lF'_z ?k1 ?k2 ?_; (case k1 => exact rfl); (case k2 => exact rfl); k_whole))
  k_with "pyIter ref" => ((with_reducible show wpAny _ _ (pyIter (Value.ref _)) (fun it s₂ => LoopAtV _ _ _ _ _ _ _ _ _ it s₂) _ _); refine Stop.un ?_)
  trivial
theorem rows_Fx1_9 : True := by
  k_with "call ref" => (k_here; k_dflt (refine' done3_ok _ _ _ _ _ _ _ _ _ _ _ _ _ _ _ _ _ _ _ _ _ _ _ _ _ _ _ _ _ _ _ _ _ _ _ _ _ _ _ ?kB ?kF ?kX ?kN ?kT ?kK ?kd ?ku ?q0 ?q1 ?q2 ?q3 ?q4 ?q5 ?q6 ?q7 ?q8 ?q9 ?q10 ?q11 ?_; (case kB => k_asm); (case kF => k_asm); (case kX => k_asm); (case kN => first | exact news_in3 (by k_asm) | k_asm); (case kT => k_asm); (case kK => first | exact rfl | assumption); (case kd => ktr_room); (case ku => ktr_units); (case q0 => assumption); (case q1 => assumption); (case q2 => assumption); (case q3 => assumption); (case q4 => assumption); (case q5 => assumption); (case q6 => assumption); (case q7 => assumption); (case q8 => assumption); (case q9 => assumption); (case q10 => assumption); (case q11 => assumption); k_whole); intro vs1_z es'_z tp'_z h'_z tk'_z hzs_z hD1_z F'_z N'_z; (try k_sweep))
  trivial
theorem run3_ok : ∀ (w : World) (p : Program) (loose : List Str) (mean : ExcName → Option Value) (mg mb : Str → Option Value) (dp un : Nat) (gd : Option (List Code)) (cn : Str) (cs : Scope) (a : Addr) (ccd : Value) (cl : List (Str × Addr)) (outer : List Env) (A₀ : Around) (base h₀ : Heap) (L : Addr) (m : Str → Option Value) (s : Shared) (Q E : Value → Shared → Prop) (x dx st kk cd : Addr) (es : List DictEntry) (nd k kc : Nat) (fx : Str → Option Value) (tpc tm : Tok) (xs : List RV) (vs cvs : List Value) (rest : List (Addr × Obj)), Below A₀ base outer h₀ → Fr h₀ L s.heap m → (Kf w.params).In h₀ → News h₀ L s.heap ((x, instObj 503 dx) :: (dx, dictOf es nd) :: (st, listOf vs.toArray k) :: rest) → Top p loose mean mg mb h₀ → cs.kind = .function → dp + 5 < recursionLimit → un + 40 < cLine → (@Ne Nat x dx ∧ @Ne Nat x st ∧ @Ne Nat dx st) → (∀ p ∈ rest, p.1 ≠ dx) → (∀ p ∈ rest, p.1 ≠ st) → (StepD fx es (.int 0 tpc) .none) → (RVs xs vs) → (xs.length = 17) → (fx (Str.ofString "stack") = some (.ref st)) → (fx (Str.ofString "constants") = some (.ref kk)) → (fx (Str.ofString "code") = some (.ref cd)) → ((cd, listOf cvs.toArray kc) ∈ rest) → (IntsAre cvs [16777283, 50331678]) → (∀ (T : Addr) (outL : List (Addr × Obj)) (h' : Heap) (tk' : Nat), (OutL (.back ((nilN xs 2).take 5)) T outL) → Fr h₀ L h' m → News h₀ L h' (rest ++ outL) → Q (.ref T) { s with heap := h', toks := tk' }) → wpAny (model PySem.Challenge.rw_pc0174_01.row.prog w) (ktrTop dp un gd cn cs L a ccd cl outer) (call (.ref 437) [.ref x, .int 5 tm]) Q E s := by
  k_fill
  refine (?k10k : KBcx ?f10f); refine ep_cx ?_; apply (?f10f _ _ _ _ _ _ _ _ _ _ _ _ _ _ _ _ _ _ _ _ _ _ _); (try any_goals exact default); intros w p loose mean mg mb dp un gd cn cs a ccd cl outer A₀ base h₀ L m s Q E; refine Bx.mk ?_
  refine (?k11k : KB8 ?f11f); refine ep8 (by repeat' (first | infer_instance | exact ne_world | exact ne_shared | exact ne_around | exact ⟨.none⟩ | exact ⟨⟨0, 0, 0, 0⟩⟩ | refine ne_prod ?_ ?_)) ?_; apply (?f11f _ _ _ _ _ _ _ _); (try any_goals exact default); intros x dx st kk cd es nd k; refine Bx.mk ?_; refine (?k12k : KB8 ?f12f); refine ep8 (by repeat' (first | infer_instance | exact ne_world | exact ne_shared | exact ne_around | exact ⟨.none⟩ | exact ⟨⟨0, 0, 0, 0⟩⟩ | refine ne_prod ?_ ?_)) ?_; apply (?f12f _ _ _ _ _ _ _ _); (try any_goals exact default); intros kc fx tpc tm xs vs cvs rest; refine Bx.mk ?_
  intro B F X N T hck hd9 hu9 hne hrd hrs hD hx hxl hf1 hf2 hfc hcd hcv hret
  have hne0 := hne
  obtain ⟨hne1, hne2, hne3⟩ := hne0
  have hcl := IntsAre.length hcv
  refine wpAny_call ?_
  k_dflt cell_enter
  k_steps
  refine Stop.mk ?_
  (rename Fr _ _ _ _ => lF'); (rename News _ _ _ _ => lN'); (rename IsRange _ _ _ _ _ _ _ _ => lR')
  with_unfolding_all refine iter_rangeUnr (n := 5) (by rfl) lR' (by decide) (by decide) lF' lN' ?_
  clear lF' lN'
  intro I hI
  have hIr : ∀ p ∈ rest, p.1 < I := fun p hp => hI p (.tail _ (.tail _ (.tail _ hp)))
  have hI1 : @LT.lt Nat _ x I := hI (x, _) (.head _)
  have hI2 : @LT.lt Nat _ dx I := hI (dx, _) (.tail _ (.head _))
  have hI3 : @LT.lt Nat _ st I := hI (st, _) (.tail _ (.tail _ (.head _)))
  have hIx : @Ne Nat I x := Nat.ne_of_gt hI1
  have hId : @Ne Nat I dx := Nat.ne_of_gt hI2
  have hIs : @Ne Nat I st := Nat.ne_of_gt hI3
  clear hI
  refine rangeRest_ofN [Str.ofString "turn", Str.ofString "instruction"] (fun i g nw => ∃ (pc : Int) (tp : Tok) (vs' : List Value) (ys : List RV) (es' : List DictEntry), nw = (x, instObj 503 dx) :: (dx, dictOf es' nd) :: (st, listOf vs'.toArray k) :: rest ∧ StepD fx es' (.int pc tp) .none ∧ RVs ys vs' ∧ ((i = 0 ∧ pc = 0 ∧ ys = xs) ∨ (i = 1 ∧ pc = 1 ∧ ys = nilN xs 2))) ?turn ?done ⟨0, _, vs, xs, es, rfl, hD, hx, .inl ⟨rfl, rfl, rfl⟩⟩
  case turn =>
    intro i g nw t h₂ tk₂ hi hj F2 N2
    obtain ⟨pc, tp, vs', ys, es', rfl, hD', hys, hst⟩ := hj
    revert pc tp vs' ys es'
    refine (?k13k : KB5 ?f13f); refine ep5 (by repeat' (first | infer_instance | exact ne_world | exact ne_shared | exact ne_around | exact ⟨.none⟩ | exact ⟨⟨0, 0, 0, 0⟩⟩ | refine ne_prod ?_ ?_)) ?_; apply (?f13f _ _ _ _ _); (try any_goals exact default); intros pc tp vs' ys es'; refine Bx.mk ?_
    set_option tactic.hygienic false in intros
    dsimp only [over] at F2
    clear hx hD
    generalize itR (0 + ((i + 1 : Nat) : Int)) (((5 : Nat) : Int) - ((i + 1 : Nat) : Int)) = oI at N2 ⊢
    have hrJ : ∀ q ∈ (I, oI) :: rest, q.1 ≠ dx := cons_all hId hrd
    have hsJ : ∀ q ∈ (I, oI) :: rest, q.1 ≠ st := cons_all hIs hrs
    rcases hst with ⟨rfl, rfl, rfl⟩ | ⟨rfl, rfl, rfl⟩
    · have hcr : (0 ≤ ([16777283, 50331678] : List Int).getD (0 : Int).toNat 0 ∧ ([16777283, 50331678] : List Int).getD (0 : Int).toNat 0 < 2 ^ 40) ∧ ([16777283, 50331678] : List Int).getD (0 : Int).toNat 0 % 64 = 3 ∧ ([16777283, 50331678] : List Int).getD (0 : Int).toNat 0 / 64 % 256 = 1 ∧ ([16777283, 50331678] : List Int).getD (0 : Int).toNat 0 / 8388608 = 2 := by decide
      obtain ⟨⟨hc0, hc1⟩, hc2, hc3, hc4⟩ := hcr
      k_steps
      (rename News _ _ _ _ => lN); (rename Fr _ _ _ _ => lF); (rename StepD _ _ _ _ => hD2); (rename RVs _ _ => hv2)
      refine unrEnd_of lF (news_out3 lN) 1 (.head _) (off3 hI1 hI2 hI3 hIr) ⟨by repeat (first | exact fun _ _ => rfl | refine keep_if (by k_mem) ?_), _, _, _, _, _, rfl, hD2, hv2, .inr (by refine ⟨?_, ?_, ?_⟩ <;> first | rfl | trivial | decide)⟩
    · have hyl : (nilN xs 2).length = 17 := by rw [nilN_len, hxl]
      have hcr : (0 ≤ ([16777283, 50331678] : List Int).getD (1 : Int).toNat 0 ∧ ([16777283, 50331678] : List Int).getD (1 : Int).toNat 0 < 2 ^ 40) ∧ ([16777283, 50331678] : List Int).getD (1 : Int).toNat 0 % 64 = 30 ∧ ([16777283, 50331678] : List Int).getD (1 : Int).toNat 0 / 64 % 256 = 0 ∧ ([16777283, 50331678] : List Int).getD (1 : Int).toNat 0 / 8388608 = 6 := by decide
      obtain ⟨⟨hc0, hc1⟩, hc2, hc3, hc4⟩ := hcr
      k_steps
      (rename News h₀ L _ _ => lN)
      exact hret _ _ _ _ ⟨_, _, _, _, rfl, by assumption⟩ (by k_asm) (nwBk lN)
  case done =>
    intro g nw h₂ tk₂ hj F2 N2
    obtain ⟨pc, tp, vs', ys, es', rfl, hD', hys, hst⟩ := hj
    revert pc tp vs' ys es'
    refine (?k14k : KB5 ?f14f); refine ep5 (by repeat' (first | infer_instance | exact ne_world | exact ne_shared | exact ne_around | exact ⟨.none⟩ | exact ⟨⟨0, 0, 0, 0⟩⟩ | refine ne_prod ?_ ?_)) ?_; apply (?f14f _ _ _ _ _); (try any_goals exact default); intros pc tp vs' ys es'; refine Bx.mk ?_
    set_option tactic.hygienic false in intros
    omega

end Mine
end
section
namespace Mine
theorem rvs_peel {x : RV} {xs : List RV} {zs : List Value} (h : RVs (x :: xs) zs) : ∃ z r, zs = z :: r ∧ x.Is z ∧ RVs xs r := by
  cases zs with
  | nil => exact False.elim h
  | cons z r => exact ⟨z, r, rfl, h.1, h.2⟩
theorem rvs_end {zs : List Value} (h : RVs [] zs) : zs = [] := by
  cases zs with
  | nil => rfl
  | cons z r => exact False.elim h
theorem five_is {zs : List Value} {xs : List RV} (e : xs = [.int 5, .none, .none, .int 8, .int 9]) (h : RVs xs zs) : ∃ a b c, zs = [.int 5 a, .none, .none, .int 8 b, .int 9 c] := by
  subst e
  obtain ⟨_, r1, rfl, ⟨a, rfl⟩, h1⟩ := rvs_peel h
  obtain ⟨_, r2, rfl, rfl, h2⟩ := rvs_peel h1
  obtain ⟨_, r3, rfl, rfl, h3⟩ := rvs_peel h2
  obtain ⟨_, r4, rfl, ⟨d, rfl⟩, h4⟩ := rvs_peel h3
  obtain ⟨_, r5, rfl, ⟨e, rfl⟩, h5⟩ := rvs_peel h4
  exact ⟨a, d, e, by rw [rvs_end h5]⟩
theorem five_rv {a b c d e : Tok} : RVs [.int 5, .int 6, .int 7, .int 8, .int 9] [.int 5 a, .int 6 b, .int 7 c, .int 8 d, .int 9 e] := ⟨⟨_, rfl⟩, ⟨_, rfl⟩, ⟨_, rfl⟩, ⟨_, rfl⟩, ⟨_, rfl⟩, trivial⟩
theorem news_hd2 {h₀ h : Heap} {L : Addr} {p q : Addr × Obj} {n : List (Addr × Obj)} (N : News h₀ L h (n ++ [p, q])) : News h₀ L h (p :: q :: n) := fun r hr => N r (by
  simp only [List.mem_cons, List.mem_append, List.not_mem_nil, or_false] at hr ⊢
  rcases hr with h | h | h <;> simp only [h, true_or, or_true])
theorem rows_Fd1_1 : True := by
  k_with_none
  k_with "EP" => (k_whole; fail_if_success (fail_if_success (rename Below _ _ _ _ => b9_z)))
  k_with "subscriptTail Name Slice ref ref" => (k_here; (with_reducible show wpAny _ _ (subscriptTail _ (PySem.Expr.Slice _ _ _ _) (Value.ref _) (Value.ref _)) _ _ _); k_dflt (refine' kmk_slice_lit ?k1 ?k2 ?k3 ?k4 ?k5 ?k6 ?_ ?k7 ?k8 ?k9; (case k1 => k_asm); (case k2 => k_asm); (case k3 => kmk_list); (case k4 => kmk_part); (case k5 => kmk_part); (case k6 => first | exact kv_all _ | exact kv_upto _ (by omega) | exact kv_run _ (by omega) (by omega)); (case k7 => with_unfolding_all rfl); (case k8 => kmk_pure); (case k9 => first | exact kv_size (by assumption) (by simp only [sizeLine_eq]; omega) | exact Nat.le_of_ble_eq_true rfl); k_whole); intro D_z h'_z F'_z N'_z l1_z; (try k_lt l1_z); (try k_sweep))
  k_with "call ref" => (k_here; k_dflt (refine' stepper_new _ _ _ _ _ _ _ _ _ _ _ _ _ _ _ _ _ _ _ _ _ _ _ _ _ _ _ _ _ _ _ ?kB ?kF ?kX ?kN ?kT ?kK ?kd ?ku ?q0 ?q1 ?_; (case kB => k_asm); (case kF => k_asm); (case kX => k_asm); (case kN => k_asm); (case kT => k_asm); (case kK => first | exact rfl | assumption); (case kd => ktr_room); (case ku => ktr_units); (case q0 => k_mem); (case q1 => first | assumption | exact rfl); k_whole); intro x_z dx_z st_z es_z nd_z k_z tp_z h'_z tk'_z hD_z hno_z hlt_z hlt2_z hlt3_z F'_z N'_z; (try k_sweep))
  k_with "getMethod ref" => (k_here; k_dflt (refine' method_inst ?k1 ?k2 ?k3 ?k4 ?k5 ?k6 ?k7 ?_; (case k1 => k_asm); (case k2 => k_asm); (case k3 => k_inst); (case k4 => k_is); (case k5 => k_is); (case k6 => k_is); (case k7 => assumption); k_whole))
  k_with "call ref" => ((show wpAny _ _ (call (Value.ref 437) _) _ _ _); refine Stop.un ?_)
  k_with "call ref" => ((show wpAny _ _ (call (Value.ref 531) _) _ _ _); refine Stop.un ?_)
  trivial
theorem fixed_ok : lawP (stm 93) (by with_unfolding_all rfl) fun b4 b5 b6 _ _ _ _ _ sc => ∀ (w : World) (p : Program) (loose : List Str) (mean : ExcName → Option Value) (mg mb : Str → Option Value) (dp un : Nat) (a : Addr) (ccd : Value) (A₀ : Around) (base h₀ : Heap) (L : Addr) (gm : Str → Option Value) (s : Shared) (Q : Flow → Shared → Prop) (E : Value → Shared → Prop) (rest : List (Addr × Obj)) (more : List Stmt) (wk bn dw dl lf lc : Addr) (nl nw : Nat) (esl esw : List DictEntry) (wd : Int) (tw tw2 tt : Tok) (nm ql : Str) (pmv ctv : Value) (lo : Obj) (lvs : Array Value) (tq : Tok), Below A₀ base [] h₀ → Fr h₀ L s.heap (fun y => if y = Str.ofString "works" then some (.ref wk) else if y = Str.ofString "bounds" then some (.ref bn) else if y = Str.ofString "width" then some (.int wd tw2) else gm y) → (Kf w.params).In h₀ → News h₀ L s.heap rest → Top p loose mean mg mb h₀ → dp + 16 < recursionLimit → un + 128 < cLine → WB rest wk bn dw dl lf lc nl nw esl esw wd tw tt nm ql pmv ctv lo lvs tq →
   (∀ (m' : Str → Option Value) (h' : Heap) (tk' : Nat), Fr h₀ L h' m' → (∀ y, y ∉ [Str.ofString "plain", Str.ofString "code"] → m' y = if y = Str.ofString "works" then some (.ref wk) else if y = Str.ofString "bounds" then some (.ref bn) else if y = Str.ofString "width" then some (.int wd tw2) else gm y) → News h₀ L h' rest → wpAny (model PySem.Challenge.rw_pc0174_01.row.prog w) (ktrTop dp un (some []) (Str.ofString "law") sc L a ccd (cellsFrom (L + 1) sc.names []) []) (execs more (envOfC (Str.ofString "law") sc L a ccd)) Q E { s with heap := h', toks := tk' }) →
   wpAny (model PySem.Challenge.rw_pc0174_01.row.prog w) (ktrTop dp un (some []) (Str.ofString "law") sc L a ccd (cellsFrom (L + 1) sc.names []) []) (execs (b4 :: b5 :: b6 :: more) (envOfC (Str.ofString "law") sc L a ccd)) Q E s := by
  dsimp only [lawP]
  k_fill
  refine (?k1k : KB14 ?f1f); refine ep14 (by repeat' (first | infer_instance | exact ne_world | exact ne_shared | exact ne_around | exact ⟨.none⟩ | exact ⟨⟨0, 0, 0, 0⟩⟩ | refine ne_prod ?_ ?_)) ?_; apply (?f1f _ _ _ _ _ _ _ _ _ _ _ _ _ _); (try any_goals exact default); intros w p loose mean mg mb dp un a ccd A₀ base h₀ L; refine Bx.mk ?_; refine (?k2k : KB14 ?f2f); refine ep14 (by repeat' (first | infer_instance | exact ne_world | exact ne_shared | exact ne_around | exact ⟨.none⟩ | exact ⟨⟨0, 0, 0, 0⟩⟩ | refine ne_prod ?_ ?_)) ?_; apply (?f2f _ _ _ _ _ _ _ _ _ _ _ _ _ _); (try any_goals exact default); intros gm s Q E rest more wk bn dw dl lf lc nl nw; refine Bx.mk ?_; refine (?k3k : KB13 ?f3f); refine ep13 (by repeat' (first | infer_instance | exact ne_world | exact ne_shared | exact ne_around | exact ⟨.none⟩ | exact ⟨⟨0, 0, 0, 0⟩⟩ | refine ne_prod ?_ ?_)) ?_; apply (?f3f _ _ _ _ _ _ _ _ _ _ _ _ _); (try any_goals exact default); intros esl esw wd tw tw2 tt nm ql pmv ctv lo lvs tq; refine Bx.mk ?_
  intro B F X N T hd9 hu9 hW hret
  k_steps
  refine Stop.mk ?_
  (rename News _ _ _ _ => lN); (rename Fr _ _ _ _ => lF)
  refine' coded_ok _ _ _ _ _ _ _ _ _ _ _ _ _ _ _ _ _ _ _ _ _ _ _ _ _ _ [.ref _, .ref _] [⟨3, 1, 2, 0⟩, RET] B lF X lN T ?kk ?kd ?ku (.head _) ?hro ?hrows ?fin
  case kk => exact rfl
  case kd => ktr_room
  case ku => ktr_units
  case hro => exact ⟨⟨_, _, _, _, _, rfl, .tail _ (.tail _ (.head _))⟩, ⟨_, _, _, _, _, rfl, .tail _ (.head _)⟩, trivial⟩
  case hrows =>
    refine ⟨fun r hr => ?_, Nat.le_of_ble_eq_true rfl⟩
    rcases List.mem_cons.mp hr with rfl | hr
    · exact ⟨.inr (.inr (.inr (.inl rfl))), by decide, by decide, by decide⟩
    · rw [List.mem_singleton.mp hr]
      exact ⟨.inr (.inr (.inr (.inr (.inr rfl)))), by decide, by decide, by decide⟩
  case fin =>
    intro D9 kc9 cvs9 h9 tk9 hcv9 hlt9 F9 N9
    rw [show List.map R.code [⟨3, 1, 2, 0⟩, RET] = [16777283, 50331678] by decide +kernel] at hcv9
    clear lN lF hlt9
    k_steps
    refine Stop.mk ?_
    (rename News _ _ _ _ => lN); (rename Fr _ _ _ _ => lF); (rename StepD _ _ _ _ => hD)
    refine' run3_ok _ _ _ _ _ _ _ _ _ _ _ _ _ _ _ _ _ _ _ _ _ _ _ _ _ _ _ D9 _ _ _ kc9 _ _ _ ([.int 5, .int 6, .int 7, .int 8, .int 9] ++ List.replicate 12 .none) _ cvs9 _ B lF X lN T ?kk ?kd ?ku (run_ne3 hlt2_z hlt3_z) (fun q hq => Nat.ne_of_lt (hlt_z q hq)) (fun q hq => Nat.ne_of_lt (Nat.lt_trans (hlt_z q hq) (Nat.lt_trans hlt2_z hlt3_z))) hD (RVs.append five_rv rvs_nones) rfl fxOf_is.1.1 fxOf_is.1.2.1 fxOf_is.2 (.tail _ (.tail _ (.head _))) hcv9 ?fin2
    case kk => exact rfl
    case kd => ktr_room
    case ku => ktr_units
    case fin2 =>
      intro T1 out1 h1 tk1 hol1 F1 N1
      obtain ⟨rl9, t9, kr9, zs9, rfl, hz9⟩ := hol1
      obtain ⟨a1, b1, c1, rfl⟩ := five_is rfl hz9
      replace N1 := news_hd2 N1
      clear lN lF
      k_steps
      (rename News h₀ L _ _ => lN)
      refine hret _ _ _ (by k_asm) (fun y hy => ?_) fun q hq => lN q (.tail _ (.tail _ (.tail _ (.tail _ (.tail _ (.tail _ (.tail _ (.tail _ (.tail _ (.tail _ (.tail _ hq)))))))))))
      simp only [List.mem_cons, List.not_mem_nil, or_false, not_or] at hy
      simp only [hy, if_false]

end Mine
end
section
namespace Mine
theorem news_bx {h₀ h : Heap} {L : Addr} {p0 p1 p2 : Addr × Obj} {n : List (Addr × Obj)} (N : News h₀ L h (p0 :: p1 :: p2 :: n)) : News h₀ L h (p2 :: p0 :: p1 :: n) := fun q hq => N q (sub_cons (.tail _ (.tail _ (.head _))) (sub_cons (.head _) (sub_cons (.tail _ (.head _)) (fun q h => .tail _ (.tail _ (.tail _ (h)))))) q hq)
theorem news_r5 {h₀ h : Heap} {L : Addr} {p0 p1 q0 q1 q2 q3 : Addr × Obj} {tup n : List (Addr × Obj)} (N : News h₀ L h (p0 :: p1 :: (tup ++ (q0 :: q1 :: q2 :: q3 :: n)))) : News h₀ L h (p0 :: q1 :: q0 :: p1 :: q2 :: q3 :: (tup ++ n)) := fun r hr => N r (by
  simp only [List.mem_cons, List.mem_append] at hr ⊢
  rcases hr with h | h | h | h | h | h | h | h <;> simp only [h, true_or, or_true])
theorem news_fin {h₀ h : Heap} {L : Addr} {d p0 q1 q0 p1 q2 q3 : Addr × Obj} {a b n : List (Addr × Obj)} (N : News h₀ L h (d :: p0 :: q1 :: q0 :: p1 :: q2 :: q3 :: (a ++ (b ++ n)))) : News h₀ L h (q0 :: d :: p1 :: q2 :: q3 :: ((a ++ b) ++ n)) := fun q hq => N q (sub_cons (.tail _ (.tail _ (.tail _ (.head _)))) (sub_cons (.head _) (sub_cons (.tail _ (.tail _ (.tail _ (.tail _ (.head _))))) (sub_cons (.tail _ (.tail _ (.tail _ (.tail _ (.tail _ (.head _)))))) (sub_cons (.tail _ (.tail _ (.tail _ (.tail _ (.tail _ (.tail _ (.head _))))))) (fun q h => .tail _ (.tail _ (.tail _ (.tail _ (.tail _ (.tail _ (.tail _ (List.append_assoc _ _ _ ▸ h)))))))))))) q hq)
theorem same4 {y a b c d : Str} {A B C D z : Option Value} : (if y = a then A else if y = b then B else if y = c then C else if y = d then D else if y = a then A else if y = b then B else if y = c then C else if y = d then D else z) = (if y = a then A else if y = b then B else if y = c then C else if y = d then D else z) := by
  by_cases h1 : y = a
  · exact (if_pos h1).trans (if_pos h1).symm
  by_cases h2 : y = b
  · exact ((if_neg h1).trans (if_pos h2)).trans ((if_neg h1).trans (if_pos h2)).symm
  by_cases h3 : y = c
  · exact ((if_neg h1).trans ((if_neg h2).trans (if_pos h3))).trans ((if_neg h1).trans ((if_neg h2).trans (if_pos h3))).symm
  by_cases h4 : y = d
  · exact ((if_neg h1).trans ((if_neg h2).trans ((if_neg h3).trans (if_pos h4)))).trans ((if_neg h1).trans ((if_neg h2).trans ((if_neg h3).trans (if_pos h4)))).symm
  exact (if_neg h1).trans ((if_neg h2).trans ((if_neg h3).trans (if_neg h4)))
theorem rows_Rl1_1 : True := by
  k_with_none
  k_with "EP" => (k_whole; fail_if_success (fail_if_success (rename Below _ _ _ _ => b9_z)))
  k_with "binaryOp Add ref ref" => (k_here; (with_reducible show wpAny _ _ (binaryOp _ (Value.ref _) (Value.ref _)) _ _ _); k_dflt (refine' kv_add ?aF ?aN ?aa ?ab ?az ?_; (case aF => k_asm); (case aN => k_asm); (case aa => k_mem); (case ab => k_mem); (case az => ((try simp only [List.length_append, List.length_cons, List.length_nil, List.length_replicate]); omega)); k_whole); intro D_z h'_z F'_z N'_z l1_z; (try k_lt l1_z); (try k_sweep))
  k_with "exec For Name Call cons nil" => (k_here; (rename Fr _ _ _ _ => lF'_z); (with_unfolding_all refine' For_invVF (hE := by first | assumption | passes_own) lF'_z ?k1 ?k2 ?_; (case k1 => exact rfl); (case k2 => exact rfl); k_whole))
  k_with "pyIter ref" => ((with_reducible show wpAny _ _ (pyIter (Value.ref _)) (fun it s₂ => LoopAtV _ _ _ _ _ _ _ _ _ it s₂) _ _); refine Stop.un ?_)
  k_with "call ref" => ((show wpAny _ _ (call (Value.ref 588) _) _ _ _); refine Stop.un ?_)
  k_with "execs cons Assign cons" => ((with_reducible show wpAny _ _ (execs (Stmt.Assign [Expr.Name (Str.ofString "stepper") _] _ _ :: _) _) _ _ _); refine Stop.un ?_)
  trivial
theorem rows5_ok : lawP (stm 93) (by with_unfolding_all rfl) fun _ _ _ _ _ t2 t3 tl sc => ∀ (w : World) (p : Program) (loose : List Str) (mean : ExcName → Option Value) (mg mb : Str → Option Value) (dp un : Nat) (a : Addr) (ccd : Value) (A₀ : Around) (base h₀ : Heap) (L : Addr) (gm : Str → Option Value) (s : Shared) (Q : Flow → Shared → Prop) (E : Value → Shared → Prop) (rest : List (Addr × Obj)) (b : Addr) (g c : Int) (t0 t1 : Tok) (n : Nat) (oc : Obj) (r0 ro : Addr) (k0 kg : Nat) (vs : List Value) (xs : List RV) (wk bn dw dl lf lc : Addr) (nl nw : Nat) (esl esw : List DictEntry) (wd : Int) (tw tw2 tt : Tok) (nm ql : Str) (pmv ctv : Value) (lo : Obj) (lvs : Array Value) (tq : Tok), Below A₀ base [] h₀ → Fr h₀ L s.heap (fun y => if y = Str.ofString "registers" then some (.ref ro) else if y = Str.ofString "rows" then some (.ref r0) else if y = Str.ofString "works" then some (.ref wk) else if y = Str.ofString "bounds" then some (.ref bn) else if y = Str.ofString "width" then some (.int wd tw2) else gm y) → (Kf w.params).In h₀ → News h₀ L s.heap ((r0, listOf (List.toArray []) k0) :: (b, listOf [.int g t0, .int c t1].toArray n) :: (L + 1, oc) :: (ro, listOf vs.toArray kg) :: rest) → Top p loose mean mg mb h₀ → dp + 16 < recursionLimit → un + 128 < cLine → PassesOwn (model PySem.Challenge.rw_pc0174_01.row.prog w) (ktrTop dp un (some []) (Str.ofString "law") sc L a ccd (cellsFrom (L + 1) sc.names []) []) (envOfC (Str.ofString "law") sc L a ccd) E → oc.data = Data.cell (some (.ref b)) → @Ne Nat (L + 1) b → @Ne Nat r0 b → @Ne Nat ro b → (∀ p ∈ rest, p.1 ≠ b) → (0 ≤ g ∧ g < 2 ^ 400) → (0 ≤ c ∧ c < 1000) → WB rest wk bn dw dl lf lc nl nw esl esw wd tw tt nm ql pmv ctv lo lvs tq → RVs xs vs → xs.length = 5 → (∀ x ∈ xs, okV x) →
   (∀ (g' c' : Int) (t0' t1' : Tok) (m' : Str → Option Value) (h' : Heap) (tk' : Nat), (0 ≤ g' ∧ g' < 2 ^ 400) → (0 ≤ c' ∧ c' ≤ c + 60) → Fr h₀ L h' m' → (∀ y, y ∉ [Str.ofString "spot", Str.ofString "rows", Str.ofString "stepper"] → m' y = if y = Str.ofString "registers" then some (.ref ro) else if y = Str.ofString "rows" then some (.ref r0) else if y = Str.ofString "works" then some (.ref wk) else if y = Str.ofString "bounds" then some (.ref bn) else if y = Str.ofString "width" then some (.int wd tw2) else gm y) → News h₀ L h' ((b, listOf [.int g' t0', .int c' t1'].toArray n) :: (L + 1, oc) :: rest) → Q .next { s with heap := h', toks := tk' }) →
   wpAny (model PySem.Challenge.rw_pc0174_01.row.prog w) (ktrTop dp un (some []) (Str.ofString "law") sc L a ccd (cellsFrom (L + 1) sc.names []) []) (execs (t2 :: t3 :: tl) (envOfC (Str.ofString "law") sc L a ccd)) Q E s := by
  have htail := tail_ok
  dsimp only [lawP] at htail ⊢
  k_fill
  refine (?k1k : KB14 ?f1f); refine ep14 (by repeat' (first | infer_instance | exact ne_world | exact ne_shared | exact ne_around | exact ⟨.none⟩ | exact ⟨⟨0, 0, 0, 0⟩⟩ | refine ne_prod ?_ ?_)) ?_; apply (?f1f _ _ _ _ _ _ _ _ _ _ _ _ _ _); (try any_goals exact default); intros w p loose mean mg mb dp un a ccd A₀ base h₀ L; refine Bx.mk ?_; refine (?k2k : KB14 ?f2f); refine ep14 (by repeat' (first | infer_instance | exact ne_world | exact ne_shared | exact ne_around | exact ⟨.none⟩ | exact ⟨⟨0, 0, 0, 0⟩⟩ | refine ne_prod ?_ ?_)) ?_; apply (?f2f _ _ _ _ _ _ _ _ _ _ _ _ _ _); (try any_goals exact default); intros gm s Q E rest b g c t0 t1 n oc r0 ro; refine Bx.mk ?_; refine (?k3k : KB14 ?f3f); refine ep14 (by repeat' (first | infer_instance | exact ne_world | exact ne_shared | exact ne_around | exact ⟨.none⟩ | exact ⟨⟨0, 0, 0, 0⟩⟩ | refine ne_prod ?_ ?_)) ?_; apply (?f3f _ _ _ _ _ _ _ _ _ _ _ _ _ _); (try any_goals exact default); intros k0 kg vs xs wk bn dw dl lf lc nl nw esl esw; refine Bx.mk ?_; refine (?k4k : KB11 ?f4f); refine ep11 (by repeat' (first | infer_instance | exact ne_world | exact ne_shared | exact ne_around | exact ⟨.none⟩ | exact ⟨⟨0, 0, 0, 0⟩⟩ | refine ne_prod ?_ ?_)) ?_; apply (?f4f _ _ _ _ _ _ _ _ _ _ _); (try any_goals exact default); intros wd tw tw2 tt nm ql pmv ctv lo lvs tq; refine Bx.mk ?_
  intro B F X N T hd9 hu9 hE hoc hLb hr0 hrob hrb hg hc hW hx hxl hok hret
  k_steps
  refine Stop.mk ?_
  (rename Fr _ _ _ _ => lF'); (rename News _ _ _ _ => lN'); (rename IsRange _ _ _ _ _ _ _ _ => lR')
  with_unfolding_all refine iter_rangeUnr (n := 5) (by rfl) lR' (by decide) (by decide) lF' lN' ?_
  clear lF' lN'
  intro I hI
  have hbI : @LT.lt Nat _ b I := hI (b, _) (.tail _ (.head _))
  have hLI : @LT.lt Nat _ (L + 1) I := hI (L + 1, _) (.tail _ (.tail _ (.head _)))
  have hoI : @LT.lt Nat _ ro I := hI (ro, _) (.tail _ (.tail _ (.tail _ (.head _))))
  have hrI : ∀ p ∈ rest, @LT.lt Nat _ p.1 I := fun p hp => hI p (.tail _ (.tail _ (.tail _ (.tail _ hp))))
  clear hI
  refine rangeRest_ofN [Str.ofString "spot", Str.ofString "rows"] (fun i gm nw => ∃ (rl : Addr) (kr : Nat) (rvs : List Value) (rows : List R) (gb cb : Int) (u0 u1 : Tok) (tups : List (Addr × Obj)), gm (Str.ofString "rows") = some (.ref rl) ∧ nw = (rl, listOf rvs.toArray kr) :: (b, listOf [.int gb u0, .int cb u1].toArray n) :: (L + 1, oc) :: (ro, listOf vs.toArray kg) :: (tups ++ rest) ∧ RowsIn tups rows rvs ∧ okPre rows ∧ rows.length ≤ 5 * i ∧ (0 ≤ gb ∧ gb < 2 ^ 400) ∧ (0 ≤ cb ∧ cb ≤ c + 12 * i) ∧ @Ne Nat rl b ∧ (∀ p ∈ tups, @Ne Nat p.1 b ∧ @Ne Nat p.1 I)) ?turn ?done ⟨r0, k0, [], [], g, c, t0, t1, [], rfl, rfl, trivial, okPre_nil, Nat.le_refl _, hg, ⟨hc.1, by omega⟩, hr0, fun _ h => nomatch h⟩
  case turn =>
    intro i gm nw t h₂ tk₂ hi hj F2 N2
    obtain ⟨rl, kr, rvs, rows, gb, cb, u0, u1, tups, e1, rfl, hro, hpre, hlen, hgb, hcb, hrl, htp⟩ := hj
    revert rl kr rvs rows gb cb u0 u1 tups
    refine (?k5k : KB9 ?f5f); refine ep9 (by repeat' (first | infer_instance | exact ne_world | exact ne_shared | exact ne_around | exact ⟨.none⟩ | exact ⟨⟨0, 0, 0, 0⟩⟩ | refine ne_prod ?_ ?_)) ?_; apply (?f5f _ _ _ _ _ _ _ _ _); (try any_goals exact default); intros rl kr rvs rows gb cb u0 u1 tups; refine Bx.mk ?_
    set_option tactic.hygienic false in intros
    simp only [over, e1] at F2
    generalize itR (0 + ((i + 1 : Nat) : Int)) (((5 : Nat) : Int) - ((i + 1 : Nat) : Int)) = oI at N2 ⊢
    clear hret
    k_steps
    refine Stop.mk ?_
    (rename Fr _ _ _ _ => lF); (rename News _ _ _ _ => lN)
    refine' rows_ok _ _ _ _ _ _ _ _ _ _ _ _ _ _ _ _ _ _ _ _ _ _ _ b gb cb u0 u1 n _ B lF X (news_bx lN) T ?kk ?kd ?ku ?hne hgb ⟨hcb.1, by omega⟩ ?fin
    case kk => exact rfl
    case kd => ktr_room
    case ku => ktr_units
    case hne => exact List.forall_mem_cons.mpr ⟨Nat.ne_of_gt hbI, List.forall_mem_cons.mpr ⟨hrl, List.forall_mem_cons.mpr ⟨hLb, List.forall_mem_cons.mpr ⟨hrob, fun p hp => (List.mem_append.mp hp).elim (fun h => (htp p h).1) (hrb p)⟩⟩⟩⟩
    case fin =>
      intro D9 kr9 rvs9 rows9 g9 c9 t09 t19 tup9 h9 tk9 hok9 hro9 hg9 hc9 hnew9 hlt9 F9 N9
      have hI9 : @LT.lt Nat _ I D9 := hlt9 (I, oI) (.tail _ (List.mem_append_right _ (.head _)))
      have hb9 : @LT.lt Nat _ b D9 := hlt9 (b, _) (.head _)
      replace N9 := news_r5 N9
      have hz1 := RowsIn.length hro
      have hz2 := RowsIn.length hro9
      clear lF lN
      k_steps
      (rename News _ _ _ _ => lN); (rename Fr _ _ _ _ => lF); (rename _ ∧ _ ∧ _ ∧ _ ∧ _ ∧ _ ∧ AllLt _ _ => l9)
      refine unrEnd_of lF (news_fin lN) 1 (.head _) ?off ⟨?keep, _, _, rvs ++ rvs9, rows ++ rows9, g9, c9, t09, t19, tup9 ++ tups, ?e1, rfl, RowsIn.append (hro.more fun _ h => List.mem_append_right _ h) (hro9.more fun _ h => List.mem_append_left _ h), okPre_app hpre hok9.1, ?len, hg9, ⟨hc9.1, ?hc⟩, ?hd, fun p hp => (List.mem_append.mp hp).elim (fun h => ⟨Nat.ne_of_gt (hnew9 p h).1, Nat.ne_of_gt ((hnew9 p h).2 (I, oI) (.head _))⟩) (htp p)⟩
      case off => exact List.forall_mem_cons.mpr ⟨Nat.ne_of_gt (Nat.lt_trans hI9 l9.1), List.forall_mem_cons.mpr ⟨Nat.ne_of_lt hbI, List.forall_mem_cons.mpr ⟨Nat.ne_of_lt hLI, List.forall_mem_cons.mpr ⟨Nat.ne_of_lt hoI, fun p hp => (List.mem_append.mp hp).elim (fun h => (List.mem_append.mp h).elim (fun h => Nat.ne_of_gt ((hnew9 p h).2 (I, oI) (.head _))) fun h => (htp p h).2) fun h => Nat.ne_of_lt (hrI p h)⟩⟩⟩⟩
      case keep =>
        intro y hy
        simp only [List.mem_cons, List.not_mem_nil, or_false, not_or] at hy
        simp only [hy, if_false]
      case e1 => exact rfl
      case len => rw [List.length_append]; have := hok9.2; omega
      case hc => push_cast; omega
      case hd => exact Nat.ne_of_gt (Nat.lt_trans hb9 l9.1)
  case done =>
    intro gm nw h₂ tk₂ hj F2 N2
    obtain ⟨rl, kr, rvs, rows, gb, cb, u0, u1, tups, e1, rfl, hro, hpre, hlen, hgb, hcb, hrl, htp⟩ := hj
    revert rl kr rvs rows gb cb u0 u1 tups
    refine (?k6k : KB9 ?f6f); refine ep9 (by repeat' (first | infer_instance | exact ne_world | exact ne_shared | exact ne_around | exact ⟨.none⟩ | exact ⟨⟨0, 0, 0, 0⟩⟩ | refine ne_prod ?_ ?_)) ?_; apply (?f6f _ _ _ _ _ _ _ _ _); (try any_goals exact default); intros rl kr rvs rows gb cb u0 u1 tups; refine Bx.mk ?_
    set_option tactic.hygienic false in intros
    simp only [over, e1] at F2
    have hz1 := RowsIn.length hro
    k_steps
    refine Stop.mk ?_
    (rename Fr _ _ _ _ => lF); (rename News _ _ _ _ => lN)
    simp only [nm1.2.2.2.2] at lN
    refine' htail _ _ _ _ _ _ _ _ _ _ _ _ _ _ _ _ _ _ _ _ ro _ kg (rvs ++ _) vs (rows ++ [RET]) xs wk bn dw dl lf lc nl nw esl esw wd tw tw2 tt nm ql pmv ctv lo lvs tq B (fr_as lF fun y => put_same ?h1 (put_same ?h2 (put_same ?h3 (put_same ?h4 (put_same ?h5 rfl))))) X lN T hd9 hu9 (.head _) ?m2 (hW.more ?mo) (RowsIn.append (hro.more ?mr) (rowsIn_one (r := RET) (.tail _ (.tail _ (.head _))))) hx hxl hok ⟨rows, rfl, hpre, by omega⟩ ?fin
    case h1 => rfl
    case h2 => rfl
    case h3 => rfl
    case h4 => rfl
    case h5 => rfl
    case m2 => exact .tail _ (.tail _ (.tail _ (.tail _ (.tail _ (.tail _ (.head _))))))
    case mo => exact fun q hq => .tail _ (.tail _ (.tail _ (.tail _ (.tail _ (.tail _ (.tail _ (List.mem_append_right _ hq)))))))
    case mr => exact fun q hq => .tail _ (.tail _ (.tail _ (.tail _ (.tail _ (.tail _ (.tail _ (List.mem_append_left _ hq)))))))
    case fin =>
      intro v9 h9 tk9 F9 N9
      refine hret gb cb u0 u1 _ _ _ hgb ⟨hcb.1, by omega⟩ F9 (fun y hy => ?_) fun q hq => N9 q (.tail _ (.tail _ (.tail _ (.tail _ ?_))))
      · simp only [List.mem_cons, List.not_mem_nil, or_false, not_or] at hy
        simp only [hy, if_false]
        exact same4
      · rcases List.mem_cons.mp hq with rfl | hq
        · exact .head _
        rcases List.mem_cons.mp hq with rfl | hq
        · exact .tail _ (.head _)
        · exact .tail _ (.tail _ (.tail _ (List.mem_append_right _ hq)))

end Mine
end
section
namespace Mine
def poolRV : List RV := [.int 0, .int 1, .int 2, .int (-3), .int 7, .int 30, .bytes #[53], .bytes #[97, 98], .bytes #[], .none, .bool true, .bool false]
theorem pool_okV : ∀ x ∈ poolRV, okV x := fun x h => by
  simp only [poolRV, List.mem_cons, List.not_mem_nil, or_false] at h
  rcases h with h | h | h | h | h | h | h | h | h | h | h | h <;> subst h <;> first | trivial | (exact (by decide : okI _)) | (refine ⟨by decide, fun k hk => ?_⟩; revert hk; simp only [KBw.bInts]; intro hk; simp at hk; (try (unfold okI; omega)))
theorem pool_sub : ∀ {w : World} {A : Around} {E : Value → Shared → Prop} {s : Shared} {h₀ : Heap} {L : Addr} {m : Str → Option Value} {d : Int} {tk : Tok} {value slice : PySem.Expr} {Q : Value → Shared → Prop} (_ : 0 ≤ d ∧ d < 12) (_ : Fr h₀ L s.heap m) (_ : (Kf w.params).In h₀)
    (_ : subscripted slice false (.ref 509) (.int d tk) = operate [.ref 509, .int d tk] (getItem (.ref 509) (.int d tk))) (_ : ∀ x v, x ∈ poolRV → x.Is v → Q v s), wpAny (model PySem.Challenge.rw_pc0174_01.row.prog w) A (subscriptTail value slice (.ref 509) (.int d tk)) Q E s := by
  k_fill
  intro w A E s h₀ L m d tk value slice Q hd F X hs h
  rcases (show d = 0 ∨ d = 1 ∨ d = 2 ∨ d = 3 ∨ d = 4 ∨ d = 5 ∨ d = 6 ∨ d = 7 ∨ d = 8 ∨ d = 9 ∨ d = 10 ∨ d = 11 by omega) with e | e | e | e | e | e | e | e | e | e | e | e <;> subst e
  all_goals k_dflt (refine' topList_K (hs := hs) F X ?l ?a ?b ?d ?_; (case l => k_is); (case a => decide); (case b => decide); (case d => rfl))
  · exact h (.int 0) _ (.head _) ⟨_, rfl⟩
  · exact h (.int 1) _ (.tail _ (.head _)) ⟨_, rfl⟩
  · exact h (.int 2) _ (.tail _ (.tail _ (.head _))) ⟨_, rfl⟩
  · exact h (.int (-3)) _ (.tail _ (.tail _ (.tail _ (.head _)))) ⟨_, rfl⟩
  · exact h (.int 7) _ (.tail _ (.tail _ (.tail _ (.tail _ (.head _))))) ⟨_, rfl⟩
  · exact h (.int 30) _ (.tail _ (.tail _ (.tail _ (.tail _ (.tail _ (.head _)))))) ⟨_, rfl⟩
  · exact h (.bytes #[53]) _ (.tail _ (.tail _ (.tail _ (.tail _ (.tail _ (.tail _ (.head _))))))) ⟨_, rfl⟩
  · exact h (.bytes #[97, 98]) _ (.tail _ (.tail _ (.tail _ (.tail _ (.tail _ (.tail _ (.tail _ (.head _)))))))) ⟨_, rfl⟩
  · exact h (.bytes #[]) _ (.tail _ (.tail _ (.tail _ (.tail _ (.tail _ (.tail _ (.tail _ (.tail _ (.head _))))))))) ⟨_, rfl⟩
  · exact h (.none) _ (.tail _ (.tail _ (.tail _ (.tail _ (.tail _ (.tail _ (.tail _ (.tail _ (.tail _ (.head _)))))))))) rfl
  · exact h (.bool true) _ (.tail _ (.tail _ (.tail _ (.tail _ (.tail _ (.tail _ (.tail _ (.tail _ (.tail _ (.tail _ (.head _))))))))))) rfl
  · exact h (.bool false) _ (.tail _ (.tail _ (.tail _ (.tail _ (.tail _ (.tail _ (.tail _ (.tail _ (.tail _ (.tail _ (.tail _ (.head _)))))))))))) rfl
end Mine
end
section
namespace Mine
theorem news_mv {h₀ h : Heap} {L : Addr} {p0 p1 p2 p3 : Addr × Obj} {n : List (Addr × Obj)} (N : News h₀ L h (p0 :: p1 :: p2 :: p3 :: n)) : News h₀ L h (p0 :: p2 :: p3 :: p1 :: n) := fun q hq => N q (sub_cons (.head _) (sub_cons (.tail _ (.tail _ (.head _))) (sub_cons (.tail _ (.tail _ (.tail _ (.head _)))) (sub_cons (.tail _ (.head _)) (fun q h => .tail _ (.tail _ (.tail _ (.tail _ (h)))))))) q hq)
theorem okV_snoc {xs : List RV} {x : RV} (h : ∀ x ∈ xs, okV x) (hx : okV x) : ∀ z ∈ xs ++ [x], okV z := fun z hz => by
  rcases List.mem_append.mp hz with hz | hz
  · exact h z hz
  · rw [List.mem_singleton.mp hz]; exact hx
theorem same3 {y a b c : Str} {A B C z : Option Value} : (if y = a then A else if y = b then B else if y = c then C else if y = a then A else if y = b then B else if y = c then C else z) = (if y = a then A else if y = b then B else if y = c then C else z) := by
  by_cases h1 : y = a
  · simp only [h1, if_true]
  by_cases h2 : y = b
  · simp only [h1, h2, if_true, if_false]
  by_cases h3 : y = c
  · simp only [h1, h2, h3, if_true, if_false]
  · simp only [h1, h2, h3, if_false]
theorem rows_Tn1_1 : True := by
  k_with_none
  k_with "EP" => (k_whole; fail_if_success (fail_if_success (rename Below _ _ _ _ => b9_z)))
  k_with "call ref" => (k_here; k_dflt (refine' take_ok _ _ _ _ _ _ _ _ _ _ _ _ _ _ _ _ _ _ _ _ _ _ _ _ _ _ _ _ _ _ _ _ _ ?kB ?kF ?kX ?kN ?kT ?kK ?kd ?ku ?q0 ?q1 ?q2 ?q3 ?_; (case kB => k_asm); (case kF => k_asm); (case kX => k_asm); (case kN => k_asm); (case kT => k_asm); (case kK => first | exact rfl | assumption); (case kd => ktr_room); (case ku => ktr_units); (case q0 => k_updF); (case q1 => first | assumption | (constructor <;> omega)); (case q2 => first | assumption | (constructor <;> omega)); (case q3 => first | assumption | (constructor <;> omega)); k_whole); intro d_z g'_z c'_z td_z t0'_z t1'_z h'_z tk'_z hd_z hg1_z hc1_z F'_z N'_z; (try k_sweep); (try dsimp only at N'_z); (subst hc1_z))
  k_with "subscriptTail Name Call ref int" => (k_here; k_dflt (refine' pool_sub ?zp1 ?zp2 ?zp3 ?zp4 ?_; (case zp1 => assumption); (case zp2 => k_asm); (case zp3 => k_asm); (case zp4 => with_unfolding_all rfl); k_whole); intro x_z v_z hxp_z hxv_z)
  k_with "CompSrc" => (refine Stop.un ?_)
  k_with "execs cons For" => (refine Stop.un ?_)
  trivial
theorem turn_ok : lawP (stm 93) (by with_unfolding_all rfl) fun _ _ _ t0 t1 t2 t3 tl sc => ∀ (w : World) (p : Program) (loose : List Str) (mean : ExcName → Option Value) (mg mb : Str → Option Value) (dp un : Nat) (a : Addr) (ccd : Value) (A₀ : Around) (base h₀ : Heap) (L : Addr) (gm : Str → Option Value) (s : Shared) (Q : Flow → Shared → Prop) (E : Value → Shared → Prop) (rest : List (Addr × Obj)) (b : Addr) (g c : Int) (t0' t1' : Tok) (n : Nat) (oc : Obj) (k : Int) (tt : Tok) (wk bn dw dl lf lc : Addr) (nl nw : Nat) (esl esw : List DictEntry) (wd : Int) (tw tw2 ttx : Tok) (nm ql : Str) (pmv ctv : Value) (lo : Obj) (lvs : Array Value) (tq : Tok), Below A₀ base [] h₀ → Fr h₀ L s.heap (fun y => if y = Str.ofString "turn" then some (.int k tt) else if y = Str.ofString "works" then some (.ref wk) else if y = Str.ofString "bounds" then some (.ref bn) else if y = Str.ofString "width" then some (.int wd tw2) else gm y) → (Kf w.params).In h₀ → News h₀ L s.heap ((b, listOf [.int g t0', .int c t1'].toArray n) :: (L + 1, oc) :: rest) → Top p loose mean mg mb h₀ → dp + 16 < recursionLimit → un + 128 < cLine → PassesOwn (model PySem.Challenge.rw_pc0174_01.row.prog w) (ktrTop dp un (some []) (Str.ofString "law") sc L a ccd (cellsFrom (L + 1) sc.names []) []) (envOfC (Str.ofString "law") sc L a ccd) E → oc.data = Data.cell (some (.ref b)) → @Ne Nat (L + 1) b → (∀ p ∈ rest, p.1 ≠ b) → (0 ≤ g ∧ g < 2 ^ 400) → (0 ≤ c ∧ c < 900) → WB rest wk bn dw dl lf lc nl nw esl esw wd tw ttx nm ql pmv ctv lo lvs tq →
   (∀ (g' c' : Int) (u0 u1 : Tok) (m' : Str → Option Value) (h' : Heap) (tk' : Nat), (0 ≤ g' ∧ g' < 2 ^ 400) → (0 ≤ c' ∧ c' ≤ c + 65) → Fr h₀ L h' m' → (∀ y, y ∉ [Str.ofString "turn", Str.ofString "spot", Str.ofString "registers", Str.ofString "rows", Str.ofString "stepper"] → m' y = if y = Str.ofString "turn" then some (.int k tt) else if y = Str.ofString "works" then some (.ref wk) else if y = Str.ofString "bounds" then some (.ref bn) else if y = Str.ofString "width" then some (.int wd tw2) else gm y) → News h₀ L h' ((b, listOf [.int g' u0, .int c' u1].toArray n) :: (L + 1, oc) :: rest) → Q .next { s with heap := h', toks := tk' }) →
   wpAny (model PySem.Challenge.rw_pc0174_01.row.prog w) (ktrTop dp un (some []) (Str.ofString "law") sc L a ccd (cellsFrom (L + 1) sc.names []) []) (execs (t0 :: t1 :: t2 :: t3 :: tl) (envOfC (Str.ofString "law") sc L a ccd)) Q E s := by
  have hrows5 := rows5_ok
  dsimp only [lawP] at hrows5 ⊢
  k_fill
  refine (?k1k : KB13 ?f1f); refine ep13 (by repeat' (first | infer_instance | exact ne_world | exact ne_shared | exact ne_around | exact ⟨.none⟩ | exact ⟨⟨0, 0, 0, 0⟩⟩ | refine ne_prod ?_ ?_)) ?_; apply (?f1f _ _ _ _ _ _ _ _ _ _ _ _ _); (try any_goals exact default); intros w p loose mean mg mb dp un a ccd A₀ base h₀; refine Bx.mk ?_; refine (?k2k : KB13 ?f2f); refine ep13 (by repeat' (first | infer_instance | exact ne_world | exact ne_shared | exact ne_around | exact ⟨.none⟩ | exact ⟨⟨0, 0, 0, 0⟩⟩ | refine ne_prod ?_ ?_)) ?_; apply (?f2f _ _ _ _ _ _ _ _ _ _ _ _ _); (try any_goals exact default); intros L gm s Q E rest b g c t0' t1' n oc; refine Bx.mk ?_; refine (?k3k : KB13 ?f3f); refine ep13 (by repeat' (first | infer_instance | exact ne_world | exact ne_shared | exact ne_around | exact ⟨.none⟩ | exact ⟨⟨0, 0, 0, 0⟩⟩ | refine ne_prod ?_ ?_)) ?_; apply (?f3f _ _ _ _ _ _ _ _ _ _ _ _ _); (try any_goals exact default); intros k tt wk bn dw dl lf lc nl nw esl esw wd; refine Bx.mk ?_; refine (?k4k : KB10 ?f4f); refine ep10 (by repeat' (first | infer_instance | exact ne_world | exact ne_shared | exact ne_around | exact ⟨.none⟩ | exact ⟨⟨0, 0, 0, 0⟩⟩ | refine ne_prod ?_ ?_)) ?_; apply (?f4f _ _ _ _ _ _ _ _ _ _); (try any_goals exact default); intros tw tw2 ttx nm ql pmv ctv lo lvs tq; refine Bx.mk ?_
  intro B F X N T hd9 hu9 hE hoc hLb hrb hg hc hW hret
  obtain ⟨hg0, hg1⟩ := hg
  obtain ⟨hc0, hc1⟩ := hc
  k_steps
  refine Stop.mk ?_
  refine LCg.CompSrc.range (by rfl) (by k_asm) (by k_asm) (by assumption) (by decide) (by rfl) (by exact Nat.le_of_ble_eq_true rfl) ?_
  intro gg
  refine compU_inv (n := 5) (fun i ys nw => ∃ (g' c' : Int) (u0 u1 : Tok) (xs : List RV), nw = (b, listOf [.int g' u0, .int c' u1].toArray n) :: (L + 1, oc) :: rest ∧ (0 ≤ g' ∧ g' < 2 ^ 400) ∧ (c' = c + i) ∧ RVs xs ys ∧ xs.length = i ∧ ∀ x ∈ xs, okV x) ?turn ?fin 5 0 [] _ rfl ⟨g, c, t0', t1', [], rfl, ⟨hg0, hg1⟩, by simp, trivial, rfl, fun _ h => nomatch h⟩
  case turn =>
    refine (?k5k : KB13 ?f5f); refine ep13 (by repeat' (first | infer_instance | exact ne_world | exact ne_shared | exact ne_around | exact ⟨.none⟩ | exact ⟨⟨0, 0, 0, 0⟩⟩ | refine ne_prod ?_ ?_)) ?_; apply (?f5f _ _ _ _ _ _ _ _ _ _ _ _ _); (try any_goals exact default); intros i2 ys nw v I2 oI C2 oC D2 m₂ h₃ tk₃ E'; refine Bx.mk ?_
    intros hi2 hj3 hv hC hx'' F3 N3 off3 ne3
    obtain ⟨g', c', u0, u1, xs, rfl, hg', rfl, hys, hxl, hfn⟩ := hj3
    revert g' u0 u1 xs
    refine (?k6k : KB4 ?f6f); refine ep4 (by repeat' (first | infer_instance | exact ne_world | exact ne_shared | exact ne_around | exact ⟨.none⟩ | exact ⟨⟨0, 0, 0, 0⟩⟩ | refine ne_prod ?_ ?_)) ?_; apply (?f6f _ _ _ _); (try any_goals exact default); intros g' u0 u1 xs; refine Bx.mk ?_
    set_option tactic.hygienic false in intros
    have hc' : 0 ≤ c + (i2 : Int) ∧ c + (i2 : Int) < 2 ^ 20 := ⟨by omega, by omega⟩
    simp only [LCg.Off3] at off3
    clear hret
    k_steps
    (rename _ ∈ poolRV => hxp); (rename RV.Is _ _ => hxv)
    refine LCg.CompEnd.intro (by k_asm) (by assumption) _ (fun _ hp => hp) (by exact off3) trivial ⟨_, _, _, _, xs ++ [_], rfl, by assumption, by push_cast; omega, RVs.append hys ⟨hxv, trivial⟩, ?_, okV_snoc hfn (pool_okV _ hxp)⟩
    rw [List.length_append, hxl]; rfl
  case fin =>
    intro ys nw hj3
    obtain ⟨g', c', u0, u1, xs, rfl, hg', rfl, hys, hxl, hfn⟩ := hj3
    revert g' u0 u1 xs
    refine (?k7k : KB4 ?f7f); refine ep4 (by repeat' (first | infer_instance | exact ne_world | exact ne_shared | exact ne_around | exact ⟨.none⟩ | exact ⟨⟨0, 0, 0, 0⟩⟩ | refine ne_prod ?_ ?_)) ?_; apply (?f7f _ _ _ _); (try any_goals exact default); intros g' u0 u1 xs; refine Bx.mk ?_
    set_option tactic.hygienic false in intros
    (rename Fr _ _ _ _ => lF0); (rename News _ _ _ _ => lN0); clear lF0 lN0
    k_steps
    refine Stop.mk ?_
    (rename Fr _ _ _ _ => lF); (rename News _ _ _ _ => lN); (rename _ ∧ _ ∧ LCg.Off1 _ _ => loff); (rename _ ∧ _ ∧ _ ∧ AllLt _ _ => l9)
    refine' hrows5 _ _ _ _ _ _ _ _ _ _ _ _ _ _ _ _ _ _ rest b g' (c + ((5 : Nat) : Int)) u0 u1 n oc _ _ _ ys.length ys xs wk bn dw dl lf lc nl nw esl esw wd tw tw2 ttx nm ql pmv ctv lo lvs tq B (fr_as lF fun y => put_same ?h1 (put_same ?h2 (put_same ?h3 (put_same ?h4 (put_same ?h5 rfl))))) X (news_mv lN) T hd9 hu9 hE hoc hLb (Ne.symm (Nat.ne_of_lt l9.2.1)) (Ne.symm loff.1) hrb hg' ⟨by omega, by omega⟩ hW hys hxl hfn ?fin2
    case h1 => rfl
    case h2 => rfl
    case h3 => rfl
    case h4 => rfl
    case h5 => rfl
    case fin2 =>
      intro g9 c9 v0 v1 m9 h9 tk9 hg9 hc9 F9 hm9 N9
      refine hret g9 c9 v0 v1 m9 _ _ hg9 ⟨hc9.1, by have := hc9.2; push_cast at this; omega⟩ F9 (fun y hy => ?_) N9
      simp only [List.mem_cons, List.not_mem_nil, or_false, not_or] at hy
      rw [hm9 y (by simp only [List.mem_cons, List.not_mem_nil, or_false, not_or]; exact ⟨hy.2.1, hy.2.2.2.1, hy.2.2.2.2⟩)]
      simp only [hy, if_false]
      exact same3

end Mine
end
section
namespace Mine
abbrev lawQ {n : Str} {ar : Arguments} {b0 b1 b2 b3 : Stmt} {tl : List Stmt} {ds : List PySem.Expr} {re : Option PySem.Expr} {tp : List TypeParam} {sc : Scope} {ts : Option Scope} {bi : Str} {ps2 : Pos} (st : Stmt) (_ : st = Stmt.FunctionDef n ar (b0 :: b1 :: b2 :: b3 :: tl) ds re tp sc ts bi ps2) (f : Stmt → Stmt → Scope → Prop) : Prop := f b2 b3 sc
theorem rows_Ob1_1 : True := by
  k_with_none
  k_with "EP" => (k_whole; fail_if_success (fail_if_success (rename Below _ _ _ _ => b9_z)))
  k_with "zzz" => skip
  trivial
theorem limits_ok : lawQ (stm 93) (by with_unfolding_all rfl) fun _ b3 sc => ∀ (w : World) (p : Program) (loose : List Str) (mean : ExcName → Option Value) (mg mb : Str → Option Value) (a : Addr) (ccd : Value) (A₀ : Around) (base h₀ : Heap) (L : Addr) (gm : Str → Option Value) (s : Shared) (Q : Flow → Shared → Prop) (E : Value → Shared → Prop) (rest : List (Addr × Obj)) (more : List Stmt) (wd : Int) (tw2 : Tok), Below A₀ base [] h₀ → Fr h₀ L s.heap (fun y => if y = Str.ofString "width" then some (.int wd tw2) else gm y) → (Kf w.params).In h₀ → News h₀ L s.heap rest → Top p loose mean mg mb h₀ →
   (∀ (bn dl : Addr) (nl : Nat) (esl : List DictEntry) (tw tt : Tok) (h' : Heap) (tk' : Nat), getL (Str.ofString "width") esl = some (some (.int wd tw)) → getL (Str.ofString "text") esl = some (some (.int 12 tt)) → Fr h₀ L h' (fun y => if y = Str.ofString "bounds" then some (.ref bn) else if y = Str.ofString "width" then some (.int wd tw2) else gm y) → News h₀ L h' ((bn, instObj 95 dl) :: (dl, dictOf esl nl) :: rest) → wpAny (model PySem.Challenge.rw_pc0174_01.row.prog w) (ktrTop 302 7 (some []) (Str.ofString "law") sc L a ccd (cellsFrom (L + 1) sc.names []) []) (execs more (envOfC (Str.ofString "law") sc L a ccd)) Q E { s with heap := h', toks := tk' }) →
   wpAny (model PySem.Challenge.rw_pc0174_01.row.prog w) (ktrTop 302 7 (some []) (Str.ofString "law") sc L a ccd (cellsFrom (L + 1) sc.names []) []) (execs (b3 :: more) (envOfC (Str.ofString "law") sc L a ccd)) Q E s := by
  dsimp only [lawQ]
  k_fill
  refine (?k1k : KB10 ?f1f); refine ep10 (by repeat' (first | infer_instance | exact ne_world | exact ne_shared | exact ne_around | exact ⟨.none⟩ | exact ⟨⟨0, 0, 0, 0⟩⟩ | refine ne_prod ?_ ?_)) ?_; apply (?f1f _ _ _ _ _ _ _ _ _ _); (try any_goals exact default); intros w p loose mean mg mb a ccd A₀ base; refine Bx.mk ?_; refine (?k2k : KB10 ?f2f); refine ep10 (by repeat' (first | infer_instance | exact ne_world | exact ne_shared | exact ne_around | exact ⟨.none⟩ | exact ⟨⟨0, 0, 0, 0⟩⟩ | refine ne_prod ?_ ?_)) ?_; apply (?f2f _ _ _ _ _ _ _ _ _ _); (try any_goals exact default); intros h₀ L gm s Q E rest more wd tw2; refine Bx.mk ?_
  intro B F X N T hret
  k_steps
  (rename News h₀ L _ _ => lN)
  exact hret _ _ _ _ _ _ _ _ rfl rfl (by k_asm) lN

end Mine
end
section
open Mine
theorem Mine.rows_M1_1 : True := by
  k_with_none
  k_with "EP" => (k_whole; fail_if_success (fail_if_success (rename Below _ _ _ _ => b9_z)))
  k_with "call ref" => (k_here; k_dflt (refine' grand_ok _ _ _ _ _ _ _ _ _ _ _ _ _ _ _ _ _ _ _ _ _ _ _ _ _ _ _ ?kB ?kF ?kX ?kN ?kT ?kK ?kd ?ku ?q0 ?q1 ?q2 ?_; (case kB => k_asm); (case kF => k_asm); (case kX => k_asm); (case kN => k_asm); (case kT => k_asm); (case kK => first | exact rfl | assumption); (case kd => ktr_room); (case ku => ktr_units); (case q0 => assumption); (case q1 => assumption); (case q2 => omega); k_whole); intro g_z tg_z h'_z tk'_z hg1_z F'_z N'_z; (try k_sweep))
  k_with "call ref" => (k_here; k_dflt (refine' take_ok _ _ _ _ _ _ _ _ _ _ _ _ _ _ _ _ _ _ _ _ _ _ _ _ _ _ _ _ _ _ _ _ _ ?kB ?kF ?kX ?kN ?kT ?kK ?kd ?ku ?q0 ?q1 ?q2 ?q3 ?_; (case kB => k_asm); (case kF => k_asm); (case kX => k_asm); (case kN => k_asm); (case kT => k_asm); (case kK => first | exact rfl | assumption); (case kd => ktr_room); (case ku => ktr_units); (case q0 => k_updF); (case q1 => first | assumption | (constructor <;> omega)); (case q2 => first | assumption | (constructor <;> omega)); (case q3 => first | assumption | (constructor <;> omega)); k_whole); intro d_z g'_z c'_z td_z t0'_z t1'_z h'_z tk'_z hd_z hg1_z hc1_z F'_z N'_z; (try k_sweep); (try dsimp only at N'_z); (subst hc1_z))
  k_with "exec For Name Call cons nil" => (k_here; (rename Fr _ _ _ _ => lF'_z); (with_unfolding_all refine' For_invVF lF'_z ?k1 ?k2 ?_; (case k1 => exact rfl); (case k2 => exact rfl); k_whole))
  k_with "pyIter ref" => ((with_reducible show wpAny _ _ (pyIter (Value.ref _)) (fun it s₂ => LoopAtV _ _ _ _ _ _ _ _ _ it s₂) _ _); refine Stop.un ?_)
  k_with "execs cons Assign cons" => ((with_reducible show wpAny _ _ (execs (Stmt.Assign [PySem.Expr.Name (Str.ofString "bounds") _] _ _ :: _) _) _ _ _); refine Stop.un ?_)
  trivial
namespace Mine
theorem main_split {h₀ h : Heap} {L : Addr} {wk bn dw dl lf lc : Addr} {nl nw : Nat} {esl esw : List DictEntry} {wd : Int} {tw tt : Tok} {nm ql : Str} {pmv ctv : Value} {lo : Obj} {lvs : Array Value} {tq : Tok} {p4 p5 p6 p7 p10 p11 p12 p13 : Addr × Obj} (N : News h₀ L h [(bn, instObj 95 dl), (dl, dictOf esl nl), (wk, instObj 412 dw), (dw, dictOf esw nw), p4, p5, p6, p7, (lf, lamObj nm ql pmv lc ctv), (lc, lo), p10, p11, p12, p13]) (e1 : getL (Str.ofString "width") esl = some (some (.int wd tw))) (e2 : getL (Str.ofString "text") esl = some (some (.int 12 tt))) (e3 : getL (Str.ofString "length") esw = some (some (.ref lf))) (d1 : lo.data = .fields lvs) (d2 : lvs[1]? = some (.str ql tq)) (w0 : 1 ≤ wd ∧ wd ≤ 17) :
    News h₀ L h (p10 :: p11 :: [(bn, instObj 95 dl), (dl, dictOf esl nl), (wk, instObj 412 dw), (dw, dictOf esw nw), p4, p5, p6, p7, (lf, lamObj nm ql pmv lc ctv), (lc, lo), p12, p13]) ∧ WB [(bn, instObj 95 dl), (dl, dictOf esl nl), (wk, instObj 412 dw), (dw, dictOf esw nw), p4, p5, p6, p7, (lf, lamObj nm ql pmv lc ctv), (lc, lo), p12, p13] wk bn dw dl lf lc nl nw esl esw wd tw tt nm ql pmv ctv lo lvs tq := by
  exact ⟨fun q hq => N q (sub_cons (.tail _ (.tail _ (.tail _ (.tail _ (.tail _ (.tail _ (.tail _ (.tail _ (.tail _ (.tail _ (.head _))))))))))) (sub_cons (.tail _ (.tail _ (.tail _ (.tail _ (.tail _ (.tail _ (.tail _ (.tail _ (.tail _ (.tail _ (.tail _ (.head _)))))))))))) (sub_cons (.head _) (sub_cons (.tail _ (.head _)) (sub_cons (.tail _ (.tail _ (.head _))) (sub_cons (.tail _ (.tail _ (.tail _ (.head _)))) (sub_cons (.tail _ (.tail _ (.tail _ (.tail _ (.head _))))) (sub_cons (.tail _ (.tail _ (.tail _ (.tail _ (.tail _ (.head _)))))) (sub_cons (.tail _ (.tail _ (.tail _ (.tail _ (.tail _ (.tail _ (.head _))))))) (sub_cons (.tail _ (.tail _ (.tail _ (.tail _ (.tail _ (.tail _ (.tail _ (.head _)))))))) (sub_cons (.tail _ (.tail _ (.tail _ (.tail _ (.tail _ (.tail _ (.tail _ (.tail _ (.head _))))))))) (sub_cons (.tail _ (.tail _ (.tail _ (.tail _ (.tail _ (.tail _ (.tail _ (.tail _ (.tail _ (.head _)))))))))) (sub_cons (.tail _ (.tail _ (.tail _ (.tail _ (.tail _ (.tail _ (.tail _ (.tail _ (.tail _ (.tail _ (.tail _ (.tail _ (.head _))))))))))))) (sub_cons (.tail _ (.tail _ (.tail _ (.tail _ (.tail _ (.tail _ (.tail _ (.tail _ (.tail _ (.tail _ (.tail _ (.tail _ (.tail _ (.head _)))))))))))))) (fun _ h => absurd h List.not_mem_nil)))))))))))))) q hq), ⟨.tail _ (.tail _ (.head _)), .tail _ (.tail _ (.tail _ (.head _))), .head _, .tail _ (.head _), e1, e2, e3, .tail _ (.tail _ (.tail _ (.tail _ (.tail _ (.tail _ (.tail _ (.tail _ (.head _)))))))), .tail _ (.tail _ (.tail _ (.tail _ (.tail _ (.tail _ (.tail _ (.tail _ (.tail _ (.head _))))))))), ⟨d1, d2⟩, w0⟩⟩
theorem apart_cls {h₀ h : Heap} {L b : Addr} {p : Addr × Obj} {o' : Obj} {n : List (Addr × Obj)} (N : News h₀ L h n) (h1 : p ∈ n) (h2 : (b, o') ∈ n) (hd : p.2.data ≠ o'.data) : p.1 ≠ b := fun e => by
  have k1 := (N _ h1).1
  have k2 := (N _ h2).1
  dsimp only at k1 k2
  rw [e, k2] at k1
  exact hd (congrArg Obj.data (Option.some.inj k1).symm)
theorem keep_lem {m' m₀ g : Str → Option Value} {tv tv' u1 u2 u3 : Option Value} {xt x1 x2 x3 : Str} {ns : List Str} (hxt : xt ∈ ns)
    (hm' : ∀ y, y ∉ ns → m' y = if y = xt then tv else if y = x1 then u1 else if y = x2 then u2 else if y = x3 then u3 else (if y = xt then tv' else over ns g m₀ y))
    (h1 : m₀ x1 = u1) (h2 : m₀ x2 = u2) (h3 : m₀ x3 = u3) : ∀ y, y ∉ ns → m' y = m₀ y := fun y hy => by
  have hyt : y ≠ xt := fun e => hy (e ▸ hxt)
  rw [hm' y hy, if_neg hyt, if_neg hyt, over_neg hy]
  exact put_same h1 (put_same h2 (put_same h3 rfl))
theorem news_turn {h₀ h : Heap} {L : Addr} {p0 p1 p2 : Addr × Obj} {n : List (Addr × Obj)} (N : News h₀ L h (p0 :: p1 :: p2 :: n)) : News h₀ L h (p1 :: p2 :: p0 :: n) := fun r hr => N r (sub_cons (.tail _ (.head _)) (sub_cons (.tail _ (.tail _ (.head _))) (sub_cons (.head _) fun _ h => .tail _ (.tail _ (.tail _ h)))) r hr)
theorem news_unturn {h₀ h : Heap} {L : Addr} {p0 p1 p2 : Addr × Obj} {n : List (Addr × Obj)} (N : News h₀ L h (p1 :: p2 :: p0 :: n)) : News h₀ L h (p0 :: p1 :: p2 :: n) := fun r hr => N r (sub_cons (.tail _ (.tail _ (.head _))) (sub_cons (.head _) (sub_cons (.tail _ (.head _)) fun _ h => .tail _ (.tail _ (.tail _ h)))) r hr)
end Mine
theorem PySem.Challenge.cw_pc0174_01_holds : PySem.Challenge.rw_pc0174_01.Holds := by
  refine holds_law said fun said' => ?_
  refine holds_open (q := vw) (loose := lo) (Xt := Xt vw) (XP := XL vw []) (Yf := Hook.obs H) (Ya := Hook.val H) (YP := Hook.says H) (N := 7500) left (Hook.of H) (Hook.keeps H) (fun s e => xl_of s (Bool.and_eq_true_iff.mp e).1) XL.keeps (by rfl) (by rfl) (by rfl) (fun s e => recFacts_of (Bool.and_eq_true_iff.mp e).2) (by first | rfl) said' (by decide +kernel) ⟨rfl, rfl, rfl, rfl, rfl, by decide +kernel⟩ ?hw ?hc
  case hw => w_witness2
  case hc =>
    delta Mine.H
    k_go0
    simp only [deeper_caller]
    (all_goals try k_fold)
    (rename ¬ ((63 : Int) < _) => hlen)
    (rename IntsAre _ _ => hints)
    have hn63 : List.length _ ≤ 63 := Int.ofNat_le.mp (Int.not_lt.mp hlen)
    rename_i w s0 s1 mg mb G Y fa o pm doc ho hg Xm V T B TE TW hcd xs hs hlay hL1 hr hl2 ad5 ad4 lA vs ad1 hL ra w1 r0 hr2 hcond hD h1 tk1 ob right X0 X' T' K' F' codeHd2 N' l0 qk hq
    revert G Y ho hg hT8 Xm V T B TE TW hT9 hcd hs hlay hL1 hr hl2 hL ra w1 r0 hints hr2 hlen hcond hD right X0 X' T' K' F' lifted codeHd2 codeHd N' l0 hq hn63
    revert w s0 s1 mg mb fa o pm doc xs ad5 ad4 lA vs ad1 h1 tk1 ob qk
    refine (?k701k : KB10 ?f701f); refine ep10 (by repeat' (first | infer_instance | exact ne_world | exact ne_shared | exact ne_around | exact ⟨.none⟩ | exact ⟨⟨0, 0, 0, 0⟩⟩ | refine ne_prod ?_ ?_)) ?_; apply (?f701f _ _ _ _ _ _ _ _ _ _); (try any_goals exact default); intros w s0 s1 mg mb fa o pm doc xs; refine Bx.mk ?_; refine (?k702k : KB9 ?f702f); refine ep9 (by repeat' (first | infer_instance | exact ne_world | exact ne_shared | exact ne_around | exact ⟨.none⟩ | exact ⟨⟨0, 0, 0, 0⟩⟩ | refine ne_prod ?_ ?_)) ?_; apply (?f702f _ _ _ _ _ _ _ _ _); (try any_goals exact default); intros ad5 ad4 lA vs ad1 h1 tk1 ob qk; refine Bx.mk ?_
    set_option tactic.hygienic false in intros
    k_steps
    refine Stop.mk ?_
    (rename Fr _ _ _ _ => lF); (rename News _ _ _ _ => lN)
    have hli := limits_ok
    dsimp only [lawQ] at hli
    refine' hli _ _ _ _ _ _ _ _ _ _ _ _ _ _ _ _ _ _ _ _ ?kB3 (fr_as lF fun y => put_same ?h13 rfl) ?kX3 lN ?kT3 ?ret3
    case kB3 => assumption
    case kX3 => assumption
    case kT3 => assumption
    case h13 => rfl
    clear hli lN lF
    intro bn dl nl esl tw tt h7 tk7 e1 e2 lF N7
    obtain ⟨lN2, hW⟩ := main_split N7 e1 e2 rfl (by assumption) (by assumption) ⟨by omega, by omega⟩
    clear N7
    have hfx := fixed_ok
    dsimp only [lawP] at hfx
    refine' hfx _ _ _ _ _ _ _ _ _ _ _ _ _ _ _ _ _ _ _ _ _ _ _ _ _ _ _ _ _ _ _ _ _ _ _ _ _ _ _ _ _ ?kB (fr_as lF fun y => put_same ?h1 (put_same ?h2 (put_same ?h3 rfl))) ?kX lN2 ?kT ?kd ?ku (hW.more fun q hq => .tail _ (.tail _ hq)) ?ret
    case kB => assumption
    case kX => assumption
    case kT => assumption
    case h1 => rfl
    case h2 => rfl
    case h3 => rfl
    case kd => decide
    case ku => decide
    clear hfx lF lN2
    intro m9 h9 tk9 F9 hm9 N9
    have hm1 := (hm9 (Str.ofString "works") (by decide +kernel)).trans (if_pos rfl)
    have hm2 := (hm9 (Str.ofString "bounds") (by decide +kernel)).trans ((if_neg (by decide +kernel)).trans (if_pos rfl))
    have hm3 := (hm9 (Str.ofString "width") (by decide +kernel)).trans ((if_neg (by decide +kernel)).trans ((if_neg (by decide +kernel)).trans (if_pos rfl)))
    clear hm9
    k_steps
    refine Stop.mk ?_
    (rename Fr _ _ _ _ => lF'); (rename News _ _ _ _ => lN'); (rename IsRange _ _ _ _ _ _ _ _ => lR')
    with_unfolding_all refine iter_rangeUnr (n := 2) (by rfl) lR' (by decide) (by decide) lF' lN' ?_
    clear lF'
    intro I hI
    (rename 0 ≤ _ ∧ _ < 2 ^ 400 => hg0)
    have hturn := turn_ok
    dsimp only [lawP] at hturn
    refine' rangeRest_ofN [Str.ofString "turn", Str.ofString "spot", Str.ofString "registers", Str.ofString "rows", Str.ofString "stepper"]
      (fun i gm nw => ∃ (gb cb : Int) (u0 u1 : Tok), nw = (_, W.listOf #[Value.int gb u0, Value.int cb u1] _) :: (_, _) :: _ ∧ (0 ≤ gb ∧ gb < 2 ^ 400) ∧ (0 ≤ cb ∧ cb ≤ 1 + 65 * i)) ?turn ?done ⟨_, _, _, _, rfl, hg0, ?hcz⟩
    case hcz => (constructor <;> simp)
    case turn =>
      intro i gm nw t h₂ tk₂ hi hj F2 N2
      obtain ⟨gb, cb, u0, u1, rfl, hgb, hcb⟩ := hj
      refine' hturn _ _ _ _ _ _ _ _ _ _ _ _ _ _ _ _ _ _ ((_, _) :: _) _ gb cb u0 u1 _ _ _ t _ _ _ _ _ _ _ _ _ _ _ _ tk'_z _ _ _ _ _ _ _ _ ?kB (fr_as F2 fun y => put_same ?h1 (put_same ?h2 (put_same ?h3 (put_same ?h4 rfl)))) ?kX (news_turn N2) ?kT ?kd ?ku ?kE ?koc ?kLb ?krb hgb ?kc (hW.more fun q hq => .tail _ hq) ?kret
      case kB => assumption
      case kX => assumption
      case kT => assumption
      case h1 => exact if_pos rfl
      case h2 => exact (if_neg (by decide +kernel)).trans ((over_neg (by decide +kernel)).trans hm1)
      case h3 => exact (if_neg (by decide +kernel)).trans ((over_neg (by decide +kernel)).trans hm2)
      case h4 => exact (if_neg (by decide +kernel)).trans ((over_neg (by decide +kernel)).trans hm3)
      case kd => decide
      case ku => decide
      case kE => first | assumption | passes_own
      case koc => assumption
      case kLb => first | k_ne | omega
      case krb =>
        refine List.forall_mem_cons.mpr ⟨Nat.ne_of_gt (hI _ (.head _)), ?_⟩
        repeat (first | exact (fun _ h => absurd h List.not_mem_nil) | refine List.forall_mem_cons.mpr ⟨by first | exact apart_cls N2 (by k_mem) (.tail _ (.head _)) (by intro q; cases q) | k_ne | omega, ?_⟩)
      case kc => exact ⟨hcb.1, by omega⟩
      case kret =>
        intro g9 c9 v0 v1 m8 h8 tk8 hg9 hc9 F8 hm8 N8
        refine unrEnd_of F8 (news_unturn N8) 1 (.head _) (lt_same hI) ⟨?keep, g9, c9, v0, v1, rfl, hg9, hc9.1, by push_cast; omega⟩
        exact keep_lem (.head _) hm8 hm1 hm2 hm3
    case done =>
      intro gm nw h₂ tk₂ hj F2 N2
      obtain ⟨gb, cb, u0, u1, rfl, hgb, hcb⟩ := hj
      k_steps
end
end
