import PyProof.Rows.All
import Wide.All
import OpenK.AllK
import Wide.FinOn
import KE.KState
import KE.KTurns
import KE.KData
import KE.KTurnsGround
import KE.KSliceW
import KE.IntTextLaws
import KE.KIntText
import Lean
import PySem.Challenge.RW_nn0269_01

open PySem PySem.W PyProof.Rows PySem.Calls PySem.Spec
set_option Elab.async false
set_option maxRecDepth 100000
set_option maxHeartbeats 4000000
namespace Mine

-- TopB
section
def keepL : List Bool → List Stmt → List Stmt
  | true :: bs, s :: ss => s :: keepL bs ss
  | false :: bs, _ :: ss => keepL bs ss
  | _, _ => []
def hd.view_39 : Program :=
  let p := PySem.Challenge.rw_nn0269_01.row.toRowW.prog
  { p with main := { p.main with body := keepL [false, true, true, false, true, false, true, false, true, true, true, true, true, true, true, true, true, true, true, true, true, false, true, true, true, true, true, true, true, false, true, true, false, true, true, true, true, true, true, true, true, true, true, true] p.main.body } }
theorem left_of_boot {p q : Program} {loose : List Str} {Xt : Shared → Bool} {α : Type} {Yf : Shared → α} {Ya : World → α} {N : Nat} {H : World → Heap} {G : Array GenState} {D : Drawn} {T : Tok}
    (b : ∀ w : World, (fencedOpening treeTable p w N).map (fun s => (s.heap, s.gens, s.drawn, s.toks)) = some (H w, G, D, T))
    (h : ∀ (w : World) (os : OsState), (topFrom treeTable p w N ⟨H w, G, D, T, os⟩).map (fun s => (openSeen q loose (importedModules p.main.body) Xt true s, Yf s)) = some (openGood q loose, Ya w)) : LeftO p q loose Xt Yf Ya N := by
  intro w
  obtain ⟨s, hs, hv⟩ := Option.map_eq_some_iff.mp (b w)
  unfold openEnds
  rw [hs]
  obtain ⟨a1, a2, a3, a4, os⟩ := s
  simp only [Prod.mk.injEq] at hv
  obtain ⟨rfl, rfl, rfl, rfl⟩ := hv
  exact h w os
theorem pair_at {β : Type} {K : Params → Frag} {as : List Addr} {e : ∀ P, as = (K P).map (·.1)} {w : World} {o : Option Shared} {f : Shared → β} {a : β} (n : Nat) (hS : o.map f = some a) (hA : o.map (fun s => (((K w.params).map (·.1)).take n).map s.heap.get?) = some (((K w.params).map fun p => some p.2).take n))
    (hB : o.map (fun s => (((K w.params).map (·.1)).drop n).map s.heap.get?) = some (((K w.params).map fun p => some p.2).drop n)) : o.map (fun s => (f s, Hook.obs (kHook K as e) s)) = some (a, Hook.val (kHook K as e) w) := by
  cases o with
  | none => cases hA
  | some s =>
    have h1 : f s = a := Option.some.inj hS
    have h2 : (((K w.params).map (·.1)).take n).map s.heap.get? = ((K w.params).map fun p => some p.2).take n := Option.some.inj hA
    have h3 : (((K w.params).map (·.1)).drop n).map s.heap.get? = ((K w.params).map fun p => some p.2).drop n := Option.some.inj hB
    have h4 : as.map s.heap.get? = (K w.params).map fun p => some p.2 := by
      rw [e w.params, ← List.take_append_drop n ((K w.params).map (·.1)), List.map_append, h2, h3, List.take_append_drop]
    exact congrArg some (Prod.ext h1 h4)
theorem use_both {A B C : Prop} (f : A ∧ B → C) (h : A ∧ B) : C := f h
theorem boot_w : ∀ w : World, (fencedOpening treeTable PySem.Challenge.rw_nn0269_01.row.toRowW.prog w 4550).map (fun s => (s.heap, s.gens, s.drawn, s.toks)) = some (boot_heap w.params, Array.mk [], boot_drawn, boot_toks) :=
  boot_open (by kernel_rfl) (by decide) (fun s => by kernel_rfl)
theorem seen_w : ∀ (w : World) (os : OsState), (topFrom treeTable PySem.Challenge.rw_nn0269_01.row.toRowW.prog w 4550 ⟨boot_heap w.params, Array.mk [], boot_drawn, boot_toks, os⟩).map (fun s => openSeen hd.view_39 [PySem.Str.ofString "TEXT_SIGNS"] (importedModules PySem.Challenge.rw_nn0269_01.row.toRowW.prog.main.body) (fun s => xlAt hd.view_39 [] s && recOk (RowW.records PySem.Challenge.rw_nn0269_01.row.toRowW) s) true s) = some (openGood hd.view_39 [PySem.Str.ofString "TEXT_SIGNS"]) := by
  intro w os
  kernel_rfl
theorem said_w : OpenLaw.wellSaid PySem.Challenge.rw_nn0269_01 = true := by
  unfold OpenLaw.wellSaid OpenRow.wellSaid OpenRow.partSaid looksOpen
  repeat' (with_reducible refine look_both ?_ ?_)
  all_goals kernel_rfl
-- the head at once: the top's run by one look of the kernel's
local macro_rules | `(tactic| o_law) => `(tactic| refine holds_law said_w fun said => ?_)
local macro_rules | `(tactic| o_head $H) => `(tactic| (
    refine use_both (fun hh => holds_open (q := hd.view_39) (loose := [PySem.Str.ofString "TEXT_SIGNS"]) (Xt := fun s => xlAt hd.view_39 [] s && recOk (RowW.records PySem.Challenge.rw_nn0269_01.row.toRowW) s) (XP := XL hd.view_39 []) (Yf := Hook.obs $H) (Ya := Hook.val $H) (YP := Hook.says $H) (N := 4550) hh.1 (Hook.of $H) (Hook.keeps $H) (fun s e => xl_of s (Bool.and_eq_true_iff.mp e).1) XL.keeps (by rfl) (by rfl) (by rfl) (fun s e => recFacts_of (Bool.and_eq_true_iff.mp e).2) (by rfl) (by first | assumption | decide +kernel) (by decide +kernel) ⟨rfl, rfl, rfl, rfl, rfl, by decide +kernel⟩ ?hw hh.2) ?hc))
open_top hd for PySem.Challenge.rw_nn0269_01
theorem obsA : ∀ (w : World) (os : OsState), (topFrom treeTable PySem.Challenge.rw_nn0269_01.row.toRowW.prog w 4550 ⟨boot_heap w.params, Array.mk [], boot_drawn, boot_toks, os⟩).map (fun s => (((hd.heap_1 w.params).map (·.1)).take 128).map s.heap.get?) = some (((hd.heap_1 w.params).map fun p => some p.2).take 128) := by
  intro w os
  kernel_rfl
theorem obsB : ∀ (w : World) (os : OsState), (topFrom treeTable PySem.Challenge.rw_nn0269_01.row.toRowW.prog w 4550 ⟨boot_heap w.params, Array.mk [], boot_drawn, boot_toks, os⟩).map (fun s => (((hd.heap_1 w.params).map (·.1)).drop 128).map s.heap.get?) = some (((hd.heap_1 w.params).map fun p => some p.2).drop 128) := by
  intro w os
  kernel_rfl
end

-- Base
section
section
universe u₁ u₂ u₃ u₄ u₅ u₆ u₇ u₈
theorem ex1K {G : Prop} {α : Sort u₁} {p : α → Prop} (h : ∃ x1, p x1) (k : ∀ x1, p x1 → G) : G := h.elim k
theorem ex2K {G : Prop} {α : Sort u₁} {β : Sort u₂} {p : α → β → Prop} (h : ∃ x1 x2, p x1 x2) (k : ∀ x1 x2, p x1 x2 → G) : G := ex1K h fun x1 h => ex1K h (k x1)
theorem ex3K {G : Prop} {α : Sort u₁} {β : Sort u₂} {γ : Sort u₃} {p : α → β → γ → Prop} (h : ∃ x1 x2 x3, p x1 x2 x3) (k : ∀ x1 x2 x3, p x1 x2 x3 → G) : G := ex1K h fun x1 h => ex2K h (k x1)
theorem ex4K {G : Prop} {α : Sort u₁} {β : Sort u₂} {γ : Sort u₃} {δ : Sort u₄} {p : α → β → γ → δ → Prop} (h : ∃ x1 x2 x3 x4, p x1 x2 x3 x4) (k : ∀ x1 x2 x3 x4, p x1 x2 x3 x4 → G) : G := ex1K h fun x1 h => ex3K h (k x1)
theorem ex5K {G : Prop} {α : Sort u₁} {β : Sort u₂} {γ : Sort u₃} {δ : Sort u₄} {ε : Sort u₅} {p : α → β → γ → δ → ε → Prop} (h : ∃ x1 x2 x3 x4 x5, p x1 x2 x3 x4 x5) (k : ∀ x1 x2 x3 x4 x5, p x1 x2 x3 x4 x5 → G) : G := ex1K h fun x1 h => ex4K h (k x1)
theorem ex6K {G : Prop} {α : Sort u₁} {β : Sort u₂} {γ : Sort u₃} {δ : Sort u₄} {ε : Sort u₅} {ζ : Sort u₆} {p : α → β → γ → δ → ε → ζ → Prop} (h : ∃ x1 x2 x3 x4 x5 x6, p x1 x2 x3 x4 x5 x6) (k : ∀ x1 x2 x3 x4 x5 x6, p x1 x2 x3 x4 x5 x6 → G) : G := ex1K h fun x1 h => ex5K h (k x1)
theorem ex7K {G : Prop} {α : Sort u₁} {β : Sort u₂} {γ : Sort u₃} {δ : Sort u₄} {ε : Sort u₅} {ζ : Sort u₆} {η : Sort u₇} {p : α → β → γ → δ → ε → ζ → η → Prop} (h : ∃ x1 x2 x3 x4 x5 x6 x7, p x1 x2 x3 x4 x5 x6 x7) (k : ∀ x1 x2 x3 x4 x5 x6 x7, p x1 x2 x3 x4 x5 x6 x7 → G) : G := ex1K h fun x1 h => ex6K h (k x1)
theorem ex8K {G : Prop} {α : Sort u₁} {β : Sort u₂} {γ : Sort u₃} {δ : Sort u₄} {ε : Sort u₅} {ζ : Sort u₆} {η : Sort u₇} {θ : Sort u₈} {p : α → β → γ → δ → ε → ζ → η → θ → Prop} (h : ∃ x1 x2 x3 x4 x5 x6 x7 x8, p x1 x2 x3 x4 x5 x6 x7 x8) (k : ∀ x1 x2 x3 x4 x5 x6 x7 x8, p x1 x2 x3 x4 x5 x6 x7 x8 → G) : G := ex1K h fun x1 h => ex7K h (k x1)
theorem mkE2 {α : Sort u₁} {β : Sort u₂} {p : α → β → Prop} {v1 : α} {v2 : β} (h : p v1 v2) : ∃ x1 x2, p x1 x2 := ⟨v1, v2, h⟩
theorem mkE3 {α : Sort u₁} {β : Sort u₂} {γ : Sort u₃} {p : α → β → γ → Prop} {v1 : α} {v2 : β} {v3 : γ} (h : p v1 v2 v3) : ∃ x1 x2 x3, p x1 x2 x3 := ⟨v1, v2, v3, h⟩
theorem mkE4 {α : Sort u₁} {β : Sort u₂} {γ : Sort u₃} {δ : Sort u₄} {p : α → β → γ → δ → Prop} {v1 : α} {v2 : β} {v3 : γ} {v4 : δ} (h : p v1 v2 v3 v4) : ∃ x1 x2 x3 x4, p x1 x2 x3 x4 := ⟨v1, v2, v3, v4, h⟩
theorem mkE5 {α : Sort u₁} {β : Sort u₂} {γ : Sort u₃} {δ : Sort u₄} {ε : Sort u₅} {p : α → β → γ → δ → ε → Prop} {v1 : α} {v2 : β} {v3 : γ} {v4 : δ} {v5 : ε} (h : p v1 v2 v3 v4 v5) : ∃ x1 x2 x3 x4 x5, p x1 x2 x3 x4 x5 := ⟨v1, v2, v3, v4, v5, h⟩
theorem mkE6 {α : Sort u₁} {β : Sort u₂} {γ : Sort u₃} {δ : Sort u₄} {ε : Sort u₅} {ζ : Sort u₆} {p : α → β → γ → δ → ε → ζ → Prop} {v1 : α} {v2 : β} {v3 : γ} {v4 : δ} {v5 : ε} {v6 : ζ} (h : p v1 v2 v3 v4 v5 v6) : ∃ x1 x2 x3 x4 x5 x6, p x1 x2 x3 x4 x5 x6 := ⟨v1, v2, v3, v4, v5, v6, h⟩
theorem mkE7 {α : Sort u₁} {β : Sort u₂} {γ : Sort u₃} {δ : Sort u₄} {ε : Sort u₅} {ζ : Sort u₆} {η : Sort u₇} {p : α → β → γ → δ → ε → ζ → η → Prop} {v1 : α} {v2 : β} {v3 : γ} {v4 : δ} {v5 : ε} {v6 : ζ} {v7 : η} (h : p v1 v2 v3 v4 v5 v6 v7) : ∃ x1 x2 x3 x4 x5 x6 x7, p x1 x2 x3 x4 x5 x6 x7 := ⟨v1, v2, v3, v4, v5, v6, v7, h⟩
theorem mkE8 {α : Sort u₁} {β : Sort u₂} {γ : Sort u₃} {δ : Sort u₄} {ε : Sort u₅} {ζ : Sort u₆} {η : Sort u₇} {θ : Sort u₈} {p : α → β → γ → δ → ε → ζ → η → θ → Prop} {v1 : α} {v2 : β} {v3 : γ} {v4 : δ} {v5 : ε} {v6 : ζ} {v7 : η} {v8 : θ} (h : p v1 v2 v3 v4 v5 v6 v7 v8) : ∃ x1 x2 x3 x4 x5 x6 x7 x8, p x1 x2 x3 x4 x5 x6 x7 x8 := ⟨v1, v2, v3, v4, v5, v6, v7, v8, h⟩
theorem and2K {G p1 p2 : Prop} (h : p1 ∧ p2) (k : p1 → p2 → G) : G := k h.1 h.2
theorem and3K {G p1 p2 p3 : Prop} (h : p1 ∧ p2 ∧ p3) (k : p1 → p2 → p3 → G) : G := and2K h.2 (k h.1)
theorem and4K {G p1 p2 p3 p4 : Prop} (h : p1 ∧ p2 ∧ p3 ∧ p4) (k : p1 → p2 → p3 → p4 → G) : G := and3K h.2 (k h.1)
theorem and5K {G p1 p2 p3 p4 p5 : Prop} (h : p1 ∧ p2 ∧ p3 ∧ p4 ∧ p5) (k : p1 → p2 → p3 → p4 → p5 → G) : G := and4K h.2 (k h.1)
theorem and6K {G p1 p2 p3 p4 p5 p6 : Prop} (h : p1 ∧ p2 ∧ p3 ∧ p4 ∧ p5 ∧ p6) (k : p1 → p2 → p3 → p4 → p5 → p6 → G) : G := and5K h.2 (k h.1)
theorem and7K {G p1 p2 p3 p4 p5 p6 p7 : Prop} (h : p1 ∧ p2 ∧ p3 ∧ p4 ∧ p5 ∧ p6 ∧ p7) (k : p1 → p2 → p3 → p4 → p5 → p6 → p7 → G) : G := and6K h.2 (k h.1)
theorem and8K {G p1 p2 p3 p4 p5 p6 p7 p8 : Prop} (h : p1 ∧ p2 ∧ p3 ∧ p4 ∧ p5 ∧ p6 ∧ p7 ∧ p8) (k : p1 → p2 → p3 → p4 → p5 → p6 → p7 → p8 → G) : G := and7K h.2 (k h.1)
theorem and9K {G p1 p2 p3 p4 p5 p6 p7 p8 p9 : Prop} (h : p1 ∧ p2 ∧ p3 ∧ p4 ∧ p5 ∧ p6 ∧ p7 ∧ p8 ∧ p9) (k : p1 → p2 → p3 → p4 → p5 → p6 → p7 → p8 → p9 → G) : G := and8K h.2 (k h.1)
theorem and10K {G p1 p2 p3 p4 p5 p6 p7 p8 p9 p10 : Prop} (h : p1 ∧ p2 ∧ p3 ∧ p4 ∧ p5 ∧ p6 ∧ p7 ∧ p8 ∧ p9 ∧ p10) (k : p1 → p2 → p3 → p4 → p5 → p6 → p7 → p8 → p9 → p10 → G) : G := and9K h.2 (k h.1)
theorem and11K {G p1 p2 p3 p4 p5 p6 p7 p8 p9 p10 p11 : Prop} (h : p1 ∧ p2 ∧ p3 ∧ p4 ∧ p5 ∧ p6 ∧ p7 ∧ p8 ∧ p9 ∧ p10 ∧ p11) (k : p1 → p2 → p3 → p4 → p5 → p6 → p7 → p8 → p9 → p10 → p11 → G) : G := and10K h.2 (k h.1)
theorem and12K {G p1 p2 p3 p4 p5 p6 p7 p8 p9 p10 p11 p12 : Prop} (h : p1 ∧ p2 ∧ p3 ∧ p4 ∧ p5 ∧ p6 ∧ p7 ∧ p8 ∧ p9 ∧ p10 ∧ p11 ∧ p12) (k : p1 → p2 → p3 → p4 → p5 → p6 → p7 → p8 → p9 → p10 → p11 → p12 → G) : G := and11K h.2 (k h.1)
end
theorem atCall {m A Q E s l a} (h : wpAny m A (PySem.call (Value.ref l) a) Q E s) : wpAny m A (PySem.call (Value.ref l) a) Q E s := h
theorem atSet {m A Q E s l a v} (h : wpAny m A (setAttr l a v) Q E s) : wpAny m A (setAttr l a v) Q E s := h
theorem atAppend {m A Q E s a} (h : wpAny m A (PySem.call (Value.builtin "list.append") a) Q E s) : wpAny m A (PySem.call (Value.builtin "list.append") a) Q E s := h
theorem atWhile {m A Q E s l a c d v} (h : wpAny m A (exec (Stmt.While l a c d) v) Q E s) : wpAny m A (exec (Stmt.While l a c d) v) Q E s := h
theorem atFor {m A Q E s l a c d e v} (h : wpAny m A (exec (Stmt.For l a c d e) v) Q E s) : wpAny m A (exec (Stmt.For l a c d e) v) Q E s := h
theorem atIf {m A Q E s l a c d v} (h : wpAny m A (exec (Stmt.If l a c d) v) Q E s) : wpAny m A (exec (Stmt.If l a c d) v) Q E s := h
theorem atRaise {m A Q E s l a c v} (h : wpAny m A (exec (Stmt.Raise l a c) v) Q E s) : wpAny m A (exec (Stmt.Raise l a c) v) Q E s := h
set_option hygiene false in
open Lean in
def obAlts (ps : Array Syntax) (t : Term) : Nat → MacroM (TSyntax `tactic)
  | 0 => `(tactic| fail)
  | j + 1 => do
    let rest ← if ps.size == j + 2 then pure ps[j + 1]! else do
      let r : Array (TSyntax ``Parser.Tactic.rcasesPatLo) := (ps.extract (j + 1) ps.size).map (⟨·⟩)
      pure (← `(Parser.Tactic.rcasesPatLo| ⟨$r,*⟩)).raw
    let nm (k : Nat) (q : Syntax) : Syntax × Bool :=
      let m := q[0][0][0]
      if q[0][0].getNumArgs == 1 && q[1].isNone && (m.getKind == ``Parser.Tactic.rcasesPat.ignore || m.getKind == ``Parser.Tactic.rcasesPat.one && m[0].getId != `rfl) then (m[0], false)
      else (mkIdent (Name.mkSimple s!"hJ{k}"), true)
    let qs := ((ps.extract 0 (j + 1)).push rest).mapIdx fun k q => (nm k q, q)
    let ids : Array Term := qs.map fun q => if q.1.1.isIdent then ⟨q.1.1⟩ else ⟨Syntax.node .none ``Parser.Term.hole #[q.1.1]⟩
    let post ← (qs.filter (·.1.2)).mapM fun q => `(tactic| obtain $(⟨q.2[0]⟩):rcasesPatMed := $(⟨q.1.1⟩):ident)
    `(tactic| first | ((first | refine $(mkIdent (Name.mkSimple s!"ex{j + 1}K")) $t ?_ | refine $(mkIdent (Name.mkSimple s!"and{j + 2}K")) $t ?_); (try clear $t:term); intro $ids:term*; ($[$post:tactic];*)) | $(← obAlts ps t j):tactic)
theorem bud {dp D D' : Nat} (h : dp + D < recursionLimit + 1) (k : D' + 1 ≤ D) : dp + D' < recursionLimit := by omega
theorem bud3 {un U U' : Nat} (h : un + U < cLine + 3) (k : U' + 3 ≤ U) : un + U' < cLine := by omega
theorem le_up {a b c : Nat} (h : a ≤ b) (k : c ≤ a) : c ≤ b := by omega
abbrev Led := List (Addr × Obj)
abbrev tupOf (vs : List Value) (n : Nat := 0) : Obj := { cls := .type "tuple", data := .seq vs.toArray n }
abbrev lstOf (vs : List Value) (n : Nat := 0) : Obj := { cls := .type "list", data := .seq vs.toArray n }
abbrev strD (s : String) : PyData := .str (Str.ofString s)
abbrev dMinus : PyData := .tuple [strD "num", .int (-1), .int 1]

mutual
inductive Rd (S : Led) : Value → PyData → Prop
  | int (i : Int) (t : Tok) : Rd S (.int i t) (.int i)
  | str (x : Str) (t : Tok) : Rd S (.str x t) (.str x)
  | tup {a : Addr} {vs : List Value} {n : Nat} {ds : List PyData} : (a, tupOf vs n) ∈ S → Rds S vs ds → Rd S (.ref a) (.tuple ds)
  | minus : Rd S (.ref 71) dMinus
inductive Rds (S : Led) : List Value → List PyData → Prop
  | nil : Rds S [] []
  | cons {v : Value} {vs : List Value} {d : PyData} {ds : List PyData} : Rd S v d → Rds S vs ds → Rds S (v :: vs) (d :: ds)
end
mutual
theorem Rd.mono {S S' : Led} (hs : ∀ p ∈ S, p.2.cls = .type "tuple" → p ∈ S') : ∀ {v : Value} {d : PyData}, Rd S v d → Rd S' v d
  | _, _, .int i t => .int i t
  | _, _, .str x t => .str x t
  | _, _, .tup h r => .tup (hs _ h rfl) (Rds.mono hs r)
  | _, _, .minus => .minus
theorem Rds.mono {S S' : Led} (hs : ∀ p ∈ S, p.2.cls = .type "tuple" → p ∈ S') : ∀ {vs : List Value} {ds : List PyData}, Rds S vs ds → Rds S' vs ds
  | _, _, .nil => .nil
  | _, _, .cons h r => .cons (Rd.mono hs h) (Rds.mono hs r)
end
theorem Rd.sub {S S' : Led} (hs : ∀ p ∈ S, p ∈ S') {v : Value} {d : PyData} (h : Rd S v d) : Rd S' v d := h.mono fun p hp _ => hs p hp
theorem Rds.sub {S S' : Led} (hs : ∀ p ∈ S, p ∈ S') {v : List Value} {d : List PyData} (h : Rds S v d) : Rds S' v d := h.mono fun p hp _ => hs p hp
theorem Rds.get {S : Led} : ∀ {vs : List Value} {ds : List PyData} {k : Nat} {d : PyData}, Rds S vs ds → ds[k]? = some d → ∃ v, vs[k]? = some v ∧ Rd S v d
  | _, _, 0, _, .cons h _, e => ⟨_, rfl, by cases e; exact h⟩
  | _, _, k + 1, _, .cons _ r, e => r.get (k := k) e
theorem Rds.length {S : Led} : ∀ {vs : List Value} {ds : List PyData}, Rds S vs ds → vs.length = ds.length
  | _, _, .nil => rfl
  | _, _, .cons _ r => by simp [r.length]
theorem Rds.append {S : Led} : ∀ {vs ws : List Value} {ds es : List PyData}, Rds S vs ds → Rds S ws es → Rds S (vs ++ ws) (ds ++ es)
  | _, _, _, _, .nil, k => k
  | _, _, _, _, .cons h r, k => .cons h (r.append k)
theorem Rds.mapA {S : Led} {α : Type} {f : α → PyData} {vs ws : List Value} {a b : List α} (h : Rds S vs (a.map f)) (k : Rds S ws (b.map f)) : Rds S (vs ++ ws) ((a ++ b).map f) := by
  rw [List.map_append]; exact h.append k
theorem Rd.handed {S : Led} {v : Value} {d : PyData} (h : Rd S v d) : handedIn v = true := by cases h <;> rfl

def FlyD (base : Heap) (l : List Env) (e dx : Addr) (h : Heap) : Prop :=
  base.StaysIn h ∧ base.get? e = none ∧ h.FunFrames base l ∧
    ∃ oe vs T oT ts, h.get? e = some oe ∧ oe.cls = .ref 51 ∧ oe.dict = some dx ∧ oe.data = .fields vs ∧ vs[1]? = some (.ref T) ∧ base.get? T = none ∧ T ≠ e ∧ h.get? T = some oT ∧ oT.data = .fields ts ∧ ts[3]? = some .none

def SaysAt (o : Obj) (at_ : Int) : Prop := ∃ es n tk, o = dictOf es n ∧ getL (Str.ofString "at") es = some (some (.int at_ tk))

def Raised (base G : Heap) (l : List Env) (news : Led) (at_ : Int) (e : Addr) (h : Heap) : Prop :=
  ∃ B dx odx, base.StaysIn B ∧ (∀ b o, G.get? b = some o → b ∉ l.filterMap (·.frame) → B.get? b = some o) ∧ (∀ q ∈ news, B.get? q.1 = some q.2 ∧ G.get? q.1 = none) ∧ B.get? dx = some odx ∧ G.get? dx = none ∧ SaysAt odx at_ ∧ FlyD B l e dx h

def Into {α : Type} (Q' P : α → Shared → Prop) : Prop := ∀ f s, P f s → Q' f s
theorem Into.use {α : Type} {Q' P : α → Shared → Prop} (h : Into Q' P := by assumption) {f : α} {s : Shared} (p : P f s) : Q' f s := h f s p
theorem wp_into {α : Type} {M : Model} {A : Around} {E : Value → Shared → Prop} {t : Sem α} {s : Shared} {Q : α → Shared → Prop} (h : ∀ Q' : α → Shared → Prop, Into Q' Q → wpAny M A t Q' E s) : wpAny M A t Q E s := h _ fun _ _ h => h
section
variable {M : Model} {A : Around} {E : Value → Shared → Prop} {s : Shared} {h₀ : Heap} {L a : Addr} {m : Str → Option Value} {cn : Str} {cs : Scope} {ccd : Value} {cl : List (Str × Addr)} {x : Str} {v : Value} {pos : Pos} {Q : Value → Shared → Prop}
theorem nmL (F : Fr h₀ L s.heap m := by k_asm) (hv : m x = some v := by first | rfl | assumption) (h : Q v s) (hk : cs.kind = .function := by rfl) (hx : (envX cn cs L a ccd cl).kindOf x = some .local := by rfl) (hd : (x == ("__debug__" : Str)) = false := by decide) :
    wpAny M A (eval (.Name x pos) (envX cn cs L a ccd cl)) Q E s := nameX_L F hv h hk hx hd
theorem ldL (F : Fr h₀ L s.heap m := by k_asm) (hv : m x = some v := by first | rfl | assumption) (h : Q v s) (hk : cs.kind = .function := by rfl) (hl : (envOf cn cs L a ccd).kindOf x = some .local := by rfl) :
    wpAny M A (loadName (envOf cn cs L a ccd) x) Q E s := ldn F hv h hk hl
end
def Cont (M : Model) (A : Around) (rest : List Stmt) (env : Env) (Q : Flow → Shared → Prop) (E : Value → Shared → Prop) : Flow → Shared → Prop := fun f s' => match f with | .next => wpAny M A (execs rest env) Q E s' | f => Q f s'
theorem execs_into {M : Model} {A : Around} {E : Value → Shared → Prop} {env : Env} {st : Stmt} {rest : List Stmt} {s : Shared} {Q : Flow → Shared → Prop}
    (h : ∀ Q' : Flow → Shared → Prop, Into Q' (Cont M A rest env Q E) → wpAny M A (exec st env) Q' E s) : wpAny M A (execs (st :: rest) env) Q E s :=
  wpAny_execs_cons (h _ fun _ _ h => h)
section
variable {M : Model} {A : Around} {E : Value → Shared → Prop} {env : Env} {rest : List Stmt} {s : Shared} {Q Q' : Flow → Shared → Prop}
theorem Into.next (h : Into Q' (Cont M A rest env Q E) := by assumption) (p : wpAny M A (execs rest env) Q E s) : Q' .next s := h _ _ p
theorem Into.last (h : Into Q' (Cont M A [] env Q E) := by assumption) (p : Q .next s) : Q' .next s := h _ _ (wpAny_execs_nil p)
theorem Into.ret {v : Value} (h : Into Q' (Cont M A rest env Q E) := by assumption) (p : Q (.ret v) s) : Q' (.ret v) s := h _ _ p
theorem Into.brk (h : Into Q' (Cont M A rest env Q E) := by assumption) (p : Q .brk s) : Q' .brk s := h _ _ p
theorem Into.cont (h : Into Q' (Cont M A rest env Q E) := by assumption) (p : Q .cont s) : Q' .cont s := h _ _ p
end

def Tells (w : World) (f : Addr) (D U : Nat) (news : Led) (vs : List Value) (Ok : Led → Value → Prop) (Er : Led → Int → Prop) : Prop :=
  ∀ (dp un : Nat) (gd : Option (List Code)) (cn : Str) (cs : Scope) (a : Addr) (ccd : Value) (cl : List (Str × Addr)) (outer : List Env) (mean : ExcName → Option Value) (mg mb : Str → Option Value)
    (A₀ : Around) (base h₀ : Heap) (L : Addr) (m : Str → Option Value) (s : Shared) (Q E : Value → Shared → Prop),
    Below A₀ base outer h₀ → Fr h₀ L s.heap m → (hd.heap_1 w.params).In h₀ → News h₀ L s.heap news →
    Top hd.view_39 (looseW hd.view_39 [Str.ofString "TEXT_SIGNS"]) mean mg mb h₀ → cs.kind = .function →
    dp + D < recursionLimit → un + U < cLine →
    (∀ r news' h' tk', Fr h₀ L h' m → News h₀ L h' news' → Ok news' r → Q r { s with heap := h', toks := tk' }) →
    (∀ e at_ g news' h' tk', Fr h₀ L g m → g.UpToSlots h' → Raised base g (envX cn cs L a ccd cl :: outer) news' at_ e h' → Er news' at_ → E (.ref e) { s with heap := h', toks := tk' }) →
    wpAny (model PySem.Challenge.rw_nn0269_01.row.prog w) (ktrTop dp un gd cn cs L a ccd cl outer) (call (.ref f) vs) Q E s

def TellsC (w : World) (f : Addr) (D U : Nat) (news : Led) (vs : List Value) (Ok : Led → Value → Prop) (Er : Led → Int → Prop) : Prop :=
  ∀ (dp un : Nat) (gd : Option (List Code)) (cn : Str) (cs : Scope) (a : Addr) (ccd : Value) (cl : List (Str × Addr)) (outer : List Env) (mean : ExcName → Option Value) (mg mb : Str → Option Value)
    (A₀ : Around) (base h₀ : Heap) (L : Addr) (m : Str → Option Value) (s : Shared) (R : Result → Shared → Prop),
    Below A₀ base outer h₀ → Fr h₀ L s.heap m → (hd.heap_1 w.params).In h₀ → News h₀ L s.heap news →
    Top hd.view_39 (looseW hd.view_39 [Str.ofString "TEXT_SIGNS"]) mean mg mb h₀ → cs.kind = .function →
    dp + D < recursionLimit → un + U < cLine →
    (∀ r news' h' tk', Fr h₀ L h' m → News h₀ L h' news' → Ok news' r → R (.ok (.ret r)) { s with heap := h', toks := tk' }) →
    (∀ e at_ g news' h' tk', Fr h₀ L g m → g.UpToSlots h' → Raised base g (envX cn cs L a ccd cl :: outer) news' at_ e h' → Er news' at_ → R (.error (.ref e)) { s with heap := h', toks := tk' }) →
    codeAny (model PySem.Challenge.rw_nn0269_01.row.prog w) (ktrTop dp un gd cn cs L a ccd cl outer) (.call (.ref f) ⟨vs, []⟩) R s
theorem TellsC.tells {w : World} {f : Addr} {D U : Nat} {news : Led} {vs : List Value} {Ok : Led → Value → Prop} {Er : Led → Int → Prop} (h : TellsC w f D U news vs Ok Er) : Tells w f D U news vs Ok Er := by
  intro dp un gd cn cs a ccd cl outer mean mg mb A₀ base h₀ L m s Q E B F X N T hke hd hu ok er
  exact wpAny_call (h dp un gd cn cs a ccd cl outer mean mg mb A₀ base h₀ L m s _ B F X N T hke hd hu ok er)

abbrev noEr : Led → Int → Prop := fun _ _ => False

theorem with_fill {P : Prop} (w : World) (h : (PySem.Challenge.rw_nn0269_01.Holds → (hd.heap_1 w.params) = (hd.heap_1 w.params)) → P) : P := h fun _ => rfl

def FlyAt (base : Heap) (l : List Env) (e dx : Addr) (fl : Value) (h : Heap) : Prop :=
  base.StaysIn h ∧ base.get? e = none ∧ h.FunFrames base l ∧
    ∃ oe vs T oT ts, h.get? e = some oe ∧ oe.cls = .ref 51 ∧ oe.dict = some dx ∧ oe.data = .fields vs ∧ vs[1]? = some (.ref T) ∧ base.get? T = none ∧ T ≠ e ∧ h.get? T = some oT ∧ oT.data = .fields ts ∧ ts[3]? = some fl
theorem FlyAt.fly {base : Heap} {l : List Env} {e dx : Addr} {h : Heap} (x : FlyAt base l e dx .none h) : FlyD base l e dx h := x
theorem FlyD.at {base : Heap} {l : List Env} {e dx : Addr} {h : Heap} (x : FlyD base l e dx h) : FlyAt base l e dx .none h := x

abbrev pfObj (t dx : Addr) : Obj := { cls := .ref 51, dict := some dx, data := .fields #[.ref t, .none, .none, .none, .bool false, .none] }

section
variable {M : Model} {A : Around} {E : Value → Shared → Prop} {s s' : Shared} {base g g₂ : Heap} {outer l : List Env} {L a e dx : Addr} {m : Str → Option Value} {name : Str} {scope : Scope} {cd : Value} {Q : Unit → Shared → Prop} {news : Led} {at_ : Int} {env : Env}

theorem entry_D {oe : Obj} {vs : Array Value} {head : Value} {hadNext : Bool} (hfr : A.frames = some (env :: outer)) (hl : s.heap.FunFrames base (env :: outer)) (hf : env.frame = some L)
    (he : s.heap.get? e = some oe) (hkb : base.StaysIn s.heap) (hen : base.get? e = none) (hc : oe.cls = .ref 51) (hdx : oe.dict = some dx) (hd : oe.data = .fields vs) (hsz : 1 < vs.size)
    (h : ∀ h', FlyAt base (env :: outer) e dx (rawInt L) h' → s.heap.UpToSlots h' → Q () { s with heap := h' }) :
    wpAny M A (do let a ← frameOf env; let pl ← entryPlaceOf L hadNext; let b ← EntryCells.newEntry head a .none (rawInt L) .none pl; setField (.ref e) 1 b) Q E s := by
  have hne : e ∉ (env :: outer).filterMap (·.frame) := fun hm => by
    obtain ⟨_, o, ho, hnf⟩ := hl.mem hm
    rw [he] at ho
    obtain rfl := Option.some.inj ho
    exact hnf vs hd
  refine wpAny_bind (wpAny_frameOf_fun hfr hl hf fun h₁ hs₁ => wpAny_bind (wpAny_entryPlaceOf fun pl hpl => ?_))
  unfold EntryCells.newEntry newFields
  refine wpAny_bind (wpAny_newObj_type ?_ (hpl.sizeOk5 _ _ _ _ _))
  generalize hT : ({ cls := .type "traceback", dict := none, data := .fields ([head, .ref L, .none, rawInt L, .none] ++ (if pl.isEmpty then List.replicate 6 Value.none else pl)).toArray } : Obj) = oT
  have hTf : oT.isFreed = false := by subst hT; rfl
  have hTd : oT.data = .fields ([head, .ref L, .none, rawInt L, .none] ++ (if pl.isEmpty then List.replicate 6 Value.none else pl)).toArray := by subst hT; rfl
  have e₁ : h₁.get? e = some oe := (hs₁.2.1 e hne).trans he
  have k₁ : base.StaysIn h₁ := fun b o hb => (hs₁.2.1 b fun hm => by rw [(hl.mem hm).1] at hb; cases hb).trans (hkb b o hb)
  have e₂ := Heap.get?_push_of_some (h := h₁) oT e₁
  refine wpAny_setField e₂ hd hsz (h _ ?_ ?_)
  all_goals
    have hTe : h₁.objs.size ≠ e := Nat.ne_of_gt (Heap.lt_size e₁)
    have d₃ := Obj.data_mapFields hd (·.setIfInBounds 1 (Value.ref h₁.objs.size))
    have e₃ := Heap.get?_update_self (Obj.mapFields (·.setIfInBounds 1 (Value.ref h₁.objs.size))) e₂ (Obj.isFreed_of_fields d₃)
    have t₃ := (Heap.get?_update_other (h₁.push oT) (Obj.mapFields (·.setIfInBounds 1 (Value.ref h₁.objs.size))) (Ne.symm hTe)).trans (Heap.get?_push_size h₁ hTf)
    have keep : ∀ b o, b ≠ e → h₁.get? b = some o → ((h₁.push oT).update e (Obj.mapFields (·.setIfInBounds 1 (Value.ref h₁.objs.size)))).get? b = some o := fun b o hbe hb => by
      rw [Heap.get?_update_other _ _ (Ne.symm hbe)]
      exact Heap.get?_push_of_some _ hb
    have off : ∀ b o, s.heap.get? b = some o → (∀ vs, o.data ≠ .fields vs) → b ≠ e := fun b o hb hnf q => by
      rw [q, he] at hb
      obtain rfl := Option.some.inj hb
      exact hnf vs hd
  · refine ⟨fun b o hb => keep b o (fun q => by rw [q, hen] at hb; cases hb) (k₁ b o hb), hen, hl.of_keeps fun b o hb hnf => ?_, _, _, h₁.objs.size, _, _, e₃, ?_, ?_, d₃, by simp [hsz], k₁.fresh, hTe, t₃, hTd, by simp⟩
    · obtain ⟨sl, hs⟩ := hs₁.2.2 b o hb
      exact ⟨_, keep b _ (off b o hb hnf) hs, rfl⟩
    · rw [Obj.cls_mapFields]; exact hc
    · obtain ⟨oc, od, odt, osl⟩ := oe
      cases odt <;> exact hdx
  · intro b o hb hnf
    obtain ⟨sl, hs⟩ := hs₁.2.2 b o hb
    exact ⟨sl, keep b _ (off b o hb hnf) hs⟩

theorem flight_D {fl : Value} (x : FlyAt base l e dx fl s.heap) (h : ∀ h', FlyD base l e dx h' → s.heap.UpToSlots h' → Q () { s with heap := h' }) : wpAny M A (setFlight (.ref e) none) Q E s := by
  obtain ⟨k1, k2, k3, oe, vs, T, oT, ts, he, hc, hdx, hd, h1, hnT, hTe, hT, hdT, h3⟩ := x
  have h3' : 3 < ts.size := (Array.getElem?_eq_some_iff.mp h3).1
  have other : ∀ b, b ≠ T → (s.heap.update T (Obj.mapFields (·.setIfInBounds 3 ((none : Option Addr).elim Value.none fun f => rawInt f)))).get? b = s.heap.get? b := fun b hb => Heap.get?_update_other _ _ (Ne.symm hb)
  have off : ∀ b o, s.heap.get? b = some o → (∀ vs, o.data ≠ .fields vs) → b ≠ T := fun b o hb hnf q => by
    rw [q, hT] at hb
    obtain rfl := Option.some.inj hb
    exact hnf ts hdT
  unfold setFlight
  refine wpAny_bind (wpAny_field he hd h1 ?_)
  rw [if_pos (show (Value.ref T != Value.none) = true from by simp)]
  refine wpAny_setField hT hdT h3' (h _ ⟨fun b o hb => (other b fun q => by rw [q, hnT] at hb; cases hb).trans (k1 b o hb), k2, k3.of_keeps fun b o hb hnf => ⟨o, (other b (off b o hb hnf)).trans hb, rfl⟩,
    oe, vs, T, _, _, (other e (Ne.symm hTe)).trans he, hc, hdx, hd, h1, hnT, hTe, Heap.get?_update_self _ hT (Obj.isFreed_of_fields (Obj.data_mapFields hdT _)), Obj.data_mapFields hdT _, by simp [h3']⟩ fun b o hb hnf => ⟨o.slots, (other b (off b o hb hnf)).trans hb⟩)

theorem note_on (hfr : A.frames = some (env :: outer)) (hf : env.frame = some L) (x : FlyD base (env :: outer) e dx s.heap)
    (h : ∀ h', FlyAt base (env :: outer) e dx (rawInt L) h' → s.heap.UpToSlots h' → Q () { s with heap := h' }) : wpAny M A (noteFrame (.ref e) env) Q E s := by
  obtain ⟨k1, k2, k3, oe, vs, T, oT, ts, he, hc, hdx, hd, h1, hnT, hTe, hT, hdT, h3⟩ := x
  unfold noteFrame
  simp only [hf]
  refine wpAny_bind (wpAny_field he hd h1 ?_)
  rw [if_pos (show (Value.ref T != Value.none) = true from by simp)]
  refine wpAny_bind (wpAny_field hT hdT h3 ?_)
  rw [if_neg (show ¬ ((Value.none == rawInt L) = true) from by simp [rawInt])]
  refine wpAny_bind (wpAny_setField hT hdT (Array.getElem?_eq_some_iff.mp h3).1 ?_)
  have other : ∀ b, b ≠ T → (s.heap.update T (Obj.mapFields (·.setIfInBounds 3 Value.none))).get? b = s.heap.get? b := fun b hb => Heap.get?_update_other _ _ (Ne.symm hb)
  have off : ∀ b o, s.heap.get? b = some o → (∀ vs, o.data ≠ .fields vs) → b ≠ T := fun b o hb hnf q => by
    rw [q, hT] at hb
    obtain rfl := Option.some.inj hb
    exact hnf ts hdT
  refine entry_D hfr (k3.of_keeps fun b o hb hnf => ⟨o, (other b (off b o hb hnf)).trans hb, rfl⟩) hf ((other e (Ne.symm hTe)).trans he)
    (fun b o hb => (other b fun q => by rw [q, hnT] at hb; cases hb).trans (k1 b o hb)) k2 hc hdx hd (Array.getElem?_eq_some_iff.mp h1).1 fun h' x u => h h' x fun b o hb hnf => u b o ((other b (off b o hb hnf)).trans hb) hnf

theorem note_first {oe : Obj} {vs : Array Value} (hfr : A.frames = some (env :: outer)) (hl : s.heap.FunFrames base (env :: outer)) (hf : env.frame = some L) (hkb : base.StaysIn s.heap) (hen : base.get? e = none)
    (he : s.heap.get? e = some oe) (hc : oe.cls = .ref 51) (hdx : oe.dict = some dx) (hd : oe.data = .fields vs) (h1 : vs[1]? = some .none)
    (h : ∀ h', FlyAt base (env :: outer) e dx (rawInt L) h' → s.heap.UpToSlots h' → Q () { s with heap := h' }) : wpAny M A (noteFrame (.ref e) env) Q E s := by
  unfold noteFrame
  simp only [hf]
  refine wpAny_bind (wpAny_field he hd h1 ?_)
  rw [if_neg (by decide)]
  exact entry_D hfr hl hf he hkb hen hc hdx hd (Array.getElem?_eq_some_iff.mp h1).1 h

theorem FlyD.pop (x : FlyD base (env :: outer) e dx g) : FlyD base outer e dx g := by
  obtain ⟨k1, k2, ⟨_, _, k3⟩, r⟩ := x
  exact ⟨k1, k2, k3, r⟩
theorem leave_raised (K : Below A base outer g) (F : Fr g L g₂ m) (R : Raised base g₂ (envX name scope L a cd [] :: outer) news at_ e s'.heap) (hsm : g₂.UpToSlots s'.heap)
    (hQ : ∀ h', Raised base g outer news at_ e h' → g.UpToSlots h' → Q () { s' with heap := h' }) :
    wpAny M (A.deeper (envX name scope L a cd [])) (leaving (envX name scope L a cd []) (.ref e)) Q E s' := by
  obtain ⟨B, dx, odx, hB, hBG, hl, hdx, hdn, hat, hfl⟩ := R
  have hBG' : ∀ b o, g.get? b = some o → b ∉ outer.filterMap (·.frame) → B.get? b = some o := fun b o hb hn => hBG b o (F.keep b o hb) fun hm => by
    rcases kts_mem hm with h | h
    · rw [h, kts_self F] at hb; cases hb
    · exact hn h
  unfold leaving
  refine wpAny_bind (note_on (Around.frames_deeper K.stack) rfl hfl fun h₁ x₁ u₁ => flight_D x₁ fun h₂ x₂ u₂ => ?_)
  exact hQ h₂ ⟨B, dx, odx, hB, hBG', fun q hq => ⟨(hl q hq).1, kts_none F.keep (hl q hq).2⟩, hdx, kts_none F.keep hdn, hat, x₂.pop⟩ ((Heap.UpToSlots.of_keeps F.keep).trans (hsm.trans (u₁.trans u₂)))

theorem leave_made {t : Addr} {odx : Obj} (K : Below A base outer g) (F : Fr g L s'.heap m) (hk : scope.kind = .function) (N : News g L s'.heap ((e, pfObj t dx) :: news)) (hne : ∀ p ∈ news, p.1 ≠ e) (hdx : (dx, odx) ∈ news) (hat : SaysAt odx at_)
    (hQ : ∀ h', Raised base g outer news at_ e h' → g.UpToSlots h' → Q () { s' with heap := h' }) :
    wpAny M (A.deeper (envX name scope L a cd [])) (leaving (envX name scope L a cd []) (.ref e)) Q E s' := by
  have K' := K.push (name := name) (a := a) (cd := cd) F hk
  have hin : ∀ env ∈ (envOf name scope L a cd :: outer), ∀ b, env.frame = some b → b ∈ e :: (envOf name scope L a cd :: outer).filterMap (·.frame) := fun env he b hb => .tail _ (List.mem_filterMap.mpr ⟨env, he, hb⟩)
  have he := N _ (.head _)
  have hen : base.get? e = none := fresh_of_stays K.stays he.2.2
  have st : base.StaysIn (hideAll s'.heap (e :: (envOf name scope L a cd :: outer).filterMap (·.frame))) := fun b o q => hideAll_get _ (K'.stays b o q) fun hm => by
    rcases List.mem_cons.mp hm with rfl | hm
    · rw [hen] at q; cases q
    · rw [(K'.frames.mem hm).1] at q; cases q
  have hl : ∀ q ∈ news, (hideAll s'.heap (e :: (envOf name scope L a cd :: outer).filterMap (·.frame))).get? q.1 = some q.2 ∧ g.get? q.1 = none := fun q hq => by
    have hN := N q (.tail _ hq)
    refine ⟨hideAll_get _ hN.1 fun hm => ?_, hN.2.2⟩
    rcases List.mem_cons.mp hm with h | hm
    · exact hne q hq h
    · obtain ⟨env, hv, hf⟩ := List.mem_filterMap.mp hm
      rcases List.mem_cons.mp hv with rfl | hv
      · exact hN.2.1 (Option.some.inj hf).symm
      · obtain ⟨o, ho, _⟩ := (K.frames.mem (List.mem_filterMap.mpr ⟨env, hv, hf⟩)).2
        rw [hN.2.2] at ho; cases ho
  have hBG : ∀ b o, g.get? b = some o → b ∉ outer.filterMap (·.frame) → (hideAll s'.heap (e :: (envOf name scope L a cd :: outer).filterMap (·.frame))).get? b = some o := fun b o hb hn => hideAll_get _ (F.keep b o hb) fun hm => by
    rcases List.mem_cons.mp hm with h | hm
    · rw [h, he.2.2] at hb; cases hb
    · rcases kts_mem hm with h | h
      · rw [h, kts_self F] at hb; cases hb
      · exact hn h
  unfold leaving
  refine wpAny_bind (note_first K'.stack (funFrames_hide K'.frames hin) rfl (fun b o q => of_hideAll _ q) (hideAll_none _ (.head _)) he.1 rfl rfl rfl rfl fun h₁ x₁ u₁ => flight_D x₁ fun h₂ x₂ u₂ => ?_)
  exact hQ h₂ ⟨_, dx, odx, st, hBG, hl, (hl _ hdx).1, (hl _ hdx).2, hat, x₂.pop⟩ ((Heap.UpToSlots.of_keeps F.keep).trans (u₁.trans u₂))
end

theorem enterR {w : World} {f : Addr} {D U : Nat} {news : Led} {vs : List Value} {Ok : Led → Value → Prop} {Er : Led → Int → Prop}
    {name qual : Str} {params : Arguments} {body : List Stmt} {scope : Scope} {dV kV doc pm cdv ct oc : Value} {an od : Option Addr} {osl : Array (Option Value)} (binds : List (Str × Value))
    (ho : (hd.heap_1 w.params).lookup f = some ⟨oc, od, .func (fnOf name qual params body scope dV kV doc pm an cdv ct), osl⟩) (hcd : codeIn (hd.heap_1 w.params) cdv qual = true)
    (hbind : bindArgs (fnOf name qual params body scope dV kV doc pm an cdv ct) ⟨vs, []⟩ = pure binds) (hloc : (binds.all fun x => decide (scope.names.lookup x.1 = some .local)) = true)
    (hco : scope.isCoroutine = false) (hgen : scope.isGenerator = false) (hk : scope.kind = .function) (hcell : ∀ x ∈ scope.names, x.2 ≠ .cell)
    (hD : 1 ≤ D) (hU : 3 ≤ U)
    (h : ∀ (dp un : Nat) (gd : Option (List Code)) (outer : List Env) (mean : ExcName → Option Value) (mg mb : Str → Option Value) (A₀ : Around) (base g : Heap) (L : Addr) (s : Shared) (Q : Flow → Shared → Prop) (E : Value → Shared → Prop),
      Below A₀ base outer g → Fr g L s.heap (fun y => binds.reverse.lookup y) → (hd.heap_1 w.params).In g → News g L s.heap news →
      Top hd.view_39 (looseW hd.view_39 [Str.ofString "TEXT_SIGNS"]) mean mg mb g → (∀ p ∈ news, p.1 < L) →
      dp + D < recursionLimit + 1 → un + U < cLine + 3 →
      (∀ fl news' h' tk' m', Fr g L h' m' → News g L h' news' → Ok news' (match fl with | .ret v => v | _ => .none) → Q fl { s with heap := h', toks := tk' }) →
      (∀ e at_ g₂ news' h' tk' m', Fr g L g₂ m' → g₂.UpToSlots h' → Raised base g₂ (envX qual scope L f cdv [] :: outer) news' at_ e h' → Er news' at_ → E (.ref e) { s with heap := h', toks := tk' }) →
      (∀ e t dx odx at_ news' h' tk' m', Fr g L h' m' → News g L h' ((e, pfObj t dx) :: news') → (∀ p ∈ news', p.1 ≠ e) → (dx, odx) ∈ news' → SaysAt odx at_ → Er news' at_ → E (.ref e) { s with heap := h', toks := tk' }) →
      PassesOwn (model PySem.Challenge.rw_nn0269_01.row.prog w) (ktrTop dp un gd qual scope L f cdv [] outer) (envX qual scope L f cdv []) E →
      wpAny (model PySem.Challenge.rw_nn0269_01.row.prog w) (ktrTop dp un gd qual scope L f cdv [] outer) (execs body (envX qual scope L f cdv [])) Q E s) :
    TellsC w f D U news vs Ok Er := by
  intro dp un gd cn cs a ccd cl outer mean mg mb A₀ base h₀ L m s R B F X N T hke hd hu ok er
  refine (callX_plain (cl := []) B F N T.nolimit (env := envX cn cs L a ccd cl) rfl rfl hke ((X.keeps F.keep) _ _ ho) rfl (codeRec_of (X.keeps F.keep) hcd) (by show dp < _; omega)
    (BindsTo.of_eq hbind) (locs hloc) (fun g L' h₁ FG F' N' B' st lv => ?_) hcell hco hgen hk)
  have B'' : Below (ktrTop dp un gd cn cs L a ccd cl outer) base (envX cn cs L a ccd cl :: outer) g := B'
  refine h (dp + 1) (un + 3) gd (envX cn cs L a ccd cl :: outer) mean mg mb _ base g L' _ _ _ B'' F' (X.keeps st) N' (T.keeps st) lv (by omega) (by omega) ?_ ?_ ?_ (by passes_own)
  · intro fl news' h' tk' m' F₂ N₂ hOk
    exact leaveK_ F₂ N₂ fun F₃ N₃ => ok _ _ _ _ F₃ N₃ hOk
  · intro e at_ g₂ news' h' tk' m' F₂ hup hR hEr
    exact leave_raised B'' F₂ hR hup fun h₄ hR₄ hup₄ => er e at_ g news' h₄ tk' FG hup₄ hR₄ hEr
  · intro e t dx odx at_ news' h' tk' m' F₂ N₂ hne hdx hat hEr
    exact leave_made B'' F₂ hk N₂ hne hdx hat fun h₄ hR₄ hup₄ => er e at_ g news' h₄ tk' FG hup₄ hR₄ hEr

theorem enterC {w : World} {f : Addr} {D U : Nat} {news : Led} {vs : List Value} {Ok : Led → Value → Prop} {Er : Led → Int → Prop}
    {name qual : Str} {params : Arguments} {body : List Stmt} {scope : Scope} {dV kV doc pm cdv ct oc : Value} {an od : Option Addr} {osl : Array (Option Value)} (binds : List (Str × Value))
    (ho : (hd.heap_1 w.params).lookup f = some ⟨oc, od, .func (fnOf name qual params body scope dV kV doc pm an cdv ct), osl⟩) (hcd : codeIn (hd.heap_1 w.params) cdv qual = true)
    (hbind : bindArgs (fnOf name qual params body scope dV kV doc pm an cdv ct) ⟨vs, []⟩ = pure binds) (hloc : (binds.all fun x => decide (scope.names.lookup x.1 = some .local)) = true)
    (hco : scope.isCoroutine = false) (hgen : scope.isGenerator = false) (hk : scope.kind = .function) (hcell : ∀ x ∈ scope.names, x.2 ≠ .cell)
    (hD : 1 ≤ D) (hU : 3 ≤ U)
    (h : ∀ (dp un : Nat) (gd : Option (List Code)) (outer : List Env) (mean : ExcName → Option Value) (mg mb : Str → Option Value) (A₀ : Around) (base g : Heap) (L : Addr) (s : Shared) (Q : Flow → Shared → Prop) (E : Value → Shared → Prop),
      Below A₀ base outer g → Fr g L s.heap (fun y => binds.reverse.lookup y) → (hd.heap_1 w.params).In g → News g L s.heap news →
      Top hd.view_39 (looseW hd.view_39 [Str.ofString "TEXT_SIGNS"]) mean mg mb g → (∀ p ∈ news, p.1 < L) →
      dp + D < recursionLimit + 1 → un + U < cLine + 3 →
      (∀ fl news' h' tk' m', Fr g L h' m' → News g L h' news' → Ok news' (match fl with | .ret v => v | _ => .none) → Q fl { s with heap := h', toks := tk' }) →
      (∀ e at_ g₂ news' h' tk' m', Fr g L g₂ m' → g₂.UpToSlots h' → Raised base g₂ (envX qual scope L f cdv [] :: outer) news' at_ e h' → Er news' at_ → E (.ref e) { s with heap := h', toks := tk' }) →
      PassesOwn (model PySem.Challenge.rw_nn0269_01.row.prog w) (ktrTop dp un gd qual scope L f cdv [] outer) (envX qual scope L f cdv []) E →
      wpAny (model PySem.Challenge.rw_nn0269_01.row.prog w) (ktrTop dp un gd qual scope L f cdv [] outer) (execs body (envX qual scope L f cdv [])) Q E s) :
    TellsC w f D U news vs Ok Er :=
  enterR binds ho hcd hbind hloc hco hgen hk hcell hD hU fun dp un gd outer mean mg mb A₀ base g L s Q E B F X N T lv h1 h2 ret er _ hE => h dp un gd outer mean mg mb A₀ base g L s Q E B F X N T lv h1 h2 ret er hE

theorem enter {w : World} {f : Addr} {D U : Nat} {news : Led} {vs : List Value} {Ok : Led → Value → Prop} {Er : Led → Int → Prop}
    {name qual : Str} {params : Arguments} {body : List Stmt} {scope : Scope} {dV kV doc pm cdv ct oc : Value} {an od : Option Addr} {osl : Array (Option Value)} (binds : List (Str × Value))
    (ho : (hd.heap_1 w.params).lookup f = some ⟨oc, od, .func (fnOf name qual params body scope dV kV doc pm an cdv ct), osl⟩) (hcd : codeIn (hd.heap_1 w.params) cdv qual = true)
    (hbind : bindArgs (fnOf name qual params body scope dV kV doc pm an cdv ct) ⟨vs, []⟩ = pure binds) (hloc : (binds.all fun x => decide (scope.names.lookup x.1 = some .local)) = true)
    (hco : scope.isCoroutine = false) (hgen : scope.isGenerator = false) (hk : scope.kind = .function) (hcell : ∀ x ∈ scope.names, x.2 ≠ .cell)
    (hD : 1 ≤ D) (hU : 3 ≤ U)
    (h : ∀ (dp un : Nat) (gd : Option (List Code)) (outer : List Env) (mean : ExcName → Option Value) (mg mb : Str → Option Value) (A₀ : Around) (base g : Heap) (L : Addr) (s : Shared) (Q : Flow → Shared → Prop) (E : Value → Shared → Prop),
      Below A₀ base outer g → Fr g L s.heap (fun y => binds.reverse.lookup y) → (hd.heap_1 w.params).In g → News g L s.heap news →
      Top hd.view_39 (looseW hd.view_39 [Str.ofString "TEXT_SIGNS"]) mean mg mb g → (∀ p ∈ news, p.1 < L) →
      dp + D < recursionLimit + 1 → un + U < cLine + 3 →
      (∀ fl news' h' tk' m', Fr g L h' m' → News g L h' news' → Ok news' (match fl with | .ret v => v | _ => .none) → Q fl { s with heap := h', toks := tk' }) →
      (∀ e at_ g₂ news' h' tk' m', Fr g L g₂ m' → g₂.UpToSlots h' → Raised base g₂ (envX qual scope L f cdv [] :: outer) news' at_ e h' → Er news' at_ → E (.ref e) { s with heap := h', toks := tk' }) →
      PassesOwn (model PySem.Challenge.rw_nn0269_01.row.prog w) (ktrTop dp un gd qual scope L f cdv [] outer) (envX qual scope L f cdv []) E →
      wpAny (model PySem.Challenge.rw_nn0269_01.row.prog w) (ktrTop dp un gd qual scope L f cdv [] outer) (execs body (envX qual scope L f cdv [])) Q E s) :
    Tells w f D U news vs Ok Er :=
  (enterC binds ho hcd hbind hloc hco hgen hk hcell hD hU h).tells

theorem news_subset {h₀ h : Heap} {L : Addr} {news news' : Led} (N : News h₀ L h news) (hs : ∀ p ∈ news', p ∈ news) : News h₀ L h news' := fun p hp => N p (hs p hp)
theorem news_same {h₀ h : Heap} {L : Addr} {news : Led} (N : News h₀ L h news) {a : Addr} {o o' : Obj} (h1 : (a, o) ∈ news) (h2 : (a, o') ∈ news) : o = o' := by
  have e1 := (N _ h1).1
  have e2 := (N _ h2).1
  exact Option.some.inj (e1.symm.trans e2)
def put (d : Addr) (o : Obj) (news : Led) : Led := (d, o) :: news.filter fun p => decide (p.1 ≠ d)
theorem put_new {d : Addr} {o : Obj} {news : Led} : (d, o) ∈ put d o news := .head _
theorem put_old {d : Addr} {o : Obj} {news : Led} : ∀ p ∈ news, p.1 ≠ d → p ∈ put d o news := fun _ hp hn => .tail _ (List.mem_filter.mpr ⟨hp, decide_eq_true hn⟩)
theorem put_off {d : Addr} {news : Led} : ∀ p ∈ news.filter (fun p => decide (p.1 ≠ d)), p.1 ≠ d := fun _ hp => of_decide_eq_true (List.mem_filter.mp hp).2
theorem put_before {d : Addr} {o : Obj} {news : Led} (hd : (d, o) ∈ news) : ∀ p ∈ (d, o) :: news.filter (fun p => decide (p.1 ≠ d)), p ∈ news := fun p hp => by
  rcases List.mem_cons.mp hp with rfl | hp
  · exact hd
  · exact (List.mem_filter.mp hp).1
theorem news_tupNe {h₀ h : Heap} {L : Addr} {news : Led} (N : News h₀ L h news) {d : Addr} {o : Obj} (hd : (d, o) ∈ news) (ho : o.cls ≠ .type "tuple") : ∀ p ∈ news, p.2.cls = .type "tuple" → p.1 ≠ d := fun p hp hc e => by
  obtain ⟨b, ob⟩ := p
  subst e
  rw [news_same N hp hd] at hc
  exact ho hc

section
variable {prog : Program} {w : World} {A : Around} {E : Value → Shared → Prop} {s : Shared} {K : Frag} {x C dx l : Addr} {L : Addr} {h₀ : Heap} {m : Str → Option Value} {news : Led} {es es' : List DictEntry} {n n' : Nat} {name : Str} {v : Value} {vs : List Value}

theorem set_mem {Q : Unit → Shared → Prop} (F : Fr h₀ L s.heap m) (X₀ : K.In h₀) (N : News h₀ L s.heap news) (hx : (x, instObj C dx) ∈ news) (hd : (dx, dictOf es n) ∈ news)
    (hs : findIn K (.ref C) "__setattr__" = some (some (.builtin "object.__setattr__"))) (hp : plainOver K C = true) (ht : takerIn K C name = some none) (hh : hasDictIn K C = true) (hl : (getL name es).isSome = true)
    (e : (putL name (PyData.keyHash w.params name) (.str name (s.toks + 1)) v es, putN name es n) = (es', n')) (hz : es'.length ≤ 1000)
    (h : ∀ h', Fr h₀ L h' m → News h₀ L h' (put dx (dictOf es' n') news) → Q () { s with heap := h', toks := s.toks + 2 }) :
    wpAny (model prog w) A (setAttr (.ref x) name v) Q E s :=
  set_dict F X₀ (news_subset N (put_before hd)) (InstAt.of_news N hx hd) rfl hs hp ht hh hl e (Upd.head put_off) hz h

theorem set_at {h1 h2 : Int} {t1 t2 : Tok} {v1 v2 : Value} {Q : Unit → Shared → Prop} (F : Fr h₀ L s.heap m) (X₀ : K.In h₀) (N : News h₀ L s.heap news) (hx : (x, instObj C dx) ∈ news) (hd : (dx, dictOf [⟨h1, .str (Str.ofString "row") t1, v1⟩, ⟨h2, .str (Str.ofString "at") t2, v2⟩] n) ∈ news)
    (hs : findIn K (.ref C) "__setattr__" = some (some (.builtin "object.__setattr__"))) (hp : plainOver K C = true) (ht : takerIn K C (Str.ofString "at") = some none) (hh : hasDictIn K C = true)
    (h : ∀ h', Fr h₀ L h' m → News h₀ L h' (put dx (dictOf [⟨h1, .str (Str.ofString "row") t1, v1⟩, ⟨h2, .str (Str.ofString "at") t2, v⟩] n) news) → Q () { s with heap := h', toks := s.toks + 2 }) :
    wpAny (model prog w) A (setAttr (.ref x) (Str.ofString "at") v) Q E s :=
  set_mem F X₀ N hx hd hs hp ht hh rfl rfl (Nat.le_of_ble_eq_true rfl) h

theorem item_mem {value slice : Expr} {k : Int} {u : Tok} {Q : Value → Shared → Prop} (N : News h₀ L s.heap news := by k_asm) (hm : (l, lstOf vs n) ∈ news := by assumption) (h0 : 0 ≤ k := by omega) (hhi : k < 2 ^ 63 := by omega) (hx : vs[k.toNat]? = some v := by first | rfl | assumption) (h : Q v s)
    (hs : subscripted slice false (.ref l) (.int k u) = operate [.ref l, .int k u] (getItem (.ref l) (.int k u)) := by with_unfolding_all rfl) :
    wpAny (model prog w) A (subscriptTail value slice (.ref l) (.int k u)) Q E s :=
  have hL : s.heap.IsList l vs.toArray := ⟨_, (N _ hm).1, rfl, n, rfl⟩
  tail_any hL.typeIs slot_list_getitem.lookup (wpAny_getItem_list hL h0 hhi (by simpa using hx) h) hs
end

inductive Tk where
  | num (k : Int)
  | name (s : Str)
  | sign (s : Str)
  | eof
def Tk.kind : Tk → String
  | .num _ => "number"
  | .name _ => "name"
  | .sign _ => "sign"
  | .eof => "end"
def Tk.val : Tk → PyData
  | .num k => .int k
  | .name s => .str s
  | .sign s => .str s
  | .eof => strD ""
def Tk.isSign : Tk → Str → Bool
  | .sign s, sg => s == sg
  | _, _ => false
abbrev TokP := Tk × Int
def tokD (t : TokP) : PyData := .tuple [strD t.1.kind, t.1.val, .int t.2]

theorem tok_open {news : Led} {v : Value} {t : TokP} (h : Rd news v (tokD t)) : ∃ a v1 t0 t2 n, v = .ref a ∧ (a, tupOf [.str (Str.ofString t.1.kind) t0, v1, .int t.2 t2] n) ∈ news ∧ Rd news v1 t.1.val := by
  unfold tokD at h
  generalize he : PyData.tuple [strD t.1.kind, t.1.val, PyData.int t.2] = d at h
  cases h with
  | int => cases he
  | str => cases he
  | minus =>
    exfalso
    injection he with he
    injection he with h1 _
    injection h1 with h1
    obtain ⟨tk, p⟩ := t
    cases tk <;> exact absurd h1 (by simp only [Tk.kind]; decide)
  | tup hm hr =>
    cases he
    cases hr with
    | cons h1 r1 =>
      cases r1 with
      | cons h2 r2 =>
        cases r2 with
        | cons h3 r3 =>
          cases r3
          cases h1
          cases h3
          exact ⟨_, _, _, _, _, rfl, hm, h2⟩

def Rdr (news : Led) (x dx rw : Addr) (ts : List TokP) : Prop :=
  ∃ (toks : List TokP) (k : Nat) (h1 h2 : Int) (t1 t2 t3 : Tok) (n n2 : Nat) (vs : List Value), (x, instObj 299 dx) ∈ news ∧ (dx, dictOf [⟨h1, .str (Str.ofString "row") t1, .ref rw⟩, ⟨h2, .str (Str.ofString "at") t2, .int ((k : Nat) : Int) t3⟩] n) ∈ news ∧ (rw, lstOf vs n2) ∈ news ∧ Rds news vs (toks.map tokD) ∧ toks.length ≤ 2 ^ 20 ∧ toks.drop k = ts

def Kept (d : Addr) (S S' : Led) : Prop := ∀ p ∈ S, p.1 ≠ d → p ∈ S'
theorem Kept.refl {d : Addr} {S : Led} : Kept d S S := fun _ h _ => h
theorem Kept.trans {d : Addr} {S S' S'' : Led} (a : Kept d S S') (b : Kept d S' S'') : Kept d S S'' := fun p hp hn => b p (a p hp hn) hn
theorem Kept.of_sub {d : Addr} {S S' : Led} (h : ∀ p ∈ S, p ∈ S') : Kept d S S' := fun p hp _ => h p hp

theorem Rdr.at {news : Led} {x dx rw : Addr} {ts : List TokP} (R : Rdr news x dx rw ts) : ∃ o, (dx, o) ∈ news ∧ o.cls = .type "dict" := by
  obtain ⟨_, _, _, _, _, _, _, _, _, _, _, h, _⟩ := R
  exact ⟨_, h, rfl⟩
section
variable {h₀ h : Heap} {L : Addr} {news news' : Led} {x dx rw : Addr} {ts : List TokP}
def Off (d : Addr) (S : Led) : Prop := ∀ a o, (a, o) ∈ S → o.cls ≠ .type "dict" → a ≠ d
theorem Rdr.off (R : Rdr news x dx rw ts) (N : News h₀ L h news) : Off dx news := fun a o hm ho e => by
  obtain ⟨od, hd, hc⟩ := R.at
  subst e
  rw [news_same N hm hd] at ho
  exact ho hc
theorem Kept.mem (K : Kept dx news news') (O : Off dx news) {a : Addr} {o : Obj} (hm : (a, o) ∈ news) (ho : o.cls ≠ .type "dict" := by simp) : (a, o) ∈ news' := K _ hm (O a o hm ho)
theorem Kept.tup (K : Kept dx news news') (O : Off dx news) : ∀ p ∈ news, p.2.cls = .type "tuple" → p ∈ news' := fun p hp hc => K.mem (a := p.1) (o := p.2) O hp (by rw [hc]; simp)
theorem Kept.rd (K : Kept dx news news') (O : Off dx news) {v : Value} {d : PyData} (r : Rd news v d) : Rd news' v d := r.mono (K.tup O)
theorem Kept.rds (K : Kept dx news news') (O : Off dx news) {v : List Value} {d : List PyData} (r : Rds news v d) : Rds news' v d := r.mono (K.tup O)
theorem Rdr.sub (R : Rdr news x dx rw ts) (hs : ∀ p ∈ news, p ∈ news') : Rdr news' x dx rw ts := by
  obtain ⟨toks, k, h1, h2, t1, t2, t3, n, n2, vs, a, b, c, d, e, f⟩ := R
  exact ⟨toks, k, h1, h2, t1, t2, t3, n, n2, vs, hs _ a, hs _ b, hs _ c, d.sub hs, e, f⟩

theorem Rdr.open {t : TokP} {ts : List TokP} (R : Rdr news x dx rw (t :: ts)) : ∃ (toks : List TokP) (k : Nat) (h1 h2 : Int) (t1 t2 t3 : Tok) (n n2 : Nat) (vs : List Value) (a : Addr) (v1 : Value) (t0 t5 : Tok) (n3 : Nat), (x, instObj 299 dx) ∈ news ∧ (dx, dictOf [⟨h1, .str (Str.ofString "row") t1, .ref rw⟩, ⟨h2, .str (Str.ofString "at") t2, .int ((k : Nat) : Int) t3⟩] n) ∈ news ∧ (rw, lstOf vs n2) ∈ news ∧
    Rds news vs (toks.map tokD) ∧ toks.length ≤ 2 ^ 20 ∧ toks.drop k = t :: ts ∧ k < 2 ^ 20 ∧ vs[((k : Nat) : Int).toNat]? = some (.ref a) ∧ (a, tupOf [.str (Str.ofString t.1.kind) t0, v1, .int t.2 t5] n3) ∈ news ∧ Rd news v1 t.1.val := by
  obtain ⟨toks, k, h1, h2, t1, t2, t3, n, n2, vs, hx, hd, hr, hrs, hlen, hts⟩ := R
  have hk : toks[k]? = some t := by
    have := congrArg (·[0]?) hts
    simpa using this
  obtain ⟨v, hv, hvr⟩ := hrs.get (k := k) (d := tokD t) (by simp [hk])
  obtain ⟨a, v1, t0, t5, n3, rfl, ha, hv1⟩ := tok_open hvr
  have hk63 : k < 2 ^ 20 := by
    have := (List.getElem?_eq_some_iff.mp hk).1
    omega
  exact ⟨toks, k, h1, h2, t1, t2, t3, n, n2, vs, a, v1, t0, t5, n3, hx, hd, hr, hrs, hlen, hts, hk63, by simpa using hv, ha, hv1⟩
end

theorem Rdr.inst {news : Led} {x dx rw : Addr} {ts : List TokP} (R : Rdr news x dx rw ts) : ∃ (h1 h2 : Int) (t1 t2 : Tok) (v1 v2 : Value) (n : Nat), (x, instObj 299 dx) ∈ news ∧ (dx, dictOf [⟨h1, .str (Str.ofString "row") t1, v1⟩, ⟨h2, .str (Str.ofString "at") t2, v2⟩] n) ∈ news := by
  obtain ⟨toks, k, h1, h2, t1, t2, t3, n, n2, vs, hx, hd, _⟩ := R
  exact ⟨_, _, _, _, _, _, _, hx, hd⟩

theorem rdr_set {prog : Program} {w : World} {A : Around} {E : Value → Shared → Prop} {s : Shared} {K : Frag} {h₀ : Heap} {L : Addr} {m : Str → Option Value} {news : Led} {x dx rw : Addr} {n n2 : Nat} {h1 h2 : Int} {t1 t2 : Tok} {v v2 : Value} {vs : List Value} {ds : List PyData} {Q : Unit → Shared → Prop}
    (F : Fr h₀ L s.heap m) (X₀ : K.In h₀) (N : News h₀ L s.heap news)
    (hx : (x, instObj 299 dx) ∈ news) (hd : (dx, dictOf [⟨h1, .str (Str.ofString "row") t1, .ref rw⟩, ⟨h2, .str (Str.ofString "at") t2, v2⟩] n) ∈ news) (hr : (rw, lstOf vs n2) ∈ news) (hrs : Rds news vs ds)
    (hs : findIn K (.ref 299) "__setattr__" = some (some (.builtin "object.__setattr__"))) (hp : plainOver K 299 = true) (ht : takerIn K 299 (Str.ofString "at") = some none) (hh : hasDictIn K 299 = true)
    (h : ∀ h' news', Fr h₀ L h' m → News h₀ L h' news' → Kept dx news news' → (x, instObj 299 dx) ∈ news' → (dx, dictOf [⟨h1, .str (Str.ofString "row") t1, .ref rw⟩, ⟨h2, .str (Str.ofString "at") t2, v⟩] n) ∈ news' →
      (rw, lstOf vs n2) ∈ news' → Rds news' vs ds → (∀ u d, Rd news u d → Rd news' u d) → (∀ a ws k, (a, tupOf ws k) ∈ news → (a, tupOf ws k) ∈ news') → Q () { s with heap := h', toks := s.toks + 2 }) :
    wpAny (model prog w) A (setAttr (.ref x) (Str.ofString "at") v) Q E s := by
  have ne : ∀ {b : Addr} {o : Obj}, (b, o) ∈ news → o.cls ≠ .type "dict" → b ≠ dx := fun hb ho e => by
    subst e
    rw [news_same N hb hd] at ho
    exact ho rfl
  refine set_at F X₀ N hx hd hs hp ht hh fun h' F' N' => ?_
  have tt : ∀ p ∈ news, p.2.cls = .type "tuple" → p ∈ put dx (dictOf [⟨h1, .str (Str.ofString "row") t1, .ref rw⟩, ⟨h2, .str (Str.ofString "at") t2, v⟩] n) news := fun p hp hc => put_old p hp (ne (b := p.1) (o := p.2) hp (by rw [hc]; simp))
  exact h h' _ F' N' put_old (put_old _ hx (ne hx (by simp))) put_new (put_old _ hr (ne hr (by simp))) (hrs.mono tt) (fun u d r => r.mono tt) fun a ws k hm => tt _ hm rfl

theorem rdr_mk {news : Led} {x dx rw : Addr} {toks : List TokP} {k n n2 : Nat} {h1 h2 : Int} {t1 t2 t9 : Tok} {vs : List Value} {t : TokP} {ts : List TokP}
    (hx : (x, instObj 299 dx) ∈ news) (hd : (dx, dictOf [⟨h1, .str (Str.ofString "row") t1, .ref rw⟩, ⟨h2, .str (Str.ofString "at") t2, .int ((k : Nat) + 1 : Int) t9⟩] n) ∈ news) (hr : (rw, lstOf vs n2) ∈ news)
    (hrs : Rds news vs (toks.map tokD)) (hlen : toks.length ≤ 2 ^ 20) (hts : toks.drop k = t :: ts) : Rdr news x dx rw ts :=
  ⟨toks, k + 1, h1, h2, t1, t2, t9, n, n2, vs, hx, hd, hr, hrs, hlen, by
    have := congrArg List.tail hts
    simpa using this⟩

section
variable {prog : Program} {w : World} {A : Around} {E : Value → Shared → Prop} {s : Shared} {l : Addr} {L : Addr} {h₀ : Heap} {m : Str → Option Value} {news : Led} {n : Nat} {vs : List Value}
theorem len_mem {Q : Value → Shared → Prop} (N : News h₀ L s.heap news := by k_asm) (hm : (l, lstOf vs n) ∈ news := by assumption) (hlen : vs.length ≤ 2 ^ 20 := by omega) (h : Q (.int vs.length (s.toks + 1)) { s with toks := s.toks + 1 + 1 }) : wpAny (model prog w) A (call (.builtin "len") [.ref l]) Q E s := by
  have hlen : vs.length ≤ 2 ^ 20 := hlen
  have hL : s.heap.IsList l vs.toArray := ⟨_, (N _ hm).1, rfl, n, rfl⟩
  refine call_len_list hL ?_ ?_
  · rw [List.size_toArray]; omega
  · rw [List.size_toArray]; exact h
theorem tup_mem {Q : Value → Shared → Prop} (F : Fr h₀ L s.heap m := by k_asm) (N : News h₀ L s.heap news := by k_asm) (hm : (l, lstOf vs n) ∈ news := by assumption) (hlen : vs.length ≤ 2 ^ 20 := by omega)
    (h : ∀ (D : Addr) h', Fr h₀ L h' m → News h₀ L h' ((D, tupOf vs) :: news) → Q (.ref D) { s with heap := h' }) : wpAny (model prog w) A (call (.type "tuple") [.ref l]) Q E s := by
  have hlen : vs.length ≤ 2 ^ 20 := hlen
  have hL : s.heap.IsList l vs.toArray := ⟨_, (N _ hm).1, rfl, n, rfl⟩
  exact tuple_ofL F N hL (fun D h' F' N' _ => h D h' F' N') (by rw [sizeLine_eq]; omega)
theorem append_mem {v : Value} {Q : Value → Shared → Prop} (F : Fr h₀ L s.heap m) (N : News h₀ L s.heap news) (hm : (l, lstOf vs n) ∈ news) (hlen : vs.length ≤ 2 ^ 20)
    (h : ∀ h' news', Fr h₀ L h' m → News h₀ L h' news' → Kept l news news' → (l, lstOf (vs ++ [v]) (n + 1)) ∈ news' → Q .none { s with heap := h' }) : wpAny (model prog w) A (call (.builtin "list.append") [.ref l, v]) Q E s := by
  refine append_K F (news_subset N (put_before hm)) (Upd.head put_off) (fun h' F' N' => h h' _ F' N' put_old ?_) (by rw [List.size_toArray, sizeLine_eq]; omega)
  simp [lstOf]
end

theorem sub_refl {S : Led} : ∀ p ∈ S, p ∈ S := fun _ h => h
theorem sub_cons {S S' : Led} {q : Addr × Obj} (h : ∀ p ∈ S, p ∈ S') : ∀ p ∈ S, p ∈ q :: S' := fun p hp => .tail _ (h p hp)
theorem sub_trans {S S' S'' : Led} (h : ∀ p ∈ S, p ∈ S') (k : ∀ p ∈ S', p ∈ S'') : ∀ p ∈ S, p ∈ S'' := fun p hp => k p (h p hp)
theorem mem_sub {S S' : Led} {q : Addr × Obj} (h : ∀ p ∈ S, p ∈ S') (k : q ∈ S) : q ∈ S' := h q k

abbrev dNum (k : Int) : PyData := .tuple [strD "num", .int k, .int 1]
abbrev dSym (s : Str) : PyData := .tuple [strD "sym", .str s]
def dSum : List PyData → PyData
  | [d] => d
  | ds => .tuple [strD "sum", .tuple ds]
abbrev dProd (a b : PyData) : PyData := .tuple [strD "prod", .tuple [a, b]]
abbrev dPow (a b : PyData) : PyData := .tuple [strD "pow", a, b]
abbrev dCall (s : Str) (ds : List PyData) : PyData := .tuple [strD "call", .str s, .tuple ds]
abbrev dEq (a b : PyData) : PyData := .tuple [strD "eq", a, b]
abbrev dList (ds : List PyData) : PyData := .tuple [strD "list", .tuple ds]
abbrev dNeg (d : PyData) : PyData := dProd dMinus d
abbrev dQuot (a b : PyData) : PyData := dProd a (dPow b dMinus)

theorem Rdr.app {h₀ h : Heap} {L : Addr} {news news' : Led} {x dx rw l : Addr} {ts : List TokP} {vs : List Value} {n : Nat} (R : Rdr news x dx rw ts) (N : News h₀ L h news) (hl : (l, lstOf vs n) ∈ news) (K : Kept l news news') (hne : rw ≠ l) : Rdr news' x dx rw ts := by
  have ne : ∀ {b : Addr} {o : Obj}, (b, o) ∈ news → o.cls ≠ .type "list" → b ≠ l := fun hb ho e => by
    subst e
    rw [news_same N hb hl] at ho
    exact ho rfl
  obtain ⟨toks, k, h1, h2, t1, t2, t3, n, n2, vs, a, b, c, d, e, f⟩ := R
  exact ⟨toks, k, h1, h2, t1, t2, t3, n, n2, vs, K _ a (ne a (by simp)), K _ b (ne b (by simp)), K _ c hne, d.mono (fun p hp hc => K p hp (ne (b := p.1) (o := p.2) hp (by rw [hc]; simp))), e, f⟩
theorem Kept.rdsL {h₀ h : Heap} {L : Addr} {news news' : Led} {l : Addr} {vs ws : List Value} {n : Nat} {ds : List PyData} (N : News h₀ L h news) (hl : (l, lstOf vs n) ∈ news) (K : Kept l news news') (r : Rds news ws ds) : Rds news' ws ds :=
  r.mono fun p hp hc => K p hp (news_tupNe N hl (by simp) p hp hc)
theorem Kept.rdL {h₀ h : Heap} {L : Addr} {news news' : Led} {l : Addr} {vs : List Value} {w : Value} {n : Nat} {d : PyData} (N : News h₀ L h news) (hl : (l, lstOf vs n) ∈ news) (K : Kept l news news') (r : Rd news w d) : Rd news' w d :=
  r.mono fun p hp hc => K p hp (news_tupNe N hl (by simp) p hp hc)
theorem Rdr.row {news : Led} {x dx rw : Addr} {ts : List TokP} (R : Rdr news x dx rw ts) : ∃ o, (rw, o) ∈ news := by
  obtain ⟨toks, k, h1, h2, t1, t2, t3, n, n2, vs, a, b, c, _⟩ := R
  exact ⟨_, c⟩
theorem fresh_of {news news₁ : Led} {x dx rw l : Addr} {ts : List TokP} (K : Kept dx news news₁) (R : Rdr news₁ x dx rw ts) (hlt : ∀ p ∈ news₁, p.1 < l) : ∀ p ∈ news, p.1 ≠ l := fun p hp e => by
  by_cases h : p.1 = dx
  · obtain ⟨o, ho, _⟩ := R.at
    have := hlt _ ho
    exact absurd this (by rw [← h, e]; exact Nat.lt_irrefl _)
  · have := hlt _ (K p hp h)
    exact absurd this (by rw [e]; exact Nat.lt_irrefl _)
theorem Kept.transL {news news₁ news₂ : Led} {d l : Addr} (K : Kept d news news₁) (K' : Kept l news₁ news₂) (hf : ∀ p ∈ news, p.1 ≠ l) : Kept d news news₂ := fun p hp hn => K' p (K p hp hn) (hf p hp)

theorem cl_is : cLine = 9900 := rfl
theorem rl_is : recursionLimit = 1000 := rfl

theorem Tells.use {w : World} {f : Addr} {D U : Nat} {news : Led} {vs : List Value} {Ok : Led → Value → Prop} {Er : Led → Int → Prop} (h : Tells w f D U news vs Ok Er)
    {dp un : Nat} {gd : Option (List Code)} {cn : Str} {cs : Scope} {a : Addr} {ccd : Value} {cl : List (Str × Addr)} {outer : List Env} {mean : ExcName → Option Value} {mg mb : Str → Option Value}
    {A₀ : Around} {base h₀ : Heap} {L : Addr} {m : Str → Option Value} {s : Shared} {Q E : Value → Shared → Prop}
    (B : Below A₀ base outer h₀) (F : Fr h₀ L s.heap m) (X : (hd.heap_1 w.params).In h₀) (N : News h₀ L s.heap news)
    (T : Top hd.view_39 (looseW hd.view_39 [Str.ofString "TEXT_SIGNS"]) mean mg mb h₀) (hk : cs.kind = .function)
    (hd : dp + D < recursionLimit) (hu : un + U < cLine)
    (ok : ∀ r news' h' tk', Fr h₀ L h' m → News h₀ L h' news' → Ok news' r → Q r { s with heap := h', toks := tk' })
    (er : ∀ e at_ g news' h' tk', Fr h₀ L g m → g.UpToSlots h' → Raised base g (envX cn cs L a ccd cl :: outer) news' at_ e h' → Er news' at_ → E (.ref e) { s with heap := h', toks := tk' }) :
    wpAny (model PySem.Challenge.rw_nn0269_01.row.prog w) (ktrTop dp un gd cn cs L a ccd cl outer) (call (.ref f) vs) Q E s :=
  h _ _ _ _ _ _ _ _ _ _ _ _ _ _ _ _ _ _ _ _ B F X N T hk hd hu ok er
end

-- LawDef
section
inductive LIt where
  | sign (s : Str)
  | ahead
  | term (d : PyData)
abbrev itD : LIt → PyData
  | .sign s => .tuple [strD "sign", .str s]
  | .ahead => .tuple [strD "ahead", strD "-"]
  | .term d => .tuple [strD "term", d]
abbrev itK : LIt → String
  | .sign _ => "sign"
  | .ahead => "ahead"
  | .term _ => "term"
abbrev itV : LIt → PyData
  | .sign s => .str s
  | .ahead => strD "-"
  | .term d => d
theorem itD_eq (i : LIt) : itD i = .tuple [strD (itK i), itV i] := by cases i <;> rfl

inductive LPow : List LIt → PyData → Prop
  | ahead {r d} : LPow r d → LPow (.ahead :: r) (dNeg d)
  | one {d} : LPow [.term d] d
  | pow {d s r e} : LPow r e → LPow (.term d :: .sign s :: r) (dPow d e)
theorem LPow.ne {its d} (h : LPow its d) : its ≠ [] := by cases h <;> simp

def splitGo (p : Str → Bool) : List (List LIt) → List LIt → List Str → List LIt → List (List LIt) × List Str
  | done, cur, bt, [] => (done ++ [cur], bt)
  | done, cur, bt, .sign s :: r => if p s then splitGo p (done ++ [cur]) [] (bt ++ [s]) r else splitGo p done (cur ++ [.sign s]) bt r
  | done, cur, bt, .ahead :: r => splitGo p done (cur ++ [.ahead]) bt r
  | done, cur, bt, .term d :: r => splitGo p done (cur ++ [.term d]) bt r

inductive AllPow : List (List LIt) → List PyData → Prop
  | nil : AllPow [] []
  | cons {s ss d ds} : LPow s d → AllPow ss ds → AllPow (s :: ss) (d :: ds)
def foldProd : PyData → List Str → List PyData → PyData
  | acc, s :: ss, d :: ds => foldProd (if s == Str.ofString "*" then dProd acc d else dQuot acc d) ss ds
  | acc, _, _ => acc
def isMul (s : Str) : Bool := [Str.ofString "*", Str.ofString "/"].any (· == s)
def isAdd (s : Str) : Bool := [Str.ofString "+", Str.ofString "-"].any (· == s)
def LPro (its : List LIt) (d : PyData) : Prop :=
  ∃ s0 ss bt d0 ds, splitGo isMul [] [] [] its = (s0 :: ss, bt) ∧ ss.length = bt.length ∧ LPow s0 d0 ∧ AllPow ss ds ∧ d = foldProd d0 bt ds
inductive AllPro : List (List LIt) → List PyData → Prop
  | nil : AllPro [] []
  | cons {s ss d ds} : LPro s d → AllPro ss ds → AllPro (s :: ss) (d :: ds)
def signedSum : List Str → List PyData → List PyData
  | s :: ss, d :: ds => (if s == Str.ofString "+" then d else dNeg d) :: signedSum ss ds
  | _, _ => []
def LSum (its : List LIt) (d : PyData) : Prop :=
  ∃ s0 ss bt d0 ds, splitGo isAdd [] [] [] its = (s0 :: ss, bt) ∧ ss.length = bt.length ∧ LPro s0 d0 ∧ AllPro ss ds ∧ d = dSum (d0 :: signedSum bt ds)
end

-- LawDef2
section
theorem pick_c1 (v : Value) (vs : List Value) : kms_pick (v :: vs).toArray.toList (some 1) none = vs := by
  unfold kms_pick kms_lo kms_hi
  have h : min (1 : Int).toNat (v :: vs).toArray.toList.length = 1 := by
    simp only [List.length_cons]
    show min 1 (vs.length + 1) = 1
    omega
  simp only [show ¬ ((1 : Int) < 0) by decide, if_false, h]
  simp
theorem pick_c2 (v v2 : Value) (vs : List Value) : kms_pick (v :: v2 :: vs).toArray.toList (some 2) none = vs := by
  unfold kms_pick kms_lo kms_hi
  have h : min (2 : Int).toNat (v :: v2 :: vs).toArray.toList.length = 2 := by
    simp only [List.length_cons]
    show min 2 (vs.length + 1 + 1) = 2
    omega
  simp only [show ¬ ((2 : Int) < 0) by decide, if_false, h]
  simp
theorem lst_is {h₀ h : Heap} {L l : Addr} {news : Led} {vs : List Value} {n : Nat} (N : News h₀ L h news) (hm : (l, lstOf vs n) ∈ news) : h.IsList l vs.toArray := ⟨_, (N _ hm).1, rfl, n, rfl⟩
theorem mem_tailN {h₀ h : Heap} {L : Addr} {S : Led} {q x : Addr × Obj} (_ : News h₀ L h (q :: S)) (h : x ∈ S) : x ∈ q :: S := .tail _ h
theorem sz_of {vs : List Value} (h : vs.length ≤ 2 ^ 20) : vs.toArray.size ≤ sizeLine := by
  rw [List.size_toArray, sizeLine_eq]; omega
theorem it_open {news : Led} {v : Value} {i : LIt} (h : Rd news v (itD i)) : ∃ a t0 v1 n, v = .ref a ∧ (a, tupOf [.str (Str.ofString (itK i)) t0, v1] n) ∈ news ∧ Rd news v1 (itV i) := by
  rw [itD_eq] at h
  generalize he : PyData.tuple [strD (itK i), itV i] = d at h
  cases h with
  | int => cases he
  | str => cases he
  | minus =>
    exfalso
    injection he with he
    injection he with h1 h2
    injection h2 with h2 h3
    cases h3
  | tup hm hr =>
    cases he
    cases hr with
    | cons h1 r1 =>
      cases r1 with
      | cons h2 r2 =>
        cases r2
        cases h1
        exact ⟨_, _, _, _, rfl, hm, h2⟩
theorem item_last {prog : Program} {w : World} {A : Around} {E : Value → Shared → Prop} {s : Shared} {h₀ : Heap} {L l : Addr} {news : Led} {n : Nat} {vs : List Value} {v : Value} {value slice : Expr} {u : Tok} {Q : Value → Shared → Prop} (N : News h₀ L s.heap news := by k_asm) (hm : (l, lstOf (vs ++ [v]) n) ∈ news := by assumption) (h : Q v s)
    (hs : subscripted slice false (.ref l) (.int (-1) u) = operate [.ref l, .int (-1) u] (getItem (.ref l) (.int (-1) u)) := by with_unfolding_all rfl) :
    wpAny (model prog w) A (subscriptTail value slice (.ref l) (.int (-1) u)) Q E s :=
  have hL := lst_is N hm
  tail_any hL.typeIs slot_list_getitem.lookup (wpAny_getItem_list_neg hL (by decide) (by simp; omega) (by decide) (by
    have e : (-1 + (((vs ++ [v]).toArray.size : Nat) : Int)).toNat = vs.length := by simp; omega
    rw [e]
    simp) h) hs
inductive SegsAt (S : Led) : List Addr → List (List LIt) → Prop
  | nil : SegsAt S [] []
  | cons {l vs n seg ls segs} : (l, lstOf vs n) ∈ S → Rds S vs (seg.map itD) → SegsAt S ls segs → SegsAt S (l :: ls) (seg :: segs)
theorem SegsAt.mono {S S' : Led} {ls : List Addr} {segs : List (List LIt)} (h : SegsAt S ls segs) (hl : ∀ l vs n, l ∈ ls → (l, lstOf vs n) ∈ S → (l, lstOf vs n) ∈ S') (ht : ∀ p ∈ S, p.2.cls = .type "tuple" → p ∈ S') : SegsAt S' ls segs := by
  induction h with
  | nil => exact .nil
  | cons hm hr _ ih => exact .cons (hl _ _ _ (.head _) hm) (hr.mono ht) (ih fun l vs n hl' => hl l vs n (.tail _ hl'))
theorem SegsAt.append {S : Led} {ls ls' : List Addr} {segs segs' : List (List LIt)} (h : SegsAt S ls segs) (h' : SegsAt S ls' segs') : SegsAt S (ls ++ ls') (segs ++ segs') := by
  induction h with
  | nil => exact h'
  | cons hm hr _ ih => exact .cons hm hr ih
theorem SegsAt.length {S : Led} {ls : List Addr} {segs : List (List LIt)} (h : SegsAt S ls segs) : ls.length = segs.length := by
  induction h with
  | nil => rfl
  | cons _ _ _ ih => simp [ih]
theorem SegsAt.kept {h₀ h : Heap} {L lc : Addr} {S S' : Led} {vc : List Value} {k : Nat} {ls : List Addr} {segs : List (List LIt)} (N : News h₀ L h S) (hl : (lc, lstOf vc k) ∈ S) (K : Kept lc S S') (hn : lc ∉ ls) (h : SegsAt S ls segs) : SegsAt S' ls segs :=
  h.mono (fun l vs n hm hp => K _ hp fun e => hn (e ▸ hm)) fun p hp hc => K p hp (news_tupNe N hl (by simp) p hp hc)
def sgB (s1 s2 : String) (s : Str) : Bool := [Str.ofString s1, Str.ofString s2].any (· == s)
theorem in_two_b {prog : Program} {w : World} {A : Around} {E : Value → Shared → Prop} {s : Shared} {h₀ : Heap} {L q : Addr} {news : Led} {nq : Nat} {s1 s2 : String} {t1 t2 t : Tok} {x : Str} {b : Bool} {Q : Value → Shared → Prop} (N : News h₀ L s.heap news := by k_asm) (hm : (q, lstOf [.str (Str.ofString s1) t1, .str (Str.ofString s2) t2] nq) ∈ news := by assumption)
    (hb : sgB s1 s2 x = b := by assumption) (h : Q (.bool b) s) : wpAny (model prog w) A (compareOp .In (.str x t) (.ref q)) Q E s :=
  in_list_strs (lst_is N hm) (.cons _ _ (.cons _ _ .nil)) (by unfold sgB at hb; rw [hb]; exact h)
theorem split_len (p : Str → Bool) : ∀ (its : List LIt) (dn : List (List LIt)) (cur : List LIt) (bt : List Str) (s : List LIt), s ∈ (splitGo p dn cur bt its).1 → s ∈ dn ∨ s.length ≤ cur.length + its.length
  | [], dn, cur, bt, s, h => by
    rw [splitGo] at h
    rcases List.mem_append.mp h with h | h
    · exact .inl h
    · rw [List.mem_singleton.mp h]; exact .inr (by simp)
  | .sign sx :: r, dn, cur, bt, s, h => by
    rw [splitGo] at h
    split at h
    · rcases split_len p r _ _ _ s h with h | h
      · rcases List.mem_append.mp h with h | h
        · exact .inl h
        · rw [List.mem_singleton.mp h]; exact .inr (by simp)
      · exact .inr (by simp only [List.length_cons, List.length_nil] at *; omega)
    · rcases split_len p r _ _ _ s h with h | h
      · exact .inl h
      · exact .inr (by simp only [List.length_append, List.length_cons, List.length_nil] at *; omega)
  | .ahead :: r, dn, cur, bt, s, h => by
    rw [splitGo] at h
    rcases split_len p r _ _ _ s h with h | h
    · exact .inl h
    · exact .inr (by simp only [List.length_append, List.length_cons, List.length_nil] at *; omega)
  | .term d :: r, dn, cur, bt, s, h => by
    rw [splitGo] at h
    rcases split_len p r _ _ _ s h with h | h
    · exact .inl h
    · exact .inr (by simp only [List.length_append, List.length_cons, List.length_nil] at *; omega)
theorem SegsAt.sub {S S' : Led} {ls : List Addr} {segs : List (List LIt)} (h : SegsAt S ls segs) (hs : ∀ p ∈ S, p ∈ S') : SegsAt S' ls segs := h.mono (fun _ _ _ _ h => hs _ h) (fun p hp _ => hs p hp)
theorem SegsAt.mem {S : Led} {ls : List Addr} {segs : List (List LIt)} (h : SegsAt S ls segs) : ∀ x ∈ ls, ∃ o, (x, o) ∈ S := by
  induction h with
  | nil => intro x hx; cases hx
  | cons hm _ _ ih =>
    intro x hx
    rcases List.mem_cons.mp hx with rfl | hx
    · exact ⟨_, hm⟩
    · exact ih x hx
theorem dSum_many {ds : List PyData} (h : ds.length ≠ 1) : dSum ds = .tuple [strD "sum", .tuple ds] := by
  cases ds with
  | nil => rfl
  | cons a r =>
    cases r with
    | nil => simp at h
    | cons b c => rfl
section
variable {prog : Program} {w : World} {A : Around} {E : Value → Shared → Prop} {s : Shared} {h₀ : Heap} {L l : Addr} {m : Str → Option Value} {news : List (Addr × Obj)} {value slice : PySem.Expr} {its : Array Value} {zs : List Value} {vl vu : Value} {lo hi : Option Int} {Q : Value → Shared → Prop}
theorem slice_lit (F : Fr h₀ L s.heap m := by k_asm) (N : News h₀ L s.heap news := by k_asm) (hl : s.heap.IsList l its := by exact lst_is (by assumption) (by assumption)) (pl : IsPart vl lo := by kmk_part) (pu : IsPart vu hi := by kmk_part) (e : kms_pick its.toList lo hi = zs := by first | exact pick_c1 _ _ | exact pick_c2 _ _ _)
    (h : ∀ D h', Fr h₀ L h' m → News h₀ L h' ((D, listOf zs.toArray 0) :: news) → (∀ p ∈ news, p.1 < D) → Q (.ref D) { s with heap := h' })
    (hs : subscripted slice false (.ref l) (.ref s.heap.objs.size) = operate [.ref s.heap.objs.size, .ref l] (getItem (.ref l) (.ref s.heap.objs.size)) := by with_unfolding_all rfl) (ht : ∀ r, letTemporaryGo value (.ref l) r = pure () := by kmk_pure) (hz : its.size ≤ sizeLine := by exact sz_of (by assumption)) :
    wpAny (model prog w) A (subscriptTail value slice (.ref l) (.ref s.heap.objs.size)) Q E { s with heap := s.heap.push { cls := .type "slice", data := .fields #[vl, vu, .none] } } := kms_slice_lit F N hl pl pu e h hs ht hz
end
end

example (w : World) : (∀ h, (hd.heap_1 w.params).In h) ∨ PySem.Challenge.rw_nn0269_01.Holds → True := by
  k_fill
  exact fun _ => trivial
set_option hygiene false
local macro_rules
  | `(tactic| passes_own) => `(tactic| assumption)
local macro_rules
  | `(tactic| walk_at "subscriptTail Attribute Name Attribute ref int") => `(tactic| fail "item")
  | `(tactic| walk_at "subscriptTail Attribute Name BinOp ref int") => `(tactic| fail "item")
  | `(tactic| walk_at "subscriptTail Name Constant ref int") => `(tactic| fail "item")
  | `(tactic| walk_at "subscriptTail Name BinOp ref int") => `(tactic| fail "item")
  | `(tactic| fail "item") => `(tactic| (k_here; k_dflt (refine' item_mem (h := ?_); k_whole)))
  | `(tactic| walk_at "subscriptTail Name UnaryOp ref int") => `(tactic| (k_here; k_dflt (refine' item_last (h := ?_); k_whole)))
  | `(tactic| walk_at "subscriptTail Name Name str int") => `(tactic| (k_here; k_dflt (refine' char_at (hq := ?_); k_whole)))
  | `(tactic| walk_at "compareOp In str str") => `(tactic| refine in_ws_b (hq := ?_))
  | `(tactic| walk_at "compareOp In str ref") => `(tactic| (k_here; k_dflt (refine' in_two_b (h := ?_))))
  | `(tactic| walk_at "call builtin:str.startswith") => `(tactic| refine starts_b (hq := ?_))
  | `(tactic| walk_at "call builtin:str.find") => `(tactic| refine find_at (hq := ?_))
  | `(tactic| walk_at "subscriptTail Name Slice ref ref") => `(tactic| (k_here; k_dflt (refine' slice_lit (h := ?_)); intro _ _ _ _ _; try k_sweep))
  | `(tactic| walk_at "binaryOp Add ref ref") => `(tactic| (k_here; k_dflt (refine' add_mem (h := ?_)); intro _ _ _ _ _; try k_sweep))
  | `(tactic| fail "goI") => `(tactic| repeat' (first | (k_unfold; (try dsimp only)) | (fail "stop"; (fail_if_success with_reducible refine atIf ?_); walk1)))
  | `(tactic| walk_at "binaryOp Add str str") => `(tactic| ((refine add_str ?_ (by with_reducible assumption)); intro _ _))
  | `(tactic| fail "stop") => `(tactic| fail_if_success with_reducible first | refine atCall ?_ | refine atSet ?_ | refine atAppend ?_ | refine atWhile ?_ | refine atFor ?_ | refine atRaise ?_)
  | `(tactic| walk_at "call builtin:len") => `(tactic| (k_here; first | (k_dflt (refine' len_mem (h := ?_); k_whole)) | refine len_str (by omega) ?_))
  | `(tactic| walk_at "call type:tuple") => `(tactic| (k_here; k_dflt (refine' tup_mem (h := ?_); k_whole; intro _ _ _ _; try k_sweep)))
  | `(tactic| walk_at "eval Name") => `(tactic| (k_here; k_dflt (refine' nmL (h := ?_); k_whole)))
  | `(tactic| walk_at "loadName") => `(tactic| (k_here; k_dflt (refine' ldL (h := ?_); k_whole)))
  | `(tactic| walk_at "execs cons") => `(tactic| ((with_reducible refine execs_into ?_); intro QQ hQQ; try dsimp only))
  | `(tactic| fail "gen") => `(tactic| ((with_reducible refine wp_into ?_); intro QQ hQQ))
  | `(tactic| fail "into") => `(tactic| ((with_reducible first | refine Into.last (p := ?_) | refine Into.next (p := ?_) | refine Into.ret (p := ?_) | refine Into.brk (p := ?_) | refine Into.cont (p := ?_) | refine Into.use (p := ?_)); (try clear hQQ QQ); try dsimp only))
  | `(tactic| fail "go") => `(tactic| repeat' (first | fail "into" | (k_unfold; (try dsimp only)) | (fail "stop"; walk1) | (fail "stop"; dsimp only; walk1)))
  | `(tactic| fail "sub") => `(tactic| first | assumption | exact sub_refl | (refine sub_cons ?_; fail "sub") | (refine sub_trans (by assumption) ?_; fail "sub"))
  | `(tactic| fail "mem") => `(tactic| first | assumption | exact .head _ | (refine .tail _ ?_; fail "mem") | (refine mem_sub (by assumption) ?_; fail "mem"))
  | `(tactic| fail "rd") => `(tactic| first | exact .int _ _ | exact .str _ _ | exact .minus | exact .nil | (refine .cons ?_ ?_ <;> fail "rd") | assumption | (refine Rd.sub ?_ (by assumption); fail "sub") | (refine .tup (by fail "mem") ?_; fail "rd") | (refine Rds.sub ?_ (by assumption); fail "sub"))
  | `(tactic| walk_at "eval Call") => `(tactic| k_dflt (refine Call_ ?_))
  | `(tactic| fail "le") => `(tactic| first | exact Nat.le_refl _ | fail "ble" | lia)
  | `(tactic| fail "ble") => `(tactic| exact Nat.le_of_ble_eq_true (by with_reducible_and_instances rfl))
local macro_rules
  | `(tactic| omega) => `(tactic| first | with_reducible assumption | fail "ble" | exact bud3 (by with_reducible assumption) (by fail "le") | exact bud (by with_reducible assumption) (by fail "le") | exact le_up (by with_reducible assumption) (by fail "ble") | lia)
open Lean in
local macro_rules
  | `(tactic| obtain $pat:rcasesPatMed := $t:term) => do
    let p := pat.raw[0][0]
    let ps := p[1].getSepArgs
    if pat.raw[0].getNumArgs != 1 || p.getKind != ``Parser.Tactic.rcasesPat.tuple || ps.size < 2 then Macro.throwUnsupported
    obAlts ps t (ps.size - 1)
set_option hygiene true

-- L5
section
def IntVs (vs : List Value) : Prop := ∀ v ∈ vs, ∃ i t, v = .int i t
def BoxIn (S : Led) (b q : Addr) : Prop := ∃ (seed : Int) (t : Tok) (n : Nat) (vs : List Value) (n2 : Nat), (b, lstOf [.ref q, .int seed t] n) ∈ S ∧ (q, lstOf vs n2) ∈ S ∧ IntVs vs ∧ vs.length ≤ 100 ∧ 0 ≤ seed ∧ seed < 2147483647 ∧ b ≠ q
def KeptB (b q : Addr) (S S' : Led) : Prop := ∀ p ∈ S, p.1 ≠ b → p.1 ≠ q → p ∈ S'
theorem KeptB.trans {b q : Addr} {S S' S'' : Led} (h : KeptB b q S S') (k : KeptB b q S' S'') : KeptB b q S S'' := fun p hp h1 h2 => k p (h p hp h1 h2) h1 h2
theorem KeptB.refl {b q : Addr} {S : Led} : KeptB b q S S := fun _ h _ _ => h
theorem KeptB.of_sub {b q : Addr} {S S' : Led} (h : ∀ p ∈ S, p ∈ S') : KeptB b q S S' := fun p hp _ _ => h p hp
section
variable {prog : Program} {w : World} {A : Around} {E : Value → Shared → Prop} {s : Shared} {h₀ : Heap} {L l : Addr} {m : Str → Option Value} {news : Led} {n : Nat} {vs : List Value} {v : Value}
theorem pop0_mem {u : Tok} {Q : Value → Shared → Prop} (F : Fr h₀ L s.heap m) (N : News h₀ L s.heap news) (hm : (l, lstOf (v :: vs) n) ∈ news) (hlen : (v :: vs).length ≤ 2 ^ 20)
    (h : ∀ h' news', Fr h₀ L h' m → News h₀ L h' news' → Kept l news news' → (l, lstOf vs (n + 1)) ∈ news' → Q v { s with heap := h' }) : wpAny (model prog w) A (call (.builtin "list.pop") [.ref l, .int 0 u]) Q E s := by
  refine kl_popAt (its := (v :: vs).toArray) (k := 0) (p := []) (q := vs) F (news_subset N (put_before hm)) rfl (by unfold seqIndex?; simp) rfl (Upd.head put_off) (by rw [sizeLine_eq]; simp only [List.length_cons] at *; omega) fun h' F' N' => h h' _ F' N' put_old ?_
  simp [lstOf]
theorem set1_mem {v0 v1 : Value} {u t : Tok} {x : Int} {Q : Unit → Shared → Prop} (F : Fr h₀ L s.heap m) (N : News h₀ L s.heap news) (hm : (l, lstOf [v0, v1] n) ∈ news)
    (h : ∀ h' news', Fr h₀ L h' m → News h₀ L h' news' → Kept l news news' → (l, lstOf [v0, .int x u] n) ∈ news' → Q () { s with heap := h' }) : wpAny (model prog w) A (setItem (.ref l) (.int 1 t) (.int x u)) Q E s := by
  have N' := news_subset N (put_before hm)
  have z := N' _ (List.mem_append.mpr (.inr (.head _)) : (l, lstOf [v0, v1] n) ∈ [] ++ _ :: _)
  refine ki_setAt z.1 (by decide) (by decide) (by show (1 : Int) < 2; decide) (h _ _ (F.change (Heap.SameBut.update ..) z.2.1 z.2.2) (ki_turn (pre := []) (n' := n) (its' := #[v0, .int x u]) _ N' (fun _ h => nomatch h) put_off ?_ ?_) put_old ?_)
  · rfl
  · rfl
  · exact .head _
end
theorem take_tells (w : World) (news : Led) (b q : Addr) (wide : Int) (t : Tok) (hw0 : 0 < wide) (hw1 : wide ≤ 100) (hb : BoxIn news b q) :
   Tells w 317 1 10 news [.ref b, .int wide t] (fun news' r => BoxIn news' b q ∧ KeptB b q news news' ∧ ∃ k t, r = .int k t ∧ 0 ≤ k ∧ k < wide) noEr := by
  obtain ⟨seed, ts, n, vs, n2, hbm, hqm, hiv, hvl, hs0, hs1, hbq⟩ := hb
  have hx0 : [Value.ref q, .int seed ts][(0 : Int).toNat]? = some (.ref q) := rfl
  have hx1 : [Value.ref q, .int seed ts][(1 : Int).toNat]? = some (.int seed ts) := rfl
  have hz : vs.length ≤ 2 ^ 20 := by omega
  k_dflt (refine' enter [(Str.ofString "box", .ref b), (Str.ofString "wide", .int wide t)] ?k6 ?k7 ?k8 ?k9 ?c1 ?c2 ?c3 ?c4 (by decide) (by decide) ?_; ((case k6 => k_is); (case k7 => k_is); (case k8 => exact rfl); (case k9 => exact rfl); (case c1 => exact rfl); (case c2 => exact rfl); (case c3 => exact rfl); (case c4 => decide)))
  intro dp un gd outer mean mg mb A₀ base g L s Q E B F X N T lv hdp hun ret er hE
  cases vs with
  | nil =>
    have hl0 : ¬ (0 < ((([] : List Value).length : Nat) : Int)) := by simp
    fail "go"
    try dsimp only
    refine set1_mem (by assumption) (by assumption) hbm fun h₁ news₁ F₁ N₁ K₁ hb₁ => ?_
    have hq₁ := K₁ _ hqm (Ne.symm hbq)
    have hx2 : [Value.ref q, .int ((seed * 48271 + 11).fmod 2147483647) (tk + 1 + 1 + 1 + 1 + 1 + 1)][(1 : Int).toNat]? = some (.int ((seed * 48271 + 11).fmod 2147483647) (tk + 1 + 1 + 1 + 1 + 1 + 1)) := rfl
    try dsimp only
    fail "go"
    try dsimp only
    exact ret (.ret _) _ _ _ _ (by assumption) (by assumption) (⟨(mkE5 ⟨hb₁, hq₁, hiv, hvl, fmod_lo _ (by decide), fmod_hi _ (by decide), hbq⟩), fun p hp h1 _ => K₁ p hp h1, _, _, rfl, fmod_lo _ hw0, fmod_hi _ hw0⟩)
  | cons v vs =>
    obtain ⟨i, ti, rfl⟩ := hiv v (.head _)
    have hl0 : 0 < ((((Value.int i ti) :: vs).length : Nat) : Int) := by simp only [List.length_cons]; omega
    fail "go"
    try dsimp only
    refine pop0_mem (by assumption) (by assumption) hqm (by simp only [List.length_cons] at *; omega) fun h₁ news₁ F₁ N₁ K₁ hq₁ => ?_
    have hb₁ := K₁ _ hbm hbq
    try dsimp only
    fail "go"
    try dsimp only
    exact ret (.ret _) _ _ _ _ (by assumption) (by assumption) (⟨(mkE5 ⟨hb₁, hq₁, fun v hv => hiv v (.tail _ hv), by simp only [List.length_cons] at hvl; omega, hs0, hs1, hbq⟩), fun p hp _ h2 => K₁ p hp h2, _, _, rfl, fmod_lo _ hw0, fmod_hi _ hw0⟩)
theorem take_k (w : World) (news : Led) (b q : Addr) (wide : Int) (t : Tok) (hw0 : 0 < wide) (hw1 : wide ≤ 100) (hb : BoxIn news b q) :
   Tells w 317 1 10 news [.ref b, .int wide t] (fun news' r => BoxIn news' b q ∧ KeptB b q news news' ∧ ∃ (k : Nat) (t : Tok), r = .int (k : Int) t ∧ (k : Int) < wide) noEr := by
  intro dp un gd cn cs a ccd cl outer mean mg mb A₀ base h₀ L m s Q E B F X N T hk hd hu ok er
  refine take_tells w news b q wide t hw0 hw1 hb dp un gd cn cs a ccd cl outer mean mg mb A₀ base h₀ L m s Q E B F X N T hk hd hu ?_ er
  intro r news' h' tk' F' N' hJJ; obtain ⟨hb', K, k, t', rfl, h0, h1⟩ := hJJ
  refine ok _ news' h' tk' F' N' ⟨hb', K, k.toNat, t', ?_, ?_⟩
  · rw [Int.toNat_of_nonneg h0]
  · rw [Int.toNat_of_nonneg h0]; exact h1
end

-- LawDef3
section
abbrev dFac (d : PyData) : PyData := dCall (Str.ofString "factorial") [d]
abbrev nameL : List String := ["x", "y_1", "%o2"]
abbrev numL : List (String × Int) := [("0", 0), ("7", 7), ("120", 120), ("100000000000000000000", 100000000000000000000)]
abbrev opL : List String := ["+", "-", "*", "/", "^", "**"]
inductive OpdP (R : List String → PyData → Prop) : List String → PyData → Prop
  | name {s} : s ∈ nameL → OpdP R [s] (dSym (Str.ofString s))
  | num {s k} : (s, k) ∈ numL → OpdP R [s] (dNum k)
  | paren {t d} : R t d → OpdP R (["("] ++ t ++ [")"]) d
  | fcall {t d t2 d2} : R t d → R t2 d2 → OpdP R (["f", "("] ++ t ++ [","] ++ t2 ++ [")"]) (dCall (Str.ofString "f") [d, d2])
  | leq {t d t2 d2} : R t d → R t2 d2 → OpdP R (["["] ++ t ++ ["="] ++ t2 ++ ["]"]) (dList [dEq d d2])
  | gcall : OpdP R ["g", "(", ")"] (dCall (Str.ofString "g") [])
inductive UnitP (O : List String → PyData → Prop) : List LIt → List String → Prop
  | mk (ah mk : Bool) {t : List String} {d : PyData} : O t d → UnitP O ((if ah then [.ahead] else []) ++ [.term (if mk then dFac d else d)]) ((if ah then ["-"] else []) ++ (t ++ (if mk then ["!"] else [])))
abbrev sgOf (s : String) : Str := if s = "**" then Str.ofString "^" else Str.ofString s
inductive UnitsP (O : List String → PyData → Prop) : Nat → List LIt → List String → Prop
  | zero : UnitsP O 0 [] []
  | one {its txs} : UnitP O its txs → UnitsP O 1 its txs
  | more {n its txs s its' txs'} : UnitsP O (n + 1) its txs → s ∈ opL → UnitP O its' txs' → UnitsP O (n + 2) (its ++ .sign (sgOf s) :: its') (txs ++ s :: txs')
theorem KeptB.tupNe {h₀ h : Heap} {L b q : Addr} {S : Led} (N : News h₀ L h S) (hb : BoxIn S b q) : ∀ p ∈ S, p.2.cls = .type "tuple" → p.1 ≠ b ∧ p.1 ≠ q := by
  obtain ⟨seed, ts, n, vs, n2, hbm, hqm, _⟩ := hb
  exact fun p hp hc => ⟨news_tupNe N hbm (by simp) p hp hc, news_tupNe N hqm (by simp) p hp hc⟩
theorem KeptB.tup {h₀ h : Heap} {L b q : Addr} {S S' : Led} (N : News h₀ L h S) (hb : BoxIn S b q) (K : KeptB b q S S') : ∀ p ∈ S, p.2.cls = .type "tuple" → p ∈ S' := fun p hp hc => K p hp (KeptB.tupNe N hb p hp hc).1 (KeptB.tupNe N hb p hp hc).2
theorem BoxIn.sub {S S' : Led} {b q : Addr} (h : BoxIn S b q) (hs : ∀ p ∈ S, p ∈ S') : BoxIn S' b q := by
  obtain ⟨seed, ts, n, vs, n2, hbm, hqm, r⟩ := h
  exact ⟨seed, ts, n, vs, n2, hs _ hbm, hs _ hqm, r⟩
theorem BoxIn.ats {S : Led} {b q : Addr} (h : BoxIn S b q) : (∃ o, (b, o) ∈ S) ∧ ∃ o, (q, o) ∈ S := by
  obtain ⟨seed, ts, n, vs, n2, hbm, hqm, r⟩ := h
  exact ⟨⟨_, hbm⟩, ⟨_, hqm⟩⟩
section
variable {news S : Led} {b q tl x y z u : Addr}
theorem fresh_box0 (K : KeptB b q news S) (hb : BoxIn S b q) (h : ∀ p ∈ S, p.1 < tl) : ∀ p ∈ news, p.1 ≠ tl := fun p hp e => by
  obtain ⟨⟨o1, h1⟩, ⟨o2, h2⟩⟩ := hb.ats
  by_cases e1 : p.1 = b
  · exact absurd (h _ h1) (by rw [← e1, e]; exact Nat.lt_irrefl _)
  · by_cases e2 : p.1 = q
    · exact absurd (h _ h2) (by rw [← e2, e]; exact Nat.lt_irrefl _)
    · exact absurd (h _ (K p hp e1 e2)) (by rw [e]; exact Nat.lt_irrefl _)
theorem fresh_box1 (K : KeptB b q news S) (hb : BoxIn S b q) (h : x < tl ∧ AllLt tl S) : ∀ p ∈ news, p.1 ≠ tl := fresh_box0 K hb (kst_ltOf h.2)
theorem fresh_box2 (K : KeptB b q news S) (hb : BoxIn S b q) (h : x < tl ∧ y < tl ∧ AllLt tl S) : ∀ p ∈ news, p.1 ≠ tl := fresh_box0 K hb (kst_ltOf h.2.2)
theorem fresh_box3 (K : KeptB b q news S) (hb : BoxIn S b q) (h : x < tl ∧ y < tl ∧ z < tl ∧ AllLt tl S) : ∀ p ∈ news, p.1 ≠ tl := fresh_box0 K hb (kst_ltOf h.2.2.2)
theorem fresh_box4 (K : KeptB b q news S) (hb : BoxIn S b q) (h : x < tl ∧ y < tl ∧ z < tl ∧ u < tl ∧ AllLt tl S) : ∀ p ∈ news, p.1 ≠ tl := fresh_box0 K hb (kst_ltOf h.2.2.2.2)
end
theorem news_cons {h₀ h : Heap} {L : Addr} {S : Led} {q : Addr × Obj} (N : News h₀ L h S) (hq : q ∈ S) : News h₀ L h (q :: S) := fun p hp => by
  rcases List.mem_cons.mp hp with rfl | hp
  · exact N _ hq
  · exact N p hp
theorem kept_new {S S' : Led} {b q l : Addr} {o : Obj} (K : KeptB b q ((l, o) :: S) S') (hb : BoxIn S b q) (hlt : ∀ p ∈ S, p.1 < l) : (l, o) ∈ S' := by
  obtain ⟨⟨o1, h1⟩, ⟨o2, h2⟩⟩ := hb.ats
  exact K _ (.head _) (Nat.ne_of_gt (hlt _ h1)) (Nat.ne_of_gt (hlt _ h2))
def TexOK (news : Led) (b q : Addr) (P : List String → PyData → Prop) (N : Nat) (news' : Led) (r : Value) : Prop :=
  ∃ T tl v tvs n1 n2 txs d, r = .ref T ∧ BoxIn news' b q ∧ KeptB b q news news' ∧ (T, tupOf [.ref tl, v] n1) ∈ news' ∧ (tl, lstOf tvs n2) ∈ news' ∧ (∀ p ∈ news, p.1 ≠ tl) ∧ Rds news' tvs (txs.map strD) ∧ Rd news' v d ∧ P txs d ∧ txs.length ≤ N
theorem add_mem {prog : Program} {w : World} {A : Around} {E : Value → Shared → Prop} {s : Shared} {h₀ : Heap} {L l1 l2 : Addr} {m : Str → Option Value} {news : Led} {n1 n2 : Nat} {v1 v2 : List Value} {Q : Value → Shared → Prop} (F : Fr h₀ L s.heap m := by k_asm) (N : News h₀ L s.heap news := by k_asm) (h1 : (l1, lstOf v1 n1) ∈ news := by fail "mem") (h2 : (l2, lstOf v2 n2) ∈ news := by fail "mem") (hz : v1.length + v2.length ≤ 2 ^ 20 := by first | omega | (simp only [List.length_append, List.length_cons, List.length_nil, List.length_replicate]; omega))
    (h : ∀ D h', Fr h₀ L h' m → News h₀ L h' ((D, lstOf (v1 ++ v2) 0) :: news) → (∀ p ∈ news, p.1 < D) → Q (.ref D) { s with heap := h' }) : wpAny (model prog w) A (binaryOp .Add (.ref l1) (.ref l2)) Q E s :=
  have hz : v1.length + v2.length ≤ 2 ^ 20 := hz
  add_arrays (hsz := by rw [List.size_toArray, List.size_toArray, sizeLine_eq]; omega) F N (lst_is N h1) (lst_is N h2) fun h' F' N' => h _ h' F' N' fun p hp => Heap.lt_size (N p hp).1
theorem KeptB.lst {S S' news : Led} {b q l : Addr} {vs : List Value} {n : Nat} (K : KeptB b q S S') (hb : BoxIn news b q) (hf : ∀ p ∈ news, p.1 ≠ l) (hm : (l, lstOf vs n) ∈ S) : (l, lstOf vs n) ∈ S' := by
  obtain ⟨⟨o1, h1⟩, ⟨o2, h2⟩⟩ := hb.ats
  exact K _ hm (Ne.symm (hf _ h1)) (Ne.symm (hf _ h2))
theorem KeptB.rd {h₀ h : Heap} {L b q : Addr} {S S' : Led} (N : News h₀ L h S) (hb : BoxIn S b q) (K : KeptB b q S S') {v : Value} {d : PyData} (r : Rd S v d) : Rd S' v d := r.mono (K.tup N hb)
theorem KeptB.rds {h₀ h : Heap} {L b q : Addr} {S S' : Led} (N : News h₀ L h S) (hb : BoxIn S b q) (K : KeptB b q S S') {v : List Value} {d : List PyData} (r : Rds S v d) : Rds S' v d := r.mono (K.tup N hb)
def RowT (w : World) (R : List String → PyData → Prop) (z₀ : Int) (D U N : Nat) : Prop := ∀ (news : Led) (b q : Addr) (t : Tok) (z : Int), z = z₀ → BoxIn news b q → Tells w 331 D U news [.ref b, .int z t] (TexOK news b q R N) noEr
def OpdT (w : World) (R : List String → PyData → Prop) (z₀ : Int) (D U N : Nat) : Prop := ∀ (news : Led) (b q : Addr) (t : Tok) (z : Int), z = z₀ → BoxIn news b q → Tells w 324 D U news [.ref b, .int z t] (TexOK news b q R N) noEr
theorem fresh_boxS {news S₀ S : Led} {b q tl : Addr} (K : KeptB b q news S₀) (hb : BoxIn S₀ b q) (h : ∀ p ∈ S, p.1 < tl) (hs : ∀ p ∈ S₀, p ∈ S) : ∀ p ∈ news, p.1 ≠ tl := fresh_box0 K hb fun p hp => h p (hs p hp)
end

-- L7
section
def WMid (z : Int) (s : Shared) (v : Value) (s' : Shared) : Prop := ∃ c t tk, v = .int c t ∧ s' = { s with toks := tk } ∧ (c = 4 ∨ c = 8 ∧ z > 0)
theorem w_mid {M : Model} {A : Around} {E : Value → Shared → Prop} {t : Sem Value} {s : Shared} {Q : Value → Shared → Prop} {z : Int} (h : wpAny M A t (WMid z s) E s) (k : ∀ c t tk, (c = 4 ∨ c = 8 ∧ z > 0) → Q (.int c t) { s with toks := tk }) : wpAny M A t Q E s :=
  wpAny_mono h (fun _ _ ⟨_, _, _, e, e', hc⟩ => e ▸ e' ▸ k _ _ _ hc) fun _ _ e => e
section
variable {prog : Program} {w : World} {A : Around} {E : Value → Shared → Prop} {s : Shared} {h₀ : Heap} {L l : Addr} {S : Led} {value slice : Expr} {k n : Nat} {u t1 t2 t3 t4 : Tok} {Q : Value → Shared → Prop}
theorem name_item (N : News h₀ L s.heap ((l, lstOf [.str (Str.ofString "x") t1, .str (Str.ofString "y_1") t2, .str (Str.ofString "%o2") t3] n) :: S)) (hk : k < 3)
    (h : ∀ x ∈ nameL, ∀ t, Q (.str (Str.ofString x) t) s) (hs : subscripted slice false (.ref l) (.int k u) = operate [.ref l, .int k u] (getItem (.ref l) (.int k u)) := by with_unfolding_all rfl) :
    wpAny (model prog w) A (subscriptTail value slice (.ref l) (.int k u)) Q E s := by
  have hcase : k = 0 ∨ k = 1 ∨ k = 2 := by omega
  rcases hcase with rfl | rfl | rfl <;> exact item_mem N (.head _) (by decide) (by decide) rfl (h _ (by decide) _) hs
theorem num_at {k : Nat} (hk : k < 4) : ∃ x, (x, ([0, 7, 120, 10 ^ Int.toNat 20] : List Int).getD (k : Int).toNat 0) ∈ numL ∧ toString (([0, 7, 120, 10 ^ Int.toNat 20] : List Int).getD (k : Int).toNat 0) = x ∧ (([0, 7, 120, 10 ^ Int.toNat 20] : List Int).getD (k : Int).toNat 0).natAbs.log2 < 1920 := by
  have hcase : k = 0 ∨ k = 1 ∨ k = 2 ∨ k = 3 := by omega
  rcases hcase with rfl | rfl | rfl | rfl
  · exact ⟨"0", by decide, by decide +kernel, by decide +kernel⟩
  · exact ⟨"7", by decide, by decide +kernel, by decide +kernel⟩
  · exact ⟨"120", by decide, by decide +kernel, by decide +kernel⟩
  · exact ⟨"100000000000000000000", by decide, by decide +kernel, by decide +kernel⟩
end
set_option hygiene false in
local macro_rules | `(tactic| walk_at "eval IfExp") => `(tactic| refine w_mid (z := z) (IfExp_ ?_) ?_)
theorem opd_tells (w : World) (R : List String → PyData → Prop) (z : Int) (D0 U0 N0 N1 : Nat) (hz : z = 0 ∨ z = 1) (hN : 3 ≤ N1) (hN1 : z = 1 → N0 ≤ 1000 ∧ 2 * N0 + 4 ≤ N1) (hD0 : 10 ≤ D0) (hU0 : 100 ≤ U0) (IH : z = 1 → RowT w R 0 D0 U0 N0) (news : Led) (b q : Addr) (t : Tok) (hb : BoxIn news b q) :
    Tells w 324 (D0 + 10) (U0 + 100) news [.ref b, .int z t] (TexOK news b q (OpdP R) N1) noEr := by
  k_dflt (refine' enter [(Str.ofString "box", .ref b), (Str.ofString "deep", .int z t)] ?k6 ?k7 ?k8 ?k9 ?c1 ?c2 ?c3 ?c4 (by omega) (by omega) ?_; ((case k6 => k_is); (case k7 => k_is); (case k8 => exact rfl); (case k9 => exact rfl); (case c1 => exact rfl); (case c2 => exact rfl); (case c3 => exact rfl); (case c4 => decide)))
  intro dp un gd outer mean mg mb A₀ base g L s Q E B F X N T lv hdp hun ret er hE
  fail "go"
  · exact (mkE3 ⟨rfl, rfl, .inr ⟨rfl, by assumption⟩⟩)
  · exact (mkE3 ⟨rfl, rfl, .inl rfl⟩)
  rename_i c tc tkc hc
  fail "gen"; refine' Tells.use ?tt1 B ?cf1 X ?cn1 T rfl ?cd1 ?cu1 ?ok1 ?er1; (case cf1 => assumption); (case cn1 => assumption); (case tt1 => exact take_k w _ b q c _ (by omega) (by omega) hb); (case cd1 => first | exact bud hdp (by decide) | exact bud hdp (by omega) | omega); (case cu1 => first | exact bud3 hun (by decide) | exact bud3 hun (by omega) | omega); (try (case er1 => exact fun _ _ _ _ _ _ _ _ _ h => h.elim))
  intro r news₁ h₁ tk₁ F₁ N₁ hJJ; obtain ⟨hb₁, K₁, k, t₁, rfl, hk⟩ := hJJ
  have hcase : k < 3 ∨ k = 3 ∨ (k = 4 ∧ z = 1) ∨ (k = 5 ∧ z = 1) ∨ (k = 6 ∧ z = 1) ∨ k = 7 := by omega
  try dsimp only
  rcases hcase with hk3 | hk3 | ⟨rfl, hz1⟩ | ⟨rfl, hz1⟩ | ⟨rfl, hz1⟩ | rfl
  · have hk3' : (k : Int) < 3 := by omega
    fail "go"
    try dsimp only
    refine name_item (by assumption) hk3 (fun x hx tx => ?_)
    fail "go"
    try dsimp only
    refine ret (.ret _) _ _ _ _ (by assumption) (by assumption) (mkE8 (v5 := 0) (v6 := 0) (v7 := [x]) (v8 := dSym (Str.ofString x)) ⟨rfl, hb₁.sub (fun p hp => .tail _ (.tail _ (.tail _ (.tail _ hp)))), K₁.trans (.of_sub fun p hp => .tail _ (.tail _ (.tail _ (.tail _ hp)))), .head _, .tail _ (.tail _ (.head _)), ?_, ?_, ?_, .name hx, Nat.le_trans (m := 3) (Nat.le_of_ble_eq_true rfl) hN⟩)
    · first | exact fresh_box0 K₁ hb₁ (by assumption) | exact fresh_box1 K₁ hb₁ (by assumption) | exact fresh_box2 K₁ hb₁ (by assumption)
    · exact .cons (.str _ _) .nil
    · fail "rd"
  · have hk3' : (k : Int) = 3 := by omega
    clear hk3
    fail "go"
    try dsimp only
    fail "gen"; refine' Tells.use ?tt2 B ?cf2 X ?cn2 T rfl ?cd2 ?cu2 ?ok2 ?er2; (case cf2 => assumption); (case cn2 => assumption); (case tt2 => exact take_k w _ b q 4 _ (by decide) (by decide) (hb₁.sub (fun p hp => .tail _ hp))); (case cd2 => first | exact bud hdp (by decide) | exact bud hdp (by omega) | omega); (case cu2 => first | exact bud3 hun (by decide) | exact bud3 hun (by omega) | omega); (try (case er2 => exact fun _ _ _ _ _ _ _ _ _ h => h.elim))
    intro r news₂ h₂ tk₂ F₂ N₂ hJJ; obtain ⟨hb₂, K₂', k2, t₂, rfl, hk2⟩ := hJJ
    have K₂ : KeptB b q news news₂ := K₁.trans (fun p hp => K₂' p (.tail _ hp))
    have N₃ := news_cons N₂ (kept_new K₂' hb₁ (by assumption))
    clear N₂
    try dsimp only
    fail "go"
    try dsimp only
    obtain ⟨x, hx, hs, hlg⟩ := num_at (show k2 < 4 by omega)
    refine P.str_of_int hlg ?_
    fail "go"
    try dsimp only
    rename_i N9 l9
    rw [hs] at N9
    refine ret (.ret _) _ _ _ _ (by assumption) (by assumption) (mkE8 (v5 := 0) (v6 := 0) (v7 := [x]) (v8 := dNum _) ⟨rfl, hb₂.sub (fun p hp => .tail _ (.tail _ (.tail _ (.tail _ hp)))), K₂.trans (.of_sub fun p hp => .tail _ (.tail _ (.tail _ (.tail _ hp)))), .head _, .tail _ (.tail _ (.head _)), ?_, ?_, ?_, .num hx, Nat.le_trans (m := 3) (Nat.le_of_ble_eq_true rfl) hN⟩)
    · first | exact fresh_box0 K₂ hb₂ (by assumption) | exact fresh_box1 K₂ hb₂ (by assumption) | exact fresh_box2 K₂ hb₂ (by assumption)
    · exact .cons (.str _ _) .nil
    · fail "rd"
  · fail "go"
    try dsimp only
    fail "gen"; refine' Tells.use ?tt3 B ?cf3 X ?cn3 T rfl ?cd3 ?cu3 ?ok3 ?er3; (case cf3 => assumption); (case cn3 => assumption); (case tt3 => exact IH hz1 _ b q _ _ (by omega) hb₁); (case cd3 => first | exact bud hdp (by decide) | exact bud hdp (by omega) | omega); (case cu3 => first | exact bud3 hun (by decide) | exact bud3 hun (by omega) | omega); (try (case er3 => exact fun _ _ _ _ _ _ _ _ _ h => h.elim))
    intro r news₂ h₂ tk₂ F₂ N₂ hJJ; obtain ⟨T2, tl2, v2, tv2, n21, n22, tx2, d2, rfl, hb₂, K₂', hT2, htl2, hfr2, hrs2, hrd2, hR2, hn2⟩ := hJJ
    have K₂ : KeptB b q news news₂ := K₁.trans K₂'
    have tn2 := KeptB.tupNe N₂ hb₂
    have hvl2 := hrs2.length
    rw [List.length_map] at hvl2
    try dsimp only
    fail "go"
    try dsimp only
    refine ret (.ret _) _ _ _ _ (by assumption) (by assumption) (mkE8 (v5 := 0) (v6 := 0) (v7 := (["("] ++ tx2 ++ [")"])) (v8 := d2) ⟨rfl, hb₂.sub (fun p hp => by fail "mem"), K₂.trans (.of_sub (fun p hp => by fail "mem")), .head _, by fail "mem", ?_, ?_, ?_, .paren hR2, by simp only [List.length_append, List.length_cons, List.length_nil]; omega⟩)
    · first | exact fresh_boxS K₂ hb₂ (by assumption) (fun p hp => by fail "mem") | exact fresh_box0 K₂ hb₂ (by assumption)
    · exact Rds.mapA (Rds.mapA (.cons (.str _ _) .nil) (hrs2.sub (fun p hp => by fail "mem"))) (.cons (.str _ _) .nil)
    · exact hrd2.sub (fun p hp => by fail "mem")
  · fail "go"
    try dsimp only
    fail "gen"; refine' Tells.use ?tt4 B ?cf4 X ?cn4 T rfl ?cd4 ?cu4 ?ok4 ?er4; (case cf4 => assumption); (case cn4 => assumption); (case tt4 => exact IH hz1 _ b q _ _ (by omega) hb₁); (case cd4 => first | exact bud hdp (by decide) | exact bud hdp (by omega) | omega); (case cu4 => first | exact bud3 hun (by decide) | exact bud3 hun (by omega) | omega); (try (case er4 => exact fun _ _ _ _ _ _ _ _ _ h => h.elim))
    intro r news₂ h₂ tk₂ F₂ N₂ hJJ; obtain ⟨T2, tl2, v2, tv2, n21, n22, tx2, d2, rfl, hb₂, K₂', hT2, htl2, hfr2, hrs2, hrd2, hR2, hn2⟩ := hJJ
    have K₂ : KeptB b q news news₂ := K₁.trans K₂'
    have tn2 := KeptB.tupNe N₂ hb₂
    have hvl2 := hrs2.length
    rw [List.length_map] at hvl2
    try dsimp only
    fail "go"
    try dsimp only
    fail "gen"; refine' Tells.use ?tt5 B ?cf5 X ?cn5 T rfl ?cd5 ?cu5 ?ok5 ?er5; (case cf5 => assumption); (case cn5 => assumption); (case tt5 => exact IH hz1 _ b q _ _ (by omega) hb₂); (case cd5 => first | exact bud hdp (by decide) | exact bud hdp (by omega) | omega); (case cu5 => first | exact bud3 hun (by decide) | exact bud3 hun (by omega) | omega); (try (case er5 => exact fun _ _ _ _ _ _ _ _ _ h => h.elim))
    intro r news₃ h₃ tk₃ F₃ N₃ hJJ; obtain ⟨T3, tl3, v3, tv3, n31, n32, tx3, d3, rfl, hb₃, K₃', hT3, htl3, hfr3, hrs3, hrd3, hR3, hn3⟩ := hJJ
    have K₃ : KeptB b q news news₃ := K₂.trans K₃'
    have htl2' := K₃'.lst hb₁ hfr2 htl2
    have hrs2' := hrs2.mono fun p hp hc => K₃' p hp (tn2 p hp hc).1 (tn2 p hp hc).2
    have hrd2' := hrd2.mono fun p hp hc => K₃' p hp (tn2 p hp hc).1 (tn2 p hp hc).2
    have hvl3 := hrs3.length
    rw [List.length_map] at hvl3
    clear htl2 hrs2 hrd2 hT2
    try dsimp only
    fail "go"
    try dsimp only
    refine ret (.ret _) _ _ _ _ (by assumption) (by assumption) (mkE8 (v5 := 0) (v6 := 0) (v7 := (["f", "("] ++ tx2 ++ [","] ++ tx3 ++ [")"])) (v8 := (dCall (Str.ofString "f") [d2, d3])) ⟨rfl, hb₃.sub (fun p hp => by fail "mem"), K₃.trans (.of_sub (fun p hp => by fail "mem")), .head _, by fail "mem", ?_, ?_, ?_, .fcall hR2 hR3, by simp only [List.length_append, List.length_cons, List.length_nil]; omega⟩)
    · first | exact fresh_boxS K₃ hb₃ (by assumption) (fun p hp => by fail "mem") | exact fresh_box0 K₃ hb₃ (by assumption)
    · exact Rds.mapA (Rds.mapA (Rds.mapA (Rds.mapA (.cons (.str _ _) (.cons (.str _ _) .nil)) (hrs2'.sub (fun p hp => by fail "mem"))) (.cons (.str _ _) .nil)) (hrs3.sub (fun p hp => by fail "mem"))) (.cons (.str _ _) .nil)
    · exact .tup (by fail "mem") (.cons (.str _ _) (.cons (.str _ _) (.cons (.tup (by fail "mem") (.cons (hrd2'.sub (fun p hp => by fail "mem")) (.cons (hrd3.sub (fun p hp => by fail "mem")) .nil))) .nil)))
  · fail "go"
    try dsimp only
    fail "gen"; refine' Tells.use ?tt6 B ?cf6 X ?cn6 T rfl ?cd6 ?cu6 ?ok6 ?er6; (case cf6 => assumption); (case cn6 => assumption); (case tt6 => exact IH hz1 _ b q _ _ (by omega) hb₁); (case cd6 => first | exact bud hdp (by decide) | exact bud hdp (by omega) | omega); (case cu6 => first | exact bud3 hun (by decide) | exact bud3 hun (by omega) | omega); (try (case er6 => exact fun _ _ _ _ _ _ _ _ _ h => h.elim))
    intro r news₂ h₂ tk₂ F₂ N₂ hJJ; obtain ⟨T2, tl2, v2, tv2, n21, n22, tx2, d2, rfl, hb₂, K₂', hT2, htl2, hfr2, hrs2, hrd2, hR2, hn2⟩ := hJJ
    have K₂ : KeptB b q news news₂ := K₁.trans K₂'
    have tn2 := KeptB.tupNe N₂ hb₂
    have hvl2 := hrs2.length
    rw [List.length_map] at hvl2
    try dsimp only
    fail "go"
    try dsimp only
    fail "gen"; refine' Tells.use ?tt7 B ?cf7 X ?cn7 T rfl ?cd7 ?cu7 ?ok7 ?er7; (case cf7 => assumption); (case cn7 => assumption); (case tt7 => exact IH hz1 _ b q _ _ (by omega) hb₂); (case cd7 => first | exact bud hdp (by decide) | exact bud hdp (by omega) | omega); (case cu7 => first | exact bud3 hun (by decide) | exact bud3 hun (by omega) | omega); (try (case er7 => exact fun _ _ _ _ _ _ _ _ _ h => h.elim))
    intro r news₃ h₃ tk₃ F₃ N₃ hJJ; obtain ⟨T3, tl3, v3, tv3, n31, n32, tx3, d3, rfl, hb₃, K₃', hT3, htl3, hfr3, hrs3, hrd3, hR3, hn3⟩ := hJJ
    have K₃ : KeptB b q news news₃ := K₂.trans K₃'
    have htl2' := K₃'.lst hb₁ hfr2 htl2
    have hrs2' := hrs2.mono fun p hp hc => K₃' p hp (tn2 p hp hc).1 (tn2 p hp hc).2
    have hrd2' := hrd2.mono fun p hp hc => K₃' p hp (tn2 p hp hc).1 (tn2 p hp hc).2
    have hvl3 := hrs3.length
    rw [List.length_map] at hvl3
    clear htl2 hrs2 hrd2 hT2
    try dsimp only
    fail "go"
    try dsimp only
    refine ret (.ret _) _ _ _ _ (by assumption) (by assumption) (mkE8 (v5 := 0) (v6 := 0) (v7 := (["["] ++ tx2 ++ ["="] ++ tx3 ++ ["]"])) (v8 := (dList [dEq d2 d3])) ⟨rfl, hb₃.sub (fun p hp => by fail "mem"), K₃.trans (.of_sub (fun p hp => by fail "mem")), .head _, by fail "mem", ?_, ?_, ?_, .leq hR2 hR3, by simp only [List.length_append, List.length_cons, List.length_nil]; omega⟩)
    · first | exact fresh_boxS K₃ hb₃ (by assumption) (fun p hp => by fail "mem") | exact fresh_box0 K₃ hb₃ (by assumption)
    · exact Rds.mapA (Rds.mapA (Rds.mapA (Rds.mapA (.cons (.str _ _) .nil) (hrs2'.sub (fun p hp => by fail "mem"))) (.cons (.str _ _) .nil)) (hrs3.sub (fun p hp => by fail "mem"))) (.cons (.str _ _) .nil)
    · exact .tup (by fail "mem") (.cons (.str _ _) (.cons (.tup (by fail "mem") (.cons (.tup (by fail "mem") (.cons (.str _ _) (.cons (hrd2'.sub (fun p hp => by fail "mem")) (.cons (hrd3.sub (fun p hp => by fail "mem")) .nil)))) .nil)) .nil))
  · fail "go"
    try dsimp only
    refine ret (.ret _) _ _ _ _ (by assumption) (by assumption) (mkE8 (v5 := 0) (v6 := 0) (v7 := ["g", "(", ")"]) (v8 := (dCall (Str.ofString "g") [])) ⟨rfl, hb₁.sub (fun p hp => by fail "mem"), K₁.trans (.of_sub (fun p hp => by fail "mem")), .head _, by fail "mem", ?_, ?_, ?_, .gcall, by simp only [List.length_append, List.length_cons, List.length_nil]; omega⟩)
    · first | exact fresh_boxS K₁ hb₁ (by assumption) (fun p hp => by fail "mem") | exact fresh_box0 K₁ hb₁ (by assumption)
    · exact .cons (.str _ _) (.cons (.str _ _) (.cons (.str _ _) .nil))
    · exact .tup (by fail "mem") (.cons (.str _ _) (.cons (.str _ _) (.cons (.tup (by fail "mem") .nil) .nil)))

theorem opd0_tells (w : World) (R : List String → PyData → Prop) (news : Led) (b q : Addr) (t : Tok) (hb : BoxIn news b q) :
   Tells w 324 20 200 news [.ref b, .int 0 t] (TexOK news b q (OpdP R) 3) noEr :=
  opd_tells w R 0 10 100 0 3 (.inl rfl) (by decide) (fun e => absurd e (by decide)) (by decide) (by decide) (fun e => absurd e (by decide)) news b q t hb
theorem opd1_tells (w : World) (R : List String → PyData → Prop) (N0 : Nat) (hN0 : N0 ≤ 1000) (IH : RowT w R 0 150 1000 N0) : OpdT w (OpdP R) 1 160 1100 (2 * N0 + 4) :=
  fun news b q t z hz hb => opd_tells w R z 150 1000 N0 _ (.inr hz) (by omega) (fun _ => ⟨hN0, by omega⟩) (by decide) (by decide) (fun _ => IH) news b q t hb
end

-- ForL
section
structure Carry (I : List Addr) (cs : List String) (S S' : Led) : Prop where
  go : ∀ p ∈ S, p.1 ∉ I → p ∈ S'
  at_ : ∀ p ∈ S, p.1 ∈ I → ∃ c ∈ cs, p.2.cls = .type c
abbrev iterCls : List String := ["list_iterator", "range_iterator", "enumerate", "tuple_iterator"]
theorem Carry.mem {I : List Addr} {S S' : Led} (c : Carry I iterCls S S') {a : Addr} {o : Obj} (h : (a, o) ∈ S) (ho : ∀ x ∈ iterCls, o.cls ≠ .type x) : (a, o) ∈ S' := c.go _ h fun e => by
  obtain ⟨x, hx, hc⟩ := c.at_ _ h e
  exact ho x hx hc
theorem Carry.lst {I : List Addr} {S S' : Led} (c : Carry I iterCls S S') {a : Addr} {vs : List Value} {n : Nat} (h : (a, lstOf vs n) ∈ S) : (a, lstOf vs n) ∈ S' := c.mem h (by intro x hx; simp only [iterCls, List.mem_cons, List.not_mem_nil, or_false] at hx; rcases hx with rfl | rfl | rfl | rfl <;> simp)
theorem Carry.tup {I : List Addr} {S S' : Led} (c : Carry I iterCls S S') : ∀ p ∈ S, p.2.cls = .type "tuple" → p ∈ S' := fun p hp hc => c.go p hp fun e => by
  obtain ⟨x, hx, hc'⟩ := c.at_ _ hp e
  rw [hc] at hc'
  simp only [iterCls, List.mem_cons, List.not_mem_nil, or_false] at hx
  rcases hx with rfl | rfl | rfl | rfl <;> simp at hc'
theorem Carry.rd {I : List Addr} {S S' : Led} (c : Carry I iterCls S S') {v : Value} {d : PyData} (h : Rd S v d) : Rd S' v d := h.mono c.tup
theorem Carry.rds {I : List Addr} {S S' : Led} (c : Carry I iterCls S S') {v : List Value} {d : List PyData} (h : Rds S v d) : Rds S' v d := h.mono c.tup

section
variable {prog : Program} {w : World} {A : Around} {E : Value → Shared → Prop} {s : Shared} {env : Env} {h₀ : Heap} {target : Expr} {body : List Stmt} {Q : Flow → Shared → Prop}

def IterNew (news : Led) (p : Addr × Obj) : Prop := (∀ q ∈ news, p.1 ≠ q.1) ∧ ∃ c ∈ iterCls, p.2.cls = .type c
def Turned (h₀ : Heap) (L : Addr) (s₁ : Shared) (own : Led) (J : (Str → Option Value) → Led → Prop) (Q : Flow → Shared → Prop) (f : Flow) (s₂ : Shared) : Prop :=
  match f with
  | .ret v => Q (.ret v) s₂
  | .brk => Q .next s₂
  | _ => ∃ h' tk m' S, s₂ = { s₁ with heap := h', toks := tk } ∧ Fr h₀ L h' m' ∧ News h₀ L h' S ∧ (∀ p ∈ own, p ∈ S) ∧ J m' S

theorem objs_at : ∀ {ws : List (Addr × String)} {its : Led}, Objs ws its → (∀ x ∈ ws, x.2 ∈ iterCls) → ∀ p ∈ its, p.1 ∈ ws.map (·.1) ∧ ∃ c ∈ iterCls, p.2.cls = .type c
  | [], [], _, _, _, h => nomatch h
  | [], _ :: _, x, _, _, _ => (show False from x).elim
  | _ :: _, [], x, _, _, _ => (show False from x).elim
  | w :: ws, q :: its, x, hw, p, h => by
    rcases List.mem_cons.mp h with rfl | h
    · exact ⟨by rw [x.1.1]; exact List.mem_cons_self .., w.2, hw _ (List.mem_cons_self ..), x.1.2⟩
    · obtain ⟨a, b⟩ := objs_at x.2 (fun y hy => hw y (List.mem_cons_of_mem _ hy)) p h
      exact ⟨List.mem_cons_of_mem _ a, b⟩
theorem objs_of {ws : List (Addr × String)} {its : Led} (h : Objs ws its) {a : Addr} (ha : a ∈ ws.map (·.1)) : ∃ o, (a, o) ∈ its := by
  rw [← h.map] at ha
  obtain ⟨q, hq, e⟩ := List.mem_map.mp ha
  exact ⟨q.2, by rw [← e]; exact hq⟩
theorem allObj_of : ∀ {ws : List (Addr × String)} {k : Led → Prop}, (∀ its, Objs ws its → k its) → AllObj ws k
  | [], _, h => h [] trivial
  | w :: _, _, h => fun o ho => allObj_of fun its hi => h ((w.1, o) :: its) ⟨⟨rfl, ho⟩, hi⟩

theorem turned_post {s₁ s₂ : Shared} {L : Addr} {ws : List (Addr × String)} {its keep : Led} {J J' : (Str → Option Value) → Led → Prop} {f : Flow} (hits : Objs ws its) (hcl : ∀ x ∈ ws, x.2 ∈ iterCls)
    (hJ : ∀ m S S', J m S → Carry (ws.map (·.1)) iterCls S S' → J' m S') (hk : ∀ p ∈ keep, p.1 ∉ ws.map (·.1))
    (h : Turned h₀ L s₁ (its ++ keep) J Q f s₂) : UnrPostW h₀ L s₁ its (fun m' n' => SubL keep n' ∧ J' m' n') Q f s₂ := by
  have fin : (∃ h' tk m' S, s₂ = { s₁ with heap := h', toks := tk } ∧ Fr h₀ L h' m' ∧ News h₀ L h' S ∧ (∀ p ∈ its ++ keep, p ∈ S) ∧ J m' S) → UnrEndW h₀ L s₁ its (fun m' n' => SubL keep n' ∧ J' m' n') s₂ := by
    rintro ⟨h', tk, m', S, rfl, F, N, hown, hj⟩
    have cy : Carry (ws.map (·.1)) iterCls S (S.filter fun p => decide (p.1 ∉ ws.map (·.1))) := ⟨fun p hp hn => List.mem_filter.mpr ⟨hp, decide_eq_true hn⟩, fun p hp e => by
      obtain ⟨a, ob⟩ := p
      obtain ⟨o, ho⟩ := objs_of hits e
      rw [news_same N hp (hown _ (List.mem_append_left _ ho))]
      exact (objs_at hits hcl _ ho).2⟩
    refine ⟨h', tk, m', S.filter (fun p => decide (p.1 ∉ ws.map (·.1))), rfl, F, ?_, ?_, ?_, hJ _ _ _ hj cy⟩
    · intro p hp
      rcases List.mem_append.mp hp with hp | hp
      · exact N _ (hown _ (List.mem_append_left _ hp))
      · exact N p (List.mem_filter.mp hp).1
    · intro p hp q hq e
      have h1 : p.1 ∉ ws.map (·.1) := of_decide_eq_true (List.mem_filter.mp hp).2
      exact h1 (e ▸ (objs_at hits hcl q hq).1)
    · have : ∀ k : Led, (∀ p ∈ k, p ∈ S.filter (fun p => decide (p.1 ∉ ws.map (·.1)))) → SubL k (S.filter (fun p => decide (p.1 ∉ ws.map (·.1)))) := by
        intro k
        induction k with
        | nil => intro _; trivial
        | cons p r ih => intro h; exact ⟨h p (List.mem_cons_self ..), ih fun q hq => h q (List.mem_cons_of_mem _ hq)⟩
      exact this keep fun p hp => List.mem_filter.mpr ⟨hown _ (List.mem_append_right _ hp), decide_eq_true (hk p hp)⟩
  cases f with
  | ret v => exact h
  | brk => exact h
  | next => exact fin h
  | cont => exact fin h

theorem items_ind {α : Type} (enc : α → Itm) {ws : List (Addr × String)} {keep : Led} (hcl : ∀ x ∈ ws, x.2 ∈ iterCls) (hk : ∀ p ∈ keep, p.1 ∉ ws.map (·.1)) (J : List α → (Str → Option Value) → Led → Prop)
    (up : ∀ r m S S', J r m S → Carry (ws.map (·.1)) iterCls S S' → J r m S')
    (turn : ∀ a r m₁ v h tk S its, (enc a).Is v h → Fr h₀ env.locals h m₁ → News h₀ env.locals h S → Objs ws its → (∀ p ∈ its ++ keep, p ∈ S) → J (a :: r) m₁ S →
      wpAny (model prog w) A (assign target env v) (fun _ s₂ => wpAny (model prog w) A (execs body env) (Turned h₀ env.locals { s with heap := h, toks := tk } (its ++ keep) (J r) Q) E s₂) E { s with heap := h, toks := tk })
    (done : ∀ m₁ S h tk, Fr h₀ env.locals h m₁ → News h₀ env.locals h S → J [] m₁ S → Q .next { s with heap := h, toks := tk }) :
    ∀ (xs : List α) (m : Str → Option Value) (S : Led), (∀ p ∈ S, p.1 ∉ ws.map (·.1)) → SubL keep S → J xs m S → ItemsRest prog w A E h₀ env target body Q s ws keep (xs.map enc) m S
  | [], m, S, _, _, hj => fun h tk F N => done m S h tk F N hj
  | a :: r, m, S, hS, hks, hj => by
    intro v h tk ha F
    refine allObj_of fun its hits N => ?_
    have cy : Carry (ws.map (·.1)) iterCls S (its ++ S) := ⟨fun p hp _ => List.mem_append_right _ hp, fun p hp e => absurd e (hS p hp)⟩
    refine wpAny_mono (turn a r m v h tk (its ++ S) its ha F N hits (fun p hp => ?_) (up _ _ _ _ hj cy)) (fun _ s₂ h₂ => wpAny_mono h₂ (fun f s₃ h₃ => ?_) fun _ _ e => e) fun _ _ e => e
    · rcases List.mem_append.mp hp with hp | hp
      · exact List.mem_append_left _ hp
      · exact List.mem_append_right _ (hks.mem p hp)
    have := turned_post (keep := keep) (its := its) (Q := Q) (J := J r) (J' := J r) hits hcl (up r) hk h₃
    have off : ∀ n' : Led, (∀ p ∈ n', ∀ q ∈ its, p.1 ≠ q.1) → ∀ p ∈ n', p.1 ∉ ws.map (·.1) := fun n' ho p hp e => by
      obtain ⟨o, hq⟩ := objs_of hits e
      exact ho p hp _ hq rfl
    cases f with
    | ret v => exact this
    | brk => exact this
    | next =>
      obtain ⟨h', tk', m', n', e, F', N', hoff, hsub, hr⟩ := this
      exact ⟨h', tk', m', n', e, F', N', hoff, hsub, items_ind enc hcl hk J up turn done r m' n' (off n' hoff) hsub hr⟩
    | cont =>
      obtain ⟨h', tk', m', n', e, F', N', hoff, hsub, hr⟩ := this
      exact ⟨h', tk', m', n', e, F', N', hoff, hsub, items_ind enc hcl hk J up turn done r m' n' (off n' hoff) hsub hr⟩

theorem iter_L {l : Addr} {vs : List Value} {n : Nat} {m₀ : Str → Option Value} {news : Led} (J : List Value → (Str → Option Value) → Led → Prop)
    (hh : A.handled = none) (F : Fr h₀ env.locals s.heap m₀) (N : News h₀ env.locals s.heap news) (hm : (l, lstOf vs n) ∈ news) (h0 : J vs m₀ news)
    (up : ∀ I, (∀ p ∈ news, p.1 ∉ I) → ∀ r m S S', J r m S → Carry I iterCls S S' → J r m S')
    (turn : ∀ v r m₁ h tk S own, Fr h₀ env.locals h m₁ → News h₀ env.locals h S → (∀ p ∈ own, p ∈ S) → (∀ p ∈ own, IterNew news p ∨ p = (l, lstOf vs n)) → (l, lstOf vs n) ∈ own → J (v :: r) m₁ S →
      wpAny (model prog w) A (assign target env v) (fun _ s₂ => wpAny (model prog w) A (execs body env) (Turned h₀ env.locals { s with heap := h, toks := tk } own (J r) Q) E s₂) E { s with heap := h, toks := tk })
    (done : ∀ m₁ S h tk, Fr h₀ env.locals h m₁ → News h₀ env.locals h S → J [] m₁ S → Q .next { s with heap := h, toks := tk }) :
    wpAny (model prog w) A (pyIter (.ref l)) (fun it s₂ => TurnsAt prog w A h₀ env target body Q E it s₂) E s := by
  refine iter_listTurns hh F N hm rfl rfl fun I hlt => ?_
  have hne : ∀ p ∈ news, p.1 ∉ [(I, "list_iterator")].map (·.1) := fun p hp e => absurd (List.mem_singleton.mp e) (Nat.ne_of_lt (hlt p hp))
  refine items_ind (α := Value) Itm.val (fun x hx => by rw [List.mem_singleton.mp hx]; simp [iterCls]) (fun p hp => by rw [List.mem_singleton.mp hp]; exact hne _ hm) J (fun r m S S' hj c => up _ hne r m S S' hj c) ?_ done vs m₀ news hne ⟨hm, trivial⟩ h0
  intro a r m₁ v h tk S its ha F' N' hits hown hj
  have e : v = a := ha
  subst e
  refine turn v r m₁ h tk S _ F' N' hown (fun p hp => ?_) (by simp) hj
  rcases List.mem_append.mp hp with hp | hp
  · exact .inl ⟨fun q hq e => hne q hq (e ▸ (objs_at hits (fun x hx => by rw [List.mem_singleton.mp hx]; simp [iterCls]) p hp).1), (objs_at hits (fun x hx => by rw [List.mem_singleton.mp hx]; simp [iterCls]) p hp).2⟩
  · exact .inr (List.mem_singleton.mp hp)

theorem iter_T {l : Addr} {vs : List Value} {n : Nat} {m₀ : Str → Option Value} {news : Led} (J : List Value → (Str → Option Value) → Led → Prop)
    (hh : A.handled = none) (F : Fr h₀ env.locals s.heap m₀) (N : News h₀ env.locals s.heap news) (hm : (l, tupOf vs n) ∈ news) (h0 : J vs m₀ news)
    (up : ∀ I, (∀ p ∈ news, p.1 ∉ I) → ∀ r m S S', J r m S → Carry I iterCls S S' → J r m S')
    (turn : ∀ v r m₁ h tk S own, Fr h₀ env.locals h m₁ → News h₀ env.locals h S → (∀ p ∈ own, p ∈ S) → (∀ p ∈ own, IterNew news p ∨ p = (l, tupOf vs n)) → (l, tupOf vs n) ∈ own → J (v :: r) m₁ S →
      wpAny (model prog w) A (assign target env v) (fun _ s₂ => wpAny (model prog w) A (execs body env) (Turned h₀ env.locals { s with heap := h, toks := tk } own (J r) Q) E s₂) E { s with heap := h, toks := tk })
    (done : ∀ m₁ S h tk, Fr h₀ env.locals h m₁ → News h₀ env.locals h S → J [] m₁ S → Q .next { s with heap := h, toks := tk }) :
    wpAny (model prog w) A (pyIter (.ref l)) (fun it s₂ => TurnsAt prog w A h₀ env target body Q E it s₂) E s := by
  refine iter_tupTurns hh F N hm rfl rfl fun I hlt => ?_
  have hne : ∀ p ∈ news, p.1 ∉ [(I, "tuple_iterator")].map (·.1) := fun p hp e => absurd (List.mem_singleton.mp e) (Nat.ne_of_lt (hlt p hp))
  refine items_ind (α := Value) Itm.val (fun x hx => by rw [List.mem_singleton.mp hx]; simp [iterCls]) (fun p hp => by rw [List.mem_singleton.mp hp]; exact hne _ hm) J (fun r m S S' hj c => up _ hne r m S S' hj c) ?_ done vs m₀ news hne ⟨hm, trivial⟩ h0
  intro a r m₁ v h tk S its ha F' N' hits hown hj
  have e : v = a := ha
  subst e
  refine turn v r m₁ h tk S _ F' N' hown (fun p hp => ?_) (by simp) hj
  rcases List.mem_append.mp hp with hp | hp
  · exact .inl ⟨fun q hq e => hne q hq (e ▸ (objs_at hits (fun x hx => by rw [List.mem_singleton.mp hx]; simp [iterCls]) p hp).1), (objs_at hits (fun x hx => by rw [List.mem_singleton.mp hx]; simp [iterCls]) p hp).2⟩
  · exact .inr (List.mem_singleton.mp hp)

theorem iter_K {l : Addr} {lo : Obj} {vs : List Value} {n : Nat} {m₀ : Str → Option Value} {news : Led} (J : List Value → (Str → Option Value) → Led → Prop)
    (hh : A.handled = none) (F : Fr h₀ env.locals s.heap m₀) (N : News h₀ env.locals s.heap news) (hg : h₀.get? l = some lo) (hc : lo.cls = .type "list") (hd : lo.data = .seq vs.toArray n) (h0 : J vs m₀ news)
    (up : ∀ I, (∀ p ∈ news, p.1 ∉ I) → ∀ r m S S', J r m S → Carry I iterCls S S' → J r m S')
    (turn : ∀ v r m₁ h tk S own, Fr h₀ env.locals h m₁ → News h₀ env.locals h S → (∀ p ∈ own, p ∈ S) → (∀ p ∈ own, IterNew news p) → J (v :: r) m₁ S →
      wpAny (model prog w) A (assign target env v) (fun _ s₂ => wpAny (model prog w) A (execs body env) (Turned h₀ env.locals { s with heap := h, toks := tk } own (J r) Q) E s₂) E { s with heap := h, toks := tk })
    (done : ∀ m₁ S h tk, Fr h₀ env.locals h m₁ → News h₀ env.locals h S → J [] m₁ S → Q .next { s with heap := h, toks := tk }) :
    wpAny (model prog w) A (pyIter (.ref l)) (fun it s₂ => TurnsAt prog w A h₀ env target body Q E it s₂) E s := by
  have hax : s.heap.get? l = some lo := F.keep _ _ hg
  have hl : s.heap.IsList l vs.toArray := ⟨lo, hax, hc, n, hd⟩
  have hne : l ≠ s.heap.objs.size := Nat.ne_of_lt (Heap.lt_size hax)
  have hlt : ∀ p ∈ news, p.1 < s.heap.objs.size := fun p hp => Heap.lt_size (N p hp).1
  have hnI : ∀ p ∈ news, p.1 ∉ [(s.heap.objs.size, "list_iterator")].map (·.1) := fun p hp e => absurd (List.mem_singleton.mp e) (Nat.ne_of_lt (hlt p hp))
  have hcl : ∀ x ∈ [(s.heap.objs.size, "list_iterator")], x.2 ∈ iterCls := fun x hx => by rw [List.mem_singleton.mp hx]; simp [iterCls]
  have rest : ItemsRest prog w A E h₀ env target body Q s [(s.heap.objs.size, "list_iterator")] [] (vs.map .val) m₀ news := by
    refine items_ind (α := Value) Itm.val hcl (fun p hp => absurd hp List.not_mem_nil) J (fun r m S S' hj c => up _ hnI r m S S' hj c) ?_ done vs m₀ news hnI trivial h0
    intro a r m₁ v h tk S its ha F' N' hits hown hj
    have e : v = a := ha
    subst e
    refine turn v r m₁ h tk S _ F' N' hown (fun p hp => ?_) hj
    rw [List.append_nil] at hp
    exact ⟨fun q hq e => hnI q hq (e ▸ (objs_at hits hcl p hp).1), (objs_at hits hcl p hp).2⟩
  refine wpAny_pyIter_list hl ?_
  refine ktg_core (tk0 := s.toks) (keep := []) (KTurns.ofWalks (Walks.list hh s.heap.objs.size l hne vs.toArray) fun i v s Q E st q => letGo_listiter st.1 q) (by simp) (fun i v h hp => ⟨.val v, ?_, rfl⟩) (fun i h st => ?_) (fun b hb => ?_) (fun b hb => by simpa using hb) (fun b hb => ?_) ?_ (fun p hp hI => ?_) ?_ (F.push _) (fun p hp => ⟨Heap.get?_push_of_some _ (N p hp).1, (N p hp).2⟩) trivial rest
  · have hp' : vs.toArray[i]? = some v := hp
    simpa using hp'
  · obtain ⟨it, hit, hic, _⟩ := st.1
    exact ⟨[(s.heap.objs.size, it)], ⟨⟨rfl, hic⟩, trivial⟩, fun p hp => by rw [List.mem_singleton.mp hp]; exact hit⟩
  · have hb' : b = s.heap.objs.size := by simpa using hb
    rw [hb']
    exact ⟨List.mem_cons_self .., next_is_new F⟩
  · have hb' : b = s.heap.objs.size ∨ b = l := by simpa using hb
    rcases hb' with e | e
    · exact .inl (by simp [e])
    · exact .inr (.inr ⟨lo, by rw [e]; exact hg⟩)
  · intro hI
    rcases List.mem_cons.mp hI with e | hI
    · exact absurd F.ns.lt (e ▸ Nat.lt_irrefl _)
    · have e : env.locals = l := List.mem_singleton.mp hI
      exact absurd (Heap.lt_size hg) (Nat.not_lt.mpr (e ▸ F.above))
  · exact absurd (hlt p hp) ((List.mem_singleton.mp hI) ▸ Nat.lt_irrefl _)
  · exact ⟨⟨_, Heap.get?_push_size _ rfl, rfl, rfl⟩, hl.at fun o e => Heap.get?_push_of_some _ e⟩

theorem iter_KK {K : Frag} {l : Addr} {d : Option Addr} {sl : Array (Option Value)} {vs : List Value} {n : Nat} {m₀ : Str → Option Value} {news : Led} (J : List Value → (Str → Option Value) → Led → Prop)
    (hh : A.handled = none) (F : Fr h₀ env.locals s.heap m₀) (N : News h₀ env.locals s.heap news) (X : K.In h₀) (hg : K.lookup l = some ⟨.type "list", d, .seq vs.toArray n, sl⟩) (h0 : J vs m₀ news)
    (up : ∀ I, (∀ p ∈ news, p.1 ∉ I) → ∀ r m S S', J r m S → Carry I iterCls S S' → J r m S')
    (turn : ∀ v r m₁ h tk S own, Fr h₀ env.locals h m₁ → News h₀ env.locals h S → (∀ p ∈ own, p ∈ S) → (∀ p ∈ own, IterNew news p) → J (v :: r) m₁ S →
      wpAny (model prog w) A (assign target env v) (fun _ s₂ => wpAny (model prog w) A (execs body env) (Turned h₀ env.locals { s with heap := h, toks := tk } own (J r) Q) E s₂) E { s with heap := h, toks := tk })
    (done : ∀ m₁ S h tk, Fr h₀ env.locals h m₁ → News h₀ env.locals h S → J [] m₁ S → Q .next { s with heap := h, toks := tk }) :
    wpAny (model prog w) A (pyIter (.ref l)) (fun it s₂ => TurnsAt prog w A h₀ env target body Q E it s₂) E s :=
  iter_K J hh F N (X _ _ hg) rfl rfl h0 up turn done

theorem iter_E {elts : List Expr} {k : Nat} {pos : Pos} {l : Addr} {vs : List Value} {n : Nat} {m₀ : Str → Option Value} {news : Led} (J : Nat → List Value → (Str → Option Value) → Led → Prop)
    (hh : A.handled = none) (F : Fr h₀ env.locals s.heap m₀) (N : News h₀ env.locals s.heap news) (hm : (l, lstOf vs n) ∈ news) (h0 : J 0 vs m₀ news)
    (up : ∀ I, (∀ p ∈ news, p.1 ∉ I) → ∀ i r m S S', J i r m S → Carry I iterCls S S' → J i r m S')
    (turn : ∀ (i : Nat) v r m₁ T t h tk S own, IsTup h T #[.int (i : Int) t, v] → Fr h₀ env.locals h m₁ → News h₀ env.locals h S → (∀ p ∈ own, p ∈ S) → (∀ p ∈ own, IterNew news p ∨ p = (l, lstOf vs n)) → (l, lstOf vs n) ∈ own → J i (v :: r) m₁ S →
      wpAny (model prog w) A (assign (.Tuple elts k pos) env (.ref T)) (fun _ s₂ => wpAny (model prog w) A (execs body env) (Turned h₀ env.locals { s with heap := h, toks := tk } own (J (i + 1) r) Q) E s₂) E { s with heap := h, toks := tk })
    (done : ∀ i m₁ S h tk, Fr h₀ env.locals h m₁ → News h₀ env.locals h S → J i [] m₁ S → Q .next { s with heap := h, toks := tk }) :
    wpAny (model prog w) A (call (.type "enumerate") [.ref l]) (fun xv s₁ => wpAny (model prog w) A (pyIter xv) (fun it s₂ => TurnsAt prog w A h₀ env (.Tuple elts k pos) body Q E it s₂) E s₁) E s := by
  have pairs : ∀ (vs : List Value) (a : Nat), enumItems a vs = (vs.zipIdx a).map fun x => Itm.pair (fun t => .int (x.2 : Int) t) x.1 := by
    intro vs
    induction vs with
    | nil => intro a; rfl
    | cons v r ih => intro a; rw [enumItems, ih (a + 1), List.zipIdx_cons, List.map_cons]
  refine ktu_enum hh F N hm rfl rfl (pairs vs 0) fun I hlt => ?_
  have hne : ∀ p ∈ news, p.1 ∉ [(I + 1, "enumerate"), (I, "list_iterator")].map (·.1) := fun p hp e => by
    have := hlt p hp
    simp only [List.map_cons, List.map_nil, List.mem_cons, List.not_mem_nil, or_false] at e
    rcases e with e | e
    · exact absurd e (Nat.ne_of_lt (Nat.lt_succ_of_lt this))
    · exact absurd e (Nat.ne_of_lt this)
  have hcl : ∀ x ∈ [(I + 1, "enumerate"), (I, "list_iterator")], x.2 ∈ iterCls := fun x hx => by
    simp only [List.mem_cons, List.not_mem_nil, or_false] at hx
    rcases hx with rfl | rfl <;> simp [iterCls]
  refine items_ind (α := Value × Nat) _ hcl (fun p hp => by rw [List.mem_singleton.mp hp]; exact hne _ hm) (fun (xs : List (Value × Nat)) m S => ∃ (i : Nat) (r : List Value), xs = r.zipIdx i ∧ J i r m S)
    (fun r m S S' ⟨i, r', e, hj⟩ c => ⟨i, r', e, up _ hne i r' m S S' hj c⟩) ?_ ?_ _ m₀ news hne ⟨hm, trivial⟩ ⟨0, vs, rfl, h0⟩
  · rintro ⟨v, j⟩ xs m₁ _ h tk S its ⟨T, t, rfl, hT⟩ F' N' hits hown ⟨i, r, e, hj⟩
    cases r with
    | nil => cases e
    | cons v' r =>
      rw [List.zipIdx_cons] at e
      injection e with e1 e2
      injection e1 with e1 e3
      subst e1 e3
      refine wpAny_mono (turn j v r m₁ T t h tk S (its ++ [(l, lstOf vs n)]) hT F' N' hown (fun p hp => ?_) (by simp) hj) (fun _ s₂ h₂ => wpAny_mono h₂ (fun f s₃ h₃ => ?_) fun _ _ e => e) fun _ _ e => e
      · rcases List.mem_append.mp hp with hp | hp
        · exact .inl ⟨fun q hq e => hne q hq (e ▸ (objs_at hits hcl p hp).1), (objs_at hits hcl p hp).2⟩
        · exact .inr (List.mem_singleton.mp hp)
      · cases f with
        | ret v => exact h₃
        | brk => exact h₃
        | next =>
          obtain ⟨h', tk', m', S', e', F₁, N₁, ho', hj'⟩ := h₃
          exact ⟨h', tk', m', S', e', F₁, N₁, ho', j + 1, r, e2, hj'⟩
        | cont =>
          obtain ⟨h', tk', m', S', e', F₁, N₁, ho', hj'⟩ := h₃
          exact ⟨h', tk', m', S', e', F₁, N₁, ho', j + 1, r, e2, hj'⟩
  · rintro m₁ S h tk F' N' ⟨i, r, e, hj⟩
    cases r with
    | nil => exact done i m₁ S h tk F' N' hj
    | cons v r => rw [List.zipIdx_cons] at e; cases e

theorem iter_R {x : Str} {px : Pos} {r : Addr} {b₀ : Int} {t₀ u₀ v₀ : Tok} {n : Nat} {m₀ : Str → Option Value} {news : Led} (J : Nat → (Str → Option Value) → Led → Prop)
    (hh : A.handled = none) (hr : IsRange s.heap r 0 b₀ 1 t₀ u₀ v₀) (hsmall : Builtin.Range.small 0 b₀ 1 = true) (hsz : Builtin.Range.rangeSize 0 b₀ 1 = (n : Int)) (F : Fr h₀ env.locals s.heap m₀) (N : News h₀ env.locals s.heap news) (h0 : J 0 m₀ news)
    (up : ∀ I, (∀ p ∈ news, p.1 ∉ I) → ∀ r m S S', J r m S → Carry I iterCls S S' → J r m S')
    (turn : ∀ (i : Nat) t m₁ h tk S own, i < n → Fr h₀ env.locals h m₁ → News h₀ env.locals h S → (∀ p ∈ own, p ∈ S) → (∀ p ∈ own, IterNew news p) → J i m₁ S →
      wpAny (model prog w) A (assign (.Name x px) env (.int (i : Int) t)) (fun _ s₂ => wpAny (model prog w) A (execs body env) (Turned h₀ env.locals { s with heap := h, toks := tk } own (J (i + 1)) Q) E s₂) E { s with heap := h, toks := tk })
    (done : ∀ m₁ S h tk, Fr h₀ env.locals h m₁ → News h₀ env.locals h S → J n m₁ S → Q .next { s with heap := h, toks := tk }) :
    wpAny (model prog w) A (pyIter (.ref r)) (fun it s₂ => TurnsAt prog w A h₀ env (.Name x px) body Q E it s₂) E s := by
  refine wpAny_pyIter_range hr hsmall ?_
  have W := (Walks.range (prog := prog) (w := w) hh s.heap.objs.size 0 1 n).bound
  have hne : ∀ p ∈ news, p.1 ≠ s.heap.objs.size := fun p hp => Nat.ne_of_lt (Heap.lt_size (N p hp).1)
  have hcl : ∀ x ∈ [(s.heap.objs.size, "range_iterator")], x.2 ∈ iterCls := fun x hx => by rw [List.mem_singleton.mp hx]; simp [iterCls]
  have hne' : ∀ p ∈ news, p.1 ∉ [(s.heap.objs.size, "range_iterator")].map (·.1) := fun p hp e => hne p hp (List.mem_singleton.mp e)
  have hR : ItemsRest prog w A E h₀ env (.Name x px) body Q s [(s.heap.objs.size, "range_iterator")] [] ((List.range' 0 n).map fun (i : Nat) => Itm.tok fun t => .int (i : Int) t) m₀ news := by
    refine items_ind (α := Nat) (fun i => Itm.tok fun t => .int (i : Int) t) hcl (fun p hp => absurd hp (List.not_mem_nil)) (fun xs m S => ∃ i, xs = List.range' i (n - i) ∧ i ≤ n ∧ J i m S)
      (fun r m S S' ⟨i, e, hi, hj⟩ c => ⟨i, e, hi, up _ hne' i m S S' hj c⟩) ?_ ?_ _ _ _ hne' trivial ⟨0, rfl, Nat.zero_le _, h0⟩
    · rintro a r m₁ v h tk S its ⟨t, rfl⟩ F' N' hits hown ⟨i, e, hi, hj⟩
      have hlt : i < n := by
        rcases Nat.lt_or_ge i n with h | h
        · exact h
        · rw [show n - i = 0 by omega] at e
          cases e
      rw [show n - i = (n - (i + 1)) + 1 by omega, List.range'_succ] at e
      injection e with e1 e2
      subst e1
      refine wpAny_mono (turn a t m₁ h tk S (its ++ []) hlt F' N' hown (fun p hp => ?_) hj) (fun _ s₂ h₂ => wpAny_mono h₂ (fun f s₃ h₃ => ?_) fun _ _ e => e) fun _ _ e => e
      · rw [List.append_nil] at hp
        exact ⟨fun q hq e => hne' q hq (e ▸ (objs_at hits hcl p hp).1), (objs_at hits hcl p hp).2⟩
      · cases f with
        | ret v => exact h₃
        | brk => exact h₃
        | next =>
          obtain ⟨h', tk', m', S', e', F₁, N₁, ho', hj'⟩ := h₃
          exact ⟨h', tk', m', S', e', F₁, N₁, ho', a + 1, e2, hlt, hj'⟩
        | cont =>
          obtain ⟨h', tk', m', S', e', F₁, N₁, ho', hj'⟩ := h₃
          exact ⟨h', tk', m', S', e', F₁, N₁, ho', a + 1, e2, hlt, hj'⟩
    · rintro m₁ S h tk F' N' ⟨i, e, hi, hj⟩
      have : i = n := by
        have := congrArg List.length e
        simp at this
        omega
      subst this
      exact done m₁ S h tk F' N' hj
  refine ktu_core (tk0 := s.toks) (keep := []) (KTurns.ofWalks W fun i v s Q E st q => ?_) (by simp) (fun i v h hp => ?_) (fun i h st => ?_) (fun b hb => ?_) (fun b hb => by simpa using hb) (fun b hb => .inl (by simpa using hb)) ?_ (fun p hp hI => ?_) ?_ (F.push _) (fun p hp => ⟨Heap.get?_push_of_some _ (N p hp).1, (N p hp).2⟩) trivial hR
  · exact wpAny_pure q
  · obtain ⟨hi, t, rfl⟩ := hp
    refine ⟨.tok fun t => .int (i : Int) t, by simp [hi], t, ?_⟩
    rw [Int.mul_one, Int.zero_add]
  · exact ⟨[(s.heap.objs.size, _)], ⟨⟨rfl, rfl⟩, trivial⟩, fun p hp => by rw [List.mem_singleton.mp hp]; exact st⟩
  · have hb' : b = s.heap.objs.size := by simpa using hb
    rw [hb']
    exact ⟨List.mem_cons_self .., next_is_new F⟩
  · intro hm
    exact absurd F.ns.lt ((List.mem_singleton.mp hm) ▸ Nat.lt_irrefl _)
  · exact hne p hp (List.mem_singleton.mp hI)
  · show IsRangeIter _ _ _ _ _
    rw [hsz]
    simpa using Heap.get?_push_size _ rfl
theorem own_keep {h₀ h : Heap} {L lc : Addr} {S S' own news : Led} {vc : List Value} {k : Nat} (N : News h₀ L h S) (hl : (lc, lstOf vc k) ∈ S) (K : Kept lc S S') (ho : ∀ p ∈ own, p ∈ S) (hd : ∀ p ∈ own, IterNew news p) : ∀ p ∈ own, p ∈ S' := fun p hp => K p (ho p hp) fun e => by
  obtain ⟨a, o⟩ := p
  have e : a = lc := e
  subst e
  have := news_same N (ho _ hp) hl
  obtain ⟨c, hc, hcl⟩ := (hd _ hp).2
  rw [this] at hcl
  simp only [iterCls, List.mem_cons, List.not_mem_nil, or_false] at hc
  rcases hc with rfl | rfl | rfl | rfl <;> simp at hcl
theorem own_keepL {h₀ h : Heap} {L lc l : Addr} {S S' own news : Led} {vc vs : List Value} {k n : Nat} (N : News h₀ L h S) (hl : (lc, lstOf vc k) ∈ S) (K : Kept lc S S') (ho : ∀ p ∈ own, p ∈ S) (hd : ∀ p ∈ own, IterNew news p ∨ p = (l, lstOf vs n)) (hne : l ≠ lc) : ∀ p ∈ own, p ∈ S' := fun p hp => K p (ho p hp) fun e => by
  rcases hd p hp with h | h
  · obtain ⟨a, o⟩ := p
    have e : a = lc := e
    subst e
    have := news_same N (ho _ hp) hl
    obtain ⟨c, hc, hcl⟩ := h.2
    rw [this] at hcl
    simp only [iterCls, List.mem_cons, List.not_mem_nil, or_false] at hc
    rcases hc with rfl | rfl | rfl | rfl <;> simp at hcl
  · rw [h] at e
    exact hne e
end
end

-- LawDef4
section
structure RowS (news : Led) (b q : Addr) (z : Int) (tz : Tok) (m : Str → Option Value) (S : Led) (it tx : Addr) (its : List LIt) (txs : List String) : Prop where
  mb : m (Str.ofString "box") = some (.ref b)
  md : m (Str.ofString "deep") = some (.int z tz)
  mi : m (Str.ofString "items") = some (.ref it)
  mt : m (Str.ofString "texts") = some (.ref tx)
  hi : ∃ vi ni, (it, lstOf vi ni) ∈ S ∧ Rds S vi (its.map itD)
  ht : ∃ vt nt, (tx, lstOf vt nt) ∈ S ∧ Rds S vt (txs.map strD)
  bx : BoxIn S b q
  kb : KeptB b q news S
  fi : ∀ p ∈ news, p.1 ≠ it
  ft : ∀ p ∈ news, p.1 ≠ tx
  ne : it ≠ tx
  b0 : BoxIn news b q
section
variable {news S S' own : Led} {b q it tx : Addr} {z : Int} {tz : Tok} {m m' : Str → Option Value} {its : List LIt} {txs : List String} {h₀ h : Heap} {L : Addr}
theorem RowS.map (H : RowS news b q z tz m S it tx its txs) (e : ∀ y, y = Str.ofString "box" ∨ y = Str.ofString "deep" ∨ y = Str.ofString "items" ∨ y = Str.ofString "texts" → m' y = m y) : RowS news b q z tz m' S it tx its txs :=
  { H with mb := (e _ (.inl rfl)).trans H.mb, md := (e _ (.inr (.inl rfl))).trans H.md, mi := (e _ (.inr (.inr (.inl rfl)))).trans H.mi, mt := (e _ (.inr (.inr (.inr rfl)))).trans H.mt }
theorem RowS.sub (H : RowS news b q z tz m S it tx its txs) (hs : ∀ p ∈ S, p ∈ S') : RowS news b q z tz m S' it tx its txs := by
  obtain ⟨vi, ni, h1, h2⟩ := H.hi
  obtain ⟨vt, nt, h3, h4⟩ := H.ht
  exact { H with hi := ⟨vi, ni, hs _ h1, h2.sub hs⟩, ht := ⟨vt, nt, hs _ h3, h4.sub hs⟩, bx := H.bx.sub hs, kb := fun p hp e1 e2 => hs _ (H.kb p hp e1 e2) }
theorem RowS.call (H : RowS news b q z tz m S it tx its txs) (N : News h₀ L h S) (K : KeptB b q S S') (hb : BoxIn S' b q) : RowS news b q z tz m S' it tx its txs := by
  obtain ⟨vi, ni, h1, h2⟩ := H.hi
  obtain ⟨vt, nt, h3, h4⟩ := H.ht
  exact { H with hi := ⟨vi, ni, K.lst H.b0 H.fi h1, K.rds N H.bx h2⟩, ht := ⟨vt, nt, K.lst H.b0 H.ft h3, K.rds N H.bx h4⟩, bx := hb, kb := H.kb.trans K }
theorem RowS.addIt (H : RowS news b q z tz m S it tx its txs) (N : News h₀ L h S) {vi : List Value} {ni ni' : Nat} {T : Value} {i : LIt} (h1 : (it, lstOf vi ni) ∈ S) (h2 : Rds S vi (its.map itD)) (hT : Rd S T (itD i)) (K : Kept it S S') (h' : (it, lstOf (vi ++ [T]) ni') ∈ S') : RowS news b q z tz m S' it tx (its ++ [i]) txs := by
  obtain ⟨vt, nt, h3, h4⟩ := H.ht
  obtain ⟨seed, ts, n, vs, n2, hbm, hqm, r⟩ := H.bx
  obtain ⟨⟨o1, g1⟩, ⟨o2, g2⟩⟩ := H.b0.ats
  exact { H with hi := ⟨_, _, h', by rw [List.map_append]; exact (Kept.rdsL N h1 K h2).append (.cons (Kept.rdL N h1 K hT) .nil)⟩, ht := ⟨vt, nt, K _ h3 (Ne.symm H.ne), Kept.rdsL N h1 K h4⟩,
                 bx := ⟨seed, ts, n, vs, n2, K _ hbm (fun e => H.fi _ g1 e), K _ hqm (fun e => H.fi _ g2 e), r⟩, kb := fun p hp e1 e2 => K _ (H.kb p hp e1 e2) (H.fi p hp) }
theorem RowS.addTx (H : RowS news b q z tz m S it tx its txs) (N : News h₀ L h S) {vt : List Value} {nt nt' : Nat} {x : String} {t : Tok} (h1 : (tx, lstOf vt nt) ∈ S) (h2 : Rds S vt (txs.map strD)) (K : Kept tx S S') (h' : (tx, lstOf (vt ++ [.str (Str.ofString x) t]) nt') ∈ S') : RowS news b q z tz m S' it tx its (txs ++ [x]) := by
  obtain ⟨vi, ni, h3, h4⟩ := H.hi
  obtain ⟨seed, ts, n, vs, n2, hbm, hqm, r⟩ := H.bx
  obtain ⟨⟨o1, g1⟩, ⟨o2, g2⟩⟩ := H.b0.ats
  exact { H with ht := ⟨_, _, h', by rw [List.map_append]; exact (Kept.rdsL N h1 K h2).append (.cons (.str _ _) .nil)⟩, hi := ⟨vi, ni, K _ h3 H.ne, Kept.rdsL N h1 K h4⟩,
                 bx := ⟨seed, ts, n, vs, n2, K _ hbm (fun e => H.ft _ g1 e), K _ hqm (fun e => H.ft _ g2 e), r⟩, kb := fun p hp e1 e2 => K _ (H.kb p hp e1 e2) (H.ft p hp) }
theorem RowS.carry (H : RowS news b q z tz m S it tx its txs) {I : List Addr} (c : Carry I iterCls S S') (hn : ∀ p ∈ news, p.1 ∉ I) : RowS news b q z tz m S' it tx its txs := by
  obtain ⟨vi, ni, h1, h2⟩ := H.hi
  obtain ⟨vt, nt, h3, h4⟩ := H.ht
  obtain ⟨seed, ts, n, vs, n2, hbm, hqm, r⟩ := H.bx
  exact { H with hi := ⟨vi, ni, c.lst h1, c.rds h2⟩, ht := ⟨vt, nt, c.lst h3, c.rds h4⟩, bx := ⟨seed, ts, n, vs, n2, c.lst hbm, c.lst hqm, r⟩, kb := fun p hp e1 e2 => c.go _ (H.kb p hp e1 e2) (hn p hp) }
theorem RowS.start {D : Addr} {o : Obj} (_F : Fr h₀ L h m) (_N : News h₀ L h ((D, o) :: (tx, lstOf [] 0) :: (it, lstOf [] 0) :: news)) (hb : BoxIn news b q) (e1 : m (Str.ofString "box") = some (.ref b)) (e2 : m (Str.ofString "deep") = some (.int z tz)) (e3 : m (Str.ofString "items") = some (.ref it)) (e4 : m (Str.ofString "texts") = some (.ref tx))
    (fi : ∀ p ∈ news, p.1 ≠ it) (ft : ∀ p ∈ news, p.1 ≠ tx) (ne : it ≠ tx) : RowS news b q z tz m ((D, o) :: (tx, lstOf [] 0) :: (it, lstOf [] 0) :: news) it tx [] [] :=
  ⟨e1, e2, e3, e4, ⟨[], 0, .tail _ (.tail _ (.head _)), .nil⟩, ⟨[], 0, .tail _ (.head _), .nil⟩, hb.sub (fun p hp => .tail _ (.tail _ (.tail _ hp))), .of_sub (fun p hp => .tail _ (.tail _ (.tail _ hp))), fi, ft, ne, hb⟩
theorem own_keepB {N0 : Led} (N : News h₀ L h S) (hb : BoxIn S b q) (K : KeptB b q S S') (ho : ∀ p ∈ own, p ∈ S) (hd : ∀ p ∈ own, IterNew N0 p) : ∀ p ∈ own, p ∈ S' := fun p hp => by
  obtain ⟨seed, ts, n, vs, n2, hbm, hqm, r⟩ := hb
  have ne : ∀ {l : Addr} {vs : List Value} {n : Nat}, (l, lstOf vs n) ∈ S → p.1 ≠ l := fun hm e => by
    obtain ⟨a, o⟩ := p
    have e : a = _ := e
    subst e
    have := news_same N (ho _ hp) hm
    obtain ⟨c, hc, hcl⟩ := (hd _ hp).2
    rw [this] at hcl
    simp only [iterCls, List.mem_cons, List.not_mem_nil, or_false] at hc
    rcases hc with rfl | rfl | rfl | rfl <;> simp at hcl
  exact K p (ho p hp) (ne hbm) (ne hqm)
end
def RowP (O : List String → PyData → Prop) (txs : List String) (d : PyData) : Prop := ∃ n its, 1 ≤ n ∧ n ≤ 4 ∧ UnitsP O n its txs ∧ LSum its d
theorem UnitP.len {O : List String → PyData → Prop} {its txs} (h : UnitP O its txs) : its.length ≤ 2 := by
  cases h with
  | mk ah mk h => cases ah <;> simp
theorem UnitsP.len {O : List String → PyData → Prop} {n its txs} (h : UnitsP O n its txs) : its.length ≤ 3 * n := by
  induction h with
  | zero => simp
  | one h => have := h.len; omega
  | more _ _ h ih => have := h.len; simp only [List.length_append, List.length_cons] at *; omega
def RowJ (O : List String → PyData → Prop) (No : Nat) (news : Led) (b q : Addr) (z : Int) (tz : Tok) (i : Nat) (m : Str → Option Value) (S : Led) : Prop :=
  ∃ it tx its txs, RowS news b q z tz m S it tx its txs ∧ UnitsP O i its txs ∧ i ≤ 4 ∧ txs.length ≤ i * (No + 3)
def RowM (O : List String → PyData → Prop) (No : Nat) (news : Led) (b q : Addr) (z : Int) (tz : Tok) (i : Nat) (m : Str → Option Value) (S : Led) : Prop :=
  ∃ it tx its txs its0 txs0, RowS news b q z tz m S it tx its txs ∧ UnitsP O i its0 txs0 ∧ i ≤ 3 ∧ txs0.length ≤ i * (No + 3) ∧ ((i = 0 ∧ its = its0 ∧ txs = txs0) ∨ (0 < i ∧ ∃ s ∈ opL, its = its0 ++ [.sign (sgOf s)] ∧ txs = txs0 ++ [s]))
theorem size_R (n : Nat) : Builtin.Range.rangeSize 0 (n : Int) 1 = (n : Int) := by
  unfold Builtin.Range.rangeSize
  simp
  omega
theorem small_R (n : Nat) (h : n < 12) : Builtin.Range.small 0 (n : Int) 1 = true := by
  have : ∀ n : Nat, n < 12 → Builtin.Range.small 0 (n : Int) 1 = true := by decide
  exact this n h
theorem noI {news S : Led} {b q : Addr} {I : List Addr} (K : KeptB b q news S) (hb : BoxIn S b q) (hI : ∀ p ∈ S, p.1 ∉ I) : ∀ p ∈ news, p.1 ∉ I := fun p hp e => by
  obtain ⟨⟨o1, h1⟩, ⟨o2, h2⟩⟩ := hb.ats
  by_cases e1 : p.1 = b
  · exact hI _ h1 (e1 ▸ e)
  · by_cases e2 : p.1 = q
    · exact hI _ h2 (e2 ▸ e)
    · exact hI _ (K p hp e1 e2) e
def RowMid (P : (Str → Option Value) → Led → Prop) (g : Heap) (L : Addr) (own : Led) (s : Shared) (f : Flow) (s' : Shared) : Prop :=
  f = .next ∧ ∃ h' tk' m' S', s' = { s with heap := h', toks := tk' } ∧ Fr g L h' m' ∧ News g L h' S' ∧ (∀ p ∈ own, p ∈ S') ∧ P m' S'
theorem RowMid.of {P : (Str → Option Value) → Led → Prop} {g : Heap} {L : Addr} {own : Led} {s : Shared} {h' : Heap} {tk' : Nat} {m' : Str → Option Value} {S' : Led} (F : Fr g L h' m') (N : News g L h' S') (ho : ∀ p ∈ own, p ∈ S') (hP : P m' S') : RowMid P g L own s .next { s with heap := h', toks := tk' } :=
  ⟨rfl, h', tk', m', S', rfl, F, N, ho, hP⟩
def AhJ (news : Led) (b q : Addr) (z : Int) (tz : Tok) (it tx : Addr) (its : List LIt) (txs : List String) (own : Led) (j : Nat) (m : Str → Option Value) (S : Led) : Prop :=
  RowS news b q z tz m S it tx (its ++ List.replicate j .ahead) (txs ++ List.replicate j "-") ∧ ∀ p ∈ own, p ∈ S
theorem rep_one {α : Type} (l : List α) (j : Nat) (x : α) : l ++ List.replicate j x ++ [x] = l ++ List.replicate (j + 1) x := by
  rw [List.append_assoc, List.replicate_succ']
theorem fdiv_nat (k c : Nat) : (k : Int).fdiv (c : Int) = ((k / c : Nat) : Int) := by
  rw [Int.fdiv_eq_ediv_of_nonneg _ (by omega)]
  exact (Int.natCast_ediv k c).symm
theorem fold_rep (v : Value) : ∀ (j : Nat) (acc : Array Value), List.foldl (fun x1 x2 => x1 ++ x2) acc (List.replicate j #[v]) = acc ++ (List.replicate j v).toArray
  | 0, acc => by simp
  | j + 1, acc => by
    rw [List.replicate_succ, List.foldl_cons, fold_rep v j, List.replicate_succ, Array.append_assoc]
    congr 1
    apply Array.toList_inj.mp
    simp
theorem mul_mem {prog : Program} {w : World} {A : Around} {E : Value → Shared → Prop} {s : Shared} {h₀ : Heap} {L l : Addr} {m : Str → Option Value} {news : Led} {v : Value} {x : Int} {u : Tok} {Q : Value → Shared → Prop} (j : Nat) (hx : x = (j : Int)) (hj : j ≤ 1000) (F : Fr h₀ L s.heap m) (N : News h₀ L s.heap news) (hm : (l, lstOf [v] 0) ∈ news)
    (h : ∀ D h', Fr h₀ L h' m → News h₀ L h' ((D, lstOf (List.replicate j v) 0) :: news) → (∀ p ∈ news, p.1 < D) → Q (.ref D) { s with heap := h' }) : wpAny (model prog w) A (binaryOp .Mult (.ref l) (.int x u)) Q E s := by
  subst hx
  refine mul_list (items := #[v]) (k := 0) F N (N _ hm).1 (by omega) (by omega) (by simp; omega) fun h' F' N' => h _ h' F' ?_ fun p hp => Heap.lt_size (N p hp).1
  have e : List.foldl (fun x1 x2 => x1 ++ x2) #[] (List.replicate (if (#[v] : Array Value).isEmpty = true then 0 else ((j : Nat) : Int).toNat) #[v]) = (List.replicate j v).toArray := by
    rw [fold_rep]
    simp
  rw [e] at N'
  exact N'
def facN : Nat → PyData → PyData
  | 0, d => d
  | j + 1, d => dFac (facN j d)
def MkJ (news : Led) (b q : Addr) (z : Int) (tz : Tok) (it tx : Addr) (its : List LIt) (txs : List String) (own : Led) (tl : Addr) (tv : List Value) (n2 : Nat) (tx2 : List String) (d : PyData) (mk : Int) (tm : Tok) (j : Nat) (m : Str → Option Value) (S : Led) : Prop :=
  RowS news b q z tz m S it tx its txs ∧ (∀ p ∈ own, p ∈ S) ∧ m (Str.ofString "told") = some (.ref tl) ∧ m (Str.ofString "marks") = some (.int mk tm) ∧ (tl, lstOf tv n2) ∈ S ∧ Rds S tv (tx2.map strD) ∧ ∃ v, m (Str.ofString "term") = some v ∧ Rd S v (facN j d)
theorem unit_of {O : List String → PyData → Prop} {t : List String} {d : PyData} (hR : O t d) (a k : Nat) (ha : a ≤ 1) (hk : k ≤ 1) : UnitP O (List.replicate a .ahead ++ [.term (facN k d)]) (List.replicate a "-" ++ (t ++ List.replicate k "!")) := by
  have h1 : a = 0 ∨ a = 1 := by omega
  have h2 : k = 0 ∨ k = 1 := by omega
  rcases h1 with rfl | rfl <;> rcases h2 with rfl | rfl
  · exact UnitP.mk false false hR
  · exact UnitP.mk false true hR
  · exact UnitP.mk true false hR
  · exact UnitP.mk true true hR
theorem units_of {O : List String → PyData → Prop} {i : Nat} {its its0 u : List LIt} {txs txs0 ut : List String} (hu : UnitsP O i its0 txs0) (hor : (i = 0 ∧ its = its0 ∧ txs = txs0) ∨ (0 < i ∧ ∃ s ∈ opL, its = its0 ++ [.sign (sgOf s)] ∧ txs = txs0 ++ [s])) (hU : UnitP O u ut) : UnitsP O (i + 1) (its ++ u) (txs ++ ut) := by
  rcases hor with ⟨rfl, rfl, rfl⟩ | ⟨h0, s, hs, rfl, rfl⟩
  · cases hu
    exact .one hU
  · obtain ⟨n, rfl⟩ : ∃ n, i = n + 1 := ⟨i - 1, by omega⟩
    rw [List.append_assoc, List.append_assoc]
    exact .more hu hs hU
theorem RowJ.fin {O : List String → PyData → Prop} {No : Nat} {news S₉ R : Led} {b q it tx D : Addr} {z : Int} {tz : Tok} {i a k : Nat} {m m' : Str → Option Value} {its its0 : List LIt} {txs txs0 tx2 : List String} {d2 : PyData} {vt tv : List Value} {t1 : Tok}
    (H : RowS news b q z tz m S₉ it tx (its ++ List.replicate a .ahead ++ [.term (facN k d2)]) (txs ++ List.replicate a "-")) (hR : ∀ p ∈ S₉, p ∈ R) (hlt : ∀ p ∈ R, p.1 < D) (hrt : Rds S₉ vt ((txs ++ List.replicate a "-").map strD)) (hr2 : Rds S₉ tv (tx2.map strD))
    (hu : UnitsP O i its0 txs0) (hor : (i = 0 ∧ its = its0 ∧ txs = txs0) ∨ (0 < i ∧ ∃ s ∈ opL, its = its0 ++ [.sign (sgOf s)] ∧ txs = txs0 ++ [s])) (hO : O tx2 d2) (hn : tx2.length ≤ No) (ha : a ≤ 1) (hk : k ≤ 1) (hi : i ≤ 3) (hl : txs0.length ≤ i * (No + 3))
    (e1 : m' (Str.ofString "texts") = some (.ref D)) (e2 : ∀ y, y = Str.ofString "box" ∨ y = Str.ofString "deep" ∨ y = Str.ofString "items" → m' y = m y) : RowJ O No news b q z tz (i + 1) m' ((D, lstOf (vt ++ tv ++ List.replicate k (.str (Str.ofString "!") t1)) 0) :: R) := by
  have hU := units_of hu hor (unit_of hO a k ha hk)
  obtain ⟨vi, ni, hvi, rvi⟩ := H.hi
  have hrep : ∀ k : Nat, Rds S₉ (List.replicate k (.str (Str.ofString "!") t1)) ((List.replicate k "!").map strD) := by
    intro k
    induction k with
    | zero => exact .nil
    | succ k ih => exact .cons (.str _ _) ih
  refine ⟨it, D, its ++ (List.replicate a .ahead ++ [.term (facN k d2)]), txs ++ (List.replicate a "-" ++ (tx2 ++ List.replicate k "!")), ?_, hU, by omega, ?_⟩
  · have hb := H.bx.sub hR
    have hkb : KeptB b q news R := fun p hp h1 h2 => hR _ (H.kb p hp h1 h2)
    exact { mb := (e2 _ (.inl rfl)).trans H.mb, md := (e2 _ (.inr (.inl rfl))).trans H.md, mi := (e2 _ (.inr (.inr rfl))).trans H.mi, mt := e1,
            hi := ⟨vi, ni, .tail _ (hR _ hvi), by rw [← List.append_assoc]; exact rvi.sub fun p hp => .tail _ (hR _ hp)⟩,
            ht := ⟨_, _, .head _, by
              rw [← List.append_assoc, ← List.append_assoc, List.map_append, List.map_append]
              exact ((hrt.append hr2).append (hrep k)).sub fun p hp => .tail _ (hR _ hp)⟩,
            bx := hb.sub fun p hp => .tail _ hp, kb := fun p hp h1 h2 => .tail _ (hkb p hp h1 h2), fi := H.fi, ft := fresh_box0 hkb hb hlt, ne := Nat.ne_of_lt (hlt _ (hR _ hvi)), b0 := H.b0 }
  · have h2 : (i + 1) * (No + 3) = i * (No + 3) + (No + 3) := Nat.succ_mul _ _
    rcases hor with ⟨rfl, rfl, rfl⟩ | ⟨_, s, _, rfl, rfl⟩ <;> simp only [List.length_append, List.length_replicate, List.length_cons, List.length_nil] at * <;> omega
abbrev cod (s : String) : List Nat := (Str.ofString s).cps.toList
abbrev fillL : List String := [" ", "\n", "/* - */", " \t", " "]
abbrev pieceL : List String := ["x", "y_1", "%o2", "0", "7", "120", "100000000000000000000", "(", ")", "f", ",", "[", "=", "]", "g", "+", "-", "*", "/", "^", "**", "!"]
def wr : List String → List String → List Nat
  | t :: ts, f :: fs => cod t ++ cod f ++ wr ts fs
  | _, _ => []
theorem wr_snoc : ∀ (ts fs : List String) (t f : String), ts.length = fs.length → wr (ts ++ [t]) (fs ++ [f]) = wr ts fs ++ (cod t ++ cod f)
  | [], [], t, f, _ => by simp [wr]
  | a :: ts, b :: fs, t, f, h => by
    have := wr_snoc ts fs t f (by simpa using h)
    simp only [List.cons_append, wr, this, List.append_assoc]
  | [], _ :: _, _, _, h => by simp at h
  | _ :: _, [], _, _, h => by simp at h
theorem piece_len : ∀ t ∈ pieceL, (Str.ofString t).length ≤ 21 := by decide
theorem str_add (x y : Str) : (x ++ y).cps.toList = x.cps.toList ++ y.cps.toList := by
  first | rfl | (show (x.cps ++ y.cps).toList = _; simp)
theorem str_add_len (x y : Str) : (x ++ y).length = x.length + y.length := by
  have := congrArg List.length (str_add x y)
  simpa [Str.length] using this
def WrJ (news : Led) (b q : Addr) (txs : List String) (r : List Value) (m : Str → Option Value) (S : Led) : Prop :=
  ∃ (x : Str) (tk : Tok) (fs dn rest : List String), m (Str.ofString "found") = some (.str x tk) ∧ m (Str.ofString "box") = some (.ref b) ∧ dn.length = fs.length ∧ (∀ f ∈ fs, f ∈ fillL) ∧ x.cps.toList = wr dn fs ∧ dn ++ rest = txs ∧ Rds S r (rest.map strD) ∧ BoxIn S b q ∧ KeptB b q news S ∧ x.length ≤ 28 * dn.length
theorem own_keepBL {h₀ h : Heap} {L b q l : Addr} {S S' own N0 : Led} {vs : List Value} {n : Nat} (N : News h₀ L h S) (hb : BoxIn S b q) (K : KeptB b q S S') (ho : ∀ p ∈ own, p ∈ S) (hd : ∀ p ∈ own, IterNew N0 p ∨ p = (l, lstOf vs n)) (h1 : l ≠ b) (h2 : l ≠ q) : ∀ p ∈ own, p ∈ S' := fun p hp => by
  rcases hd p hp with h | h
  · exact own_keepB (own := [p]) N hb K (fun r hr => by rw [List.mem_singleton.mp hr]; exact ho p hp) (fun r hr => by rw [List.mem_singleton.mp hr]; exact h) p (.head _)
  · exact K p (ho p hp) (by rw [h]; exact h1) (by rw [h]; exact h2)
end

-- L1
section
theorem law_minus_tells (w : World) (news : Led) (v : Value) (d : PyData) (hv : Rd news v d) :
   Tells w 345 1 3 news [v] (fun news' r => (∀ p ∈ news, p ∈ news') ∧ Rd news' r (dNeg d)) noEr := by
  k_dflt (refine' enter [(Str.ofString "term", v)] ?k6 ?k7 ?k8 ?k9 ?c1 ?c2 ?c3 ?c4 (by decide) (by decide) ?_; ((case k6 => k_is); (case k7 => k_is); (case k8 => exact rfl); (case k9 => exact rfl); (case c1 => exact rfl); (case c2 => exact rfl); (case c3 => exact rfl); (case c4 => decide)))
  intro dp un gd outer mean mg mb A₀ base g L s Q E B F X N T lv hdp hun ret er hE
  fail "go"
  try dsimp only
  exact ret (.ret _) _ _ _ _ (by assumption) (by assumption) (⟨by fail "sub", by fail "rd"⟩)
theorem law_pow_tells (w : World) : ∀ (its : List LIt) (d : PyData), LPow its d → ∀ (news : Led) (l : Addr) (vs : List Value) (n : Nat), (l, lstOf vs n) ∈ news → Rds news vs (its.map itD) → its.length ≤ 1000 →
   Tells w 366 (its.length + 2) (4 * its.length + 10) news [.ref l] (fun news' r => (∀ p ∈ news, p ∈ news') ∧ Rd news' r d) noEr := by
  intro its d hP
  induction hP with
  | @ahead r0 d0 hP ih =>
    intro news l vs n hl hrs hlen
    obtain ⟨v0, vs', rfl⟩ : ∃ v0 vs', vs = v0 :: vs' := by cases hrs; exact ⟨_, _, rfl⟩
    obtain ⟨h0, hr⟩ : Rd news v0 (itD .ahead) ∧ Rds news vs' (r0.map itD) := by cases hrs with | cons a b => exact ⟨a, b⟩
    obtain ⟨a, t0, v1, n1, rfl, ha, hv1⟩ := it_open h0
    dsimp only [itK, itV] at ha hv1
    have hx0 : (Value.ref a :: vs')[(0 : Int).toNat]? = some (.ref a) := rfl
    have hvl := hr.length
    simp only [List.length_cons, List.length_map] at hlen hvl
    have hz : (Value.ref a :: vs').length ≤ 2 ^ 20 := by simp only [List.length_cons]; omega
    k_dflt (refine' enter [(Str.ofString "items", .ref l)] ?k6 ?k7 ?k8 ?k9 ?c1 ?c2 ?c3 ?c4 (by (simp only [List.length_cons]; omega)) (by (simp only [List.length_cons]; omega)) ?_; ((case k6 => k_is); (case k7 => k_is); (case k8 => exact rfl); (case k9 => exact rfl); (case c1 => exact rfl); (case c2 => exact rfl); (case c3 => exact rfl); (case c4 => decide)))
    intro dp un gd outer mean mg mb A₀ base g L s Q E B F X N T lv hdp hun ret er hE
    simp only [List.length_cons] at hdp hun
    fail "go"
    try dsimp only
    fail "gen"; refine' Tells.use ?tt1 B ?cf1 X ?cn1 T rfl ?cd1 ?cu1 ?ok1 ?er1; (case cf1 => assumption); (case cn1 => assumption); (case tt1 => exact ih _ _ _ _ (List.Mem.head _) (hr.sub (by fail "sub")) (by omega)); (case cd1 => first | exact bud hdp (by decide) | exact bud hdp (by omega) | omega); (case cu1 => first | exact bud3 hun (by decide) | exact bud3 hun (by omega) | omega); (try (case er1 => exact fun _ _ _ _ _ _ _ _ _ h => h.elim))
    intro r news₁ h₁ tk₁ F₁ N₁ hJJ; obtain ⟨hs₁, hr₁⟩ := hJJ
    try dsimp only
    fail "go"
    try dsimp only
    fail "gen"; refine' Tells.use ?tt2 B ?cf2 X ?cn2 T rfl ?cd2 ?cu2 ?ok2 ?er2; (case cf2 => assumption); (case cn2 => assumption); (case tt2 => exact law_minus_tells w _ _ _ hr₁); (case cd2 => first | exact bud hdp (by decide) | exact bud hdp (by omega) | omega); (case cu2 => first | exact bud3 hun (by decide) | exact bud3 hun (by omega) | omega); (try (case er2 => exact fun _ _ _ _ _ _ _ _ _ h => h.elim))
    intro r₂ news₂ h₂ tk₂ F₂ N₂ hJJ; obtain ⟨hs₂, hr₂⟩ := hJJ
    try dsimp only
    fail "go"
    try dsimp only
    exact ret (.ret _) _ _ _ _ (by assumption) (by assumption) (⟨fun p hp => hs₂ _ (hs₁ _ (.tail _ hp)), hr₂⟩)
  | @one d0 =>
    intro news l vs n hl hrs hlen
    obtain ⟨v0, rfl⟩ : ∃ v0, vs = [v0] := by
      cases hrs with | cons a b => cases b; exact ⟨_, rfl⟩
    obtain ⟨h0, _⟩ : Rd news v0 (itD (.term d0)) ∧ True := by cases hrs with | cons a b => exact ⟨a, trivial⟩
    obtain ⟨a, t0, v1, n1, rfl, ha, hv1⟩ := it_open h0
    dsimp only [itK, itV] at ha hv1
    have hx0 : [Value.ref a][(0 : Int).toNat]? = some (.ref a) := rfl
    have hz : [Value.ref a].length ≤ 2 ^ 20 := by show 1 ≤ 2 ^ 20; decide
    have hz1 : [Value.ref a].length = 1 := rfl
    k_dflt (refine' enter [(Str.ofString "items", .ref l)] ?k6 ?k7 ?k8 ?k9 ?c1 ?c2 ?c3 ?c4 (by (simp only [List.length_cons]; omega)) (by (simp only [List.length_cons]; omega)) ?_; ((case k6 => k_is); (case k7 => k_is); (case k8 => exact rfl); (case k9 => exact rfl); (case c1 => exact rfl); (case c2 => exact rfl); (case c3 => exact rfl); (case c4 => decide)))
    intro dp un gd outer mean mg mb A₀ base g L s Q E B F X N T lv hdp hun ret er hE
    simp only [List.length_cons] at hdp hun
    fail "go"
    try dsimp only
    all_goals first | (exfalso; simp only [List.length_cons, List.length_nil] at *; omega) | skip
    exact ret (.ret _) _ _ _ _ (by assumption) (by assumption) (⟨by fail "sub", hv1⟩)
  | @pow d0 s0 r0 e0 hP ih =>
    intro news l vs n hl hrs hlen
    obtain ⟨v0, v2, vs', rfl⟩ : ∃ v0 v2 vs', vs = v0 :: v2 :: vs' := by
      cases hrs with | cons a b => cases b; exact ⟨_, _, _, rfl⟩
    obtain ⟨h0, hr⟩ : Rd news v0 (itD (.term d0)) ∧ Rds news vs' (r0.map itD) := by cases hrs with | cons a b => cases b with | cons b c => exact ⟨a, c⟩
    obtain ⟨a, t0, v1, n1, rfl, ha, hv1⟩ := it_open h0
    dsimp only [itK, itV] at ha hv1
    have hx0 : (Value.ref a :: v2 :: vs')[(0 : Int).toNat]? = some (.ref a) := rfl
    have hvl := hr.length
    simp only [List.length_cons, List.length_map] at hlen hvl
    have hz : (Value.ref a :: v2 :: vs').length ≤ 2 ^ 20 := by simp only [List.length_cons]; omega
    have hz1 : ¬ ((((Value.ref a :: v2 :: vs').length : Nat) : Int) = 1) := by simp only [List.length_cons]; omega
    k_dflt (refine' enter [(Str.ofString "items", .ref l)] ?k6 ?k7 ?k8 ?k9 ?c1 ?c2 ?c3 ?c4 (by (simp only [List.length_cons]; omega)) (by (simp only [List.length_cons]; omega)) ?_; ((case k6 => k_is); (case k7 => k_is); (case k8 => exact rfl); (case k9 => exact rfl); (case c1 => exact rfl); (case c2 => exact rfl); (case c3 => exact rfl); (case c4 => decide)))
    intro dp un gd outer mean mg mb A₀ base g L s Q E B F X N T lv hdp hun ret er hE
    simp only [List.length_cons] at hdp hun
    fail "go"
    try dsimp only
    all_goals first | (exfalso; simp only [List.length_cons, List.length_nil] at *; omega) | skip
    fail "gen"; refine' Tells.use ?tt3 B ?cf3 X ?cn3 T rfl ?cd3 ?cu3 ?ok3 ?er3; (case cf3 => assumption); (case cn3 => assumption); (case tt3 => exact ih _ _ _ _ (List.Mem.head _) (hr.sub (by fail "sub")) (by omega)); (case cd3 => first | exact bud hdp (by decide) | exact bud hdp (by omega) | omega); (case cu3 => first | exact bud3 hun (by decide) | exact bud3 hun (by omega) | omega); (try (case er3 => exact fun _ _ _ _ _ _ _ _ _ h => h.elim))
    intro r news₁ h₁ tk₁ F₁ N₁ hJJ; obtain ⟨hs₁, hr₁⟩ := hJJ
    try dsimp only
    fail "go"
    try dsimp only
    have hs₁' : ∀ p ∈ news, p ∈ news₁ := fun p hp => hs₁ _ (.tail _ hp)
    clear hs₁
    exact ret (.ret _) _ _ _ _ (by assumption) (by assumption) (⟨by fail "sub", by fail "rd"⟩)
end

-- L2
section
structure SplI (news : Led) (l q : Addr) (its : List LIt) (p : Str → Bool) (r : List Value) (m : Str → Option Value) (S : Led) (R Bt lc : Addr) (ls : List Addr) (k1 k2 k3 : Nat) (vc bv : List Value) (done : List (List LIt)) (cur : List LIt) (bt : List Str) (rest : List LIt) : Prop where
  mr : m (Str.ofString "rows") = some (.ref R)
  mb : m (Str.ofString "between") = some (.ref Bt)
  ms : m (Str.ofString "signs") = some (.ref q)
  hR : (R, lstOf (ls.map Value.ref ++ [.ref lc]) k1) ∈ S
  hB : (Bt, lstOf bv k3) ∈ S
  hc : (lc, lstOf vc k2) ∈ S
  rc : Rds S vc (cur.map itD)
  rb : Rds S bv (bt.map PyData.str)
  sg : SegsAt S ls done
  nd : R ≠ Bt ∧ R ≠ lc ∧ Bt ≠ lc ∧ R ∉ ls ∧ Bt ∉ ls ∧ lc ∉ ls
  fr : ∀ p ∈ news, p.1 ≠ R ∧ p.1 ≠ Bt ∧ p.1 ≠ lc
  lin : ∃ o, (l, o) ∈ news
  lne : l ≠ lc
  hs : ∀ p ∈ news, p ∈ S
  rr : Rds S r (rest.map itD)
  sp : splitGo p done cur bt rest = splitGo p [] [] [] its
  b1 : done.length + rest.length ≤ 1000
  b2 : cur.length + rest.length ≤ 1000
  b3 : bt.length + rest.length ≤ 1000
def SplJ (news : Led) (l q : Addr) (its : List LIt) (p : Str → Bool) (r : List Value) (m : Str → Option Value) (S : Led) : Prop :=
  ∃ R Bt lc ls k1 k2 k3 vc bv done cur bt rest, SplI news l q its p r m S R Bt lc ls k1 k2 k3 vc bv done cur bt rest
theorem SplI.push {news : Led} {l q : Addr} {its : List LIt} {p : Str → Bool} {v : Value} {r : List Value} {m m' : Str → Option Value} {S S' : Led} {R Bt lc : Addr} {ls : List Addr} {k1 k2 k3 : Nat} {vc bv : List Value} {done : List (List LIt)} {cur : List LIt} {bt : List Str} {i : LIt} {rest' : List LIt}
    {h₀ h : Heap} {L T : Addr} {t0 : Tok} {v1 : Value} {nn k' : Nat} (H : SplI news l q its p (v :: r) m S R Bt lc ls k1 k2 k3 vc bv done cur bt (i :: rest')) (hr : Rds S r (rest'.map itD)) (Np : News h₀ L h ((T, tupOf [.str (Str.ofString (itK i)) t0, v1] nn) :: S)) (hv1 : Rd S v1 (itV i))
    (K : Kept lc ((T, tupOf [.str (Str.ofString (itK i)) t0, v1] nn) :: S) S') (hc₃ : (lc, lstOf (vc ++ [.ref T]) k') ∈ S') (hsp : splitGo p done (cur ++ [i]) bt rest' = splitGo p done cur bt (i :: rest'))
    (e1 : m' (Str.ofString "rows") = m (Str.ofString "rows")) (e2 : m' (Str.ofString "between") = m (Str.ofString "between")) (e3 : m' (Str.ofString "signs") = m (Str.ofString "signs")) : SplJ news l q its p r m' S' := by
  have hc' := mem_tailN Np H.hc
  refine ⟨R, Bt, lc, ls, k1, k', k3, vc ++ [.ref T], bv, done, cur ++ [i], bt, rest', ?_⟩
  exact { mr := e1.trans H.mr, mb := e2.trans H.mb, ms := e3.trans H.ms, hR := K _ (.tail _ H.hR) H.nd.2.1, hB := K _ (.tail _ H.hB) H.nd.2.2.1, hc := hc₃,
          rc := by
            rw [List.map_append]
            refine (Kept.rdsL Np hc' K (H.rc.sub (fun p hp => .tail _ hp))).append (.cons ?_ .nil)
            rw [itD_eq]
            exact Kept.rdL Np hc' K (.tup (.head _) (.cons (.str _ _) (.cons (hv1.sub (fun p hp => .tail _ hp)) .nil)))
          rb := Kept.rdsL Np hc' K (H.rb.sub (fun p hp => .tail _ hp)),
          sg := (H.sg.mono (fun _ _ _ _ h => .tail _ h) (fun p hp _ => .tail _ hp)).kept Np hc' K H.nd.2.2.2.2.2, nd := H.nd, fr := H.fr, lin := H.lin, lne := H.lne,
          hs := fun p hp => K _ (.tail _ (H.hs p hp)) (H.fr p hp).2.2, rr := Kept.rdsL Np hc' K (hr.sub (fun p hp => .tail _ hp)), sp := hsp.trans H.sp,
          b1 := by have := H.b1; simp only [List.length_cons] at this; omega, b2 := by have := H.b2; simp only [List.length_cons, List.length_append, List.length_nil] at this ⊢; omega, b3 := by have := H.b3; simp only [List.length_cons] at this; omega }
theorem SplI.cut {news : Led} {l q : Addr} {its : List LIt} {p : Str → Bool} {v : Value} {r : List Value} {m m' : Str → Option Value} {S S' S'' : Led} {R Bt lc lc' : Addr} {ls : List Addr} {k1 k2 k3 : Nat} {vc bv : List Value} {done : List (List LIt)} {cur : List LIt} {bt : List Str} {sx : Str} {rest' : List LIt}
    {h₀ h h' : Heap} {L : Addr} {t0 : Tok} {k' k'' : Nat} (H : SplI news l q its p (v :: r) m S R Bt lc ls k1 k2 k3 vc bv done cur bt (.sign sx :: rest')) (hr : Rds S r (rest'.map itD)) (Np : News h₀ L h ((lc', lstOf [] 0) :: S)) (hlt : ∀ p ∈ S, p.1 < lc')
    (K : Kept R ((lc', lstOf [] 0) :: S) S') (hR₃ : (R, lstOf (ls.map Value.ref ++ [.ref lc] ++ [.ref lc']) k') ∈ S') (Np' : News h₀ L h' S') (K' : Kept Bt S' S'') (hB₃ : (Bt, lstOf (bv ++ [.str sx t0]) k'') ∈ S'')
    (hsp : splitGo p (done ++ [cur]) [] (bt ++ [sx]) rest' = splitGo p done cur bt (.sign sx :: rest'))
    (e1 : m' (Str.ofString "rows") = m (Str.ofString "rows")) (e2 : m' (Str.ofString "between") = m (Str.ofString "between")) (e3 : m' (Str.ofString "signs") = m (Str.ofString "signs")) : SplJ news l q its p r m' S'' := by
  have hR' := mem_tailN Np H.hR
  have nR : R < lc' := hlt _ H.hR
  have nB : Bt < lc' := hlt _ H.hB
  have nC : lc < lc' := hlt _ H.hc
  have hB₂ : (Bt, lstOf bv k3) ∈ S' := K _ (.tail _ H.hB) (Ne.symm H.nd.1)
  have lsS : ∀ x ∈ ls, ∃ o, (x, o) ∈ S := by
    have : ∀ {ls : List Addr} {segs : List (List LIt)}, SegsAt S ls segs → ∀ x ∈ ls, ∃ o, (x, o) ∈ S := by
      intro ls segs h
      induction h with
      | nil => intro x hx; cases hx
      | cons hm _ _ ih =>
        intro x hx
        rcases List.mem_cons.mp hx with rfl | hx
        · exact ⟨_, hm⟩
        · exact ih x hx
    exact this H.sg
  have sgS : SegsAt S (ls ++ [lc]) (done ++ [cur]) := H.sg.append (.cons H.hc H.rc .nil)
  have nRl : R ∉ ls ++ [lc] := by
    intro h
    rcases List.mem_append.mp h with h | h
    · exact H.nd.2.2.2.1 h
    · exact H.nd.2.1 (List.mem_singleton.mp h)
  have nBl : Bt ∉ ls ++ [lc] := by
    intro h
    rcases List.mem_append.mp h with h | h
    · exact H.nd.2.2.2.2.1 h
    · exact H.nd.2.2.1 (List.mem_singleton.mp h)
  have sg1 := (sgS.mono (S' := (lc', lstOf [] 0) :: S) (fun _ _ _ _ h => .tail _ h) (fun p hp _ => .tail _ hp)).kept Np hR' K nRl
  refine ⟨R, Bt, lc', ls ++ [lc], k', 0, k'', [], bv ++ [.str sx t0], done ++ [cur], [], bt ++ [sx], rest', ?_⟩
  exact { mr := e1.trans H.mr, mb := e2.trans H.mb, ms := e3.trans H.ms, hR := K' _ (by rw [List.map_append]; exact hR₃) H.nd.1, hB := hB₃, hc := K' _ (K _ (.head _) (Nat.ne_of_gt nR)) (Nat.ne_of_gt nB),
          rc := .nil,
          rb := by
            rw [List.map_append]
            exact (Kept.rdsL Np' hB₂ K' (Kept.rdsL Np hR' K (H.rb.sub (fun p hp => .tail _ hp)))).append (.cons (.str _ _) .nil)
          sg := sg1.kept Np' hB₂ K' nBl,
          nd := ⟨H.nd.1, Nat.ne_of_lt nR, Nat.ne_of_lt nB, nRl, nBl, fun h => by
            rcases List.mem_append.mp h with h | h
            · obtain ⟨o, ho⟩ := lsS _ h
              exact absurd (hlt _ ho) (Nat.lt_irrefl _)
            · exact absurd nC ((List.mem_singleton.mp h) ▸ Nat.lt_irrefl _)⟩,
          fr := fun p hp => ⟨(H.fr p hp).1, (H.fr p hp).2.1, Nat.ne_of_lt (hlt _ (H.hs p hp))⟩, lin := H.lin,
          lne := by
            obtain ⟨o, ho⟩ := H.lin
            exact Nat.ne_of_lt (hlt _ (H.hs _ ho))
          hs := fun p hp => K' _ (K _ (.tail _ (H.hs p hp)) (H.fr p hp).1) (H.fr p hp).2.1, rr := Kept.rdsL Np' hB₂ K' (Kept.rdsL Np hR' K (hr.sub (fun p hp => .tail _ hp))), sp := hsp.trans H.sp,
          b1 := by have := H.b1; simp only [List.length_cons, List.length_append, List.length_nil] at this ⊢; omega, b2 := by have := H.b2; simp only [List.length_cons, List.length_nil] at this ⊢; omega, b3 := by have := H.b3; simp only [List.length_cons, List.length_append, List.length_nil] at this ⊢; omega }
theorem law_split_tells (w : World) (news : Led) (l q : Addr) (vs : List Value) (n nq : Nat) (its : List LIt) (s1 s2 : String) (t1 t2 : Tok) (hl : (l, lstOf vs n) ∈ news) (hrs : Rds news vs (its.map itD)) (hlen : its.length ≤ 1000)
    (hq : (q, lstOf [.str (Str.ofString s1) t1, .str (Str.ofString s2) t2] nq) ∈ news) :
   Tells w 338 1 10 news [.ref l, .ref q] (fun news' r => ∃ T R Bt ls bv k1 k2 k3 segs bt, r = .ref T ∧ (∀ p ∈ news, p ∈ news') ∧ (T, tupOf [.ref R, .ref Bt] k1) ∈ news' ∧ (R, lstOf (ls.map Value.ref) k2) ∈ news' ∧ (Bt, lstOf bv k3) ∈ news' ∧ SegsAt news' ls segs ∧ Rds news' bv (bt.map PyData.str) ∧
     splitGo (sgB s1 s2) [] [] [] its = (segs, bt) ∧ segs.length ≤ 1001 ∧ bt.length ≤ 1000 ∧ (∀ p ∈ news, p.1 ≠ R ∧ p.1 ≠ Bt)) noEr := by
  k_dflt (refine' enter [(Str.ofString "items", .ref l), (Str.ofString "signs", .ref q)] ?k6 ?k7 ?k8 ?k9 ?c1 ?c2 ?c3 ?c4 (by decide) (by decide) ?_; ((case k6 => k_is); (case k7 => k_is); (case k8 => exact rfl); (case k9 => exact rfl); (case c1 => exact rfl); (case c2 => exact rfl); (case c3 => exact rfl); (case c4 => decide)))
  intro dp un gd outer mean mg mb A₀ base g L s Q E B F X N T lv hdp hun ret er hE
  fail "go"
  try dsimp only
  refine For_turns (by assumption) ?_ (by intro _; rfl) hE
  fail "go"
  try dsimp only
  rename_i lc hA a1 R hB' a2 Bt hC a3 D hD a4 hE1 hE2 hE3 F' N'
  have hlt : ∀ p ∈ news, p.1 < lc := a1
  refine iter_L (SplJ news l q its (sgB s1 s2)) rfl (by assumption) (by assumption) (.tail _ (.tail _ (.tail _ (.tail _ hl)))) ?h0 ?up ?turn ?done
  case h0 =>
    refine ⟨R, Bt, lc, [], 0, 0, 0, [], [], [], [], [], its, ?_⟩
    have e1 : lc < R := a2.1
    have e2 : R < Bt ∧ lc < Bt := ⟨a3.1, a3.2.1⟩
    exact { mr := rfl, mb := rfl, ms := rfl, hR := .tail _ (.tail _ (.head _)), hB := .tail _ (.head _), hc := .tail _ (.tail _ (.tail _ (.head _))), rc := .nil, rb := .nil, sg := .nil,
            nd := ⟨Nat.ne_of_lt e2.1, (Nat.ne_of_lt e1).symm, (Nat.ne_of_lt e2.2).symm, by simp, by simp, by simp⟩,
            fr := fun p hp => ⟨Nat.ne_of_lt (Nat.lt_trans (hlt p hp) e1), Nat.ne_of_lt (Nat.lt_trans (hlt p hp) e2.2), Nat.ne_of_lt (hlt p hp)⟩, lin := ⟨_, hl⟩, lne := Nat.ne_of_lt (hlt _ hl),
            hs := fun p hp => .tail _ (.tail _ (.tail _ (.tail _ hp))), rr := hrs.sub fun p hp => .tail _ (.tail _ (.tail _ (.tail _ hp))), sp := rfl, b1 := by simpa using hlen, b2 := by simpa using hlen, b3 := by simpa using hlen }
  case up =>
    intro I hI r m S S' hJJ c; obtain ⟨R, Bt, lc, ls, k1, k2, k3, vc, bv, dn, cur, bt, rest, H⟩ := hJJ
    exact ⟨R, Bt, lc, ls, k1, k2, k3, vc, bv, dn, cur, bt, rest, { H with hR := c.lst H.hR, hB := c.lst H.hB, hc := c.lst H.hc, rc := c.rds H.rc, rb := c.rds H.rb, sg := H.sg.mono (fun _ _ _ _ h => c.lst h) c.tup, hs := fun p hp => c.go _ (H.hs p hp) (hI p (.tail _ (.tail _ (.tail _ (.tail _ hp))))), rr := c.rds H.rr }⟩
  case done =>
    clear N' F' hB'
    intro m₁ S h₁ tk₁ F₁ N₁ hJJ; obtain ⟨R, Bt, lc, ls, k1, k2, k3, vc, bv, dn, cur, bt, rest, H⟩ := hJJ
    have hR := H.hR
    have hB := H.hB
    have hc := H.hc
    have hmr := H.mr
    have hmb := H.mb
    have hrest : rest = [] := by
      have := H.rr.length
      simp only [List.length_nil, List.length_map] at this
      exact List.length_eq_zero_iff.mp this.symm
    subst hrest
    fail "go"
    try dsimp only
    refine ret (.ret _) _ _ _ _ (by assumption) (by assumption) ⟨_, R, Bt, ls ++ [lc], bv, _, _, _, dn ++ [cur], bt, rfl, fun p hp => .tail _ (H.hs p hp), .head _, .tail _ (by rw [List.map_append]; exact hR), .tail _ hB, ?_, H.rb.sub (fun p hp => .tail _ hp), ?_, ?_, ?_, fun p hp => ⟨(H.fr p hp).1, (H.fr p hp).2.1⟩⟩
    · exact (H.sg.append (.cons hc H.rc .nil)).mono (fun _ _ _ _ h => .tail _ h) (fun p hp _ => .tail _ hp)
    · rw [← H.sp, splitGo]
    · have := H.b1; simp only [List.length_append, List.length_cons, List.length_nil] at this ⊢; omega
    · have := H.b3; simp only [List.length_nil] at this; omega
  case turn =>
    clear N' F' hB'
    intro v r m₁ h₁ tk₁ S own F₁ N₁ ho hd hown hJJ; obtain ⟨R, Bt, lc, ls, k1, k2, k3, vc, bv, done, cur, bt, rest, H⟩ := hJJ
    fail "gen"
    have hR := H.hR
    have hB := H.hB
    have hc := H.hc
    have hmr := H.mr
    have hmb := H.mb
    have hms := H.ms
    have hqS := H.hs _ hq
    obtain ⟨i, rest', rfl⟩ : ∃ i rest', rest = i :: rest' := by
      cases rest with
      | nil => have := H.rr.length; simp at this
      | cons i r => exact ⟨i, r, rfl⟩
    obtain ⟨h0, hr⟩ : Rd S v (itD i) ∧ Rds S r (rest'.map itD) := by
      have := H.rr
      rw [List.map_cons] at this
      cases this with | cons a b => exact ⟨a, b⟩
    obtain ⟨a, t0, v1, n1, rfl, ha, hv1⟩ := it_open h0
    cases i with
    | sign sx =>
      dsimp only [itK, itV] at ha hv1
      cases hv1' : hv1
      cases hb : sgB s1 s2 sx with
      | true =>
        fail "go"
        try dsimp only
        refine append_mem (by assumption) (by assumption) (.tail _ hR) (by have := H.b1; have e := H.sg.length; simp only [List.length_cons, List.length_append, List.length_map, List.length_nil] at this ⊢; omega) (fun h₃ S₃ F₃ N₃ K₃ hR₃ => ?_)
        have Np := (by assumption : News _ _ _ (_ :: S))
        have hlt' := (by assumption : ∀ p ∈ S, p.1 < _)
        have hR' := mem_tailN Np hR
        have hB₂ : (Bt, lstOf bv k3) ∈ S₃ := K₃ _ (.tail _ hB) (Ne.symm H.nd.1)
        try dsimp only
        fail "go"
        try dsimp only
        refine append_mem (by assumption) (by assumption) hB₂ (by rw [H.rb.length, List.length_map]; have := H.b3; simp only [List.length_cons] at this; omega) (fun h₄ S₄ F₄ N₄ K₄ hB₄ => ?_)
        try dsimp only
        fail "go"
        try dsimp only
        refine (mkE3 ⟨S₄, rfl, by assumption, by assumption, own_keepL N₃ hB₂ K₄ (own_keepL Np hR' K₃ (fun p hp => .tail _ (ho p hp)) hd (fun e => by obtain ⟨o, ho⟩ := H.lin; exact (H.fr _ ho).1 e)) hd (fun e => by obtain ⟨o, ho⟩ := H.lin; exact (H.fr _ ho).2.1 e), ?_⟩)
        exact H.cut hr Np hlt' K₃ hR₃ N₃ K₄ hB₄ (by rw [splitGo, hb]; rfl) rfl rfl rfl
      | false =>
        fail "go"
        try dsimp only
        refine append_mem (by assumption) (by assumption) (.tail _ hc) (by rw [H.rc.length, List.length_map]; have := H.b2; simp only [List.length_cons] at this; omega) (fun h₃ S₃ F₃ N₃ K₃ hc₃ => ?_)
        try dsimp only
        have Np := (by assumption : News _ _ _ (_ :: S))
        have hc' := mem_tailN Np hc
        fail "go"
        try dsimp only
        refine (mkE3 ⟨S₃, rfl, by assumption, by assumption, own_keepL Np hc' K₃ (fun p hp => .tail _ (ho p hp)) hd H.lne, ?_⟩)
        exact H.push hr Np hv1 K₃ hc₃ (by rw [splitGo, hb]; rfl) rfl rfl rfl
    | ahead =>
      dsimp only [itK, itV] at ha hv1
      fail "go"
      try dsimp only
      refine append_mem (by assumption) (by assumption) (.tail _ hc) (by rw [H.rc.length, List.length_map]; have := H.b2; simp only [List.length_cons] at this; omega) (fun h₃ S₃ F₃ N₃ K₃ hc₃ => ?_)
      try dsimp only
      have Np := (by assumption : News _ _ _ (_ :: S))
      have hc' := mem_tailN Np hc
      fail "go"
      try dsimp only
      refine (mkE3 ⟨S₃, rfl, by assumption, by assumption, own_keepL Np hc' K₃ (fun p hp => .tail _ (ho p hp)) hd H.lne, ?_⟩)
      exact H.push hr Np hv1 K₃ hc₃ (by rw [splitGo]) rfl rfl rfl
    | term dx =>
      dsimp only [itK, itV] at ha hv1
      fail "go"
      try dsimp only
      refine append_mem (by assumption) (by assumption) (.tail _ hc) (by rw [H.rc.length, List.length_map]; have := H.b2; simp only [List.length_cons] at this; omega) (fun h₃ S₃ F₃ N₃ K₃ hc₃ => ?_)
      try dsimp only
      have Np := (by assumption : News _ _ _ (_ :: S))
      have hc' := mem_tailN Np hc
      fail "go"
      try dsimp only
      refine (mkE3 ⟨S₃, rfl, by assumption, by assumption, own_keepL Np hc' K₃ (fun p hp => .tail _ (ho p hp)) hd H.lne, ?_⟩)
      exact H.push hr Np hv1 K₃ hc₃ (by rw [splitGo]) rfl rfl rfl
end

-- L3
section
abbrev ProJ (news : Led) (R : Addr) (ls : List Addr) (k2 : Nat) (d : PyData) (i : Nat) (r : List Value) (m : Str → Option Value) (S : Led) : Prop :=
  ∃ (acc : PyData) (v : Value) (ls' : List Addr) (ss' : List (List LIt)) (ds' : List PyData) (bt' : List Str), m (Str.ofString "rows") = some (.ref R) ∧ m (Str.ofString "found") = some v ∧ Rd S v acc ∧ Rds S r (bt'.map PyData.str) ∧ ls.drop (i + 1) = ls' ∧ SegsAt S ls' ss' ∧ AllPow ss' ds' ∧ foldProd acc bt' ds' = d ∧
    ss'.length = bt'.length ∧ (R, lstOf (ls.map Value.ref) k2) ∈ S ∧ (∀ p ∈ news, p ∈ S) ∧ (∀ s ∈ ss', s.length ≤ 100) ∧ i + bt'.length ≤ 1000
theorem law_pro_tells (w : World) (its : List LIt) (d : PyData) (hP : LPro its d) (news : Led) (l : Addr) (vs : List Value) (n : Nat) (hl : (l, lstOf vs n) ∈ news) (hrs : Rds news vs (its.map itD)) (hlen : its.length ≤ 100) :
   Tells w 359 110 500 news [.ref l] (fun news' r => (∀ p ∈ news, p ∈ news') ∧ Rd news' r d) noEr := by
  obtain ⟨s0, ss, bt, d0, ds, hsp, hsl, hp0, hps, hdd⟩ := hP
  k_dflt (refine' enter [(Str.ofString "items", .ref l)] ?k6 ?k7 ?k8 ?k9 ?c1 ?c2 ?c3 ?c4 (by decide) (by decide) ?_; ((case k6 => k_is); (case k7 => k_is); (case k8 => exact rfl); (case k9 => exact rfl); (case c1 => exact rfl); (case c2 => exact rfl); (case c3 => exact rfl); (case c4 => decide)))
  intro dp un gd outer mean mg mb A₀ base g L s Q E B F X N T lv hdp hun ret er hE
  fail "go"
  try dsimp only
  fail "gen"; refine' Tells.use ?tt1 B ?cf1 X ?cn1 T rfl ?cd1 ?cu1 ?ok1 ?er1; (case cf1 => assumption); (case cn1 => assumption); (case tt1 => exact law_split_tells w _ l _ vs n _ its "*" "/" _ _ (by fail "mem") (hrs.sub (by fail "sub")) (by omega) (List.Mem.head _)); (case cd1 => first | exact bud hdp (by decide) | exact bud hdp (by omega) | omega); (case cu1 => first | exact bud3 hun (by decide) | exact bud3 hun (by omega) | omega); (try (case er1 => exact fun _ _ _ _ _ _ _ _ _ h => h.elim))
  intro r news₁ h₁ tk₁ F₁ N₁ hJJ; obtain ⟨TT, R, Bt, ls, bv, k1, k2, k3, segs, bt', rfl, hs₁, hT, hR, hB, hsg, hrb, hsp', hb1, hb2, hfr⟩ := hJJ
  have hs₁' : ∀ p ∈ news, p ∈ news₁ := fun p hp => hs₁ _ (.tail _ hp)
  have hsp2 : (s0 :: ss, bt) = (segs, bt') := hsp.symm.trans hsp'
  obtain ⟨rfl, rfl⟩ := Prod.mk.inj hsp2
  have hle : ∀ s ∈ s0 :: ss, s.length ≤ 100 := fun s hs => by
    rcases split_len (sgB "*" "/") its [] [] [] s (by rw [hsp']; exact hs) with h | h
    · cases h
    · simp only [List.length_nil] at h; omega
  obtain ⟨l0, ls, rfl⟩ : ∃ l0 ls', ls = l0 :: ls' := by cases hsg; exact ⟨_, _, rfl⟩
  obtain ⟨vs0, n0, hl0, hr0, hsg'⟩ : ∃ vs0 n0, (l0, lstOf vs0 n0) ∈ news₁ ∧ Rds news₁ vs0 (s0.map itD) ∧ SegsAt news₁ ls ss := by
    cases hsg with | cons a b c => exact ⟨_, _, a, b, c⟩
  have hx0 : (List.map Value.ref (l0 :: ls))[(0 : Int).toNat]? = some (.ref l0) := rfl
  clear hs₁
  have hle0 := hle s0 (.head _)
  try dsimp only
  fail "go"
  try dsimp only
  fail "gen"; refine' Tells.use ?tt2 B ?cf2 X ?cn2 T rfl ?cd2 ?cu2 ?ok2 ?er2; (case cf2 => assumption); (case cn2 => assumption); (case tt2 => exact law_pow_tells w _ _ hp0 _ l0 _ _ hl0 hr0 (by omega)); (case cd2 => first | exact bud hdp (by decide) | exact bud hdp (by omega) | omega); (case cu2 => first | exact bud3 hun (by decide) | exact bud3 hun (by omega) | omega); (try (case er2 => exact fun _ _ _ _ _ _ _ _ _ h => h.elim))
  intro r news₂ h₂ tk₂ F₂ N₂ hJJ; obtain ⟨hs₂, hr₂⟩ := hJJ
  have hB₂ := hs₂ _ hB
  have hR₂ := hs₂ _ hR
  try dsimp only
  fail "go"
  try dsimp only
  refine For_turns (by assumption) ?_ (by intro _; rfl) hE
  fail "go"
  try dsimp only
  refine iter_E (ProJ news R (l0 :: ls) k2 d) rfl (by assumption) (by assumption) hB₂ ?h0 ?up ?turn ?done
  case h0 =>
    exact ⟨d0, _, ls, ss, ds, bt, rfl, rfl, hr₂, hrb.sub hs₂, rfl, hsg'.sub hs₂, hps, hdd.symm, hsl, hR₂, fun p hp => hs₂ _ (hs₁' p hp), fun s hs => hle s (.tail _ hs), by omega⟩
  case up =>
    intro I hI i r m S S' hJJ c; obtain ⟨acc, v, ls', ss', ds', bt', a1, a2, a3, a4, a5, a6, a7, a8, a9, a10, a11, a12, a13⟩ := hJJ
    exact ⟨acc, v, ls', ss', ds', bt', a1, a2, c.rd a3, c.rds a4, a5, a6.mono (fun _ _ _ _ h => c.lst h) c.tup, a7, a8, a9, c.lst a10, fun p hp => c.go _ (a11 p hp) (hI p (hs₂ _ (hs₁' p hp))), a12, a13⟩
  case done =>
    intro i m₁ S h₅ tk₅ F₅ N₅ hJJ; obtain ⟨acc, v, ls', ss', ds', bt', a1, a2, a3, a4, a5, a6, a7, a8, a9, a10, a11, a12, a13⟩ := hJJ
    have hbt : bt' = [] := by
      have := a4.length
      simp only [List.length_nil, List.length_map] at this
      exact List.length_eq_zero_iff.mp this.symm
    subst hbt
    have e : acc = d := by rw [← a8]; cases ds' <;> rfl
    fail "go"
    try dsimp only
    exact ret (.ret _) _ _ _ _ (by assumption) (by assumption) (⟨a11, e ▸ a3⟩)
  case turn =>
    intro i v r m₁ TP tt h₅ tk₅ S own hT5 F₅ N₅ ho hdo hown hJJ; obtain ⟨acc, vf, ls', ss', ds', bt', a1, a2, a3, a4, a5, a6, a7, a8, a9, a10, a11, a12, a13⟩ := hJJ
    fail "gen"
    obtain ⟨sx, bt', rfl⟩ : ∃ s b, bt' = s :: b := by
      cases bt' with
      | nil => have := a4.length; simp at this
      | cons s b => exact ⟨s, b, rfl⟩
    obtain ⟨s1, ss', rfl⟩ : ∃ s b, ss' = s :: b := by
      cases ss' with
      | nil => simp at a9
      | cons s b => exact ⟨s, b, rfl⟩
    obtain ⟨d1, ds', rfl, hp1, hps1⟩ : ∃ d b, ds' = d :: b ∧ LPow s1 d ∧ AllPow ss' b := by
      cases a7 with | cons a b => exact ⟨_, _, rfl, a, b⟩
    obtain ⟨l1, ls', rfl, vs1, n1, hl1, hr1, hsg1⟩ : ∃ l1 b, ls' = l1 :: b ∧ ∃ vs1 n1, (l1, lstOf vs1 n1) ∈ S ∧ Rds S vs1 (s1.map itD) ∧ SegsAt S b ss' := by
      cases a6 with | cons a b c => exact ⟨_, _, rfl, _, _, a, b, c⟩
    obtain ⟨tv, rfl, hr⟩ : ∃ tv, v = .str sx tv ∧ Rds S r (bt'.map PyData.str) := by
      rw [List.map_cons] at a4
      cases a4 with | cons a b => cases a; exact ⟨_, rfl, b⟩
    have hxi : (List.map Value.ref (l0 :: ls))[((i : Int) + 1).toNat]? = some (.ref l1) := by
      have e : ((i : Int) + 1).toNat = i + 1 := by omega
      rw [e, List.getElem?_map]
      have := congrArg (·[0]?) a5
      simp only [List.getElem?_drop, Nat.add_zero, List.getElem?_cons_zero] at this
      rw [this]; rfl
    have hdrop : (l0 :: ls).drop (i + 1 + 1) = ls' := by
      rw [← List.drop_drop, a5]; rfl
    have hle1 := a12 s1 (.head _)
    have hi9 : (i : Int) < 1000 := by simp only [List.length_cons] at a13; omega
    fail "go"
    try dsimp only
    fail "gen"; refine' Tells.use ?tt3 B ?cf3 X ?cn3 T rfl ?cd3 ?cu3 ?ok3 ?er3; (case cf3 => assumption); (case cn3 => assumption); (case tt3 => exact law_pow_tells w _ _ hp1 _ l1 _ _ hl1 hr1 (by omega)); (case cd3 => first | exact bud hdp (by decide) | exact bud hdp (by omega) | omega); (case cu3 => first | exact bud3 hun (by decide) | exact bud3 hun (by omega) | omega); (try (case er3 => exact fun _ _ _ _ _ _ _ _ _ h => h.elim))
    intro r₇ news₇ h₇ tk₇ F₇ N₇ hJJ; obtain ⟨hs₇, hr₇⟩ := hJJ
    have a3' := a3.sub hs₇
    try dsimp only
    cases hb : sx == Str.ofString "*" with
    | true =>
      fail "go"
      try dsimp only
      refine (mkE4 ⟨rfl, by assumption, by assumption, fun p hp => .tail _ (.tail _ (hs₇ _ (ho p hp))), dProd acc d1, _, ls', ss', ds', bt', ?_, rfl, ?_, hr.sub (fun p hp => .tail _ (.tail _ (hs₇ p hp))), hdrop, hsg1.sub (fun p hp => .tail _ (.tail _ (hs₇ p hp))), hps1, ?_, ?_, .tail _ (.tail _ (hs₇ _ a10)), fun p hp => .tail _ (.tail _ (hs₇ _ (a11 p hp))), fun s hs => a12 s (.tail _ hs), ?_⟩)
      · exact a1
      · fail "rd"
      · rw [← a8, foldProd, hb]; rfl
      · simpa using a9
      · simp only [List.length_cons] at a13; omega
    | false =>
      fail "go"
      try dsimp only
      refine (mkE4 ⟨rfl, by assumption, by assumption, fun p hp => .tail _ (.tail _ (.tail _ (.tail _ (hs₇ _ (ho p hp))))), dQuot acc d1, _, ls', ss', ds', bt', ?_, rfl, ?_, hr.sub (fun p hp => .tail _ (.tail _ (.tail _ (.tail _ (hs₇ p hp))))), hdrop, hsg1.sub (fun p hp => .tail _ (.tail _ (.tail _ (.tail _ (hs₇ p hp))))), hps1, ?_, ?_, .tail _ (.tail _ (.tail _ (.tail _ (hs₇ _ a10)))), fun p hp => .tail _ (.tail _ (.tail _ (.tail _ (hs₇ _ (a11 p hp))))), fun s hs => a12 s (.tail _ hs), ?_⟩)
      · exact a1
      · fail "rd"
      · rw [← a8, foldProd, hb]; rfl
      · simpa using a9
      · simp only [List.length_cons] at a13; omega
end

-- L4
section
structure SumI (news : Led) (R Bt sh : Addr) (ls : List Addr) (k2 kk : Nat) (tot : List PyData) (i : Nat) (r : List Value) (m : Str → Option Value) (S : Led) (accs : List PyData) (vsh : List Value) (ls' : List Addr) (ss' : List (List LIt)) (ds' : List PyData) (bt' : List Str) : Prop where
  mr : m (Str.ofString "rows") = some (.ref R)
  mh : m (Str.ofString "some_here") = some (.ref sh)
  hsh : (sh, lstOf vsh kk) ∈ S
  rsh : Rds S vsh accs
  rr : Rds S r (bt'.map PyData.str)
  dr : ls.drop (i + 1) = ls'
  sg : SegsAt S ls' ss'
  ap : AllPro ss' ds'
  tt : accs ++ signedSum bt' ds' = tot
  sl : ss'.length = bt'.length
  hR : (R, lstOf (ls.map Value.ref) k2) ∈ S
  hs : ∀ p ∈ news, p ∈ S
  le : ∀ s ∈ ss', s.length ≤ 100
  il : i + bt'.length ≤ 1000
  al : accs.length + bt'.length ≤ 1002
  ne : R ≠ sh ∧ Bt ≠ sh ∧ sh ∉ ls' ∧ ∀ p ∈ news, p.1 ≠ sh
def SumJ (news : Led) (R Bt : Addr) (ls : List Addr) (k2 : Nat) (tot : List PyData) (i : Nat) (r : List Value) (m : Str → Option Value) (S : Led) : Prop :=
  ∃ sh kk accs vsh ls' ss' ds' bt', SumI news R Bt sh ls k2 kk tot i r m S accs vsh ls' ss' ds' bt'
theorem SumI.start {news news₂ : Led} {R Bt sh : Addr} {ls : List Addr} {l0 : Addr} {k2 : Nat} {d0 : PyData} {bv : List Value} {m : Str → Option Value} {v0 : Value} {ss : List (List LIt)} {ds : List PyData} {bt : List Str}
    (mr : m (Str.ofString "rows") = some (.ref R)) (mh : m (Str.ofString "some_here") = some (.ref sh)) (hlt : ∀ p ∈ news₂, p.1 < sh) (hr : Rd news₂ v0 d0) (hrb : Rds news₂ bv (bt.map PyData.str)) (hsg : SegsAt news₂ ls ss) (hps : AllPro ss ds) (hsl : ss.length = bt.length) (hR : (R, lstOf ((l0 :: ls).map Value.ref) k2) ∈ news₂)
    (hB : ∃ o, (Bt, o) ∈ news₂) (hs : ∀ p ∈ news, p ∈ news₂) (hle : ∀ s ∈ ss, s.length ≤ 100) (hb : bt.length ≤ 1000) : SumJ news R Bt (l0 :: ls) k2 (d0 :: signedSum bt ds) 0 bv m ((sh, lstOf [v0] 0) :: news₂) := by
  refine ⟨sh, 0, [d0], [v0], ls, ss, ds, bt, ?_⟩
  obtain ⟨oB, hoB⟩ := hB
  exact { mr := mr, mh := mh, hsh := .head _, rsh := .cons (hr.sub fun p hp => .tail _ hp) .nil, rr := hrb.sub fun p hp => .tail _ hp, dr := rfl, sg := hsg.sub fun p hp => .tail _ hp, ap := hps, tt := rfl, sl := hsl, hR := .tail _ hR,
          hs := fun p hp => .tail _ (hs p hp), le := hle, il := by omega, al := by simp only [List.length_cons, List.length_nil]; omega,
          ne := ⟨Nat.ne_of_lt (hlt _ hR), Nat.ne_of_lt (hlt _ hoB), fun h => by obtain ⟨o, ho⟩ := hsg.mem _ h; exact absurd (hlt _ ho) (Nat.lt_irrefl _), fun p hp => Nat.ne_of_lt (hlt _ (hs p hp))⟩ }
theorem SumI.step {news : Led} {R Bt sh l1 : Addr} {ls ls' : List Addr} {k2 kk i k' : Nat} {tot accs : List PyData} {r vsh : List Value} {m m' : Str → Option Value} {S S₇ S₈ : Led} {s1 : List LIt} {ss' : List (List LIt)} {d1 dv : PyData} {ds' : List PyData} {sx : Str} {bt' : List Str} {v vt : Value} {h₀ h : Heap} {L : Addr}
    (H : SumI news R Bt sh ls k2 kk tot i (v :: r) m S accs vsh (l1 :: ls') (s1 :: ss') (d1 :: ds') (sx :: bt')) (hs : ∀ p ∈ S, p ∈ S₇) (N : News h₀ L h S₇) (hv : Rd S₇ vt dv) (hdv : dv = if sx == Str.ofString "+" then d1 else dNeg d1) (K : Kept sh S₇ S₈) (hsh : (sh, lstOf (vsh ++ [vt]) k') ∈ S₈)
    (hr : Rds S r (bt'.map PyData.str)) (hsg : SegsAt S ls' ss') (hap : AllPro ss' ds') (e1 : m' (Str.ofString "rows") = m (Str.ofString "rows")) (e2 : m' (Str.ofString "some_here") = m (Str.ofString "some_here")) : SumJ news R Bt ls k2 tot (i + 1) r m' S₈ := by
  have hsh' := hs _ H.hsh
  refine ⟨sh, k', accs ++ [dv], vsh ++ [vt], ls', ss', ds', bt', ?_⟩
  exact { mr := e1.trans H.mr, mh := e2.trans H.mh, hsh := hsh, rsh := (Kept.rdsL N hsh' K (H.rsh.sub hs)).append (.cons (Kept.rdL N hsh' K hv) .nil), rr := Kept.rdsL N hsh' K (hr.sub hs), dr := by rw [← List.drop_drop, H.dr]; rfl,
          sg := (hsg.sub hs).kept N hsh' K (fun h => H.ne.2.2.1 (.tail _ h)), ap := hap,
          tt := by rw [← H.tt, signedSum, hdv]; simp, sl := by have := H.sl; simpa using this, hR := K _ (hs _ H.hR) H.ne.1, hs := fun p hp => K _ (hs _ (H.hs p hp)) (H.ne.2.2.2 p hp), le := fun s hs => H.le s (.tail _ hs),
          il := by have := H.il; simp only [List.length_cons] at this; omega, al := by have := H.al; simp only [List.length_cons, List.length_append, List.length_nil] at this ⊢; omega,
          ne := ⟨H.ne.1, H.ne.2.1, fun h => H.ne.2.2.1 (.tail _ h), H.ne.2.2.2⟩ }
theorem law_sum_tells (w : World) (its : List LIt) (d : PyData) (hP : LSum its d) (news : Led) (l : Addr) (vs : List Value) (n : Nat) (hl : (l, lstOf vs n) ∈ news) (hrs : Rds news vs (its.map itD)) (hlen : its.length ≤ 100) :
   Tells w 352 112 520 news [.ref l] (fun news' r => (∀ p ∈ news, p ∈ news') ∧ Rd news' r d) noEr := by
  obtain ⟨s0, ss, bt, d0, ds, hsp, hsl, hp0, hps, hdd⟩ := hP
  k_dflt (refine' enter [(Str.ofString "items", .ref l)] ?k6 ?k7 ?k8 ?k9 ?c1 ?c2 ?c3 ?c4 (by decide) (by decide) ?_; ((case k6 => k_is); (case k7 => k_is); (case k8 => exact rfl); (case k9 => exact rfl); (case c1 => exact rfl); (case c2 => exact rfl); (case c3 => exact rfl); (case c4 => decide)))
  intro dp un gd outer mean mg mb A₀ base g L s Q E B F X N T lv hdp hun ret er hE
  fail "go"
  try dsimp only
  fail "gen"; refine' Tells.use ?tt1 B ?cf1 X ?cn1 T rfl ?cd1 ?cu1 ?ok1 ?er1; (case cf1 => assumption); (case cn1 => assumption); (case tt1 => exact law_split_tells w _ l _ vs n _ its "+" "-" _ _ (by fail "mem") (hrs.sub (by fail "sub")) (by omega) (List.Mem.head _)); (case cd1 => first | exact bud hdp (by decide) | exact bud hdp (by omega) | omega); (case cu1 => first | exact bud3 hun (by decide) | exact bud3 hun (by omega) | omega); (try (case er1 => exact fun _ _ _ _ _ _ _ _ _ h => h.elim))
  intro r news₁ h₁ tk₁ F₁ N₁ hJJ; obtain ⟨TT, R, Bt, ls, bv, k1, k2, k3, segs, bt', rfl, hs₁, hT, hR, hB, hsg, hrb, hsp', hb1, hb2, hfr⟩ := hJJ
  have hs₁' : ∀ p ∈ news, p ∈ news₁ := fun p hp => hs₁ _ (.tail _ hp)
  have hsp2 : (s0 :: ss, bt) = (segs, bt') := hsp.symm.trans hsp'
  obtain ⟨rfl, rfl⟩ := Prod.mk.inj hsp2
  have hle : ∀ s ∈ s0 :: ss, s.length ≤ 100 := fun s hs => by
    rcases split_len (sgB "+" "-") its [] [] [] s (by rw [hsp']; exact hs) with h | h
    · cases h
    · simp only [List.length_nil] at h; omega
  obtain ⟨l0, ls, rfl⟩ : ∃ l0 ls', ls = l0 :: ls' := by cases hsg; exact ⟨_, _, rfl⟩
  obtain ⟨vs0, n0, hl0, hr0, hsg'⟩ : ∃ vs0 n0, (l0, lstOf vs0 n0) ∈ news₁ ∧ Rds news₁ vs0 (s0.map itD) ∧ SegsAt news₁ ls ss := by
    cases hsg with | cons a b c => exact ⟨_, _, a, b, c⟩
  have hx0 : (List.map Value.ref (l0 :: ls))[(0 : Int).toNat]? = some (.ref l0) := rfl
  clear hs₁
  have hle0 := hle s0 (.head _)
  try dsimp only
  fail "go"
  try dsimp only
  fail "gen"; refine' Tells.use ?tt2 B ?cf2 X ?cn2 T rfl ?cd2 ?cu2 ?ok2 ?er2; (case cf2 => assumption); (case cn2 => assumption); (case tt2 => exact law_pro_tells w _ _ hp0 _ l0 _ _ hl0 hr0 (by omega)); (case cd2 => first | exact bud hdp (by decide) | exact bud hdp (by omega) | omega); (case cu2 => first | exact bud3 hun (by decide) | exact bud3 hun (by omega) | omega); (try (case er2 => exact fun _ _ _ _ _ _ _ _ _ h => h.elim))
  intro r news₂ h₂ tk₂ F₂ N₂ hJJ; obtain ⟨hs₂, hr₂⟩ := hJJ
  have hB₂ := hs₂ _ hB
  have hR₂ := hs₂ _ hR
  have hsg₂ := hsg'.sub hs₂
  try dsimp only
  fail "go"
  try dsimp only
  refine For_turns (by assumption) ?_ (by intro _; rfl) hE
  fail "go"
  try dsimp only
  have hlt := (by assumption : ∀ p ∈ news₂, p.1 < _)
  refine iter_E (SumJ news R Bt (l0 :: ls) k2 (d0 :: signedSum bt ds)) rfl (by assumption) (by assumption) (mem_tailN (by assumption) hB₂) ?h0 ?up ?turn ?done
  case h0 =>
    exact SumI.start rfl rfl hlt hr₂ (hrb.sub hs₂) hsg₂ hps hsl hR₂ ⟨_, hB₂⟩ (fun p hp => hs₂ _ (hs₁' p hp)) (fun s hs => hle s (.tail _ hs)) (by omega)
  case up =>
    intro I hI i r m S S' hJJ c; obtain ⟨sh, kk, accs, vsh, ls', ss', ds', bt', H⟩ := hJJ
    exact ⟨sh, kk, accs, vsh, ls', ss', ds', bt', { H with hsh := c.lst H.hsh, rsh := c.rds H.rsh, rr := c.rds H.rr, sg := H.sg.mono (fun _ _ _ _ h => c.lst h) c.tup, hR := c.lst H.hR, hs := fun p hp => c.go _ (H.hs p hp) (hI p (.tail _ (hs₂ _ (hs₁' p hp)))) }⟩
  case done =>
    intro i m₁ S h₅ tk₅ F₅ N₅ hJJ; obtain ⟨sh, kk, accs, vsh, ls', ss', ds', bt', H⟩ := hJJ
    have hbt : bt' = [] := by
      have := H.rr.length
      simp only [List.length_nil, List.length_map] at this
      exact List.length_eq_zero_iff.mp this.symm
    subst hbt
    have e : accs = d0 :: signedSum bt ds := by
      have := H.tt
      cases ds' <;> simpa [signedSum] using this
    have hmh := H.mh
    have hsh := H.hsh
    have hrsh := H.rsh
    have hvl := hrsh.length
    have hal := H.al
    simp only [List.length_nil] at hal
    have hz : vsh.length ≤ 2 ^ 20 := by omega
    obtain ⟨vh, vt, rfl⟩ : ∃ vh vt, vsh = vh :: vt := by
      cases vsh with
      | nil => rw [e] at hvl; simp at hvl
      | cons a b => exact ⟨a, b, rfl⟩
    have hx1 : (vh :: vt)[(0 : Int).toNat]? = some vh := rfl
    have hdd' : d = dSum accs := by rw [hdd, ← e]
    cases haccs : accs with
    | nil => rw [e] at haccs; cases haccs
    | cons a1 ar =>
      cases ar with
      | nil =>
        subst haccs
        obtain rfl : vt = [] := by
          simp only [List.length_cons, List.length_nil] at hvl
          exact List.length_eq_zero_iff.mp (by omega)
        have hra : Rd S vh a1 := by cases hrsh with | cons a b => exact a
        fail "go"
        try dsimp only
        all_goals first | (exfalso; simp only [List.length_cons, List.length_nil] at *; omega) | skip
        exact ret (.ret _) _ _ _ _ (by assumption) (by assumption) (⟨H.hs, by rw [hdd']; exact hra⟩)
      | cons a2 ar =>
        subst haccs
        rw [dSum_many (by simp)] at hdd'
        simp only [List.length_cons] at hvl
        have hnl : ¬ ((((vh :: vt).length : Nat) : Int) = 1) := by simp only [List.length_cons]; omega
        fail "go"
        try dsimp only
        all_goals first | (exfalso; simp only [List.length_cons, List.length_nil] at *; omega) | skip
        exact ret (.ret _) _ _ _ _ (by assumption) (by assumption) (⟨fun p hp => .tail _ (.tail _ (H.hs p hp)), by rw [hdd']; fail "rd"⟩)
  case turn =>
    intro i v r m₁ TP tt h₅ tk₅ S own hT5 F₅ N₅ ho hdo hown hJJ; obtain ⟨sh, kk, accs, vsh, ls', ss', ds', bt', H⟩ := hJJ
    fail "gen"
    obtain ⟨sx, bt', rfl⟩ : ∃ s b, bt' = s :: b := by
      cases bt' with
      | nil => have := H.rr.length; simp at this
      | cons s b => exact ⟨s, b, rfl⟩
    obtain ⟨s1, ss', rfl⟩ : ∃ s b, ss' = s :: b := by
      cases ss' with
      | nil => have := H.sl; simp at this
      | cons s b => exact ⟨s, b, rfl⟩
    obtain ⟨d1, ds', rfl, hp1, hps1⟩ : ∃ d b, ds' = d :: b ∧ LPro s1 d ∧ AllPro ss' b := by
      have := H.ap
      cases this with | cons a b => exact ⟨_, _, rfl, a, b⟩
    obtain ⟨l1, ls', rfl, vs1, n1, hl1, hr1, hsg1⟩ : ∃ l1 b, ls' = l1 :: b ∧ ∃ vs1 n1, (l1, lstOf vs1 n1) ∈ S ∧ Rds S vs1 (s1.map itD) ∧ SegsAt S b ss' := by
      have := H.sg
      cases this with | cons a b c => exact ⟨_, _, rfl, _, _, a, b, c⟩
    obtain ⟨tv, rfl, hr⟩ : ∃ tv, v = .str sx tv ∧ Rds S r (bt'.map PyData.str) := by
      have := H.rr
      rw [List.map_cons] at this
      cases this with | cons a b => cases a; exact ⟨_, rfl, b⟩
    have hxi : (List.map Value.ref (l0 :: ls))[((i : Int) + 1).toNat]? = some (.ref l1) := by
      have e : ((i : Int) + 1).toNat = i + 1 := by omega
      rw [e, List.getElem?_map]
      have := congrArg (·[0]?) H.dr
      simp only [List.getElem?_drop, Nat.add_zero, List.getElem?_cons_zero] at this
      rw [this]; rfl
    have hle1 := H.le s1 (.head _)
    have hi9 : (i : Int) < 1000 := by have := H.il; simp only [List.length_cons] at this; omega
    have hmr := H.mr
    have hmh := H.mh
    have hRS := H.hR
    have hal : vsh.length ≤ 2 ^ 20 := by have := H.al; have := H.rsh.length; omega
    fail "go"
    try dsimp only
    fail "gen"; refine' Tells.use ?tt3 B ?cf3 X ?cn3 T rfl ?cd3 ?cu3 ?ok3 ?er3; (case cf3 => assumption); (case cn3 => assumption); (case tt3 => exact law_pro_tells w _ _ hp1 _ l1 _ _ hl1 hr1 (by omega)); (case cd3 => first | exact bud hdp (by decide) | exact bud hdp (by omega) | omega); (case cu3 => first | exact bud3 hun (by decide) | exact bud3 hun (by omega) | omega); (try (case er3 => exact fun _ _ _ _ _ _ _ _ _ h => h.elim))
    intro r₇ news₇ h₇ tk₇ F₇ N₇ hJJ; obtain ⟨hs₇, hr₇⟩ := hJJ
    have hsh₇ := hs₇ _ H.hsh
    try dsimp only
    cases hb : sx == Str.ofString "+" with
    | true =>
      fail "go"
      try dsimp only
      refine append_mem (by assumption) (by assumption) hsh₇ hal (fun h₈ S₈ F₈ N₈ K₈ hsh₈ => ?_)
      try dsimp only
      fail "go"
      try dsimp only
      refine (mkE3 ⟨S₈, rfl, by assumption, by assumption, own_keepL (by assumption) hsh₇ K₈ (fun p hp => hs₇ _ (ho p hp)) hdo H.ne.2.1, ?_⟩)
      exact H.step hs₇ (by assumption) hr₇ (by rw [hb]; rfl) K₈ hsh₈ hr hsg1 hps1 rfl rfl
    | false =>
      fail "go"
      try dsimp only
      fail "gen"; refine' Tells.use ?tt4 B ?cf4 X ?cn4 T rfl ?cd4 ?cu4 ?ok4 ?er4; (case cf4 => assumption); (case cn4 => assumption); (case tt4 => exact law_minus_tells w _ _ _ hr₇); (case cd4 => first | exact bud hdp (by decide) | exact bud hdp (by omega) | omega); (case cu4 => first | exact bud3 hun (by decide) | exact bud3 hun (by omega) | omega); (try (case er4 => exact fun _ _ _ _ _ _ _ _ _ h => h.elim))
      intro r₉ news₉ h₉ tk₉ F₉ N₉ hJJ; obtain ⟨hs₉, hr₉⟩ := hJJ
      have hsh₉ := hs₉ _ hsh₇
      try dsimp only
      fail "go"
      try dsimp only
      refine append_mem (by assumption) (by assumption) hsh₉ hal (fun h₈ S₈ F₈ N₈ K₈ hsh₈ => ?_)
      try dsimp only
      fail "go"
      try dsimp only
      refine (mkE3 ⟨S₈, rfl, by assumption, by assumption, own_keepL (by assumption) hsh₉ K₈ (fun p hp => hs₉ _ (hs₇ _ (ho p hp))) hdo H.ne.2.1, ?_⟩)
      exact H.step (fun p hp => hs₉ _ (hs₇ p hp)) (by assumption) hr₉ (by rw [hb]; rfl) K₈ hsh₈ hr hsg1 hps1 rfl rfl
end

-- L8
section
set_option hygiene false in
local macro_rules
  | `(tactic| walk_at "binaryOp Mult ref int") => `(tactic| (k_here; k_dflt (refine' mul_mem _ (by assumption) (by omega) (by k_asm) (by k_asm) (by fail "mem") ?_); intro _ _ _ _ _; (try k_sweep)))
theorem op_item {prog : Program} {w : World} {A : Around} {E : Value → Shared → Prop} {s : Shared} {h₀ : Heap} {L l : Addr} {S : Led} {value slice : Expr} {k n : Nat} {u t1 t2 t3 t4 t5 t6 : Tok} {Q : Value → Shared → Prop}
    (N : News h₀ L s.heap ((l, lstOf [.str (Str.ofString "+") t1, .str (Str.ofString "-") t2, .str (Str.ofString "*") t3, .str (Str.ofString "/") t4, .str (Str.ofString "^") t5, .str (Str.ofString "**") t6] n) :: S)) (hk : k < 6)
    (h : ∀ x ∈ opL, ∀ t, Q (.str (Str.ofString x) t) s) (hs : subscripted slice false (.ref l) (.int k u) = operate [.ref l, .int k u] (getItem (.ref l) (.int k u)) := by with_unfolding_all rfl) :
    wpAny (model prog w) A (subscriptTail value slice (.ref l) (.int k u)) Q E s := by
  have hcase : k = 0 ∨ k = 1 ∨ k = 2 ∨ k = 3 ∨ k = 4 ∨ k = 5 := by omega
  rcases hcase with rfl | rfl | rfl | rfl | rfl | rfl <;> exact item_mem N (.head _) (by decide) (by decide) rfl (h _ (by decide) _) hs
def IfMid (x : String) (s : Shared) (v : Value) (s' : Shared) : Prop := ∃ t tk, v = .str (sgOf x) t ∧ s' = { s with toks := tk }
theorem if_mid {M : Model} {A : Around} {E : Value → Shared → Prop} {t : Sem Value} {s : Shared} {Q : Value → Shared → Prop} {x : String} (h : wpAny M A t (IfMid x s) E s) (k : ∀ t tk, Q (.str (sgOf x) t) { s with toks := tk }) : wpAny M A t Q E s :=
  wpAny_mono h (fun _ _ ⟨_, _, e, e'⟩ => e ▸ e' ▸ k _ _) fun _ _ e => e
theorem sg_pos : ∀ x ∈ opL, (Str.ofString x == Str.ofString "**") = true → sgOf x = Str.ofString "^" := by
  intro x hx
  simp only [List.mem_cons, List.not_mem_nil, or_false] at hx
  rcases hx with rfl | rfl | rfl | rfl | rfl | rfl <;> intro h <;> first | rfl | exact absurd h (by decide)
theorem sg_neg : ∀ x ∈ opL, (Str.ofString x == Str.ofString "**") = false → sgOf x = Str.ofString x := by
  intro x hx
  simp only [List.mem_cons, List.not_mem_nil, or_false] at hx
  rcases hx with rfl | rfl | rfl | rfl | rfl | rfl <;> intro h <;> first | rfl | exact absurd h (by decide)
set_option hygiene false in
local macro_rules | `(tactic| walk_at "eval IfExp") => `(tactic| refine if_mid (x := x) (IfExp_ ?_) ?_)
theorem row_tells (w : World) (O : List String → PyData → Prop) (z₀ : Int) (Do Uo No : Nat) (hDo : Do ≤ 200) (hUo : Uo ≤ 2000) (hNo : No ≤ 2000) (IH : OpdT w O z₀ Do Uo No) (hex : ∀ n its txs, UnitsP O (n + 1) its txs → ∃ d, LSum its d) : RowT w (RowP O) z₀ (Do + 120) (Uo + 600) (4 * (No + 3)) := by
  intro news b q tz z hz hb
  subst hz
  k_dflt (refine' enter [(Str.ofString "box", .ref b), (Str.ofString "deep", .int z tz)] ?k6 ?k7 ?k8 ?k9 ?c1 ?c2 ?c3 ?c4 (by omega) (by omega) ?_; ((case k6 => k_is); (case k7 => k_is); (case k8 => exact rfl); (case k9 => exact rfl); (case c1 => exact rfl); (case c2 => exact rfl); (case c3 => exact rfl); (case c4 => decide)))
  intro dp un gd outer mean mg mb A₀ base g L s Q E B F X N T lv hdp hun ret er hE
  fail "go"
  try dsimp only
  rename_i it hA a1 tx hB a2 D hD a3 hE1 hE2 hE3 F' N'
  have fit : ∀ p ∈ news, p.1 ≠ it := fun p hp => Nat.ne_of_lt (a1 p hp)
  have ftx : ∀ p ∈ news, p.1 ≠ tx := fun p hp => Nat.ne_of_lt (kst_ltOf a2.2 p hp)
  have hne : it ≠ tx := Nat.ne_of_lt a2.1
  refine For_turns (by assumption) ?_ (by intro _; rfl) hE
  fail "go"
  try dsimp only
  have H0 := RowS.start (by assumption) N' hb (z := z) (tz := tz) rfl rfl rfl rfl fit ftx hne
  fail "gen"; refine' Tells.use ?tt1 B ?cf1 X ?cn1 T rfl ?cd1 ?cu1 ?ok1 ?er1; (case cf1 => assumption); (case cn1 => assumption); (case tt1 => exact take_k w _ b q 4 _ (by decide) (by decide) H0.bx); (case cd1 => first | exact bud hdp (by decide) | exact bud hdp (by omega) | omega); (case cu1 => first | exact bud3 hun (by decide) | exact bud3 hun (by omega) | omega); (try (case er1 => exact fun _ _ _ _ _ _ _ _ _ h => h.elim))
  intro r news₁ h₁ tk₁ F₁ N₁ hJJ; obtain ⟨hb₁, K₁, k, t₁, rfl, hk⟩ := hJJ
  have H1 := H0.call N' K₁ hb₁
  try dsimp only
  fail "go"
  try dsimp only
  have hRg := (by assumption : IsRange _ _ 0 (1 + (k : Int)) 1 _ _ _)
  rw [show (1 + (k : Int)) = ((k + 1 : Nat) : Int) by omega] at hRg
  have hk4 : k + 1 ≤ 4 := by omega
  refine iter_R (n := k + 1) (RowJ O No news b q z tz) rfl hRg (small_R _ (by omega)) (size_R _) (by assumption) (by assumption) ⟨it, tx, [], [], H1.map (fun y hy => by rcases hy with rfl | rfl | rfl | rfl <;> rfl), .zero, by omega, by simp⟩ ?up ?turn ?done
  case up =>
    intro I hI i m S S' hJJ c; obtain ⟨it, tx, its, txs, H, hu, hi4, hl⟩ := hJJ
    exact ⟨it, tx, its, txs, H.carry c (noI H1.kb hb₁ hI), hu, hi4, hl⟩
  case done =>
    intro m₁ S h₂ tk₂ F₂ N₂ hJJ; obtain ⟨it, tx, its, txs, H, hu, hi4, hl⟩ := hJJ
    obtain ⟨d, hd⟩ := hex k its txs hu
    obtain ⟨vi, ni, hvi, rvi⟩ := H.hi
    obtain ⟨vt, nt, hvt, rvt⟩ := H.ht
    have hmi := H.mi
    have hmt := H.mt
    have hlen := hu.len
    fail "go"
    try dsimp only
    fail "gen"; refine' Tells.use ?tt2 B ?cf2 X ?cn2 T rfl ?cd2 ?cu2 ?ok2 ?er2; (case cf2 => assumption); (case cn2 => assumption); (case tt2 => exact law_sum_tells w its d hd _ it _ _ hvi rvi (by omega)); (case cd2 => first | exact bud hdp (by decide) | exact bud hdp (by omega) | omega); (case cu2 => first | exact bud3 hun (by decide) | exact bud3 hun (by omega) | omega); (try (case er2 => exact fun _ _ _ _ _ _ _ _ _ h => h.elim))
    intro r news₃ h₃ tk₃ F₃ N₃ hJJ; obtain ⟨hs₃, hr₃⟩ := hJJ
    try dsimp only
    fail "go"
    try dsimp only
    have hl4 : (k + 1) * (No + 3) ≤ 4 * (No + 3) := Nat.mul_le_mul_right _ hk4
    exact ret (.ret _) _ _ _ _ (by assumption) (by assumption) (⟨_, tx, r, vt, _, nt, txs, d, rfl, H.bx.sub (fun p hp => .tail _ (hs₃ _ hp)), H.kb.trans (.of_sub (fun p hp => .tail _ (hs₃ _ hp))), .head _, .tail _ (hs₃ _ hvt), H.ft, rvt.sub (fun p hp => .tail _ (hs₃ _ hp)), hr₃.sub (fun p hp => .tail _ hp), ⟨k + 1, its, by omega, by omega, hu, hd⟩, by omega⟩)
  case turn => --plain
    intro i ti m₁ h₂ tk₂ S own hin F₂ N₂ ho hd hJJ; obtain ⟨it, tx, its, txs, H, hu, hi4, hl⟩ := hJJ
    fail "goI"
    refine wpAny_mono (Q := RowMid (RowM O No news b q z tz i) g L own s) ?first ?rest fun _ _ e => e
    case first =>
      obtain ⟨vi, ni, hvi, rvi⟩ := H.hi
      obtain ⟨vt, nt, hvt, rvt⟩ := H.ht
      have hmi := H.mi
      have hmt := H.mt
      have hmb := H.mb
      have hmd := H.md
      cases i with
      | zero =>
        fail "go"
        try dsimp only
        exact .of (by assumption) (by assumption) ho ⟨it, tx, its, txs, its, txs, H.map (fun y hy => by rcases hy with rfl | rfl | rfl | rfl <;> rfl), hu, by omega, hl, .inl ⟨rfl, rfl, rfl⟩⟩
      | succ i =>
        have hi0 : (0 : Int) < ((i + 1 : Nat) : Int) := by omega
        have NS := N₂
        fail "go"
        try dsimp only
        have hlt := (by assumption : ∀ p ∈ S, p.1 < _)
        have NL := (by assumption : News _ _ _ (_ :: S))
        fail "gen"; refine' Tells.use ?tt3 B ?cf3 X ?cn3 T rfl ?cd3 ?cu3 ?ok3 ?er3; (case cf3 => assumption); (case cn3 => assumption); (case tt3 => exact take_k w _ b q 6 _ (by decide) (by decide) (H.bx.sub (fun p hp => .tail _ hp))); (case cd3 => first | exact bud hdp (by decide) | exact bud hdp (by omega) | omega); (case cu3 => first | exact bud3 hun (by decide) | exact bud3 hun (by omega) | omega); (try (case er3 => exact fun _ _ _ _ _ _ _ _ _ h => h.elim))
        intro r news₃ h₃ tk₃ F₃ N₃ hJJ; obtain ⟨hb₃, K₃, k2, t₃, rfl, hk2⟩ := hJJ
        have H₃ := (H.sub (fun p hp => .tail _ hp)).call NL K₃ hb₃
        have ho₃ := own_keepB NL (H.bx.sub (fun p hp => .tail _ hp)) K₃ (fun p hp => .tail _ (ho p hp)) hd
        have N₃' := news_cons N₃ (kept_new K₃ H.bx hlt)
        obtain ⟨vi₃, ni₃, hvi₃, rvi₃⟩ := H₃.hi
        have hvi₃' := mem_tailN N₃' hvi₃
        clear N₃ hvi rvi hvt rvt
        try dsimp only
        fail "go"
        refine op_item N₃' (by omega) (fun x hxo tx0 => ?_)
        try dsimp only
        fail "go"
        · exact (mkE2 ⟨congrArg (Value.str · _) (sg_pos x hxo (by assumption)).symm, rfl⟩)
        · exact (mkE2 ⟨congrArg (Value.str · _) (sg_neg x hxo (by assumption)).symm, rfl⟩)
        try dsimp only
        refine append_mem (by assumption) (by assumption) (.tail _ (.tail _ hvi₃)) (by rw [rvi₃.length, List.length_map]; have := hu.len; omega) (fun h₅ S₅ F₅ N₅ K₅ hit₅ => ?_)
        have N₄ := (by assumption : News _ _ _ (_ :: _ :: news₃))
        have H₅ := (H₃.sub (fun p hp => .tail _ (.tail _ hp))).addIt (i := .sign (sgOf x)) N₄ (.tail _ (.tail _ hvi₃)) (rvi₃.sub (fun p hp => .tail _ (.tail _ hp))) (.tup (.head _) (.cons (.str _ _) (.cons (.str _ _) .nil))) K₅ hit₅
        have ho₅ := own_keep N₄ (.tail _ (.tail _ hvi₃)) K₅ (fun p hp => .tail _ (.tail _ (ho₃ p hp))) hd
        obtain ⟨vt₅, nt₅, hvt₅, rvt₅⟩ := H₅.ht
        try dsimp only
        fail "go"
        try dsimp only
        refine append_mem (by assumption) (by assumption) hvt₅ (by rw [rvt₅.length, List.length_map]; have : (i + 1) * (No + 3) ≤ 4 * (No + 3) := Nat.mul_le_mul_right _ (by omega); omega) (fun h₆ S₆ F₆ N₆ K₆ htx₆ => ?_)
        have H₆ := H₅.addTx (x := x) N₅ hvt₅ rvt₅ K₆ htx₆
        have ho₆ := own_keep N₅ hvt₅ K₆ ho₅ hd
        try dsimp only
        fail "go"
        try dsimp only
        exact .of (by assumption) (by assumption) ho₆ ⟨it, tx, _, _, its, txs, H₆.map (fun y hy => by rcases hy with rfl | rfl | rfl | rfl <;> rfl), hu, by omega, hl, .inr ⟨by omega, x, hxo, rfl, rfl⟩⟩
    case rest =>
      intro f s' hJJ; obtain ⟨rfl, h₃, tk₃, m₃, S₃, rfl, F₃, N₃, ho₃, it, tx, its, txs, its0, txs0, H, hu, hi3, hl, hor⟩ := hJJ
      have hil : its.length ≤ 13 ∧ txs.length ≤ 3 * (No + 3) + 1 := by
        have h1 := hu.len
        have h2 : i * (No + 3) ≤ 3 * (No + 3) := Nat.mul_le_mul_right _ hi3
        rcases hor with ⟨_, rfl, rfl⟩ | ⟨_, s, _, rfl, rfl⟩
        · omega
        · simp only [List.length_append, List.length_cons, List.length_nil]; omega
      have hmb := H.mb
      try dsimp only
      fail "go"
      try dsimp only
      refine For_turns (by assumption) ?_ (by intro _; rfl) hE
      fail "go"
      try dsimp only
      fail "gen"; refine' Tells.use ?tt4 B ?cf4 X ?cn4 T rfl ?cd4 ?cu4 ?ok4 ?er4; (case cf4 => assumption); (case cn4 => assumption); (case tt4 => exact take_k w _ b q 4 _ (by decide) (by decide) H.bx); (case cd4 => first | exact bud hdp (by decide) | exact bud hdp (by omega) | omega); (case cu4 => first | exact bud3 hun (by decide) | exact bud3 hun (by omega) | omega); (try (case er4 => exact fun _ _ _ _ _ _ _ _ _ h => h.elim))
      intro r news₄ h₄ tk₄ F₄ N₄ hJJ; obtain ⟨hb₄, K₄, k4, t₄, rfl, hk4'⟩ := hJJ
      have H₄ := H.call N₃ K₄ hb₄
      have ho₄ := own_keepB N₃ H.bx K₄ ho₃ hd
      try dsimp only
      fail "go"
      try dsimp only
      have hRg4 := (by assumption : IsRange _ _ 0 ((k4 : Int).fdiv 3) 1 _ _ _)
      have e4 := fdiv_nat k4 3
      rw [show ((3 : Nat) : Int) = 3 from rfl] at e4
      rw [e4] at hRg4
      refine iter_R (n := k4 / 3) (AhJ news b q z tz it tx its txs own) rfl hRg4 (small_R _ (by omega)) (size_R _) (by assumption) (by assumption) ⟨by simpa using H₄, ho₄⟩ ?up2 ?turn2 ?done2
      case up2 =>
        intro I hI j m S S' hJJ c; obtain ⟨H, ho⟩ := hJJ
        exact ⟨H.carry c (noI H₄.kb hb₄ hI), fun p hp => c.go _ (ho p hp) (hI p (ho₄ p hp))⟩
      case turn2 =>
        intro j tj m₅ h₅ tk₅ S₅ own₅ hj F₅ N₅ ho₅ hd₅ hJJ; obtain ⟨H₅, ho₅'⟩ := hJJ
        obtain ⟨vi, ni, hvi, rvi⟩ := H₅.hi
        have hmi := H₅.mi
        have hmt := H₅.mt
        fail "go"
        try dsimp only
        refine append_mem (by assumption) (by assumption) (.tail _ hvi) (by rw [rvi.length, List.length_map]; simp only [List.length_append, List.length_replicate]; omega) (fun h₆ S₆ F₆ N₆ K₆ hit₆ => ?_)
        have NP := (by assumption : News _ _ _ (_ :: S₅))
        have H₆ := (H₅.sub (fun p hp => .tail _ hp)).addIt (i := .ahead) NP (.tail _ hvi) (rvi.sub (fun p hp => .tail _ hp)) (.tup (.head _) (.cons (.str _ _) (.cons (.str _ _) .nil))) K₆ hit₆
        have ho₆ := own_keep NP (.tail _ hvi) K₆ (fun p hp => .tail _ (ho₅ p hp)) hd₅
        have ho₆' := own_keep NP (.tail _ hvi) K₆ (fun p hp => .tail _ (ho₅' p hp)) hd
        obtain ⟨vt, nt, hvt, rvt⟩ := H₆.ht
        try dsimp only
        fail "go"
        try dsimp only
        refine append_mem (by assumption) (by assumption) hvt (by rw [rvt.length, List.length_map]; simp only [List.length_append, List.length_replicate]; omega) (fun h₇ S₇ F₇ N₇ K₇ htx₇ => ?_)
        have H₇ := H₆.addTx (x := "-") N₆ hvt rvt K₇ htx₇
        have ho₇ := own_keep N₆ hvt K₇ ho₆ hd₅
        have ho₇' := own_keep N₆ hvt K₇ ho₆' hd
        try dsimp only
        fail "go"
        try dsimp only
        rw [rep_one, rep_one] at H₇
        exact (mkE3 ⟨S₇, rfl, by assumption, by assumption, ho₇, H₇.map (fun y hy => by rcases hy with rfl | rfl | rfl | rfl <;> rfl), ho₇'⟩)
      case done2 =>
        intro m₅ S₅ h₅ tk₅ F₅ N₅ hJJ; obtain ⟨H₅, ho₅⟩ := hJJ
        have hmb := H₅.mb
        have hmd := H₅.md
        fail "go"
        try dsimp only
        fail "gen"; refine' Tells.use ?tt5 B ?cf5 X ?cn5 T rfl ?cd5 ?cu5 ?ok5 ?er5; (case cf5 => assumption); (case cn5 => assumption); (case tt5 => exact IH _ b q _ _ rfl H₅.bx); (case cd5 => first | exact bud hdp (by decide) | exact bud hdp (by omega) | omega); (case cu5 => first | exact bud3 hun (by decide) | exact bud3 hun (by omega) | omega); (try (case er5 => exact fun _ _ _ _ _ _ _ _ _ h => h.elim))
        intro r news₆ h₆ tk₆ F₆ N₆ hJJ; obtain ⟨T2, tl2, v2, tv2, n21, n22, tx2, d2, rfl, hb₆, K₆, hT2, htl2, hfr2, hrs2, hrd2, hR2, hn2⟩ := hJJ
        have H₆ := H₅.call N₅ K₆ hb₆
        have ho₆ := own_keepB N₅ H₅.bx K₆ ho₅ hd
        have tn6 := KeptB.tupNe N₆ hb₆
        obtain ⟨vi5, ni5, hvi5, _⟩ := H₅.hi
        obtain ⟨vt5, nt5, hvt5, _⟩ := H₅.ht
        have nit : tl2 ≠ it := fun e => hfr2 _ hvi5 e.symm
        have ntx : tl2 ≠ tx := fun e => hfr2 _ hvt5 e.symm
        try dsimp only
        fail "go"
        try dsimp only
        have N6c := (by assumption : News _ _ _ news₆)
        fail "gen"; refine' Tells.use ?tt6 B ?cf6 X ?cn6 T rfl ?cd6 ?cu6 ?ok6 ?er6; (case cf6 => assumption); (case cn6 => assumption); (case tt6 => exact take_k w _ b q 5 _ (by decide) (by decide) hb₆); (case cd6 => first | exact bud hdp (by decide) | exact bud hdp (by omega) | omega); (case cu6 => first | exact bud3 hun (by decide) | exact bud3 hun (by omega) | omega); (try (case er6 => exact fun _ _ _ _ _ _ _ _ _ h => h.elim))
        intro r news₇ h₇ tk₇ F₇ N₇ hJJ; obtain ⟨hb₇, K₇, k7, t₇, rfl, hk7⟩ := hJJ
        have H₇ := H₆.call N6c K₇ hb₇
        have ho₇ := own_keepB N6c hb₆ K₇ ho₆ hd
        have htl7 := K₇.lst H₅.bx hfr2 htl2
        have hrs7 := hrs2.mono fun p hp hc => K₇ p hp (tn6 p hp hc).1 (tn6 p hp hc).2
        have hrd7 := hrd2.mono fun p hp hc => K₇ p hp (tn6 p hp hc).1 (tn6 p hp hc).2
        clear htl2 hrs2 hrd2 hT2
        have e7 := fdiv_nat k7 4
        rw [show ((4 : Nat) : Int) = 4 from rfl] at e7
        try dsimp only
        fail "go"
        try dsimp only
        refine For_turns (by assumption) ?_ (by intro _; rfl) hE
        fail "go"
        try dsimp only
        have hRg7 := (by assumption : IsRange _ _ 0 ((k7 : Int).fdiv 4) 1 _ _ _)
        rw [e7] at hRg7
        refine iter_R (n := k7 / 4) (MkJ news b q z tz it tx (its ++ List.replicate (k4 / 3) .ahead) (txs ++ List.replicate (k4 / 3) "-") own tl2 tv2 n22 tx2 d2 ((k7 : Int).fdiv 4) _) rfl hRg7 (small_R _ (by omega)) (size_R _) (by assumption) (by assumption) ⟨H₇.map (fun y hy => by rcases hy with rfl | rfl | rfl | rfl <;> rfl), ho₇, rfl, rfl, htl7, hrs7, v2, rfl, hrd7⟩ ?up3 ?turn3 ?done3
        case up3 =>
          intro I hI j m S S' hJJ c; obtain ⟨H, ho, a1, a2, a3, a4, v, a5, a6⟩ := hJJ
          exact ⟨H.carry c (noI H₇.kb hb₇ hI), fun p hp => c.go _ (ho p hp) (hI p (ho₇ p hp)), a1, a2, c.lst a3, c.rds a4, v, a5, c.rd a6⟩
        case turn3 =>
          intro j tj m₈ h₈ tk₈ S₈ own₈ hj F₈ N₈ ho₈ hd₈ hJJ; obtain ⟨H₈, ho₈', a1, a2, a3, a4, v, a5, a6⟩ := hJJ
          fail "go"
          try dsimp only
          refine (mkE4 ⟨rfl, by assumption, by assumption, fun p hp => .tail _ (.tail _ (ho₈ p hp)), (H₈.sub (fun p hp => .tail _ (.tail _ hp))).map (fun y hy => by rcases hy with rfl | rfl | rfl | rfl <;> rfl), fun p hp => .tail _ (.tail _ (ho₈' p hp)), ?_, ?_, .tail _ (.tail _ a3), a4.sub (fun p hp => .tail _ (.tail _ hp)), _, rfl, ?_⟩)
          · exact a1
          · exact a2
          · rw [facN]; fail "rd"
        case done3 =>
          intro m₈ S₈ h₈ tk₈ F₈ N₈ hJJ; obtain ⟨H₈, ho₈, a1, a2, a3, a4, v, a5, a6⟩ := hJJ
          obtain ⟨vi, ni, hvi, rvi⟩ := H₈.hi
          have hmi := H₈.mi
          fail "go"
          try dsimp only
          refine append_mem (by assumption) (by assumption) (.tail _ hvi) (by rw [rvi.length, List.length_map]; simp only [List.length_append, List.length_replicate]; omega) (fun h₉ S₉ F₉ N₉ K₉ hit₉ => ?_)
          have NP := (by assumption : News _ _ _ (_ :: S₈))
          have H₉ := (H₈.sub (fun p hp => .tail _ hp)).addIt (i := .term (facN (k7 / 4) d2)) NP (.tail _ hvi) (rvi.sub (fun p hp => .tail _ hp)) (.tup (.head _) (.cons (.str _ _) (.cons (a6.sub (fun p hp => .tail _ hp)) .nil))) K₉ hit₉
          have ho₉ := own_keep NP (.tail _ hvi) K₉ (fun p hp => .tail _ (ho₈ p hp)) hd
          have htl9 := K₉ _ (.tail _ a3) nit
          have hrs9 := Kept.rdsL NP (.tail _ hvi) K₉ (a4.sub (fun p hp => .tail _ hp))
          obtain ⟨vt, nt, hvt, rvt⟩ := H₉.ht
          have hmt := H₉.mt
          have hl1 := rvt.length
          have hl2 := hrs9.length
          simp only [List.length_map, List.length_append, List.length_replicate] at hl1 hl2
          try dsimp only
          fail "go"
          try dsimp only
          have hkj : k7 / 4 ≤ 1 := by omega
          refine (mkE4 ⟨rfl, by assumption, by assumption, fun p hp => .tail _ (.tail _ (.tail _ (.tail _ (ho₉ p hp)))), ?_⟩)
          exact RowJ.fin H₉ (fun p hp => .tail _ (.tail _ (.tail _ hp))) (by assumption) rvt hrs9 hu hor hR2 hn2 (by omega) hkj hi3 hl rfl (fun y hy => by rcases hy with rfl | rfl | rfl <;> rfl)
end

-- L9
section
theorem written_tells (w : World) (news : Led) (b q l : Addr) (vs : List Value) (n : Nat) (txs : List String) (hb : BoxIn news b q) (hl : (l, lstOf vs n) ∈ news) (hrs : Rds news vs (txs.map strD)) (hlb : l ≠ b) (hlq : l ≠ q) (hp : ∀ t ∈ txs, t ∈ pieceL) (hn : txs.length ≤ 1000) :
   Tells w 373 10 100 news [.ref b, .ref l] (fun news' r => BoxIn news' b q ∧ KeptB b q news news' ∧ ∃ x t fs, r = .str x t ∧ txs.length = fs.length ∧ (∀ f ∈ fs, f ∈ fillL) ∧ x.cps.toList = wr txs fs ∧ x.length ≤ 28000) noEr := by
  k_dflt (refine' enter [(Str.ofString "box", .ref b), (Str.ofString "texts", .ref l)] ?k6 ?k7 ?k8 ?k9 ?c1 ?c2 ?c3 ?c4 (by decide) (by decide) ?_; ((case k6 => k_is); (case k7 => k_is); (case k8 => exact rfl); (case k9 => exact rfl); (case c1 => exact rfl); (case c2 => exact rfl); (case c3 => exact rfl); (case c4 => decide)))
  intro dp un gd outer mean mg mb A₀ base g L s Q E B F X N T lv hdp hun ret er hE
  fail "go"
  try dsimp only
  refine For_turns (by assumption) ?_ (by intro _; rfl) hE
  fail "go"
  try dsimp only
  refine iter_L (WrJ news b q txs) rfl (by assumption) (by assumption) hl (mkE2 ⟨[], [], txs, rfl, rfl, rfl, by simp, rfl, rfl, hrs, hb, .refl, by decide⟩) ?up ?turn ?done
  case up =>
    intro I hI r m S S' hJJ c; obtain ⟨x, tk, fs, dn, rest, e1, e2, e3, e4, e5, e6, e7, H8, H9, e10⟩ := hJJ
    obtain ⟨seed, ts, n, vs, n2, hbm, hqm, rr⟩ := H8
    exact ⟨x, tk, fs, dn, rest, e1, e2, e3, e4, e5, e6, c.rds e7, ⟨seed, ts, n, vs, n2, c.lst hbm, c.lst hqm, rr⟩, fun p hp h1 h2 => c.go _ (H9 p hp h1 h2) (hI p hp), e10⟩
  case done =>
    intro m₁ S h₂ tk₂ F₂ N₂ hJJ; obtain ⟨x, tk, fs, dn, rest, e1, e2, e3, e4, e5, e6, e7, H8, H9, e10⟩ := hJJ
    have hrest : rest = [] := by
      have := e7.length
      simp only [List.length_nil, List.length_map] at this
      exact List.length_eq_zero_iff.mp this.symm
    subst hrest
    rw [List.append_nil] at e6
    subst e6
    fail "go"
    try dsimp only
    exact ret (.ret _) _ _ _ _ (by assumption) (by assumption) (⟨H8, H9, x, _, fs, rfl, e3, e4, e5, by omega⟩)
  case turn =>
    intro v r m₁ h₂ tk₂ S own F₂ N₂ ho hd hown hJJ; obtain ⟨x, tk, fs, dn, rest, e1, e2, e3, e4, e5, e6, e7, H8, H9, e10⟩ := hJJ
    fail "gen"
    obtain ⟨tt, rest, rfl⟩ : ∃ a b, rest = a :: b := by
      cases rest with
      | nil => have := e7.length; simp at this
      | cons a b => exact ⟨a, b, rfl⟩
    obtain ⟨tv, rfl, hr⟩ : ∃ tv, v = .str (Str.ofString tt) tv ∧ Rds S r (rest.map strD) := by
      rw [List.map_cons] at e7
      cases e7 with | cons a b => cases a; exact ⟨_, rfl, b⟩
    have htp : tt ∈ pieceL := hp tt (by rw [← e6]; simp)
    have htl := piece_len tt htp
    have hdn : dn.length + 1 + rest.length ≤ 1000 := by rw [← e6] at hn; simp only [List.length_append, List.length_cons] at hn; omega
    have hz1 : x.length + (Str.ofString tt).length ≤ sizeLine := by rw [show sizeLine = 16777216 from rfl]; omega
    have hmb := e2
    fail "go"
    try dsimp only
    have hlt := (by assumption : ∀ p ∈ S, p.1 < _)
    have NL := (by assumption : News _ _ _ (_ :: S))
    fail "gen"; refine' Tells.use ?tt1 B ?cf1 X ?cn1 T rfl ?cd1 ?cu1 ?ok1 ?er1; (case cf1 => assumption); (case cn1 => assumption); (case tt1 => exact take_k w _ b q 5 _ (by decide) (by decide) (H8.sub (fun p hp => .tail _ hp))); (case cd1 => first | exact bud hdp (by decide) | exact bud hdp (by omega) | omega); (case cu1 => first | exact bud3 hun (by decide) | exact bud3 hun (by omega) | omega); (try (case er1 => exact fun _ _ _ _ _ _ _ _ _ h => h.elim))
    intro r₃ news₃ h₃ tk₃ F₃ N₃ hJJ; obtain ⟨hb₃, K₃, k2, t₃, rfl, hk2⟩ := hJJ
    have ho₃ := own_keepBL NL (H8.sub (fun p hp => .tail _ hp)) K₃ (fun p hp => .tail _ (ho p hp)) hd hlb hlq
    have N₃' := news_cons N₃ (kept_new K₃ H8 hlt)
    have hr₃' := KeptB.rds NL (H8.sub (fun p hp => .tail _ hp)) K₃ (hr.sub (fun p hp => .tail _ hp))
    clear N₃
    have hcase : k2 = 0 ∨ k2 = 1 ∨ k2 = 2 ∨ k2 = 3 ∨ k2 = 4 := by omega
    try dsimp only
    rcases hcase with rfl | rfl | rfl | rfl | rfl
    · have hz2 : (x ++ Str.ofString tt).length + (Str.ofString " ").length ≤ sizeLine := by
        rw [str_add_len, show (Str.ofString " ").length = 1 from by decide, show sizeLine = 16777216 from rfl]; omega
      fail "go"
      try dsimp only
      refine (mkE4 ⟨rfl, by assumption, by assumption, fun p hp => .tail _ (ho₃ p hp), _, _, fs ++ [" "], dn ++ [tt], rest, rfl, ?_, by simp [e3], ?_, ?_, by rw [← e6]; simp, hr₃'.sub (fun p hp => .tail _ hp), hb₃.sub (fun p hp => .tail _ hp), (H9.trans (fun p hp h1 h2 => K₃ p (.tail _ hp) h1 h2)).trans (.of_sub (fun p hp => .tail _ hp)), ?_⟩)
      · exact hmb
      · intro f hf
        rcases List.mem_append.mp hf with h | h
        · exact e4 f h
        · rw [List.mem_singleton.mp h]; decide
      · rw [str_add, str_add, e5, wr_snoc _ _ _ _ e3, List.append_assoc]
      · rw [str_add_len, str_add_len, show (Str.ofString " ").length = 1 from by decide]; simp only [List.length_append, List.length_cons, List.length_nil]; omega
    · have hz2 : (x ++ Str.ofString tt).length + (Str.ofString "\n").length ≤ sizeLine := by
        rw [str_add_len, show (Str.ofString "\n").length = 1 from by decide, show sizeLine = 16777216 from rfl]; omega
      fail "go"
      try dsimp only
      refine (mkE4 ⟨rfl, by assumption, by assumption, fun p hp => .tail _ (ho₃ p hp), _, _, fs ++ ["\n"], dn ++ [tt], rest, rfl, ?_, by simp [e3], ?_, ?_, by rw [← e6]; simp, hr₃'.sub (fun p hp => .tail _ hp), hb₃.sub (fun p hp => .tail _ hp), (H9.trans (fun p hp h1 h2 => K₃ p (.tail _ hp) h1 h2)).trans (.of_sub (fun p hp => .tail _ hp)), ?_⟩)
      · exact hmb
      · intro f hf
        rcases List.mem_append.mp hf with h | h
        · exact e4 f h
        · rw [List.mem_singleton.mp h]; decide
      · rw [str_add, str_add, e5, wr_snoc _ _ _ _ e3, List.append_assoc]
      · rw [str_add_len, str_add_len, show (Str.ofString "\n").length = 1 from by decide]; simp only [List.length_append, List.length_cons, List.length_nil]; omega
    · have hz2 : (x ++ Str.ofString tt).length + (Str.ofString "/* - */").length ≤ sizeLine := by
        rw [str_add_len, show (Str.ofString "/* - */").length = 7 from by decide, show sizeLine = 16777216 from rfl]; omega
      fail "go"
      try dsimp only
      refine (mkE4 ⟨rfl, by assumption, by assumption, fun p hp => .tail _ (ho₃ p hp), _, _, fs ++ ["/* - */"], dn ++ [tt], rest, rfl, ?_, by simp [e3], ?_, ?_, by rw [← e6]; simp, hr₃'.sub (fun p hp => .tail _ hp), hb₃.sub (fun p hp => .tail _ hp), (H9.trans (fun p hp h1 h2 => K₃ p (.tail _ hp) h1 h2)).trans (.of_sub (fun p hp => .tail _ hp)), ?_⟩)
      · exact hmb
      · intro f hf
        rcases List.mem_append.mp hf with h | h
        · exact e4 f h
        · rw [List.mem_singleton.mp h]; decide
      · rw [str_add, str_add, e5, wr_snoc _ _ _ _ e3, List.append_assoc]
      · rw [str_add_len, str_add_len, show (Str.ofString "/* - */").length = 7 from by decide]; simp only [List.length_append, List.length_cons, List.length_nil]; omega
    · have hz2 : (x ++ Str.ofString tt).length + (Str.ofString " \t").length ≤ sizeLine := by
        rw [str_add_len, show (Str.ofString " \t").length = 2 from by decide, show sizeLine = 16777216 from rfl]; omega
      fail "go"
      try dsimp only
      refine (mkE4 ⟨rfl, by assumption, by assumption, fun p hp => .tail _ (ho₃ p hp), _, _, fs ++ [" \t"], dn ++ [tt], rest, rfl, ?_, by simp [e3], ?_, ?_, by rw [← e6]; simp, hr₃'.sub (fun p hp => .tail _ hp), hb₃.sub (fun p hp => .tail _ hp), (H9.trans (fun p hp h1 h2 => K₃ p (.tail _ hp) h1 h2)).trans (.of_sub (fun p hp => .tail _ hp)), ?_⟩)
      · exact hmb
      · intro f hf
        rcases List.mem_append.mp hf with h | h
        · exact e4 f h
        · rw [List.mem_singleton.mp h]; decide
      · rw [str_add, str_add, e5, wr_snoc _ _ _ _ e3, List.append_assoc]
      · rw [str_add_len, str_add_len, show (Str.ofString " \t").length = 2 from by decide]; simp only [List.length_append, List.length_cons, List.length_nil]; omega
    · have hz2 : (x ++ Str.ofString tt).length + (Str.ofString " ").length ≤ sizeLine := by
        rw [str_add_len, show (Str.ofString " ").length = 1 from by decide, show sizeLine = 16777216 from rfl]; omega
      fail "go"
      try dsimp only
      refine (mkE4 ⟨rfl, by assumption, by assumption, fun p hp => .tail _ (ho₃ p hp), _, _, fs ++ [" "], dn ++ [tt], rest, rfl, ?_, by simp [e3], ?_, ?_, by rw [← e6]; simp, hr₃'.sub (fun p hp => .tail _ hp), hb₃.sub (fun p hp => .tail _ hp), (H9.trans (fun p hp h1 h2 => K₃ p (.tail _ hp) h1 h2)).trans (.of_sub (fun p hp => .tail _ hp)), ?_⟩)
      · exact hmb
      · intro f hf
        rcases List.mem_append.mp hf with h | h
        · exact e4 f h
        · rw [List.mem_singleton.mp h]; decide
      · rw [str_add, str_add, e5, wr_snoc _ _ _ _ e3, List.append_assoc]
      · rw [str_add_len, str_add_len, show (Str.ofString " ").length = 1 from by decide]; simp only [List.length_append, List.length_cons, List.length_nil]; omega
end

-- E0
section
def PfCls (h : Heap) : Prop := ∃ nm q bs sn sub ab col dd k0 k1 k2 k3 k5, ∃ mN : Str → Option Value, h.get? 51 = some (excClassObj nm q 51 50 bs [.type "Exception", .type "BaseException", .type "object"] true sn sub ab col dd k0 k1 k2 k3 k5 "Exception.__new__") ∧ h.Ns 50 mN ∧
  mN (Str.ofString "__init__") = some (.ref 48) ∧ mN (Str.ofString "__setattr__") = none ∧ mN (Str.ofString "__getattribute__") = none ∧ mN (Str.ofString "text") = none ∧ mN (Str.ofString "at") = none ∧ ∃ o48, h.get? 48 = some o48 ∧ o48.cls = .type "function"
theorem pf_mk {K : Frag} {h : Heap} (X : K.In h) {nm q bs sn sub ab col dd k0 k1 k2 k3 k5} {c d es n sl} {d' dt' sl'}
    (e1 : K.lookup 51 = some (excClassObj nm q 51 50 bs [.type "Exception", .type "BaseException", .type "object"] true sn sub ab col dd k0 k1 k2 k3 k5 "Exception.__new__"))
    (e2 : K.lookup 50 = some ⟨c, d, .dict es n, sl⟩) (e3 : K.lookup 48 = some ⟨.type "function", d', dt', sl'⟩) (hk : StrKeys es)
    (h1 : nsFind es (Str.ofString "__init__") = some (.ref 48)) (h2 : nsFind es (Str.ofString "__setattr__") = none) (h3 : nsFind es (Str.ofString "__getattribute__") = none) (h4 : nsFind es (Str.ofString "text") = none) (h5 : nsFind es (Str.ofString "at") = none) : PfCls h :=
  ⟨_, _, _, _, _, _, _, _, _, _, _, _, _, _, X _ _ e1, ⟨_, _, _, X _ _ e2, rfl, hk, fun _ => rfl⟩, h1, h2, h3, h4, h5, _, X _ _ e3, rfl⟩
theorem pf_cls (w : World) {h : Heap} (X : (hd.heap_1 w.params).In h) : PfCls h := by
  refine' pf_mk X ?e1 ?e2 ?e3 ?h0 ?h1 ?h2 ?h3 ?h4 ?h5
  case e1 => k_is
  case e2 => k_is
  case e3 => k_is
  case h0 => unfold StrKeys; simp
  case h1 => rfl
  case h2 => rfl
  case h3 => rfl
  case h4 => rfl
  case h5 => rfl
end

-- E1
section
open Builtin Builtin.ObjectAttr
section
variable {prog : Program} {w : World} {A : Around} {E : Value → Shared → Prop} {h : Heap} {g : Array GenState} {d : Drawn} {t : Nat} {os : OsState} {e dx : Addr} {vs : Array Value} {name : Str} {v : Value} {es es' : List DictEntry} {n n' : Nat}
theorem upd_get {o o' : Obj} {f : Obj → Obj} {b : Addr} (he : h.get? b = some o) (hf : f o = o') (hfr : o'.isFreed = false) : (h.update b f).get? b = some o' := by
  subst hf
  exact Heap.get?_update_self _ he hfr
theorem putL_len (name : Str) (hsh : Int) (key v : Value) : ∀ es : List DictEntry, (putL name hsh key v es).length ≤ es.length + 1
  | [] => Nat.le_refl _
  | e :: r => by
    unfold putL
    split
    · simp
    · simpa using putL_len name hsh key v r
theorem pf_store (P : PfCls h) (hna : name = Str.ofString "text" ∨ name = Str.ofString "at") {od : Option Addr} (he : h.get? e = some ⟨.ref 51, od, .fields vs, #[]⟩) {Q : Unit → Shared → Prop}
    (h0 : od = none → ∀ h', h'.get? e = some ⟨.ref 51, some h.objs.size, .fields vs, #[]⟩ → h'.get? h.objs.size = some (dictOf (putL name (PyData.keyHash w.params name) (.str name (t + 1)) v []) (putN name [] 0)) → (∀ b o, b ≠ e → h.get? b = some o → h'.get? b = some o) → Q () ⟨h', g, d, t + 2, os⟩)
    (h1 : ∀ dx, od = some dx → h.get? dx = some (dictOf es n) ∧ es.any (·.refKey) = false ∧ es.length ≤ 1000 ∧ ∀ h', h'.get? dx = some (dictOf (putL name (PyData.keyHash w.params name) (.str name (t + 1)) v es) (putN name es n)) → (∀ b o, b ≠ dx → h.get? b = some o → h'.get? b = some o) → Q () ⟨h', g, d, t + 2, os⟩) :
    wpAny (model prog w) A (setAttr (.ref e) name v) Q E ⟨h, g, d, t, os⟩ := by
  obtain ⟨nm, q, bs, sn, sub, ab, col, dd, k0, k1, k2, k3, k5, mN, hC, hn, hi, hns, hga, htx, hat, _⟩ := P
  have hna' : mN name = none := by
    rcases hna with rfl | rfl
    · exact htx
    · exact hat
  have hB : typeLookup (.type "Exception") name = pure none := by
    rcases hna with rfl | rfl
    · rw [typeLookup_type, builtinLookup_eq_fast]; kernel_rfl
    · rw [typeLookup_type, builtinLookup_eq_fast]; kernel_rfl
  have SF := PySem.F.store_Exception
  have hpass := SF.passes (.ref e)
  have f3 := SF.slot.bind (.ref e)
  unfold setAttr callSpecial? specialOf
  repeat (any_goals (first | assumption | (with_reducible refine wpAny_loadPart_at he ?_) | (with_reducible refine wpAny_typeLookup_exc hC hn SF.mro SF.slot.lookup ?_; rw [hns]) | wp_step))
  show codeAny _ _ (.call (.builtin "object.__setattr__") ⟨[.ref e, .str name t, v], []⟩) _ _
  have L1 : Looks (model prog w) h (typeOf (.ref e)) (.ref 51) := (Looks.ld he).andThen .now
  have sub : Looks (model prog w) h (isInstance (.ref e) (.type "object")) true := L1.andThen (fun A' Q' E' s' k q => by
    obtain ⟨h', g', d', t', os'⟩ := s'
    refine wpAny_isSubtype_exc (k _ _ hC) ?_
    rw [show (Value.ref 51 :: [Value.type "Exception", .type "BaseException", .type "object"]).contains (.type "object") = true from by decide +kernel]
    exact q)
  refine codeAny_call_builtin SF.slot.plain SF.entry (@check_slot (model prog w) _ _ ⟨h, g, d, t + 1, os⟩ "object.__setattr__" "object" "__setattr__" (.ref e) [.str name t, v] [] _ SF.kind SF.split sub (SF.args (.ref e) (.str name t) v) ?_)
  rw [osa_eq, refuse_eq]
  refine wpAny_bind (wpAny_bind (L1.here (wpAny_bind (wpAny_mroOf_exc hC ?_))))
  rw [refuseLoop_ref, hpass]
  refine wpAny_pure (wpAny_bind (L1.here (wpAny_bind (wpAny_typeLookup_exc hC hn SF.mro hB ?_))))
  rw [hna']
  refine wpAny_bind (wpAny_pure ?_)
  have L2 : ∀ (Q' : ClassData → Shared → Prop) E' A' g' d' t' os', (∀ cd : ClassData, cd.hasDict = true → Q' cd ⟨h, g', d', t', os'⟩) → wpAny (model prog w) A' (classData 51) Q' E' ⟨h, g', d', t', os'⟩ := fun Q' E' A' g' d' t' os' hq => by
    unfold classData
    exact wpAny_bind (wpAny_load hC (wpAny_pure (hq _ rfl)))
  refine wpAny_bind (wpAny_pure (wpAny_bind (wpAny_bind (wpAny_loadPart he (wpAny_bind (L2 _ _ _ _ _ _ _ fun cd hcd => ?_))))))
  rw [hcd]
  dsimp only [Bool.not_true, Bool.false_eq_true, if_false]

  have fin : ∀ {dx : Addr} {es : List DictEntry} {n : Nat} {h' : Heap} {Q' : Fin → Shared → Prop} {E' : Value → Shared → Prop} {A' : Around}, h'.get? dx = some (dictOf es n) → es.any (·.refKey) = false → es.length ≤ 1000 →
      (∀ h'', h''.get? dx = some (dictOf (putL name (PyData.keyHash w.params name) (.str name (t + 1)) v es) (putN name es n)) → (∀ b o, b ≠ dx → h'.get? b = some o → h''.get? b = some o) → Q' (.done (.ret .none)) ⟨h'', g, d, t + 2, os⟩) →
      wpAny (model prog w) A' (storeInDict dx (.str name t) name v) Q' E' ⟨h', g, d, t + 1, os⟩ := by
    intro dx es n h' Q' E' A' hd hr hz hq
    have e2 := putName_dict name (PyData.keyHash w.params name) (.str name (t + 1)) v es n
    have D' := upd_get (f := Obj.putName name (PyData.keyHash w.params name) (.str name (t + 1)) v) hd e2 rfl
    unfold storeInDict newKeyGuard nsSet
    refine wpAny_bind (wpAny_pure (wpAny_bind (wpAny_bind (wpAny_bind (wpAny_askSetting (wpAny_pure (wpAny_bind (wpAny_mkText (wpAny_bind (wpAny_loadPart hd ?_))))))))))
    dsimp only
    have c : (!(es.toArray.any (·.key.isStr name)) && es.toArray.any (·.refKey)) = false := by
      rw [List.any_toArray, List.any_toArray, hr, Bool.and_false]
    rw [aRefKeyMayBeTheName_at, c]
    refine wpAny_updatePart hd ?_
    have hz' : (putL name (PyData.keyHash w.params name) (.str name (t + 1)) v es).length ≤ 1001 := Nat.le_trans (putL_len _ _ _ _ _) (by omega)
    refine wpAny_bind (wpAny_lookBehind D' (pastItsLine_dict (by rw [List.size_toArray, sizeLine_eq]; omega)) ?_)
    exact wpAny_pure (hq _ D' fun b o hb ho => (Heap.get?_update_ne _ _ _ _ hb).trans ho)
  cases od with
  | none =>
    dsimp only
    rw [if_neg (by simp [typeHasDict])]
    refine wpAny_bind (wpAny_alloc' (wpAny_bind (wpAny_update' (Heap.get?_push_of_some _ he) (wpAny_pure ?_))))
    have hne : e ≠ h.objs.size := Nat.ne_of_lt (Heap.lt_size he)
    have he₁ := upd_get (f := fun o => { cls := o.cls, dict := some h.objs.size, data := o.data, slots := o.slots }) (Heap.get?_push_of_some ({ cls := .type "dict", data := .dict #[] } : Obj) he) rfl rfl
    have hd₁ : ((h.push { cls := .type "dict", data := .dict #[] }).update e fun o => { cls := o.cls, dict := some h.objs.size, data := o.data, slots := o.slots }).get? h.objs.size = some (dictOf [] 0) :=
      (Heap.get?_update_ne _ _ _ _ hne.symm).trans (Heap.get?_push_at rfl rfl)
    refine fin hd₁ rfl (by decide) fun h'' k1 k2 => ?_
    refine wpAny_pure (wpAny_pure (h0 rfl h'' (k2 _ _ hne he₁) k1 fun b o hb ho => k2 _ _ (Nat.ne_of_lt (Heap.lt_size ho)) ((Heap.get?_update_ne _ _ _ _ hb).trans (Heap.get?_push_of_some _ ho))))
  | some dx =>
    dsimp only
    obtain ⟨hd, hr, hz, hq⟩ := h1 dx rfl
    refine wpAny_pure (fin hd hr hz fun h'' k1 k2 => ?_)
    exact wpAny_pure (wpAny_pure (hq h'' k1 k2))
end
end

-- E2
section
abbrev pfRaw (t : Addr) : Obj := { cls := .ref 51, data := .fields #[.ref t, .none, .none, .none, .bool false, .none] }
theorem news_put {h₀ h h' : Heap} {L b : Addr} {m : Str → Option Value} {news : Led} {o o' : Obj} (F : Fr h₀ L h m) (N : News h₀ L h news) (hb : (b, o) ∈ news) (hk : ∀ c x, c ≠ b → h.get? c = some x → h'.get? c = some x) (hn : h'.get? b = some o') :
    Fr h₀ L h' m ∧ News h₀ L h' (put b o' news) := by
  have D := N _ hb
  refine ⟨⟨F.ns.at fun x hx => hk _ _ (Ne.symm D.2.1) hx, fun c x q => hk _ _ (fun z => ?_) (F.keep c x q), F.above⟩, fun p hp => ?_⟩
  · rw [z] at q; rw [D.2.2] at q; cases q
  · rcases List.mem_cons.mp hp with rfl | hp
    · exact ⟨hn, D.2⟩
    · have hne := put_off p hp
      have P := N p (List.mem_filter.mp hp).1
      exact ⟨hk _ _ hne P.1, P.2⟩
section
variable {prog : Program} {w : World} {A : Around} {E : Value → Shared → Prop} {s : Shared} {e t0 L : Addr} {h₀ : Heap} {m : Str → Option Value} {news : Led} {v : Value}
theorem pf_super {Q : Value → Shared → Prop} (P : PfCls s.heap) (F : Fr h₀ L s.heap m) (N : News h₀ L s.heap news) (hm : (e, pfRaw t0) ∈ news)
    (hQ : ∀ h' t1, Fr h₀ L h' m → News h₀ L h' (put e (pfRaw t1) news) → Q .none { s with heap := h' }) : wpAny (model prog w) A (call (.builtin "Exception.__init__") [.ref e, v]) Q E s := by
  obtain ⟨nm, q, bs, sn, sub, ab, col, dd, k0, k1, k2, k3, k5, mN, hC, _⟩ := P
  have FE := PySem.F.excBase_Exception
  have he := (N _ hm).1
  obtain ⟨h, g, d, t, os⟩ := s
  refine wpAny_call (codeAny_call_builtin FE.init.plain FE.initEntry (wpAny_check_init_sub FE hC he rfl ?_))
  wp_walk
  have hne : e ≠ h.objs.size := Nat.ne_of_lt (Heap.lt_size he)
  have he₁ := upd_get (f := Obj.mapFields fun x => x.setIfInBounds 0 (Value.ref h.objs.size)) (Heap.get?_push_of_some ({ cls := .type "tuple", data := .seq #[v] } : Obj) he) rfl rfl
  obtain ⟨F', N'⟩ := news_put F N hm (fun c x hc hx => (Heap.get?_update_ne _ _ _ _ hc).trans (Heap.get?_push_of_some _ hx)) he₁
  exact hQ _ h.objs.size F' N'

theorem pf_set1 {name : Str} {Q : Unit → Shared → Prop} (P : PfCls s.heap) (hna : name = Str.ofString "text" ∨ name = Str.ofString "at") (F : Fr h₀ L s.heap m) (N : News h₀ L s.heap news) (hm : (e, pfRaw t0) ∈ news)
    (hQ : ∀ dx h', Fr h₀ L h' m → News h₀ L h' ((dx, dictOf (putL name (PyData.keyHash w.params name) (.str name (s.toks + 1)) v []) (putN name [] 0)) :: put e (pfObj t0 dx) news) → (∀ p ∈ news, p.1 < dx) → Q () { s with heap := h', toks := s.toks + 2 }) :
    wpAny (model prog w) A (setAttr (.ref e) name v) Q E s := by
  obtain ⟨h, g, d, t, os⟩ := s
  have he := (N _ hm).1
  refine pf_store (es := []) (n := 0) P hna he (fun _ h' k1 k2 k3 => ?_) fun dx e => by cases e
  obtain ⟨F', N'⟩ := news_put F N hm k3 k1
  refine hQ h.objs.size h' F' (fun p hp => ?_) fun p hp => Heap.lt_size (N p hp).1
  rcases List.mem_cons.mp hp with rfl | hp
  · exact ⟨k2, Nat.ne_of_gt F.ns.lt, none_at_size (s := ⟨h, g, d, t, os⟩) F⟩
  · exact N' p hp
theorem pf_set2 {name : Str} {Q : Unit → Shared → Prop} {dx : Addr} {es : List DictEntry} {n : Nat} (P : PfCls s.heap) (hna : name = Str.ofString "text" ∨ name = Str.ofString "at") (F : Fr h₀ L s.heap m) (N : News h₀ L s.heap news) (hm : (e, pfObj t0 dx) ∈ news) (hd : (dx, dictOf es n) ∈ news)
    (hr : es.any (·.refKey) = false) (hz : es.length ≤ 1000)
    (hQ : ∀ h', Fr h₀ L h' m → News h₀ L h' (put dx (dictOf (putL name (PyData.keyHash w.params name) (.str name (s.toks + 1)) v es) (putN name es n)) news) → Q () { s with heap := h', toks := s.toks + 2 }) :
    wpAny (model prog w) A (setAttr (.ref e) name v) Q E s := by
  obtain ⟨h, g, d, t, os⟩ := s
  have he := (N _ hm).1
  refine pf_store (es := es) (n := n) P hna he (fun e => by cases e) fun dx' hdx => ?_
  cases hdx
  refine ⟨(N _ hd).1, hr, hz, fun h' k1 k2 => ?_⟩
  obtain ⟨F', N'⟩ := news_put F N hd k2 k1
  exact hQ h' F' N'
end
theorem PfCls.keeps {h h' : Heap} (P : PfCls h) (k : ∀ b o, h.get? b = some o → h'.get? b = some o) : PfCls h' := by
  obtain ⟨nm, q, bs, sn, sub, ab, col, dd, k0, k1, k2, k3, k5, mN, hC, hn, a1, a2, a3, a4, a5, o48, b1, b2⟩ := P
  exact ⟨nm, q, bs, sn, sub, ab, col, dd, k0, k1, k2, k3, k5, mN, k _ _ hC, hn.keeps k, a1, a2, a3, a4, a5, o48, k _ _ b1, b2⟩

theorem pf_init (w : World) (news : Led) (e t0 : Addr) (tx : Str) (t t' : Tok) (at_ : Int) (he : (e, pfRaw t0) ∈ news) :
    TellsC w 48 1 10 news [.ref e, .str tx t, .int at_ t'] (fun news' r => r = .none ∧ ∃ t1 dx odx, (e, pfObj t1 dx) ∈ news' ∧ (dx, odx) ∈ news' ∧ SaysAt odx at_ ∧ dx ≠ e ∧ ∀ p ∈ news, p.1 ≠ e → p ∈ news' ∧ p.1 ≠ dx) noEr := by
  k_dflt (refine' enterC [(Str.ofString "self", .ref e), (Str.ofString "text", .str tx t), (Str.ofString "at", .int at_ t')] ?k6 ?k7 ?k8 ?k9 ?c1 ?c2 ?c3 ?c4 (by decide) (by decide) ?_; ((case k6 => k_is); (case k7 => k_is); (case k8 => exact rfl); (case k9 => exact rfl); (case c1 => exact rfl); (case c2 => exact rfl); (case c3 => exact rfl); (case c4 => decide)))
  intro dp un gd outer mean mg mb A₀ base g L s Q E B F X N T lv hdp hun ret er hE
  fail "go"
  try dsimp only
  refine' method_type (T := "Exception") F X ?t1 ?t2 ?t3 ?t4 ?_
  case t1 => rfl
  case t2 => decide +kernel
  case t3 => k_is
  case t4 => rfl
  fail "go"
  try dsimp only
  refine pf_super ((pf_cls w X).keeps (Fr.keep (by assumption))) (by assumption) (by assumption) he fun h₁ t1 F₁ N₁ => ?_
  have he₁ : (e, pfRaw t1) ∈ put e (pfRaw t1) news := put_new
  try dsimp only
  fail "go"
  try dsimp only
  refine pf_set1 ((pf_cls w X).keeps (Fr.keep (by assumption))) (.inl rfl) (by assumption) (by assumption) he₁ fun dx h₂ F₂ N₂ hlt => ?_
  have hde : e ≠ dx := Nat.ne_of_lt (hlt _ he₁)
  try dsimp only
  fail "go"
  try dsimp only
  refine pf_set2 ((pf_cls w X).keeps (Fr.keep (by assumption))) (.inr rfl) (by assumption) (by assumption) (.tail _ put_new) (.head _) rfl (Nat.le_of_ble_eq_true rfl) fun h₃ F₃ N₃ => ?_
  try dsimp only
  fail "go"
  try dsimp only
  refine ret .next _ _ _ _ (by assumption) (by assumption) ⟨rfl, t1, dx, _, put_old _ (.tail _ put_new) hde, put_new, (mkE3 ⟨rfl, rfl⟩), hde.symm, fun p hp hne => ?_⟩
  have hp1 : p ∈ put e (pfRaw t1) news := put_old _ hp hne
  have hpd : p.1 ≠ dx := Nat.ne_of_lt (hlt _ hp1)
  exact ⟨put_old _ (.tail _ (put_old _ hp1 hne)) hpd, hpd⟩
end

-- E3
section
def PfReady (E : Value → Shared → Prop) (v : Value) (s₁ : Shared) : Prop := ∃ e t dx, v = .ref e ∧ PfCls s₁.heap ∧ s₁.heap.get? e = some (pfObj t dx) ∧ E (.ref e) s₁
theorem PfReady.of {E : Value → Shared → Prop} {s₁ : Shared} {e t dx : Addr} (a : PfCls s₁.heap) (b : s₁.heap.get? e = some (pfObj t dx)) (c : E (.ref e) s₁) : PfReady E (.ref e) s₁ := ⟨e, t, dx, rfl, a, b, c⟩
section
variable {M : Model} {A : Around} {E : Value → Shared → Prop} {env : Env}
theorem raiseStmt_pf {s : Shared} {x : Sem Value} {Q : Flow → Shared → Prop} (hh : A.handled = none)
    (h : wpAny M A x (PfReady E) E s) :
    wpAny M A (raiseStmt env (some x) none) Q E s := by
  unfold raiseStmt
  refine wpAny_bind (wpAny_mono h (fun v s₁ h₁ => ?_) fun _ _ x => x)
  obtain ⟨e, t, dx, rfl, P, he, hE⟩ := h₁
  obtain ⟨nm, q, bs, sn, sub, ab, col, dd, k0, k1, k2, k3, k5, mN, hC, _⟩ := P
  have hcB : (Value.ref 51 :: [Value.type "Exception", .type "BaseException", .type "object"]).contains (.type "BaseException") = true := by decide +kernel
  obtain ⟨hp, g, d, tk, os⟩ := s₁
  repeat (first | with_reducible refine wpAny_loadPart_at he ?_ | with_reducible refine wpAny_loadPart_at hC ?_ | (with_reducible refine wpAny_isSubtype_exc hC ?_; rw [hcB]) | wp_step)
  exact wpAny_raiseNew_none hh hE
theorem exec_raise_pf {s : Shared} {x : Expr} {pos : Pos} {Q : Flow → Shared → Prop} (hh : A.handled = none)
    (h : wpAny M A (eval x env) (PfReady E) E s) :
    wpAny M A (exec (.Raise (some x) none pos) env) Q E s := by
  rw [arm_exec_Raise]
  simp only [evalOpt, Option.map]
  refine wpAny_bind (wpAny_standAt (raiseStmt_pf hh ?_))
  exact wpAny_bind (wpAny_mono h (fun v s₃ h₃ => wpAny_bind (wpAny_standAt (wpAny_pure h₃))) fun _ _ x => x)
end
theorem pf_new {w : World} {dp un : Nat} {gd : Option (List Code)} {cn : Str} {cs : Scope} {a : Addr} {ccd : Value} {cl : List (Str × Addr)} {outer : List Env} {mean : ExcName → Option Value} {mg mb : Str → Option Value}
    {A₀ : Around} {base h₀ : Heap} {L : Addr} {m : Str → Option Value} {s : Shared} {Q E : Value → Shared → Prop} {news : Led} {tx : Str} {t t' : Tok} {at_ : Int}
    (B : Below A₀ base outer h₀) (F : Fr h₀ L s.heap m) (X : (hd.heap_1 w.params).In h₀) (N : News h₀ L s.heap news)
    (T : Top hd.view_39 (looseW hd.view_39 [Str.ofString "TEXT_SIGNS"]) mean mg mb h₀) (hk : cs.kind = .function)
    (hd : dp + 3 < recursionLimit) (hu : un + 14 < cLine)
    (ok : ∀ e t1 dx odx news' h' tk', Fr h₀ L h' m → News h₀ L h' ((e, pfObj t1 dx) :: news') → (∀ p ∈ news', p.1 ≠ e) → (dx, odx) ∈ news' → SaysAt odx at_ → (∀ p ∈ news, p ∈ news') → Q (.ref e) { s with heap := h', toks := tk' }) :
    wpAny (model PySem.Challenge.rw_nn0269_01.row.prog w) (ktrTop dp un gd cn cs L a ccd cl outer) (call (.ref 51) [.str tx t, .int at_ t']) Q E s := by
  have P := (pf_cls w X).keeps F.keep
  obtain ⟨nm, q, bs, sn, sub, ab, col, dd, k0, k1, k2, k3, k5, mN, hC, hn, hi, _, _, _, _, o48, h48, h48c⟩ := P
  obtain ⟨h, g, d, tk, os⟩ := s
  refine wpAny_call_exc_init PySem.F.excBase_Exception hC hn hi h48 h48c (fun h' e hm => ?_) (by show 2 ≤ sizeLine; decide)
  obtain ⟨t0, he, htn, ht⟩ := hm.there
  have hne : ∀ p ∈ news, p.1 ≠ e := fun p hp q => by
    have := (N p hp).1
    rw [q, hm.new] at this
    cases this
  have heL : e ≠ L := fun q => by
    obtain ⟨o, _, _, ho, _⟩ := F.ns
    rw [← q, hm.new] at ho
    cases ho
  have heh : h₀.get? e = none := by
    cases q : h₀.get? e with
    | none => rfl
    | some o =>
      have := F.keep _ _ q
      rw [hm.new] at this
      cases this
  have N' : News h₀ L h' ((e, pfRaw t0) :: news) := fun p hp => by
    rcases List.mem_cons.mp hp with rfl | hp
    · exact ⟨he, heL, heh⟩
    · exact ⟨hm.keeps _ _ (N p hp).1, (N p hp).2⟩
  have F' : Fr h₀ L h' m := F.keeps hm.keeps
  refine (pf_init w _ e t0 tx t t' at_ (.head _)).tells (dp + 1) (un + 1) gd cn cs a ccd cl outer mean mg mb A₀ base h₀ L m ⟨h', g, d, tk, os⟩ _ E B F' X N' T hk (by omega) (by omega) ?_ ?_
  · intro r news' h'' tk' F'' N'' hJJ; obtain ⟨rfl, t1, dx, odx, m1, m2, hs, hde, hold⟩ := hJJ
    refine ⟨rfl, ok e t1 dx odx (news'.filter fun p => decide (p.1 ≠ e)) h'' tk' F'' (news_subset N'' (put_before m1)) put_off (List.mem_filter.mpr ⟨m2, decide_eq_true hde⟩) hs fun p hp => ?_⟩
    exact List.mem_filter.mpr ⟨(hold p (.tail _ hp) (hne p hp)).1, decide_eq_true (hne p hp)⟩
  · intro e at_ g news' h' tk' _ _ _ h
    exact h.elim
end

-- E4
section
section
variable {w : World} {A₀ : Around} {E : Value → Shared → Prop} {s' : Shared} {base G g : Heap} {outer : List Env} {L a e : Addr} {m : Str → Option Value} {name : Str} {scope : Scope} {cd : Value} {n : Str} {b₀ : Stmt} {suite : List Stmt} {pos np : Pos} {rest : List ExceptHandler} {Q : Flow → Shared → Prop} {news : Led} {at_ : Int}
  {p : Program} {loose : List Str} {mean : ExcName → Option Value} {mg mb : Str → Option Value} {x : Str}
theorem FlyAt.there {base h : Heap} {l : List Env} {e dx : Addr} {fl : Value} (x : FlyAt base l e dx fl h) : ∃ oe vs, h.get? e = some oe ∧ oe.cls = .ref 51 ∧ oe.dict = some dx ∧ oe.data = .fields vs := by
  obtain ⟨_, _, _, oe, vs, _, _, _, h1, h2, h3, h4, _⟩ := x
  exact ⟨oe, vs, h1, h2, h3, h4⟩
theorem catch_pf (R : Raised base G (envOf name scope L a cd :: outer) news at_ e s'.heap) (F : Fr g L G m) (K : Below A₀ base outer g) (hsm : G.UpToSlots s'.heap) (XB : (hd.heap_1 w.params).In base) (TB : Top p loose mean mg mb base)
    (ex : nsIn (hd.heap_1 w.params) mainGlobals x = some (some (.ref 51)))
    (k : ∀ h' g' dx odx oe vs tk, KtsTurn (outer.filterMap (·.frame)) g g' → Fr g' L h' (fun y => if y = n then some (.ref e) else m y) → News g' L h' ((e, oe) :: news) → oe.cls = .ref 51 → oe.dict = some dx → oe.data = .fields vs → h'.get? dx = some odx → SaysAt odx at_ → (∀ p ∈ news, p.1 ≠ e) → Below A₀ base outer g' → (hd.heap_1 w.params).In g' → Top p loose mean mg mb g' →
      wpAny (model PySem.Challenge.rw_nn0269_01.row.prog w) ((A₀.deeper (envOf name scope L a cd)).mark (some (.ref e))) (execs (b₀ :: suite) (envOf name scope L a cd))
        (fun f s₄ => wpAny (model PySem.Challenge.rw_nn0269_01.row.prog w) (A₀.deeper (envOf name scope L a cd)) (do bindName (envOf name scope L a cd) n .none; unbindBehindTheSuite (envOf name scope L a cd) n pos) (fun _ s₅ => Q f s₅) E s₄)
        (AsSuiteRaised (model PySem.Challenge.rw_nn0269_01.row.prog w) ((A₀.deeper (envOf name scope L a cd)).mark (some (.ref e))) (envOf name scope L a cd) n pos (notedBy (model PySem.Challenge.rw_nn0269_01.row.prog w) ((A₀.deeper (envOf name scope L a cd)).mark (some (.ref e))) (envOf name scope L a cd) (cameBackBy (model PySem.Challenge.rw_nn0269_01.row.prog w) (A₀.deeper (envOf name scope L a cd)) (envOf name scope L a cd) E)))
        { s' with heap := h', toks := tk })
    (hk : scope.kind = .function := by rfl) (hlo : (envOf name scope L a cd).kindOf n = some .local := by rfl) (hx : (envOf name scope L a cd).kindOf x = some .globalImplicit := by rfl) (hdb : (x == ("__debug__" : Str)) = false := by decide) :
    wpAny (model PySem.Challenge.rw_nn0269_01.row.prog w) (A₀.deeper (envOf name scope L a cd)) (noteFrame (.ref e) (envOf name scope L a cd))
      (fun _ s₂ => wpAny (model PySem.Challenge.rw_nn0269_01.row.prog w) (A₀.deeper (envOf name scope L a cd)) (setFlight (.ref e) none) (fun _ s₃ =>
        wpAny (model PySem.Challenge.rw_nn0269_01.row.prog w) (A₀.deeper (envOf name scope L a cd)) (handleBy (.ref e) (envOf name scope L a cd) (.ExceptHandler (some (.Name x np)) (some n) (b₀ :: suite) pos :: rest)) Q E s₃) E s₂) E s' := by
  obtain ⟨B, dx, odx, hB, hBG, hl, hdx, hdn, hat, hfl⟩ := R
  have hL : B.get? L = none := by
    obtain ⟨_, ⟨L', _, hf, hn', _⟩, _⟩ := hfl.2.2.1
    obtain rfl : L = L' := Option.some.inj hf
    exact hn'
  refine note_on (Around.frames_deeper K.stack) rfl hfl fun h₄ hh₄ hsm₄ => ?_
  refine flight_D hh₄ fun h₅ hh₅ hsm₅' => ?_
  have hsm₅ := hsm₄.trans hsm₅'
  obtain ⟨g₅, T₅, F₅, K₅⟩ := kts_ground K F hBG hh₅.1 (hsm.trans hsm₅)
  have X₅ : (hd.heap_1 w.params).In g₅ := XB.keeps K₅.stays
  have P₅ : TopRead p loose mg mb g₅ := topRead_of (TB.keeps K₅.stays)
  obtain ⟨ob, vb, hob, hobc, _, _⟩ := FlyAt.there hh₅
  obtain ⟨nm, q', bs, sn, sub, ab, col, dd, k0, k1, k2, k3, k5, mN, hC₅, _⟩ := pf_cls w (h := h₅) (X₅.keeps F₅.keep)
  refine wpAny_handleBy_cons (codeAny_handlers_test (name_K F₅ X₅ P₅ ex ?_ hk hx hdb)) (by intro q; cases q)
  refine wpAny_excMatches_sub_self hC₅ hob hobc (by decide +kernel) (codeAny_handlers_suite_as ?_)
  refine flight_D (FlyD.at hh₅) fun h₆ hh₆ hsm₆ => ?_
  obtain ⟨g₆, T₆, F₆, K₆⟩ := kts_ground K F hBG hh₆.1 ((hsm.trans hsm₅).trans hsm₆)
  obtain ⟨oe, ws, hoe, hoec, hoex, hoed⟩ := FlyAt.there hh₆
  have ne₆ : g₆.get? e = none := T₆.none_ _ (kts_fresh F hBG hh₆.2.1 fun o ho m => by
    obtain ⟨_, o', ho', hd⟩ := K.frames.mem m
    rw [ho] at ho'
    cases ho'
    obtain ⟨sl, hs⟩ := ((hsm.trans hsm₅).trans hsm₆) _ _ (F.keep _ _ ho) hd
    rw [hoe] at hs
    cases hs
    exact hd _ hoed)
  have hne : ∀ p ∈ news, p.1 ≠ e := fun p hp q => by
    have := (hl p hp).1
    rw [q, hh₆.2.1] at this
    cases this
  have N₆ : News g₆ L h₆ ((e, oe) :: news) := News.more F₆ (fun q hq => ⟨hh₆.1 _ _ (hl q hq).1, (fun z => by have := (hl q hq).1; rw [z, hL] at this; cases this), T₆.none_ _ (kts_none F.keep (hl q hq).2)⟩) hoe (fun es n q => by rw [hoed] at q; cases q) ne₆
  have hdx₆ : h₆.get? dx = some odx := hh₆.1 _ _ hdx
  have dxL : dx ≠ L := fun z => by rw [z, hL] at hdx; cases hdx
  refine stN F₆ (news := (dx, odx) :: (e, oe) :: news) (fun q hq => ?_) (fun h₇ F₇ N₇ => ?_) hk hlo
  · rcases List.mem_cons.mp hq with rfl | hq
    · exact ⟨hdx₆, dxL, T₆.none_ _ (kts_none F.keep hdn)⟩
    · exact N₆ q hq
  · exact k h₇ g₆ dx odx oe ws _ T₆ F₇ (fun q hq => N₇ q (.tail _ hq)) hoec hoex hoed (N₇ _ (.head _)).1 hat hne K₆ (XB.keeps K₆.stays) (TB.keeps K₆.stays)
end
end

-- E5
section
section
variable {w : World} {A : Around} {E : Value → Shared → Prop} {s : Shared} {e dx : Addr} {oe odx : Obj} {vs : Array Value} {at_ : Int} {Q : Value → Shared → Prop}
open Builtin Builtin.ObjectAttr
theorem pf_getat (X : (hd.heap_1 w.params).In s.heap) (hx : s.heap.get? e = some oe) (hc : oe.cls = .ref 51) (hdx : oe.dict = some dx) (hdat : oe.data = .fields vs) (hD : s.heap.get? dx = some odx) (hat : SaysAt odx at_)
    (hq : ∀ t, Q (.int at_ t) { s with toks := s.toks + 1 }) : wpAny (model PySem.Challenge.rw_nn0269_01.row.prog w) A (getAttr (.ref e) (Str.ofString "at") true) Q E s := by
  have e1 : findIn (hd.heap_1 w.params) (.ref 51) (Str.ofString "__getattribute__") = some (some (.builtin "BaseException.__getattribute__")) := by k_is
  have e2 : findIn (hd.heap_1 w.params) (.ref 51) (Str.ofString "__getattr__") = some none := by k_is
  have e3 : findIn (hd.heap_1 w.params) (.ref 51) (Str.ofString "at") = some none := by k_is
  obtain ⟨es, n, tk, rfl, hg⟩ := hat
  have L0 : Looks (model PySem.Challenge.rw_nn0269_01.row.prog w) s.heap (typeOf (.ref e)) (.ref 51) := (Looks.ld hx).andThen (by rw [hc]; exact .now)
  have L1 := looks_findIn (M := model PySem.Challenge.rw_nn0269_01.row.prog w) X e1
  have L2 := looks_findIn (M := model PySem.Challenge.rw_nn0269_01.row.prog w) X e2
  have L3 := looks_findIn (M := model PySem.Challenge.rw_nn0269_01.row.prog w) X e3
  have KI : Frag.In [(dx, dictOf es n)] s.heap := fun a o h => by
    by_cases q : a = dx
    · subst q
      simp [List.lookup] at h
      rw [← h]; exact hD
    · rw [List.lookup, show (a == dx) = false from beq_eq_false_iff_ne.mpr q] at h
      cases h
  have ne : nsIn [(dx, dictOf es n)] dx (Str.ofString "at") = some (some (.int at_ tk)) := by
    unfold nsIn
    simp [List.lookup]
    unfold getL at hg
    cases hf : es.find? (·.key.isStr (Str.ofString "at")) with
    | none =>
      rw [hf] at hg
      dsimp only at hg
      split at hg <;> cases hg
    | some en =>
      rw [hf] at hg
      simpa using hg
  have L4 := looks_nsIn (M := model PySem.Challenge.rw_nn0269_01.row.prog w) KI ne
  obtain ⟨h, g, d, t, os⟩ := s
  dsimp only at L0 L1 L2 L3 L4 hx hD X
  have f3 := PySem.F.attr_Exception.ga.bind (.ref e)
  unfold getAttr getAttrBy
  refine wpAny_bind (wpAny_mkText (wpAny_holding (wpAny_bind (L0.here (wpAny_bind (L1.here ?_))))))
  dsimp only
  rw [if_neg (by decide +kernel)]
  unfold getAttrByItsOwn
  refine wpAny_bind (show wpAny _ _ (typeLookup (.ref 51) (Str.ofString "__getattr__")) _ _ _ from L2.here ?_)
  repeat (any_goals (first | assumption | wp_step))
  have hk : builtinKind "BaseException.__getattribute__" = some .slot := by decide +kernel
  have hsplit : splitId "BaseException.__getattribute__" = some ("BaseException", "__getattribute__") := by decide +kernel
  have e5 : subIn (hd.heap_1 w.params) (.ref 51) (.type "BaseException") = some true := by k_is
  have sub : Looks (model PySem.Challenge.rw_nn0269_01.row.prog w) h (isInstance (.ref e) (.type "BaseException")) true := L0.andThen (looks_subIn X e5)
  show codeAny _ _ (.call (.builtin "BaseException.__getattribute__") ⟨[.ref e, .str (Str.ofString "at") t], []⟩) _ _
  refine codeAny_call_builtin PySem.F.attr_Exception.ga.plain PySem.F.entry_bexc_ga (@check_slot (model PySem.Challenge.rw_nn0269_01.row.prog w) _ _ ⟨h, g, d, t + 1, os⟩ "BaseException.__getattribute__" "BaseException" "__getattribute__" (.ref e) [.str (Str.ofString "at") t] [] _ hk hsplit sub (PySem.F.args_bexc_ga (.ref e) (.str (Str.ofString "at") t)) ?_)
  obtain ⟨nm, q', bs, sn, sub', ab, col, dd, k0, k1, k2, k3, k5, mN, hC, _⟩ := pf_cls w (h := h) X
  unfold Builtin.«object.__getattribute__»
  repeat (first | with_reducible refine L0.here ?_ | with_reducible refine L3.here ?_ | with_reducible refine L4.here ?_ | (with_reducible refine wpAny_loadPart_at hx ?_) | with_reducible refine wpAny_loadPart_at hC ?_ | wp_step)
  rw [hdat]
  dsimp only
  unfold instanceDict
  repeat (first | (with_reducible refine wpAny_loadPart_at hx ?_; rw [hc]) | with_reducible refine wpAny_loadPart_at hC ?_ | wp_step)
  rw [hdx]
  repeat (first | with_reducible refine L4.here ?_ | wp_step)
  exact hq _
end
end

-- ParDef
section
inductive Res where
  | ok (d : PyData) (ts : List TokP)
  | fail (at_ : Int)

abbrev sg (s : String) : Tk := .sign (Str.ofString s)
abbrev isS (t : TokP) (s : String) : Bool := t.1.isSign (Str.ofString s)

inductive REq (P : List TokP → Res → Prop) : List TokP → Res → Prop
  | one {ts l t ts1} : P ts (.ok l (t :: ts1)) → isS t "=" = false → REq P ts (.ok l (t :: ts1))
  | two {ts l p ts1 r ts2} : P ts (.ok l ((sg "=", p) :: ts1)) → P ts1 (.ok r ts2) → REq P ts (.ok (dEq l r) ts2)
  | bad {ts a} : P ts (.fail a) → REq P ts (.fail a)
  | bad2 {ts l p ts1 a} : P ts (.ok l ((sg "=", p) :: ts1)) → P ts1 (.fail a) → REq P ts (.fail a)

inductive LTotal (P : List TokP → Res → Prop) : Nat → List PyData → List TokP → Res → Prop
  | stop {n acc t ts} : isS t "+" = false → isS t "-" = false → LTotal P n acc (t :: ts) (.ok (dSum acc) (t :: ts))
  | plus {n acc p ts d ts1 r} : acc.length ≤ 1000 → P ts (.ok d ts1) → LTotal P n (acc ++ [d]) ts1 r → LTotal P (n + 1) acc ((sg "+", p) :: ts) r
  | minus {n acc p ts d ts1 r} : acc.length ≤ 1000 → P ts (.ok d ts1) → LTotal P n (acc ++ [dNeg d]) ts1 r → LTotal P (n + 1) acc ((sg "-", p) :: ts) r
  | plusBad {n acc p ts a} : P ts (.fail a) → LTotal P n acc ((sg "+", p) :: ts) (.fail a)
  | minusBad {n acc p ts a} : P ts (.fail a) → LTotal P n acc ((sg "-", p) :: ts) (.fail a)
inductive RTotal (P : List TokP → Res → Prop) : List TokP → Res → Prop
  | go {n ts d ts1 r} : P ts (.ok d ts1) → LTotal P n [d] ts1 r → RTotal P ts r
  | bad {ts a} : P ts (.fail a) → RTotal P ts (.fail a)

inductive LProd (P : List TokP → Res → Prop) : Nat → PyData → List TokP → Res → Prop
  | stop {n acc t ts} : isS t "*" = false → isS t "/" = false → LProd P n acc (t :: ts) (.ok acc (t :: ts))
  | mul {n acc p ts d ts1 r} : P ts (.ok d ts1) → LProd P n (dProd acc d) ts1 r → LProd P (n + 1) acc ((sg "*", p) :: ts) r
  | div {n acc p ts d ts1 r} : P ts (.ok d ts1) → LProd P n (dQuot acc d) ts1 r → LProd P (n + 1) acc ((sg "/", p) :: ts) r
  | mulBad {n acc p ts a} : P ts (.fail a) → LProd P n acc ((sg "*", p) :: ts) (.fail a)
  | divBad {n acc p ts a} : P ts (.fail a) → LProd P n acc ((sg "/", p) :: ts) (.fail a)
inductive RProd (P : List TokP → Res → Prop) : List TokP → Res → Prop
  | go {n ts d ts1 r} : P ts (.ok d ts1) → LProd P n d ts1 r → RProd P ts r
  | bad {ts a} : P ts (.fail a) → RProd P ts (.fail a)

inductive RSigned (S W : List TokP → Res → Prop) : List TokP → Res → Prop
  | neg {p ts d ts1} : S ts (.ok d ts1) → RSigned S W ((sg "-", p) :: ts) (.ok (dNeg d) ts1)
  | negBad {p ts a} : S ts (.fail a) → RSigned S W ((sg "-", p) :: ts) (.fail a)
  | up {t ts r} : isS t "-" = false → isS t "+" = false → W (t :: ts) r → RSigned S W (t :: ts) r

inductive RPower (X S : List TokP → Res → Prop) : List TokP → Res → Prop
  | one {ts b t ts1} : X ts (.ok b (t :: ts1)) → isS t "^" = false → isS t "**" = false → RPower X S ts (.ok b (t :: ts1))
  | pow {ts b t ts1 e ts2} : X ts (.ok b (t :: ts1)) → (t.1 = sg "^" ∨ t.1 = sg "**") → S ts1 (.ok e ts2) → RPower X S ts (.ok (dPow b e) ts2)
  | powBad {ts b t ts1 a} : X ts (.ok b (t :: ts1)) → (t.1 = sg "^" ∨ t.1 = sg "**") → S ts1 (.fail a) → RPower X S ts (.fail a)
  | bad {ts a} : X ts (.fail a) → RPower X S ts (.fail a)

inductive LPost : Nat → PyData → List TokP → Res → Prop
  | stop {n d t ts} : isS t "!" = false → LPost n d (t :: ts) (.ok d (t :: ts))
  | more {n d p ts r} : LPost n (dCall (Str.ofString "factorial") [d]) ts r → LPost (n + 1) d ((sg "!", p) :: ts) r
inductive RPost (P : List TokP → Res → Prop) : List TokP → Res → Prop
  | go {n ts d ts1 r} : P ts (.ok d ts1) → LPost n d ts1 r → RPost P ts r
  | bad {ts a} : P ts (.fail a) → RPost P ts (.fail a)

inductive RPlain (E : List TokP → Res → Prop) (R : String → List TokP → Res → Prop) : List TokP → Res → Prop
  | num {k p ts} : RPlain E R ((.num k, p) :: ts) (.ok (dNum k) ts)
  | name {s p t ts} : isS t "(" = false → RPlain E R ((.name s, p) :: t :: ts) (.ok (dSym s) (t :: ts))
  | call {s p q ts ds ts1} : R ")" ts (.ok (.list ds) ts1) → RPlain E R ((.name s, p) :: (sg "(", q) :: ts) (.ok (dCall s ds) ts1)
  | callBad {s p q ts a} : R ")" ts (.fail a) → RPlain E R ((.name s, p) :: (sg "(", q) :: ts) (.fail a)
  | list {p ts ds ts1} : R "]" ts (.ok (.list ds) ts1) → RPlain E R ((sg "[", p) :: ts) (.ok (dList ds) ts1)
  | listBad {p ts a} : R "]" ts (.fail a) → RPlain E R ((sg "[", p) :: ts) (.fail a)
  | paren {p ts d q ts1} : E ts (.ok d ((sg ")", q) :: ts1)) → RPlain E R ((sg "(", p) :: ts) (.ok d ts1)
  | parenBad {p ts a} : E ts (.fail a) → RPlain E R ((sg "(", p) :: ts) (.fail a)
  | parenOpen {p ts d t ts1} : E ts (.ok d (t :: ts1)) → isS t ")" = false → RPlain E R ((sg "(", p) :: ts) (.fail t.2)
  | bad {t ts} : t.1.kind ≠ "number" → t.1.kind ≠ "name" → isS t "[" = false → isS t "(" = false → RPlain E R (t :: ts) (.fail t.2)

inductive LRest (c : String) (P : List TokP → Res → Prop) : Nat → List PyData → List TokP → Res → Prop
  | stop {n acc p ts} : LRest c P n acc ((sg c, p) :: ts) (.ok (.list acc) ts)
  | more {n acc p ts d ts1 r} : acc.length ≤ 1000 → P ts (.ok d ts1) → LRest c P n (acc ++ [d]) ts1 r → LRest c P (n + 1) acc ((sg ",", p) :: ts) r
  | moreBad {n acc p ts a} : P ts (.fail a) → LRest c P n acc ((sg ",", p) :: ts) (.fail a)
  | stopBad {n acc t ts} : isS t "," = false → isS t c = false → LRest c P n acc (t :: ts) (.fail t.2)
inductive RRest (c : String) (P : List TokP → Res → Prop) : List TokP → Res → Prop
  | none {p ts} : RRest c P ((sg c, p) :: ts) (.ok (.list []) ts)
  | some {n t ts d ts1 r} : isS t c = false → P (t :: ts) (.ok d ts1) → LRest c P n [d] ts1 r → RRest c P (t :: ts) r
  | bad {t ts a} : isS t c = false → P (t :: ts) (.fail a) → RRest c P (t :: ts) (.fail a)

inductive Knd where
  | eq | total | prod | signed | power | post | plain
  | rest (c : String)
def Par : Nat → Knd → List TokP → Res → Prop
  | 0, _ => fun _ _ => False
  | n + 1, k => match k with
    | .eq => REq (Par n .total)
    | .total => RTotal (Par n .prod)
    | .prod => RProd (Par n .signed)
    | .signed => RSigned (Par n .signed) (Par n .power)
    | .power => RPower (Par n .post) (Par n .signed)
    | .post => RPost (Par n .plain)
    | .plain => RPlain (Par n .eq) (fun c => Par n (.rest c))
    | .rest c => RRest c (Par n .eq)

def OkD (news : Led) (x dx rw : Addr) (res : Res) (news' : Led) (r : Value) : Prop := ∃ d ts', res = .ok d ts' ∧ Kept dx news news' ∧ Rdr news' x dx rw ts' ∧ Rd news' r d
def ErD (news : Led) (dx : Addr) (res : Res) (news' : Led) (at_ : Int) : Prop := res = .fail at_ ∧ Kept dx news news'
def ParT (w : World) (f : Addr) (D U : Nat) (P : List TokP → Res → Prop) : Prop :=
  ∀ ts res, P ts res → ∀ news x dx rw, Rdr news x dx rw ts → Tells w f D U news [.ref x] (OkD news x dx rw res) (ErD news dx res)
def OkL (news : Led) (x dx rw : Addr) (res : Res) (news' : Led) (r : Value) : Prop :=
  ∃ ds ts' l vs n, res = .ok (.list ds) ts' ∧ Kept dx news news' ∧ Rdr news' x dx rw ts' ∧ r = .ref l ∧ (l, lstOf vs n) ∈ news' ∧ Rds news' vs ds ∧ vs.length ≤ 2 ^ 20
def ParL (w : World) (D U : Nat) (R : String → List TokP → Res → Prop) : Prop :=
  ∀ c, (c = ")" ∨ c = "]") → ∀ ts res, R c ts res → ∀ news x dx rw t, Rdr news x dx rw ts → Tells w 296 D U news [.ref x, .str (Str.ofString c) t] (OkL news x dx rw res) (ErD news dx res)

theorem isS_sg (s s' : String) (p : Int) : isS (sg s, p) s' = (Str.ofString s == Str.ofString s') := rfl
theorem isS_no {a b : String} {p : Int} (h : (Str.ofString a == Str.ofString b) = false) : isS (sg a, p) b = false := h
theorem isS_yes {a : String} {p : Int} : isS (sg a, p) a = true := beq_self_eq_true (Str.ofString a)
theorem isS_name (n : Str) (s : String) (p : Int) : isS (.name n, p) s = false := rfl
theorem isS_num (n : Int) (s : String) (p : Int) : isS (.num n, p) s = false := rfl
theorem isS_eof (s : String) (p : Int) : isS (.eof, p) s = false := rfl
end

-- C2
section
theorem is_sign_tells (w : World) (news : Led) (x dx rw : Addr) (tk : TokP) (ts : List TokP) (sg : Str) (t : Tok) (hR : Rdr news x dx rw (tk :: ts)) :
   Tells w 212 1 10 news [.ref x, .str sg t] (fun news' r => news' = news ∧ r = .bool (tk.1.isSign sg)) noEr := by
  obtain ⟨toks, k, h1, h2, t1, t2, t3, n, n2, vs, a, v1, t0, t5, n3, hx, hd, hr, hrs, hlen, hts, hk63, hv, ha, hv1⟩ := hR.open
  k_dflt (refine' enter [(Str.ofString "self", .ref x), (Str.ofString "sign", .str sg t)] ?k6 ?k7 ?k8 ?k9 ?c1 ?c2 ?c3 ?c4 (by decide) (by decide) ?_; ((case k6 => k_is); (case k7 => k_is); (case k8 => exact rfl); (case k9 => exact rfl); (case c1 => exact rfl); (case c2 => exact rfl); (case c3 => exact rfl); (case c4 => decide)))
  intro dp un gd outer mean mg mb A₀ base g L s Q E B F X N T lv hdp hun ret er hE
  obtain ⟨tk, p⟩ := tk
  cases tk with
  | sign sg' =>
    dsimp only [Tk.val, Tk.kind] at hv1 ha
    cases hv1
    fail "go"
    try dsimp only
    exact ret (.ret _) _ _ _ _ (by assumption) (by assumption) ⟨rfl, rfl⟩
  | _ =>
    dsimp only [Tk.kind] at ha
    fail "go"
    try dsimp only
    exact ret (.ret _) _ _ _ _ (by assumption) (by assumption) ⟨rfl, by simp only [Tk.isSign]; exact congrArg Value.bool (by decide)⟩

theorem took_tells (w : World) (news : Led) (x dx rw : Addr) (tk : TokP) (ts : List TokP) (sg : Str) (t : Tok) (hR : Rdr news x dx rw (tk :: ts)) :
   Tells w 219 2 13 news [.ref x, .str sg t] (fun news' r => Kept dx news news' ∧ Rdr news' x dx rw (if tk.1.isSign sg then ts else tk :: ts) ∧ r = .bool (tk.1.isSign sg)) noEr := by
  obtain ⟨toks, k, h1, h2, t1, t2, t3, n, n2, vs, a, v1, t0, t5, n3, hx, hd, hr, hrs, hlen, hts, hk63, hv, ha, hv1⟩ := hR.open
  k_dflt (refine' enter [(Str.ofString "self", .ref x), (Str.ofString "sign", .str sg t)] ?k6 ?k7 ?k8 ?k9 ?c1 ?c2 ?c3 ?c4 (by decide) (by decide) ?_; ((case k6 => k_is); (case k7 => k_is); (case k8 => exact rfl); (case k9 => exact rfl); (case c1 => exact rfl); (case c2 => exact rfl); (case c3 => exact rfl); (case c4 => decide)))
  intro dp un gd outer mean mg mb A₀ base g L s Q E B F X N T lv hdp hun ret er hE
  fail "go"
  refine (is_sign_tells w news x dx rw tk ts sg t hR).use B (by assumption) X (by assumption) T rfl (by omega) (by omega) (fun r news₁ h₁ tk₁ F₁ N₁ hok => ?_) (fun e at_ g₂ news₁ h₁ tk₁ F₁ U R hEr => hEr.elim)
  obtain ⟨hn, rfl⟩ := hok
  subst hn
  try dsimp only
  cases hb : tk.1.isSign sg with
  | false =>
    fail "go"
    try dsimp only
    exact ret (.ret _) _ _ _ _ (by assumption) (by assumption) ⟨Kept.refl, by rw [hb]; exact hR, by rw [hb]⟩
  | true =>
    fail "go"
    k_dflt (refine' rdr_set ?k1 ?k2 ?k3 ?k4 ?k5 ?r1 ?r2 ?k6 ?k7 ?k8 ?k9 ?_; (case k1 => k_asm); (case k2 => k_asm); (case k3 => k_asm); (case k4 => assumption); (case k5 => assumption); (case r1 => assumption); (case r2 => assumption); (case k6 => k_is); (case k7 => k_is); (case k8 => k_is); (case k9 => k_is))
    intro h₂ news₂ F₂ N₂ K₂ hx₂ hd₂ hr₂ hrs₂ hrd₂ htu₂
    try dsimp only
    fail "go"
    try dsimp only
    exact ret (.ret _) _ _ _ _ (by assumption) (by assumption) ⟨K₂, by rw [hb]; exact rdr_mk hx₂ hd₂ hr₂ hrs₂ hlen hts, by rw [hb]⟩

theorem kind_tells (w : World) (news : Led) (x dx rw : Addr) (tk : TokP) (ts : List TokP) (hR : Rdr news x dx rw (tk :: ts)) :
   Tells w 205 1 10 news [.ref x] (fun news' r => news' = news ∧ ∃ t, r = .str (Str.ofString tk.1.kind) t) noEr := by
  obtain ⟨toks, k, h1, h2, t1, t2, t3, n, n2, vs, a, v1, t0, t5, n3, hx, hd, hr, hrs, hlen, hts, hk63, hv, ha, hv1⟩ := hR.open
  k_dflt (refine' enter [(Str.ofString "self", .ref x)] ?k6 ?k7 ?k8 ?k9 ?c1 ?c2 ?c3 ?c4 (by decide) (by decide) ?_; ((case k6 => k_is); (case k7 => k_is); (case k8 => exact rfl); (case k9 => exact rfl); (case c1 => exact rfl); (case c2 => exact rfl); (case c3 => exact rfl); (case c4 => decide)))
  intro dp un gd outer mean mg mb A₀ base g L s Q E B F X N T lv hdp hun ret er hE
  fail "go"
  try dsimp only
  exact ret (.ret _) _ _ _ _ (by assumption) (by assumption) ⟨rfl, _, rfl⟩

theorem taken_tells (w : World) (news : Led) (x dx rw : Addr) (tk : TokP) (ts : List TokP) (hR : Rdr news x dx rw (tk :: ts)) :
   Tells w 240 1 10 news [.ref x] (fun news' r => Kept dx news news' ∧ Rdr news' x dx rw ts ∧ Rd news' r tk.1.val) noEr := by
  obtain ⟨toks, k, h1, h2, t1, t2, t3, n, n2, vs, a, v1, t0, t5, n3, hx, hd, hr, hrs, hlen, hts, hk63, hv, ha, hv1⟩ := hR.open
  k_dflt (refine' enter [(Str.ofString "self", .ref x)] ?k6 ?k7 ?k8 ?k9 ?c1 ?c2 ?c3 ?c4 (by decide) (by decide) ?_; ((case k6 => k_is); (case k7 => k_is); (case k8 => exact rfl); (case k9 => exact rfl); (case c1 => exact rfl); (case c2 => exact rfl); (case c3 => exact rfl); (case c4 => decide)))
  intro dp un gd outer mean mg mb A₀ base g L s Q E B F X N T lv hdp hun ret er hE
  fail "go"
  k_dflt (refine' rdr_set ?k1 ?k2 ?k3 ?k4 ?k5 ?r1 ?r2 ?k6 ?k7 ?k8 ?k9 ?_; (case k1 => k_asm); (case k2 => k_asm); (case k3 => k_asm); (case k4 => assumption); (case k5 => assumption); (case r1 => assumption); (case r2 => assumption); (case k6 => k_is); (case k7 => k_is); (case k8 => k_is); (case k9 => k_is))
  intro h₂ news₂ F₂ N₂ K₂ hx₂ hd₂ hr₂ hrs₂ hrd₂ htu₂
  have ha₂ := htu₂ _ _ _ ha
  have hv₂ : vs[((k : Int) + 1 - 1).toNat]? = some (.ref a) := by
    rw [show (k : Int) + 1 - 1 = k by omega]; exact hv
  try dsimp only
  fail "go"
  try dsimp only
  exact ret (.ret _) _ _ _ _ (by assumption) (by assumption) ⟨K₂, rdr_mk hx₂ hd₂ hr₂ hrs₂ hlen hts, hrd₂ _ _ hv1⟩

theorem fail_tells (w : World) (news : Led) (x dx rw : Addr) (tk : TokP) (ts : List TokP) (tx : Str) (t : Tok) (hR : Rdr news x dx rw (tk :: ts)) :
   Tells w 233 4 40 news [.ref x, .str tx t] (fun _ _ => False) (fun news' at_ => Kept dx news news' ∧ at_ = tk.2) := by
  obtain ⟨toks, k, h1, h2, t1, t2, t3, n, n2, vs, a, v1, t0, t5, n3, hx, hd, hr, hrs, hlen, hts, hk63, hv, ha, hv1⟩ := hR.open
  refine TellsC.tells ?_
  k_dflt (refine' enterR [(Str.ofString "self", .ref x), (Str.ofString "text", .str tx t)] ?k6 ?k7 ?k8 ?k9 ?c1 ?c2 ?c3 ?c4 (by decide) (by decide) ?_; ((case k6 => k_is); (case k7 => k_is); (case k8 => exact rfl); (case k9 => exact rfl); (case c1 => exact rfl); (case c2 => exact rfl); (case c3 => exact rfl); (case c4 => decide)))
  intro dp un gd outer mean mg mb A₀ base g L s Q E B F X N T lv hdp hun ret er rs hE
  walk1
  refine exec_raise_pf rfl ?_
  fail "go"
  try dsimp only
  refine pf_new B (by assumption) X (by assumption) T rfl (by omega) (by omega) fun e t1 dx' odx news₁ h₁ tk₁ F₁ N₁ hne hdx' hat hsub => ?_
  try dsimp only
  fail "go"
  try dsimp only
  exact .of ((pf_cls w X).keeps F₁.keep) (N₁ _ (.head _)).1 (rs _ _ _ _ _ _ _ _ _ F₁ N₁ hne hdx' hat ⟨Kept.of_sub hsub, rfl⟩)

theorem need_tells (w : World) (news : Led) (x dx rw : Addr) (tk : TokP) (ts : List TokP) (sg : Str) (t : Tok) (hsg : sg.length ≤ 100) (hR : Rdr news x dx rw (tk :: ts)) :
   Tells w 226 5 43 news [.ref x, .str sg t] (fun news' r => Kept dx news news' ∧ tk.1.isSign sg = true ∧ Rdr news' x dx rw ts ∧ r = .none) (fun news' at_ => Kept dx news news' ∧ tk.1.isSign sg = false ∧ at_ = tk.2) := by
  k_dflt (refine' enter [(Str.ofString "self", .ref x), (Str.ofString "sign", .str sg t)] ?k6 ?k7 ?k8 ?k9 ?c1 ?c2 ?c3 ?c4 (by decide) (by decide) ?_; ((case k6 => k_is); (case k7 => k_is); (case k8 => exact rfl); (case k9 => exact rfl); (case c1 => exact rfl); (case c2 => exact rfl); (case c3 => exact rfl); (case c4 => decide)))
  intro dp un gd outer mean mg mb A₀ base g L s Q E B F X N T lv hdp hun ret er hE
  obtain ⟨h1, h2, t1, t2, v1, v2, n, hx, hd⟩ := hR.inst
  fail "go"
  refine (took_tells w news x dx rw tk ts sg t hR).use B (by assumption) X (by assumption) T rfl (by omega) (by omega) (fun r news₁ h₁ tk₁ F₁ N₁ hok => ?_) (fun e at_ g₂ news₁ h₁ tk₁ F₁ U R hEr => hEr.elim)
  clear hx hd
  obtain ⟨K₁, R₁, rfl⟩ := hok
  obtain ⟨h1, h2, t1, t2, v1, v2, n, hx, hd⟩ := R₁.inst
  try dsimp only
  cases hb : tk.1.isSign sg with
  | true =>
    rw [hb] at R₁
    fail "go"
    try dsimp only
    exact ret .next _ _ _ _ (by assumption) (by assumption) ⟨K₁, hb, R₁, rfl⟩
  | false =>
    rw [hb] at R₁
    have hz : (Str.ofString "expected ").length + sg.length ≤ sizeLine := by
      rw [show (Str.ofString "expected ").length = 9 from by decide, show sizeLine = 16777216 from rfl]
      omega
    fail "go"
    refine (fail_tells w news₁ x dx rw tk ts _ _ R₁).use B (by assumption) X (by assumption) T rfl (by omega) (by omega) (fun r news₁ h₁ tk₁ F₁ N₁ hok => hok.elim) (fun e at_ g₂ news₂ h₂ tk₂ F₂ U R hEr => ?_)
    try dsimp only
    exact er _ _ _ _ _ _ _ F₂ U R ⟨K₁.trans hEr.1, hb, hEr.2⟩

theorem is_sign_b (w : World) (news : Led) (x dx rw : Addr) (tk : TokP) (ts : List TokP) (sg : Str) (t : Tok) (b : Bool) (hR : Rdr news x dx rw (tk :: ts)) (hb : tk.1.isSign sg = b) :
   Tells w 212 1 10 news [.ref x, .str sg t] (fun news' r => news' = news ∧ r = .bool b) noEr := by
  subst hb
  exact is_sign_tells w news x dx rw tk ts sg t hR
theorem took_no (w : World) (news : Led) (x dx rw : Addr) (tk : TokP) (ts : List TokP) (sg : Str) (t : Tok) (hR : Rdr news x dx rw (tk :: ts)) (hb : tk.1.isSign sg = false) :
   Tells w 219 2 13 news [.ref x, .str sg t] (fun news' r => Kept dx news news' ∧ Rdr news' x dx rw (tk :: ts) ∧ r = .bool false) noEr := by
  have := took_tells w news x dx rw tk ts sg t hR
  rw [hb] at this
  exact this
theorem took_yes (w : World) (news : Led) (x dx rw : Addr) (tk : TokP) (ts : List TokP) (sg : Str) (t : Tok) (hR : Rdr news x dx rw (tk :: ts)) (hb : tk.1.isSign sg = true) :
   Tells w 219 2 13 news [.ref x, .str sg t] (fun news' r => Kept dx news news' ∧ Rdr news' x dx rw ts ∧ r = .bool true) noEr := by
  have := took_tells w news x dx rw tk ts sg t hR
  rw [hb] at this
  exact this
end

-- C3
section
theorem gcd_tells (w : World) (news : Led) (k : Int) (t t' : Tok) :
   Tells w 61 1 10 news [.int k t, .int 1 t'] (fun news' r => (∀ p ∈ news, p ∈ news') ∧ ∃ t, r = .int 1 t) noEr := by
  k_dflt (refine' enter [(Str.ofString "a", .int k t), (Str.ofString "b", .int 1 t')] ?k6 ?k7 ?k8 ?k9 ?c1 ?c2 ?c3 ?c4 (by decide) (by decide) ?_; ((case k6 => k_is); (case k7 => k_is); (case k8 => exact rfl); (case k9 => exact rfl); (case c1 => exact rfl); (case c2 => exact rfl); (case c3 => exact rfl); (case c4 => decide)))
  intro dp un gd outer mean mg mb A₀ base g L s Q E B F X N T lv hdp hun ret er hE
  fail "go"
  refine While_inv2 (fun n m₁ news₁ => (∀ p ∈ news, p ∈ news₁) ∧ ((∃ x t1 t2, n = 1 ∧ m₁ (Str.ofString "a") = some (.int x t1) ∧ m₁ (Str.ofString "b") = some (.int 1 t2)) ∨ (∃ t1 t2 y, n = 0 ∧ m₁ (Str.ofString "a") = some (.int 1 t1) ∧ m₁ (Str.ofString "b") = some (.int y t2) ∧ y = 0))) (n₀ := 1) (by assumption) (by assumption) ⟨by fail "sub", .inl (mkE3 ⟨rfl, rfl, rfl⟩)⟩ ?_ hE
  rintro n m₁ news₁ h₁ tk₁ F₁ N₁ ⟨hs, (⟨x, t1, t2, rfl, ha, hb⟩ | ⟨t1, t2, y, rfl, ha, hb, rfl⟩)⟩
  fail "gen"
  · fail "go"
    exact (mkE4 ⟨0, rfl, by assumption, by assumption, by omega, by fail "sub", .inr (mkE3 ⟨rfl, rfl, rfl, Int.fmod_one _⟩)⟩)
  · fail "go"
    try dsimp only
    exact ret (.ret _) _ _ _ _ (by assumption) (by assumption) ⟨by assumption, _, rfl⟩

theorem rat_tells (w : World) (news : Led) (k : Int) (t t' : Tok) :
   Tells w 68 2 13 news [.int k t, .int 1 t'] (fun news' r => (∀ p ∈ news, p ∈ news') ∧ ∃ a x y t1 t2, r = .ref a ∧ (a, tupOf [.int x t1, .int y t2]) ∈ news' ∧ x = k ∧ y = 1) noEr := by
  k_dflt (refine' enter [(Str.ofString "top", .int k t), (Str.ofString "bottom", .int 1 t')] ?k6 ?k7 ?k8 ?k9 ?c1 ?c2 ?c3 ?c4 (by decide) (by decide) ?_; ((case k6 => k_is); (case k7 => k_is); (case k8 => exact rfl); (case k9 => exact rfl); (case c1 => exact rfl); (case c2 => exact rfl); (case c3 => exact rfl); (case c4 => decide)))
  intro dp un gd outer mean mg mb A₀ base g L s Q E B F X N T lv hdp hun ret er hE
  fail "go"
  refine (gcd_tells w news k _ _).use B (by assumption) X (by assumption) T rfl (by omega) (by omega) (fun r news₁ h₁ tk₁ F₁ N₁ hok => ?_) (fun e at_ g₂ news₁ h₁ tk₁ F₁ U R hEr => hEr.elim)
  obtain ⟨hs, t₁, rfl⟩ := hok
  try dsimp only
  fail "go"
  try dsimp only
  exact ret (.ret _) _ _ _ _ (by assumption) (by assumption) ⟨by fail "sub", _, _, _, _, _, rfl, List.Mem.head _, by simp, by simp⟩

theorem t_num_tells (w : World) (news : Led) (k : Int) (t t' : Tok) :
   Tells w 78 3 16 news [.int k t, .int 1 t'] (fun news' r => (∀ p ∈ news, p ∈ news') ∧ Rd news' r (dNum k)) noEr := by
  k_dflt (refine' enter [(Str.ofString "top", .int k t), (Str.ofString "bottom", .int 1 t')] ?k6 ?k7 ?k8 ?k9 ?c1 ?c2 ?c3 ?c4 (by decide) (by decide) ?_; ((case k6 => k_is); (case k7 => k_is); (case k8 => exact rfl); (case k9 => exact rfl); (case c1 => exact rfl); (case c2 => exact rfl); (case c3 => exact rfl); (case c4 => decide)))
  intro dp un gd outer mean mg mb A₀ base g L s Q E B F X N T lv hdp hun ret er hE
  fail "go"
  refine (rat_tells w news k _ _).use B (by assumption) X (by assumption) T rfl (by omega) (by omega) (fun r news₁ h₁ tk₁ F₁ N₁ hok => ?_) (fun e at_ g₂ news₁ h₁ tk₁ F₁ U R hEr => hEr.elim)
  obtain ⟨hs, a, x, y, t1, t2, rfl, ha, rfl, rfl⟩ := hok
  try dsimp only
  fail "go"
  try dsimp only
  exact ret (.ret _) _ _ _ _ (by assumption) (by assumption) ⟨by fail "sub", by fail "rd"⟩

theorem t_sym_tells (w : World) (news : Led) (nm : Str) (t : Tok) :
   Tells w 85 1 3 news [.str nm t] (fun news' r => (∀ p ∈ news, p ∈ news') ∧ Rd news' r (dSym nm)) noEr := by
  k_dflt (refine' enter [(Str.ofString "name", .str nm t)] ?k6 ?k7 ?k8 ?k9 ?c1 ?c2 ?c3 ?c4 (by decide) (by decide) ?_; ((case k6 => k_is); (case k7 => k_is); (case k8 => exact rfl); (case k9 => exact rfl); (case c1 => exact rfl); (case c2 => exact rfl); (case c3 => exact rfl); (case c4 => decide)))
  intro dp un gd outer mean mg mb A₀ base g L s Q E B F X N T lv hdp hun ret er hE
  fail "go"
  try dsimp only
  exact ret (.ret _) _ _ _ _ (by assumption) (by assumption) ⟨by fail "sub", by fail "rd"⟩

theorem t_minus_tells (w : World) (news : Led) (v : Value) (d : PyData) (hv : Rd news v d) :
   Tells w 134 1 3 news [v] (fun news' r => (∀ p ∈ news, p ∈ news') ∧ Rd news' r (dNeg d)) noEr := by
  k_dflt (refine' enter [(Str.ofString "term", v)] ?k6 ?k7 ?k8 ?k9 ?c1 ?c2 ?c3 ?c4 (by decide) (by decide) ?_; ((case k6 => k_is); (case k7 => k_is); (case k8 => exact rfl); (case k9 => exact rfl); (case c1 => exact rfl); (case c2 => exact rfl); (case c3 => exact rfl); (case c4 => decide)))
  intro dp un gd outer mean mg mb A₀ base g L s Q E B F X N T lv hdp hun ret er hE
  fail "go"
  try dsimp only
  exact ret (.ret _) _ _ _ _ (by assumption) (by assumption) ⟨by fail "sub", by fail "rd"⟩

theorem t_pow_tells (w : World) (news : Led) (v₁ v₂ : Value) (d₁ d₂ : PyData) (hv₁ : Rd news v₁ d₁) (hv₂ : Rd news v₂ d₂) :
   Tells w 106 1 3 news [v₁, v₂] (fun news' r => (∀ p ∈ news, p ∈ news') ∧ Rd news' r (dPow d₁ d₂)) noEr := by
  k_dflt (refine' enter [(Str.ofString "base", v₁), (Str.ofString "exponent", v₂)] ?k6 ?k7 ?k8 ?k9 ?c1 ?c2 ?c3 ?c4 (by decide) (by decide) ?_; ((case k6 => k_is); (case k7 => k_is); (case k8 => exact rfl); (case k9 => exact rfl); (case c1 => exact rfl); (case c2 => exact rfl); (case c3 => exact rfl); (case c4 => decide)))
  intro dp un gd outer mean mg mb A₀ base g L s Q E B F X N T lv hdp hun ret er hE
  fail "go"
  try dsimp only
  exact ret (.ret _) _ _ _ _ (by assumption) (by assumption) ⟨by fail "sub", by fail "rd"⟩

theorem t_eq_tells (w : World) (news : Led) (v₁ v₂ : Value) (d₁ d₂ : PyData) (hv₁ : Rd news v₁ d₁) (hv₂ : Rd news v₂ d₂) :
   Tells w 120 1 3 news [v₁, v₂] (fun news' r => (∀ p ∈ news, p ∈ news') ∧ Rd news' r (dEq d₁ d₂)) noEr := by
  k_dflt (refine' enter [(Str.ofString "left", v₁), (Str.ofString "right", v₂)] ?k6 ?k7 ?k8 ?k9 ?c1 ?c2 ?c3 ?c4 (by decide) (by decide) ?_; ((case k6 => k_is); (case k7 => k_is); (case k8 => exact rfl); (case k9 => exact rfl); (case c1 => exact rfl); (case c2 => exact rfl); (case c3 => exact rfl); (case c4 => decide)))
  intro dp un gd outer mean mg mb A₀ base g L s Q E B F X N T lv hdp hun ret er hE
  fail "go"
  try dsimp only
  exact ret (.ret _) _ _ _ _ (by assumption) (by assumption) ⟨by fail "sub", by fail "rd"⟩

theorem t_quotient_tells (w : World) (news : Led) (v₁ v₂ : Value) (d₁ d₂ : PyData) (hv₁ : Rd news v₁ d₁) (hv₂ : Rd news v₂ d₂) :
   Tells w 141 1 3 news [v₁, v₂] (fun news' r => (∀ p ∈ news, p ∈ news') ∧ Rd news' r (dQuot d₁ d₂)) noEr := by
  k_dflt (refine' enter [(Str.ofString "above", v₁), (Str.ofString "below", v₂)] ?k6 ?k7 ?k8 ?k9 ?c1 ?c2 ?c3 ?c4 (by decide) (by decide) ?_; ((case k6 => k_is); (case k7 => k_is); (case k8 => exact rfl); (case k9 => exact rfl); (case c1 => exact rfl); (case c2 => exact rfl); (case c3 => exact rfl); (case c4 => decide)))
  intro dp un gd outer mean mg mb A₀ base g L s Q E B F X N T lv hdp hun ret er hE
  fail "go"
  try dsimp only
  exact ret (.ret _) _ _ _ _ (by assumption) (by assumption) ⟨by fail "sub", by fail "rd"⟩

theorem t_list_tells (w : World) (news : Led) (l : Addr) (vs : List Value) (n : Nat) (ds : List PyData) (hl : (l, lstOf vs n) ∈ news) (hv : Rds news vs ds) (hlen : vs.length ≤ 2 ^ 20) :
   Tells w 127 1 10 news [.ref l] (fun news' r => (∀ p ∈ news, p ∈ news') ∧ Rd news' r (dList ds)) noEr := by
  k_dflt (refine' enter [(Str.ofString "some_terms", .ref l)] ?k6 ?k7 ?k8 ?k9 ?c1 ?c2 ?c3 ?c4 (by decide) (by decide) ?_; ((case k6 => k_is); (case k7 => k_is); (case k8 => exact rfl); (case k9 => exact rfl); (case c1 => exact rfl); (case c2 => exact rfl); (case c3 => exact rfl); (case c4 => decide)))
  intro dp un gd outer mean mg mb A₀ base g L s Q E B F X N T lv hdp hun ret er hE
  fail "go"
  try dsimp only
  exact ret (.ret _) _ _ _ _ (by assumption) (by assumption) ⟨by fail "sub", by fail "rd"⟩

theorem t_call_tells (w : World) (news : Led) (nm : Str) (t : Tok) (l : Addr) (vs : List Value) (n : Nat) (ds : List PyData) (hl : (l, lstOf vs n) ∈ news) (hv : Rds news vs ds) (hlen : vs.length ≤ 2 ^ 20) :
   Tells w 113 1 10 news [.str nm t, .ref l] (fun news' r => (∀ p ∈ news, p ∈ news') ∧ Rd news' r (dCall nm ds)) noEr := by
  k_dflt (refine' enter [(Str.ofString "name", .str nm t), (Str.ofString "some_terms", .ref l)] ?k6 ?k7 ?k8 ?k9 ?c1 ?c2 ?c3 ?c4 (by decide) (by decide) ?_; ((case k6 => k_is); (case k7 => k_is); (case k8 => exact rfl); (case k9 => exact rfl); (case c1 => exact rfl); (case c2 => exact rfl); (case c3 => exact rfl); (case c4 => decide)))
  intro dp un gd outer mean mg mb A₀ base g L s Q E B F X N T lv hdp hun ret er hE
  fail "go"
  try dsimp only
  exact ret (.ret _) _ _ _ _ (by assumption) (by assumption) ⟨by fail "sub", by fail "rd"⟩
end

-- C4
section
theorem t_prod_tells (w : World) (news : Led) (l : Addr) (v₁ v₂ : Value) (n : Nat) (d₁ d₂ : PyData) (hl : (l, lstOf [v₁, v₂] n) ∈ news) (hv₁ : Rd news v₁ d₁) (hv₂ : Rd news v₂ d₂) :
   Tells w 99 1 10 news [.ref l] (fun news' r => (∀ p ∈ news, p ∈ news') ∧ Rd news' r (dProd d₁ d₂)) noEr := by
  have hl2 : [v₁, v₂].length = 2 := rfl
  have hlen : [v₁, v₂].length ≤ 2 ^ 20 := by show 2 ≤ 2 ^ 20; decide
  k_dflt (refine' enter [(Str.ofString "some_terms", .ref l)] ?k6 ?k7 ?k8 ?k9 ?c1 ?c2 ?c3 ?c4 (by decide) (by decide) ?_; ((case k6 => k_is); (case k7 => k_is); (case k8 => exact rfl); (case k9 => exact rfl); (case c1 => exact rfl); (case c2 => exact rfl); (case c3 => exact rfl); (case c4 => decide)))
  intro dp un gd outer mean mg mb A₀ base g L s Q E B F X N T lv hdp hun ret er hE
  fail "go"
  · try dsimp only
    exact ret (.ret _) _ _ _ _ (by assumption) (by assumption) ⟨by fail "sub", by fail "rd"⟩

theorem t_sum_tells (w : World) (news : Led) (l : Addr) (vs : List Value) (n : Nat) (ds : List PyData) (hl : (l, lstOf vs n) ∈ news) (hv : Rds news vs ds) (hlen : vs.length ≤ 2 ^ 20) (hne : ds ≠ []) :
   Tells w 92 1 10 news [.ref l] (fun news' r => (∀ p ∈ news, p ∈ news') ∧ Rd news' r (dSum ds)) noEr := by
  obtain ⟨v0, h0⟩ : ∃ v0, vs[(0 : Int).toNat]? = some v0 := by
    cases hv with
    | nil => exact absurd rfl hne
    | cons h r => exact ⟨_, rfl⟩
  k_dflt (refine' enter [(Str.ofString "some_terms", .ref l)] ?k6 ?k7 ?k8 ?k9 ?c1 ?c2 ?c3 ?c4 (by decide) (by decide) ?_; ((case k6 => k_is); (case k7 => k_is); (case k8 => exact rfl); (case k9 => exact rfl); (case c1 => exact rfl); (case c2 => exact rfl); (case c3 => exact rfl); (case c4 => decide)))
  intro dp un gd outer mean mg mb A₀ base g L s Q E B F X N T lv hdp hun ret er hE
  fail "go"
  · exfalso
    cases hv with
    | nil => exact hne rfl
    | cons _ _ => simp at *; omega
  · try dsimp only
    refine ret (.ret _) _ _ _ _ (by assumption) (by assumption) ⟨by fail "sub", ?_⟩
    cases hv with
    | nil => exact absurd rfl hne
    | cons h r =>
      cases r with
      | cons _ _ => exfalso; simp only [List.length_cons] at *; omega
      | nil =>
        cases h0
        exact h
  · try dsimp only
    refine ret (.ret _) _ _ _ _ (by assumption) (by assumption) ⟨by fail "sub", ?_⟩
    have e : dSum ds = .tuple [strD "sum", .tuple ds] := by
      cases hv with
      | nil => exact absurd rfl hne
      | cons h r =>
        cases r with
        | cons _ _ => rfl
        | nil => exfalso; simp only [List.length_cons, List.length_nil] at *; omega
    rw [e]
    fail "rd"
end

-- C5
section
theorem total_step (w : World) (D U : Nat) (P : List TokP → Res → Prop) (hD : 6 ≤ D) (hU : 60 ≤ U) (IH : ParT w 261 D U P) : ParT w 254 (D + 1) (U + 4) (RTotal P) := by
  intro ts res hP news x dx rw hR
  k_dflt (refine' enter [(Str.ofString "self", .ref x)] ?k6 ?k7 ?k8 ?k9 ?c1 ?c2 ?c3 ?c4 (by omega) (by omega) ?_; ((case k6 => k_is); (case k7 => k_is); (case k8 => exact rfl); (case k9 => exact rfl); (case c1 => exact rfl); (case c2 => exact rfl); (case c3 => exact rfl); (case c4 => decide)))
  intro dp un gd outer mean mg mb A₀ base g L s Q E B F X N T lv hdp hun ret er hE
  obtain ⟨ih1, ih2, it1, it2, iv1, iv2, inn, ihx, ihd⟩ := hR.inst
  fail "go"
  try dsimp only
  cases hP with
  | bad hP =>
    fail "gen"; refine' Tells.use ?tt1 B ?cf1 X ?cn1 T rfl ?cd1 ?cu1 ?ok1 ?er1; (case cf1 => assumption); (case cn1 => assumption); (case tt1 => exact IH _ _ hP news x dx rw hR); (case cd1 => first | exact bud hdp (by decide) | exact bud hdp (by omega) | omega); (case cu1 => first | exact bud3 hun (by decide) | exact bud3 hun (by omega) | omega); (try (case er1 => exact fun _ _ _ _ _ _ _ _ _ h => h.elim))
    · intro r news₁ h₁ tk₁ F₁ N₁ hJJ; obtain ⟨_, _, he, _⟩ := hJJ; cases he
    · intro e at_ g₂ news₁ h₁ tk₁ F₁ U R hEr
      try dsimp only
      exact er _ _ _ _ _ _ _ F₁ U R hEr
  | go hP hL =>
    rename_i n0 d0 ts0
    fail "gen"; refine' Tells.use ?tt2 B ?cf2 X ?cn2 T rfl ?cd2 ?cu2 ?ok2 ?er2; (case cf2 => assumption); (case cn2 => assumption); (case tt2 => exact IH _ _ hP news x dx rw hR); (case cd2 => first | exact bud hdp (by decide) | exact bud hdp (by omega) | omega); (case cu2 => first | exact bud3 hun (by decide) | exact bud3 hun (by omega) | omega); (try (case er2 => exact fun _ _ _ _ _ _ _ _ _ h => h.elim))
    rotate_left
    · intro e at_ g₂ news₁ h₁ tk₁ F₁ U R hJJ; obtain ⟨he, _⟩ := hJJ; cases he
    intro r news₁ h₁ tk₁ F₁ N₁ hJJ; obtain ⟨d, ts', he, K₁, R₁, hr⟩ := hJJ
    cases he
    clear ihx ihd
    try dsimp only
    fail "go"
    try dsimp only
    refine While_inv2 (fun n m₁ news₁ => ∃ l vs k acc ts, m₁ (Str.ofString "self") = some (.ref x) ∧ m₁ (Str.ofString "found") = some (.ref l) ∧ (l, lstOf vs k) ∈ news₁ ∧ Rds news₁ vs acc ∧ Rdr news₁ x dx rw ts ∧ Kept dx news news₁ ∧ acc ≠ [] ∧ vs.length ≤ 2 ^ 20 ∧ (∀ p ∈ news, p.1 ≠ l) ∧ LTotal P n acc ts res) (n₀ := n0) (by assumption) (by assumption)
      ⟨_, _, _, _, _, rfl, rfl, List.Mem.head _, by fail "rd", R₁.sub (by fail "sub"), K₁.trans (Kept.of_sub (by fail "sub")), by simp, by show 1 ≤ 2 ^ 20; decide, fresh_of K₁ R₁ (by assumption), hL⟩ ?_ hE
    intro n m₁ news₂ h₂ tk₂ F₂ N₂ hJJ; obtain ⟨l, vs, k, acc, ts2, hself, hfound, hl, hrs, R₂, K₂, hne, hlen, hfr, hL2⟩ := hJJ
    fail "gen"
    clear hL hP
    obtain ⟨orw, horw⟩ := hR.row
    have hrw : rw ≠ l := hfr _ horw
    obtain ⟨ih1, ih2, it1, it2, iv1, iv2, inn, ihx, ihd⟩ := R₂.inst
    cases hL2 with
    | stop hb1 hb2 =>
      fail "go"
      try dsimp only
      fail "gen"; refine' Tells.use ?tt3 B ?cf3 X ?cn3 T rfl ?cd3 ?cu3 ?ok3 ?er3; (case cf3 => assumption); (case cn3 => assumption); (case tt3 => exact is_sign_b w _ x dx rw _ _ _ _ _ R₂ hb1); (case cd3 => first | exact bud hdp (by decide) | exact bud hdp (by omega) | omega); (case cu3 => first | exact bud3 hun (by decide) | exact bud3 hun (by omega) | omega); (try (case er3 => exact fun _ _ _ _ _ _ _ _ _ h => h.elim))
      intro r _ h₃ tk₃ F₃ N₃ hJJ; obtain ⟨rfl, rfl⟩ := hJJ
      try dsimp only
      fail "go"
      try dsimp only
      fail "gen"; refine' Tells.use ?tt4 B ?cf4 X ?cn4 T rfl ?cd4 ?cu4 ?ok4 ?er4; (case cf4 => assumption); (case cn4 => assumption); (case tt4 => exact is_sign_b w _ x dx rw _ _ _ _ _ R₂ hb2); (case cd4 => first | exact bud hdp (by decide) | exact bud hdp (by omega) | omega); (case cu4 => first | exact bud3 hun (by decide) | exact bud3 hun (by omega) | omega); (try (case er4 => exact fun _ _ _ _ _ _ _ _ _ h => h.elim))
      intro r _ h₄ tk₄ F₄ N₄ hJJ; obtain ⟨rfl, rfl⟩ := hJJ
      try dsimp only
      fail "go"
      try dsimp only
      fail "gen"; refine' Tells.use ?tt5 B ?cf5 X ?cn5 T rfl ?cd5 ?cu5 ?ok5 ?er5; (case cf5 => assumption); (case cn5 => assumption); (case tt5 => exact t_sum_tells w _ l vs k acc hl hrs hlen hne); (case cd5 => first | exact bud hdp (by decide) | exact bud hdp (by omega) | omega); (case cu5 => first | exact bud3 hun (by decide) | exact bud3 hun (by omega) | omega); (try (case er5 => exact fun _ _ _ _ _ _ _ _ _ h => h.elim))
      intro r news₅ h₅ tk₅ F₅ N₅ hJJ; obtain ⟨hs, hr⟩ := hJJ
      try dsimp only
      fail "go"
      try dsimp only
      exact ret (.ret _) _ _ _ _ (by assumption) (by assumption) ((mkE2 ⟨rfl, K₂.trans (Kept.of_sub hs), R₂.sub hs, hr⟩))
    | plus hac hP2 hL3 =>
      have O₂ := R₂.off N₂
      fail "go"
      try dsimp only
      fail "gen"; refine' Tells.use ?tt6 B ?cf6 X ?cn6 T rfl ?cd6 ?cu6 ?ok6 ?er6; (case cf6 => assumption); (case cn6 => assumption); (case tt6 => exact is_sign_b w _ x dx rw _ _ _ _ true R₂ isS_yes); (case cd6 => first | exact bud hdp (by decide) | exact bud hdp (by omega) | omega); (case cu6 => first | exact bud3 hun (by decide) | exact bud3 hun (by omega) | omega); (try (case er6 => exact fun _ _ _ _ _ _ _ _ _ h => h.elim))
      intro r _ h₃ tk₃ F₃ N₃ hJJ; obtain ⟨rfl, rfl⟩ := hJJ
      try dsimp only
      fail "go"
      try dsimp only
      fail "gen"; refine' Tells.use ?tt7 B ?cf7 X ?cn7 T rfl ?cd7 ?cu7 ?ok7 ?er7; (case cf7 => assumption); (case cn7 => assumption); (case tt7 => exact taken_tells w _ x dx rw _ _ R₂); (case cd7 => first | exact bud hdp (by decide) | exact bud hdp (by omega) | omega); (case cu7 => first | exact bud3 hun (by decide) | exact bud3 hun (by omega) | omega); (try (case er7 => exact fun _ _ _ _ _ _ _ _ _ h => h.elim))
      intro r news₄ h₄ tk₄ F₄ N₄ hJJ; obtain ⟨K₄, R₄, hr₄⟩ := hJJ
      have O₄ := R₄.off N₄
      have hl₄ := K₄.mem O₂ hl
      have hrs₄ := K₄.rds O₂ hrs
      clear ihx ihd
      obtain ⟨ih1, ih2, it1, it2, iv1, iv2, inn, ihx, ihd⟩ := R₄.inst
      cases hr₄
      try dsimp only
      fail "go"
      try dsimp only
      fail "gen"; refine' Tells.use ?tt8 B ?cf8 X ?cn8 T rfl ?cd8 ?cu8 ?ok8 ?er8; (case cf8 => assumption); (case cn8 => assumption); (case tt8 => exact IH _ _ hP2 _ x dx rw R₄); (case cd8 => first | exact bud hdp (by decide) | exact bud hdp (by omega) | omega); (case cu8 => first | exact bud3 hun (by decide) | exact bud3 hun (by omega) | omega); (try (case er8 => exact fun _ _ _ _ _ _ _ _ _ h => h.elim))
      rotate_left
      · intro e at_ g₂ news₁ h₁ tk₁ F₁ U R hJJ; obtain ⟨he, _⟩ := hJJ; cases he
      intro r news₅ h₅ tk₅ F₅ N₅ hJJ; obtain ⟨d5, ts5, he, K₅, R₅, hr₅⟩ := hJJ
      cases he
      have hl₅ := K₅.mem O₄ hl₄
      have hrs₅ := K₅.rds O₄ hrs₄
      have K₂₅ := (K₂.trans K₄).trans K₅
      clear ihx ihd
      try dsimp only
      fail "go"
      try dsimp only
      rename_i F₆ N₆
      refine append_mem (by assumption) (by assumption) hl₅ hlen (fun h₇ news₇ F₇ N₇ K₇ hl₇ => ?_)
      have R₇ := R₅.app (by assumption) hl₅ K₇ hrw
      have hrs₇ := (Kept.rdsL (by assumption) hl₅ K₇ hrs₅).append (.cons (Kept.rdL (by assumption) hl₅ K₇ hr₅) .nil)
      have K₂₇ := K₂₅.transL K₇ hfr
      have hlen₇ := hrs₇.length
      try dsimp only
      fail "go"
      try dsimp only
      refine (mkE5 ⟨rfl, F₇, N₇, Nat.lt_succ_self _, l, _, _, _, _, hself, hfound, hl₇, hrs₇, R₇, K₂₇, by simp, ?_, hfr, hL3⟩)
      rw [hlen₇, List.length_append]
      simp only [List.length_cons, List.length_nil]
      omega
    | minus hac hP2 hL3 =>
      have O₂ := R₂.off N₂
      fail "go"
      try dsimp only
      fail "gen"; refine' Tells.use ?tt9 B ?cf9 X ?cn9 T rfl ?cd9 ?cu9 ?ok9 ?er9; (case cf9 => assumption); (case cn9 => assumption); (case tt9 => exact is_sign_b w _ x dx rw _ _ _ _ false R₂ (isS_no (by decide))); (case cd9 => first | exact bud hdp (by decide) | exact bud hdp (by omega) | omega); (case cu9 => first | exact bud3 hun (by decide) | exact bud3 hun (by omega) | omega); (try (case er9 => exact fun _ _ _ _ _ _ _ _ _ h => h.elim))
      intro r _ h₃ tk₃ F₃ N₃ hJJ; obtain ⟨rfl, rfl⟩ := hJJ
      try dsimp only
      fail "go"
      try dsimp only
      fail "gen"; refine' Tells.use ?tt10 B ?cf10 X ?cn10 T rfl ?cd10 ?cu10 ?ok10 ?er10; (case cf10 => assumption); (case cn10 => assumption); (case tt10 => exact is_sign_b w _ x dx rw _ _ _ _ true R₂ isS_yes); (case cd10 => first | exact bud hdp (by decide) | exact bud hdp (by omega) | omega); (case cu10 => first | exact bud3 hun (by decide) | exact bud3 hun (by omega) | omega); (try (case er10 => exact fun _ _ _ _ _ _ _ _ _ h => h.elim))
      intro r _ h₃ tk₃ F₃ N₃ hJJ; obtain ⟨rfl, rfl⟩ := hJJ
      try dsimp only
      fail "go"
      try dsimp only
      fail "gen"; refine' Tells.use ?tt11 B ?cf11 X ?cn11 T rfl ?cd11 ?cu11 ?ok11 ?er11; (case cf11 => assumption); (case cn11 => assumption); (case tt11 => exact taken_tells w _ x dx rw _ _ R₂); (case cd11 => first | exact bud hdp (by decide) | exact bud hdp (by omega) | omega); (case cu11 => first | exact bud3 hun (by decide) | exact bud3 hun (by omega) | omega); (try (case er11 => exact fun _ _ _ _ _ _ _ _ _ h => h.elim))
      intro r news₄ h₄ tk₄ F₄ N₄ hJJ; obtain ⟨K₄, R₄, hr₄⟩ := hJJ
      have O₄ := R₄.off N₄
      have hl₄ := K₄.mem O₂ hl
      have hrs₄ := K₄.rds O₂ hrs
      clear ihx ihd
      obtain ⟨ih1, ih2, it1, it2, iv1, iv2, inn, ihx, ihd⟩ := R₄.inst
      cases hr₄
      try dsimp only
      fail "go"
      try dsimp only
      fail "gen"; refine' Tells.use ?tt12 B ?cf12 X ?cn12 T rfl ?cd12 ?cu12 ?ok12 ?er12; (case cf12 => assumption); (case cn12 => assumption); (case tt12 => exact IH _ _ hP2 _ x dx rw R₄); (case cd12 => first | exact bud hdp (by decide) | exact bud hdp (by omega) | omega); (case cu12 => first | exact bud3 hun (by decide) | exact bud3 hun (by omega) | omega); (try (case er12 => exact fun _ _ _ _ _ _ _ _ _ h => h.elim))
      rotate_left
      · intro e at_ g₂ news₁ h₁ tk₁ F₁ U R hJJ; obtain ⟨he, _⟩ := hJJ; cases he
      intro r news₅ h₅ tk₅ F₅ N₅ hJJ; obtain ⟨d5, ts5, he, K₅, R₅, hr₅⟩ := hJJ
      cases he
      have hl₅ := K₅.mem O₄ hl₄
      have hrs₅ := K₅.rds O₄ hrs₄
      have K₂₅ := (K₂.trans K₄).trans K₅
      clear ihx ihd
      try dsimp only
      fail "go"
      try dsimp only
      fail "gen"; refine' Tells.use ?tt13 B ?cf13 X ?cn13 T rfl ?cd13 ?cu13 ?ok13 ?er13; (case cf13 => assumption); (case cn13 => assumption); (case tt13 => exact t_minus_tells w _ _ _ hr₅); (case cd13 => first | exact bud hdp (by decide) | exact bud hdp (by omega) | omega); (case cu13 => first | exact bud3 hun (by decide) | exact bud3 hun (by omega) | omega); (try (case er13 => exact fun _ _ _ _ _ _ _ _ _ h => h.elim))
      intro r' news₆ h₆ tk₆ F₆ N₆ hJJ; obtain ⟨hs₆, hr₆⟩ := hJJ
      try dsimp only
      fail "go"
      try dsimp only
      refine append_mem (by assumption) (by assumption) (hs₆ _ hl₅) hlen (fun h₇ news₇ F₇ N₇ K₇ hl₇ => ?_)
      have R₇ := (R₅.sub hs₆).app N₆ (hs₆ _ hl₅) K₇ hrw
      have hrs₇ := (Kept.rdsL N₆ (hs₆ _ hl₅) K₇ (hrs₅.sub hs₆)).append (.cons (Kept.rdL N₆ (hs₆ _ hl₅) K₇ hr₆) .nil)
      have K₂₇ := (K₂₅.trans (Kept.of_sub hs₆)).transL K₇ hfr
      have hlen₇ := hrs₇.length
      try dsimp only
      fail "go"
      try dsimp only
      refine (mkE5 ⟨rfl, F₇, N₇, Nat.lt_succ_self _, l, _, _, _, _, hself, hfound, hl₇, hrs₇, R₇, K₂₇, by simp, ?_, hfr, hL3⟩)
      rw [hlen₇, List.length_append]
      simp only [List.length_cons, List.length_nil]
      omega
    | plusBad hP2 =>
      have O₂ := R₂.off N₂
      fail "go"
      try dsimp only
      fail "gen"; refine' Tells.use ?tt14 B ?cf14 X ?cn14 T rfl ?cd14 ?cu14 ?ok14 ?er14; (case cf14 => assumption); (case cn14 => assumption); (case tt14 => exact is_sign_b w _ x dx rw _ _ _ _ true R₂ isS_yes); (case cd14 => first | exact bud hdp (by decide) | exact bud hdp (by omega) | omega); (case cu14 => first | exact bud3 hun (by decide) | exact bud3 hun (by omega) | omega); (try (case er14 => exact fun _ _ _ _ _ _ _ _ _ h => h.elim))
      intro r _ h₃ tk₃ F₃ N₃ hJJ; obtain ⟨rfl, rfl⟩ := hJJ
      try dsimp only
      fail "go"
      try dsimp only
      fail "gen"; refine' Tells.use ?tt15 B ?cf15 X ?cn15 T rfl ?cd15 ?cu15 ?ok15 ?er15; (case cf15 => assumption); (case cn15 => assumption); (case tt15 => exact taken_tells w _ x dx rw _ _ R₂); (case cd15 => first | exact bud hdp (by decide) | exact bud hdp (by omega) | omega); (case cu15 => first | exact bud3 hun (by decide) | exact bud3 hun (by omega) | omega); (try (case er15 => exact fun _ _ _ _ _ _ _ _ _ h => h.elim))
      intro r news₄ h₄ tk₄ F₄ N₄ hJJ; obtain ⟨K₄, R₄, hr₄⟩ := hJJ
      have O₄ := R₄.off N₄
      have hl₄ := K₄.mem O₂ hl
      have hrs₄ := K₄.rds O₂ hrs
      clear ihx ihd
      obtain ⟨ih1, ih2, it1, it2, iv1, iv2, inn, ihx, ihd⟩ := R₄.inst
      cases hr₄
      try dsimp only
      fail "go"
      try dsimp only
      fail "gen"; refine' Tells.use ?tt16 B ?cf16 X ?cn16 T rfl ?cd16 ?cu16 ?ok16 ?er16; (case cf16 => assumption); (case cn16 => assumption); (case tt16 => exact IH _ _ hP2 _ x dx rw R₄); (case cd16 => first | exact bud hdp (by decide) | exact bud hdp (by omega) | omega); (case cu16 => first | exact bud3 hun (by decide) | exact bud3 hun (by omega) | omega); (try (case er16 => exact fun _ _ _ _ _ _ _ _ _ h => h.elim))
      · intro r news₁ h₁ tk₁ F₁ N₁ hJJ; obtain ⟨_, _, he, _⟩ := hJJ; cases he
      · intro e at_ g₂ news₁ h₁ tk₁ F₁ U R hJJ; obtain ⟨he, K₅⟩ := hJJ
        cases he
        try dsimp only
        exact er _ _ _ _ _ _ _ F₁ U R ⟨rfl, (K₂.trans K₄).trans K₅⟩
    | minusBad hP2 =>
      have O₂ := R₂.off N₂
      fail "go"
      try dsimp only
      fail "gen"; refine' Tells.use ?tt17 B ?cf17 X ?cn17 T rfl ?cd17 ?cu17 ?ok17 ?er17; (case cf17 => assumption); (case cn17 => assumption); (case tt17 => exact is_sign_b w _ x dx rw _ _ _ _ false R₂ (isS_no (by decide))); (case cd17 => first | exact bud hdp (by decide) | exact bud hdp (by omega) | omega); (case cu17 => first | exact bud3 hun (by decide) | exact bud3 hun (by omega) | omega); (try (case er17 => exact fun _ _ _ _ _ _ _ _ _ h => h.elim))
      intro r _ h₃ tk₃ F₃ N₃ hJJ; obtain ⟨rfl, rfl⟩ := hJJ
      try dsimp only
      fail "go"
      try dsimp only
      fail "gen"; refine' Tells.use ?tt18 B ?cf18 X ?cn18 T rfl ?cd18 ?cu18 ?ok18 ?er18; (case cf18 => assumption); (case cn18 => assumption); (case tt18 => exact is_sign_b w _ x dx rw _ _ _ _ true R₂ isS_yes); (case cd18 => first | exact bud hdp (by decide) | exact bud hdp (by omega) | omega); (case cu18 => first | exact bud3 hun (by decide) | exact bud3 hun (by omega) | omega); (try (case er18 => exact fun _ _ _ _ _ _ _ _ _ h => h.elim))
      intro r _ h₃ tk₃ F₃ N₃ hJJ; obtain ⟨rfl, rfl⟩ := hJJ
      try dsimp only
      fail "go"
      try dsimp only
      fail "gen"; refine' Tells.use ?tt19 B ?cf19 X ?cn19 T rfl ?cd19 ?cu19 ?ok19 ?er19; (case cf19 => assumption); (case cn19 => assumption); (case tt19 => exact taken_tells w _ x dx rw _ _ R₂); (case cd19 => first | exact bud hdp (by decide) | exact bud hdp (by omega) | omega); (case cu19 => first | exact bud3 hun (by decide) | exact bud3 hun (by omega) | omega); (try (case er19 => exact fun _ _ _ _ _ _ _ _ _ h => h.elim))
      intro r news₄ h₄ tk₄ F₄ N₄ hJJ; obtain ⟨K₄, R₄, hr₄⟩ := hJJ
      have O₄ := R₄.off N₄
      have hl₄ := K₄.mem O₂ hl
      have hrs₄ := K₄.rds O₂ hrs
      clear ihx ihd
      obtain ⟨ih1, ih2, it1, it2, iv1, iv2, inn, ihx, ihd⟩ := R₄.inst
      cases hr₄
      try dsimp only
      fail "go"
      try dsimp only
      fail "gen"; refine' Tells.use ?tt20 B ?cf20 X ?cn20 T rfl ?cd20 ?cu20 ?ok20 ?er20; (case cf20 => assumption); (case cn20 => assumption); (case tt20 => exact IH _ _ hP2 _ x dx rw R₄); (case cd20 => first | exact bud hdp (by decide) | exact bud hdp (by omega) | omega); (case cu20 => first | exact bud3 hun (by decide) | exact bud3 hun (by omega) | omega); (try (case er20 => exact fun _ _ _ _ _ _ _ _ _ h => h.elim))
      · intro r news₁ h₁ tk₁ F₁ N₁ hJJ; obtain ⟨_, _, he, _⟩ := hJJ; cases he
      · intro e at_ g₂ news₁ h₁ tk₁ F₁ U R hJJ; obtain ⟨he, K₅⟩ := hJJ
        cases he
        try dsimp only
        exact er _ _ _ _ _ _ _ F₁ U R ⟨rfl, (K₂.trans K₄).trans K₅⟩
end

-- C6
section
theorem eq_step (w : World) (D U : Nat) (P : List TokP → Res → Prop) (hD : 6 ≤ D) (hU : 60 ≤ U) (IH : ParT w 254 D U P) : ParT w 247 (D + 1) (U + 4) (REq P) := by
  intro ts res hP news x dx rw hR
  k_dflt (refine' enter [(Str.ofString "self", .ref x)] ?k6 ?k7 ?k8 ?k9 ?c1 ?c2 ?c3 ?c4 (by omega) (by omega) ?_; ((case k6 => k_is); (case k7 => k_is); (case k8 => exact rfl); (case k9 => exact rfl); (case c1 => exact rfl); (case c2 => exact rfl); (case c3 => exact rfl); (case c4 => decide)))
  intro dp un gd outer mean mg mb A₀ base g L s Q E B F X N T lv hdp hun ret er hE
  obtain ⟨ih1, ih2, it1, it2, iv1, iv2, inn, ihx, ihd⟩ := hR.inst
  fail "go"
  try dsimp only
  cases hP with
  | bad hP =>
    fail "gen"; refine' Tells.use ?tt1 B ?cf1 X ?cn1 T rfl ?cd1 ?cu1 ?ok1 ?er1; (case cf1 => assumption); (case cn1 => assumption); (case tt1 => exact IH _ _ hP news x dx rw hR); (case cd1 => first | exact bud hdp (by decide) | exact bud hdp (by omega) | omega); (case cu1 => first | exact bud3 hun (by decide) | exact bud3 hun (by omega) | omega); (try (case er1 => exact fun _ _ _ _ _ _ _ _ _ h => h.elim))
    · intro r news₁ h₁ tk₁ F₁ N₁ hJJ; obtain ⟨_, _, he, _⟩ := hJJ; cases he
    · intro e at_ g₂ news₁ h₁ tk₁ F₁ U R hEr
      try dsimp only
      exact er _ _ _ _ _ _ _ F₁ U R hEr
  | one hP hb =>
    fail "gen"; refine' Tells.use ?tt2 B ?cf2 X ?cn2 T rfl ?cd2 ?cu2 ?ok2 ?er2; (case cf2 => assumption); (case cn2 => assumption); (case tt2 => exact IH _ _ hP news x dx rw hR); (case cd2 => first | exact bud hdp (by decide) | exact bud hdp (by omega) | omega); (case cu2 => first | exact bud3 hun (by decide) | exact bud3 hun (by omega) | omega); (try (case er2 => exact fun _ _ _ _ _ _ _ _ _ h => h.elim))
    rotate_left
    · intro e at_ g₂ news₁ h₁ tk₁ F₁ U R hJJ; obtain ⟨he, _⟩ := hJJ; cases he
    intro r news₁ h₁ tk₁ F₁ N₁ hJJ; obtain ⟨d, ts', he, K₁, R₁, hr⟩ := hJJ
    cases he
    have O₁ := R₁.off N₁
    clear ihx ihd
    obtain ⟨ih1, ih2, it1, it2, iv1, iv2, inn, ihx, ihd⟩ := R₁.inst
    try dsimp only
    fail "go"
    try dsimp only
    fail "gen"; refine' Tells.use ?tt3 B ?cf3 X ?cn3 T rfl ?cd3 ?cu3 ?ok3 ?er3; (case cf3 => assumption); (case cn3 => assumption); (case tt3 => exact took_no w _ x dx rw _ _ _ _ R₁ hb); (case cd3 => first | exact bud hdp (by decide) | exact bud hdp (by omega) | omega); (case cu3 => first | exact bud3 hun (by decide) | exact bud3 hun (by omega) | omega); (try (case er3 => exact fun _ _ _ _ _ _ _ _ _ h => h.elim))
    intro r₂ news₂ h₂ tk₂ F₂ N₂ hJJ; obtain ⟨K₂, R₂, rfl⟩ := hJJ
    try dsimp only
    fail "go"
    try dsimp only
    exact ret (.ret _) _ _ _ _ (by assumption) (by assumption) ((mkE2 ⟨rfl, K₁.trans K₂, R₂, K₂.rd O₁ hr⟩))
  | two hP hP2 =>
    fail "gen"; refine' Tells.use ?tt4 B ?cf4 X ?cn4 T rfl ?cd4 ?cu4 ?ok4 ?er4; (case cf4 => assumption); (case cn4 => assumption); (case tt4 => exact IH _ _ hP news x dx rw hR); (case cd4 => first | exact bud hdp (by decide) | exact bud hdp (by omega) | omega); (case cu4 => first | exact bud3 hun (by decide) | exact bud3 hun (by omega) | omega); (try (case er4 => exact fun _ _ _ _ _ _ _ _ _ h => h.elim))
    rotate_left
    · intro e at_ g₂ news₁ h₁ tk₁ F₁ U R hJJ; obtain ⟨he, _⟩ := hJJ; cases he
    intro r news₁ h₁ tk₁ F₁ N₁ hJJ; obtain ⟨d, ts', he, K₁, R₁, hr⟩ := hJJ
    cases he
    have O₁ := R₁.off N₁
    clear ihx ihd
    obtain ⟨ih1, ih2, it1, it2, iv1, iv2, inn, ihx, ihd⟩ := R₁.inst
    try dsimp only
    fail "go"
    try dsimp only
    fail "gen"; refine' Tells.use ?tt5 B ?cf5 X ?cn5 T rfl ?cd5 ?cu5 ?ok5 ?er5; (case cf5 => assumption); (case cn5 => assumption); (case tt5 => exact took_yes w _ x dx rw _ _ _ _ R₁ isS_yes); (case cd5 => first | exact bud hdp (by decide) | exact bud hdp (by omega) | omega); (case cu5 => first | exact bud3 hun (by decide) | exact bud3 hun (by omega) | omega); (try (case er5 => exact fun _ _ _ _ _ _ _ _ _ h => h.elim))
    intro r₂ news₂ h₂ tk₂ F₂ N₂ hJJ; obtain ⟨K₂, R₂, rfl⟩ := hJJ
    have O₂ := R₂.off N₂
    have hr₂ := K₂.rd O₁ hr
    clear ihx ihd
    obtain ⟨ih1, ih2, it1, it2, iv1, iv2, inn, ihx, ihd⟩ := R₂.inst
    try dsimp only
    fail "go"
    try dsimp only
    fail "gen"; refine' Tells.use ?tt6 B ?cf6 X ?cn6 T rfl ?cd6 ?cu6 ?ok6 ?er6; (case cf6 => assumption); (case cn6 => assumption); (case tt6 => exact IH _ _ hP2 _ x dx rw R₂); (case cd6 => first | exact bud hdp (by decide) | exact bud hdp (by omega) | omega); (case cu6 => first | exact bud3 hun (by decide) | exact bud3 hun (by omega) | omega); (try (case er6 => exact fun _ _ _ _ _ _ _ _ _ h => h.elim))
    rotate_left
    · intro e at_ g₂ news₁ h₁ tk₁ F₁ U R hJJ; obtain ⟨he, _⟩ := hJJ; cases he
    intro r₃ news₃ h₃ tk₃ F₃ N₃ hJJ; obtain ⟨d, ts', he, K₃, R₃, hr₃⟩ := hJJ
    cases he
    try dsimp only
    fail "go"
    try dsimp only
    fail "gen"; refine' Tells.use ?tt7 B ?cf7 X ?cn7 T rfl ?cd7 ?cu7 ?ok7 ?er7; (case cf7 => assumption); (case cn7 => assumption); (case tt7 => exact t_eq_tells w _ _ _ _ _ (K₃.rd O₂ hr₂) hr₃); (case cd7 => first | exact bud hdp (by decide) | exact bud hdp (by omega) | omega); (case cu7 => first | exact bud3 hun (by decide) | exact bud3 hun (by omega) | omega); (try (case er7 => exact fun _ _ _ _ _ _ _ _ _ h => h.elim))
    intro r₄ news₄ h₄ tk₄ F₄ N₄ hJJ; obtain ⟨hs₄, hr₄⟩ := hJJ
    try dsimp only
    fail "go"
    try dsimp only
    exact ret (.ret _) _ _ _ _ (by assumption) (by assumption) ((mkE2 ⟨rfl, ((K₁.trans K₂).trans K₃).trans (Kept.of_sub hs₄), R₃.sub hs₄, hr₄⟩))
  | bad2 hP hP2 =>
    fail "gen"; refine' Tells.use ?tt8 B ?cf8 X ?cn8 T rfl ?cd8 ?cu8 ?ok8 ?er8; (case cf8 => assumption); (case cn8 => assumption); (case tt8 => exact IH _ _ hP news x dx rw hR); (case cd8 => first | exact bud hdp (by decide) | exact bud hdp (by omega) | omega); (case cu8 => first | exact bud3 hun (by decide) | exact bud3 hun (by omega) | omega); (try (case er8 => exact fun _ _ _ _ _ _ _ _ _ h => h.elim))
    rotate_left
    · intro e at_ g₂ news₁ h₁ tk₁ F₁ U R hJJ; obtain ⟨he, _⟩ := hJJ; cases he
    intro r news₁ h₁ tk₁ F₁ N₁ hJJ; obtain ⟨d, ts', he, K₁, R₁, hr⟩ := hJJ
    cases he
    clear ihx ihd
    obtain ⟨ih1, ih2, it1, it2, iv1, iv2, inn, ihx, ihd⟩ := R₁.inst
    try dsimp only
    fail "go"
    try dsimp only
    fail "gen"; refine' Tells.use ?tt9 B ?cf9 X ?cn9 T rfl ?cd9 ?cu9 ?ok9 ?er9; (case cf9 => assumption); (case cn9 => assumption); (case tt9 => exact took_yes w _ x dx rw _ _ _ _ R₁ isS_yes); (case cd9 => first | exact bud hdp (by decide) | exact bud hdp (by omega) | omega); (case cu9 => first | exact bud3 hun (by decide) | exact bud3 hun (by omega) | omega); (try (case er9 => exact fun _ _ _ _ _ _ _ _ _ h => h.elim))
    intro r₂ news₂ h₂ tk₂ F₂ N₂ hJJ; obtain ⟨K₂, R₂, rfl⟩ := hJJ
    clear ihx ihd
    obtain ⟨ih1, ih2, it1, it2, iv1, iv2, inn, ihx, ihd⟩ := R₂.inst
    try dsimp only
    fail "go"
    try dsimp only
    fail "gen"; refine' Tells.use ?tt10 B ?cf10 X ?cn10 T rfl ?cd10 ?cu10 ?ok10 ?er10; (case cf10 => assumption); (case cn10 => assumption); (case tt10 => exact IH _ _ hP2 _ x dx rw R₂); (case cd10 => first | exact bud hdp (by decide) | exact bud hdp (by omega) | omega); (case cu10 => first | exact bud3 hun (by decide) | exact bud3 hun (by omega) | omega); (try (case er10 => exact fun _ _ _ _ _ _ _ _ _ h => h.elim))
    · intro r news₁ h₁ tk₁ F₁ N₁ hJJ; obtain ⟨_, _, he, _⟩ := hJJ; cases he
    · intro e at_ g₂ news₁ h₁ tk₁ F₁ U R hJJ; obtain ⟨he, K₅⟩ := hJJ
      cases he
      try dsimp only
      exact er _ _ _ _ _ _ _ F₁ U R ⟨rfl, (K₁.trans K₂).trans K₅⟩

theorem signed_step (w : World) (D U : Nat) (S W : List TokP → Res → Prop) (hD : 6 ≤ D) (hU : 60 ≤ U) (IS : ParT w 268 D U S) (IW : ParT w 275 D U W) : ParT w 268 (D + 1) (U + 4) (RSigned S W) := by
  intro ts res hP news x dx rw hR
  k_dflt (refine' enter [(Str.ofString "self", .ref x)] ?k6 ?k7 ?k8 ?k9 ?c1 ?c2 ?c3 ?c4 (by omega) (by omega) ?_; ((case k6 => k_is); (case k7 => k_is); (case k8 => exact rfl); (case k9 => exact rfl); (case c1 => exact rfl); (case c2 => exact rfl); (case c3 => exact rfl); (case c4 => decide)))
  intro dp un gd outer mean mg mb A₀ base g L s Q E B F X N T lv hdp hun ret er hE
  obtain ⟨ih1, ih2, it1, it2, iv1, iv2, inn, ihx, ihd⟩ := hR.inst
  cases hP with
  | neg hP =>
    fail "go"
    try dsimp only
    fail "gen"; refine' Tells.use ?tt11 B ?cf11 X ?cn11 T rfl ?cd11 ?cu11 ?ok11 ?er11; (case cf11 => assumption); (case cn11 => assumption); (case tt11 => exact took_yes w _ x dx rw _ _ _ _ hR isS_yes); (case cd11 => first | exact bud hdp (by decide) | exact bud hdp (by omega) | omega); (case cu11 => first | exact bud3 hun (by decide) | exact bud3 hun (by omega) | omega); (try (case er11 => exact fun _ _ _ _ _ _ _ _ _ h => h.elim))
    intro r₂ news₂ h₂ tk₂ F₂ N₂ hJJ; obtain ⟨K₂, R₂, rfl⟩ := hJJ
    clear ihx ihd
    obtain ⟨ih1, ih2, it1, it2, iv1, iv2, inn, ihx, ihd⟩ := R₂.inst
    try dsimp only
    fail "go"
    try dsimp only
    fail "gen"; refine' Tells.use ?tt12 B ?cf12 X ?cn12 T rfl ?cd12 ?cu12 ?ok12 ?er12; (case cf12 => assumption); (case cn12 => assumption); (case tt12 => exact IS _ _ hP _ x dx rw R₂); (case cd12 => first | exact bud hdp (by decide) | exact bud hdp (by omega) | omega); (case cu12 => first | exact bud3 hun (by decide) | exact bud3 hun (by omega) | omega); (try (case er12 => exact fun _ _ _ _ _ _ _ _ _ h => h.elim))
    rotate_left
    · intro e at_ g₂ news₁ h₁ tk₁ F₁ U R hJJ; obtain ⟨he, _⟩ := hJJ; cases he
    intro r₃ news₃ h₃ tk₃ F₃ N₃ hJJ; obtain ⟨d, ts', he, K₃, R₃, hr₃⟩ := hJJ
    cases he
    try dsimp only
    fail "go"
    try dsimp only
    fail "gen"; refine' Tells.use ?tt13 B ?cf13 X ?cn13 T rfl ?cd13 ?cu13 ?ok13 ?er13; (case cf13 => assumption); (case cn13 => assumption); (case tt13 => exact t_minus_tells w _ _ _ hr₃); (case cd13 => first | exact bud hdp (by decide) | exact bud hdp (by omega) | omega); (case cu13 => first | exact bud3 hun (by decide) | exact bud3 hun (by omega) | omega); (try (case er13 => exact fun _ _ _ _ _ _ _ _ _ h => h.elim))
    intro r₄ news₄ h₄ tk₄ F₄ N₄ hJJ; obtain ⟨hs₄, hr₄⟩ := hJJ
    try dsimp only
    fail "go"
    try dsimp only
    exact ret (.ret _) _ _ _ _ (by assumption) (by assumption) ((mkE2 ⟨rfl, (K₂.trans K₃).trans (Kept.of_sub hs₄), R₃.sub hs₄, hr₄⟩))
  | negBad hP =>
    fail "go"
    try dsimp only
    fail "gen"; refine' Tells.use ?tt14 B ?cf14 X ?cn14 T rfl ?cd14 ?cu14 ?ok14 ?er14; (case cf14 => assumption); (case cn14 => assumption); (case tt14 => exact took_yes w _ x dx rw _ _ _ _ hR isS_yes); (case cd14 => first | exact bud hdp (by decide) | exact bud hdp (by omega) | omega); (case cu14 => first | exact bud3 hun (by decide) | exact bud3 hun (by omega) | omega); (try (case er14 => exact fun _ _ _ _ _ _ _ _ _ h => h.elim))
    intro r₂ news₂ h₂ tk₂ F₂ N₂ hJJ; obtain ⟨K₂, R₂, rfl⟩ := hJJ
    clear ihx ihd
    obtain ⟨ih1, ih2, it1, it2, iv1, iv2, inn, ihx, ihd⟩ := R₂.inst
    try dsimp only
    fail "go"
    try dsimp only
    fail "gen"; refine' Tells.use ?tt15 B ?cf15 X ?cn15 T rfl ?cd15 ?cu15 ?ok15 ?er15; (case cf15 => assumption); (case cn15 => assumption); (case tt15 => exact IS _ _ hP _ x dx rw R₂); (case cd15 => first | exact bud hdp (by decide) | exact bud hdp (by omega) | omega); (case cu15 => first | exact bud3 hun (by decide) | exact bud3 hun (by omega) | omega); (try (case er15 => exact fun _ _ _ _ _ _ _ _ _ h => h.elim))
    · intro r news₁ h₁ tk₁ F₁ N₁ hJJ; obtain ⟨_, _, he, _⟩ := hJJ; cases he
    · intro e at_ g₂ news₁ h₁ tk₁ F₁ U R hJJ; obtain ⟨he, K₅⟩ := hJJ
      cases he
      try dsimp only
      exact er _ _ _ _ _ _ _ F₁ U R ⟨rfl, K₂.trans K₅⟩
  | up hb1 hb2 hP =>
    fail "go"
    try dsimp only
    fail "gen"; refine' Tells.use ?tt16 B ?cf16 X ?cn16 T rfl ?cd16 ?cu16 ?ok16 ?er16; (case cf16 => assumption); (case cn16 => assumption); (case tt16 => exact took_no w _ x dx rw _ _ _ _ hR hb1); (case cd16 => first | exact bud hdp (by decide) | exact bud hdp (by omega) | omega); (case cu16 => first | exact bud3 hun (by decide) | exact bud3 hun (by omega) | omega); (try (case er16 => exact fun _ _ _ _ _ _ _ _ _ h => h.elim))
    intro r₂ news₂ h₂ tk₂ F₂ N₂ hJJ; obtain ⟨K₂, R₂, rfl⟩ := hJJ
    clear ihx ihd
    obtain ⟨ih1, ih2, it1, it2, iv1, iv2, inn, ihx, ihd⟩ := R₂.inst
    try dsimp only
    fail "go"
    try dsimp only
    fail "gen"; refine' Tells.use ?tt17 B ?cf17 X ?cn17 T rfl ?cd17 ?cu17 ?ok17 ?er17; (case cf17 => assumption); (case cn17 => assumption); (case tt17 => exact took_no w _ x dx rw _ _ _ _ R₂ hb2); (case cd17 => first | exact bud hdp (by decide) | exact bud hdp (by omega) | omega); (case cu17 => first | exact bud3 hun (by decide) | exact bud3 hun (by omega) | omega); (try (case er17 => exact fun _ _ _ _ _ _ _ _ _ h => h.elim))
    intro r₃ news₃ h₃ tk₃ F₃ N₃ hJJ; obtain ⟨K₃, R₃, rfl⟩ := hJJ
    clear ihx ihd
    obtain ⟨ih1, ih2, it1, it2, iv1, iv2, inn, ihx, ihd⟩ := R₃.inst
    try dsimp only
    fail "go"
    try dsimp only
    fail "gen"; refine' Tells.use ?tt18 B ?cf18 X ?cn18 T rfl ?cd18 ?cu18 ?ok18 ?er18; (case cf18 => assumption); (case cn18 => assumption); (case tt18 => exact IW _ _ hP _ x dx rw R₃); (case cd18 => first | exact bud hdp (by decide) | exact bud hdp (by omega) | omega); (case cu18 => first | exact bud3 hun (by decide) | exact bud3 hun (by omega) | omega); (try (case er18 => exact fun _ _ _ _ _ _ _ _ _ h => h.elim))
    · intro r₄ news₄ h₄ tk₄ F₄ N₄ hJJ; obtain ⟨d, ts', he, K₄, R₄, hr₄⟩ := hJJ
      try dsimp only
      fail "go"
      try dsimp only
      exact ret (.ret _) _ _ _ _ (by assumption) (by assumption) ((mkE2 ⟨he, (K₂.trans K₃).trans K₄, R₄, hr₄⟩))
    · intro e at_ g₂ news₁ h₁ tk₁ F₁ U R hJJ; obtain ⟨he, K₅⟩ := hJJ
      try dsimp only
      exact er _ _ _ _ _ _ _ F₁ U R ⟨he, (K₂.trans K₃).trans K₅⟩

theorem power_step (w : World) (D U : Nat) (X' S : List TokP → Res → Prop) (hD : 6 ≤ D) (hU : 60 ≤ U) (IX : ParT w 282 D U X') (IS : ParT w 268 D U S) : ParT w 275 (D + 1) (U + 4) (RPower X' S) := by
  intro ts res hP news x dx rw hR
  k_dflt (refine' enter [(Str.ofString "self", .ref x)] ?k6 ?k7 ?k8 ?k9 ?c1 ?c2 ?c3 ?c4 (by omega) (by omega) ?_; ((case k6 => k_is); (case k7 => k_is); (case k8 => exact rfl); (case k9 => exact rfl); (case c1 => exact rfl); (case c2 => exact rfl); (case c3 => exact rfl); (case c4 => decide)))
  intro dp un gd outer mean mg mb A₀ base g L s Q E B F X N T lv hdp hun ret er hE
  obtain ⟨ih1, ih2, it1, it2, iv1, iv2, inn, ihx, ihd⟩ := hR.inst
  cases hP with
  | bad hP =>
    fail "go"
    try dsimp only
    fail "gen"; refine' Tells.use ?tt19 B ?cf19 X ?cn19 T rfl ?cd19 ?cu19 ?ok19 ?er19; (case cf19 => assumption); (case cn19 => assumption); (case tt19 => exact IX _ _ hP news x dx rw hR); (case cd19 => first | exact bud hdp (by decide) | exact bud hdp (by omega) | omega); (case cu19 => first | exact bud3 hun (by decide) | exact bud3 hun (by omega) | omega); (try (case er19 => exact fun _ _ _ _ _ _ _ _ _ h => h.elim))
    · intro r news₁ h₁ tk₁ F₁ N₁ hJJ; obtain ⟨_, _, he, _⟩ := hJJ; cases he
    · intro e at_ g₂ news₁ h₁ tk₁ F₁ U R hEr
      try dsimp only
      exact er _ _ _ _ _ _ _ F₁ U R hEr
  | one hP hb1 hb2 =>
    fail "go"
    try dsimp only
    fail "gen"; refine' Tells.use ?tt20 B ?cf20 X ?cn20 T rfl ?cd20 ?cu20 ?ok20 ?er20; (case cf20 => assumption); (case cn20 => assumption); (case tt20 => exact IX _ _ hP news x dx rw hR); (case cd20 => first | exact bud hdp (by decide) | exact bud hdp (by omega) | omega); (case cu20 => first | exact bud3 hun (by decide) | exact bud3 hun (by omega) | omega); (try (case er20 => exact fun _ _ _ _ _ _ _ _ _ h => h.elim))
    rotate_left
    · intro e at_ g₂ news₁ h₁ tk₁ F₁ U R hJJ; obtain ⟨he, _⟩ := hJJ; cases he
    intro r news₁ h₁ tk₁ F₁ N₁ hJJ; obtain ⟨d, ts', he, K₁, R₁, hr⟩ := hJJ
    cases he
    have O₁ := R₁.off N₁
    clear ihx ihd
    obtain ⟨ih1, ih2, it1, it2, iv1, iv2, inn, ihx, ihd⟩ := R₁.inst
    try dsimp only
    fail "go"
    try dsimp only
    fail "gen"; refine' Tells.use ?tt21 B ?cf21 X ?cn21 T rfl ?cd21 ?cu21 ?ok21 ?er21; (case cf21 => assumption); (case cn21 => assumption); (case tt21 => exact took_no w _ x dx rw _ _ _ _ R₁ hb1); (case cd21 => first | exact bud hdp (by decide) | exact bud hdp (by omega) | omega); (case cu21 => first | exact bud3 hun (by decide) | exact bud3 hun (by omega) | omega); (try (case er21 => exact fun _ _ _ _ _ _ _ _ _ h => h.elim))
    intro r₂ news₂ h₂ tk₂ F₂ N₂ hJJ; obtain ⟨K₂, R₂, rfl⟩ := hJJ
    have O₂ := R₂.off N₂
    clear ihx ihd
    obtain ⟨ih1, ih2, it1, it2, iv1, iv2, inn, ihx, ihd⟩ := R₂.inst
    try dsimp only
    fail "go"
    try dsimp only
    fail "gen"; refine' Tells.use ?tt22 B ?cf22 X ?cn22 T rfl ?cd22 ?cu22 ?ok22 ?er22; (case cf22 => assumption); (case cn22 => assumption); (case tt22 => exact took_no w _ x dx rw _ _ _ _ R₂ hb2); (case cd22 => first | exact bud hdp (by decide) | exact bud hdp (by omega) | omega); (case cu22 => first | exact bud3 hun (by decide) | exact bud3 hun (by omega) | omega); (try (case er22 => exact fun _ _ _ _ _ _ _ _ _ h => h.elim))
    intro r₃ news₃ h₃ tk₃ F₃ N₃ hJJ; obtain ⟨K₃, R₃, rfl⟩ := hJJ
    try dsimp only
    fail "go"
    try dsimp only
    exact ret (.ret _) _ _ _ _ (by assumption) (by assumption) ((mkE2 ⟨rfl, (K₁.trans K₂).trans K₃, R₃, K₃.rd O₂ (K₂.rd O₁ hr)⟩))
  | pow hP ht hP2 =>
    rename_i b t ts1 e ts2
    fail "go"
    try dsimp only
    fail "gen"; refine' Tells.use ?tt23 B ?cf23 X ?cn23 T rfl ?cd23 ?cu23 ?ok23 ?er23; (case cf23 => assumption); (case cn23 => assumption); (case tt23 => exact IX _ _ hP news x dx rw hR); (case cd23 => first | exact bud hdp (by decide) | exact bud hdp (by omega) | omega); (case cu23 => first | exact bud3 hun (by decide) | exact bud3 hun (by omega) | omega); (try (case er23 => exact fun _ _ _ _ _ _ _ _ _ h => h.elim))
    rotate_left
    · intro e at_ g₂ news₁ h₁ tk₁ F₁ U R hJJ; obtain ⟨he, _⟩ := hJJ; cases he
    intro r news₁ h₁ tk₁ F₁ N₁ hJJ; obtain ⟨d, ts', he, K₁, R₁, hr⟩ := hJJ
    cases he
    have O₁ := R₁.off N₁
    clear ihx ihd
    obtain ⟨ih1, ih2, it1, it2, iv1, iv2, inn, ihx, ihd⟩ := R₁.inst
    obtain ⟨tt, tp⟩ := t
    rcases ht with rfl | rfl
    · try dsimp only
      fail "go"
      try dsimp only
      fail "gen"; refine' Tells.use ?tt24 B ?cf24 X ?cn24 T rfl ?cd24 ?cu24 ?ok24 ?er24; (case cf24 => assumption); (case cn24 => assumption); (case tt24 => exact took_yes w _ x dx rw _ _ _ _ R₁ isS_yes); (case cd24 => first | exact bud hdp (by decide) | exact bud hdp (by omega) | omega); (case cu24 => first | exact bud3 hun (by decide) | exact bud3 hun (by omega) | omega); (try (case er24 => exact fun _ _ _ _ _ _ _ _ _ h => h.elim))
      intro r₂ news₂ h₂ tk₂ F₂ N₂ hJJ; obtain ⟨K₂, R₂, rfl⟩ := hJJ
      have O₂ := R₂.off N₂
      have hr₂ := K₂.rd O₁ hr
      clear ihx ihd
      obtain ⟨ih1, ih2, it1, it2, iv1, iv2, inn, ihx, ihd⟩ := R₂.inst
      try dsimp only
      fail "go"
      try dsimp only
      fail "gen"; refine' Tells.use ?tt25 B ?cf25 X ?cn25 T rfl ?cd25 ?cu25 ?ok25 ?er25; (case cf25 => assumption); (case cn25 => assumption); (case tt25 => exact IS _ _ hP2 _ x dx rw R₂); (case cd25 => first | exact bud hdp (by decide) | exact bud hdp (by omega) | omega); (case cu25 => first | exact bud3 hun (by decide) | exact bud3 hun (by omega) | omega); (try (case er25 => exact fun _ _ _ _ _ _ _ _ _ h => h.elim))
      rotate_left
      · intro e at_ g₂ news₁ h₁ tk₁ F₁ U R hJJ; obtain ⟨he, _⟩ := hJJ; cases he
      intro r₃ news₃ h₃ tk₃ F₃ N₃ hJJ; obtain ⟨d, ts', he, K₃, R₃, hr₃⟩ := hJJ
      cases he
      try dsimp only
      fail "go"
      try dsimp only
      fail "gen"; refine' Tells.use ?tt26 B ?cf26 X ?cn26 T rfl ?cd26 ?cu26 ?ok26 ?er26; (case cf26 => assumption); (case cn26 => assumption); (case tt26 => exact t_pow_tells w _ _ _ _ _ (K₃.rd O₂ hr₂) hr₃); (case cd26 => first | exact bud hdp (by decide) | exact bud hdp (by omega) | omega); (case cu26 => first | exact bud3 hun (by decide) | exact bud3 hun (by omega) | omega); (try (case er26 => exact fun _ _ _ _ _ _ _ _ _ h => h.elim))
      intro r₄ news₄ h₄ tk₄ F₄ N₄ hJJ; obtain ⟨hs₄, hr₄⟩ := hJJ
      try dsimp only
      fail "go"
      try dsimp only
      exact ret (.ret _) _ _ _ _ (by assumption) (by assumption) ((mkE2 ⟨rfl, ((K₁.trans K₂).trans K₃).trans (Kept.of_sub hs₄), R₃.sub hs₄, hr₄⟩))
    · try dsimp only
      fail "go"
      try dsimp only
      fail "gen"; refine' Tells.use ?tt27 B ?cf27 X ?cn27 T rfl ?cd27 ?cu27 ?ok27 ?er27; (case cf27 => assumption); (case cn27 => assumption); (case tt27 => exact took_no w _ x dx rw _ _ _ _ R₁ (isS_no (by decide))); (case cd27 => first | exact bud hdp (by decide) | exact bud hdp (by omega) | omega); (case cu27 => first | exact bud3 hun (by decide) | exact bud3 hun (by omega) | omega); (try (case er27 => exact fun _ _ _ _ _ _ _ _ _ h => h.elim))
      intro r₂ news₂ h₂ tk₂ F₂ N₂ hJJ; obtain ⟨K₂, R₂, rfl⟩ := hJJ
      have O₂ := R₂.off N₂
      have hr₂ := K₂.rd O₁ hr
      clear ihx ihd
      obtain ⟨ih1, ih2, it1, it2, iv1, iv2, inn, ihx, ihd⟩ := R₂.inst
      try dsimp only
      fail "go"
      try dsimp only
      fail "gen"; refine' Tells.use ?tt28 B ?cf28 X ?cn28 T rfl ?cd28 ?cu28 ?ok28 ?er28; (case cf28 => assumption); (case cn28 => assumption); (case tt28 => exact took_yes w _ x dx rw _ _ _ _ R₂ isS_yes); (case cd28 => first | exact bud hdp (by decide) | exact bud hdp (by omega) | omega); (case cu28 => first | exact bud3 hun (by decide) | exact bud3 hun (by omega) | omega); (try (case er28 => exact fun _ _ _ _ _ _ _ _ _ h => h.elim))
      intro r₅ news₅ h₅ tk₅ F₅ N₅ hJJ; obtain ⟨K₅, R₅, rfl⟩ := hJJ
      have O₅ := R₅.off N₅
      have hr₅ := K₅.rd O₂ hr₂
      clear ihx ihd
      obtain ⟨ih1, ih2, it1, it2, iv1, iv2, inn, ihx, ihd⟩ := R₅.inst
      try dsimp only
      fail "go"
      try dsimp only
      fail "gen"; refine' Tells.use ?tt29 B ?cf29 X ?cn29 T rfl ?cd29 ?cu29 ?ok29 ?er29; (case cf29 => assumption); (case cn29 => assumption); (case tt29 => exact IS _ _ hP2 _ x dx rw R₅); (case cd29 => first | exact bud hdp (by decide) | exact bud hdp (by omega) | omega); (case cu29 => first | exact bud3 hun (by decide) | exact bud3 hun (by omega) | omega); (try (case er29 => exact fun _ _ _ _ _ _ _ _ _ h => h.elim))
      rotate_left
      · intro e at_ g₂ news₁ h₁ tk₁ F₁ U R hJJ; obtain ⟨he, _⟩ := hJJ; cases he
      intro r₃ news₃ h₃ tk₃ F₃ N₃ hJJ; obtain ⟨d, ts', he, K₃, R₃, hr₃⟩ := hJJ
      cases he
      try dsimp only
      fail "go"
      try dsimp only
      fail "gen"; refine' Tells.use ?tt30 B ?cf30 X ?cn30 T rfl ?cd30 ?cu30 ?ok30 ?er30; (case cf30 => assumption); (case cn30 => assumption); (case tt30 => exact t_pow_tells w _ _ _ _ _ (K₃.rd O₅ hr₅) hr₃); (case cd30 => first | exact bud hdp (by decide) | exact bud hdp (by omega) | omega); (case cu30 => first | exact bud3 hun (by decide) | exact bud3 hun (by omega) | omega); (try (case er30 => exact fun _ _ _ _ _ _ _ _ _ h => h.elim))
      intro r₄ news₄ h₄ tk₄ F₄ N₄ hJJ; obtain ⟨hs₄, hr₄⟩ := hJJ
      try dsimp only
      fail "go"
      try dsimp only
      exact ret (.ret _) _ _ _ _ (by assumption) (by assumption) ((mkE2 ⟨rfl, (((K₁.trans K₂).trans K₅).trans K₃).trans (Kept.of_sub hs₄), R₃.sub hs₄, hr₄⟩))
  | powBad hP ht hP2 =>
    rename_i b t ts1 a
    fail "go"
    try dsimp only
    fail "gen"; refine' Tells.use ?tt31 B ?cf31 X ?cn31 T rfl ?cd31 ?cu31 ?ok31 ?er31; (case cf31 => assumption); (case cn31 => assumption); (case tt31 => exact IX _ _ hP news x dx rw hR); (case cd31 => first | exact bud hdp (by decide) | exact bud hdp (by omega) | omega); (case cu31 => first | exact bud3 hun (by decide) | exact bud3 hun (by omega) | omega); (try (case er31 => exact fun _ _ _ _ _ _ _ _ _ h => h.elim))
    rotate_left
    · intro e at_ g₂ news₁ h₁ tk₁ F₁ U R hJJ; obtain ⟨he, _⟩ := hJJ; cases he
    intro r news₁ h₁ tk₁ F₁ N₁ hJJ; obtain ⟨d, ts', he, K₁, R₁, hr⟩ := hJJ
    cases he
    clear ihx ihd
    obtain ⟨ih1, ih2, it1, it2, iv1, iv2, inn, ihx, ihd⟩ := R₁.inst
    obtain ⟨tt, tp⟩ := t
    rcases ht with rfl | rfl
    · try dsimp only
      fail "go"
      try dsimp only
      fail "gen"; refine' Tells.use ?tt32 B ?cf32 X ?cn32 T rfl ?cd32 ?cu32 ?ok32 ?er32; (case cf32 => assumption); (case cn32 => assumption); (case tt32 => exact took_yes w _ x dx rw _ _ _ _ R₁ isS_yes); (case cd32 => first | exact bud hdp (by decide) | exact bud hdp (by omega) | omega); (case cu32 => first | exact bud3 hun (by decide) | exact bud3 hun (by omega) | omega); (try (case er32 => exact fun _ _ _ _ _ _ _ _ _ h => h.elim))
      intro r₂ news₂ h₂ tk₂ F₂ N₂ hJJ; obtain ⟨K₂, R₂, rfl⟩ := hJJ
      clear ihx ihd
      obtain ⟨ih1, ih2, it1, it2, iv1, iv2, inn, ihx, ihd⟩ := R₂.inst
      try dsimp only
      fail "go"
      try dsimp only
      fail "gen"; refine' Tells.use ?tt33 B ?cf33 X ?cn33 T rfl ?cd33 ?cu33 ?ok33 ?er33; (case cf33 => assumption); (case cn33 => assumption); (case tt33 => exact IS _ _ hP2 _ x dx rw R₂); (case cd33 => first | exact bud hdp (by decide) | exact bud hdp (by omega) | omega); (case cu33 => first | exact bud3 hun (by decide) | exact bud3 hun (by omega) | omega); (try (case er33 => exact fun _ _ _ _ _ _ _ _ _ h => h.elim))
      · intro r news₁ h₁ tk₁ F₁ N₁ hJJ; obtain ⟨_, _, he, _⟩ := hJJ; cases he
      · intro e at_ g₂ news₁ h₁ tk₁ F₁ U R hJJ; obtain ⟨he, K₅⟩ := hJJ
        cases he
        try dsimp only
        exact er _ _ _ _ _ _ _ F₁ U R ⟨rfl, (K₁.trans K₂).trans K₅⟩
    · try dsimp only
      fail "go"
      try dsimp only
      fail "gen"; refine' Tells.use ?tt34 B ?cf34 X ?cn34 T rfl ?cd34 ?cu34 ?ok34 ?er34; (case cf34 => assumption); (case cn34 => assumption); (case tt34 => exact took_no w _ x dx rw _ _ _ _ R₁ (isS_no (by decide))); (case cd34 => first | exact bud hdp (by decide) | exact bud hdp (by omega) | omega); (case cu34 => first | exact bud3 hun (by decide) | exact bud3 hun (by omega) | omega); (try (case er34 => exact fun _ _ _ _ _ _ _ _ _ h => h.elim))
      intro r₂ news₂ h₂ tk₂ F₂ N₂ hJJ; obtain ⟨K₂, R₂, rfl⟩ := hJJ
      clear ihx ihd
      obtain ⟨ih1, ih2, it1, it2, iv1, iv2, inn, ihx, ihd⟩ := R₂.inst
      try dsimp only
      fail "go"
      try dsimp only
      fail "gen"; refine' Tells.use ?tt35 B ?cf35 X ?cn35 T rfl ?cd35 ?cu35 ?ok35 ?er35; (case cf35 => assumption); (case cn35 => assumption); (case tt35 => exact took_yes w _ x dx rw _ _ _ _ R₂ isS_yes); (case cd35 => first | exact bud hdp (by decide) | exact bud hdp (by omega) | omega); (case cu35 => first | exact bud3 hun (by decide) | exact bud3 hun (by omega) | omega); (try (case er35 => exact fun _ _ _ _ _ _ _ _ _ h => h.elim))
      intro r₃ news₃ h₃ tk₃ F₃ N₃ hJJ; obtain ⟨K₃, R₃, rfl⟩ := hJJ
      clear ihx ihd
      obtain ⟨ih1, ih2, it1, it2, iv1, iv2, inn, ihx, ihd⟩ := R₃.inst
      try dsimp only
      fail "go"
      try dsimp only
      fail "gen"; refine' Tells.use ?tt36 B ?cf36 X ?cn36 T rfl ?cd36 ?cu36 ?ok36 ?er36; (case cf36 => assumption); (case cn36 => assumption); (case tt36 => exact IS _ _ hP2 _ x dx rw R₃); (case cd36 => first | exact bud hdp (by decide) | exact bud hdp (by omega) | omega); (case cu36 => first | exact bud3 hun (by decide) | exact bud3 hun (by omega) | omega); (try (case er36 => exact fun _ _ _ _ _ _ _ _ _ h => h.elim))
      · intro r news₁ h₁ tk₁ F₁ N₁ hJJ; obtain ⟨_, _, he, _⟩ := hJJ; cases he
      · intro e at_ g₂ news₁ h₁ tk₁ F₁ U R hJJ; obtain ⟨he, K₅⟩ := hJJ
        cases he
        try dsimp only
        exact er _ _ _ _ _ _ _ F₁ U R ⟨rfl, ((K₁.trans K₂).trans K₃).trans K₅⟩
end

-- C7
section
theorem prod_step (w : World) (D U : Nat) (P : List TokP → Res → Prop) (hD : 6 ≤ D) (hU : 60 ≤ U) (IH : ParT w 268 D U P) : ParT w 261 (D + 1) (U + 4) (RProd P) := by
  intro ts res hP news x dx rw hR
  k_dflt (refine' enter [(Str.ofString "self", .ref x)] ?k6 ?k7 ?k8 ?k9 ?c1 ?c2 ?c3 ?c4 (by omega) (by omega) ?_; ((case k6 => k_is); (case k7 => k_is); (case k8 => exact rfl); (case k9 => exact rfl); (case c1 => exact rfl); (case c2 => exact rfl); (case c3 => exact rfl); (case c4 => decide)))
  intro dp un gd outer mean mg mb A₀ base g L s Q E B F X N T lv hdp hun ret er hE
  obtain ⟨ih1, ih2, it1, it2, iv1, iv2, inn, ihx, ihd⟩ := hR.inst
  fail "go"
  try dsimp only
  cases hP with
  | bad hP =>
    fail "gen"; refine' Tells.use ?tt1 B ?cf1 X ?cn1 T rfl ?cd1 ?cu1 ?ok1 ?er1; (case cf1 => assumption); (case cn1 => assumption); (case tt1 => exact IH _ _ hP news x dx rw hR); (case cd1 => first | exact bud hdp (by decide) | exact bud hdp (by omega) | omega); (case cu1 => first | exact bud3 hun (by decide) | exact bud3 hun (by omega) | omega); (try (case er1 => exact fun _ _ _ _ _ _ _ _ _ h => h.elim))
    · intro r news₁ h₁ tk₁ F₁ N₁ hJJ; obtain ⟨_, _, he, _⟩ := hJJ; cases he
    · intro e at_ g₂ news₁ h₁ tk₁ F₁ U R hEr
      try dsimp only
      exact er _ _ _ _ _ _ _ F₁ U R hEr
  | go hP hL =>
    rename_i n0 d0 ts0
    fail "gen"; refine' Tells.use ?tt2 B ?cf2 X ?cn2 T rfl ?cd2 ?cu2 ?ok2 ?er2; (case cf2 => assumption); (case cn2 => assumption); (case tt2 => exact IH _ _ hP news x dx rw hR); (case cd2 => first | exact bud hdp (by decide) | exact bud hdp (by omega) | omega); (case cu2 => first | exact bud3 hun (by decide) | exact bud3 hun (by omega) | omega); (try (case er2 => exact fun _ _ _ _ _ _ _ _ _ h => h.elim))
    rotate_left
    · intro e at_ g₂ news₁ h₁ tk₁ F₁ U R hJJ; obtain ⟨he, _⟩ := hJJ; cases he
    intro r news₁ h₁ tk₁ F₁ N₁ hJJ; obtain ⟨d, ts', he, K₁, R₁, hr⟩ := hJJ
    cases he
    clear ihx ihd
    try dsimp only
    fail "go"
    try dsimp only
    refine While_inv2 (fun n m₁ news₁ => ∃ v acc ts, m₁ (Str.ofString "self") = some (.ref x) ∧ m₁ (Str.ofString "found") = some v ∧ Rd news₁ v acc ∧ Rdr news₁ x dx rw ts ∧ Kept dx news news₁ ∧ LProd P n acc ts res) (n₀ := n0) (by assumption) (by assumption)
      ⟨_, _, _, rfl, rfl, by fail "rd", R₁.sub (by fail "sub"), K₁.trans (Kept.of_sub (by fail "sub")), hL⟩ ?_ hE
    intro n m₁ news₂ h₂ tk₂ F₂ N₂ hJJ; obtain ⟨v, acc, ts2, hself, hfound, hrv, R₂, K₂, hL2⟩ := hJJ
    fail "gen"
    clear hL hP
    obtain ⟨ih1, ih2, it1, it2, iv1, iv2, inn, ihx, ihd⟩ := R₂.inst
    cases hL2 with
    | stop hb1 hb2 =>
      fail "go"
      try dsimp only
      fail "gen"; refine' Tells.use ?tt3 B ?cf3 X ?cn3 T rfl ?cd3 ?cu3 ?ok3 ?er3; (case cf3 => assumption); (case cn3 => assumption); (case tt3 => exact is_sign_b w _ x dx rw _ _ _ _ _ R₂ hb1); (case cd3 => first | exact bud hdp (by decide) | exact bud hdp (by omega) | omega); (case cu3 => first | exact bud3 hun (by decide) | exact bud3 hun (by omega) | omega); (try (case er3 => exact fun _ _ _ _ _ _ _ _ _ h => h.elim))
      intro r _ h₃ tk₃ F₃ N₃ hJJ; obtain ⟨rfl, rfl⟩ := hJJ
      try dsimp only
      fail "go"
      try dsimp only
      fail "gen"; refine' Tells.use ?tt4 B ?cf4 X ?cn4 T rfl ?cd4 ?cu4 ?ok4 ?er4; (case cf4 => assumption); (case cn4 => assumption); (case tt4 => exact is_sign_b w _ x dx rw _ _ _ _ _ R₂ hb2); (case cd4 => first | exact bud hdp (by decide) | exact bud hdp (by omega) | omega); (case cu4 => first | exact bud3 hun (by decide) | exact bud3 hun (by omega) | omega); (try (case er4 => exact fun _ _ _ _ _ _ _ _ _ h => h.elim))
      intro r _ h₄ tk₄ F₄ N₄ hJJ; obtain ⟨rfl, rfl⟩ := hJJ
      try dsimp only
      fail "go"
      try dsimp only
      exact ret (.ret _) _ _ _ _ (by assumption) (by assumption) ((mkE2 ⟨rfl, K₂, R₂, hrv⟩))
    | mul hP2 hL3 =>
      have O₂ := R₂.off N₂
      fail "go"
      try dsimp only
      fail "gen"; refine' Tells.use ?tt5 B ?cf5 X ?cn5 T rfl ?cd5 ?cu5 ?ok5 ?er5; (case cf5 => assumption); (case cn5 => assumption); (case tt5 => exact is_sign_b w _ x dx rw _ _ _ _ true R₂ isS_yes); (case cd5 => first | exact bud hdp (by decide) | exact bud hdp (by omega) | omega); (case cu5 => first | exact bud3 hun (by decide) | exact bud3 hun (by omega) | omega); (try (case er5 => exact fun _ _ _ _ _ _ _ _ _ h => h.elim))
      intro r _ h₃ tk₃ F₃ N₃ hJJ; obtain ⟨rfl, rfl⟩ := hJJ
      try dsimp only
      fail "go"
      try dsimp only
      fail "gen"; refine' Tells.use ?tt6 B ?cf6 X ?cn6 T rfl ?cd6 ?cu6 ?ok6 ?er6; (case cf6 => assumption); (case cn6 => assumption); (case tt6 => exact taken_tells w _ x dx rw _ _ R₂); (case cd6 => first | exact bud hdp (by decide) | exact bud hdp (by omega) | omega); (case cu6 => first | exact bud3 hun (by decide) | exact bud3 hun (by omega) | omega); (try (case er6 => exact fun _ _ _ _ _ _ _ _ _ h => h.elim))
      intro r news₄ h₄ tk₄ F₄ N₄ hJJ; obtain ⟨K₄, R₄, hr₄⟩ := hJJ
      have O₄ := R₄.off N₄
      have hrv₄ := K₄.rd O₂ hrv
      clear ihx ihd
      obtain ⟨ih1, ih2, it1, it2, iv1, iv2, inn, ihx, ihd⟩ := R₄.inst
      cases hr₄
      try dsimp only
      fail "go"
      try dsimp only
      fail "gen"; refine' Tells.use ?tt7 B ?cf7 X ?cn7 T rfl ?cd7 ?cu7 ?ok7 ?er7; (case cf7 => assumption); (case cn7 => assumption); (case tt7 => exact IH _ _ hP2 _ x dx rw R₄); (case cd7 => first | exact bud hdp (by decide) | exact bud hdp (by omega) | omega); (case cu7 => first | exact bud3 hun (by decide) | exact bud3 hun (by omega) | omega); (try (case er7 => exact fun _ _ _ _ _ _ _ _ _ h => h.elim))
      rotate_left
      · intro e at_ g₂ news₁ h₁ tk₁ F₁ U R hJJ; obtain ⟨he, _⟩ := hJJ; cases he
      intro r news₅ h₅ tk₅ F₅ N₅ hJJ; obtain ⟨d5, ts5, he, K₅, R₅, hr₅⟩ := hJJ
      cases he
      have hrv₅ := K₅.rd O₄ hrv₄
      have K₂₅ := (K₂.trans K₄).trans K₅
      clear ihx ihd
      try dsimp only
      fail "go"
      try dsimp only
      fail "gen"; refine' Tells.use ?tt8 B ?cf8 X ?cn8 T rfl ?cd8 ?cu8 ?ok8 ?er8; (case cf8 => assumption); (case cn8 => assumption); (case tt8 => exact t_prod_tells w _ _ _ _ _ _ _ (List.Mem.head _) (hrv₅.sub (by fail "sub")) (hr₅.sub (by fail "sub"))); (case cd8 => first | exact bud hdp (by decide) | exact bud hdp (by omega) | omega); (case cu8 => first | exact bud3 hun (by decide) | exact bud3 hun (by omega) | omega); (try (case er8 => exact fun _ _ _ _ _ _ _ _ _ h => h.elim))
      intro r' news₆ h₆ tk₆ F₆ N₆ hJJ; obtain ⟨hs₆, hr₆⟩ := hJJ
      have hs₅₆ := sub_trans (sub_cons sub_refl) hs₆
      try dsimp only
      fail "go"
      try dsimp only
      refine (mkE5 ⟨rfl, by assumption, by assumption, Nat.lt_succ_self _, _, _, _, ?_, ?_, hr₆, R₅.sub hs₅₆, K₂₅.trans (Kept.of_sub hs₅₆), hL3⟩)
      · exact hself
      · rfl
    | div hP2 hL3 =>
      have O₂ := R₂.off N₂
      fail "go"
      try dsimp only
      fail "gen"; refine' Tells.use ?tt9 B ?cf9 X ?cn9 T rfl ?cd9 ?cu9 ?ok9 ?er9; (case cf9 => assumption); (case cn9 => assumption); (case tt9 => exact is_sign_b w _ x dx rw _ _ _ _ false R₂ (isS_no (by decide))); (case cd9 => first | exact bud hdp (by decide) | exact bud hdp (by omega) | omega); (case cu9 => first | exact bud3 hun (by decide) | exact bud3 hun (by omega) | omega); (try (case er9 => exact fun _ _ _ _ _ _ _ _ _ h => h.elim))
      intro r _ h₃ tk₃ F₃ N₃ hJJ; obtain ⟨rfl, rfl⟩ := hJJ
      try dsimp only
      fail "go"
      try dsimp only
      fail "gen"; refine' Tells.use ?tt10 B ?cf10 X ?cn10 T rfl ?cd10 ?cu10 ?ok10 ?er10; (case cf10 => assumption); (case cn10 => assumption); (case tt10 => exact is_sign_b w _ x dx rw _ _ _ _ true R₂ isS_yes); (case cd10 => first | exact bud hdp (by decide) | exact bud hdp (by omega) | omega); (case cu10 => first | exact bud3 hun (by decide) | exact bud3 hun (by omega) | omega); (try (case er10 => exact fun _ _ _ _ _ _ _ _ _ h => h.elim))
      intro r _ h₃ tk₃ F₃ N₃ hJJ; obtain ⟨rfl, rfl⟩ := hJJ
      try dsimp only
      fail "go"
      try dsimp only
      fail "gen"; refine' Tells.use ?tt11 B ?cf11 X ?cn11 T rfl ?cd11 ?cu11 ?ok11 ?er11; (case cf11 => assumption); (case cn11 => assumption); (case tt11 => exact taken_tells w _ x dx rw _ _ R₂); (case cd11 => first | exact bud hdp (by decide) | exact bud hdp (by omega) | omega); (case cu11 => first | exact bud3 hun (by decide) | exact bud3 hun (by omega) | omega); (try (case er11 => exact fun _ _ _ _ _ _ _ _ _ h => h.elim))
      intro r news₄ h₄ tk₄ F₄ N₄ hJJ; obtain ⟨K₄, R₄, hr₄⟩ := hJJ
      have O₄ := R₄.off N₄
      have hrv₄ := K₄.rd O₂ hrv
      clear ihx ihd
      obtain ⟨ih1, ih2, it1, it2, iv1, iv2, inn, ihx, ihd⟩ := R₄.inst
      cases hr₄
      try dsimp only
      fail "go"
      try dsimp only
      fail "gen"; refine' Tells.use ?tt12 B ?cf12 X ?cn12 T rfl ?cd12 ?cu12 ?ok12 ?er12; (case cf12 => assumption); (case cn12 => assumption); (case tt12 => exact IH _ _ hP2 _ x dx rw R₄); (case cd12 => first | exact bud hdp (by decide) | exact bud hdp (by omega) | omega); (case cu12 => first | exact bud3 hun (by decide) | exact bud3 hun (by omega) | omega); (try (case er12 => exact fun _ _ _ _ _ _ _ _ _ h => h.elim))
      rotate_left
      · intro e at_ g₂ news₁ h₁ tk₁ F₁ U R hJJ; obtain ⟨he, _⟩ := hJJ; cases he
      intro r news₅ h₅ tk₅ F₅ N₅ hJJ; obtain ⟨d5, ts5, he, K₅, R₅, hr₅⟩ := hJJ
      cases he
      have hrv₅ := K₅.rd O₄ hrv₄
      have K₂₅ := (K₂.trans K₄).trans K₅
      clear ihx ihd
      try dsimp only
      fail "go"
      try dsimp only
      fail "gen"; refine' Tells.use ?tt13 B ?cf13 X ?cn13 T rfl ?cd13 ?cu13 ?ok13 ?er13; (case cf13 => assumption); (case cn13 => assumption); (case tt13 => exact t_quotient_tells w _ _ _ _ _ hrv₅ hr₅); (case cd13 => first | exact bud hdp (by decide) | exact bud hdp (by omega) | omega); (case cu13 => first | exact bud3 hun (by decide) | exact bud3 hun (by omega) | omega); (try (case er13 => exact fun _ _ _ _ _ _ _ _ _ h => h.elim))
      intro r' news₆ h₆ tk₆ F₆ N₆ hJJ; obtain ⟨hs₆, hr₆⟩ := hJJ
      try dsimp only
      fail "go"
      try dsimp only
      refine (mkE5 ⟨rfl, by assumption, by assumption, Nat.lt_succ_self _, _, _, _, ?_, ?_, hr₆, R₅.sub hs₆, K₂₅.trans (Kept.of_sub hs₆), hL3⟩)
      · exact hself
      · rfl
    | mulBad hP2 =>
      have O₂ := R₂.off N₂
      fail "go"
      try dsimp only
      fail "gen"; refine' Tells.use ?tt14 B ?cf14 X ?cn14 T rfl ?cd14 ?cu14 ?ok14 ?er14; (case cf14 => assumption); (case cn14 => assumption); (case tt14 => exact is_sign_b w _ x dx rw _ _ _ _ true R₂ isS_yes); (case cd14 => first | exact bud hdp (by decide) | exact bud hdp (by omega) | omega); (case cu14 => first | exact bud3 hun (by decide) | exact bud3 hun (by omega) | omega); (try (case er14 => exact fun _ _ _ _ _ _ _ _ _ h => h.elim))
      intro r _ h₃ tk₃ F₃ N₃ hJJ; obtain ⟨rfl, rfl⟩ := hJJ
      try dsimp only
      fail "go"
      try dsimp only
      fail "gen"; refine' Tells.use ?tt15 B ?cf15 X ?cn15 T rfl ?cd15 ?cu15 ?ok15 ?er15; (case cf15 => assumption); (case cn15 => assumption); (case tt15 => exact taken_tells w _ x dx rw _ _ R₂); (case cd15 => first | exact bud hdp (by decide) | exact bud hdp (by omega) | omega); (case cu15 => first | exact bud3 hun (by decide) | exact bud3 hun (by omega) | omega); (try (case er15 => exact fun _ _ _ _ _ _ _ _ _ h => h.elim))
      intro r news₄ h₄ tk₄ F₄ N₄ hJJ; obtain ⟨K₄, R₄, hr₄⟩ := hJJ
      have O₄ := R₄.off N₄
      have hrv₄ := K₄.rd O₂ hrv
      clear ihx ihd
      obtain ⟨ih1, ih2, it1, it2, iv1, iv2, inn, ihx, ihd⟩ := R₄.inst
      cases hr₄
      try dsimp only
      fail "go"
      try dsimp only
      fail "gen"; refine' Tells.use ?tt16 B ?cf16 X ?cn16 T rfl ?cd16 ?cu16 ?ok16 ?er16; (case cf16 => assumption); (case cn16 => assumption); (case tt16 => exact IH _ _ hP2 _ x dx rw R₄); (case cd16 => first | exact bud hdp (by decide) | exact bud hdp (by omega) | omega); (case cu16 => first | exact bud3 hun (by decide) | exact bud3 hun (by omega) | omega); (try (case er16 => exact fun _ _ _ _ _ _ _ _ _ h => h.elim))
      · intro r news₁ h₁ tk₁ F₁ N₁ hJJ; obtain ⟨_, _, he, _⟩ := hJJ; cases he
      · intro e at_ g₂ news₁ h₁ tk₁ F₁ U R hJJ; obtain ⟨he, K₅⟩ := hJJ
        cases he
        try dsimp only
        exact er _ _ _ _ _ _ _ F₁ U R ⟨rfl, (K₂.trans K₄).trans K₅⟩
    | divBad hP2 =>
      have O₂ := R₂.off N₂
      fail "go"
      try dsimp only
      fail "gen"; refine' Tells.use ?tt17 B ?cf17 X ?cn17 T rfl ?cd17 ?cu17 ?ok17 ?er17; (case cf17 => assumption); (case cn17 => assumption); (case tt17 => exact is_sign_b w _ x dx rw _ _ _ _ false R₂ (isS_no (by decide))); (case cd17 => first | exact bud hdp (by decide) | exact bud hdp (by omega) | omega); (case cu17 => first | exact bud3 hun (by decide) | exact bud3 hun (by omega) | omega); (try (case er17 => exact fun _ _ _ _ _ _ _ _ _ h => h.elim))
      intro r _ h₃ tk₃ F₃ N₃ hJJ; obtain ⟨rfl, rfl⟩ := hJJ
      try dsimp only
      fail "go"
      try dsimp only
      fail "gen"; refine' Tells.use ?tt18 B ?cf18 X ?cn18 T rfl ?cd18 ?cu18 ?ok18 ?er18; (case cf18 => assumption); (case cn18 => assumption); (case tt18 => exact is_sign_b w _ x dx rw _ _ _ _ true R₂ isS_yes); (case cd18 => first | exact bud hdp (by decide) | exact bud hdp (by omega) | omega); (case cu18 => first | exact bud3 hun (by decide) | exact bud3 hun (by omega) | omega); (try (case er18 => exact fun _ _ _ _ _ _ _ _ _ h => h.elim))
      intro r _ h₃ tk₃ F₃ N₃ hJJ; obtain ⟨rfl, rfl⟩ := hJJ
      try dsimp only
      fail "go"
      try dsimp only
      fail "gen"; refine' Tells.use ?tt19 B ?cf19 X ?cn19 T rfl ?cd19 ?cu19 ?ok19 ?er19; (case cf19 => assumption); (case cn19 => assumption); (case tt19 => exact taken_tells w _ x dx rw _ _ R₂); (case cd19 => first | exact bud hdp (by decide) | exact bud hdp (by omega) | omega); (case cu19 => first | exact bud3 hun (by decide) | exact bud3 hun (by omega) | omega); (try (case er19 => exact fun _ _ _ _ _ _ _ _ _ h => h.elim))
      intro r news₄ h₄ tk₄ F₄ N₄ hJJ; obtain ⟨K₄, R₄, hr₄⟩ := hJJ
      have O₄ := R₄.off N₄
      have hrv₄ := K₄.rd O₂ hrv
      clear ihx ihd
      obtain ⟨ih1, ih2, it1, it2, iv1, iv2, inn, ihx, ihd⟩ := R₄.inst
      cases hr₄
      try dsimp only
      fail "go"
      try dsimp only
      fail "gen"; refine' Tells.use ?tt20 B ?cf20 X ?cn20 T rfl ?cd20 ?cu20 ?ok20 ?er20; (case cf20 => assumption); (case cn20 => assumption); (case tt20 => exact IH _ _ hP2 _ x dx rw R₄); (case cd20 => first | exact bud hdp (by decide) | exact bud hdp (by omega) | omega); (case cu20 => first | exact bud3 hun (by decide) | exact bud3 hun (by omega) | omega); (try (case er20 => exact fun _ _ _ _ _ _ _ _ _ h => h.elim))
      · intro r news₁ h₁ tk₁ F₁ N₁ hJJ; obtain ⟨_, _, he, _⟩ := hJJ; cases he
      · intro e at_ g₂ news₁ h₁ tk₁ F₁ U R hJJ; obtain ⟨he, K₅⟩ := hJJ
        cases he
        try dsimp only
        exact er _ _ _ _ _ _ _ F₁ U R ⟨rfl, (K₂.trans K₄).trans K₅⟩

theorem post_step (w : World) (D U : Nat) (P : List TokP → Res → Prop) (hD : 6 ≤ D) (hU : 60 ≤ U) (IH : ParT w 289 D U P) : ParT w 282 (D + 1) (U + 4) (RPost P) := by
  intro ts res hP news x dx rw hR
  k_dflt (refine' enter [(Str.ofString "self", .ref x)] ?k6 ?k7 ?k8 ?k9 ?c1 ?c2 ?c3 ?c4 (by omega) (by omega) ?_; ((case k6 => k_is); (case k7 => k_is); (case k8 => exact rfl); (case k9 => exact rfl); (case c1 => exact rfl); (case c2 => exact rfl); (case c3 => exact rfl); (case c4 => decide)))
  intro dp un gd outer mean mg mb A₀ base g L s Q E B F X N T lv hdp hun ret er hE
  obtain ⟨ih1, ih2, it1, it2, iv1, iv2, inn, ihx, ihd⟩ := hR.inst
  fail "go"
  try dsimp only
  cases hP with
  | bad hP =>
    fail "gen"; refine' Tells.use ?tt21 B ?cf21 X ?cn21 T rfl ?cd21 ?cu21 ?ok21 ?er21; (case cf21 => assumption); (case cn21 => assumption); (case tt21 => exact IH _ _ hP news x dx rw hR); (case cd21 => first | exact bud hdp (by decide) | exact bud hdp (by omega) | omega); (case cu21 => first | exact bud3 hun (by decide) | exact bud3 hun (by omega) | omega); (try (case er21 => exact fun _ _ _ _ _ _ _ _ _ h => h.elim))
    · intro r news₁ h₁ tk₁ F₁ N₁ hJJ; obtain ⟨_, _, he, _⟩ := hJJ; cases he
    · intro e at_ g₂ news₁ h₁ tk₁ F₁ U R hEr
      try dsimp only
      exact er _ _ _ _ _ _ _ F₁ U R hEr
  | go hP hL =>
    rename_i n0 d0 ts0
    fail "gen"; refine' Tells.use ?tt22 B ?cf22 X ?cn22 T rfl ?cd22 ?cu22 ?ok22 ?er22; (case cf22 => assumption); (case cn22 => assumption); (case tt22 => exact IH _ _ hP news x dx rw hR); (case cd22 => first | exact bud hdp (by decide) | exact bud hdp (by omega) | omega); (case cu22 => first | exact bud3 hun (by decide) | exact bud3 hun (by omega) | omega); (try (case er22 => exact fun _ _ _ _ _ _ _ _ _ h => h.elim))
    rotate_left
    · intro e at_ g₂ news₁ h₁ tk₁ F₁ U R hJJ; obtain ⟨he, _⟩ := hJJ; cases he
    intro r news₁ h₁ tk₁ F₁ N₁ hJJ; obtain ⟨d, ts', he, K₁, R₁, hr⟩ := hJJ
    cases he
    clear ihx ihd
    try dsimp only
    fail "go"
    try dsimp only
    refine While_inv2 (fun n m₁ news₁ => ∃ v acc ts, m₁ (Str.ofString "self") = some (.ref x) ∧ m₁ (Str.ofString "found") = some v ∧ Rd news₁ v acc ∧ Rdr news₁ x dx rw ts ∧ Kept dx news news₁ ∧ LPost n acc ts res) (n₀ := n0) (by assumption) (by assumption)
      ⟨_, _, _, rfl, rfl, by fail "rd", R₁.sub (by fail "sub"), K₁.trans (Kept.of_sub (by fail "sub")), hL⟩ ?_ hE
    intro n m₁ news₂ h₂ tk₂ F₂ N₂ hJJ; obtain ⟨v, acc, ts2, hself, hfound, hrv, R₂, K₂, hL2⟩ := hJJ
    fail "gen"
    clear hL hP
    obtain ⟨ih1, ih2, it1, it2, iv1, iv2, inn, ihx, ihd⟩ := R₂.inst
    have O₂ := R₂.off N₂
    cases hL2 with
    | stop hb1 =>
      fail "go"
      try dsimp only
      fail "gen"; refine' Tells.use ?tt23 B ?cf23 X ?cn23 T rfl ?cd23 ?cu23 ?ok23 ?er23; (case cf23 => assumption); (case cn23 => assumption); (case tt23 => exact took_no w _ x dx rw _ _ _ _ R₂ hb1); (case cd23 => first | exact bud hdp (by decide) | exact bud hdp (by omega) | omega); (case cu23 => first | exact bud3 hun (by decide) | exact bud3 hun (by omega) | omega); (try (case er23 => exact fun _ _ _ _ _ _ _ _ _ h => h.elim))
      intro r news₃ h₃ tk₃ F₃ N₃ hJJ; obtain ⟨K₃, R₃, rfl⟩ := hJJ
      try dsimp only
      fail "go"
      try dsimp only
      exact ret (.ret _) _ _ _ _ (by assumption) (by assumption) ((mkE2 ⟨rfl, K₂.trans K₃, R₃, K₃.rd O₂ hrv⟩))
    | more hL3 =>
      fail "go"
      try dsimp only
      fail "gen"; refine' Tells.use ?tt24 B ?cf24 X ?cn24 T rfl ?cd24 ?cu24 ?ok24 ?er24; (case cf24 => assumption); (case cn24 => assumption); (case tt24 => exact took_yes w _ x dx rw _ _ _ _ R₂ isS_yes); (case cd24 => first | exact bud hdp (by decide) | exact bud hdp (by omega) | omega); (case cu24 => first | exact bud3 hun (by decide) | exact bud3 hun (by omega) | omega); (try (case er24 => exact fun _ _ _ _ _ _ _ _ _ h => h.elim))
      intro r news₃ h₃ tk₃ F₃ N₃ hJJ; obtain ⟨K₃, R₃, rfl⟩ := hJJ
      have hrv₃ := K₃.rd O₂ hrv
      have hlen1 : [v].length ≤ 2 ^ 20 := by show 1 ≤ 2 ^ 20; decide
      try dsimp only
      fail "go"
      try dsimp only
      fail "gen"; refine' Tells.use ?tt25 B ?cf25 X ?cn25 T rfl ?cd25 ?cu25 ?ok25 ?er25; (case cf25 => assumption); (case cn25 => assumption); (case tt25 => exact t_call_tells w _ _ _ _ _ _ _ (List.Mem.head _) (Rds.cons (hrv₃.sub (by fail "sub")) .nil) hlen1); (case cd25 => first | exact bud hdp (by decide) | exact bud hdp (by omega) | omega); (case cu25 => first | exact bud3 hun (by decide) | exact bud3 hun (by omega) | omega); (try (case er25 => exact fun _ _ _ _ _ _ _ _ _ h => h.elim))
      intro r' news₆ h₆ tk₆ F₆ N₆ hJJ; obtain ⟨hs₆, hr₆⟩ := hJJ
      have hs₃₆ := sub_trans (sub_cons sub_refl) hs₆
      try dsimp only
      fail "go"
      try dsimp only
      refine (mkE5 ⟨rfl, by assumption, by assumption, Nat.lt_succ_self _, _, _, _, ?_, ?_, hr₆, R₃.sub hs₃₆, (K₂.trans K₃).trans (Kept.of_sub hs₃₆), hL3⟩)
      · exact hself
      · rfl
end

-- C8
section
theorem plain_step (w : World) (D U : Nat) (P : List TokP → Res → Prop) (Rr : String → List TokP → Res → Prop) (hD : 6 ≤ D) (hU : 60 ≤ U) (IH : ParT w 247 D U P) (IR : ParL w D U Rr) : ParT w 289 (D + 1) (U + 4) (RPlain P Rr) := by
  intro ts res hP news x dx rw hR
  k_dflt (refine' enter [(Str.ofString "self", .ref x)] ?k6 ?k7 ?k8 ?k9 ?c1 ?c2 ?c3 ?c4 (by omega) (by omega) ?_; ((case k6 => k_is); (case k7 => k_is); (case k8 => exact rfl); (case k9 => exact rfl); (case c1 => exact rfl); (case c2 => exact rfl); (case c3 => exact rfl); (case c4 => decide)))
  intro dp un gd outer mean mg mb A₀ base g L s Q E B F X N T lv hdp hun ret er hE
  obtain ⟨ih1, ih2, it1, it2, iv1, iv2, inn, ihx, ihd⟩ := hR.inst
  cases hP with
  | num =>
    fail "go"
    try dsimp only
    fail "gen"; refine' Tells.use ?tt1 B ?cf1 X ?cn1 T rfl ?cd1 ?cu1 ?ok1 ?er1; (case cf1 => assumption); (case cn1 => assumption); (case tt1 => exact kind_tells w _ x dx rw _ _ hR); (case cd1 => first | exact bud hdp (by decide) | exact bud hdp (by omega) | omega); (case cu1 => first | exact bud3 hun (by decide) | exact bud3 hun (by omega) | omega); (try (case er1 => exact fun _ _ _ _ _ _ _ _ _ h => h.elim))
    intro r _ h₁ tk₁ F₁ N₁ hJJ; obtain ⟨rfl, t, rfl⟩ := hJJ
    dsimp only [Tk.kind]
    fail "go"
    try dsimp only
    fail "gen"; refine' Tells.use ?tt2 B ?cf2 X ?cn2 T rfl ?cd2 ?cu2 ?ok2 ?er2; (case cf2 => assumption); (case cn2 => assumption); (case tt2 => exact taken_tells w _ x dx rw _ _ hR); (case cd2 => first | exact bud hdp (by decide) | exact bud hdp (by omega) | omega); (case cu2 => first | exact bud3 hun (by decide) | exact bud3 hun (by omega) | omega); (try (case er2 => exact fun _ _ _ _ _ _ _ _ _ h => h.elim))
    intro r news₂ h₂ tk₂ F₂ N₂ hJJ; obtain ⟨K₂, R₂, hr₂⟩ := hJJ
    cases hr₂
    try dsimp only
    fail "go"
    try dsimp only
    fail "gen"; refine' Tells.use ?tt3 B ?cf3 X ?cn3 T rfl ?cd3 ?cu3 ?ok3 ?er3; (case cf3 => assumption); (case cn3 => assumption); (case tt3 => exact t_num_tells w _ _ _ _); (case cd3 => first | exact bud hdp (by decide) | exact bud hdp (by omega) | omega); (case cu3 => first | exact bud3 hun (by decide) | exact bud3 hun (by omega) | omega); (try (case er3 => exact fun _ _ _ _ _ _ _ _ _ h => h.elim))
    intro r₄ news₄ h₄ tk₄ F₄ N₄ hJJ; obtain ⟨hs₄, hr₄⟩ := hJJ
    try dsimp only
    fail "go"
    try dsimp only
    exact ret (.ret _) _ _ _ _ (by assumption) (by assumption) ((mkE2 ⟨rfl, K₂.trans (Kept.of_sub hs₄), R₂.sub hs₄, hr₄⟩))
  | name hb =>
    fail "go"
    try dsimp only
    fail "gen"; refine' Tells.use ?tt4 B ?cf4 X ?cn4 T rfl ?cd4 ?cu4 ?ok4 ?er4; (case cf4 => assumption); (case cn4 => assumption); (case tt4 => exact kind_tells w _ x dx rw _ _ hR); (case cd4 => first | exact bud hdp (by decide) | exact bud hdp (by omega) | omega); (case cu4 => first | exact bud3 hun (by decide) | exact bud3 hun (by omega) | omega); (try (case er4 => exact fun _ _ _ _ _ _ _ _ _ h => h.elim))
    intro r _ h₁ tk₁ F₁ N₁ hJJ; obtain ⟨rfl, t, rfl⟩ := hJJ
    dsimp only [Tk.kind]
    fail "go"
    try dsimp only
    fail "gen"; refine' Tells.use ?tt5 B ?cf5 X ?cn5 T rfl ?cd5 ?cu5 ?ok5 ?er5; (case cf5 => assumption); (case cn5 => assumption); (case tt5 => exact kind_tells w _ x dx rw _ _ hR); (case cd5 => first | exact bud hdp (by decide) | exact bud hdp (by omega) | omega); (case cu5 => first | exact bud3 hun (by decide) | exact bud3 hun (by omega) | omega); (try (case er5 => exact fun _ _ _ _ _ _ _ _ _ h => h.elim))
    intro r _ h₁ tk₁ F₁ N₁ hJJ; obtain ⟨rfl, t, rfl⟩ := hJJ
    dsimp only [Tk.kind]
    fail "go"
    try dsimp only
    fail "gen"; refine' Tells.use ?tt6 B ?cf6 X ?cn6 T rfl ?cd6 ?cu6 ?ok6 ?er6; (case cf6 => assumption); (case cn6 => assumption); (case tt6 => exact taken_tells w _ x dx rw _ _ hR); (case cd6 => first | exact bud hdp (by decide) | exact bud hdp (by omega) | omega); (case cu6 => first | exact bud3 hun (by decide) | exact bud3 hun (by omega) | omega); (try (case er6 => exact fun _ _ _ _ _ _ _ _ _ h => h.elim))
    intro r news₂ h₂ tk₂ F₂ N₂ hJJ; obtain ⟨K₂, R₂, hr₂⟩ := hJJ
    cases hr₂
    clear ihx ihd
    obtain ⟨ih1, ih2, it1, it2, iv1, iv2, inn, ihx, ihd⟩ := R₂.inst
    try dsimp only
    fail "go"
    try dsimp only
    fail "gen"; refine' Tells.use ?tt7 B ?cf7 X ?cn7 T rfl ?cd7 ?cu7 ?ok7 ?er7; (case cf7 => assumption); (case cn7 => assumption); (case tt7 => exact took_no w _ x dx rw _ _ _ _ R₂ hb); (case cd7 => first | exact bud hdp (by decide) | exact bud hdp (by omega) | omega); (case cu7 => first | exact bud3 hun (by decide) | exact bud3 hun (by omega) | omega); (try (case er7 => exact fun _ _ _ _ _ _ _ _ _ h => h.elim))
    intro r₃ news₃ h₃ tk₃ F₃ N₃ hJJ; obtain ⟨K₃, R₃, rfl⟩ := hJJ
    try dsimp only
    fail "go"
    try dsimp only
    fail "gen"; refine' Tells.use ?tt8 B ?cf8 X ?cn8 T rfl ?cd8 ?cu8 ?ok8 ?er8; (case cf8 => assumption); (case cn8 => assumption); (case tt8 => exact t_sym_tells w _ _ _); (case cd8 => first | exact bud hdp (by decide) | exact bud hdp (by omega) | omega); (case cu8 => first | exact bud3 hun (by decide) | exact bud3 hun (by omega) | omega); (try (case er8 => exact fun _ _ _ _ _ _ _ _ _ h => h.elim))
    intro r₄ news₄ h₄ tk₄ F₄ N₄ hJJ; obtain ⟨hs₄, hr₄⟩ := hJJ
    try dsimp only
    fail "go"
    try dsimp only
    exact ret (.ret _) _ _ _ _ (by assumption) (by assumption) ((mkE2 ⟨rfl, (K₂.trans K₃).trans (Kept.of_sub hs₄), R₃.sub hs₄, hr₄⟩))
  | call hP =>
    fail "go"
    try dsimp only
    fail "gen"; refine' Tells.use ?tt9 B ?cf9 X ?cn9 T rfl ?cd9 ?cu9 ?ok9 ?er9; (case cf9 => assumption); (case cn9 => assumption); (case tt9 => exact kind_tells w _ x dx rw _ _ hR); (case cd9 => first | exact bud hdp (by decide) | exact bud hdp (by omega) | omega); (case cu9 => first | exact bud3 hun (by decide) | exact bud3 hun (by omega) | omega); (try (case er9 => exact fun _ _ _ _ _ _ _ _ _ h => h.elim))
    intro r _ h₁ tk₁ F₁ N₁ hJJ; obtain ⟨rfl, t, rfl⟩ := hJJ
    dsimp only [Tk.kind]
    fail "go"
    try dsimp only
    fail "gen"; refine' Tells.use ?tt10 B ?cf10 X ?cn10 T rfl ?cd10 ?cu10 ?ok10 ?er10; (case cf10 => assumption); (case cn10 => assumption); (case tt10 => exact kind_tells w _ x dx rw _ _ hR); (case cd10 => first | exact bud hdp (by decide) | exact bud hdp (by omega) | omega); (case cu10 => first | exact bud3 hun (by decide) | exact bud3 hun (by omega) | omega); (try (case er10 => exact fun _ _ _ _ _ _ _ _ _ h => h.elim))
    intro r _ h₁ tk₁ F₁ N₁ hJJ; obtain ⟨rfl, t, rfl⟩ := hJJ
    dsimp only [Tk.kind]
    fail "go"
    try dsimp only
    fail "gen"; refine' Tells.use ?tt11 B ?cf11 X ?cn11 T rfl ?cd11 ?cu11 ?ok11 ?er11; (case cf11 => assumption); (case cn11 => assumption); (case tt11 => exact taken_tells w _ x dx rw _ _ hR); (case cd11 => first | exact bud hdp (by decide) | exact bud hdp (by omega) | omega); (case cu11 => first | exact bud3 hun (by decide) | exact bud3 hun (by omega) | omega); (try (case er11 => exact fun _ _ _ _ _ _ _ _ _ h => h.elim))
    intro r news₂ h₂ tk₂ F₂ N₂ hJJ; obtain ⟨K₂, R₂, hr₂⟩ := hJJ
    cases hr₂
    clear ihx ihd
    obtain ⟨ih1, ih2, it1, it2, iv1, iv2, inn, ihx, ihd⟩ := R₂.inst
    try dsimp only
    fail "go"
    try dsimp only
    fail "gen"; refine' Tells.use ?tt12 B ?cf12 X ?cn12 T rfl ?cd12 ?cu12 ?ok12 ?er12; (case cf12 => assumption); (case cn12 => assumption); (case tt12 => exact took_yes w _ x dx rw _ _ _ _ R₂ isS_yes); (case cd12 => first | exact bud hdp (by decide) | exact bud hdp (by omega) | omega); (case cu12 => first | exact bud3 hun (by decide) | exact bud3 hun (by omega) | omega); (try (case er12 => exact fun _ _ _ _ _ _ _ _ _ h => h.elim))
    intro r₃ news₃ h₃ tk₃ F₃ N₃ hJJ; obtain ⟨K₃, R₃, rfl⟩ := hJJ
    clear ihx ihd
    obtain ⟨ih1, ih2, it1, it2, iv1, iv2, inn, ihx, ihd⟩ := R₃.inst
    try dsimp only
    fail "go"
    try dsimp only
    fail "gen"; refine' Tells.use ?tt13 B ?cf13 X ?cn13 T rfl ?cd13 ?cu13 ?ok13 ?er13; (case cf13 => assumption); (case cn13 => assumption); (case tt13 => exact IR ")" (.inl rfl) _ _ hP _ x dx rw _ R₃); (case cd13 => first | exact bud hdp (by decide) | exact bud hdp (by omega) | omega); (case cu13 => first | exact bud3 hun (by decide) | exact bud3 hun (by omega) | omega); (try (case er13 => exact fun _ _ _ _ _ _ _ _ _ h => h.elim))
    rotate_left
    · intro e at_ g₂ news₁ h₁ tk₁ F₁ U R hJJ; obtain ⟨he, _⟩ := hJJ; cases he
    intro r₄ news₄ h₄ tk₄ F₄ N₄ hJJ; obtain ⟨ds, ts', l, vs, n, he, K₄, R₄, rfl, hl, hrs, hlen⟩ := hJJ
    cases he
    try dsimp only
    fail "go"
    try dsimp only
    fail "gen"; refine' Tells.use ?tt14 B ?cf14 X ?cn14 T rfl ?cd14 ?cu14 ?ok14 ?er14; (case cf14 => assumption); (case cn14 => assumption); (case tt14 => exact t_call_tells w _ _ _ l vs n _ hl hrs hlen); (case cd14 => first | exact bud hdp (by decide) | exact bud hdp (by omega) | omega); (case cu14 => first | exact bud3 hun (by decide) | exact bud3 hun (by omega) | omega); (try (case er14 => exact fun _ _ _ _ _ _ _ _ _ h => h.elim))
    intro r₅ news₅ h₅ tk₅ F₅ N₅ hJJ; obtain ⟨hs₅, hr₅⟩ := hJJ
    try dsimp only
    fail "go"
    try dsimp only
    exact ret (.ret _) _ _ _ _ (by assumption) (by assumption) ((mkE2 ⟨rfl, ((K₂.trans K₃).trans K₄).trans (Kept.of_sub hs₅), R₄.sub hs₅, hr₅⟩))
  | callBad hP =>
    fail "go"
    try dsimp only
    fail "gen"; refine' Tells.use ?tt15 B ?cf15 X ?cn15 T rfl ?cd15 ?cu15 ?ok15 ?er15; (case cf15 => assumption); (case cn15 => assumption); (case tt15 => exact kind_tells w _ x dx rw _ _ hR); (case cd15 => first | exact bud hdp (by decide) | exact bud hdp (by omega) | omega); (case cu15 => first | exact bud3 hun (by decide) | exact bud3 hun (by omega) | omega); (try (case er15 => exact fun _ _ _ _ _ _ _ _ _ h => h.elim))
    intro r _ h₁ tk₁ F₁ N₁ hJJ; obtain ⟨rfl, t, rfl⟩ := hJJ
    dsimp only [Tk.kind]
    fail "go"
    try dsimp only
    fail "gen"; refine' Tells.use ?tt16 B ?cf16 X ?cn16 T rfl ?cd16 ?cu16 ?ok16 ?er16; (case cf16 => assumption); (case cn16 => assumption); (case tt16 => exact kind_tells w _ x dx rw _ _ hR); (case cd16 => first | exact bud hdp (by decide) | exact bud hdp (by omega) | omega); (case cu16 => first | exact bud3 hun (by decide) | exact bud3 hun (by omega) | omega); (try (case er16 => exact fun _ _ _ _ _ _ _ _ _ h => h.elim))
    intro r _ h₁ tk₁ F₁ N₁ hJJ; obtain ⟨rfl, t, rfl⟩ := hJJ
    dsimp only [Tk.kind]
    fail "go"
    try dsimp only
    fail "gen"; refine' Tells.use ?tt17 B ?cf17 X ?cn17 T rfl ?cd17 ?cu17 ?ok17 ?er17; (case cf17 => assumption); (case cn17 => assumption); (case tt17 => exact taken_tells w _ x dx rw _ _ hR); (case cd17 => first | exact bud hdp (by decide) | exact bud hdp (by omega) | omega); (case cu17 => first | exact bud3 hun (by decide) | exact bud3 hun (by omega) | omega); (try (case er17 => exact fun _ _ _ _ _ _ _ _ _ h => h.elim))
    intro r news₂ h₂ tk₂ F₂ N₂ hJJ; obtain ⟨K₂, R₂, hr₂⟩ := hJJ
    cases hr₂
    clear ihx ihd
    obtain ⟨ih1, ih2, it1, it2, iv1, iv2, inn, ihx, ihd⟩ := R₂.inst
    try dsimp only
    fail "go"
    try dsimp only
    fail "gen"; refine' Tells.use ?tt18 B ?cf18 X ?cn18 T rfl ?cd18 ?cu18 ?ok18 ?er18; (case cf18 => assumption); (case cn18 => assumption); (case tt18 => exact took_yes w _ x dx rw _ _ _ _ R₂ isS_yes); (case cd18 => first | exact bud hdp (by decide) | exact bud hdp (by omega) | omega); (case cu18 => first | exact bud3 hun (by decide) | exact bud3 hun (by omega) | omega); (try (case er18 => exact fun _ _ _ _ _ _ _ _ _ h => h.elim))
    intro r₃ news₃ h₃ tk₃ F₃ N₃ hJJ; obtain ⟨K₃, R₃, rfl⟩ := hJJ
    clear ihx ihd
    obtain ⟨ih1, ih2, it1, it2, iv1, iv2, inn, ihx, ihd⟩ := R₃.inst
    try dsimp only
    fail "go"
    try dsimp only
    fail "gen"; refine' Tells.use ?tt19 B ?cf19 X ?cn19 T rfl ?cd19 ?cu19 ?ok19 ?er19; (case cf19 => assumption); (case cn19 => assumption); (case tt19 => exact IR ")" (.inl rfl) _ _ hP _ x dx rw _ R₃); (case cd19 => first | exact bud hdp (by decide) | exact bud hdp (by omega) | omega); (case cu19 => first | exact bud3 hun (by decide) | exact bud3 hun (by omega) | omega); (try (case er19 => exact fun _ _ _ _ _ _ _ _ _ h => h.elim))
    · intro r₄ news₄ h₄ tk₄ F₄ N₄ hJJ; obtain ⟨ds, ts', l, vs, n, he, _⟩ := hJJ; cases he
    · intro e at_ g₂ news₁ h₁ tk₁ F₁ U R hJJ; obtain ⟨he, K₅⟩ := hJJ
      cases he
      try dsimp only
      exact er _ _ _ _ _ _ _ F₁ U R ⟨rfl, (K₂.trans K₃).trans K₅⟩
  | list hP =>
    fail "go"
    try dsimp only
    fail "gen"; refine' Tells.use ?tt20 B ?cf20 X ?cn20 T rfl ?cd20 ?cu20 ?ok20 ?er20; (case cf20 => assumption); (case cn20 => assumption); (case tt20 => exact kind_tells w _ x dx rw _ _ hR); (case cd20 => first | exact bud hdp (by decide) | exact bud hdp (by omega) | omega); (case cu20 => first | exact bud3 hun (by decide) | exact bud3 hun (by omega) | omega); (try (case er20 => exact fun _ _ _ _ _ _ _ _ _ h => h.elim))
    intro r _ h₁ tk₁ F₁ N₁ hJJ; obtain ⟨rfl, t, rfl⟩ := hJJ
    try dsimp only [Tk.kind]
    fail "go"
    try dsimp only
    fail "gen"; refine' Tells.use ?tt21 B ?cf21 X ?cn21 T rfl ?cd21 ?cu21 ?ok21 ?er21; (case cf21 => assumption); (case cn21 => assumption); (case tt21 => exact kind_tells w _ x dx rw _ _ hR); (case cd21 => first | exact bud hdp (by decide) | exact bud hdp (by omega) | omega); (case cu21 => first | exact bud3 hun (by decide) | exact bud3 hun (by omega) | omega); (try (case er21 => exact fun _ _ _ _ _ _ _ _ _ h => h.elim))
    intro r _ h₁ tk₁ F₁ N₁ hJJ; obtain ⟨rfl, t, rfl⟩ := hJJ
    try dsimp only [Tk.kind]
    fail "go"
    try dsimp only
    fail "gen"; refine' Tells.use ?tt22 B ?cf22 X ?cn22 T rfl ?cd22 ?cu22 ?ok22 ?er22; (case cf22 => assumption); (case cn22 => assumption); (case tt22 => exact took_yes w _ x dx rw _ _ _ _ hR isS_yes); (case cd22 => first | exact bud hdp (by decide) | exact bud hdp (by omega) | omega); (case cu22 => first | exact bud3 hun (by decide) | exact bud3 hun (by omega) | omega); (try (case er22 => exact fun _ _ _ _ _ _ _ _ _ h => h.elim))
    intro r₃ news₃ h₃ tk₃ F₃ N₃ hJJ; obtain ⟨K₃, R₃, rfl⟩ := hJJ
    clear ihx ihd
    obtain ⟨ih1, ih2, it1, it2, iv1, iv2, inn, ihx, ihd⟩ := R₃.inst
    try dsimp only
    fail "go"
    try dsimp only
    fail "gen"; refine' Tells.use ?tt23 B ?cf23 X ?cn23 T rfl ?cd23 ?cu23 ?ok23 ?er23; (case cf23 => assumption); (case cn23 => assumption); (case tt23 => exact IR "]" (.inr rfl) _ _ hP _ x dx rw _ R₃); (case cd23 => first | exact bud hdp (by decide) | exact bud hdp (by omega) | omega); (case cu23 => first | exact bud3 hun (by decide) | exact bud3 hun (by omega) | omega); (try (case er23 => exact fun _ _ _ _ _ _ _ _ _ h => h.elim))
    rotate_left
    · intro e at_ g₂ news₁ h₁ tk₁ F₁ U R hJJ; obtain ⟨he, _⟩ := hJJ; cases he
    intro r₄ news₄ h₄ tk₄ F₄ N₄ hJJ; obtain ⟨ds, ts', l, vs, n, he, K₄, R₄, rfl, hl, hrs, hlen⟩ := hJJ
    cases he
    try dsimp only
    fail "go"
    try dsimp only
    fail "gen"; refine' Tells.use ?tt24 B ?cf24 X ?cn24 T rfl ?cd24 ?cu24 ?ok24 ?er24; (case cf24 => assumption); (case cn24 => assumption); (case tt24 => exact t_list_tells w _ l vs n _ hl hrs hlen); (case cd24 => first | exact bud hdp (by decide) | exact bud hdp (by omega) | omega); (case cu24 => first | exact bud3 hun (by decide) | exact bud3 hun (by omega) | omega); (try (case er24 => exact fun _ _ _ _ _ _ _ _ _ h => h.elim))
    intro r₅ news₅ h₅ tk₅ F₅ N₅ hJJ; obtain ⟨hs₅, hr₅⟩ := hJJ
    try dsimp only
    fail "go"
    try dsimp only
    exact ret (.ret _) _ _ _ _ (by assumption) (by assumption) ((mkE2 ⟨rfl, (K₃.trans K₄).trans (Kept.of_sub hs₅), R₄.sub hs₅, hr₅⟩))
  | listBad hP =>
    fail "go"
    try dsimp only
    fail "gen"; refine' Tells.use ?tt25 B ?cf25 X ?cn25 T rfl ?cd25 ?cu25 ?ok25 ?er25; (case cf25 => assumption); (case cn25 => assumption); (case tt25 => exact kind_tells w _ x dx rw _ _ hR); (case cd25 => first | exact bud hdp (by decide) | exact bud hdp (by omega) | omega); (case cu25 => first | exact bud3 hun (by decide) | exact bud3 hun (by omega) | omega); (try (case er25 => exact fun _ _ _ _ _ _ _ _ _ h => h.elim))
    intro r _ h₁ tk₁ F₁ N₁ hJJ; obtain ⟨rfl, t, rfl⟩ := hJJ
    try dsimp only [Tk.kind]
    fail "go"
    try dsimp only
    fail "gen"; refine' Tells.use ?tt26 B ?cf26 X ?cn26 T rfl ?cd26 ?cu26 ?ok26 ?er26; (case cf26 => assumption); (case cn26 => assumption); (case tt26 => exact kind_tells w _ x dx rw _ _ hR); (case cd26 => first | exact bud hdp (by decide) | exact bud hdp (by omega) | omega); (case cu26 => first | exact bud3 hun (by decide) | exact bud3 hun (by omega) | omega); (try (case er26 => exact fun _ _ _ _ _ _ _ _ _ h => h.elim))
    intro r _ h₁ tk₁ F₁ N₁ hJJ; obtain ⟨rfl, t, rfl⟩ := hJJ
    try dsimp only [Tk.kind]
    fail "go"
    try dsimp only
    fail "gen"; refine' Tells.use ?tt27 B ?cf27 X ?cn27 T rfl ?cd27 ?cu27 ?ok27 ?er27; (case cf27 => assumption); (case cn27 => assumption); (case tt27 => exact took_yes w _ x dx rw _ _ _ _ hR isS_yes); (case cd27 => first | exact bud hdp (by decide) | exact bud hdp (by omega) | omega); (case cu27 => first | exact bud3 hun (by decide) | exact bud3 hun (by omega) | omega); (try (case er27 => exact fun _ _ _ _ _ _ _ _ _ h => h.elim))
    intro r₃ news₃ h₃ tk₃ F₃ N₃ hJJ; obtain ⟨K₃, R₃, rfl⟩ := hJJ
    clear ihx ihd
    obtain ⟨ih1, ih2, it1, it2, iv1, iv2, inn, ihx, ihd⟩ := R₃.inst
    try dsimp only
    fail "go"
    try dsimp only
    fail "gen"; refine' Tells.use ?tt28 B ?cf28 X ?cn28 T rfl ?cd28 ?cu28 ?ok28 ?er28; (case cf28 => assumption); (case cn28 => assumption); (case tt28 => exact IR "]" (.inr rfl) _ _ hP _ x dx rw _ R₃); (case cd28 => first | exact bud hdp (by decide) | exact bud hdp (by omega) | omega); (case cu28 => first | exact bud3 hun (by decide) | exact bud3 hun (by omega) | omega); (try (case er28 => exact fun _ _ _ _ _ _ _ _ _ h => h.elim))
    · intro r₄ news₄ h₄ tk₄ F₄ N₄ hJJ; obtain ⟨ds, ts', l, vs, n, he, _⟩ := hJJ; cases he
    · intro e at_ g₂ news₁ h₁ tk₁ F₁ U R hJJ; obtain ⟨he, K₅⟩ := hJJ
      cases he
      try dsimp only
      exact er _ _ _ _ _ _ _ F₁ U R ⟨rfl, K₃.trans K₅⟩
  | paren hP =>
    fail "go"
    try dsimp only
    fail "gen"; refine' Tells.use ?tt29 B ?cf29 X ?cn29 T rfl ?cd29 ?cu29 ?ok29 ?er29; (case cf29 => assumption); (case cn29 => assumption); (case tt29 => exact kind_tells w _ x dx rw _ _ hR); (case cd29 => first | exact bud hdp (by decide) | exact bud hdp (by omega) | omega); (case cu29 => first | exact bud3 hun (by decide) | exact bud3 hun (by omega) | omega); (try (case er29 => exact fun _ _ _ _ _ _ _ _ _ h => h.elim))
    intro r _ h₁ tk₁ F₁ N₁ hJJ; obtain ⟨rfl, t, rfl⟩ := hJJ
    try dsimp only [Tk.kind]
    fail "go"
    try dsimp only
    fail "gen"; refine' Tells.use ?tt30 B ?cf30 X ?cn30 T rfl ?cd30 ?cu30 ?ok30 ?er30; (case cf30 => assumption); (case cn30 => assumption); (case tt30 => exact kind_tells w _ x dx rw _ _ hR); (case cd30 => first | exact bud hdp (by decide) | exact bud hdp (by omega) | omega); (case cu30 => first | exact bud3 hun (by decide) | exact bud3 hun (by omega) | omega); (try (case er30 => exact fun _ _ _ _ _ _ _ _ _ h => h.elim))
    intro r _ h₁ tk₁ F₁ N₁ hJJ; obtain ⟨rfl, t, rfl⟩ := hJJ
    try dsimp only [Tk.kind]
    fail "go"
    try dsimp only
    fail "gen"; refine' Tells.use ?tt31 B ?cf31 X ?cn31 T rfl ?cd31 ?cu31 ?ok31 ?er31; (case cf31 => assumption); (case cn31 => assumption); (case tt31 => exact took_no w _ x dx rw _ _ _ _ hR (isS_no (by decide))); (case cd31 => first | exact bud hdp (by decide) | exact bud hdp (by omega) | omega); (case cu31 => first | exact bud3 hun (by decide) | exact bud3 hun (by omega) | omega); (try (case er31 => exact fun _ _ _ _ _ _ _ _ _ h => h.elim))
    intro r₃ news₃ h₃ tk₃ F₃ N₃ hJJ; obtain ⟨K₃, R₃, rfl⟩ := hJJ
    clear ihx ihd
    obtain ⟨ih1, ih2, it1, it2, iv1, iv2, inn, ihx, ihd⟩ := R₃.inst
    try dsimp only
    fail "go"
    try dsimp only
    fail "gen"; refine' Tells.use ?tt32 B ?cf32 X ?cn32 T rfl ?cd32 ?cu32 ?ok32 ?er32; (case cf32 => assumption); (case cn32 => assumption); (case tt32 => exact need_tells w _ x dx rw _ _ _ _ (by decide) R₃); (case cd32 => first | exact bud hdp (by decide) | exact bud hdp (by omega) | omega); (case cu32 => first | exact bud3 hun (by decide) | exact bud3 hun (by omega) | omega); (try (case er32 => exact fun _ _ _ _ _ _ _ _ _ h => h.elim))
    rotate_left
    · intro e at_ g₂ news₁ h₁ tk₁ F₁ U R hJJ; obtain ⟨_, hb, _⟩ := hJJ
      exact absurd (isS_yes.symm.trans hb) (by decide)
    intro r₄ news₄ h₄ tk₄ F₄ N₄ hJJ; obtain ⟨K₄, _, R₄, rfl⟩ := hJJ
    clear ihx ihd
    obtain ⟨ih1, ih2, it1, it2, iv1, iv2, inn, ihx, ihd⟩ := R₄.inst
    try dsimp only
    fail "go"
    try dsimp only
    fail "gen"; refine' Tells.use ?tt33 B ?cf33 X ?cn33 T rfl ?cd33 ?cu33 ?ok33 ?er33; (case cf33 => assumption); (case cn33 => assumption); (case tt33 => exact IH _ _ hP _ x dx rw R₄); (case cd33 => first | exact bud hdp (by decide) | exact bud hdp (by omega) | omega); (case cu33 => first | exact bud3 hun (by decide) | exact bud3 hun (by omega) | omega); (try (case er33 => exact fun _ _ _ _ _ _ _ _ _ h => h.elim))
    rotate_left
    · intro e at_ g₂ news₁ h₁ tk₁ F₁ U R hJJ; obtain ⟨he, _⟩ := hJJ; cases he
    intro r₅ news₅ h₅ tk₅ F₅ N₅ hJJ; obtain ⟨d, ts', he, K₅, R₅, hr₅⟩ := hJJ
    cases he
    have O₅ := R₅.off N₅
    clear ihx ihd
    obtain ⟨ih1, ih2, it1, it2, iv1, iv2, inn, ihx, ihd⟩ := R₅.inst
    try dsimp only
    fail "go"
    try dsimp only
    fail "gen"; refine' Tells.use ?tt34 B ?cf34 X ?cn34 T rfl ?cd34 ?cu34 ?ok34 ?er34; (case cf34 => assumption); (case cn34 => assumption); (case tt34 => exact need_tells w _ x dx rw _ _ _ _ (by decide) R₅); (case cd34 => first | exact bud hdp (by decide) | exact bud hdp (by omega) | omega); (case cu34 => first | exact bud3 hun (by decide) | exact bud3 hun (by omega) | omega); (try (case er34 => exact fun _ _ _ _ _ _ _ _ _ h => h.elim))
    rotate_left
    · intro e at_ g₂ news₁ h₁ tk₁ F₁ U R hJJ; obtain ⟨_, hb, _⟩ := hJJ
      exact absurd (isS_yes.symm.trans hb) (by decide)
    intro r₆ news₆ h₆ tk₆ F₆ N₆ hJJ; obtain ⟨K₆, _, R₆, rfl⟩ := hJJ
    try dsimp only
    fail "go"
    try dsimp only
    exact ret (.ret _) _ _ _ _ (by assumption) (by assumption) ((mkE2 ⟨rfl, ((K₃.trans K₄).trans K₅).trans K₆, R₆, K₆.rd O₅ hr₅⟩))
  | parenBad hP =>
    fail "go"
    try dsimp only
    fail "gen"; refine' Tells.use ?tt35 B ?cf35 X ?cn35 T rfl ?cd35 ?cu35 ?ok35 ?er35; (case cf35 => assumption); (case cn35 => assumption); (case tt35 => exact kind_tells w _ x dx rw _ _ hR); (case cd35 => first | exact bud hdp (by decide) | exact bud hdp (by omega) | omega); (case cu35 => first | exact bud3 hun (by decide) | exact bud3 hun (by omega) | omega); (try (case er35 => exact fun _ _ _ _ _ _ _ _ _ h => h.elim))
    intro r _ h₁ tk₁ F₁ N₁ hJJ; obtain ⟨rfl, t, rfl⟩ := hJJ
    try dsimp only [Tk.kind]
    fail "go"
    try dsimp only
    fail "gen"; refine' Tells.use ?tt36 B ?cf36 X ?cn36 T rfl ?cd36 ?cu36 ?ok36 ?er36; (case cf36 => assumption); (case cn36 => assumption); (case tt36 => exact kind_tells w _ x dx rw _ _ hR); (case cd36 => first | exact bud hdp (by decide) | exact bud hdp (by omega) | omega); (case cu36 => first | exact bud3 hun (by decide) | exact bud3 hun (by omega) | omega); (try (case er36 => exact fun _ _ _ _ _ _ _ _ _ h => h.elim))
    intro r _ h₁ tk₁ F₁ N₁ hJJ; obtain ⟨rfl, t, rfl⟩ := hJJ
    try dsimp only [Tk.kind]
    fail "go"
    try dsimp only
    fail "gen"; refine' Tells.use ?tt37 B ?cf37 X ?cn37 T rfl ?cd37 ?cu37 ?ok37 ?er37; (case cf37 => assumption); (case cn37 => assumption); (case tt37 => exact took_no w _ x dx rw _ _ _ _ hR (isS_no (by decide))); (case cd37 => first | exact bud hdp (by decide) | exact bud hdp (by omega) | omega); (case cu37 => first | exact bud3 hun (by decide) | exact bud3 hun (by omega) | omega); (try (case er37 => exact fun _ _ _ _ _ _ _ _ _ h => h.elim))
    intro r₃ news₃ h₃ tk₃ F₃ N₃ hJJ; obtain ⟨K₃, R₃, rfl⟩ := hJJ
    clear ihx ihd
    obtain ⟨ih1, ih2, it1, it2, iv1, iv2, inn, ihx, ihd⟩ := R₃.inst
    try dsimp only
    fail "go"
    try dsimp only
    fail "gen"; refine' Tells.use ?tt38 B ?cf38 X ?cn38 T rfl ?cd38 ?cu38 ?ok38 ?er38; (case cf38 => assumption); (case cn38 => assumption); (case tt38 => exact need_tells w _ x dx rw _ _ _ _ (by decide) R₃); (case cd38 => first | exact bud hdp (by decide) | exact bud hdp (by omega) | omega); (case cu38 => first | exact bud3 hun (by decide) | exact bud3 hun (by omega) | omega); (try (case er38 => exact fun _ _ _ _ _ _ _ _ _ h => h.elim))
    rotate_left
    · intro e at_ g₂ news₁ h₁ tk₁ F₁ U R hJJ; obtain ⟨_, hb, _⟩ := hJJ
      exact absurd (isS_yes.symm.trans hb) (by decide)
    intro r₄ news₄ h₄ tk₄ F₄ N₄ hJJ; obtain ⟨K₄, _, R₄, rfl⟩ := hJJ
    clear ihx ihd
    obtain ⟨ih1, ih2, it1, it2, iv1, iv2, inn, ihx, ihd⟩ := R₄.inst
    try dsimp only
    fail "go"
    try dsimp only
    fail "gen"; refine' Tells.use ?tt39 B ?cf39 X ?cn39 T rfl ?cd39 ?cu39 ?ok39 ?er39; (case cf39 => assumption); (case cn39 => assumption); (case tt39 => exact IH _ _ hP _ x dx rw R₄); (case cd39 => first | exact bud hdp (by decide) | exact bud hdp (by omega) | omega); (case cu39 => first | exact bud3 hun (by decide) | exact bud3 hun (by omega) | omega); (try (case er39 => exact fun _ _ _ _ _ _ _ _ _ h => h.elim))
    · intro r₄ news₄ h₄ tk₄ F₄ N₄ hJJ; obtain ⟨_, _, he, _⟩ := hJJ; cases he
    · intro e at_ g₂ news₁ h₁ tk₁ F₁ U R hJJ; obtain ⟨he, K₅⟩ := hJJ
      cases he
      try dsimp only
      exact er _ _ _ _ _ _ _ F₁ U R ⟨rfl, (K₃.trans K₄).trans K₅⟩
  | parenOpen hP hb =>
    fail "go"
    try dsimp only
    fail "gen"; refine' Tells.use ?tt40 B ?cf40 X ?cn40 T rfl ?cd40 ?cu40 ?ok40 ?er40; (case cf40 => assumption); (case cn40 => assumption); (case tt40 => exact kind_tells w _ x dx rw _ _ hR); (case cd40 => first | exact bud hdp (by decide) | exact bud hdp (by omega) | omega); (case cu40 => first | exact bud3 hun (by decide) | exact bud3 hun (by omega) | omega); (try (case er40 => exact fun _ _ _ _ _ _ _ _ _ h => h.elim))
    intro r _ h₁ tk₁ F₁ N₁ hJJ; obtain ⟨rfl, t, rfl⟩ := hJJ
    try dsimp only [Tk.kind]
    fail "go"
    try dsimp only
    fail "gen"; refine' Tells.use ?tt41 B ?cf41 X ?cn41 T rfl ?cd41 ?cu41 ?ok41 ?er41; (case cf41 => assumption); (case cn41 => assumption); (case tt41 => exact kind_tells w _ x dx rw _ _ hR); (case cd41 => first | exact bud hdp (by decide) | exact bud hdp (by omega) | omega); (case cu41 => first | exact bud3 hun (by decide) | exact bud3 hun (by omega) | omega); (try (case er41 => exact fun _ _ _ _ _ _ _ _ _ h => h.elim))
    intro r _ h₁ tk₁ F₁ N₁ hJJ; obtain ⟨rfl, t, rfl⟩ := hJJ
    try dsimp only [Tk.kind]
    fail "go"
    try dsimp only
    fail "gen"; refine' Tells.use ?tt42 B ?cf42 X ?cn42 T rfl ?cd42 ?cu42 ?ok42 ?er42; (case cf42 => assumption); (case cn42 => assumption); (case tt42 => exact took_no w _ x dx rw _ _ _ _ hR (isS_no (by decide))); (case cd42 => first | exact bud hdp (by decide) | exact bud hdp (by omega) | omega); (case cu42 => first | exact bud3 hun (by decide) | exact bud3 hun (by omega) | omega); (try (case er42 => exact fun _ _ _ _ _ _ _ _ _ h => h.elim))
    intro r₃ news₃ h₃ tk₃ F₃ N₃ hJJ; obtain ⟨K₃, R₃, rfl⟩ := hJJ
    clear ihx ihd
    obtain ⟨ih1, ih2, it1, it2, iv1, iv2, inn, ihx, ihd⟩ := R₃.inst
    try dsimp only
    fail "go"
    try dsimp only
    fail "gen"; refine' Tells.use ?tt43 B ?cf43 X ?cn43 T rfl ?cd43 ?cu43 ?ok43 ?er43; (case cf43 => assumption); (case cn43 => assumption); (case tt43 => exact need_tells w _ x dx rw _ _ _ _ (by decide) R₃); (case cd43 => first | exact bud hdp (by decide) | exact bud hdp (by omega) | omega); (case cu43 => first | exact bud3 hun (by decide) | exact bud3 hun (by omega) | omega); (try (case er43 => exact fun _ _ _ _ _ _ _ _ _ h => h.elim))
    rotate_left
    · intro e at_ g₂ news₁ h₁ tk₁ F₁ U R hJJ; obtain ⟨_, hb, _⟩ := hJJ
      exact absurd (isS_yes.symm.trans hb) (by decide)
    intro r₄ news₄ h₄ tk₄ F₄ N₄ hJJ; obtain ⟨K₄, _, R₄, rfl⟩ := hJJ
    clear ihx ihd
    obtain ⟨ih1, ih2, it1, it2, iv1, iv2, inn, ihx, ihd⟩ := R₄.inst
    try dsimp only
    fail "go"
    try dsimp only
    fail "gen"; refine' Tells.use ?tt44 B ?cf44 X ?cn44 T rfl ?cd44 ?cu44 ?ok44 ?er44; (case cf44 => assumption); (case cn44 => assumption); (case tt44 => exact IH _ _ hP _ x dx rw R₄); (case cd44 => first | exact bud hdp (by decide) | exact bud hdp (by omega) | omega); (case cu44 => first | exact bud3 hun (by decide) | exact bud3 hun (by omega) | omega); (try (case er44 => exact fun _ _ _ _ _ _ _ _ _ h => h.elim))
    rotate_left
    · intro e at_ g₂ news₁ h₁ tk₁ F₁ U R hJJ; obtain ⟨he, _⟩ := hJJ; cases he
    intro r₅ news₅ h₅ tk₅ F₅ N₅ hJJ; obtain ⟨d, ts', he, K₅, R₅, hr₅⟩ := hJJ
    cases he
    clear ihx ihd
    obtain ⟨ih1, ih2, it1, it2, iv1, iv2, inn, ihx, ihd⟩ := R₅.inst
    try dsimp only
    fail "go"
    try dsimp only
    fail "gen"; refine' Tells.use ?tt45 B ?cf45 X ?cn45 T rfl ?cd45 ?cu45 ?ok45 ?er45; (case cf45 => assumption); (case cn45 => assumption); (case tt45 => exact need_tells w _ x dx rw _ _ _ _ (by decide) R₅); (case cd45 => first | exact bud hdp (by decide) | exact bud hdp (by omega) | omega); (case cu45 => first | exact bud3 hun (by decide) | exact bud3 hun (by omega) | omega); (try (case er45 => exact fun _ _ _ _ _ _ _ _ _ h => h.elim))
    · intro r₆ news₆ h₆ tk₆ F₆ N₆ hJJ; obtain ⟨_, hb', _⟩ := hJJ
      exact absurd (hb.symm.trans hb') (by decide)
    · intro e at_ g₂ news₁ h₁ tk₁ F₁ U R hJJ; obtain ⟨K₆, _, he⟩ := hJJ
      subst he
      try dsimp only
      exact er _ _ _ _ _ _ _ F₁ U R ⟨rfl, ((K₃.trans K₄).trans K₅).trans K₆⟩
  | bad hk1 hk2 hb1 hb2 =>
    rename_i tk ts1
    fail "go"
    try dsimp only
    fail "gen"; refine' Tells.use ?tt46 B ?cf46 X ?cn46 T rfl ?cd46 ?cu46 ?ok46 ?er46; (case cf46 => assumption); (case cn46 => assumption); (case tt46 => exact kind_tells w _ x dx rw _ _ hR); (case cd46 => first | exact bud hdp (by decide) | exact bud hdp (by omega) | omega); (case cu46 => first | exact bud3 hun (by decide) | exact bud3 hun (by omega) | omega); (try (case er46 => exact fun _ _ _ _ _ _ _ _ _ h => h.elim))
    intro r _ h₁ tk₁ F₁ N₁ hJJ; obtain ⟨rfl, t, rfl⟩ := hJJ
    have e1 : (Str.ofString tk.1.kind == Str.ofString "number") = false := by
      obtain ⟨tk, p⟩ := tk
      cases tk <;> first | (exact absurd rfl hk1) | (simp only [Tk.kind]; decide)
    have e2 : (Str.ofString tk.1.kind == Str.ofString "name") = false := by
      obtain ⟨tk, p⟩ := tk
      cases tk <;> first | (exact absurd rfl hk2) | (simp only [Tk.kind]; decide)
    try dsimp only
    fail "go"
    try dsimp only
    fail "gen"; refine' Tells.use ?tt47 B ?cf47 X ?cn47 T rfl ?cd47 ?cu47 ?ok47 ?er47; (case cf47 => assumption); (case cn47 => assumption); (case tt47 => exact kind_tells w _ x dx rw _ _ hR); (case cd47 => first | exact bud hdp (by decide) | exact bud hdp (by omega) | omega); (case cu47 => first | exact bud3 hun (by decide) | exact bud3 hun (by omega) | omega); (try (case er47 => exact fun _ _ _ _ _ _ _ _ _ h => h.elim))
    intro r _ h₁ tk₁ F₁ N₁ hJJ; obtain ⟨rfl, t, rfl⟩ := hJJ
    try dsimp only
    fail "go"
    try dsimp only
    fail "gen"; refine' Tells.use ?tt48 B ?cf48 X ?cn48 T rfl ?cd48 ?cu48 ?ok48 ?er48; (case cf48 => assumption); (case cn48 => assumption); (case tt48 => exact took_no w _ x dx rw _ _ _ _ hR hb1); (case cd48 => first | exact bud hdp (by decide) | exact bud hdp (by omega) | omega); (case cu48 => first | exact bud3 hun (by decide) | exact bud3 hun (by omega) | omega); (try (case er48 => exact fun _ _ _ _ _ _ _ _ _ h => h.elim))
    intro r₃ news₃ h₃ tk₃ F₃ N₃ hJJ; obtain ⟨K₃, R₃, rfl⟩ := hJJ
    clear ihx ihd
    obtain ⟨ih1, ih2, it1, it2, iv1, iv2, inn, ihx, ihd⟩ := R₃.inst
    try dsimp only
    fail "go"
    try dsimp only
    fail "gen"; refine' Tells.use ?tt49 B ?cf49 X ?cn49 T rfl ?cd49 ?cu49 ?ok49 ?er49; (case cf49 => assumption); (case cn49 => assumption); (case tt49 => exact need_tells w _ x dx rw _ _ _ _ (by decide) R₃); (case cd49 => first | exact bud hdp (by decide) | exact bud hdp (by omega) | omega); (case cu49 => first | exact bud3 hun (by decide) | exact bud3 hun (by omega) | omega); (try (case er49 => exact fun _ _ _ _ _ _ _ _ _ h => h.elim))
    · intro r₆ news₆ h₆ tk₆ F₆ N₆ hJJ; obtain ⟨_, hb', _⟩ := hJJ
      exact absurd (hb2.symm.trans hb') (by decide)
    · intro e at_ g₂ news₁ h₁ tk₁ F₁ U R hJJ; obtain ⟨K₆, _, he⟩ := hJJ
      subst he
      try dsimp only
      exact er _ _ _ _ _ _ _ F₁ U R ⟨rfl, K₃.trans K₆⟩
end

-- C9
section
theorem rest_step (w : World) (D U : Nat) (P : List TokP → Res → Prop) (hD : 6 ≤ D) (hU : 60 ≤ U) (IH : ParT w 247 D U P) : ParL w (D + 1) (U + 4) (fun c => RRest c P) := by
  intro c hc ts res hP news x dx rw t hR
  have hc1 : (Str.ofString c).length ≤ 100 := by rcases hc with rfl | rfl <;> decide
  have hcc : (Str.ofString c == Str.ofString ",") = false := by rcases hc with rfl | rfl <;> decide
  k_dflt (refine' enter [(Str.ofString "self", .ref x), (Str.ofString "closing", .str (Str.ofString c) t)] ?k6 ?k7 ?k8 ?k9 ?c1 ?c2 ?c3 ?c4 (by omega) (by omega) ?_; ((case k6 => k_is); (case k7 => k_is); (case k8 => exact rfl); (case k9 => exact rfl); (case c1 => exact rfl); (case c2 => exact rfl); (case c3 => exact rfl); (case c4 => decide)))
  intro dp un gd outer mean mg mb A₀ base g L s Q E B F X N T lv hdp hun ret er hE
  obtain ⟨ih1, ih2, it1, it2, iv1, iv2, inn, ihx, ihd⟩ := hR.inst
  cases hP with
  | none =>
    fail "go"
    try dsimp only
    fail "gen"; refine' Tells.use ?tt1 B ?cf1 X ?cn1 T rfl ?cd1 ?cu1 ?ok1 ?er1; (case cf1 => assumption); (case cn1 => assumption); (case tt1 => exact took_yes w _ x dx rw _ _ _ _ hR isS_yes); (case cd1 => first | exact bud hdp (by decide) | exact bud hdp (by omega) | omega); (case cu1 => first | exact bud3 hun (by decide) | exact bud3 hun (by omega) | omega); (try (case er1 => exact fun _ _ _ _ _ _ _ _ _ h => h.elim))
    intro r₃ news₃ h₃ tk₃ F₃ N₃ hJJ; obtain ⟨K₃, R₃, rfl⟩ := hJJ
    try dsimp only
    fail "go"
    try dsimp only
    exact ret (.ret _) _ _ _ _ (by assumption) (by assumption) ((mkE5 ⟨rfl, K₃.trans (Kept.of_sub (by fail "sub")), R₃.sub (by fail "sub"), rfl, List.Mem.head _, Rds.nil, by decide⟩))
  | bad hb hP =>
    fail "go"
    try dsimp only
    fail "gen"; refine' Tells.use ?tt2 B ?cf2 X ?cn2 T rfl ?cd2 ?cu2 ?ok2 ?er2; (case cf2 => assumption); (case cn2 => assumption); (case tt2 => exact took_no w _ x dx rw _ _ _ _ hR hb); (case cd2 => first | exact bud hdp (by decide) | exact bud hdp (by omega) | omega); (case cu2 => first | exact bud3 hun (by decide) | exact bud3 hun (by omega) | omega); (try (case er2 => exact fun _ _ _ _ _ _ _ _ _ h => h.elim))
    intro r₃ news₃ h₃ tk₃ F₃ N₃ hJJ; obtain ⟨K₃, R₃, rfl⟩ := hJJ
    clear ihx ihd
    obtain ⟨ih1, ih2, it1, it2, iv1, iv2, inn, ihx, ihd⟩ := R₃.inst
    try dsimp only
    fail "go"
    try dsimp only
    fail "gen"; refine' Tells.use ?tt3 B ?cf3 X ?cn3 T rfl ?cd3 ?cu3 ?ok3 ?er3; (case cf3 => assumption); (case cn3 => assumption); (case tt3 => exact IH _ _ hP _ x dx rw R₃); (case cd3 => first | exact bud hdp (by decide) | exact bud hdp (by omega) | omega); (case cu3 => first | exact bud3 hun (by decide) | exact bud3 hun (by omega) | omega); (try (case er3 => exact fun _ _ _ _ _ _ _ _ _ h => h.elim))
    · intro r₄ news₄ h₄ tk₄ F₄ N₄ hJJ; obtain ⟨_, _, he, _⟩ := hJJ; cases he
    · intro e at_ g₂ news₁ h₁ tk₁ F₁ U R hJJ; obtain ⟨he, K₅⟩ := hJJ
      cases he
      try dsimp only
      exact er _ _ _ _ _ _ _ F₁ U R ⟨rfl, K₃.trans K₅⟩
  | some hb hP hL =>
    rename_i n0 tk0 ts0 d0 ts1
    fail "go"
    try dsimp only
    fail "gen"; refine' Tells.use ?tt4 B ?cf4 X ?cn4 T rfl ?cd4 ?cu4 ?ok4 ?er4; (case cf4 => assumption); (case cn4 => assumption); (case tt4 => exact took_no w _ x dx rw _ _ _ _ hR hb); (case cd4 => first | exact bud hdp (by decide) | exact bud hdp (by omega) | omega); (case cu4 => first | exact bud3 hun (by decide) | exact bud3 hun (by omega) | omega); (try (case er4 => exact fun _ _ _ _ _ _ _ _ _ h => h.elim))
    intro r₃ news₃ h₃ tk₃ F₃ N₃ hJJ; obtain ⟨K₃, R₃, rfl⟩ := hJJ
    clear ihx ihd
    obtain ⟨ih1, ih2, it1, it2, iv1, iv2, inn, ihx, ihd⟩ := R₃.inst
    try dsimp only
    fail "go"
    try dsimp only
    fail "gen"; refine' Tells.use ?tt5 B ?cf5 X ?cn5 T rfl ?cd5 ?cu5 ?ok5 ?er5; (case cf5 => assumption); (case cn5 => assumption); (case tt5 => exact IH _ _ hP _ x dx rw R₃); (case cd5 => first | exact bud hdp (by decide) | exact bud hdp (by omega) | omega); (case cu5 => first | exact bud3 hun (by decide) | exact bud3 hun (by omega) | omega); (try (case er5 => exact fun _ _ _ _ _ _ _ _ _ h => h.elim))
    rotate_left
    · intro e at_ g₂ news₁ h₁ tk₁ F₁ U R hJJ; obtain ⟨he, _⟩ := hJJ; cases he
    intro r news₁ h₁ tk₁ F₁ N₁ hJJ; obtain ⟨d, ts', he, K₁', R₁, hr⟩ := hJJ
    cases he
    have K₁ := K₃.trans K₁'
    clear ihx ihd
    try dsimp only
    fail "go"
    try dsimp only
    refine While_inv2 (fun n m₁ news₁ => ∃ l vs k acc ts, m₁ (Str.ofString "self") = some (.ref x) ∧ m₁ (Str.ofString "closing") = some (.str (Str.ofString c) t) ∧ m₁ (Str.ofString "found") = some (.ref l) ∧ (l, lstOf vs k) ∈ news₁ ∧ Rds news₁ vs acc ∧ Rdr news₁ x dx rw ts ∧ Kept dx news news₁ ∧ vs.length ≤ 2 ^ 20 ∧ (∀ p ∈ news, p.1 ≠ l) ∧ LRest c P n acc ts res) (n₀ := n0) (by assumption) (by assumption)
      ⟨_, _, _, _, _, rfl, rfl, rfl, List.Mem.head _, by fail "rd", R₁.sub (by fail "sub"), K₁.trans (Kept.of_sub (by fail "sub")), by show 1 ≤ 2 ^ 20; decide, fresh_of K₁ R₁ (by assumption), hL⟩ ?_ hE
    intro n m₁ news₂ h₂ tk₂ F₂ N₂ hJJ; obtain ⟨l, vs, k, acc, ts2, hself, hclosing, hfound, hl, hrs, R₂, K₂, hlen, hfr, hL2⟩ := hJJ
    fail "gen"
    clear hL hP
    obtain ⟨orw, horw⟩ := hR.row
    have hrw : rw ≠ l := hfr _ horw
    have O₂ := R₂.off N₂
    obtain ⟨ih1, ih2, it1, it2, iv1, iv2, inn, ihx, ihd⟩ := R₂.inst
    cases hL2 with
    | stop =>
      fail "go"
      try dsimp only
      fail "gen"; refine' Tells.use ?tt6 B ?cf6 X ?cn6 T rfl ?cd6 ?cu6 ?ok6 ?er6; (case cf6 => assumption); (case cn6 => assumption); (case tt6 => exact took_no w _ x dx rw _ _ _ _ R₂ (isS_no hcc)); (case cd6 => first | exact bud hdp (by decide) | exact bud hdp (by omega) | omega); (case cu6 => first | exact bud3 hun (by decide) | exact bud3 hun (by omega) | omega); (try (case er6 => exact fun _ _ _ _ _ _ _ _ _ h => h.elim))
      intro r₃ news₃ h₃ tk₃ F₃ N₃ hJJ; obtain ⟨K₃, R₃, rfl⟩ := hJJ
      have O₃ := R₃.off N₃
      have hl₃ := K₃.mem O₂ hl
      have hrs₃ := K₃.rds O₂ hrs
      clear ihx ihd
      obtain ⟨ih1, ih2, it1, it2, iv1, iv2, inn, ihx, ihd⟩ := R₃.inst
      try dsimp only
      fail "go"
      try dsimp only
      fail "gen"; refine' Tells.use ?tt7 B ?cf7 X ?cn7 T rfl ?cd7 ?cu7 ?ok7 ?er7; (case cf7 => assumption); (case cn7 => assumption); (case tt7 => exact need_tells w _ x dx rw _ _ _ _ hc1 R₃); (case cd7 => first | exact bud hdp (by decide) | exact bud hdp (by omega) | omega); (case cu7 => first | exact bud3 hun (by decide) | exact bud3 hun (by omega) | omega); (try (case er7 => exact fun _ _ _ _ _ _ _ _ _ h => h.elim))
      rotate_left
      · intro e at_ g₂ news₁ h₁ tk₁ F₁ U R hJJ; obtain ⟨_, hb', _⟩ := hJJ
        exact absurd (isS_yes.symm.trans hb') (by decide)
      intro r₄ news₄ h₄ tk₄ F₄ N₄ hJJ; obtain ⟨K₄, _, R₄, rfl⟩ := hJJ
      have hl₄ := K₄.mem O₃ hl₃
      have hrs₄ := K₄.rds O₃ hrs₃
      try dsimp only
      fail "go"
      try dsimp only
      exact ret (.ret _) _ _ _ _ (by assumption) (by assumption) ((mkE2 ⟨l, vs, k, rfl, (K₂.trans K₃).trans K₄, R₄, rfl, hl₄, hrs₄, hlen⟩))
    | stopBad hb1 hb2 =>
      fail "go"
      try dsimp only
      fail "gen"; refine' Tells.use ?tt8 B ?cf8 X ?cn8 T rfl ?cd8 ?cu8 ?ok8 ?er8; (case cf8 => assumption); (case cn8 => assumption); (case tt8 => exact took_no w _ x dx rw _ _ _ _ R₂ hb1); (case cd8 => first | exact bud hdp (by decide) | exact bud hdp (by omega) | omega); (case cu8 => first | exact bud3 hun (by decide) | exact bud3 hun (by omega) | omega); (try (case er8 => exact fun _ _ _ _ _ _ _ _ _ h => h.elim))
      intro r₃ news₃ h₃ tk₃ F₃ N₃ hJJ; obtain ⟨K₃, R₃, rfl⟩ := hJJ
      clear ihx ihd
      obtain ⟨ih1, ih2, it1, it2, iv1, iv2, inn, ihx, ihd⟩ := R₃.inst
      try dsimp only
      fail "go"
      try dsimp only
      fail "gen"; refine' Tells.use ?tt9 B ?cf9 X ?cn9 T rfl ?cd9 ?cu9 ?ok9 ?er9; (case cf9 => assumption); (case cn9 => assumption); (case tt9 => exact need_tells w _ x dx rw _ _ _ _ hc1 R₃); (case cd9 => first | exact bud hdp (by decide) | exact bud hdp (by omega) | omega); (case cu9 => first | exact bud3 hun (by decide) | exact bud3 hun (by omega) | omega); (try (case er9 => exact fun _ _ _ _ _ _ _ _ _ h => h.elim))
      · intro r₆ news₆ h₆ tk₆ F₆ N₆ hJJ; obtain ⟨_, hb', _⟩ := hJJ
        exact absurd (hb2.symm.trans hb') (by decide)
      · intro e at_ g₂ news₁ h₁ tk₁ F₁ U R hJJ; obtain ⟨K₆, _, he⟩ := hJJ
        subst he
        try dsimp only
        exact er _ _ _ _ _ _ _ F₁ U R ⟨rfl, (K₂.trans K₃).trans K₆⟩
    | moreBad hP2 =>
      fail "go"
      try dsimp only
      fail "gen"; refine' Tells.use ?tt10 B ?cf10 X ?cn10 T rfl ?cd10 ?cu10 ?ok10 ?er10; (case cf10 => assumption); (case cn10 => assumption); (case tt10 => exact took_yes w _ x dx rw _ _ _ _ R₂ isS_yes); (case cd10 => first | exact bud hdp (by decide) | exact bud hdp (by omega) | omega); (case cu10 => first | exact bud3 hun (by decide) | exact bud3 hun (by omega) | omega); (try (case er10 => exact fun _ _ _ _ _ _ _ _ _ h => h.elim))
      intro r₃ news₃ h₃ tk₃ F₃ N₃ hJJ; obtain ⟨K₃, R₃, rfl⟩ := hJJ
      have hl₃ := K₃.mem O₂ hl
      clear ihx ihd
      obtain ⟨ih1, ih2, it1, it2, iv1, iv2, inn, ihx, ihd⟩ := R₃.inst
      try dsimp only
      fail "go"
      try dsimp only
      fail "gen"; refine' Tells.use ?tt11 B ?cf11 X ?cn11 T rfl ?cd11 ?cu11 ?ok11 ?er11; (case cf11 => assumption); (case cn11 => assumption); (case tt11 => exact IH _ _ hP2 _ x dx rw R₃); (case cd11 => first | exact bud hdp (by decide) | exact bud hdp (by omega) | omega); (case cu11 => first | exact bud3 hun (by decide) | exact bud3 hun (by omega) | omega); (try (case er11 => exact fun _ _ _ _ _ _ _ _ _ h => h.elim))
      · intro r₄ news₄ h₄ tk₄ F₄ N₄ hJJ; obtain ⟨_, _, he, _⟩ := hJJ; cases he
      · intro e at_ g₂ news₁ h₁ tk₁ F₁ U R hJJ; obtain ⟨he, K₅⟩ := hJJ
        cases he
        try dsimp only
        exact er _ _ _ _ _ _ _ F₁ U R ⟨rfl, (K₂.trans K₃).trans K₅⟩
    | more hac hP2 hL3 =>
      fail "go"
      try dsimp only
      fail "gen"; refine' Tells.use ?tt12 B ?cf12 X ?cn12 T rfl ?cd12 ?cu12 ?ok12 ?er12; (case cf12 => assumption); (case cn12 => assumption); (case tt12 => exact took_yes w _ x dx rw _ _ _ _ R₂ isS_yes); (case cd12 => first | exact bud hdp (by decide) | exact bud hdp (by omega) | omega); (case cu12 => first | exact bud3 hun (by decide) | exact bud3 hun (by omega) | omega); (try (case er12 => exact fun _ _ _ _ _ _ _ _ _ h => h.elim))
      intro r₃ news₃ h₃ tk₃ F₃ N₃ hJJ; obtain ⟨K₃, R₃, rfl⟩ := hJJ
      have O₃ := R₃.off N₃
      have hl₃ := K₃.mem O₂ hl
      have hrs₃ := K₃.rds O₂ hrs
      clear ihx ihd
      obtain ⟨ih1, ih2, it1, it2, iv1, iv2, inn, ihx, ihd⟩ := R₃.inst
      try dsimp only
      fail "go"
      try dsimp only
      fail "gen"; refine' Tells.use ?tt13 B ?cf13 X ?cn13 T rfl ?cd13 ?cu13 ?ok13 ?er13; (case cf13 => assumption); (case cn13 => assumption); (case tt13 => exact IH _ _ hP2 _ x dx rw R₃); (case cd13 => first | exact bud hdp (by decide) | exact bud hdp (by omega) | omega); (case cu13 => first | exact bud3 hun (by decide) | exact bud3 hun (by omega) | omega); (try (case er13 => exact fun _ _ _ _ _ _ _ _ _ h => h.elim))
      rotate_left
      · intro e at_ g₂ news₁ h₁ tk₁ F₁ U R hJJ; obtain ⟨he, _⟩ := hJJ; cases he
      intro r news₅ h₅ tk₅ F₅ N₅ hJJ; obtain ⟨d5, ts5, he, K₅, R₅, hr₅⟩ := hJJ
      cases he
      have hl₅ := K₅.mem O₃ hl₃
      have hrs₅ := K₅.rds O₃ hrs₃
      have K₂₅ := (K₂.trans K₃).trans K₅
      clear ihx ihd
      try dsimp only
      fail "go"
      try dsimp only
      refine append_mem (by assumption) (by assumption) hl₅ hlen (fun h₇ news₇ F₇ N₇ K₇ hl₇ => ?_)
      have R₇ := R₅.app (by assumption) hl₅ K₇ hrw
      have hrs₇ := (Kept.rdsL (by assumption) hl₅ K₇ hrs₅).append (.cons (Kept.rdL (by assumption) hl₅ K₇ hr₅) .nil)
      have K₂₇ := K₂₅.transL K₇ hfr
      have hlen₇ := hrs₇.length
      try dsimp only
      fail "go"
      try dsimp only
      refine (mkE5 ⟨rfl, F₇, N₇, Nat.lt_succ_self _, l, _, _, _, _, hself, hclosing, hfound, hl₇, hrs₇, R₇, K₂₇, ?_, hfr, hL3⟩)
      rw [hlen₇, List.length_append]
      simp only [List.length_cons, List.length_nil]
      omega
end

-- C10
section
theorem par_all (w : World) : ∀ n, ParT w 247 (n + 6) (4 * n + 60) (Par n .eq) ∧ ParT w 254 (n + 6) (4 * n + 60) (Par n .total) ∧ ParT w 261 (n + 6) (4 * n + 60) (Par n .prod) ∧ ParT w 268 (n + 6) (4 * n + 60) (Par n .signed) ∧
    ParT w 275 (n + 6) (4 * n + 60) (Par n .power) ∧ ParT w 282 (n + 6) (4 * n + 60) (Par n .post) ∧ ParT w 289 (n + 6) (4 * n + 60) (Par n .plain) ∧ ParL w (n + 6) (4 * n + 60) (fun c => Par n (.rest c)) := by
  intro n
  induction n with
  | zero => refine ⟨?_, ?_, ?_, ?_, ?_, ?_, ?_, ?_⟩ <;> first | exact fun _ _ h => h.elim | exact fun _ _ _ _ h => h.elim
  | succ n ih =>
    obtain ⟨i1, i2, i3, i4, i5, i6, i7, i8⟩ := ih
    have e1 : n + 1 + 6 = (n + 6) + 1 := by omega
    have e2 : 4 * (n + 1) + 60 = (4 * n + 60) + 4 := by omega
    rw [e1, e2]
    have a : 6 ≤ n + 6 := by omega
    have b : 60 ≤ 4 * n + 60 := by omega
    exact ⟨eq_step w _ _ _ a b i2, total_step w _ _ _ a b i3, prod_step w _ _ _ a b i4, signed_step w _ _ _ _ a b i4 i5, power_step w _ _ _ _ a b i6 i4, post_step w _ _ _ a b i7, plain_step w _ _ _ _ a b i1 i8, rest_step w _ _ _ a b i1⟩
end

-- C11
section
theorem init_tells (w : World) (news : Led) (x dx rw : Addr) (toks : List TokP) (vs : List Value) (n2 : Nat) (hx : (x, instObj 299 dx) ∈ news) (hd : (dx, dictOf [] 0) ∈ news) (hr : (rw, lstOf vs n2) ∈ news) (hrs : Rds news vs (toks.map tokD)) (hlen : toks.length ≤ 2 ^ 20) :
    TellsC w 198 1 10 news [.ref x, .ref rw] (fun news' r => r = .none ∧ Kept dx news news' ∧ Rdr news' x dx rw toks) noEr := by
  k_dflt (refine' enterC [(Str.ofString "self", .ref x), (Str.ofString "row", .ref rw)] ?k6 ?k7 ?k8 ?k9 ?c1 ?c2 ?c3 ?c4 (by decide) (by decide) ?_; ((case k6 => k_is); (case k7 => k_is); (case k8 => exact rfl); (case k9 => exact rfl); (case c1 => exact rfl); (case c2 => exact rfl); (case c3 => exact rfl); (case c4 => decide)))
  intro dp un gd outer mean mg mb A₀ base g L s Q E B F X N T lv hdp hun ret er hE
  fail "go"
  try dsimp only
  have ne : ∀ {b : Addr} {o : Obj}, (b, o) ∈ news → o.cls ≠ .type "dict" → b ≠ dx := fun hb ho e => by
    subst e
    rw [news_same N hb hd] at ho
    exact ho rfl
  k_dflt (refine' set_mem (by assumption) X (by assumption) hx hd ?k16 ?k17 ?k18 ?k19 rfl rfl (Nat.le_of_ble_eq_true rfl) ?_; (case k16 => k_is); (case k17 => k_is); (case k18 => k_is); (case k19 => k_is))
  intro h₁ F₁ N₁
  have hx₁ := put_old (d := dx) (o := dictOf [⟨PyData.keyHash w.params (Str.ofString "row"), .str (Str.ofString "row") (s.toks + 1), .ref rw⟩] 1) _ hx (ne hx (by simp))
  try dsimp only
  fail "go"
  try dsimp only
  k_dflt (refine' set_mem (by assumption) X (by assumption) hx₁ put_new ?k26 ?k27 ?k28 ?k29 rfl rfl (Nat.le_of_ble_eq_true rfl) ?_; (case k26 => k_is); (case k27 => k_is); (case k28 => k_is); (case k29 => k_is))
  intro h₂ F₂ N₂
  try dsimp only
  fail "go"
  try dsimp only
  have tt : ∀ p ∈ news, p.2.cls = .type "tuple" → p.1 ≠ dx := fun p hp hc => ne (b := p.1) (o := p.2) hp (by rw [hc]; simp)
  refine ret .next _ _ _ _ (by assumption) (by assumption) ⟨rfl, fun p hp hn => put_old _ (put_old _ hp hn) hn, toks, 0, _, _, _, _, _, _, n2, vs, put_old _ hx₁ (ne hx (by simp)), put_new, put_old _ (put_old _ hr (ne hr (by simp))) (ne hr (by simp)), hrs.mono (fun p hp hc => put_old _ (put_old _ hp (tt p hp hc)) (tt p hp hc)), hlen, rfl⟩

theorem reader_new {w : World} {dp un : Nat} {gd : Option (List Code)} {cn : Str} {cs : Scope} {a : Addr} {ccd : Value} {cl : List (Str × Addr)} {outer : List Env} {mean : ExcName → Option Value} {mg mb : Str → Option Value}
    {A₀ : Around} {base h₀ : Heap} {L : Addr} {m : Str → Option Value} {s : Shared} {Q E : Value → Shared → Prop} {news : Led} {rw : Addr} {toks : List TokP} {vs : List Value} {n2 : Nat}
    (hr : (rw, lstOf vs n2) ∈ news) (hrs : Rds news vs (toks.map tokD)) (hlen : toks.length ≤ 2 ^ 20)
    (B : Below A₀ base outer h₀) (F : Fr h₀ L s.heap m) (X : (hd.heap_1 w.params).In h₀) (N : News h₀ L s.heap news)
    (T : Top hd.view_39 (looseW hd.view_39 [Str.ofString "TEXT_SIGNS"]) mean mg mb h₀) (hk : cs.kind = .function)
    (hd : dp + 3 < recursionLimit) (hu : un + 14 < cLine)
    (ok : ∀ x dx news' h' tk', Fr h₀ L h' m → News h₀ L h' news' → (∀ p ∈ news, p ∈ news') → (∀ p ∈ news, p.1 ≠ dx) → Rdr news' x dx rw toks → Q (.ref x) { s with heap := h', toks := tk' }) :
    wpAny (model PySem.Challenge.rw_nn0269_01.row.prog w) (ktrTop dp un gd cn cs L a ccd cl outer) (call (.ref 299) [.ref rw]) Q E s := by
  k_dflt (refine' call_cls (fI := 198) ?k1 ?k2 ?k3 ?k4 ?k5 ?k6 ?_; (case k1 => exact F); (case k2 => exact X); (case k3 => exact N); (case k4 => k_is); (case k5 => k_is); (case k6 => k_is))
  intro x dx h' F' N' l1 l2
  have hne : ∀ p ∈ news, p.1 ≠ dx := fun p hp => Nat.ne_of_lt (l1 p hp)
  have C := init_tells w _ x dx rw toks vs n2 (List.Mem.head _) (.tail _ (.head _)) (.tail _ (.tail _ hr)) (hrs.sub (sub_cons (sub_cons sub_refl))) hlen
  have C' := C (dp + 1) (un + 1) gd cn cs a ccd cl outer mean mg mb A₀ base h₀ L m { s with heap := h' }
    (InitBack x fun r s' => match r with | .ok (.ret v) => Q v s' | .ok _ => False | .error e => E e s') B F' X N' T hk (by omega) (by omega) ?_ ?_
  · exact C'
  · intro r news' h'' tk' F'' N'' hJJ; obtain ⟨rfl, K, R⟩ := hJJ
    refine ⟨rfl, ?_⟩
    exact ok x dx news' h'' tk' F'' N'' (fun p hp => K p (.tail _ (.tail _ hp)) (hne p hp)) hne R
  · intro e at_ g news' h' tk' _ _ _ h
    exact h.elim
end

-- TxtL
section
open PySem.StrLaws PySem.Builtin.Str

def Sp (x : Str) (pre suf : List Nat) : Prop := x.cps.toList = pre ++ suf
theorem Sp.len {x : Str} {pre suf : List Nat} (h : Sp x pre suf) : x.length = pre.length + suf.length := by
  have := congrArg List.length h
  simpa [Str.length] using this
theorem Sp.move {x : Str} {pre mid suf : List Nat} (h : Sp x pre (mid ++ suf)) : Sp x (pre ++ mid) suf := by
  unfold Sp at *
  rw [h, List.append_assoc]
theorem Sp.one {x : Str} {pre suf : List Nat} {c : Nat} (h : Sp x pre (c :: suf)) : Sp x (pre ++ [c]) suf := Sp.move (mid := [c]) h

theorem item_sp {x : Str} {pre suf : List Nat} {c : Nat} (h : Sp x pre (c :: suf)) : Txt.item x (pre.length : Int) = ⟨#[c]⟩ := by
  have hl := h.len
  simp only [List.length_cons] at hl
  have hc : x.cps[pre.length]? = some c := by
    rw [← Array.getElem?_toList, h]
    simp
  have hs : seqIndex? (pre.length : Int) x.length = some pre.length := by
    unfold seqIndex?
    have h0 : ¬ ((pre.length : Int) < 0) := by omega
    simp only [h0, if_false]
    rw [if_pos (by simp only [Bool.and_eq_true, decide_eq_true_eq]; omega)]
    simp
  unfold Txt.item Txt.charAt
  rw [hs]
  show (⟨#[(x.cps[pre.length]?).getD 0]⟩ : Str) = _
  rw [hc]
  rfl

theorem fromIndex_nat (n k : Nat) : fromIndex n (k : Int) = k := by
  unfold fromIndex
  have h0 : ¬ ((k : Int) < 0) := by omega
  rw [if_neg h0]
  omega

theorem prefix_take {α : Type} [DecidableEq α] [BEq α] [LawfulBEq α] : ∀ (ys s : List α), (decide (ys.length ≤ s.length) && (s.take ys.length == ys)) = ys.isPrefixOf s
  | [], s => by simp
  | y :: ys, [] => by simp
  | y :: ys, c :: s => by
    rw [List.isPrefixOf, ← prefix_take ys s]
    simp only [List.length_cons, List.take_succ_cons, List.cons_beq_cons, Nat.add_le_add_iff_right]
    by_cases h : y = c
    · subst h; simp
    · have h1 : (c == y) = false := beq_eq_false_iff_ne.mpr (Ne.symm h)
      have h2 : (y == c) = false := beq_eq_false_iff_ne.mpr h
      rw [h1, h2]
      simp

theorem subAt_sp {x y : Str} {pre suf : List Nat} (h : Sp x pre suf) : (decide (pre.length + y.length ≤ x.length) && subAt x y pre.length) = y.cps.toList.isPrefixOf suf := by
  have hy : y.length = y.cps.toList.length := by simp [Str.length]
  have e : (pre.length + y.length ≤ x.length) ↔ (y.cps.toList.length ≤ suf.length) := by
    rw [h.len, hy]
    omega
  rw [subAt_eq, h, List.drop_left, ← prefix_take, decide_eq_decide.mpr e, hy]

theorem starts_sp {x y : Str} {pre suf : List Nat} (h : Sp x pre suf) : Txt.startswith3 x y (pre.length : Int) = y.cps.toList.isPrefixOf suf := by
  unfold Txt.startswith3
  rw [fromIndex_nat]
  exact subAt_sp h

theorem slice_sp {x : Str} {pre mid suf : List Nat} {i j : Int} (h : Sp x pre (mid ++ suf)) (hi : i = pre.length) (hj : j = ((pre.length + mid.length : Nat) : Int)) : Txt.slice x (some i) (some j) = ⟨mid.toArray⟩ := by
  subst hi hj
  have hl := h.len
  rw [List.length_append] at hl
  have e := sliceText_nat x (a := pre.length) (b := pre.length + mid.length) (by omega) (by omega)
  unfold sliceText at e
  unfold Txt.slice
  refine Eq.trans ?_ (e.trans ?_)
  · first | rfl | (congr 1)
  · rw [h, List.drop_left, Nat.add_sub_cancel_left, List.take_left]

abbrev remark : List Nat := [47, 42, 32, 45, 32, 42, 47]
theorem find_sp {x : Str} {pre suf : List Nat} {i : Int} (h : Sp x pre (remark ++ suf)) (hi : i = ((pre.length + 2 : Nat) : Int)) : Txt.find3 x (Str.ofString "*/") i = ((pre.length + 5 : Nat) : Int) := by
  subst hi
  have hy : (Str.ofString "*/").cps.toList = [42, 47] := by decide
  unfold Txt.find3
  rw [fromIndex_nat]
  have at_ : ∀ (pre' suf' : List Nat), Sp x pre' suf' → (At x (Str.ofString "*/") x.length pre'.length ↔ [42, 47].isPrefixOf suf' = true) := by
    intro pre' suf' h'
    have e := subAt_sp (y := Str.ofString "*/") h'
    rw [hy] at e
    rw [← e]
    unfold At
    simp
  have s2 := at_ (pre ++ [47, 42]) ([32, 45, 32, 42, 47] ++ suf) (Sp.move (mid := [47, 42]) h)
  have s3 := at_ (pre ++ [47, 42, 32]) ([45, 32, 42, 47] ++ suf) (Sp.move (mid := [47, 42, 32]) h)
  have s4 := at_ (pre ++ [47, 42, 32, 45]) ([32, 42, 47] ++ suf) (Sp.move (mid := [47, 42, 32, 45]) h)
  have s5 := at_ (pre ++ [47, 42, 32, 45, 32]) ([42, 47] ++ suf) (Sp.move (mid := [47, 42, 32, 45, 32]) h)
  simp only [List.length_append, List.length_cons, List.length_nil, Nat.zero_add, Nat.reduceAdd] at s2 s3 s4 s5
  have n2 : ¬ At x (Str.ofString "*/") x.length (pre.length + 2) := by rw [s2]; simp [List.isPrefixOf]
  have n3 : ¬ At x (Str.ofString "*/") x.length (pre.length + 3) := by rw [s3]; simp [List.isPrefixOf]
  have n4 : ¬ At x (Str.ofString "*/") x.length (pre.length + 4) := by rw [s4]; simp [List.isPrefixOf]
  have y5 : At x (Str.ofString "*/") x.length (pre.length + 5) := by rw [s5]; simp [List.isPrefixOf]
  rcases occ_head_from x (Str.ofString "*/") (pre.length + 2) 1 (Nat.le_refl _) with ⟨_, hn⟩ | ⟨k, r, he, hlo, hk, hn⟩
  · exact absurd y5 (hn _ (by omega))
  · rw [he]
    have : k = pre.length + 5 := by
      rcases Nat.lt_trichotomy k (pre.length + 5) with h1 | h1 | h1
      · exfalso
        have : k = pre.length + 2 ∨ k = pre.length + 3 ∨ k = pre.length + 4 := by omega
        rcases this with e | e | e <;> rw [e] at hk <;> contradiction
      · exact h1
      · exact absurd y5 (hn _ (by omega) h1)
    subst this
    rfl

abbrev isFig (c : Nat) : Bool := decide (48 ≤ c) && decide (c ≤ 57)
abbrev isNm (c : Nat) : Bool := (decide (97 ≤ c) && decide (c ≤ 122)) || ((decide (65 ≤ c) && decide (c ≤ 90)) || ((decide (48 ≤ c) && decide (c ≤ 57)) || (c == 95 || c == 37)))
abbrev isWs (c : Nat) : Bool := c == 32 || c == 9 || c == 13 || c == 10
theorem lt_one (a b : Nat) : (decide ([a] < [b])) = decide (a < b) := by
  apply decide_eq_decide.mpr
  constructor
  · intro h
    cases h with
    | rel h => exact h
    | cons h => cases h
  · exact fun h => List.Lex.rel h
theorem le_left {c : Nat} (s : String) (a : Nat) (h : (Str.ofString s).cps.toList = [a]) : (!(decide ((⟨#[c]⟩ : Str).cps.toList < (Str.ofString s).cps.toList))) = decide (a ≤ c) := by
  rw [h]
  show (!decide ([c] < [a])) = _
  rw [lt_one]
  by_cases hc : c < a
  · simp [hc]
  · simp [hc]; omega
theorem le_right {c : Nat} (s : String) (a : Nat) (h : (Str.ofString s).cps.toList = [a]) : (!(decide ((Str.ofString s).cps.toList < (⟨#[c]⟩ : Str).cps.toList))) = decide (c ≤ a) := by
  rw [h]
  show (!decide ([a] < [c])) = _
  rw [lt_one]
  by_cases hc : a < c
  · simp [hc]
  · simp [hc]; omega
theorem in_ws (c : Nat) : (!(occurrences (Str.ofString " \t\r\n") ⟨#[c]⟩ 0 (Str.ofString " \t\r\n").length 1).isEmpty) = isWs c := by
  rw [found_one, show (Str.ofString " \t\r\n").cps.toList = [32, 9, 13, 10] from by decide]
  rw [Bool.eq_iff_iff]
  simp only [List.mem_cons, List.not_mem_nil, or_false, decide_eq_true_eq, Bool.or_eq_true, beq_iff_eq]
  simp only [or_assoc]
theorem eq_one (c : Nat) (s : String) (a : Nat) (h : Str.ofString s = ⟨#[a]⟩) : ((⟨#[c]⟩ : Str) == Str.ofString s) = (c == a) := by
  rw [h, Bool.eq_iff_iff, beq_iff_eq, beq_iff_eq]
  constructor
  · intro e
    injection e with e
    have := congrArg Array.toList e
    simpa using this
  · rintro rfl
    rfl
inductive BlankS : Nat → List Nat → List Nat → Prop
  | nil {n} : BlankS n [] []
  | stop {n c s} : isWs c = false → [47, 42].isPrefixOf (c :: s) = false → BlankS n (c :: s) (c :: s)
  | ws {n c s s'} : isWs c = true → BlankS n s s' → BlankS (n + 1) (c :: s) s'
  | rem {n s s'} : BlankS n s s' → BlankS (n + 1) (remark ++ s) s'
theorem BlankS.suffix {n : Nat} {s s' : List Nat} (h : BlankS n s s') : ∃ mid, s = mid ++ s' := by
  induction h with
  | nil => exact ⟨[], rfl⟩
  | stop => exact ⟨[], rfl⟩
  | ws _ _ ih => obtain ⟨m, e⟩ := ih; exact ⟨_ :: m, by rw [e]; rfl⟩
  | rem _ ih => obtain ⟨m, e⟩ := ih; exact ⟨remark ++ m, by rw [e, List.append_assoc]⟩

section
variable {prog : Program} {w : World} {A : Around} {E : Value → Shared → Prop} {s : Shared} {Q : Value → Shared → Prop} {x : Str} {pre suf mid : List Nat} {c : Nat} {t u v : Tok}
theorem char_at {value slice : Expr} (h : Sp x pre (c :: suf) := by assumption) (hlen : x.length ≤ 2 ^ 20 := by assumption) (hq : Q (.str ⟨#[c]⟩ s.toks) { s with toks := s.toks + 1 })
    (hs : subscripted slice false (.str x t) (.int (pre.length : Int) u) = operate [.str x t, .int (pre.length : Int) u] (getItem (.str x t) (.int (pre.length : Int) u)) := by with_unfolding_all rfl)
    (ht : ∀ r, letTemporaryGo value (.str x t) r = pure () := by intro _; with_unfolding_all rfl) :
    wpAny (model prog w) A (subscriptTail value slice (.str x t) (.int (pre.length : Int) u)) Q E s := by
  have hl := h.len
  simp only [List.length_cons] at hl
  refine item_str (by unfold fitsSsize; simp only [Bool.not_eq_true', decide_eq_true_eq, Bool.or_eq_false_iff, Bool.and_eq_true, decide_eq_false_iff_not, ge_iff_le, Int.not_lt, Int.not_le]; omega) (by omega) (by omega) (fun _ => ?_) hs ht
  rw [item_sp h]
  exact hq
theorem in_ws_rule (hq : Q (.bool (isWs c)) s) : wpAny (model prog w) A (compareOp .In (.str ⟨#[c]⟩ u) (.str (Str.ofString " \t\r\n") t)) Q E s := in_str (by rw [in_ws]; exact hq)
theorem starts_at {p : Str} (h : Sp x pre suf) (hq : Q (.bool (p.cps.toList.isPrefixOf suf)) s) : wpAny (model prog w) A (call (.builtin "str.startswith") [.str x t, .str p u, .int (pre.length : Int) v]) Q E s :=
  SC.startswith3 (by rw [starts_sp h]; exact hq)
theorem in_ws_b {b : Bool} (hb : isWs c = b := by assumption) (hq : Q (.bool b) s) : wpAny (model prog w) A (compareOp .In (.str ⟨#[c]⟩ u) (.str (Str.ofString " \t\r\n") t)) Q E s := in_ws_rule (by rw [hb]; exact hq)
theorem starts_b {p : Str} {b : Bool} (h : Sp x pre suf := by assumption) (hb : p.cps.toList.isPrefixOf suf = b := by assumption) (hq : Q (.bool b) s) : wpAny (model prog w) A (call (.builtin "str.startswith") [.str x t, .str p u, .int (pre.length : Int) v]) Q E s :=
  starts_at h (by rw [hb]; exact hq)
theorem find_at {i : Int} (h : Sp x pre (remark ++ suf) := by assumption) (hi : i = ((pre.length + 2 : Nat) : Int) := by omega) (hq : Q (.int ((pre.length + 5 : Nat) : Int) s.toks) { s with toks := s.toks + 1 }) :
    wpAny (model prog w) A (call (.builtin "str.find") [.str x t, .str (Str.ofString "*/") u, .int i v]) Q E s :=
  SC.find3 (by rw [find_sp h hi]; exact hq)
end
theorem cmp_l {prog : Program} {w : World} {A : Around} {E : Value → Shared → Prop} {s : Shared} {Q : Value → Shared → Prop} {c : Nat} {x : String} {t u : Tok} (a : Nat) (h : (Str.ofString x).cps.toList = [a]) (hq : Q (.bool (decide (a ≤ c))) s) :
    wpAny (model prog w) A (compareOp .LtE (.str (Str.ofString x) t) (.str ⟨#[c]⟩ u)) Q E s := P.le_str (by rw [le_left x a h]; exact hq)
theorem cmp_r {prog : Program} {w : World} {A : Around} {E : Value → Shared → Prop} {s : Shared} {Q : Value → Shared → Prop} {c : Nat} {x : String} {t u : Tok} (a : Nat) (h : (Str.ofString x).cps.toList = [a]) (hq : Q (.bool (decide (c ≤ a))) s) :
    wpAny (model prog w) A (compareOp .LtE (.str ⟨#[c]⟩ u) (.str (Str.ofString x) t)) Q E s := P.le_str (by rw [le_right x a h]; exact hq)
theorem cmp_e {prog : Program} {w : World} {A : Around} {E : Value → Shared → Prop} {s : Shared} {Q : Value → Shared → Prop} {c : Nat} {x : String} {t u : Tok} (a : Nat) (h : Str.ofString x = ⟨#[a]⟩) (hq : Q (.bool (c == a)) s) :
    wpAny (model prog w) A (compareOp .Eq (.str ⟨#[c]⟩ u) (.str (Str.ofString x) t)) Q E s := eq_str (by rw [eq_one c x a h]; exact hq)
end

-- C12
section
set_option hygiene false in
local macro_rules
  | `(tactic| walk_at "compareOp LtE str str") => `(tactic| first | refine cmp_l 48 (by decide) ?_ | refine cmp_l 97 (by decide) ?_ | refine cmp_l 65 (by decide) ?_ | refine cmp_r 57 (by decide) ?_ | refine cmp_r 122 (by decide) ?_ | refine cmp_r 90 (by decide) ?_)
  | `(tactic| walk_at "compareOp Eq str str") => `(tactic| first | refine cmp_e 95 (by decide) ?_ | refine cmp_e 37 (by decide) ?_)
theorem is_figure_tells (w : World) (news : Led) (c : Nat) (t : Tok) :
   Tells w 156 1 10 news [.str ⟨#[c]⟩ t] (fun news' r => news' = news ∧ r = .bool (isFig c)) noEr := by
  k_dflt (refine' enter [(Str.ofString "sign", .str ⟨#[c]⟩ t)] ?k6 ?k7 ?k8 ?k9 ?c1 ?c2 ?c3 ?c4 (by decide) (by decide) ?_; ((case k6 => k_is); (case k7 => k_is); (case k8 => exact rfl); (case k9 => exact rfl); (case c1 => exact rfl); (case c2 => exact rfl); (case c3 => exact rfl); (case c4 => decide)))
  intro dp un gd outer mean mg mb A₀ base g L s Q E B F X N T lv hdp hun ret er hE
  fail "go"
  try dsimp only
  all_goals (try dsimp only)
  all_goals exact ret (.ret _) _ _ _ _ (by assumption) (by assumption) ⟨rfl, congrArg Value.bool (by rw [Bool.eq_iff_iff]; simp only [isFig, isNm, Bool.or_eq_true, Bool.and_eq_true, decide_eq_true_eq, beq_iff_eq, beq_eq_false_iff_ne, ne_eq] at *; omega)⟩

theorem is_name_tells (w : World) (news : Led) (c : Nat) (t : Tok) :
   Tells w 149 1 10 news [.str ⟨#[c]⟩ t] (fun news' r => news' = news ∧ r = .bool (isNm c)) noEr := by
  k_dflt (refine' enter [(Str.ofString "sign", .str ⟨#[c]⟩ t)] ?k6 ?k7 ?k8 ?k9 ?c1 ?c2 ?c3 ?c4 (by decide) (by decide) ?_; ((case k6 => k_is); (case k7 => k_is); (case k8 => exact rfl); (case k9 => exact rfl); (case c1 => exact rfl); (case c2 => exact rfl); (case c3 => exact rfl); (case c4 => decide)))
  intro dp un gd outer mean mg mb A₀ base g L s Q E B F X N T lv hdp hun ret er hE
  fail "go"
  try dsimp only
  all_goals (try dsimp only)
  all_goals (try dsimp only)
  all_goals exact ret (.ret _) _ _ _ _ (by assumption) (by assumption) ⟨rfl, congrArg Value.bool (by rw [Bool.eq_iff_iff]; simp only [isFig, isNm, Bool.or_eq_true, Bool.and_eq_true, decide_eq_true_eq, beq_iff_eq, beq_eq_false_iff_ne, ne_eq] at *; omega)⟩
end

-- C13
section
theorem blank_end_tells (w : World) (news : Led) (x : Str) (t t' : Tok) (pre suf suf' : List Nat) (n : Nat) (hlen : x.length ≤ 2 ^ 20) (hsp : Sp x pre suf) (hb : BlankS n suf suf') :
   Tells w 163 1 10 news [.str x t, .int (pre.length : Int) t'] (fun news' r => (∀ p ∈ news, p ∈ news') ∧ ∃ pre' t, r = .int (pre'.length : Int) t ∧ Sp x pre' suf') noEr := by
  k_dflt (refine' enter [(Str.ofString "text", .str x t), (Str.ofString "at", .int (pre.length : Int) t')] ?k6 ?k7 ?k8 ?k9 ?c1 ?c2 ?c3 ?c4 (by decide) (by decide) ?_; ((case k6 => k_is); (case k7 => k_is); (case k8 => exact rfl); (case k9 => exact rfl); (case c1 => exact rfl); (case c2 => exact rfl); (case c3 => exact rfl); (case c4 => decide)))
  intro dp un gd outer mean mg mb A₀ base g L s Q E B F X N T lv hdp hun ret er hE
  fail "go"
  try dsimp only
  refine While_inv2 (fun n m₁ news₁ => ∃ pre suf t₁ p, m₁ (Str.ofString "text") = some (.str x t) ∧ m₁ (Str.ofString "at") = some (.int p t₁) ∧ p = (pre.length : Int) ∧ Sp x pre suf ∧ BlankS n suf suf' ∧ ∀ p ∈ news, p ∈ news₁) (n₀ := n) (by assumption) (by assumption)
    ⟨_, _, _, _, rfl, rfl, rfl, hsp, hb, sub_refl⟩ ?_ hE
  clear hsp hb
  intro n m₁ news₁ h₁ tk₁ F₁ N₁ hJJ; obtain ⟨pre, suf, t₁, p, htext, hat, rfl, hsp, hb, hs⟩ := hJJ
  fail "gen"
  have hl := hsp.len
  cases hb with
  | nil =>
    have hl0 : ¬ ((pre.length : Int) < (x.length : Int)) := by simp only [List.length_nil] at hl; omega
    fail "go"
    try dsimp only
    exact ret (.ret _) _ _ _ _ (by assumption) (by assumption) (⟨by fail "sub", _, _, rfl, hsp⟩)
  | stop hw hp =>
    rename_i c suf
    have hl0 : ((pre.length : Int) < (x.length : Int)) := by simp only [List.length_cons] at hl; omega
    have hp' : (Str.ofString "/*").cps.toList.isPrefixOf (c :: suf) = false := by
      rw [show (Str.ofString "/*").cps.toList = [47, 42] from by decide]; exact hp
    fail "go"
    try dsimp only
    dsimp only [WhileStep2]
    fail "go"
    try dsimp only
    exact ret (.ret _) _ _ _ _ (by assumption) (by assumption) (⟨by fail "sub", _, _, rfl, hsp⟩)
  | ws hw hb2 =>
    rename_i n c suf
    have hl0 : ((pre.length : Int) < (x.length : Int)) := by simp only [List.length_cons] at hl; omega
    fail "go"
    try dsimp only
    refine (mkE5 ⟨rfl, by assumption, by assumption, Nat.lt_succ_self _, pre ++ [c], _, _, _, ?_, rfl, by simp, hsp.one, hb2, by fail "sub"⟩)
    exact htext
  | rem hb2 =>
    rename_i n suf
    have hl0 : ((pre.length : Int) < (x.length : Int)) := by simp only [List.length_append, List.length_cons] at hl; omega
    have hw : isWs 47 = false := by decide
    have hp' : (Str.ofString "/*").cps.toList.isPrefixOf (47 :: ([42, 32, 45, 32, 42, 47] ++ suf)) = true := by
      rw [show (Str.ofString "/*").cps.toList = [47, 42] from by decide]; simp [List.isPrefixOf]
    have hsp1 : Sp x pre (47 :: ([42, 32, 45, 32, 42, 47] ++ suf)) := hsp
    fail "go"
    try dsimp only
    refine (mkE5 ⟨rfl, by assumption, by assumption, Nat.lt_succ_self _, pre ++ remark, _, _, _, ?_, rfl, by (simp only [List.length_append, List.length_cons, List.length_nil]; omega), Sp.move hsp, hb2, by fail "sub"⟩)
    exact htext

theorem is_figure_b (w : World) (news : Led) (c : Nat) (t : Tok) (b : Bool) (hb : isFig c = b) :
   Tells w 156 1 10 news [.str ⟨#[c]⟩ t] (fun news' r => news' = news ∧ r = .bool b) noEr := hb ▸ is_figure_tells w news c t
theorem is_name_b (w : World) (news : Led) (c : Nat) (t : Tok) (b : Bool) (hb : isNm c = b) :
   Tells w 149 1 10 news [.str ⟨#[c]⟩ t] (fun news' r => news' = news ∧ r = .bool b) noEr := hb ▸ is_name_tells w news c t
theorem run_end_tells (w : World) (news : Led) (x : Str) (t t' : Tok) (fg : Bool) (pre run suf : List Nat) (hlen : x.length ≤ 2 ^ 20) (hsp : Sp x pre (run ++ suf))
   (hr : ∀ c ∈ run, (if fg then isFig c else isNm c) = true) (hst : ∀ c s, suf = c :: s → (if fg then isFig c else isNm c) = false) :
   Tells w 170 2 13 news [.str x t, .int (pre.length : Int) t', .bool fg] (fun news' r => (∀ p ∈ news, p ∈ news') ∧ ∃ t p, r = .int p t ∧ p = ((pre.length + run.length : Nat) : Int)) noEr := by
  k_dflt (refine' enter [(Str.ofString "text", .str x t), (Str.ofString "at", .int (pre.length : Int) t'), (Str.ofString "is_figures", .bool fg)] ?k6 ?k7 ?k8 ?k9 ?c1 ?c2 ?c3 ?c4 (by decide) (by decide) ?_; ((case k6 => k_is); (case k7 => k_is); (case k8 => exact rfl); (case k9 => exact rfl); (case c1 => exact rfl); (case c2 => exact rfl); (case c3 => exact rfl); (case c4 => decide)))
  intro dp un gd outer mean mg mb A₀ base g L s Q E B F X N T lv hdp hun ret er hE
  fail "go"
  try dsimp only
  refine While_inv2 (fun n m₁ news₁ => ∃ pre₁ run₁ t₁ p, m₁ (Str.ofString "text") = some (.str x t) ∧ m₁ (Str.ofString "is_figures") = some (.bool fg) ∧ m₁ (Str.ofString "at") = some (.int p t₁) ∧ p = (pre₁.length : Int) ∧ Sp x pre₁ (run₁ ++ suf) ∧ run₁.length = n ∧ pre₁.length + n = pre.length + run.length ∧ (∀ c ∈ run₁, (if fg then isFig c else isNm c) = true) ∧ ∀ p ∈ news, p ∈ news₁) (n₀ := run.length) (by assumption) (by assumption)
    ⟨_, _, _, _, rfl, rfl, rfl, rfl, hsp, rfl, rfl, hr, sub_refl⟩ ?_ hE
  clear hsp hr
  intro n m₁ news₁ h₁ tk₁ F₁ N₁ hJJ; obtain ⟨pre₁, run₁, t₁, p, htext, hfg, hat, rfl, hsp, rfl, hsum, hr, hs⟩ := hJJ
  fail "gen"
  have hl := hsp.len
  rw [List.length_append] at hl
  cases run₁ with
  | nil =>
    cases hc : suf with
    | nil =>
      subst hc
      have hl0 : ¬ ((pre₁.length : Int) < (x.length : Int)) := by simp only [List.length_nil] at hl; omega
      fail "go"
      try dsimp only
      exact ret (.ret _) _ _ _ _ (by assumption) (by assumption) (⟨by fail "sub", _, _, rfl, by simp only [List.length_nil] at hsum; omega⟩)
    | cons c s' =>
      subst hc
      have hl0 : ((pre₁.length : Int) < (x.length : Int)) := by simp only [List.length_cons] at hl; omega
      have hf := hst c s' rfl
      have hsp1 : Sp x pre₁ (c :: s') := hsp
      cases fg with
      | true =>
        fail "go"
        try dsimp only
        fail "gen"; refine' Tells.use ?tt1 B ?cf1 X ?cn1 T rfl ?cd1 ?cu1 ?ok1 ?er1; (case cf1 => assumption); (case cn1 => assumption); (case tt1 => exact (is_figure_b w _ c _ false hf)); (case cd1 => first | exact bud hdp (by decide) | exact bud hdp (by omega) | omega); (case cu1 => first | exact bud3 hun (by decide) | exact bud3 hun (by omega) | omega); (try (case er1 => exact fun _ _ _ _ _ _ _ _ _ h => h.elim))
        intro r news₂ h₂ tk₂ F₂ N₂ hJJ; obtain ⟨rfl, rfl⟩ := hJJ
        try dsimp only
        fail "go"
        try dsimp only
        exact ret (.ret _) _ _ _ _ (by assumption) (by assumption) (⟨by fail "sub", _, _, rfl, by simp only [List.length_nil] at hsum; omega⟩)
      | false =>
        fail "go"
        try dsimp only
        fail "gen"; refine' Tells.use ?tt2 B ?cf2 X ?cn2 T rfl ?cd2 ?cu2 ?ok2 ?er2; (case cf2 => assumption); (case cn2 => assumption); (case tt2 => exact (is_name_b w _ c _ false hf)); (case cd2 => first | exact bud hdp (by decide) | exact bud hdp (by omega) | omega); (case cu2 => first | exact bud3 hun (by decide) | exact bud3 hun (by omega) | omega); (try (case er2 => exact fun _ _ _ _ _ _ _ _ _ h => h.elim))
        intro r news₂ h₂ tk₂ F₂ N₂ hJJ; obtain ⟨rfl, rfl⟩ := hJJ
        try dsimp only
        fail "go"
        try dsimp only
        exact ret (.ret _) _ _ _ _ (by assumption) (by assumption) (⟨by fail "sub", _, _, rfl, by simp only [List.length_nil] at hsum; omega⟩)
  | cons c s' =>
    have hl0 : ((pre₁.length : Int) < (x.length : Int)) := by simp only [List.length_cons] at hl; omega
    have hf := hr c (List.mem_cons_self ..)
    have hr' : ∀ c ∈ s', (if fg then isFig c else isNm c) = true := fun d hd => hr d (List.mem_cons_of_mem _ hd)
    have hsp1 : Sp x pre₁ (c :: (s' ++ suf)) := hsp
    cases fg with
    | true =>
      fail "go"
      try dsimp only
      fail "gen"; refine' Tells.use ?tt3 B ?cf3 X ?cn3 T rfl ?cd3 ?cu3 ?ok3 ?er3; (case cf3 => assumption); (case cn3 => assumption); (case tt3 => exact (is_figure_b w _ c _ true hf)); (case cd3 => first | exact bud hdp (by decide) | exact bud hdp (by omega) | omega); (case cu3 => first | exact bud3 hun (by decide) | exact bud3 hun (by omega) | omega); (try (case er3 => exact fun _ _ _ _ _ _ _ _ _ h => h.elim))
      intro r news₂ h₂ tk₂ F₂ N₂ hJJ; obtain ⟨rfl, rfl⟩ := hJJ
      try dsimp only
      fail "go"
      try dsimp only
      refine (mkE5 ⟨rfl, by assumption, by assumption, Nat.lt_succ_self _, pre₁ ++ [c], s', _, _, ?_, ?_, rfl, by simp, hsp1.one, rfl, ?_, hr', by fail "sub"⟩)
      · exact htext
      · exact hfg
      · simp only [List.length_append, List.length_cons, List.length_nil] at *; omega
    | false =>
      fail "go"
      try dsimp only
      fail "gen"; refine' Tells.use ?tt4 B ?cf4 X ?cn4 T rfl ?cd4 ?cu4 ?ok4 ?er4; (case cf4 => assumption); (case cn4 => assumption); (case tt4 => exact (is_name_b w _ c _ true hf)); (case cd4 => first | exact bud hdp (by decide) | exact bud hdp (by omega) | omega); (case cu4 => first | exact bud3 hun (by decide) | exact bud3 hun (by omega) | omega); (try (case er4 => exact fun _ _ _ _ _ _ _ _ _ h => h.elim))
      intro r news₂ h₂ tk₂ F₂ N₂ hJJ; obtain ⟨rfl, rfl⟩ := hJJ
      try dsimp only
      fail "go"
      try dsimp only
      refine (mkE5 ⟨rfl, by assumption, by assumption, Nat.lt_succ_self _, pre₁ ++ [c], s', _, _, ?_, ?_, rfl, by simp, hsp1.one, rfl, ?_, hr', by fail "sub"⟩)
      · exact htext
      · exact hfg
      · simp only [List.length_append, List.length_cons, List.length_nil] at *; omega
end

-- C14
section
abbrev signL : List String := ["**", ":=", "<=", ">=", "+", "-", "*", "/", "^", "!", "(", ")", "[", "]", ",", "=", ":", ";", "$", "<", ">", "#"]
def longS (ss : List String) (suf : List Nat) : Str := match ss.find? fun x => (Str.ofString x).cps.toList.isPrefixOf suf with
  | some x => Str.ofString x
  | none => Str.ofString ""
def StrsAre : List Value → List String → Prop
  | [], [] => True
  | .str x _ :: vs, s :: ss => x = Str.ofString s ∧ StrsAre vs ss
  | _, _ => False
theorem longest_tells (w : World) (news : Led) (x : Str) (t t' : Tok) (pre suf : List Nat) (hlen : x.length ≤ 2 ^ 20) (hsp : Sp x pre suf) :
   Tells w 177 1 10 news [.str x t, .int (pre.length : Int) t'] (fun news' r => (∀ p ∈ news, p ∈ news') ∧ ∃ t, r = .str (longS signL suf) t) noEr := by
  k_dflt (refine' enter [(Str.ofString "text", .str x t), (Str.ofString "at", .int (pre.length : Int) t')] ?k6 ?k7 ?k8 ?k9 ?c1 ?c2 ?c3 ?c4 (by decide) (by decide) ?_; ((case k6 => k_is); (case k7 => k_is); (case k8 => exact rfl); (case k9 => exact rfl); (case c1 => exact rfl); (case c2 => exact rfl); (case c3 => exact rfl); (case c4 => decide)))
  intro dp un gd outer mean mg mb A₀ base g L s Q E B F X N T lv hdp hun ret er hE
  fail "go"
  try dsimp only
  refine For_turns (by assumption) ?_ (by intro _; rfl) hE
  fail "go"
  try dsimp only
  refine' iter_KK (fun r m S => m (Str.ofString "text") = some (.str x t) ∧ m (Str.ofString "at") = some (.int (pre.length : Int) t') ∧ (∀ p ∈ news, p ∈ S) ∧ ∃ ss, StrsAre r ss ∧ longS ss suf = longS signL suf) rfl (by assumption) (by assumption) X ?k1 ?k4 ?up ?turn ?done
  case k1 => k_is
  case k4 => exact ⟨rfl, rfl, sub_refl, signL, by repeat' constructor, rfl⟩
  case up =>
    intro I hI r m S S' hJJ cy; obtain ⟨a, b, c, d⟩ := hJJ
    exact ⟨a, b, fun p hp => cy.go _ (c p hp) (hI p hp), d⟩
  case done =>
    intro m₁ S h₁ tk₁ F₁ N₁ hJJ; obtain ⟨a, b, c, ss, hss, hl⟩ := hJJ
    cases ss with
    | cons _ _ => exact hss.elim
    | nil =>
      fail "go"
      try dsimp only
      exact ret (.ret _) _ _ _ _ (by assumption) (by assumption) (⟨by fail "sub", _, congrArg (fun z => Value.str z _) hl⟩)
  case turn => --plain
    intro v r m₁ h₁ tk₁ S own F₁ N₁ ho hd hJJ; obtain ⟨htext, hat, hs, ss, hss, hl⟩ := hJJ
    cases ss with
    | nil => cases v <;> exact hss.elim
    | cons z ss =>
      cases v with
      | str zx zt =>
        obtain ⟨rfl, hss⟩ := hss
        cases hb : (Str.ofString z).cps.toList.isPrefixOf suf with
        | true =>
          fail "go"
          try dsimp only
          refine (show QQ _ _ from ?_)
          fail "into"
          exact ret (.ret _) _ _ _ _ (by assumption) (by assumption) (⟨by fail "sub", _, congrArg (fun z => Value.str z _) (by rw [← hl]; simp only [longS, List.find?_cons, hb])⟩)
        | false =>
          fail "go"
          try dsimp only
          refine (mkE4 ⟨rfl, by assumption, by assumption, ?_, ?_, ?_, ?_, ss, hss, ?_⟩)
          · fail "sub"
          · exact htext
          · exact hat
          · fail "sub"
          · rw [← hl]
            simp only [longS, List.find?_cons, hb]
      | _ => exact hss.elim
end

-- C15
section
inductive TRes where
  | ok (ts : List TokP)
  | fail (a : Int)
inductive LTok : Nat → List TokP → Nat → List Nat → TRes → Prop
  | stop {n acc} {p : Nat} : LTok n acc p [] (.ok (acc ++ [(.eof, (p : Int))]))
  | num {n nb acc run suf suf' k r} {p : Nat} : run ≠ [] → run.length ≤ 640 → (∀ c ∈ run, isFig c = true) → (∀ c s, suf = c :: s → isNm c = false) → PySem.intText? ⟨run.toArray⟩ = some k → BlankS nb suf suf' →
      LTok n (acc ++ [(.num k, (p : Int))]) (p + run.length + (suf.length - suf'.length)) suf' r → LTok (n + 1) acc p (run ++ suf) r
  | numBad {n acc run c s} {p : Nat} : run ≠ [] → (∀ c ∈ run, isFig c = true) → isFig c = false → isNm c = true → LTok n acc p (run ++ c :: s) (.fail ((p + run.length : Nat) : Int))
  | name {n nb acc c run suf suf' r} {p : Nat} : isFig c = false → isNm c = true → (∀ c ∈ run, isNm c = true) → (∀ c s, suf = c :: s → isNm c = false) → BlankS nb suf suf' →
      LTok n (acc ++ [(.name ⟨(c :: run).toArray⟩, (p : Int))]) (p + (run.length + 1) + (suf.length - suf'.length)) suf' r → LTok (n + 1) acc p (c :: run ++ suf) r
  | sign {n nb acc c s z suf suf' r} {p : Nat} : isFig c = false → isNm c = false → longS signL (c :: s) = z → z ≠ Str.ofString "" → z.cps.toList ++ suf = c :: s → BlankS nb suf suf' →
      LTok n (acc ++ [(.sign z, (p : Int))]) (p + z.length + (suf.length - suf'.length)) suf' r → LTok (n + 1) acc p (c :: s) r
  | signBad {n acc c s} {p : Nat} : isFig c = false → isNm c = false → longS signL (c :: s) = Str.ofString "" → LTok n acc p (c :: s) (.fail (p : Int))

theorem isNm_of_fig {c : Nat} (h : isNm c = false) : isFig c = false := by
  simp only [isNm, isFig, Bool.or_eq_false_iff, Bool.and_eq_false_iff, decide_eq_false_iff_not, Nat.not_le] at *
  omega
theorem tok_app {h₀ h : Heap} {L l D : Addr} {S S' : Led} {vs : List Value} {k n : Nat} {acc : List TokP} {t : TokP} {v1 : Value} {t0 t2 : Tok} (N : News h₀ L h S) (hl : (l, lstOf vs k) ∈ S) (K : Kept l S S') (hrs : Rds S vs (acc.map tokD))
    (hD : (D, tupOf [.str (Str.ofString t.1.kind) t0, v1, .int t.2 t2] n) ∈ S) (hv : Rd S v1 t.1.val) : Rds S' (vs ++ [.ref D]) ((acc ++ [t]).map tokD) := by
  rw [List.map_append]
  exact (Kept.rdsL N hl K hrs).append (.cons (Kept.rdL N hl K (.tup hD (.cons (.str _ _) (.cons hv (.cons (.int _ _) .nil))))) .nil)
theorem rd_str_eq {S : Led} {a b : Str} {t : Tok} (h : a = b) : Rd S (.str a t) (.str b) := h ▸ .str _ _
theorem blank_end_p (w : World) (news : Led) (x : Str) (t t' : Tok) (p : Int) (pre suf suf' : List Nat) (n : Nat) (hlen : x.length ≤ 2 ^ 20) (hsp : Sp x pre suf) (hb : BlankS n suf suf') (hp : p = (pre.length : Int)) :
   Tells w 163 1 10 news [.str x t, .int p t'] (fun news' r => (∀ p ∈ news, p ∈ news') ∧ ∃ pre' t, r = .int (pre'.length : Int) t ∧ Sp x pre' suf') noEr := hp ▸ blank_end_tells w news x t t' pre suf suf' n hlen hsp hb
abbrev TokI (x : Str) (t : Tok) (news : Led) (res : TRes) (n : Nat) (m₁ : Str → Option Value) (news₁ : Led) : Prop :=
  ∃ (pre suf : List Nat) (t₁ : Tok) (p : Int) (l : Addr) (vs : List Value) (k : Nat) (acc : List TokP), m₁ (Str.ofString "text") = some (.str x t) ∧ m₁ (Str.ofString "at") = some (.int p t₁) ∧ m₁ (Str.ofString "found") = some (.ref l) ∧ p = (pre.length : Int) ∧ Sp x pre suf ∧
    (l, lstOf vs k) ∈ news₁ ∧ Rds news₁ vs (acc.map tokD) ∧ acc.length ≤ pre.length ∧ (∀ p ∈ news, p ∈ news₁) ∧ (∀ p ∈ news, p.1 ≠ l) ∧ LTok n acc pre.length suf res
theorem tokens_tells (w : World) (news : Led) (x : Str) (tq : Tok) (suf0 : List Nat) (n n0 : Nat) (res : TRes) (hlen : x.length < 2 ^ 20) (hb0 : BlankS n0 x.cps.toList suf0) (hT : LTok n [] (x.length - suf0.length) suf0 res) :
   Tells w 184 5 40 news [.str x tq] (fun news' r => ∃ toks l vs k, res = .ok toks ∧ (∀ p ∈ news, p ∈ news') ∧ (∀ p ∈ news, p.1 ≠ l) ∧ r = .ref l ∧ (l, lstOf vs k) ∈ news' ∧ Rds news' vs (toks.map tokD) ∧ toks.length ≤ 2 ^ 20)
     (fun news' a => res = .fail a ∧ ∀ p ∈ news, p ∈ news') := by
  have hlen' : x.length ≤ 2 ^ 20 := by omega
  have hsp0 : Sp x [] x.cps.toList := rfl
  refine TellsC.tells ?_
  k_dflt (refine' enterR [(Str.ofString "text", .str x tq)] ?k6 ?k7 ?k8 ?k9 ?c1 ?c2 ?c3 ?c4 (by decide) (by decide) ?_; ((case k6 => k_is); (case k7 => k_is); (case k8 => exact rfl); (case k9 => exact rfl); (case c1 => exact rfl); (case c2 => exact rfl); (case c3 => exact rfl); (case c4 => decide)))
  intro dp un gd outer mean mg mb A₀ base g L s Q E B F X N T lv hdp hun ret er rs hE
  fail "go"
  try dsimp only
  fail "gen"; refine' Tells.use ?tt1 B ?cf1 X ?cn1 T rfl ?cd1 ?cu1 ?ok1 ?er1; (case cf1 => assumption); (case cn1 => assumption); (case tt1 => exact blank_end_tells w _ x tq _ [] x.cps.toList suf0 n0 hlen' hsp0 hb0); (case cd1 => first | exact bud hdp (by decide) | exact bud hdp (by omega) | omega); (case cu1 => first | exact bud3 hun (by decide) | exact bud3 hun (by omega) | omega); (try (case er1 => exact fun _ _ _ _ _ _ _ _ _ h => h.elim))
  intro r news₁ h₁ tk₁ F₁ N₁ hJJ; obtain ⟨hs₁, pre, t₁, rfl, hsp⟩ := hJJ
  try dsimp only
  have hl0 : pre.length = x.length - suf0.length := by
    have := hsp.len
    omega
  fail "go"
  try dsimp only
  refine While_inv2 (TokI x tq news res) (n₀ := n) (by assumption) (by assumption) ⟨pre, suf0, _, _, _, [], 0, [], rfl, rfl, rfl, rfl, hsp, hs₁ _ (List.Mem.head _), Rds.nil, Nat.zero_le _, fun p hp => hs₁ _ (.tail _ hp), fun p hp => Nat.ne_of_lt ((by assumption : ∀ p ∈ news, p.1 < _) p hp), by rw [hl0]; exact hT⟩ ?_ hE
  intro n m₁ news₂ h₂ tk₂ F₂ N₂ hJJ; obtain ⟨pre, suf, t₁, p, l, vs, k, acc, htext, hat, hfound, rfl, hsp, hml, hrs, hacc, hs, hne, hT⟩ := hJJ
  fail "gen"
  have hl := hsp.len
  cases hT with
  | stop =>
    have hl0 : ¬ ((pre.length : Int) < (x.length : Int)) := by simp only [List.length_nil] at hl; omega
    fail "go"
    try dsimp only
    refine append_mem (by assumption) (by assumption) (by fail "mem") (by rw [hrs.length]; simp only [List.length_map]; omega) (fun h₃ news₃ F₃ N₃ K₃ hl₃ => ?_)
    have hvs := hrs.length
    try dsimp only
    fail "go"
    try dsimp only
    have hl1 : pre.length = x.length := by simp only [List.length_nil] at hl; omega
    refine ret (.ret _) _ _ _ _ (by assumption) (by assumption) ⟨_, l, _, _, rfl, fun p hp => K₃ _ (.tail _ (hs _ hp)) (hne p hp), hne, rfl, hl₃, ?_, ?_⟩
    · exact tok_app (t := (.eof, (pre.length : Int))) (by assumption) (.tail _ hml) K₃ (hrs.sub (by fail "sub")) (by rw [hl1]; exact List.Mem.head _) (.str _ _)
    · simp only [List.length_append, List.length_cons, List.length_nil] at *; omega
  | num h0 h640 hfig hst hint hbl hT' =>
    rename_i n' nb run suf suf' kk
    obtain ⟨c, run, rfl⟩ : ∃ c r, run = c :: r := by
      cases run with
      | nil => exact absurd rfl h0
      | cons c r => exact ⟨c, r, rfl⟩
    have hl2 := hl
    rw [List.length_append, List.length_cons] at hl2
    have hl0 : ((pre.length : Int) < (x.length : Int)) := by omega
    have hf := hfig c (List.mem_cons_self ..)
    have hsp1 : Sp x pre (c :: (run ++ suf)) := hsp
    have hsp2 : Sp x (pre ++ (c :: run)) suf := Sp.move hsp
    fail "go"
    try dsimp only
    fail "gen"; refine' Tells.use ?tt2 B ?cf2 X ?cn2 T rfl ?cd2 ?cu2 ?ok2 ?er2; (case cf2 => assumption); (case cn2 => assumption); (case tt2 => exact is_figure_b w _ c _ true hf); (case cd2 => first | exact bud hdp (by decide) | exact bud hdp (by omega) | omega); (case cu2 => first | exact bud3 hun (by decide) | exact bud3 hun (by omega) | omega); (try (case er2 => exact fun _ _ _ _ _ _ _ _ _ h => h.elim))
    intro r news₃ h₃ tk₃ F₃ N₃ hJJ; obtain ⟨rfl, rfl⟩ := hJJ
    try dsimp only
    fail "go"
    try dsimp only
    fail "gen"; refine' Tells.use ?tt3 B ?cf3 X ?cn3 T rfl ?cd3 ?cu3 ?ok3 ?er3; (case cf3 => assumption); (case cn3 => assumption); (case tt3 => exact run_end_tells w _ x tq _ true pre (c :: run) suf hlen' hsp hfig (fun c s e => isNm_of_fig (hst c s e))); (case cd3 => first | exact bud hdp (by decide) | exact bud hdp (by omega) | omega); (case cu3 => first | exact bud3 hun (by decide) | exact bud3 hun (by omega) | omega); (try (case er3 => exact fun _ _ _ _ _ _ _ _ _ h => h.elim))
    intro r news₄ h₄ tk₄ F₄ N₄ hJJ; obtain ⟨hs₄, t₄, p₄, rfl, hp₄⟩ := hJJ
    rw [← List.length_append] at hp₄
    subst hp₄
    try dsimp only
    have hml₄ := hs₄ _ hml
    have hrs₄ := hrs.sub hs₄
    clear hml hrs
    cases hcs : suf with
    | nil =>
      subst hcs
      have hl3 : ¬ (((pre ++ c :: run).length : Int) < (x.length : Int)) := by simp only [List.length_append, List.length_cons, List.length_nil] at *; omega
      fail "go"
      try dsimp only
      rw [slice_sp (mid := c :: run) (suf := []) hsp rfl (by simp)]
      refine KIN.call_text hint (by simpa [Str.length] using h640) ?_
      try dsimp only
      fail "go"
      try dsimp only
      refine append_mem (by assumption) (by assumption) (by fail "mem") (by rw [hrs₄.length]; simp only [List.length_map]; omega) (fun h₆ news₆ F₆ N₆ K₆ hl₆ => ?_)
      have hrs₆ := tok_app (t := (.num kk, (pre.length : Int))) (by assumption) (.tail _ hml₄) K₆ (hrs₄.sub (by fail "sub")) (List.Mem.head _) (.int _ _)
      have hs₆ : ∀ p ∈ news, p ∈ news₆ := fun p hp => K₆ _ (.tail _ (hs₄ _ (hs _ hp))) (hne p hp)
      clear hml₄ hrs₄ K₆
      try dsimp only
      fail "go"
      try dsimp only
      have hsl : suf'.length ≤ ([] : List Nat).length := by
        obtain ⟨mid, hm⟩ := hbl.suffix
        have := congrArg List.length hm
        rw [List.length_append] at this
        omega
      fail "gen"; refine' Tells.use ?tt4 B ?cf4 X ?cn4 T rfl ?cd4 ?cu4 ?ok4 ?er4; (case cf4 => assumption); (case cn4 => assumption); (case tt4 => exact blank_end_p w _ x tq _ _ (pre ++ (c :: run)) ([] : List Nat) suf' nb hlen' hsp2 hbl (by first | rfl | (simp only [List.length_append, List.length_cons] at *; omega))); (case cd4 => first | exact bud hdp (by decide) | exact bud hdp (by omega) | omega); (case cu4 => first | exact bud3 hun (by decide) | exact bud3 hun (by omega) | omega); (try (case er4 => exact fun _ _ _ _ _ _ _ _ _ h => h.elim))
      intro r news₇ h₇ tk₇ F₇ N₇ hJJ; obtain ⟨hs₇, pre₇, t₇, rfl, hsp₇⟩ := hJJ
      have hl₇ := hsp₇.len
      have hl₈ := hsp2.len
      try dsimp only
      fail "go"
      try dsimp only
      refine (mkE5 ⟨rfl, by assumption, by assumption, Nat.lt_succ_self _, pre₇, suf', t₇, ((pre₇.length : Nat) : Int), l, _, _, _, ?_, ?_, ?_, rfl, hsp₇, hs₇ _ hl₆, hrs₆.sub hs₇, ?_, fun p hp => hs₇ _ (hs₆ p hp), hne, ?_⟩)
      · exact htext
      · exact rfl
      · exact hfound
      · simp only [List.length_append, List.length_cons, List.length_nil] at *; omega
      · rw [show pre₇.length = pre.length + (c :: run).length + (([] : List Nat).length - suf'.length) by simp only [List.length_append, List.length_cons] at *; omega]
        exact hT'
    | cons c2 s2 =>
      subst hcs
      have hl3 : (((pre ++ c :: run).length : Int) < (x.length : Int)) := by simp only [List.length_append, List.length_cons] at *; omega
      have hn2 := hst c2 s2 rfl
      fail "go"
      try dsimp only
      fail "gen"; refine' Tells.use ?tt5 B ?cf5 X ?cn5 T rfl ?cd5 ?cu5 ?ok5 ?er5; (case cf5 => assumption); (case cn5 => assumption); (case tt5 => exact is_name_b w _ c2 _ false hn2); (case cd5 => first | exact bud hdp (by decide) | exact bud hdp (by omega) | omega); (case cu5 => first | exact bud3 hun (by decide) | exact bud3 hun (by omega) | omega); (try (case er5 => exact fun _ _ _ _ _ _ _ _ _ h => h.elim))
      intro r news₅ h₅ tk₅ F₅ N₅ hJJ; obtain ⟨he₅, rfl⟩ := hJJ
      replace he₅ := he₅.symm
      subst he₅
      try dsimp only
      fail "go"
      try dsimp only
      rw [slice_sp (mid := c :: run) (suf := c2 :: s2) hsp rfl (by simp)]
      refine KIN.call_text hint (by simpa [Str.length] using h640) ?_
      try dsimp only
      fail "go"
      try dsimp only
      refine append_mem (by assumption) (by assumption) (by fail "mem") (by rw [hrs₄.length]; simp only [List.length_map]; omega) (fun h₆ news₆ F₆ N₆ K₆ hl₆ => ?_)
      have hrs₆ := tok_app (t := (.num kk, (pre.length : Int))) (by assumption) (.tail _ hml₄) K₆ (hrs₄.sub (by fail "sub")) (List.Mem.head _) (.int _ _)
      have hs₆ : ∀ p ∈ news, p ∈ news₆ := fun p hp => K₆ _ (.tail _ (hs₄ _ (hs _ hp))) (hne p hp)
      clear hml₄ hrs₄ K₆
      try dsimp only
      fail "go"
      try dsimp only
      have hsl : suf'.length ≤ (c2 :: s2).length := by
        obtain ⟨mid, hm⟩ := hbl.suffix
        have := congrArg List.length hm
        rw [List.length_append] at this
        omega
      fail "gen"; refine' Tells.use ?tt6 B ?cf6 X ?cn6 T rfl ?cd6 ?cu6 ?ok6 ?er6; (case cf6 => assumption); (case cn6 => assumption); (case tt6 => exact blank_end_p w _ x tq _ _ (pre ++ (c :: run)) (c2 :: s2) suf' nb hlen' hsp2 hbl (by first | rfl | (simp only [List.length_append, List.length_cons] at *; omega))); (case cd6 => first | exact bud hdp (by decide) | exact bud hdp (by omega) | omega); (case cu6 => first | exact bud3 hun (by decide) | exact bud3 hun (by omega) | omega); (try (case er6 => exact fun _ _ _ _ _ _ _ _ _ h => h.elim))
      intro r news₇ h₇ tk₇ F₇ N₇ hJJ; obtain ⟨hs₇, pre₇, t₇, rfl, hsp₇⟩ := hJJ
      have hl₇ := hsp₇.len
      have hl₈ := hsp2.len
      try dsimp only
      fail "go"
      try dsimp only
      refine (mkE5 ⟨rfl, by assumption, by assumption, Nat.lt_succ_self _, pre₇, suf', t₇, ((pre₇.length : Nat) : Int), l, _, _, _, ?_, ?_, ?_, rfl, hsp₇, hs₇ _ hl₆, hrs₆.sub hs₇, ?_, fun p hp => hs₇ _ (hs₆ p hp), hne, ?_⟩)
      · exact htext
      · exact rfl
      · exact hfound
      · simp only [List.length_append, List.length_cons, List.length_nil] at *; omega
      · rw [show pre₇.length = pre.length + (c :: run).length + ((c2 :: s2).length - suf'.length) by simp only [List.length_append, List.length_cons] at *; omega]
        exact hT'
  | numBad h0 hfig hf2 hn2 =>
    rename_i run c2 s2
    obtain ⟨c, run, rfl⟩ : ∃ c r, run = c :: r := by
      cases run with
      | nil => exact absurd rfl h0
      | cons c r => exact ⟨c, r, rfl⟩
    have hl2 := hl
    rw [List.length_append, List.length_cons, List.length_cons] at hl2
    have hl0 : ((pre.length : Int) < (x.length : Int)) := by omega
    have hf := hfig c (List.mem_cons_self ..)
    have hsp1 : Sp x pre (c :: (run ++ c2 :: s2)) := hsp
    have hsp2 : Sp x (pre ++ (c :: run)) (c2 :: s2) := Sp.move hsp
    fail "go"
    try dsimp only
    fail "gen"; refine' Tells.use ?tt7 B ?cf7 X ?cn7 T rfl ?cd7 ?cu7 ?ok7 ?er7; (case cf7 => assumption); (case cn7 => assumption); (case tt7 => exact is_figure_b w _ c _ true hf); (case cd7 => first | exact bud hdp (by decide) | exact bud hdp (by omega) | omega); (case cu7 => first | exact bud3 hun (by decide) | exact bud3 hun (by omega) | omega); (try (case er7 => exact fun _ _ _ _ _ _ _ _ _ h => h.elim))
    intro r news₃ h₃ tk₃ F₃ N₃ hJJ; obtain ⟨rfl, rfl⟩ := hJJ
    try dsimp only
    fail "go"
    try dsimp only
    fail "gen"; refine' Tells.use ?tt8 B ?cf8 X ?cn8 T rfl ?cd8 ?cu8 ?ok8 ?er8; (case cf8 => assumption); (case cn8 => assumption); (case tt8 => exact run_end_tells w _ x tq _ true pre (c :: run) (c2 :: s2) hlen' hsp hfig (fun c s e => by cases e; exact hf2)); (case cd8 => first | exact bud hdp (by decide) | exact bud hdp (by omega) | omega); (case cu8 => first | exact bud3 hun (by decide) | exact bud3 hun (by omega) | omega); (try (case er8 => exact fun _ _ _ _ _ _ _ _ _ h => h.elim))
    intro r news₄ h₄ tk₄ F₄ N₄ hJJ; obtain ⟨hs₄, t₄, p₄, rfl, hp₄⟩ := hJJ
    have hp₅ := hp₄
    rw [← List.length_append] at hp₄
    subst hp₄
    try dsimp only
    have hl3 : (((pre ++ c :: run).length : Int) < (x.length : Int)) := by simp only [List.length_append, List.length_cons] at *; omega
    fail "go"
    try dsimp only
    fail "gen"; refine' Tells.use ?tt9 B ?cf9 X ?cn9 T rfl ?cd9 ?cu9 ?ok9 ?er9; (case cf9 => assumption); (case cn9 => assumption); (case tt9 => exact is_name_b w _ c2 _ true hn2); (case cd9 => first | exact bud hdp (by decide) | exact bud hdp (by omega) | omega); (case cu9 => first | exact bud3 hun (by decide) | exact bud3 hun (by omega) | omega); (try (case er9 => exact fun _ _ _ _ _ _ _ _ _ h => h.elim))
    intro r news₅ h₅ tk₅ F₅ N₅ hJJ; obtain ⟨rfl, rfl⟩ := hJJ
    try dsimp only
    fail "go"
    try dsimp only
    refine exec_raise_pf rfl ?_
    fail "go"
    try dsimp only
    refine pf_new B (by assumption) X (by assumption) T rfl (by omega) (by omega) fun e t1 dx' odx news₈ h₈ tk₈ F₈ N₈ hne₈ hdx' hat' hsub => ?_
    try dsimp only
    fail "go"
    try dsimp only
    exact .of ((pf_cls w X).keeps F₈.keep) (N₈ _ (.head _)).1 (rs _ _ _ _ _ _ _ _ _ F₈ N₈ hne₈ hdx' hat' ⟨congrArg TRes.fail (by simp [List.length_append]), fun p hp => hsub p (hs₄ _ (hs _ hp))⟩)
  | name hf hn hrun hst hbl hT' =>
    rename_i n' nb c run suf suf'
    have hl2 := hl
    simp only [List.cons_append, List.length_append, List.length_cons] at hl2
    have hl0 : ((pre.length : Int) < (x.length : Int)) := by omega
    have hsp1 : Sp x pre (c :: (run ++ suf)) := hsp
    have hsp3 : Sp x pre ((c :: run) ++ suf) := hsp
    have hsp2 : Sp x (pre ++ (c :: run)) suf := Sp.move hsp3
    fail "go"
    try dsimp only
    fail "gen"; refine' Tells.use ?tt10 B ?cf10 X ?cn10 T rfl ?cd10 ?cu10 ?ok10 ?er10; (case cf10 => assumption); (case cn10 => assumption); (case tt10 => exact is_figure_b w _ c _ false hf); (case cd10 => first | exact bud hdp (by decide) | exact bud hdp (by omega) | omega); (case cu10 => first | exact bud3 hun (by decide) | exact bud3 hun (by omega) | omega); (try (case er10 => exact fun _ _ _ _ _ _ _ _ _ h => h.elim))
    intro r news₃ h₃ tk₃ F₃ N₃ hJJ; obtain ⟨rfl, rfl⟩ := hJJ
    try dsimp only
    fail "go"
    try dsimp only
    fail "gen"; refine' Tells.use ?tt11 B ?cf11 X ?cn11 T rfl ?cd11 ?cu11 ?ok11 ?er11; (case cf11 => assumption); (case cn11 => assumption); (case tt11 => exact is_name_b w _ c _ true hn); (case cd11 => first | exact bud hdp (by decide) | exact bud hdp (by omega) | omega); (case cu11 => first | exact bud3 hun (by decide) | exact bud3 hun (by omega) | omega); (try (case er11 => exact fun _ _ _ _ _ _ _ _ _ h => h.elim))
    intro r news₃ h₃ tk₃ F₃ N₃ hJJ; obtain ⟨rfl, rfl⟩ := hJJ
    try dsimp only
    fail "go"
    try dsimp only
    fail "gen"; refine' Tells.use ?tt12 B ?cf12 X ?cn12 T rfl ?cd12 ?cu12 ?ok12 ?er12; (case cf12 => assumption); (case cn12 => assumption); (case tt12 => exact run_end_tells w _ x tq _ false pre (c :: run) suf hlen' hsp3 (fun d hd => (List.mem_cons.mp hd).elim (fun e => e ▸ hn) (hrun d)) (fun c s e => hst c s e)); (case cd12 => first | exact bud hdp (by decide) | exact bud hdp (by omega) | omega); (case cu12 => first | exact bud3 hun (by decide) | exact bud3 hun (by omega) | omega); (try (case er12 => exact fun _ _ _ _ _ _ _ _ _ h => h.elim))
    intro r news₄ h₄ tk₄ F₄ N₄ hJJ; obtain ⟨hs₄, t₄, p₄, rfl, hp₄⟩ := hJJ
    rw [← List.length_append] at hp₄
    subst hp₄
    try dsimp only
    have hml₄ := hs₄ _ hml
    have hrs₄ := hrs.sub hs₄
    clear hml hrs
    fail "go"
    try dsimp only
    have hslice := slice_sp (mid := c :: run) (suf := suf) (i := (pre.length : Int)) (j := (((pre ++ c :: run).length : Nat) : Int)) hsp3 rfl (by simp)
    refine append_mem (by assumption) (by assumption) (by fail "mem") (by rw [hrs₄.length]; simp only [List.length_map]; omega) (fun h₆ news₆ F₆ N₆ K₆ hl₆ => ?_)
    have hrs₆ := tok_app (t := (.name ⟨(c :: run).toArray⟩, (pre.length : Int))) (by assumption) (.tail _ hml₄) K₆ (hrs₄.sub (by fail "sub")) (List.Mem.head _) (rd_str_eq hslice)
    have hs₆ : ∀ p ∈ news, p ∈ news₆ := fun p hp => K₆ _ (.tail _ (hs₄ _ (hs _ hp))) (hne p hp)
    clear hml₄ hrs₄ K₆
    try dsimp only
    fail "go"
    try dsimp only
    have hsl : suf'.length ≤ suf.length := by
      obtain ⟨mid, hm⟩ := hbl.suffix
      have := congrArg List.length hm
      rw [List.length_append] at this
      omega
    fail "gen"; refine' Tells.use ?tt13 B ?cf13 X ?cn13 T rfl ?cd13 ?cu13 ?ok13 ?er13; (case cf13 => assumption); (case cn13 => assumption); (case tt13 => exact blank_end_p w _ x tq _ _ (pre ++ (c :: run)) suf suf' nb hlen' hsp2 hbl (by first | rfl | (simp only [List.length_append, List.length_cons] at *; omega))); (case cd13 => first | exact bud hdp (by decide) | exact bud hdp (by omega) | omega); (case cu13 => first | exact bud3 hun (by decide) | exact bud3 hun (by omega) | omega); (try (case er13 => exact fun _ _ _ _ _ _ _ _ _ h => h.elim))
    intro r news₇ h₇ tk₇ F₇ N₇ hJJ; obtain ⟨hs₇, pre₇, t₇, rfl, hsp₇⟩ := hJJ
    have hl₇ := hsp₇.len
    have hl₈ := hsp2.len
    try dsimp only
    fail "go"
    try dsimp only
    refine (mkE5 ⟨rfl, by assumption, by assumption, Nat.lt_succ_self _, pre₇, suf', t₇, ((pre₇.length : Nat) : Int), l, _, _, _, ?_, ?_, ?_, rfl, hsp₇, hs₇ _ hl₆, hrs₆.sub hs₇, ?_, fun p hp => hs₇ _ (hs₆ p hp), hne, ?_⟩)
    · exact htext
    · exact rfl
    · exact hfound
    · simp only [List.length_append, List.length_cons, List.length_nil] at *; omega
    · rw [show pre₇.length = pre.length + (run.length + 1) + (suf.length - suf'.length) by simp only [List.length_append, List.length_cons] at *; omega]
      exact hT'
  | sign hf hn hz hz0 hzs hbl hT' =>
    rename_i n' nb c s0 z suf suf'
    have hl2 := hl
    rw [List.length_cons] at hl2
    have hl0 : ((pre.length : Int) < (x.length : Int)) := by omega
    have hsp3 : Sp x pre (z.cps.toList ++ suf) := by rw [hzs]; exact hsp
    have hsp2 : Sp x (pre ++ z.cps.toList) suf := Sp.move hsp3
    have hzl : z.cps.toList.length = z.length := by simp [Str.length]
    have hz1 : 1 ≤ z.length := by
      rcases Nat.eq_zero_or_pos z.length with h | h
      · exfalso
        apply hz0
        obtain ⟨⟨zl⟩⟩ := z
        cases zl with
        | nil => rfl
        | cons _ _ => simp [Str.length] at h
      · exact h
    fail "go"
    try dsimp only
    fail "gen"; refine' Tells.use ?tt14 B ?cf14 X ?cn14 T rfl ?cd14 ?cu14 ?ok14 ?er14; (case cf14 => assumption); (case cn14 => assumption); (case tt14 => exact is_figure_b w _ c _ false hf); (case cd14 => first | exact bud hdp (by decide) | exact bud hdp (by omega) | omega); (case cu14 => first | exact bud3 hun (by decide) | exact bud3 hun (by omega) | omega); (try (case er14 => exact fun _ _ _ _ _ _ _ _ _ h => h.elim))
    intro r news₃ h₃ tk₃ F₃ N₃ hJJ; obtain ⟨rfl, rfl⟩ := hJJ
    try dsimp only
    fail "go"
    try dsimp only
    fail "gen"; refine' Tells.use ?tt15 B ?cf15 X ?cn15 T rfl ?cd15 ?cu15 ?ok15 ?er15; (case cf15 => assumption); (case cn15 => assumption); (case tt15 => exact is_name_b w _ c _ false hn); (case cd15 => first | exact bud hdp (by decide) | exact bud hdp (by omega) | omega); (case cu15 => first | exact bud3 hun (by decide) | exact bud3 hun (by omega) | omega); (try (case er15 => exact fun _ _ _ _ _ _ _ _ _ h => h.elim))
    intro r news₃ h₃ tk₃ F₃ N₃ hJJ; obtain ⟨rfl, rfl⟩ := hJJ
    try dsimp only
    fail "go"
    try dsimp only
    fail "gen"; refine' Tells.use ?tt16 B ?cf16 X ?cn16 T rfl ?cd16 ?cu16 ?ok16 ?er16; (case cf16 => assumption); (case cn16 => assumption); (case tt16 => exact longest_tells w _ x tq _ pre (c :: s0) hlen' hsp); (case cd16 => first | exact bud hdp (by decide) | exact bud hdp (by omega) | omega); (case cu16 => first | exact bud3 hun (by decide) | exact bud3 hun (by omega) | omega); (try (case er16 => exact fun _ _ _ _ _ _ _ _ _ h => h.elim))
    intro r news₄ h₄ tk₄ F₄ N₄ hJJ; obtain ⟨hs₄, t₄, rfl⟩ := hJJ
    rw [hz]
    try dsimp only
    have hml₄ := hs₄ _ hml
    have hrs₄ := hrs.sub hs₄
    clear hml hrs
    have hz0' : (z == Str.ofString "") = false := beq_eq_false_iff_ne.mpr hz0
    have hzl' : z.length ≤ 2 ^ 20 := by
      have := hsp3.len
      rw [List.length_append] at this
      omega
    fail "go"
    try dsimp only
    refine append_mem (by assumption) (by assumption) (by fail "mem") (by rw [hrs₄.length]; simp only [List.length_map]; omega) (fun h₆ news₆ F₆ N₆ K₆ hl₆ => ?_)
    have hrs₆ := tok_app (t := (.sign z, (pre.length : Int))) (by assumption) (.tail _ hml₄) K₆ (hrs₄.sub (by fail "sub")) (List.Mem.head _) (.str _ _)
    have hs₆ : ∀ p ∈ news, p ∈ news₆ := fun p hp => K₆ _ (.tail _ (hs₄ _ (hs _ hp))) (hne p hp)
    clear hml₄ hrs₄ K₆
    try dsimp only
    fail "go"
    try dsimp only
    have hsl : suf'.length ≤ suf.length := by
      obtain ⟨mid, hm⟩ := hbl.suffix
      have := congrArg List.length hm
      rw [List.length_append] at this
      omega
    fail "gen"; refine' Tells.use ?tt17 B ?cf17 X ?cn17 T rfl ?cd17 ?cu17 ?ok17 ?er17; (case cf17 => assumption); (case cn17 => assumption); (case tt17 => exact blank_end_p w _ x tq _ _ (pre ++ z.cps.toList) suf suf' nb hlen' hsp2 hbl (by first | rfl | (simp only [List.length_append, List.length_cons] at *; omega))); (case cd17 => first | exact bud hdp (by decide) | exact bud hdp (by omega) | omega); (case cu17 => first | exact bud3 hun (by decide) | exact bud3 hun (by omega) | omega); (try (case er17 => exact fun _ _ _ _ _ _ _ _ _ h => h.elim))
    intro r news₇ h₇ tk₇ F₇ N₇ hJJ; obtain ⟨hs₇, pre₇, t₇, rfl, hsp₇⟩ := hJJ
    have hl₇ := hsp₇.len
    have hl₈ := hsp2.len
    try dsimp only
    fail "go"
    try dsimp only
    refine (mkE5 ⟨rfl, by assumption, by assumption, Nat.lt_succ_self _, pre₇, suf', t₇, ((pre₇.length : Nat) : Int), l, _, _, _, ?_, ?_, ?_, rfl, hsp₇, hs₇ _ hl₆, hrs₆.sub hs₇, ?_, fun p hp => hs₇ _ (hs₆ p hp), hne, ?_⟩)
    · exact htext
    · exact rfl
    · exact hfound
    · simp only [List.length_append, List.length_cons, List.length_nil] at *; omega
    · rw [show pre₇.length = pre.length + z.length + (suf.length - suf'.length) by simp only [List.length_append, List.length_cons] at *; omega]
      exact hT'
  | signBad hf hn hz =>
    rename_i c s0
    have hl2 := hl
    rw [List.length_cons] at hl2
    have hl0 : ((pre.length : Int) < (x.length : Int)) := by omega
    fail "go"
    try dsimp only
    fail "gen"; refine' Tells.use ?tt18 B ?cf18 X ?cn18 T rfl ?cd18 ?cu18 ?ok18 ?er18; (case cf18 => assumption); (case cn18 => assumption); (case tt18 => exact is_figure_b w _ c _ false hf); (case cd18 => first | exact bud hdp (by decide) | exact bud hdp (by omega) | omega); (case cu18 => first | exact bud3 hun (by decide) | exact bud3 hun (by omega) | omega); (try (case er18 => exact fun _ _ _ _ _ _ _ _ _ h => h.elim))
    intro r news₃ h₃ tk₃ F₃ N₃ hJJ; obtain ⟨rfl, rfl⟩ := hJJ
    try dsimp only
    fail "go"
    try dsimp only
    fail "gen"; refine' Tells.use ?tt19 B ?cf19 X ?cn19 T rfl ?cd19 ?cu19 ?ok19 ?er19; (case cf19 => assumption); (case cn19 => assumption); (case tt19 => exact is_name_b w _ c _ false hn); (case cd19 => first | exact bud hdp (by decide) | exact bud hdp (by omega) | omega); (case cu19 => first | exact bud3 hun (by decide) | exact bud3 hun (by omega) | omega); (try (case er19 => exact fun _ _ _ _ _ _ _ _ _ h => h.elim))
    intro r news₃ h₃ tk₃ F₃ N₃ hJJ; obtain ⟨rfl, rfl⟩ := hJJ
    try dsimp only
    fail "go"
    try dsimp only
    fail "gen"; refine' Tells.use ?tt20 B ?cf20 X ?cn20 T rfl ?cd20 ?cu20 ?ok20 ?er20; (case cf20 => assumption); (case cn20 => assumption); (case tt20 => exact longest_tells w _ x tq _ pre (c :: s0) hlen' hsp); (case cd20 => first | exact bud hdp (by decide) | exact bud hdp (by omega) | omega); (case cu20 => first | exact bud3 hun (by decide) | exact bud3 hun (by omega) | omega); (try (case er20 => exact fun _ _ _ _ _ _ _ _ _ h => h.elim))
    intro r news₄ h₄ tk₄ F₄ N₄ hJJ; obtain ⟨hs₄, t₄, rfl⟩ := hJJ
    rw [hz]
    try dsimp only
    fail "go"
    try dsimp only
    refine exec_raise_pf rfl ?_
    fail "go"
    try dsimp only
    refine pf_new B (by assumption) X (by assumption) T rfl (by omega) (by omega) fun e t1 dx' odx news₈ h₈ tk₈ F₈ N₈ hne₈ hdx' hat' hsub => ?_
    try dsimp only
    fail "go"
    try dsimp only
    exact .of ((pf_cls w X).keeps F₈.keep) (N₈ _ (.head _)).1 (rs _ _ _ _ _ _ _ _ _ F₈ N₈ hne₈ hdx' hat' ⟨rfl, fun p hp => hsub p (hs₄ _ (hs _ hp))⟩)
end

-- C16
section
inductive ReadR (x : Str) : Res → Prop
  | tokBad {n n0 suf0 a} : BlankS n0 x.cps.toList suf0 → LTok n [] (x.length - suf0.length) suf0 (.fail a) → ReadR x (.fail a)
  | bad {n n0 suf0 toks k a} : BlankS n0 x.cps.toList suf0 → LTok n [] (x.length - suf0.length) suf0 (.ok toks) → k ≤ 200 → Par k .eq toks (.fail a) → ReadR x (.fail a)
  | behind {n n0 suf0 toks k d t ts} : BlankS n0 x.cps.toList suf0 → LTok n [] (x.length - suf0.length) suf0 (.ok toks) → k ≤ 200 → Par k .eq toks (.ok d (t :: ts)) → t.1.kind ≠ "end" → ReadR x (.fail t.2)
  | ok {n n0 suf0 toks k d t ts} : BlankS n0 x.cps.toList suf0 → LTok n [] (x.length - suf0.length) suf0 (.ok toks) → k ≤ 200 → Par k .eq toks (.ok d (t :: ts)) → t.1.kind = "end" → ReadR x (.ok d [])
theorem read_tells (w : World) (news : Led) (x : Str) (t : Tok) (res : Res) (hlen : x.length < 2 ^ 20) (hR : ReadR x res) :
   Tells w 310 220 1000 news [.str x t] (fun news' r => ∃ d, res = .ok d [] ∧ (∀ p ∈ news, p ∈ news') ∧ Rd news' r d) (fun news' a => res = .fail a ∧ ∀ p ∈ news, p ∈ news') := by
  k_dflt (refine' enter [(Str.ofString "text", .str x t)] ?k6 ?k7 ?k8 ?k9 ?c1 ?c2 ?c3 ?c4 (by decide) (by decide) ?_; ((case k6 => k_is); (case k7 => k_is); (case k8 => exact rfl); (case k9 => exact rfl); (case c1 => exact rfl); (case c2 => exact rfl); (case c3 => exact rfl); (case c4 => decide)))
  intro dp un gd outer mean mg mb A₀ base g L s Q E B F X N T lv hdp hun ret er hE
  fail "go"
  try dsimp only
  have both : (∃ n n0 suf0 a, BlankS n0 x.cps.toList suf0 ∧ LTok n [] (x.length - suf0.length) suf0 (.fail a) ∧ res = .fail a) ∨ ∃ n n0 suf0 toks k pr, BlankS n0 x.cps.toList suf0 ∧ LTok n [] (x.length - suf0.length) suf0 (.ok toks) ∧ k ≤ 200 ∧ Par k .eq toks pr ∧ ((∃ a, pr = .fail a ∧ res = .fail a) ∨ (∃ d t ts, pr = .ok d (t :: ts) ∧ ((t.1.kind ≠ "end" ∧ res = .fail t.2) ∨ (t.1.kind = "end" ∧ res = .ok d [])))) := by
    cases hR with
    | tokBad a b => exact .inl ⟨_, _, _, _, a, b, rfl⟩
    | bad a b c d => exact .inr ⟨_, _, _, _, _, _, a, b, c, d, .inl ⟨_, rfl, rfl⟩⟩
    | behind a b c d e => exact .inr ⟨_, _, _, _, _, _, a, b, c, d, .inr ⟨_, _, _, rfl, .inl ⟨e, rfl⟩⟩⟩
    | ok a b c d e => exact .inr ⟨_, _, _, _, _, _, a, b, c, d, .inr ⟨_, _, _, rfl, .inr ⟨e, rfl⟩⟩⟩
  rcases both with ⟨n, n0, suf0, a, hb, hT, rfl⟩ | ⟨n, n0, suf0, toks, k, pr, hb, hT, hk, hP, hpr⟩
  · fail "gen"; refine' Tells.use ?tt1 B ?cf1 X ?cn1 T rfl ?cd1 ?cu1 ?ok1 ?er1; (case cf1 => assumption); (case cn1 => assumption); (case tt1 => exact tokens_tells w _ x _ suf0 n n0 _ hlen hb hT); (case cd1 => first | exact bud hdp (by decide) | exact bud hdp (by omega) | omega); (case cu1 => first | exact bud3 hun (by decide) | exact bud3 hun (by omega) | omega); (try (case er1 => exact fun _ _ _ _ _ _ _ _ _ h => h.elim))
    · intro r news₁ h₁ tk₁ F₁ N₁ hJJ; obtain ⟨_, _, _, _, he, _⟩ := hJJ; cases he
    · intro e at_ g₂ news₁ h₁ tk₁ F₁ U R hJJ; obtain ⟨he, hs⟩ := hJJ
      cases he
      try dsimp only
      exact er _ _ _ _ _ _ _ F₁ U R ⟨rfl, hs⟩
  · fail "gen"; refine' Tells.use ?tt2 B ?cf2 X ?cn2 T rfl ?cd2 ?cu2 ?ok2 ?er2; (case cf2 => assumption); (case cn2 => assumption); (case tt2 => exact tokens_tells w _ x _ suf0 n n0 _ hlen hb hT); (case cd2 => first | exact bud hdp (by decide) | exact bud hdp (by omega) | omega); (case cu2 => first | exact bud3 hun (by decide) | exact bud3 hun (by omega) | omega); (try (case er2 => exact fun _ _ _ _ _ _ _ _ _ h => h.elim))
    rotate_left
    · intro e at_ g₂ news₁ h₁ tk₁ F₁ U R hJJ; obtain ⟨he, _⟩ := hJJ; cases he
    intro r news₁ h₁ tk₁ F₁ N₁ hJJ; obtain ⟨toks', l, vs, k', he, hs₁, hne₁, rfl, hl, hrs, htl⟩ := hJJ
    cases he
    try dsimp only
    fail "go"
    try dsimp only
    refine reader_new hl hrs htl B (by assumption) X (by assumption) T rfl (by omega) (by omega) fun rx dx news₂ h₂ tk₂ F₂ N₂ hs₂ hne₂ R₂ => ?_
    try dsimp only
    obtain ⟨ih1, ih2, it1, it2, iv1, iv2, inn, ihx, ihd⟩ := R₂.inst
    fail "go"
    try dsimp only
    have PA := (par_all w k).1 _ _ hP _ rx dx l R₂
    rcases hpr with ⟨a, rfl, rfl⟩ | ⟨d, tkn, ts, rfl, hend⟩
    · fail "gen"; refine' Tells.use ?tt3 B ?cf3 X ?cn3 T rfl ?cd3 ?cu3 ?ok3 ?er3; (case cf3 => assumption); (case cn3 => assumption); (case tt3 => exact PA); (case cd3 => first | exact bud hdp (by decide) | exact bud hdp (by omega) | omega); (case cu3 => first | exact bud3 hun (by decide) | exact bud3 hun (by omega) | omega); (try (case er3 => exact fun _ _ _ _ _ _ _ _ _ h => h.elim))
      · intro r news₁ h₁ tk₁ F₁ N₁ hJJ; obtain ⟨_, _, he, _⟩ := hJJ; cases he
      · intro e at_ g₂ news₃ h₃ tk₃ F₃ U R hJJ; obtain ⟨he, K₃⟩ := hJJ
        cases he
        try dsimp only
        exact er _ _ _ _ _ _ _ F₃ U R ⟨rfl, fun p hp => K₃ _ (hs₂ _ (hs₁ _ hp)) (hne₂ _ (hs₁ _ hp))⟩
    · fail "gen"; refine' Tells.use ?tt4 B ?cf4 X ?cn4 T rfl ?cd4 ?cu4 ?ok4 ?er4; (case cf4 => assumption); (case cn4 => assumption); (case tt4 => exact PA); (case cd4 => first | exact bud hdp (by decide) | exact bud hdp (by omega) | omega); (case cu4 => first | exact bud3 hun (by decide) | exact bud3 hun (by omega) | omega); (try (case er4 => exact fun _ _ _ _ _ _ _ _ _ h => h.elim))
      rotate_left
      · intro e at_ g₂ news₁ h₁ tk₁ F₁ U R hJJ; obtain ⟨he, _⟩ := hJJ; cases he
      intro r news₃ h₃ tk₃ F₃ N₃ hJJ; obtain ⟨d', ts', he, K₃, R₃, hr₃⟩ := hJJ
      cases he
      have hs₃ : ∀ p ∈ news, p ∈ news₃ := fun p hp => K₃ _ (hs₂ _ (hs₁ _ hp)) (hne₂ _ (hs₁ _ hp))
      clear ihx ihd
      obtain ⟨ih1, ih2, it1, it2, iv1, iv2, inn, ihx, ihd⟩ := R₃.inst
      try dsimp only
      fail "go"
      try dsimp only
      rcases hend with ⟨hkind, rfl⟩ | ⟨hkind, rfl⟩
      · have hkb : (Str.ofString tkn.1.kind == Str.ofString "end") = false := by
          obtain ⟨tkn, p⟩ := tkn
          cases tkn with
          | eof => exact absurd rfl hkind
          | _ => show (Str.ofString _ == _) = false; simp only [Tk.kind]; decide
        have hkn : (Str.ofString tkn.1.kind != Str.ofString "end") = true := by unfold bne; rw [hkb]; rfl
        fail "gen"; refine' Tells.use ?tt5 B ?cf5 X ?cn5 T rfl ?cd5 ?cu5 ?ok5 ?er5; (case cf5 => assumption); (case cn5 => assumption); (case tt5 => exact kind_tells w _ rx dx l _ _ R₃); (case cd5 => first | exact bud hdp (by decide) | exact bud hdp (by omega) | omega); (case cu5 => first | exact bud3 hun (by decide) | exact bud3 hun (by omega) | omega); (try (case er5 => exact fun _ _ _ _ _ _ _ _ _ h => h.elim))
        intro r news₄ h₄ tk₄ F₄ N₄ hJJ; obtain ⟨he₄, t₄, rfl⟩ := hJJ
        replace he₄ := he₄.symm
        subst he₄
        try dsimp only
        fail "go"
        try dsimp only
        fail "gen"; refine' Tells.use ?tt6 B ?cf6 X ?cn6 T rfl ?cd6 ?cu6 ?ok6 ?er6; (case cf6 => assumption); (case cn6 => assumption); (case tt6 => exact fail_tells w _ rx dx l _ _ _ _ R₃); (case cd6 => first | exact bud hdp (by decide) | exact bud hdp (by omega) | omega); (case cu6 => first | exact bud3 hun (by decide) | exact bud3 hun (by omega) | omega); (try (case er6 => exact fun _ _ _ _ _ _ _ _ _ h => h.elim))
        · rintro r news₅ h₅ tk₅ F₅ N₅ h; exact h.elim
        · intro e at_ g₂ news₅ h₅ tk₅ F₅ U R hJJ; obtain ⟨K₅, rfl⟩ := hJJ
          try dsimp only
          exact er _ _ _ _ _ _ _ F₅ U R ⟨rfl, fun p hp => K₅ _ (hs₃ _ hp) (fun e => hne₂ _ (hs₁ _ hp) e)⟩
      · have hkb : (Str.ofString tkn.1.kind == Str.ofString "end") = true := by rw [hkind]; exact beq_self_eq_true _
        have hkn : (Str.ofString tkn.1.kind != Str.ofString "end") = false := by unfold bne; rw [hkb]; rfl
        fail "gen"; refine' Tells.use ?tt7 B ?cf7 X ?cn7 T rfl ?cd7 ?cu7 ?ok7 ?er7; (case cf7 => assumption); (case cn7 => assumption); (case tt7 => exact kind_tells w _ rx dx l _ _ R₃); (case cd7 => first | exact bud hdp (by decide) | exact bud hdp (by omega) | omega); (case cu7 => first | exact bud3 hun (by decide) | exact bud3 hun (by omega) | omega); (try (case er7 => exact fun _ _ _ _ _ _ _ _ _ h => h.elim))
        intro r news₄ h₄ tk₄ F₄ N₄ hJJ; obtain ⟨he₄, t₄, rfl⟩ := hJJ
        replace he₄ := he₄.symm
        subst he₄
        try dsimp only
        fail "go"
        try dsimp only
        exact ret (.ret _) _ _ _ _ (by assumption) (by assumption) (⟨_, rfl, hs₃, hr₃⟩)
end

-- L10
section
theorem Raised.sub {base G h : Heap} {l : List Env} {news news' : Led} {at_ : Int} {e : Addr} (R : Raised base G l news' at_ e h) (hs : ∀ p ∈ news, p ∈ news') : Raised base G l news at_ e h := by
  obtain ⟨B, dx, odx, h1, h2, h3, r⟩ := R
  exact ⟨B, dx, odx, h1, h2, fun q hq => h3 q (hs q hq), r⟩
theorem refused_call (w : World) (news : Led) (x : Str) (t : Tok) (res : Res) (hlen : x.length < 2 ^ 20) (hR : ReadR x res) {dp un : Nat} {gd : Option (List Code)} {cn : Str} {cs : Scope} {a : Addr} {ccd : Value} {mean : ExcName → Option Value} {mg mb : Str → Option Value}
    {A₀ : Around} {base h₀ : Heap} {L : Addr} {m : Str → Option Value} {s : Shared} {Q E : Value → Shared → Prop}
    (B : Below A₀ base [] h₀) (F : Fr h₀ L s.heap m) (X : (hd.heap_1 w.params).In h₀) (N : News h₀ L s.heap news)
    (T : Top hd.view_39 (looseW hd.view_39 [Str.ofString "TEXT_SIGNS"]) mean mg mb h₀) (hck : cs.kind = .function)
    (XB : (hd.heap_1 w.params).In base) (TB : Top hd.view_39 (looseW hd.view_39 [Str.ofString "TEXT_SIGNS"]) mean mg mb base)
    (hdp : dp + 240 < recursionLimit) (hun : un + 1100 < cLine)
    (ok : ∀ r news' h' tk', Fr h₀ L h' m → News h₀ L h' news' → (∀ p ∈ news, p ∈ news') → (∃ t, r = .int (match res with | .ok _ _ => -1 | .fail a => a) t) → Q r { s with heap := h', toks := tk' }) :
    wpAny (model PySem.Challenge.rw_nn0269_01.row.prog w) (ktrTop dp un gd cn cs L a ccd [] []) (call (.ref 380) [.str x t]) Q E s := by
  refine wpAny_call ?_
  k_dflt (refine' code_defS0 (binds := [(Str.ofString "text", .str x t)]) B F X N T rfl ?k6 ?k7 ?k8 ?k9 ?kB ?body hck ?c1 ?c2 ?c3 ?c4; (case k6 => k_is); (case k7 => k_is); (case k8 => (show dp < recursionLimit; omega)); (case k9 => exact BindsTo.of_eq rfl); (case kB => exact locs rfl); (case c1 => exact rfl); (case c2 => exact rfl); (case c3 => exact rfl); (case c4 => decide))
  intro g L' h₁ FG F' N' B' X' T' D'
  show wpAny _ (ktrTop (dp + 1) (un + 3) gd _ _ L' 380 _ [] [envX cn cs L a ccd []]) _ _ _ _
  fail "go"
  try dsimp only
  refine' Tells.use ?tt1 B' ?cf1 X' ?cn1 T' rfl ?cd1 ?cu1 ?ok1 ?er1
  case tt1 => exact read_tells w news x _ res hlen hR
  case cf1 => assumption
  case cn1 => assumption
  case cd1 => omega
  case cu1 => omega
  case ok1 =>
    intro r news₂ h₂ tk₂ F₂ N₂ hJJ; obtain ⟨d, rfl, hs₂, hr₂⟩ := hJJ
    try dsimp only
    fail "go"
    try dsimp only
    exact ok _ news₂ _ _ (by assumption) (by assumption) hs₂ ⟨_, rfl⟩
  case er1 =>
    intro e at_ g₂ news₂ h₂ tk₂ F₂ U R hJJ; obtain ⟨rfl, hs₂⟩ := hJJ
    try dsimp only
    refine catch_pf (w := w) (R.sub hs₂) F₂ B' U XB TB ?ex ?k
    case ex => k_is
    case k =>
      intro h₃ g₃ dx odx oe vs tk₃ T₁ F₃ N₃ c1 c2 c3 hdx hat hne B₃ X₃ T₃
      fail "go"
      try dsimp only
      refine pf_getat (X₃.keeps F₃.keep) (N₃ _ (.head _)).1 c1 c2 c3 hdx hat fun t' => ?_
      try dsimp only
      fail "go"
      try dsimp only
      exact ok _ ((e, oe) :: news) _ _ (by assumption) (by assumption) (fun p hp => .tail _ hp) ⟨_, rfl⟩
end

-- P1
section
structure U where
  sg : String
  ah : Bool
  t : List String
  d : PyData
  fx : Bool
def U.dd (u : U) : PyData := if u.fx then dFac u.d else u.d
def U.core (u : U) : List LIt := (if u.ah then [.ahead] else []) ++ [.term u.dd]
def U.tx (u : U) : List String := (if u.ah then ["-"] else []) ++ (u.t ++ (if u.fx then ["!"] else []))
def flatI : List U → List LIt
  | [] => []
  | u :: us => .sign (sgOf u.sg) :: (u.core ++ flatI us)
def flatT : List U → List String
  | [] => []
  | u :: us => u.sg :: (u.tx ++ flatT us)
theorem flatI_append : ∀ us vs : List U, flatI (us ++ vs) = flatI us ++ flatI vs
  | [], _ => rfl
  | u :: us, vs => by simp [flatI, flatI_append us vs]
theorem flatT_append : ∀ us vs : List U, flatT (us ++ vs) = flatT us ++ flatT vs
  | [], _ => rfl
  | u :: us, vs => by simp [flatT, flatT_append us vs]

theorem unit_us {O : List String → PyData → Prop} {its txs} (s : String) (h : UnitP O its txs) : ∃ u : U, u.sg = s ∧ O u.t u.d ∧ its = u.core ∧ txs = u.tx := by
  cases h with
  | mk ah mk h => exact ⟨⟨s, ah, _, _, mk⟩, rfl, h, rfl, rfl⟩
theorem units_us {O : List String → PyData → Prop} {n its txs} (h : UnitsP O n its txs) : n = 0 ∨ ∃ (u : U) (us : List U), us.length + 1 = n ∧ (∀ v ∈ u :: us, O v.t v.d) ∧ (∀ v ∈ us, v.sg ∈ opL) ∧ its = u.core ++ flatI us ∧ txs = u.tx ++ flatT us := by
  induction h with
  | zero => exact .inl rfl
  | one h =>
    obtain ⟨u, _, h1, h2, h3⟩ := unit_us "" h
    exact .inr ⟨u, [], rfl, by simpa using h1, by simp, by simp [flatI, h2], by simp [flatT, h3]⟩
  | @more n its txs s its' txs' h hs hU ih =>
    rcases ih with ih | ⟨u, us, h1, h2, h3, h4, h5⟩
    · omega
    obtain ⟨v, g1, g2, g3, g4⟩ := unit_us s hU
    refine .inr ⟨u, us ++ [v], by simp [h1], ?_, ?_, ?_, ?_⟩
    · intro x hx
      simp only [List.mem_cons, List.mem_append, List.not_mem_nil, or_false] at hx
      rcases hx with rfl | hx | rfl
      · exact h2 _ (by simp)
      · exact h2 _ (by simp [hx])
      · exact g2
    · intro x hx
      simp only [List.mem_append, List.mem_singleton] at hx
      rcases hx with hx | rfl
      · exact h3 x hx
      · rw [g1]; exact hs
    · rw [h4, g3, flatI_append, List.append_assoc, ← g1]; simp [flatI]
    · rw [h5, g4, flatT_append, List.append_assoc, ← g1]; simp [flatT]

def splitU (p : String → Bool) : List U → List U × List (U × List U)
  | [] => ([], [])
  | u :: us => if p u.sg then ([], (u, (splitU p us).1) :: (splitU p us).2) else (u :: (splitU p us).1, (splitU p us).2)
def segI (s : U × List U) : List LIt := s.1.core ++ flatI s.2
theorem split_core (p : Str → Bool) (u : U) (dn : List (List LIt)) (cur : List LIt) (bt : List Str) (r : List LIt) : splitGo p dn cur bt (u.core ++ r) = splitGo p dn (cur ++ u.core) bt r := by
  unfold U.core
  cases u.ah <;> simp [splitGo]
theorem split_flat (p' : Str → Bool) (p : String → Bool) : ∀ (us : List U), (∀ v ∈ us, p' (sgOf v.sg) = p v.sg) → ∀ dn cur bt, splitGo p' dn cur bt (flatI us) = (dn ++ ((cur ++ flatI (splitU p us).1) :: (splitU p us).2.map segI), bt ++ (splitU p us).2.map fun s => sgOf s.1.sg)
  | [], _, dn, cur, bt => by simp [splitGo, flatI, splitU]
  | u :: us, h, dn, cur, bt => by
    have ih := split_flat p' p us (fun v hv => h v (.tail _ hv))
    rw [flatI, splitGo, h u (.head _), splitU]
    cases hp : p u.sg with
    | true => simp only [if_true]; rw [split_core, ih]; simp [segI, flatI]
    | false => simp only [Bool.false_eq_true, if_false]; rw [split_core, ih]; simp [flatI]
theorem split_row (p' : Str → Bool) (p : String → Bool) (u : U) (us : List U) (h : ∀ v ∈ us, p' (sgOf v.sg) = p v.sg) : splitGo p' [] [] [] (u.core ++ flatI us) = (segI (u, (splitU p us).1) :: (splitU p us).2.map segI, (splitU p us).2.map fun s => sgOf s.1.sg) := by
  rw [split_core, split_flat p' p us h]; simp [segI]
theorem split_all (p : String → Bool) : ∀ us : List U, (∀ v ∈ (splitU p us).1, v ∈ us ∧ p v.sg = false) ∧ ∀ s ∈ (splitU p us).2, s.1 ∈ us ∧ p s.1.sg = true ∧ ∀ v ∈ s.2, v ∈ us ∧ p v.sg = false
  | [] => by simp [splitU]
  | u :: us => by
    obtain ⟨h1, h2⟩ := split_all p us
    rw [splitU]
    cases hp : p u.sg with
    | true =>
      simp only [if_true]
      refine ⟨by simp, fun s hs => ?_⟩
      rcases List.mem_cons.mp hs with rfl | hs
      · exact ⟨.head _, hp, fun v hv => ⟨.tail _ (h1 v hv).1, (h1 v hv).2⟩⟩
      · obtain ⟨a, b, c⟩ := h2 s hs
        exact ⟨.tail _ a, b, fun v hv => ⟨.tail _ (c v hv).1, (c v hv).2⟩⟩
    | false =>
      simp only [Bool.false_eq_true, if_false]
      refine ⟨fun v hv => ?_, fun s hs => ?_⟩
      · rcases List.mem_cons.mp hv with rfl | hv
        · exact ⟨.head _, hp⟩
        · exact ⟨.tail _ (h1 v hv).1, (h1 v hv).2⟩
      · obtain ⟨a, b, c⟩ := h2 s hs
        exact ⟨.tail _ a, b, fun v hv => ⟨.tail _ (c v hv).1, (c v hv).2⟩⟩
def sgn (u : U) (d : PyData) : PyData := if u.ah then dNeg d else d
def powD : U → List U → PyData
  | u, [] => sgn u u.dd
  | u, v :: vs => sgn u (dPow u.dd (powD v vs))
theorem pow_law : ∀ (us : List U) (u : U), LPow (u.core ++ flatI us) (powD u us)
  | [], u => by
    unfold U.core powD sgn flatI
    cases u.ah
    · exact .one
    · exact .ahead .one
  | v :: vs, u => by
    have ih := pow_law vs v
    unfold U.core powD sgn
    rw [flatI]
    cases u.ah
    · exact .pow ih
    · exact .ahead (.pow ih)
def mulS (s : String) : Bool := s == "*" || s == "/"
def addS (s : String) : Bool := s == "+" || s == "-"
def prodD (u : U) (us : List U) : PyData := foldProd (powD u (splitU mulS us).1) ((splitU mulS us).2.map fun s => sgOf s.1.sg) ((splitU mulS us).2.map fun s => powD s.1 s.2)
def sumD (u : U) (us : List U) : PyData := dSum (prodD u (splitU addS us).1 :: signedSum ((splitU addS us).2.map fun s => sgOf s.1.sg) ((splitU addS us).2.map fun s => prodD s.1 s.2))
theorem all_pow : ∀ l : List (U × List U), AllPow (l.map segI) (l.map fun s => powD s.1 s.2)
  | [] => .nil
  | s :: l => .cons (pow_law s.2 s.1) (all_pow l)
theorem mul_ok : ∀ s ∈ opL, isMul (sgOf s) = mulS s := by decide
theorem add_ok : ∀ s ∈ opL, isAdd (sgOf s) = addS s := by decide
theorem pro_law (u : U) (us : List U) (h : ∀ v ∈ us, v.sg ∈ opL) : LPro (u.core ++ flatI us) (prodD u us) :=
  ⟨_, _, _, _, _, split_row isMul mulS u us (fun v hv => mul_ok _ (h v hv)), by simp, pow_law _ _, all_pow _, rfl⟩
theorem all_pro : ∀ l : List (U × List U), (∀ s ∈ l, ∀ v ∈ s.2, v.sg ∈ opL) → AllPro (l.map segI) (l.map fun s => prodD s.1 s.2)
  | [], _ => .nil
  | s :: l, h => .cons (pro_law s.1 s.2 (h s (.head _))) (all_pro l fun x hx => h x (.tail _ hx))
theorem sum_law (u : U) (us : List U) (h : ∀ v ∈ us, v.sg ∈ opL) : LSum (u.core ++ flatI us) (sumD u us) :=
  ⟨_, _, _, _, _, split_row isAdd addS u us (fun v hv => add_ok _ (h v hv)), by simp, pro_law _ _ (fun v hv => h v ((split_all addS us).1 v hv).1), all_pro _ (fun s hs v hv => h v (((split_all addS us).2 s hs).2.2 v hv).1), rfl⟩
theorem sum_exists {O : List String → PyData → Prop} : ∀ n its txs, UnitsP O (n + 1) its txs → ∃ d, LSum its d := by
  intro n its txs h
  rcases units_us h with h | ⟨u, us, _, _, h3, rfl, _⟩
  · omega
  · exact ⟨_, sum_law u us h3⟩
end

-- P2
section
def tkOf (s : String) : Tk :=
  if s = "x" ∨ s = "y_1" ∨ s = "%o2" ∨ s = "f" ∨ s = "g" then .name (Str.ofString s)
  else if s = "0" then .num 0 else if s = "7" then .num 7 else if s = "120" then .num 120 else if s = "100000000000000000000" then .num 100000000000000000000
  else .sign (Str.ofString s)
def Toks (ts : List TokP) (txs : List String) : Prop := ts.map Prod.fst = txs.map tkOf
theorem Toks.app {ts : List TokP} {a b : List String} (h : Toks ts (a ++ b)) : ∃ ta tb, ts = ta ++ tb ∧ Toks ta a ∧ Toks tb b := by
  unfold Toks at h
  rw [List.map_append, List.map_eq_append_iff] at h
  obtain ⟨ta, tb, h1, h2, h3⟩ := h
  exact ⟨ta, tb, h1, h2, h3⟩
theorem Toks.cons {ts : List TokP} {s : String} {b : List String} (h : Toks ts (s :: b)) : ∃ p tb, ts = (tkOf s, p) :: tb ∧ Toks tb b := by
  unfold Toks at h
  rw [List.map_cons, List.map_eq_cons_iff] at h
  obtain ⟨t, tb, h1, h2, h3⟩ := h
  obtain ⟨tk, p⟩ := t
  dsimp only at h2
  subst h2
  exact ⟨p, tb, h1, h3⟩
theorem Toks.nil {ts : List TokP} (h : Toks ts []) : ts = [] := by
  unfold Toks at h
  simpa using h
def resO (b : Option Int) (d : PyData) (rest : List TokP) : Res := match b with
  | none => .ok d rest
  | some a => .fail a
abbrev startL : List String := ["x", "y_1", "%o2", "0", "7", "120", "100000000000000000000", "(", "f", "[", "g"]
structure OK (N : Nat) (t : List String) (d : PyData) : Prop where
  read : ∀ n, N ≤ n → ∀ ts, Toks ts t → ∀ t0 r, (isS t0 "(" = false ∨ ∀ s ∈ nameL, t ≠ [s]) → Par n .plain (ts ++ t0 :: r) (.ok d (t0 :: r))
  head : ∃ s t', t = s :: t' ∧ s ∈ startL
  pcs : ∀ s ∈ t, s ∈ pieceL
theorem start_no : ∀ s ∈ startL, ∀ p, isS (tkOf s, p) "-" = false ∧ isS (tkOf s, p) "+" = false := by
  intro s hs p
  have : ∀ s ∈ startL, (tkOf s).isSign (Str.ofString "-") = false ∧ (tkOf s).isSign (Str.ofString "+") = false := by decide
  exact this s hs
def U.ot (u : U) : List String := u.t ++ (if u.fx then ["!"] else [])
theorem post_read {N : Nat} {u : U} (h : OK N u.t u.d) {n : Nat} (hn : N + 1 ≤ n) {ts : List TokP} (ht : Toks ts u.ot) {t0 : TokP} {r : List TokP} (h1 : isS t0 "(" = false ∨ ∀ s ∈ nameL, u.ot ≠ [s]) (h2 : isS t0 "!" = false) : Par n .post (ts ++ t0 :: r) (.ok u.dd (t0 :: r)) := by
  obtain ⟨n, rfl⟩ : ∃ k, n = k + 1 := ⟨n - 1, by omega⟩
  unfold U.ot at ht
  show RPost (Par n .plain) _ _
  unfold U.dd
  cases hf : u.fx with
  | false =>
    unfold U.ot at h1
    rw [hf] at ht h1
    simp only [Bool.false_eq_true, if_false, List.append_nil] at ht h1 ⊢
    exact .go (n := 0) (h.read n (by omega) ts ht t0 r h1) (.stop h2)
  | true =>
    rw [hf] at ht
    simp only [if_true] at ht ⊢
    obtain ⟨ta, tb, rfl, ha, hb⟩ := ht.app
    obtain ⟨p, tc, rfl, hc⟩ := hb.cons
    obtain rfl := hc.nil
    have e : tkOf "!" = sg "!" := by simp [tkOf]
    rw [e, List.append_assoc]
    exact .go (n := 1) (h.read n (by omega) ta ha (sg "!", p) (t0 :: r) (.inl (isS_no (by decide)))) (.more (.stop h2))
def Hl (N : Nat) (b : Option Int) (rest : List TokP) (v : U) : Prop := ∀ n, N + 2 ≤ n → ∀ ts, Toks ts v.ot → Par n .power (ts ++ rest) (resO b v.dd rest)
theorem hl_stop {N : Nat} {v : U} (h : OK N v.t v.d) {t0 : TokP} {r : List TokP} (h1 : isS t0 "(" = false ∨ ∀ s ∈ nameL, v.ot ≠ [s]) (h2 : isS t0 "!" = false) (h3 : isS t0 "^" = false) (h4 : isS t0 "**" = false) : Hl N none (t0 :: r) v := by
  intro n hn ts ht
  obtain ⟨n, rfl⟩ : ∃ k, n = k + 1 := ⟨n - 1, by omega⟩
  exact RPower.one (post_read h (by omega) ht h1 h2) h3 h4
def lastU : U → List U → U
  | u, [] => u
  | _, v :: vs => lastU v vs
def powS (s : String) : Bool := s == "^" || s == "**"
theorem signed_up {N n : Nat} {b : Option Int} {rest : List TokP} {u : U} {d : PyData} {X : PyData} (ho : OK N u.t d) (hn : 2 ≤ n) {ts : List TokP} {more : List String} {tail : List TokP} (ht : Toks ts (u.tx ++ more)) (hrest : tail = rest)
    (h : ∀ k, k + 1 ≤ n → n ≤ k + 2 → ∀ ts', Toks ts' (u.ot ++ more) → Par k .power (ts' ++ tail) (resO b X rest)) : Par n .signed (ts ++ tail) (resO b (sgn u X) rest) := by
  obtain ⟨n, rfl⟩ : ∃ k, n = k + 1 := ⟨n - 1, by omega⟩
  have up : ∀ k, k + 1 ≤ n + 1 → n + 1 ≤ k + 2 → ∀ ts', Toks ts' (u.ot ++ more) → RSigned (Par k .signed) (Par k .power) (ts' ++ tail) (resO b X rest) := by
    intro k h1 h2 ts' ht'
    have := h k h1 h2 ts' ht'
    obtain ⟨s, t', e, hs⟩ := ho.head
    unfold U.ot at ht'
    rw [e] at ht'
    obtain ⟨p, tb, rfl, _⟩ := Toks.cons ht'
    obtain ⟨a1, a2⟩ := start_no s hs p
    exact .up a1 a2 this
  unfold U.tx at ht
  unfold sgn
  cases ha : u.ah with
  | false =>
    rw [ha] at ht
    exact up n (by omega) (by omega) ts (by simpa [U.ot] using ht)
  | true =>
    rw [ha] at ht
    obtain ⟨p, tb, rfl, hb⟩ := Toks.cons (s := "-") (b := u.ot ++ more) (by simpa [U.ot] using ht)
    have e : tkOf "-" = sg "-" := by simp [tkOf]
    rw [e]
    obtain ⟨n, rfl⟩ : ∃ k, n = k + 1 := ⟨n - 1, by omega⟩
    have := up n (by omega) (by omega) tb hb
    cases b with
    | none => exact RSigned.neg (S := Par (n + 1) .signed) this
    | some a => exact RSigned.negBad (S := Par (n + 1) .signed) this
theorem pow_tk : ∀ s ∈ opL, powS s = true → tkOf s = sg "^" ∨ tkOf s = sg "**" := by
  intro s hs hp
  have : s = "^" ∨ s = "**" := by simpa [powS] using hp
  rcases this with rfl | rfl
  · exact .inl (by simp [tkOf])
  · exact .inr (by simp [tkOf])
theorem pow_read {N : Nat} {b : Option Int} {rest : List TokP} : ∀ (us : List U) (u : U), (∀ v ∈ u :: us, OK N v.t v.d) → (∀ v ∈ us, v.sg ∈ opL ∧ powS v.sg = true) → Hl N b rest (lastU u us) → ∀ n, N + 4 + 3 * us.length ≤ n → ∀ ts, Toks ts (u.tx ++ flatT us) → Par n .signed (ts ++ rest) (resO b (powD u us) rest)
  | [], u, hO, _, hl, n, hn, ts, ht => by
    rw [flatT] at ht
    refine signed_up (hO u (.head _)) (by omega) ht rfl fun k h1 h2 ts' ht' => ?_
    rw [List.append_nil] at ht'
    exact hl k (by simp only [List.length_nil] at hn; omega) ts' ht'
  | v :: vs, u, hO, hs, hl, n, hn, ts, ht => by
    have ih := pow_read vs v (fun x hx => hO x (.tail _ hx)) (fun x hx => hs x (.tail _ hx)) hl
    refine signed_up (hO u (.head _)) (by omega) ht rfl fun k h1 h2 ts' ht' => ?_
    simp only [List.length_cons] at hn
    obtain ⟨ta, tb, rfl, ha, hb⟩ := ht'.app
    rw [flatT] at hb
    obtain ⟨p, tc, rfl, hc⟩ := hb.cons
    have hsg := pow_tk v.sg (hs v (.head _)).1 (hs v (.head _)).2
    obtain ⟨k, rfl⟩ : ∃ j, k = j + 1 := ⟨k - 1, by omega⟩
    have n1 : isS (tkOf v.sg, p) "(" = false ∧ isS (tkOf v.sg, p) "!" = false := by
      rcases hsg with e | e <;> rw [e] <;> exact ⟨isS_no (by decide), isS_no (by decide)⟩
    have hp := post_read (hO u (.head _)) (n := k) (by omega) ha (t0 := (tkOf v.sg, p)) (r := tc ++ rest) (.inl n1.1) n1.2
    have hr := ih k (by omega) tc hc
    rw [List.append_assoc]
    cases b with
    | none => exact RPower.pow (X := Par k .post) (S := Par k .signed) hp hsg hr
    | some a => exact RPower.powBad (X := Par k .post) (S := Par k .signed) hp hsg hr
end

-- P3
section
def segT : List (U × List U) → List String
  | [] => []
  | s :: l => s.1.sg :: (s.1.tx ++ flatT s.2 ++ segT l)
theorem flat_split (p : String → Bool) : ∀ us : List U, flatT us = flatT (splitU p us).1 ++ segT (splitU p us).2
  | [] => rfl
  | u :: us => by
    rw [splitU]
    cases hp : p u.sg with
    | true =>
      simp only [if_true]
      show u.sg :: (u.tx ++ flatT us) = [] ++ (u.sg :: (u.tx ++ flatT (splitU p us).1 ++ segT (splitU p us).2))
      rw [flat_split p us]
      simp [List.append_assoc, ← flat_split p us]
    | false =>
      simp only [Bool.false_eq_true, if_false]
      show u.sg :: (u.tx ++ flatT us) = u.sg :: (u.tx ++ flatT (splitU p us).1) ++ segT (splitU p us).2
      have := flat_split p us
      rw [this]
      simp [List.append_assoc, ← this]
def lastSeg : U × List U → List (U × List U) → U
  | s, [] => lastU s.1 s.2
  | _, s :: l => lastSeg s l
theorem last_split (p : String → Bool) : ∀ (us : List U) (u : U), lastU u us = lastSeg (u, (splitU p us).1) (splitU p us).2
  | [], u => rfl
  | v :: vs, u => by
    have ih := last_split p vs v
    rw [lastU, ih, splitU]
    cases hp : p v.sg with
    | true => simp only [if_true]; rfl
    | false =>
      simp only [Bool.false_eq_true, if_false]
      cases (splitU p vs).2 <;> rfl
theorem split_len_le (p : String → Bool) : ∀ us : List U, (splitU p us).1.length ≤ us.length ∧ (splitU p us).2.length ≤ us.length ∧ ∀ s ∈ (splitU p us).2, s.2.length ≤ us.length
  | [] => by simp [splitU]
  | u :: us => by
    obtain ⟨h1, h2, h3⟩ := split_len_le p us
    rw [splitU]
    cases hp : p u.sg with
    | true =>
      simp only [if_true, List.length_cons, List.length_nil]
      refine ⟨by omega, by omega, fun s hs => ?_⟩
      rcases List.mem_cons.mp hs with rfl | hs
      · show (splitU p us).1.length ≤ _; omega
      · have := h3 s hs; omega
    | false =>
      simp only [Bool.false_eq_true, if_false, List.length_cons]
      exact ⟨by omega, by omega, fun s hs => by have := h3 s hs; omega⟩
theorem mul_tk : ∀ s ∈ opL, mulS s = true → (s = "*" ∧ tkOf s = sg "*") ∨ (s = "/" ∧ tkOf s = sg "/") := by
  intro s _ hp
  have : s = "*" ∨ s = "/" := by simpa [mulS] using hp
  rcases this with rfl | rfl
  · exact .inl ⟨rfl, by simp [tkOf]⟩
  · exact .inr ⟨rfl, by simp [tkOf]⟩
theorem add_tk : ∀ s ∈ opL, addS s = true → (s = "+" ∧ tkOf s = sg "+") ∨ (s = "-" ∧ tkOf s = sg "-") := by
  intro s _ hp
  have : s = "+" ∨ s = "-" := by simpa [addS] using hp
  rcases this with rfl | rfl
  · exact .inl ⟨rfl, by simp [tkOf]⟩
  · exact .inr ⟨rfl, by simp [tkOf]⟩
structure SegM (N M : Nat) (s : U × List U) : Prop where
  ok : ∀ v ∈ s.1 :: s.2, OK N v.t v.d
  sg1 : s.1.sg ∈ opL ∧ mulS s.1.sg = true
  sg2 : ∀ v ∈ s.2, v.sg ∈ opL ∧ powS v.sg = true
  le : s.2.length ≤ M
theorem lastU_mem : ∀ (us : List U) (u : U), lastU u us ∈ u :: us
  | [], _ => .head _
  | v :: vs, u => .tail _ (lastU_mem vs v)
theorem prod_loop {N M : Nat} {b : Option Int} {rest : List TokP} (hst : b = none → ∃ t0 r, rest = t0 :: r ∧ isS t0 "*" = false ∧ isS t0 "/" = false) {n : Nat} (hn : N + 4 + 3 * M ≤ n) :
    ∀ (l : List (U × List U)) (s0 : U × List U) (acc : PyData) (ts : List TokP), (∀ s ∈ l, SegM N M s) → (l ≠ [] → Hl N b rest (lastSeg s0 l)) → (l = [] → b = none) → Toks ts (segT l) →
      ∃ k, LProd (Par n .signed) k acc (ts ++ rest) (resO b (foldProd acc (l.map fun s => sgOf s.1.sg) (l.map fun s => powD s.1 s.2)) rest)
  | [], s0, acc, ts, _, _, hb, ht => by
    obtain rfl := hb rfl
    obtain ⟨t0, r, rfl, h1, h2⟩ := hst rfl
    obtain rfl := ht.nil
    exact ⟨0, .stop h1 h2⟩
  | s :: l, s0, acc, ts, hs, hl, _, ht => by
    have hS := hs s (.head _)
    rw [segT] at ht
    obtain ⟨p, tb, rfl, hb⟩ := ht.cons
    obtain ⟨tc, td, rfl, hc, hd⟩ := hb.app
    have step : ∀ (d : PyData) (ts1 : List TokP) (k : Nat) (res : Res), Par n .signed (tc ++ (td ++ rest)) (.ok d ts1) → LProd (Par n .signed) k (if sgOf s.1.sg == Str.ofString "*" then dProd acc d else dQuot acc d) ts1 res →
        LProd (Par n .signed) (k + 1) acc ((tkOf s.1.sg, p) :: (tc ++ (td ++ rest))) res := by
      intro d ts1 k res h1 h2
      rcases mul_tk _ hS.sg1.1 hS.sg1.2 with ⟨e, e'⟩ | ⟨e, e'⟩
      · rw [e'] ; rw [e, show (sgOf "*" == Str.ofString "*") = true from by decide] at h2; exact .mul h1 h2
      · rw [e'] ; rw [e, show (sgOf "/" == Str.ofString "*") = false from by decide] at h2; exact .div h1 h2
    have stepBad : ∀ a, Par n .signed (tc ++ (td ++ rest)) (.fail a) → LProd (Par n .signed) 0 acc ((tkOf s.1.sg, p) :: (tc ++ (td ++ rest))) (.fail a) := by
      intro a h1
      rcases mul_tk _ hS.sg1.1 hS.sg1.2 with ⟨e, e'⟩ | ⟨e, e'⟩
      · rw [e']; exact .mulBad h1
      · rw [e']; exact .divBad h1
    simp only [List.map_cons, foldProd, List.cons_append, List.append_assoc]
    cases l with
    | nil =>
      obtain rfl := hd.nil
      have hr := pow_read s.2 s.1 hS.ok hS.sg2 (hl (by simp)) n (by have := hS.le; omega) tc hc
      cases b with
      | none =>
        obtain ⟨t0, r, rfl, h1, h2⟩ := hst rfl
        exact ⟨1, step _ _ 0 _ hr (.stop h1 h2)⟩
      | some a => exact ⟨0, stepBad a hr⟩
    | cons s' l' =>
      have hS' := hs s' (.tail _ (.head _))
      have hd0 := hd
      rw [segT] at hd
      obtain ⟨p', te, rfl, _⟩ := hd.cons
      have nt : ∀ x ∈ ["(", "!", "^", "**"], isS (tkOf s'.1.sg, p') x = false := by
        rcases mul_tk _ hS'.sg1.1 hS'.sg1.2 with ⟨e, e'⟩ | ⟨e, e'⟩ <;> rw [e'] <;> (intro x hx; simp only [List.mem_cons, List.not_mem_nil, or_false] at hx; rcases hx with rfl | rfl | rfl | rfl <;> exact isS_no (by decide))
      have hlast : Hl N none ((tkOf s'.1.sg, p') :: (te ++ rest)) (lastU s.1 s.2) := hl_stop (hS.ok _ (lastU_mem _ _)) (.inl (nt _ (by simp))) (nt _ (by simp)) (nt _ (by simp)) (nt _ (by simp))
      have hr := pow_read s.2 s.1 hS.ok hS.sg2 hlast n (by have := hS.le; omega) tc hc
      obtain ⟨k, ih⟩ := prod_loop hst hn (s' :: l') s (if sgOf s.1.sg == Str.ofString "*" then dProd acc (powD s.1 s.2) else dQuot acc (powD s.1 s.2)) ((tkOf s'.1.sg, p') :: te) (fun x hx => hs x (.tail _ hx)) (fun _ => hl (by simp)) (fun h => by cases h) hd0
      exact ⟨k + 1, step _ _ k _ hr ih⟩
theorem seg_mul {N : Nat} {us : List U} (hO : ∀ v ∈ us, OK N v.t v.d) (hs : ∀ v ∈ us, v.sg ∈ opL ∧ addS v.sg = false) : (∀ s ∈ (splitU mulS us).2, SegM N us.length s) ∧ ∀ v ∈ (splitU mulS us).1, v.sg ∈ opL ∧ powS v.sg = true := by
  have pw : ∀ s ∈ opL, addS s = false → mulS s = false → powS s = true := by decide
  obtain ⟨h1, h2⟩ := split_all mulS us
  refine ⟨fun s hs' => ?_, fun v hv => ⟨(hs v (h1 v hv).1).1, pw _ (hs v (h1 v hv).1).1 (hs v (h1 v hv).1).2 (h1 v hv).2⟩⟩
  obtain ⟨a, c, d⟩ := h2 s hs'
  exact ⟨fun v hv => (List.mem_cons.mp hv).elim (fun e => e ▸ hO _ a) fun hv => hO v (d v hv).1, ⟨(hs _ a).1, c⟩, fun v hv => ⟨(hs v (d v hv).1).1, pw _ (hs v (d v hv).1).1 (hs v (d v hv).1).2 (d v hv).2⟩, (split_len_le mulS us).2.2 s hs'⟩
theorem prod_read {N : Nat} {b : Option Int} {rest : List TokP} (us : List U) (u : U) (hO : ∀ v ∈ u :: us, OK N v.t v.d) (hs : ∀ v ∈ us, v.sg ∈ opL ∧ addS v.sg = false) (hl : Hl N b rest (lastU u us)) (hst : b = none → ∃ t0 r, rest = t0 :: r ∧ isS t0 "*" = false ∧ isS t0 "/" = false)
    {n : Nat} (hn : N + 5 + 3 * us.length ≤ n) {ts : List TokP} (ht : Toks ts (u.tx ++ flatT us)) : Par n .prod (ts ++ rest) (resO b (prodD u us) rest) := by
  obtain ⟨n, rfl⟩ : ∃ k, n = k + 1 := ⟨n - 1, by omega⟩
  obtain ⟨hS, hp⟩ := seg_mul (fun v hv => hO v (.tail _ hv)) hs
  have hOa : ∀ v ∈ u :: (splitU mulS us).1, OK N v.t v.d := fun v hv => (List.mem_cons.mp hv).elim (fun e => e ▸ hO _ (.head _)) fun hv => hO v (.tail _ ((split_all mulS us).1 v hv).1)
  have hla := (split_len_le mulS us).1
  rw [flat_split mulS, ← List.append_assoc] at ht
  obtain ⟨ta, tb, rfl, ha, hb⟩ := ht.app
  rw [last_split mulS us u] at hl
  show RProd (Par n .signed) _ _
  unfold prodD
  rw [List.append_assoc]
  cases hl2 : (splitU mulS us).2 with
  | nil =>
    rw [hl2] at hb hl
    obtain rfl := hb.nil
    have hr := pow_read (splitU mulS us).1 u hOa hp hl n (by omega) ta ha
    cases b with
    | none =>
      obtain ⟨t0, r, rfl, h1, h2⟩ := hst rfl
      exact .go (n := 0) hr (.stop h1 h2)
    | some a => exact .bad hr
  | cons s l =>
    have hS1 := hS s (by rw [hl2]; exact .head _)
    have hb0 := hb
    rw [hl2] at hb hl
    rw [segT] at hb
    obtain ⟨p', te, rfl, _⟩ := hb.cons
    have nt : ∀ x ∈ ["(", "!", "^", "**"], isS (tkOf s.1.sg, p') x = false := by
      rcases mul_tk _ hS1.sg1.1 hS1.sg1.2 with ⟨e, e'⟩ | ⟨e, e'⟩ <;> rw [e'] <;> (intro x hx; simp only [List.mem_cons, List.not_mem_nil, or_false] at hx; rcases hx with rfl | rfl | rfl | rfl <;> exact isS_no (by decide))
    have hlast : Hl N none ((tkOf s.1.sg, p') :: (te ++ rest)) (lastU u (splitU mulS us).1) := hl_stop (hOa _ (lastU_mem _ _)) (.inl (nt _ (by simp))) (nt _ (by simp)) (nt _ (by simp)) (nt _ (by simp))
    have hr := pow_read (splitU mulS us).1 u hOa hp hlast n (by omega) ta ha
    rw [hl2] at hb0
    obtain ⟨k, hk⟩ := prod_loop (M := us.length) hst (n := n) (by omega) (s :: l) (u, (splitU mulS us).1) (powD u (splitU mulS us).1) ((tkOf s.1.sg, p') :: te) (fun x hx => hS x (by rw [hl2]; exact hx)) (fun _ => hl) (fun h => by cases h) hb0
    exact .go hr hk
end

-- P4
section
structure SegA (N M : Nat) (s : U × List U) : Prop where
  ok : ∀ v ∈ s.1 :: s.2, OK N v.t v.d
  sg1 : s.1.sg ∈ opL ∧ addS s.1.sg = true
  sg2 : ∀ v ∈ s.2, v.sg ∈ opL ∧ addS v.sg = false
  le : s.2.length ≤ M
theorem sum_loop {N M n : Nat} {b c : Option Int} {rest : List TokP} (hst : b = none → ∃ t0 r, rest = t0 :: r ∧ isS t0 "*" = false ∧ isS t0 "/" = false) (hn : N + 5 + 3 * M ≤ n) (hbc : ∀ a, b = some a → c = some a)
    (hend : b = none → ∀ acc, ∃ k, LTotal (Par n .prod) k acc rest (resO c (dSum acc) rest)) :
    ∀ (l : List (U × List U)) (s0 : U × List U) (acc : List PyData) (ts : List TokP), (∀ s ∈ l, SegA N M s) → (l ≠ [] → Hl N b rest (lastSeg s0 l)) → (l = [] → b = none) → acc.length + l.length ≤ 900 → Toks ts (segT l) →
      ∃ k, LTotal (Par n .prod) k acc (ts ++ rest) (resO c (dSum (acc ++ signedSum (l.map fun s => sgOf s.1.sg) (l.map fun s => prodD s.1 s.2))) rest)
  | [], s0, acc, ts, _, _, hb, _, ht => by
    obtain rfl := hb rfl
    obtain rfl := ht.nil
    simpa [signedSum] using hend rfl acc
  | s :: l, s0, acc, ts, hs, hl, _, hac, ht => by
    have hS := hs s (.head _)
    simp only [List.length_cons] at hac
    rw [segT] at ht
    obtain ⟨p, tb, rfl, hb⟩ := ht.cons
    obtain ⟨tc, td, rfl, hc, hd⟩ := hb.app
    have step : ∀ (d : PyData) (ts1 : List TokP) (k : Nat) (res : Res), Par n .prod (tc ++ (td ++ rest)) (.ok d ts1) → LTotal (Par n .prod) k (acc ++ [if sgOf s.1.sg == Str.ofString "+" then d else dNeg d]) ts1 res →
        LTotal (Par n .prod) (k + 1) acc ((tkOf s.1.sg, p) :: (tc ++ (td ++ rest))) res := by
      intro d ts1 k res h1 h2
      rcases add_tk _ hS.sg1.1 hS.sg1.2 with ⟨e, e'⟩ | ⟨e, e'⟩
      · rw [e'] ; rw [e, show (sgOf "+" == Str.ofString "+") = true from by decide] at h2; exact .plus (by omega) h1 h2
      · rw [e'] ; rw [e, show (sgOf "-" == Str.ofString "+") = false from by decide] at h2; exact .minus (by omega) h1 h2
    have stepBad : ∀ a, Par n .prod (tc ++ (td ++ rest)) (.fail a) → LTotal (Par n .prod) 0 acc ((tkOf s.1.sg, p) :: (tc ++ (td ++ rest))) (.fail a) := by
      intro a h1
      rcases add_tk _ hS.sg1.1 hS.sg1.2 with ⟨e, e'⟩ | ⟨e, e'⟩
      · rw [e']; exact .plusBad h1
      · rw [e']; exact .minusBad h1
    have hle := hS.le
    simp only [List.map_cons, signedSum, List.cons_append, List.append_assoc]
    have hass : ∀ X : List PyData, acc ++ (if (sgOf s.1.sg == Str.ofString "+") = true then prodD s.1 s.2 else dNeg (prodD s.1 s.2)) :: X = (acc ++ [if (sgOf s.1.sg == Str.ofString "+") = true then prodD s.1 s.2 else dNeg (prodD s.1 s.2)]) ++ X := fun X => by simp
    rw [hass]
    cases l with
    | nil =>
      obtain rfl := hd.nil
      have hr := prod_read s.2 s.1 hS.ok hS.sg2 (hl (by simp)) hst (n := n) (by omega) hc
      cases b with
      | none =>
        obtain ⟨k, hk⟩ := hend rfl (acc ++ [if (sgOf s.1.sg == Str.ofString "+") = true then prodD s.1 s.2 else dNeg (prodD s.1 s.2)])
        exact ⟨k + 1, step _ _ k _ hr (by simpa [signedSum] using hk)⟩
      | some a =>
        rw [hbc a rfl]
        exact ⟨0, stepBad a hr⟩
    | cons s' l' =>
      have hS' := hs s' (.tail _ (.head _))
      have hd0 := hd
      rw [segT] at hd
      obtain ⟨p', te, rfl, _⟩ := hd.cons
      have nt : ∀ x ∈ ["(", "!", "^", "**", "*", "/"], isS (tkOf s'.1.sg, p') x = false := by
        rcases add_tk _ hS'.sg1.1 hS'.sg1.2 with ⟨e, e'⟩ | ⟨e, e'⟩ <;> rw [e'] <;> (intro x hx; simp only [List.mem_cons, List.not_mem_nil, or_false] at hx; rcases hx with rfl | rfl | rfl | rfl | rfl | rfl <;> exact isS_no (by decide))
      have hlast : Hl N none ((tkOf s'.1.sg, p') :: (te ++ rest)) (lastU s.1 s.2) := hl_stop (hS.ok _ (lastU_mem _ _)) (.inl (nt _ (by simp))) (nt _ (by simp)) (nt _ (by simp)) (nt _ (by simp))
      have hr := prod_read s.2 s.1 hS.ok hS.sg2 hlast (fun _ => ⟨_, _, rfl, nt _ (by simp), nt _ (by simp)⟩) (n := n) (by omega) hc
      obtain ⟨k, ih⟩ := sum_loop hst hn hbc hend (s' :: l') s (acc ++ [if (sgOf s.1.sg == Str.ofString "+") = true then prodD s.1 s.2 else dNeg (prodD s.1 s.2)]) ((tkOf s'.1.sg, p') :: te) (fun x hx => hs x (.tail _ hx)) (fun _ => hl (by simp)) (fun h => by cases h)
        (by simp only [List.length_append, List.length_cons, List.length_nil] at *; omega) hd0
      exact ⟨k + 1, step _ _ k _ hr ih⟩
theorem seg_add {N : Nat} {us : List U} (hO : ∀ v ∈ us, OK N v.t v.d) (hs : ∀ v ∈ us, v.sg ∈ opL) : (∀ s ∈ (splitU addS us).2, SegA N us.length s) ∧ ∀ v ∈ (splitU addS us).1, v.sg ∈ opL ∧ addS v.sg = false := by
  obtain ⟨h1, h2⟩ := split_all addS us
  refine ⟨fun s hs' => ?_, fun v hv => ⟨hs v (h1 v hv).1, (h1 v hv).2⟩⟩
  obtain ⟨a, c, d⟩ := h2 s hs'
  exact ⟨fun v hv => (List.mem_cons.mp hv).elim (fun e => e ▸ hO _ a) fun hv => hO v (d v hv).1, ⟨hs _ a, c⟩, fun v hv => ⟨hs v (d v hv).1, (d v hv).2⟩, (split_len_le addS us).2.2 s hs'⟩
theorem sum_read {N n : Nat} {b c : Option Int} {rest : List TokP} (us : List U) (u : U) (hO : ∀ v ∈ u :: us, OK N v.t v.d) (hs : ∀ v ∈ us, v.sg ∈ opL) (hl : Hl N b rest (lastU u us)) (hst : b = none → ∃ t0 r, rest = t0 :: r ∧ isS t0 "*" = false ∧ isS t0 "/" = false)
    (hbc : ∀ a, b = some a → c = some a) (hend : b = none → ∀ acc, ∃ k, LTotal (Par n .prod) k acc rest (resO c (dSum acc) rest)) (hn : N + 5 + 3 * us.length ≤ n) (hu : us.length ≤ 800) {ts : List TokP} (ht : Toks ts (u.tx ++ flatT us)) :
    Par (n + 1) .total (ts ++ rest) (resO c (sumD u us) rest) := by
  obtain ⟨hS, hp⟩ := seg_add (fun v hv => hO v (.tail _ hv)) hs
  have hOa : ∀ v ∈ u :: (splitU addS us).1, OK N v.t v.d := fun v hv => (List.mem_cons.mp hv).elim (fun e => e ▸ hO _ (.head _)) fun hv => hO v (.tail _ ((split_all addS us).1 v hv).1)
  have hla := (split_len_le addS us).1
  have hlb := (split_len_le addS us).2.1
  rw [flat_split addS, ← List.append_assoc] at ht
  obtain ⟨ta, tb, rfl, ha, hb⟩ := ht.app
  rw [last_split addS us u] at hl
  show RTotal (Par n .prod) _ _
  unfold sumD
  rw [List.append_assoc]
  cases hl2 : (splitU addS us).2 with
  | nil =>
    rw [hl2] at hb hl
    obtain rfl := hb.nil
    have hr := prod_read (splitU addS us).1 u hOa hp hl hst (n := n) (by omega) ha
    cases b with
    | none =>
      obtain ⟨k, hk⟩ := hend rfl [prodD u (splitU addS us).1]
      exact .go hr (by simpa [signedSum] using hk)
    | some a => rw [hbc a rfl]; exact .bad hr
  | cons s l =>
    have hS1 := hS s (by rw [hl2]; exact .head _)
    have hb0 := hb
    rw [hl2] at hb hl hlb
    rw [segT] at hb
    obtain ⟨p', te, rfl, _⟩ := hb.cons
    have nt : ∀ x ∈ ["(", "!", "^", "**", "*", "/"], isS (tkOf s.1.sg, p') x = false := by
      rcases add_tk _ hS1.sg1.1 hS1.sg1.2 with ⟨e, e'⟩ | ⟨e, e'⟩ <;> rw [e'] <;> (intro x hx; simp only [List.mem_cons, List.not_mem_nil, or_false] at hx; rcases hx with rfl | rfl | rfl | rfl | rfl | rfl <;> exact isS_no (by decide))
    have hlast : Hl N none ((tkOf s.1.sg, p') :: (te ++ rest)) (lastU u (splitU addS us).1) := hl_stop (hOa _ (lastU_mem _ _)) (.inl (nt _ (by simp))) (nt _ (by simp)) (nt _ (by simp)) (nt _ (by simp))
    have hr := prod_read (splitU addS us).1 u hOa hp hlast (fun _ => ⟨_, _, rfl, nt _ (by simp), nt _ (by simp)⟩) (n := n) (by omega) ha
    rw [hl2] at hb0
    obtain ⟨k, hk⟩ := sum_loop (M := us.length) hst hn hbc hend (s :: l) (u, (splitU addS us).1) [prodD u (splitU addS us).1] ((tkOf s.1.sg, p') :: te) (fun x hx => hS x (by rw [hl2]; exact hx)) (fun _ => hl) (fun h => by cases h)
      (by simp only [List.length_cons, List.length_nil] at *; omega) hb0
    exact .go hr hk
abbrev stopL : List String := ["(", "!", "^", "**", "*", "/", "+", "-"]
structure RowR (N : Nat) (t : List String) (d : PyData) : Prop where
  read : ∀ n, N ≤ n → ∀ ts, Toks ts t → ∀ t0 r, (∀ x ∈ stopL, isS t0 x = false) → Par n .total (ts ++ t0 :: r) (.ok d (t0 :: r))
  head : ∃ s t', t = s :: t' ∧ s ∈ "-" :: startL
  pcs : ∀ s ∈ t, s ∈ pieceL
theorem tx_head {N : Nat} {u : U} (h : OK N u.t u.d) : ∃ s t', u.tx = s :: t' ∧ s ∈ "-" :: startL := by
  obtain ⟨s, t', e, hs⟩ := h.head
  unfold U.tx
  cases u.ah with
  | true => exact ⟨"-", _, rfl, .head _⟩
  | false => rw [e]; exact ⟨s, _, rfl, .tail _ hs⟩
theorem tx_pcs {N : Nat} {u : U} (h : OK N u.t u.d) : ∀ s ∈ u.tx, s ∈ pieceL := by
  intro s hs
  unfold U.tx at hs
  simp only [List.mem_append] at hs
  rcases hs with hs | hs | hs
  · cases ha : u.ah <;> rw [ha] at hs <;> simp at hs; rw [hs]; decide
  · exact h.pcs s hs
  · cases ha : u.fx <;> rw [ha] at hs <;> simp at hs; rw [hs]; decide
theorem flatT_pcs {N : Nat} : ∀ {us : List U}, (∀ v ∈ us, OK N v.t v.d) → (∀ v ∈ us, v.sg ∈ opL) → ∀ s ∈ flatT us, s ∈ pieceL
  | [], _, _, s, hs => by cases hs
  | u :: us, h, g, s, hs => by
    rw [flatT] at hs
    have op : ∀ x ∈ opL, x ∈ pieceL := by decide
    rcases List.mem_cons.mp hs with rfl | hs
    · exact op _ (g u (.head _))
    · rcases List.mem_append.mp hs with hs | hs
      · exact tx_pcs (h u (.head _)) s hs
      · exact flatT_pcs (fun v hv => h v (.tail _ hv)) (fun v hv => g v (.tail _ hv)) s hs
theorem lpow_fun {its : List LIt} {d e : PyData} (h : LPow its d) : LPow its e → d = e := by
  intro g
  induction h generalizing e with
  | ahead _ ih => cases g with | ahead g => rw [ih g]
  | one => cases g; rfl
  | pow _ ih => cases g with | pow g => rw [ih g]
theorem allpow_fun {l : List (List LIt)} {ds es : List PyData} (h : AllPow l ds) : AllPow l es → ds = es := by
  intro g
  induction h generalizing es with
  | nil => cases g; rfl
  | cons h _ ih => cases g with | cons g1 g2 => rw [lpow_fun h g1, ih g2]
theorem lpro_fun {its : List LIt} {d e : PyData} (h : LPro its d) (g : LPro its e) : d = e := by
  obtain ⟨s0, ss, bt, d0, ds, h1, _, h2, h3, rfl⟩ := h
  obtain ⟨s0', ss', bt', d0', ds', g1, _, g2, g3, rfl⟩ := g
  obtain ⟨e1, rfl⟩ := Prod.mk.inj (h1.symm.trans g1)
  obtain ⟨rfl, rfl⟩ := List.cons.inj e1
  rw [lpow_fun h2 g2, allpow_fun h3 g3]
theorem allpro_fun {l : List (List LIt)} {ds es : List PyData} (h : AllPro l ds) : AllPro l es → ds = es := by
  intro g
  induction h generalizing es with
  | nil => cases g; rfl
  | cons h _ ih => cases g with | cons g1 g2 => rw [lpro_fun h g1, ih g2]
theorem lsum_fun {its : List LIt} {d e : PyData} (h : LSum its d) (g : LSum its e) : d = e := by
  obtain ⟨s0, ss, bt, d0, ds, h1, _, h2, h3, rfl⟩ := h
  obtain ⟨s0', ss', bt', d0', ds', g1, _, g2, g3, rfl⟩ := g
  obtain ⟨e1, rfl⟩ := Prod.mk.inj (h1.symm.trans g1)
  obtain ⟨rfl, rfl⟩ := List.cons.inj e1
  rw [lpro_fun h2 g2, allpro_fun h3 g3]
theorem end_stop {P : List TokP → Res → Prop} {t0 : TokP} {r : List TokP} (h : ∀ x ∈ stopL, isS t0 x = false) : ∀ acc, ∃ k, LTotal P k acc (t0 :: r) (resO none (dSum acc) (t0 :: r)) := fun acc => ⟨0, .stop (h _ (by simp)) (h _ (by simp))⟩
theorem row_read {O : List String → PyData → Prop} {N : Nat} (hO : ∀ t d, O t d → OK N t d) {txs : List String} {d : PyData} (h : RowP O txs d) : RowR (N + 20) txs d := by
  obtain ⟨k, its, hk1, hk4, hu, hd⟩ := h
  rcases units_us hu with h | ⟨u, us, h1, h2, h3, rfl, rfl⟩
  · omega
  have hOK : ∀ v ∈ u :: us, OK N v.t v.d := fun v hv => hO _ _ (h2 v hv)
  obtain rfl := lsum_fun hd (sum_law u us h3)
  refine ⟨fun n hn ts ht t0 r hst => ?_, ?_, ?_⟩
  · obtain ⟨n, rfl⟩ : ∃ k, n = k + 1 := ⟨n - 1, by omega⟩
    exact sum_read (b := none) (c := none) us u hOK h3 (hl_stop (hOK _ (lastU_mem _ _)) (.inl (hst _ (by simp))) (hst _ (by simp)) (hst _ (by simp)) (hst _ (by simp))) (fun _ => ⟨t0, r, rfl, hst _ (by simp), hst _ (by simp)⟩) (fun a h => by cases h) (fun _ => end_stop hst) (by omega) (by omega) ht
  · obtain ⟨s, t', e, hs⟩ := tx_head (hOK u (.head _))
    exact ⟨s, t' ++ flatT us, by rw [e]; rfl, hs⟩
  · intro s hs
    rcases List.mem_append.mp hs with hs | hs
    · exact tx_pcs (hOK u (.head _)) s hs
    · exact flatT_pcs (fun v hv => hOK v (.tail _ hv)) h3 s hs
end

-- P5
section
theorem tk_sign (s : String) (h : s ∈ ["(", ")", ",", "[", "=", "]", "+", "-", "*", "/", "^", "**", "!"]) : tkOf s = sg s := by
  simp only [List.mem_cons, List.not_mem_nil, or_false] at h
  rcases h with rfl | rfl | rfl | rfl | rfl | rfl | rfl | rfl | rfl | rfl | rfl | rfl | rfl <;> simp [tkOf]
theorem tk_name (s : String) (h : s ∈ ["x", "y_1", "%o2", "f", "g"]) : tkOf s = .name (Str.ofString s) := by
  simp only [List.mem_cons, List.not_mem_nil, or_false] at h
  rcases h with rfl | rfl | rfl | rfl | rfl <;> simp [tkOf]
theorem stop_sg (x : String) (p : Int) (hx : x ∈ [")", ",", "=", "]"]) : ∀ y ∈ stopL, isS (sg x, p) y = false := by
  have : ∀ x ∈ [")", ",", "=", "]"], ∀ y ∈ stopL, (Str.ofString x == Str.ofString y) = false := by decide
  exact this x hx
theorem row_eq {N n : Nat} {t : List String} {d : PyData} (h : RowR N t d) (hn : N + 1 ≤ n) {ts : List TokP} (ht : Toks ts t) {x : String} {p : Int} {r : List TokP} (hx : x ∈ [")", ",", "]"]) : Par n .eq (ts ++ (sg x, p) :: r) (.ok d ((sg x, p) :: r)) := by
  obtain ⟨n, rfl⟩ : ∃ k, n = k + 1 := ⟨n - 1, by omega⟩
  have hx' : x ∈ [")", ",", "=", "]"] := by simp only [List.mem_cons, List.not_mem_nil, or_false] at hx ⊢; rcases hx with rfl | rfl | rfl <;> simp
  have e : isS (sg x, p) "=" = false := by
    have : ∀ x ∈ [")", ",", "]"], (Str.ofString x == Str.ofString "=") = false := by decide
    exact this x hx
  exact REq.one (P := Par n .total) (h.read n (by omega) ts ht _ _ (stop_sg x p hx')) e
theorem row_head {N : Nat} {t : List String} {d : PyData} (h : RowR N t d) {ts : List TokP} (ht : Toks ts t) : ∃ t0 r, ts = t0 :: r ∧ isS t0 ")" = false ∧ isS t0 "]" = false := by
  obtain ⟨s, t', rfl, hs⟩ := h.head
  obtain ⟨p, tb, rfl, _⟩ := ht.cons
  have : ∀ s ∈ "-" :: startL, (tkOf s).isSign (Str.ofString ")") = false ∧ (tkOf s).isSign (Str.ofString "]") = false := by decide
  exact ⟨_, _, rfl, this s hs⟩
theorem opd_ok {R : List String → PyData → Prop} {N : Nat} (hR : ∀ t d, R t d → RowR N t d) {t : List String} {d : PyData} (h : OpdP R t d) : OK (N + 6) t d := by
  cases h with
  | @name s hs =>
    refine ⟨fun n hn ts ht t0 r h0 => ?_, ⟨s, [], rfl, ?_⟩, ?_⟩
    · obtain ⟨n, rfl⟩ : ∃ k, n = k + 1 := ⟨n - 1, by omega⟩
      obtain ⟨p, tb, rfl, hb⟩ := ht.cons
      obtain rfl := hb.nil
      rw [tk_name s (by simp only [List.mem_cons, List.not_mem_nil, or_false] at hs ⊢; rcases hs with rfl | rfl | rfl <;> simp)]
      exact RPlain.name (E := Par n .eq) (h0.elim id fun h => (h s hs rfl).elim)
    · have : ∀ s ∈ nameL, s ∈ startL := by decide
      exact this s hs
    · intro x hx
      rw [List.mem_singleton.mp hx]
      have : ∀ s ∈ nameL, s ∈ pieceL := by decide
      exact this s hs
  | @num s k hs =>
    refine ⟨fun n hn ts ht t0 r h0 => ?_, ⟨s, [], rfl, ?_⟩, ?_⟩
    · obtain ⟨n, rfl⟩ : ∃ k, n = k + 1 := ⟨n - 1, by omega⟩
      obtain ⟨p, tb, rfl, hb⟩ := ht.cons
      obtain rfl := hb.nil
      have e : tkOf s = .num k := by
        simp only [List.mem_cons, Prod.mk.injEq, List.not_mem_nil, or_false] at hs
        rcases hs with ⟨rfl, rfl⟩ | ⟨rfl, rfl⟩ | ⟨rfl, rfl⟩ | ⟨rfl, rfl⟩ <;> simp [tkOf]
      rw [e]
      exact RPlain.num (E := Par n .eq)
    · have : ∀ x ∈ numL, x.1 ∈ startL := by decide
      exact this _ hs
    · intro x hx
      rw [List.mem_singleton.mp hx]
      have : ∀ x ∈ numL, x.1 ∈ pieceL := by decide
      exact this _ hs
  | @paren t d ht' =>
    have hr := hR _ _ ht'
    refine ⟨fun n hn ts ht t0 r h0 => ?_, ⟨"(", _, rfl, by decide⟩, ?_⟩
    · obtain ⟨n, rfl⟩ : ∃ k, n = k + 1 := ⟨n - 1, by omega⟩
      obtain ⟨tab, tc, rfl, hab, hc⟩ := ht.app
      obtain ⟨ta, tb, rfl, ha, hb⟩ := hab.app
      obtain ⟨p, ta', rfl, ha'⟩ := ha.cons
      obtain rfl := ha'.nil
      obtain ⟨q, tc', rfl, hc'⟩ := hc.cons
      obtain rfl := hc'.nil
      rw [tk_sign "(" (by decide), tk_sign ")" (by decide)]
      simp only [List.cons_append, List.nil_append, List.append_assoc]
      exact RPlain.paren (R := fun c => Par n (.rest c)) (row_eq hr (n := n) (by omega) hb (by decide))
    · intro x hx
      simp only [List.mem_append, List.mem_singleton] at hx
      rcases hx with (rfl | hx) | rfl
      · decide
      · exact hr.pcs x hx
      · decide
  | @fcall t d t2 d2 h1 h2 =>
    have hr := hR _ _ h1
    have hr2 := hR _ _ h2
    refine ⟨fun n hn ts ht t0 r h0 => ?_, ⟨"f", _, rfl, by decide⟩, ?_⟩
    · obtain ⟨n, rfl⟩ : ∃ k, n = k + 2 := ⟨n - 2, by omega⟩
      obtain ⟨t4, t5, rfl, h4, h5⟩ := ht.app
      obtain ⟨t3, tb2, rfl, h3, hb2⟩ := h4.app
      obtain ⟨t1', tcm, rfl, h1', hcm⟩ := h3.app
      obtain ⟨tf, tb1, rfl, hf, hb1⟩ := h1'.app
      obtain ⟨p1, t6, rfl, h6⟩ := hf.cons
      obtain ⟨p2, t7, rfl, h7⟩ := h6.cons
      obtain rfl := h7.nil
      obtain ⟨p3, t8, rfl, h8⟩ := hcm.cons
      obtain rfl := h8.nil
      obtain ⟨p4, t9, rfl, h9⟩ := h5.cons
      obtain rfl := h9.nil
      rw [tk_sign "(" (by decide), tk_sign ")" (by decide), tk_sign "," (by decide), tk_name "f" (by decide)]
      simp only [List.cons_append, List.nil_append, List.append_assoc]
      obtain ⟨ta, tr, e, n1, n2⟩ := row_head hr hb1
      have e1 := row_eq hr (n := n) (by omega) hb1 (x := ",") (p := p3) (r := tb2 ++ (sg ")", p4) :: t0 :: r) (by decide)
      have e2 := row_eq hr2 (n := n) (by omega) hb2 (x := ")") (p := p4) (r := t0 :: r) (by decide)
      refine RPlain.call (E := Par (n + 1) .eq) (R := fun c => Par (n + 1) (.rest c)) ?_
      show RRest ")" (Par n .eq) _ _
      rw [e] at e1 ⊢
      exact .some (n := 1) n1 e1 (.more (by show 1 ≤ 1000; decide) e2 (.stop))
    · intro x hx
      simp only [List.mem_append, List.mem_singleton, List.mem_cons, List.not_mem_nil, or_false] at hx
      rcases hx with ((((rfl | rfl) | hx) | rfl) | hx) | rfl
      · decide
      · decide
      · exact hr.pcs x hx
      · decide
      · exact hr2.pcs x hx
      · decide
  | @leq t d t2 d2 h1 h2 =>
    have hr := hR _ _ h1
    have hr2 := hR _ _ h2
    refine ⟨fun n hn ts ht t0 r h0 => ?_, ⟨"[", _, rfl, by decide⟩, ?_⟩
    · obtain ⟨n, rfl⟩ : ∃ k, n = k + 3 := ⟨n - 3, by omega⟩
      obtain ⟨t4, t5, rfl, h4, h5⟩ := ht.app
      obtain ⟨t3, tb2, rfl, h3, hb2⟩ := h4.app
      obtain ⟨t1', tcm, rfl, h1', hcm⟩ := h3.app
      obtain ⟨tf, tb1, rfl, hf, hb1⟩ := h1'.app
      obtain ⟨p1, t6, rfl, h6⟩ := hf.cons
      obtain rfl := h6.nil
      obtain ⟨p3, t8, rfl, h8⟩ := hcm.cons
      obtain rfl := h8.nil
      obtain ⟨p4, t9, rfl, h9⟩ := h5.cons
      obtain rfl := h9.nil
      rw [tk_sign "[" (by decide), tk_sign "]" (by decide), tk_sign "=" (by decide)]
      simp only [List.cons_append, List.nil_append, List.append_assoc]
      obtain ⟨ta, tr, e, n1, n2⟩ := row_head hr hb1
      have e1 := hr.read n (by omega) tb1 hb1 (sg "=", p3) (tb2 ++ (sg "]", p4) :: t0 :: r) (stop_sg _ _ (by decide))
      have e2 := hr2.read n (by omega) tb2 hb2 (sg "]", p4) (t0 :: r) (stop_sg _ _ (by decide))
      refine RPlain.list (E := Par (n + 2) .eq) (R := fun c => Par (n + 2) (.rest c)) ?_
      show RRest "]" (Par (n + 1) .eq) _ _
      rw [e] at e1 ⊢
      exact .some (n := 0) n2 (REq.two (P := Par n .total) e1 e2) .stop
    · intro x hx
      simp only [List.mem_append, List.mem_singleton] at hx
      rcases hx with (((rfl | hx) | rfl) | hx) | rfl
      · decide
      · exact hr.pcs x hx
      · decide
      · exact hr2.pcs x hx
      · decide
  | gcall =>
    refine ⟨fun n hn ts ht t0 r h0 => ?_, ⟨"g", _, rfl, by decide⟩, by decide⟩
    obtain ⟨n, rfl⟩ : ∃ k, n = k + 2 := ⟨n - 2, by omega⟩
    obtain ⟨p1, t6, rfl, h6⟩ := ht.cons
    obtain ⟨p2, t7, rfl, h7⟩ := h6.cons
    obtain ⟨p3, t8, rfl, h8⟩ := h7.cons
    obtain rfl := h8.nil
    rw [tk_sign "(" (by decide), tk_sign ")" (by decide), tk_name "g" (by decide)]
    refine RPlain.call (E := Par (n + 1) .eq) (R := fun c => Par (n + 1) (.rest c)) ?_
    show RRest ")" (Par n .eq) _ _
    exact .none
abbrev O0 : List String → PyData → Prop := OpdP fun _ _ => False
abbrev R0 : List String → PyData → Prop := RowP O0
abbrev O1 : List String → PyData → Prop := OpdP R0
abbrev R1 : List String → PyData → Prop := RowP O1
theorem ok0 : ∀ t d, O0 t d → OK 6 t d := fun t d h => opd_ok (N := 0) (fun _ _ h => h.elim) h
theorem ok1 : ∀ t d, O1 t d → OK 32 t d := fun t d h => opd_ok (N := 26) (fun _ _ h => row_read ok0 h) h
end

-- P6
section
def StopAt (s : List Nat) : Prop := s = [] ∨ ∃ c s', s = c :: s' ∧ isWs c = false ∧ [47, 42].isPrefixOf s = false
theorem StopAt.blank {s : List Nat} (h : StopAt s) (n : Nat) : BlankS n s s := by
  rcases h with rfl | ⟨c, s', rfl, h1, h2⟩
  · exact .nil
  · exact .stop h1 h2
theorem blank_fill {s : List Nat} (h : StopAt s) : ∀ f ∈ fillL, ∃ k, BlankS k (cod f ++ s) s := by
  intro f hf
  simp only [List.mem_cons, List.not_mem_nil, or_false] at hf
  rcases hf with rfl | rfl | rfl | rfl | rfl
  · exact ⟨1, by rw [show cod " " = [32] from by decide]; exact .ws (by decide) (h.blank 0)⟩
  · exact ⟨1, by rw [show cod "\n" = [10] from by decide]; exact .ws (by decide) (h.blank 0)⟩
  · exact ⟨1, by rw [show cod "/* - */" = remark from by decide]; exact .rem (h.blank 0)⟩
  · exact ⟨2, by rw [show cod " \t" = [32, 9] from by decide]; exact .ws (by decide) (.ws (by decide) (h.blank 0))⟩
  · exact ⟨1, by rw [show cod " " = [32] from by decide]; exact .ws (by decide) (h.blank 0)⟩
theorem pre_app : ∀ (a b c : List Nat), a.length ≤ b.length → a.isPrefixOf (b ++ c) = a.isPrefixOf b
  | [], b, c, _ => by simp [List.isPrefixOf]
  | x :: a, [], c, h => by simp at h
  | x :: a, y :: b, c, h => by
    simp only [List.cons_append, List.isPrefixOf]
    rw [pre_app a b c (by simpa using h)]
theorem two_len : ∀ s ∈ pieceL, ∀ f ∈ fillL, 2 ≤ (cod s ++ cod f).length := by decide +kernel
theorem sign_len : ∀ x ∈ signL, (Str.ofString x).cps.toList.length ≤ 2 := by decide +kernel
theorem piece_stop : ∀ s ∈ pieceL, ∀ f ∈ fillL, (cod s ++ cod f ≠ []) ∧ isWs ((cod s ++ cod f).headD 0) = false ∧ [47, 42].isPrefixOf (cod s ++ cod f) = false := by decide +kernel
theorem piece_at {s f : String} (hs : s ∈ pieceL) (hf : f ∈ fillL) (r : List Nat) : StopAt (cod s ++ (cod f ++ r)) := by
  obtain ⟨h1, h2, h3⟩ := piece_stop s hs f hf
  rw [← List.append_assoc]
  cases e : cod s ++ cod f with
  | nil => exact absurd e h1
  | cons c l =>
    rw [e] at h2
    refine .inr ⟨c, l ++ r, rfl, h2, ?_⟩
    rw [← e, pre_app [47, 42] (cod s ++ cod f) r (two_len s hs f hf), h3]
theorem longS_app {s : List Nat} (h2 : 2 ≤ s.length) (r : List Nat) : longS signL (s ++ r) = longS signL s := by
  unfold longS
  have : ∀ l : List String, (∀ x ∈ l, x ∈ signL) → l.find? (fun x => (Str.ofString x).cps.toList.isPrefixOf (s ++ r)) = l.find? fun x => (Str.ofString x).cps.toList.isPrefixOf s := by
    intro l
    induction l with
    | nil => intro _; rfl
    | cons x l ih =>
      intro h
      rw [List.find?_cons, List.find?_cons, pre_app _ _ _ (Nat.le_trans (sign_len x (h x (.head _))) h2), ih fun y hy => h y (.tail _ hy)]
  rw [this signL fun _ h => h]
abbrev sgnL : List String := ["(", ")", ",", "[", "=", "]", "+", "-", "*", "/", "^", "**", "!"]
abbrev nmLen : List String := ["x", "y_1", "%o2", "f", "g"]
abbrev nuL : List (String × Int) := [("0", 0), ("7", 7), ("120", 120), ("100000000000000000000", 100000000000000000000)]
theorem piece_kind : ∀ s ∈ pieceL, s ∈ sgnL ∨ s ∈ nmLen ∨ s ∈ nuL.map Prod.fst := by decide
theorem sign_ok : ∀ s ∈ sgnL, ∀ f ∈ fillL, longS signL (cod s ++ cod f) = Str.ofString s := by decide +kernel
theorem sign_ch : ∀ s ∈ sgnL, cod s ≠ [] ∧ isFig ((cod s).headD 0) = false ∧ isNm ((cod s).headD 0) = false ∧ Str.ofString s ≠ Str.ofString "" := by decide +kernel
theorem name_ch : ∀ s ∈ nmLen, cod s ≠ [] ∧ isFig ((cod s).headD 0) = false ∧ (∀ c ∈ cod s, isNm c = true) := by decide +kernel
theorem num_ch : ∀ s ∈ nuL, cod s.1 ≠ [] ∧ (cod s.1).length ≤ 640 ∧ (∀ c ∈ cod s.1, isFig c = true) := by decide +kernel
theorem num_int : ∀ s ∈ nuL, PySem.intText? ⟨(cod s.1).toArray⟩ = some s.2 := by decide +kernel
theorem fill_ch : ∀ f ∈ fillL, cod f ≠ [] ∧ isNm ((cod f).headD 0) = false := by decide +kernel
theorem cod_back (s : String) : (⟨(cod s).toArray⟩ : Str) = Str.ofString s := by
  show (⟨(Str.ofString s).cps.toList.toArray⟩ : Str) = _
  rw [Array.toArray_toList]
theorem len_cod (s : String) : (Str.ofString s).length = (cod s).length := by simp [Str.length]
def NoNm (s : List Nat) : Prop := ∀ c r, s = c :: r → isNm c = false
theorem tok_step {s : String} (hs : s ∈ pieceL) {suf suf' : List Nat} {nb m : Nat} {acc : List TokP} {p : Nat} {r : TRes} (hsig : s ∈ sgnL → longS signL (cod s ++ suf) = Str.ofString s) (hno : s ∉ sgnL → NoNm suf) (hb : BlankS nb suf suf')
    (h : LTok m (acc ++ [(tkOf s, (p : Int))]) (p + (cod s).length + (suf.length - suf'.length)) suf' r) : LTok (m + 1) acc p (cod s ++ suf) r := by
  rcases piece_kind s hs with hk | hk | hk
  · obtain ⟨h1, h2, h3, h4⟩ := sign_ch s hk
    have hz := hsig hk
    rw [tk_sign s hk] at h
    cases e : cod s with
    | nil => exact absurd e h1
    | cons c l =>
      rw [e] at h2 h3 hz
      rw [← len_cod] at h
      have e' : (Str.ofString s).cps.toList ++ suf = c :: (l ++ suf) := congrArg (· ++ suf) e
      exact LTok.sign (s := l ++ suf) (z := Str.ofString s) h2 h3 hz h4 e' hb h
  · obtain ⟨h1, h2, h3⟩ := name_ch s hk
    have hns : s ∉ sgnL := by
      have : ∀ s ∈ nmLen, s ∉ sgnL := by decide
      exact this s hk
    rw [tk_name s hk] at h
    cases e : cod s with
    | nil => exact absurd e h1
    | cons c l =>
      rw [e] at h2 h3 h
      have hz : (⟨(c :: l).toArray⟩ : Str) = Str.ofString s := (congrArg (fun q : List Nat => (⟨q.toArray⟩ : Str)) e).symm.trans (cod_back s)
      rw [← hz] at h
      exact LTok.name h2 (h3 c (.head _)) (fun d hd => h3 d (.tail _ hd)) (hno hns) hb h
  · obtain ⟨⟨s', k⟩, hk', rfl⟩ := List.mem_map.mp hk
    obtain ⟨h1, h2, h3⟩ := num_ch _ hk'
    have hns : s' ∉ sgnL := by
      have : ∀ s ∈ nuL, s.1 ∉ sgnL := by decide
      exact this _ hk'
    have e : tkOf s' = .num k := by
      simp only [List.mem_cons, Prod.mk.injEq, List.not_mem_nil, or_false] at hk'
      rcases hk' with ⟨rfl, rfl⟩ | ⟨rfl, rfl⟩ | ⟨rfl, rfl⟩ | ⟨rfl, rfl⟩ <;> simp [tkOf]
    rw [show tkOf (s', k).1 = .num k from e] at h
    exact LTok.num h1 h2 h3 (hno hns) (num_int _ hk') hb h
theorem fill_no {f : String} (hf : f ∈ fillL) (r : List Nat) : NoNm (cod f ++ r) := by
  obtain ⟨h1, h2⟩ := fill_ch f hf
  intro c l e
  cases e' : cod f with
  | nil => exact absurd e' h1
  | cons d q =>
    rw [e'] at e h2
    cases e
    exact h2
theorem wr_stop {tl : List Nat} (h : StopAt tl) : ∀ (txs fs : List String), txs.length = fs.length → (∀ s ∈ txs, s ∈ pieceL) → (∀ f ∈ fs, f ∈ fillL) → StopAt (wr txs fs ++ tl)
  | [], [], _, _, _ => by simpa [wr] using h
  | t :: ts, f :: fs, _, ht, hf => by
    rw [wr, List.append_assoc, List.append_assoc]
    exact piece_at (ht t (.head _)) (hf f (.head _)) _
  | [], _ :: _, h, _, _ => by simp at h
  | _ :: _, [], h, _, _ => by simp at h
theorem tok_row {tl : List Nat} (hst : StopAt tl) : ∀ (txs fs : List String) (acc : List TokP) (p : Nat), txs.length = fs.length → (∀ s ∈ txs, s ∈ pieceL) → (∀ f ∈ fs, f ∈ fillL) →
    ∃ n toks, Toks toks txs ∧ ∀ m r, LTok m (acc ++ toks) (p + (wr txs fs).length) tl r → LTok (m + n) acc p (wr txs fs ++ tl) r
  | [], [], acc, p, _, _, _ => ⟨0, [], rfl, fun m r h => by simpa [wr] using h⟩
  | t :: ts, f :: fs, acc, p, hl, ht, hf => by
    have hts := ht t (.head _)
    have hff := hf f (.head _)
    have hst' := wr_stop hst ts fs (by simpa using hl) (fun s hs => ht s (.tail _ hs)) (fun s hs => hf s (.tail _ hs))
    obtain ⟨k, hk⟩ := blank_fill hst' f hff
    obtain ⟨n, toks, h1, h2⟩ := tok_row hst ts fs (acc ++ [(tkOf t, (p : Int))]) (p + (cod t).length + (cod f).length) (by simpa using hl) (fun s hs => ht s (.tail _ hs)) (fun s hs => hf s (.tail _ hs))
    refine ⟨n + 1, (tkOf t, (p : Int)) :: toks, by unfold Toks at *; simp [h1], fun m r h => ?_⟩
    rw [wr, List.append_assoc, List.append_assoc]
    refine tok_step (m := m + n) hts (fun hs => ?_) (fun _ => fill_no hff _) hk ?_
    · rw [← List.append_assoc, longS_app (two_len t hts f hff), sign_ok t hs f hff]
    · have e : (cod f ++ (wr ts fs ++ tl)).length - (wr ts fs ++ tl).length = (cod f).length := by simp only [List.length_append]; omega
      rw [e]
      refine h2 m r ?_
      have e2 : p + (cod t).length + (cod f).length + (wr ts fs).length = p + (wr (t :: ts) (f :: fs)).length := by rw [wr]; simp only [List.length_append]; omega
      rw [e2]
      simpa using h
  | [], _ :: _, _, _, h, _, _ => by simp at h
  | _ :: _, [], _, _, h, _, _ => by simp at h
end

-- P7
section
abbrev eofT (p : Int) : TokP := (.eof, p)
theorem eof_plain (n : Nat) (p : Int) (ts : List TokP) : Par (n + 1) .plain (eofT p :: ts) (.fail p) :=
  RPlain.bad (t := eofT p) (by show ("end" : String) ≠ "number"; decide) (by show ("end" : String) ≠ "name"; decide) (isS_eof _ _) (isS_eof _ _)
theorem up_bad {n : Nat} {t : TokP} {ts : List TokP} {a : Int} (h1 : isS t "-" = false) (h2 : isS t "+" = false) (h : Par n .plain (t :: ts) (.fail a)) :
    Par (n + 3) .signed (t :: ts) (.fail a) ∧ Par (n + 4) .prod (t :: ts) (.fail a) ∧ Par (n + 6) .eq (t :: ts) (.fail a) := by
  have hp : Par (n + 1) .post (t :: ts) (.fail a) := RPost.bad (P := Par n .plain) h
  have hw : Par (n + 2) .power (t :: ts) (.fail a) := RPower.bad (X := Par (n + 1) .post) (S := Par (n + 1) .signed) hp
  have hs : Par (n + 3) .signed (t :: ts) (.fail a) := RSigned.up (S := Par (n + 2) .signed) (W := Par (n + 2) .power) h1 h2 hw
  have hm : Par (n + 4) .prod (t :: ts) (.fail a) := RProd.bad (P := Par (n + 3) .signed) hs
  have ht : Par (n + 5) .total (t :: ts) (.fail a) := RTotal.bad (P := Par (n + 4) .prod) hm
  exact ⟨hs, hm, REq.bad (P := Par (n + 5) .total) ht⟩
theorem eof_bad {n : Nat} (hn : 7 ≤ n) (p : Int) (ts : List TokP) : Par n .signed (eofT p :: ts) (.fail p) ∧ Par n .prod (eofT p :: ts) (.fail p) ∧ Par n .eq (eofT p :: ts) (.fail p) := by
  refine ⟨?_, ?_, ?_⟩
  · obtain ⟨k, rfl⟩ : ∃ k, n = k + 1 + 3 := ⟨n - 4, by omega⟩
    exact (up_bad (isS_eof _ _) (isS_eof _ _) (eof_plain k p ts)).1
  · obtain ⟨k, rfl⟩ : ∃ k, n = k + 1 + 4 := ⟨n - 5, by omega⟩
    exact (up_bad (isS_eof _ _) (isS_eof _ _) (eof_plain k p ts)).2.1
  · obtain ⟨k, rfl⟩ : ∃ k, n = k + 1 + 6 := ⟨n - 7, by omega⟩
    exact (up_bad (isS_eof _ _) (isS_eof _ _) (eof_plain k p ts)).2.2
theorem tx_ot (u : U) : ∃ pre, u.tx = pre ++ u.ot := ⟨_, rfl⟩
theorem last_ot : ∀ (us : List U) (u : U), ∃ pre, u.tx ++ flatT us = pre ++ (lastU u us).ot
  | [], u => by
    obtain ⟨pre, e⟩ := tx_ot u
    exact ⟨pre, by rw [flatT, List.append_nil, e]; rfl⟩
  | v :: vs, u => by
    obtain ⟨pre, e⟩ := last_ot vs v
    refine ⟨u.tx ++ v.sg :: pre, ?_⟩
    show u.tx ++ (v.sg :: (v.tx ++ flatT vs)) = u.tx ++ v.sg :: pre ++ (lastU v vs).ot
    rw [e]
    simp
def NamL (txs : List String) : Prop := ∃ s ∈ nameL, txs.getLast? = some s
theorem top_sum {txs : List String} {d : PyData} (h : R1 txs d) {b c : Option Int} {rest : List TokP} (hl : ∀ v : U, O1 v.t v.d → (∃ pre, txs = pre ++ v.ot) → Hl 32 b rest v) (hst : b = none → ∃ t0 r, rest = t0 :: r ∧ isS t0 "*" = false ∧ isS t0 "/" = false)
    (hbc : ∀ a, b = some a → c = some a) (hend : b = none → ∀ acc, ∃ k, LTotal (Par 59 .prod) k acc rest (resO c (dSum acc) rest)) {ts : List TokP} (ht : Toks ts txs) : Par 60 .total (ts ++ rest) (resO c d rest) := by
  obtain ⟨k, its, hk1, hk4, hu, hd⟩ := h
  rcases units_us hu with h | ⟨u, us, h1, h2, h3, rfl, rfl⟩
  · omega
  obtain rfl := lsum_fun hd (sum_law u us h3)
  exact sum_read us u (fun v hv => ok1 _ _ (h2 v hv)) h3 (hl _ (h2 _ (lastU_mem _ _)) (last_ot us u)) hst hbc hend (by omega) (by omega) ht
abbrev stopM : List String := ["!", "^", "**", "*", "/", "+", "-"]
theorem last_app {α : Type} (a b : List α) (h : b ≠ []) : (a ++ b).getLast? = b.getLast? := by
  rw [List.getLast?_append]
  cases e : b.getLast? with
  | none => exact absurd (List.getLast?_eq_none_iff.mp e) h
  | some x => rfl
theorem top_ok {txs : List String} {d : PyData} (h : R1 txs d) {t0 : TokP} {r : List TokP} (h1 : isS t0 "(" = false ∨ ¬ NamL txs) (h2 : ∀ y ∈ stopM, isS t0 y = false) {ts : List TokP} (ht : Toks ts txs) : Par 60 .total (ts ++ t0 :: r) (.ok d (t0 :: r)) := by
  refine top_sum (b := none) (c := none) h (fun v hv hp => ?_) (fun _ => ⟨t0, r, rfl, h2 _ (by simp), h2 _ (by simp)⟩) (fun a h => by cases h) (fun _ acc => ⟨0, .stop (h2 _ (by simp)) (h2 _ (by simp))⟩) ht
  refine hl_stop (ok1 _ _ hv) (h1.imp id fun hn s hs e => hn ?_) (h2 _ (by simp)) (h2 _ (by simp)) (h2 _ (by simp))
  obtain ⟨pre, hp⟩ := hp
  exact ⟨s, hs, by rw [hp, e, last_app _ _ (by simp)]; rfl⟩
theorem top_eq {txs : List String} {d : PyData} (h : R1 txs d) {t0 : TokP} {r : List TokP} (h1 : isS t0 "(" = false ∨ ¬ NamL txs) (h2 : ∀ y ∈ stopM, isS t0 y = false) (h3 : isS t0 "=" = false) {ts : List TokP} (ht : Toks ts txs) : Par 61 .eq (ts ++ t0 :: r) (.ok d (t0 :: r)) :=
  REq.one (P := Par 60 .total) (top_ok h h1 h2 ht) h3
theorem top_plus {txs : List String} {d : PyData} (h : R1 txs d) {p q : Int} {ts : List TokP} (ht : Toks ts txs) : Par 61 .eq (ts ++ [(sg "+", p), eofT q]) (.fail q) := by
  refine REq.bad (P := Par 60 .total) (top_sum (b := none) (c := some q) h (fun v hv hp => ?_) (fun _ => ⟨_, _, rfl, isS_no (by decide), isS_no (by decide)⟩) (fun a h => by cases h) (fun _ acc => ⟨0, .plusBad (eof_bad (by decide) q []).2.1⟩) ht)
  exact hl_stop (ok1 _ _ hv) (.inl (isS_no (by decide))) (isS_no (by decide)) (isS_no (by decide)) (isS_no (by decide))
theorem top_pow {txs : List String} {d : PyData} (h : R1 txs d) {p q : Int} {ts : List TokP} (ht : Toks ts txs) : Par 61 .eq (ts ++ [(sg "^", p), eofT q]) (.fail q) := by
  refine REq.bad (P := Par 60 .total) (top_sum (b := some q) (c := some q) h (fun v hv hp => ?_) (fun h => by cases h) (fun a h => h) (fun h => by cases h) ht)
  intro n hn ts ht
  obtain ⟨n, rfl⟩ : ∃ k, n = k + 1 := ⟨n - 1, by omega⟩
  exact RPower.powBad (post_read (ok1 _ _ hv) (n := n) (by omega) ht (.inl (isS_no (by decide))) (isS_no (by decide))) (.inl rfl) (eof_bad (n := n) (by omega) q []).1
theorem opd_name {t : List String} {d : PyData} (h : O1 t d) {s : String} (hs : s ∈ nameL) (hl : t.getLast? = some s) : t = [s] := by
  cases h with
  | @name s' hs' => simpa using hl
  | @num s' k hk =>
    have : ∀ x ∈ numL, x.1 ∉ nameL := by decide
    simp only [List.getLast?_singleton, Option.some.injEq] at hl
    exact absurd (hl ▸ hs) (this _ hk)
  | paren _ => 
    rw [last_app _ _ (by simp)] at hl
    simp only [List.getLast?_singleton, Option.some.injEq] at hl
    exact absurd (hl ▸ hs) (by decide)
  | fcall _ _ => 
    rw [last_app _ _ (by simp)] at hl
    simp only [List.getLast?_singleton, Option.some.injEq] at hl
    exact absurd (hl ▸ hs) (by decide)
  | leq _ _ => 
    rw [last_app _ _ (by simp)] at hl
    simp only [List.getLast?_singleton, Option.some.injEq] at hl
    exact absurd (hl ▸ hs) (by decide)
  | gcall =>
    have hl : some ")" = some s := hl
    simp only [Option.some.injEq] at hl
    exact absurd (hl ▸ hs) (by decide)
theorem ot_name {v : U} (h : O1 v.t v.d) {s : String} (hs : s ∈ nameL) (hl : v.ot.getLast? = some s) : v.ot = [s] := by
  unfold U.ot at *
  cases hf : v.fx with
  | false =>
    rw [hf] at hl
    simp only [Bool.false_eq_true, if_false, List.append_nil] at *
    exact opd_name h hs hl
  | true =>
    rw [hf] at hl
    simp only [if_true] at hl
    rw [last_app _ _ (by simp)] at hl
    simp only [List.getLast?_singleton, Option.some.injEq] at hl
    exact absurd (hl ▸ hs) (by decide)
theorem ot_ne {v : U} (h : O1 v.t v.d) : v.ot ≠ [] := by
  obtain ⟨s, t', e, _⟩ := (ok1 _ _ h).head
  unfold U.ot
  rw [e]
  simp
theorem top_call {txs : List String} {d : PyData} (h : R1 txs d) (hn : NamL txs) {p q : Int} {ts : List TokP} (ht : Toks ts txs) : Par 61 .eq (ts ++ [(sg "(", p), eofT q]) (.fail q) := by
  refine REq.bad (P := Par 60 .total) (top_sum (b := some q) (c := some q) h (fun v hv hp => ?_) (fun h => by cases h) (fun a h => h) (fun h => by cases h) ht)
  intro n hn' ts ht
  obtain ⟨s, hs, hl⟩ := hn
  obtain ⟨pre, hp⟩ := hp
  rw [hp, last_app _ _ (ot_ne hv)] at hl
  rw [ot_name hv hs hl] at ht
  obtain ⟨p', tb, rfl, hb⟩ := ht.cons
  obtain rfl := hb.nil
  rw [tk_name s (by simp only [List.mem_cons, List.not_mem_nil, or_false] at hs ⊢; rcases hs with rfl | rfl | rfl <;> simp)]
  obtain ⟨n, rfl⟩ : ∃ k, n = k + 4 := ⟨n - 4, by omega⟩
  have h1 : Par (n + 1) (.rest ")") [eofT q] (.fail q) := RRest.bad (P := Par n .eq) (isS_eof _ _) (eof_bad (by omega) q []).2.2
  have h2 : Par (n + 2) .plain ((.name (Str.ofString s), p') :: (sg "(", p) :: [eofT q]) (.fail q) := RPlain.callBad (E := Par (n + 1) .eq) (R := fun c => Par (n + 1) (.rest c)) h1
  have h3 : Par (n + 3) .post ((.name (Str.ofString s), p') :: (sg "(", p) :: [eofT q]) (.fail q) := RPost.bad (P := Par (n + 2) .plain) h2
  exact RPower.bad (X := Par (n + 3) .post) (S := Par (n + 3) .signed) h3
section
variable {x : Str} {txs fs : List String} {d : PyData}
theorem toks_tail {tl : List Nat} (h : R1 txs d) (hl : txs.length = fs.length) (hf : ∀ f ∈ fs, f ∈ fillL) (hst : StopAt tl) (hx : x.cps.toList = wr txs fs ++ tl) :
    ∃ n toks, Toks toks txs ∧ BlankS 0 x.cps.toList x.cps.toList ∧ ∀ m r, LTok m toks (wr txs fs).length tl r → LTok (m + n) [] (x.length - x.cps.toList.length) x.cps.toList r := by
  have hp := (row_read ok1 h).pcs
  obtain ⟨n, toks, h1, h2⟩ := tok_row hst txs fs [] 0 hl hp hf
  have hs := wr_stop hst txs fs hl hp hf
  refine ⟨n, toks, h1, by rw [hx]; exact hs.blank 0, fun m r h => ?_⟩
  have e : x.length - x.cps.toList.length = 0 := by simp [Str.length]
  rw [e, hx]
  exact h2 m r (by simpa using h)
abbrev tailL : List String := [")", "]", ",", "x", "+", "^", "("]
theorem tail_ok : ∀ s ∈ tailL, s ∈ pieceL ∧ (s ∈ sgnL → longS signL (cod s) = Str.ofString s) ∧ (cod s).length = 1 ∧ isWs ((cod s).headD 0) = false ∧ [47, 42].isPrefixOf (cod s) = false := by decide +kernel
theorem tail_stop {s : String} (hs : s ∈ tailL) : StopAt (cod s) := by
  obtain ⟨_, _, h1, h2, h3⟩ := tail_ok s hs
  cases e : cod s with
  | nil => rw [e] at h1; cases h1
  | cons c l =>
    rw [e] at h2 h3
    exact .inr ⟨c, l, rfl, h2, h3⟩
theorem tail_tok {s : String} (hs : s ∈ tailL) (acc : List TokP) (p : Nat) : LTok 1 acc p (cod s) (.ok (acc ++ [(tkOf s, (p : Int)), eofT ((p + 1 : Nat) : Int)])) := by
  obtain ⟨h0, h1, h2, _, _⟩ := tail_ok s hs
  have := tok_step (suf := []) (suf' := []) (nb := 0) (m := 0) (acc := acc) (p := p) h0 (by rw [List.append_nil]; exact h1) (fun _ c r e => by cases e) .nil (.stop)
  rw [List.append_nil] at this
  rw [h2] at this
  simpa using this
theorem rd_ok (h : R1 txs d) (hl : txs.length = fs.length) (hf : ∀ f ∈ fs, f ∈ fillL) (hx : x.cps.toList = wr txs fs) : ReadR x (.ok d []) := by
  obtain ⟨n, toks, h1, h2, h3⟩ := toks_tail (tl := []) h hl hf (.inl rfl) (by rw [hx, List.append_nil])
  exact .ok h2 (h3 0 _ .stop) (k := 61) (by decide) (top_eq h (t0 := eofT _) (r := []) (.inl (isS_eof _ _)) (fun _ _ => isS_eof _ _) (isS_eof _ _) h1) rfl
theorem behind_ok : ∀ s ∈ [")", "]", ",", "x"], s ∈ tailL ∧ (tkOf s).isSign (Str.ofString "(") = false ∧ (∀ y ∈ stopM, (tkOf s).isSign (Str.ofString y) = false) ∧ (tkOf s).isSign (Str.ofString "=") = false ∧ (tkOf s).kind ≠ "end" := by decide
theorem rd_behind (h : R1 txs d) (hl : txs.length = fs.length) (hf : ∀ f ∈ fs, f ∈ fillL) {s : String} (hs : s ∈ [")", "]", ",", "x"]) (hx : x.cps.toList = wr txs fs ++ cod s) : ReadR x (.fail ((wr txs fs).length : Nat)) := by
  obtain ⟨c1, c2, c3, c4, c5⟩ := behind_ok s hs
  obtain ⟨n, toks, h1, h2, h3⟩ := toks_tail h hl hf (tail_stop c1) hx
  exact .behind h2 (h3 1 _ (tail_tok c1 _ _)) (k := 61) (by decide) (top_eq h (t0 := (tkOf s, _)) (.inl c2) c3 c4 h1) c5
theorem rd_open (h : R1 txs d) (hl : txs.length = fs.length) (hf : ∀ f ∈ fs, f ∈ fillL) (hn : ¬ NamL txs) (hx : x.cps.toList = wr txs fs ++ cod "(") : ReadR x (.fail ((wr txs fs).length : Nat)) := by
  obtain ⟨n, toks, h1, h2, h3⟩ := toks_tail h hl hf (tail_stop (s := "(") (by decide)) hx
  exact .behind h2 (h3 1 _ (tail_tok (by decide) _ _)) (k := 61) (by decide) (top_eq h (t0 := (tkOf "(", _)) (.inr hn) (by show ∀ y ∈ stopM, (tkOf "(").isSign (Str.ofString y) = false; decide) (by show (tkOf "(").isSign (Str.ofString "=") = false; decide) h1) (by show (tkOf "(").kind ≠ "end"; decide)
theorem rd_call (h : R1 txs d) (hl : txs.length = fs.length) (hf : ∀ f ∈ fs, f ∈ fillL) (hn : NamL txs) (hx : x.cps.toList = wr txs fs ++ cod "(") : ReadR x (.fail (((wr txs fs).length + 1 : Nat) : Int)) := by
  obtain ⟨n, toks, h1, h2, h3⟩ := toks_tail h hl hf (tail_stop (s := "(") (by decide)) hx
  have := h3 1 _ (tail_tok (s := "(") (by decide) _ _)
  rw [tk_sign "(" (by decide)] at this
  exact .bad h2 this (k := 61) (by decide) (top_call h hn h1)
theorem rd_plus (h : R1 txs d) (hl : txs.length = fs.length) (hf : ∀ f ∈ fs, f ∈ fillL) (hx : x.cps.toList = wr txs fs ++ cod "+") : ReadR x (.fail (((wr txs fs).length + 1 : Nat) : Int)) := by
  obtain ⟨n, toks, h1, h2, h3⟩ := toks_tail h hl hf (tail_stop (s := "+") (by decide)) hx
  have := h3 1 _ (tail_tok (s := "+") (by decide) _ _)
  rw [tk_sign "+" (by decide)] at this
  exact .bad h2 this (k := 61) (by decide) (top_plus h h1)
theorem rd_pow (h : R1 txs d) (hl : txs.length = fs.length) (hf : ∀ f ∈ fs, f ∈ fillL) (hx : x.cps.toList = wr txs fs ++ cod "^") : ReadR x (.fail (((wr txs fs).length + 1 : Nat) : Int)) := by
  obtain ⟨n, toks, h1, h2, h3⟩ := toks_tail h hl hf (tail_stop (s := "^") (by decide)) hx
  have := h3 1 _ (tail_tok (s := "^") (by decide) _ _)
  rw [tk_sign "^" (by decide)] at this
  exact .bad h2 this (k := 61) (by decide) (top_pow h h1)
theorem rd_what (h : R1 txs d) (hl : txs.length = fs.length) (hf : ∀ f ∈ fs, f ∈ fillL) (hx : x.cps.toList = wr txs fs ++ cod "?") : ReadR x (.fail ((wr txs fs).length : Nat)) := by
  have e : cod "?" = [63] := by decide +kernel
  rw [e] at hx
  obtain ⟨n, toks, h1, h2, h3⟩ := toks_tail h hl hf (.inr ⟨63, [], rfl, by decide, by decide⟩) hx
  exact .tokBad h2 (h3 0 _ (.signBad (by decide) (by decide) (by decide +kernel)))
theorem rd_two (h : R1 txs d) (hl : txs.length = fs.length) (hf : ∀ f ∈ fs, f ∈ fillL) (hx : x.cps.toList = wr txs fs ++ cod "2x") : ReadR x (.fail (((wr txs fs).length + 1 : Nat) : Int)) := by
  have e : cod "2x" = [50] ++ 120 :: [] := by decide +kernel
  rw [e] at hx
  obtain ⟨n, toks, h1, h2, h3⟩ := toks_tail h hl hf (.inr ⟨50, [120], rfl, by decide, by decide⟩) hx
  exact .tokBad h2 (h3 0 _ (.numBad (run := [50]) (by decide) (by decide) (by decide) (by decide)))
theorem rd_par (h : R1 txs d) (hl : txs.length = fs.length) (hf : ∀ f ∈ fs, f ∈ fillL) (hx : x.cps.toList = cod "(" ++ wr txs fs) : ReadR x (.fail (((wr txs fs).length + 1 : Nat) : Int)) := by
  have hp := (row_read ok1 h).pcs
  have hst : StopAt [] := .inl rfl
  have hw := wr_stop hst txs fs hl hp hf
  rw [List.append_nil] at hw
  obtain ⟨n, toks, h1, h2⟩ := tok_row hst txs fs [(tkOf "(", 0)] 1 hl hp hf
  have h3 := h2 0 _ .stop
  rw [List.append_nil] at h3
  have hlg : longS signL (cod "(" ++ wr txs fs) = Str.ofString "(" := by
    have e : cod "(" = [40] := by decide +kernel
    rw [e]
    rfl
  have h4 := tok_step (s := "(") (suf := wr txs fs) (suf' := wr txs fs) (nb := 0) (acc := []) (p := 0) (by decide) (fun _ => hlg) (fun h => absurd (by decide) h) (hw.blank 0) (m := 0 + n) (r := .ok ([(tkOf "(", 0)] ++ toks ++ [eofT ((1 + (wr txs fs).length : Nat) : Int)]))
    (by
      have e : (cod "(").length = 1 := by decide +kernel
      rw [e, Nat.sub_self]
      exact h3)
  have hs : StopAt (cod "(" ++ wr txs fs) := by
    have e : cod "(" = [40] := by decide +kernel
    rw [e]
    exact .inr ⟨40, _, rfl, by decide, rfl⟩
  have e0 : x.length - (cod "(" ++ wr txs fs).length = 0 := by rw [← hx]; simp [Str.length]
  have hpar : Par 68 .eq ([(tkOf "(", 0)] ++ toks ++ [eofT ((1 + (wr txs fs).length : Nat) : Int)]) (.fail ((1 + (wr txs fs).length : Nat) : Int)) := by
    rw [tk_sign "(" (by decide)]
    have hin : Par 62 .plain ((sg "(", 0) :: (toks ++ [eofT ((1 + (wr txs fs).length : Nat) : Int)])) (.fail ((1 + (wr txs fs).length : Nat) : Int)) :=
      RPlain.parenOpen (E := Par 61 .eq) (t := eofT _) (top_eq h (t0 := eofT _) (r := []) (.inl (isS_eof _ _)) (fun _ _ => isS_eof _ _) (isS_eof _ _) h1) (isS_eof _ _)
    exact (up_bad (isS_no (by decide)) (isS_no (by decide)) hin).2.2
  rw [Nat.add_comm]
  exact .bad (by rw [hx]; exact hs.blank 0) (by rw [e0]; exact h4) (k := 68) (by decide) hpar
theorem rd_nil (hx : x.cps.toList = []) : ReadR x (.fail 0) := by
  have e0 : x.length - ([] : List Nat).length = 0 := by simp [Str.length, ← Array.length_toList, hx]
  exact .bad (n0 := 0) (suf0 := []) (by rw [hx]; exact .nil) (by rw [e0]; exact .stop (n := 0)) (k := 7) (by decide) (eof_bad (n := 7) (by decide) 0 []).2.2
end
end

-- Q1
section
inductive Dp : Nat → PyData → Prop
  | int {n i} : Dp n (.int i)
  | str {n x} : Dp n (.str x)
  | tup {n ds} : (∀ d ∈ ds, Dp n d) → Dp (n + 1) (.tuple ds)
theorem Dp.mono {n : Nat} {d : PyData} (h : Dp n d) : ∀ {k : Nat}, n ≤ k → Dp k d := by
  induction h with
  | int => exact fun _ => .int
  | str => exact fun _ => .str
  | tup _ ih =>
    intro k hk
    obtain ⟨k, rfl⟩ : ∃ j, k = j + 1 := ⟨k - 1, by omega⟩
    exact .tup fun d hd => ih d hd (by omega)
def At71 (h : Heap) : Prop := ∃ t t1 t2, h.IsTuple 71 #[.str (Str.ofString "num") t, .int (-1) t1, .int 1 t2]
theorem rd_tup {h₀ h : Heap} {L : Addr} {S : Led} {v : Value} {ds : List PyData} (N : News h₀ L h S) (h71 : At71 h) (r : Rd S v (.tuple ds)) : ∃ a vs, v = .ref a ∧ h.IsTuple a vs.toArray ∧ Rds S vs ds := by
  generalize he : PyData.tuple ds = d at r
  cases r with
  | int => cases he
  | str => cases he
  | minus =>
    cases he
    obtain ⟨t, t1, t2, hh⟩ := h71
    exact ⟨_, _, rfl, hh, .cons (.str _ _) (.cons (.int _ _) (.cons (.int _ _) .nil))⟩
  | tup hm hr =>
    cases he
    exact ⟨_, _, rfl, ⟨_, (N _ hm).1, rfl, _, rfl⟩, hr⟩
theorem all_true (n : Nat) : ((List.range n).all fun _ => true) = true := by rw [List.all_eq_true]; exact fun _ _ => rfl
theorem rds_at {S : Led} : ∀ {vs : List Value} {ds : List PyData}, Rds S vs ds → ∀ {j : Nat} (hj : j < vs.length), ∃ d ∈ ds, ds[j]? = some d ∧ Rd S vs[j] d
  | _, _, .nil, _, hj => absurd hj (by simp)
  | _, _, .cons a _, 0, _ => ⟨_, .head _, rfl, a⟩
  | _, _, .cons _ r, j + 1, hj => by
    obtain ⟨d, h1, h2, h3⟩ := rds_at r (j := j) (by simpa using hj)
    exact ⟨d, .tail _ h1, h2, h3⟩
theorem eq_terms {h₀ : Heap} {L : Addr} {S : Led} {s : Shared} (N : News h₀ L s.heap S) (h71 : At71 s.heap) {n : Nat} {d : PyData} (hd : Dp n d) :
    ∀ {A : Around} {v v' : Value}, A.units + n < cLine → Rd S v d → Rd S v' d → SeqAt.EqAt A s v v' true := by
  induction hd with
  | int =>
    intro A v v' _ h1 h2
    cases h1
    cases h2
    rename_i i _ t t'
    have := (MeetsSeq.EqGives.int i i t t').at A s
    rwa [beq_self_eq_true] at this
  | str =>
    intro A v v' _ h1 h2
    cases h1
    cases h2
    rename_i x _ t t'
    have := SeqAt.EqAt.str_str (A := A) (s := s) x t x t'
    rwa [beq_self_eq_true] at this
  | @tup n ds _ ih =>
    intro A v v' hu h1 h2
    obtain ⟨a, vs, rfl, ha, hra⟩ := rd_tup N h71 h1
    obtain ⟨b, ws, rfl, hb, hrb⟩ := rd_tup N h71 h2
    by_cases e : a = b
    · subst e
      exact .same _
    · refine .of_refs e ?_
      have := SeqAt.RcAt.tuples (e := fun _ => true) ha hb (A := A) (by omega) (fun j h1 h2 => by
        obtain ⟨d, hd, e1, r1⟩ := rds_at hra (j := j) (by simpa using h1)
        obtain ⟨d', hd', e2, r2⟩ := rds_at hrb (j := j) (by simpa using h2)
        rw [e1] at e2
        cases e2
        exact ih d hd (by show A.units + 1 + n < cLine; omega) (by simpa using r1) (by simpa using r2))
      have hl : vs.length = ws.length := hra.length.trans hrb.length.symm
      simpa [hl, all_true] using this
theorem ne_terms {h₀ : Heap} {L : Addr} {S : Led} {s : Shared} {prog : Program} {w : World} {A : Around} {E Q : Value → Shared → Prop} (N : News h₀ L s.heap S) (h71 : At71 s.heap) {n : Nat} {ds : List PyData} (hd : Dp (n + 1) (.tuple ds)) {v v' : Value} (hu : A.units + n + 1 < cLine) (r1 : Rd S v (.tuple ds)) (r2 : Rd S v' (.tuple ds))
    (h : Q (.bool false) s) : wpAny (model prog w) A (compareOp .NotEq v v') Q E s := by
  obtain ⟨a, vs, rfl, ha, hra⟩ := rd_tup N h71 r1
  obtain ⟨b, ws, rfl, hb, hrb⟩ := rd_tup N h71 r2
  have hl : vs.length = ws.length := hra.length.trans hrb.length.symm
  refine SeqAt.RcNeAt.tuples (e := fun _ => true) ha hb (A := A) (by omega) (fun j h1 h2 => ?_) prog w E Q (by simpa [hl, all_true] using h)
  obtain ⟨d, hd1, e1, r1⟩ := rds_at hra (j := j) (by simpa using h1)
  obtain ⟨d', hd', e2, r2⟩ := rds_at hrb (j := j) (by simpa using h2)
  rw [e1] at e2
  cases e2
  cases hd with
  | tup hd => exact eq_terms N h71 (hd d hd1) (by show A.units + 1 + n < cLine; omega) (by simpa using r1) (by simpa using r2)
end

-- Q2
section
def Dt (n : Nat) (d : PyData) : Prop := Dp n d ∧ ∃ ds, d = .tuple ds
theorem Dt.mono {n k : Nat} {d : PyData} (h : Dt n d) (hk : n ≤ k) : Dt k d := ⟨h.1.mono hk, h.2⟩
theorem dp_minus (n : Nat) : Dp (n + 1) dMinus := .tup fun d hd => by
  simp only [List.mem_cons, List.not_mem_nil, or_false] at hd
  rcases hd with rfl | rfl | rfl
  · exact .str
  · exact .int
  · exact .int
theorem dt_prod {n : Nat} {a b : PyData} (ha : Dp n a) (hb : Dp n b) : Dt (n + 2) (dProd a b) := ⟨.tup fun d hd => by
  simp only [List.mem_cons, List.not_mem_nil, or_false] at hd
  rcases hd with rfl | rfl
  · exact .str
  · refine .tup fun d hd => ?_
    simp only [List.mem_cons, List.not_mem_nil, or_false] at hd
    rcases hd with rfl | rfl
    · exact ha
    · exact hb, _, rfl⟩
theorem dt_three {n : Nat} {s : String} {a b : PyData} (ha : Dp n a) (hb : Dp n b) : Dt (n + 1) (.tuple [strD s, a, b]) := ⟨.tup fun d hd => by
  simp only [List.mem_cons, List.not_mem_nil, or_false] at hd
  rcases hd with rfl | rfl | rfl
  · exact .str
  · exact ha
  · exact hb, _, rfl⟩
theorem dt_two {n : Nat} {s : String} {a : PyData} (ha : Dp n a) : Dt (n + 1) (.tuple [strD s, a]) := ⟨.tup fun d hd => by
  simp only [List.mem_cons, List.not_mem_nil, or_false] at hd
  rcases hd with rfl | rfl
  · exact .str
  · exact ha, _, rfl⟩
theorem dp_tup {n : Nat} {ds : List PyData} (h : ∀ d ∈ ds, Dp n d) : Dp (n + 1) (.tuple ds) := .tup h
theorem dt_call {n : Nat} {s : Str} {ds : List PyData} (h : ∀ d ∈ ds, Dp n d) : Dt (n + 2) (dCall s ds) := dt_three (s := "call") .str (.tup h)
theorem dt_neg {n : Nat} {d : PyData} (hn : 1 ≤ n) (h : Dp n d) : Dt (n + 2) (dNeg d) := dt_prod ((dp_minus 0).mono hn) h
theorem dt_quot {n : Nat} {a b : PyData} (hn : 1 ≤ n) (ha : Dp n a) (hb : Dp n b) : Dt (n + 3) (dQuot a b) := dt_prod (ha.mono (by omega)) (dt_three hb ((dp_minus 0).mono hn)).1
theorem dt_dd {N : Nat} {u : U} (h : Dt N u.d) : Dt (N + 3) u.dd := by
  unfold U.dd
  cases u.fx
  · exact h.mono (by omega)
  · exact (dt_call fun d hd => by rw [List.mem_singleton.mp hd]; exact h.1).mono (by omega)
theorem dt_sgn {N : Nat} {u : U} {d : PyData} (hN : 1 ≤ N) (h : Dt N d) : Dt (N + 2) (sgn u d) := by
  unfold sgn
  cases u.ah
  · exact h.mono (by omega)
  · exact dt_neg hN h.1
theorem dt_pow {N : Nat} : ∀ (us : List U) (u : U), (∀ v ∈ u :: us, Dt N v.d) → Dt (N + 5 + 3 * us.length) (powD u us)
  | [], u, h => (dt_sgn (by omega) (dt_dd (h u (.head _)))).mono (by simp only [List.length_nil]; omega)
  | v :: vs, u, h => by
    have ih := dt_pow vs v fun x hx => h x (.tail _ hx)
    have hu := dt_dd (h u (.head _))
    rw [powD]
    exact (dt_sgn (by omega) (dt_three (hu.1.mono (by omega)) ih.1)).mono (by simp only [List.length_cons]; omega)
theorem dt_fold {M : Nat} : ∀ (ss : List Str) (ds : List PyData) (acc : PyData) (k : Nat), (∀ d ∈ ds, Dp M d) → Dt (M + 1 + k) acc → Dt (M + 1 + k + 3 * ss.length) (foldProd acc ss ds)
  | s :: ss, d :: ds, acc, k, h, ha => by
    rw [foldProd]
    have hd := (h d (.head _)).mono (k := M + 1 + k) (by omega)
    refine (dt_fold ss ds _ (k + 3) (fun x hx => h x (.tail _ hx)) ?_).mono (by simp only [List.length_cons]; omega)
    split
    · exact (dt_prod ha.1 hd).mono (by omega)
    · exact (dt_quot (by omega) ha.1 hd).mono (by omega)
  | [], _, acc, k, _, ha => by rw [foldProd]; exact ha.mono (by omega); all_goals simp
  | _ :: _, [], acc, k, _, ha => by rw [foldProd]; exact ha.mono (by omega); all_goals simp
theorem dt_pro {N K : Nat} {us : List U} {u : U} (h : ∀ v ∈ u :: us, Dt N v.d) (hK : us.length ≤ K) : Dt (N + 6 + 6 * K) (prodD u us) := by
  obtain ⟨l1, l2, l3⟩ := split_len_le mulS us
  obtain ⟨m1, m2⟩ := split_all mulS us
  unfold prodD
  have h1 := dt_pow (splitU mulS us).1 u fun v hv => (List.mem_cons.mp hv).elim (fun e => h v (e ▸ .head _)) fun hv => h v (.tail _ (m1 v hv).1)
  refine (dt_fold (M := N + 5 + 3 * K) _ _ _ 0 (fun d hd => ?_) (h1.mono (by omega))).mono (by simp only [List.length_map]; omega)
  obtain ⟨s, hs, rfl⟩ := List.mem_map.mp hd
  refine (dt_pow (N := N) s.2 s.1 fun v hv => ?_).1.mono (by have := l3 s hs; omega)
  rcases List.mem_cons.mp hv with rfl | hv
  · exact h _ (.tail _ (m2 s hs).1)
  · exact h _ (.tail _ ((m2 s hs).2.2 v hv).1)
theorem dp_signed {M : Nat} (hM : 1 ≤ M) : ∀ (ss : List Str) (ds : List PyData), (∀ d ∈ ds, Dp M d) → ∀ x ∈ signedSum ss ds, Dp (M + 2) x
  | s :: ss, d :: ds, h, x, hx => by
    rw [signedSum] at hx
    rcases List.mem_cons.mp hx with rfl | hx
    · have hd := h d (.head _)
      split
      · exact hd.mono (by omega)
      · exact (dt_neg hM hd).1
    · exact dp_signed hM ss ds (fun y hy => h y (.tail _ hy)) x hx
  | [], _, _, x, hx => by simp [signedSum] at hx
  | _ :: _, [], _, x, hx => by simp [signedSum] at hx
theorem dt_sum' {M : Nat} {d : PyData} {ds : List PyData} (h : Dt M d) (hs : ∀ x ∈ ds, Dp M x) : Dt (M + 2) (dSum (d :: ds)) := by
  cases ds with
  | nil => exact h.mono (by omega)
  | cons e es => exact dt_two (.tup fun x hx => (List.mem_cons.mp hx).elim (fun e => e ▸ h.1) fun hx => hs x hx)
theorem dt_sum {N K : Nat} {us : List U} {u : U} (h : ∀ v ∈ u :: us, Dt N v.d) (hK : us.length ≤ K) : Dt (N + 10 + 6 * K) (sumD u us) := by
  obtain ⟨l1, l2, l3⟩ := split_len_le addS us
  obtain ⟨m1, m2⟩ := split_all addS us
  unfold sumD
  have h1 := dt_pro (K := K) (us := (splitU addS us).1) (u := u) (fun v hv => (List.mem_cons.mp hv).elim (fun e => h v (e ▸ .head _)) fun hv => h v (.tail _ (m1 v hv).1)) (by omega)
  refine (dt_sum' (M := N + 8 + 6 * K) (h1.mono (by omega)) fun x hx => ?_).mono (by omega)
  refine (dp_signed (M := N + 6 + 6 * K) (by omega) _ _ (fun d hd => ?_) x hx).mono (by omega)
  obtain ⟨s, hs, rfl⟩ := List.mem_map.mp hd
  refine (dt_pro (N := N) (K := K) (fun v hv => ?_) (by have := l3 s hs; omega)).1
  rcases List.mem_cons.mp hv with rfl | hv
  · exact h _ (.tail _ (m2 s hs).1)
  · exact h _ (.tail _ ((m2 s hs).2.2 v hv).1)
theorem dt_row {O : List String → PyData → Prop} {N : Nat} (hO : ∀ t d, O t d → Dt N d) {txs : List String} {d : PyData} (h : RowP O txs d) : Dt (N + 28) d := by
  obtain ⟨k, its, hk1, hk4, hu, hd⟩ := h
  rcases units_us hu with h | ⟨u, us, h1, h2, h3, rfl, rfl⟩
  · omega
  obtain rfl := lsum_fun hd (sum_law u us h3)
  exact (dt_sum (K := 3) (fun v hv => hO _ _ (h2 v hv)) (by omega)).mono (by omega)
theorem dt_opd {R : List String → PyData → Prop} {N : Nat} (hR : ∀ t d, R t d → Dt N d) {t : List String} {d : PyData} (h : OpdP R t d) : Dt (N + 3) d := by
  cases h with
  | name => exact (dt_two (n := 0) .str).mono (by omega)
  | num => exact (dt_three (n := 0) .int .int).mono (by omega)
  | paren h => exact (hR _ _ h).mono (by omega)
  | fcall h1 h2 => exact (dt_call fun d hd => by
      simp only [List.mem_cons, List.not_mem_nil, or_false] at hd
      rcases hd with rfl | rfl
      · exact (hR _ _ h1).1
      · exact (hR _ _ h2).1).mono (by omega)
  | leq h1 h2 => exact dt_two (.tup fun d hd => by rw [List.mem_singleton.mp hd]; exact (dt_three (hR _ _ h1).1 (hR _ _ h2).1).1)
  | gcall => exact (dt_call (n := 0) fun d hd => by simp at hd).mono (by omega)
theorem dt0 : ∀ t d, O0 t d → Dt 3 d := fun _ _ h => dt_opd (N := 0) (fun _ _ h => h.elim) h
theorem dt1 : ∀ t d, O1 t d → Dt 34 d := fun _ _ h => dt_opd (N := 31) (fun _ _ h => dt_row dt0 h) h
theorem dt_top {txs : List String} {d : PyData} (h : R1 txs d) : Dt 62 d := dt_row dt1 h
theorem ne_top {h₀ : Heap} {L : Addr} {S : Led} {s : Shared} {prog : Program} {w : World} {A : Around} {E Q : Value → Shared → Prop} {txs : List String} {d : PyData} (hR : R1 txs d) (N : News h₀ L s.heap S) (h71 : At71 s.heap) {v v' : Value} (hu : A.units + 100 < cLine) (r1 : Rd S v d) (r2 : Rd S v' d)
    (h : Q (.bool false) s) : wpAny (model prog w) A (compareOp .NotEq v v') Q E s := by
  obtain ⟨hd, ds, rfl⟩ := (dt_top hR).mono (k := 70) (by decide)
  exact ne_terms N h71 (n := 69) hd (by omega) r1 r2 h
end

-- Q3
section
theorem Tells.mono {w : World} {f : Addr} {D U D' U' : Nat} {news : Led} {vs : List Value} {Ok : Led → Value → Prop} {Er : Led → Int → Prop} (h : Tells w f D U news vs Ok Er) (hD : D ≤ D') (hU : U ≤ U') : Tells w f D' U' news vs Ok Er := by
  intro dp un gd cn cs a ccd cl outer mean mg mb A₀ base h₀ L m s Q E B F X N T hke hd hu ok er
  exact h dp un gd cn cs a ccd cl outer mean mg mb A₀ base h₀ L m s Q E B F X N T hke (by omega) (by omega) ok er
theorem top_row (w : World) : RowT w R1 1 280 1700 220 := by
  have h0 : RowT w R0 0 150 1000 24 := fun news b q t z hz hb => (row_tells w O0 0 20 200 3 (by decide) (by decide) (by decide) (fun news b q t z hz hb => by subst hz; exact opd0_tells w _ news b q t hb) (fun n its txs h => sum_exists n its txs h) news b q t z hz hb).mono (by decide) (by decide)
  exact row_tells w O1 1 160 1100 (2 * 24 + 4) (by decide) (by decide) (by decide) (opd1_tells w R0 24 (by decide) h0) (fun n its txs h => sum_exists n its txs h)
end

-- W0
section
def PairR (txs fs : List String) (s : String) (a : Int) : Prop := ∀ y : Str, y.cps.toList = wr txs fs ++ cod s → ReadR y (.fail a) ∨ (s = "(" ∧ NamL txs ∧ ReadR y (.fail (a + 1)))
abbrev pairsL (n : Int) : List (String × Int) := [(")", n), ("x", n), ("]", n), (",", n), ("+", n + 1), ("^", n + 1), ("?", n), ("(", n)]
theorem pairs_ok {txs fs : List String} {d : PyData} (h : R1 txs d) (hl : txs.length = fs.length) (hf : ∀ f ∈ fs, f ∈ fillL) : ∀ p ∈ pairsL ((wr txs fs).length : Nat), PairR txs fs p.1 p.2 := by
  intro p hp y hy
  simp only [List.mem_cons, List.not_mem_nil, or_false] at hp
  rcases hp with rfl | rfl | rfl | rfl | rfl | rfl | rfl | rfl
  · exact .inl (rd_behind h hl hf (by simp) hy)
  · exact .inl (rd_behind h hl hf (by simp) hy)
  · exact .inl (rd_behind h hl hf (by simp) hy)
  · exact .inl (rd_behind h hl hf (by simp) hy)
  · exact .inl (by have := rd_plus h hl hf hy; rwa [Int.natCast_add] at this)
  · exact .inl (by have := rd_pow h hl hf hy; rwa [Int.natCast_add] at this)
  · exact .inl (rd_what h hl hf hy)
  · by_cases hn : NamL txs
    · exact .inr ⟨rfl, hn, by have := rd_call h hl hf hn hy; rwa [Int.natCast_add] at this⟩
    · exact .inl (rd_open h hl hf hn hy)
inductive PairsIn (S : Led) : List Value → List (String × Int) → Prop
  | nil : PairsIn S [] []
  | cons {T : Addr} {s : String} {a : Int} {t1 t2 : Tok} {n : Nat} {rs : List Value} {ps : List (String × Int)} : (T, tupOf [.str (Str.ofString s) t1, .int a t2] n) ∈ S → PairsIn S rs ps → PairsIn S (.ref T :: rs) ((s, a) :: ps)
theorem PairsIn.mono {S S' : Led} (hs : ∀ p ∈ S, p.2.cls = .type "tuple" → p ∈ S') {rs : List Value} {ps : List (String × Int)} (h : PairsIn S rs ps) : PairsIn S' rs ps := by
  induction h with
  | nil => exact .nil
  | cons h _ ih => exact .cons (hs _ h rfl) ih
theorem PairsIn.inv {S : Led} {v : Value} {rs : List Value} {ps : List (String × Int)} (h : PairsIn S (v :: rs) ps) : ∃ T s a t1 t2 n ps', v = .ref T ∧ ps = (s, a) :: ps' ∧ (T, tupOf [.str (Str.ofString s) t1, .int a t2] n) ∈ S ∧ PairsIn S rs ps' := by
  cases h with
  | cons h k => exact ⟨_, _, _, _, _, _, _, rfl, rfl, h, k⟩
theorem row_pieces {txs : List String} {d : PyData} (h : R1 txs d) : ∀ t ∈ txs, t ∈ pieceL := (row_read ok1 h).pcs
theorem cps_len {x : Str} {l : List Nat} (h : x.cps.toList = l) : (x.length : Nat) = l.length := by rw [← h, Array.length_toList]; rfl
theorem last_val {S : Led} {tvs : List Value} {txs : List String} (h : Rds S tvs (txs.map strD)) (hn : NamL txs) : ∃ pre s t, tvs = pre ++ [.str (Str.ofString s) t] ∧ s ∈ nameL := by
  obtain ⟨s, hs, hl⟩ := hn
  obtain ⟨txs', rfl⟩ : ∃ l, txs = l ++ [s] := by
    rw [List.getLast?_eq_some_iff] at hl
    exact hl
  rw [List.map_append] at h
  clear hl
  generalize txs'.map strD = ds at h
  clear txs'
  have : ∀ (ds : List PyData) (tvs : List Value), Rds S tvs (ds ++ [strD s]) → ∃ pre t, tvs = pre ++ [.str (Str.ofString s) t] := by
    intro ds
    induction ds with
    | nil =>
      intro tvs h
      cases h with
      | cons h k =>
        cases k
        cases h
        exact ⟨[], _, rfl⟩
    | cons d ds ih =>
      intro tvs h
      cases h with
      | cons h k =>
        obtain ⟨pre, t, e⟩ := ih _ k
        exact ⟨_ :: pre, t, by rw [e]; rfl⟩
  obtain ⟨pre, t, e⟩ := this ds tvs h
  exact ⟨pre, s, t, e, hs⟩
end

-- W1
section
local macro_rules | `(tactic| k_qdec) => `(tactic| decide +kernel)
section
variable {prog : Program} {w : World} {A : Around} {E Q : Value → Shared → Prop} {s : Shared} {a : Int} {t u : Tok}
theorem ne_same (h : Q (.bool false) s) : wpAny (model prog w) A (compareOp .NotEq (.int a t) (.int a u)) Q E s := ne_int (by rw [bne_self_eq_false]; exact h)
theorem ne_more (h : Q (.bool true) s) : wpAny (model prog w) A (compareOp .NotEq (.int (a + 1) t) (.int a u)) Q E s := ne_int (by rw [show (a + 1 != a) = true by rw [bne_iff_ne]; omega]; exact h)
theorem eq_same (h : Q (.bool true) s) : wpAny (model prog w) A (compareOp .Eq (.int a t) (.int a u)) Q E s := PyProof.Rows.eq_int (by rw [beq_self_eq_true]; exact h)
end
set_option hygiene false in
local macro_rules
  | `(tactic| walk_at "compareOp NotEq int int") => `(tactic| with_reducible first | refine ne_same ?_ | refine ne_more ?_)
  | `(tactic| walk_at "compareOp Eq int int") => `(tactic| with_reducible refine eq_same ?_)
theorem ints_vs {vs : List Value} {ns : List Int} (h : IntsAre vs ns) : IntVs vs := by
  induction h with
  | nil => exact fun _ h => nomatch h
  | cons _ _ _ ih => exact fun v hv => (List.mem_cons.mp hv).elim (fun e => ⟨_, _, e⟩) ((by assumption : IntVs _) v)
theorem at71_k {K : Frag} {h : Heap} (X : K.In h) {od : Option Addr} {sl : Array (Option Value)} {t t1 t2 : Tok} {n : Nat} (ho : K.lookup 71 = some ⟨.type "tuple", od, .seq #[.str (Str.ofString "num") t, .int (-1) t1, .int 1 t2] n, sl⟩) : At71 h := ⟨t, t1, t2, _, X _ _ ho, rfl, n, rfl⟩
theorem at71_of {w : World} {h : Heap} (X : (hd.heap_1 w.params).In h) : At71 h := by
  refine' at71_k X ?k6
  case k6 => k_is
def PairJ (txs fs : List String) (x : Str) (tx : Tok) (tl : Addr) (tvs : List Value) (n2 : Nat) (r : List Value) (m : Str → Option Value) (S : Led) : Prop :=
  ∃ ps, PairsIn S r ps ∧ (∀ p ∈ ps, PairR txs fs p.1 p.2 ∧ (Str.ofString p.1).length ≤ 1) ∧ m (Str.ofString "text") = some (.str x tx) ∧ m (Str.ofString "texts") = some (.ref tl) ∧ (∃ te, m (Str.ofString "end") = some (.int (x.length : Int) te)) ∧ (tl, lstOf tvs n2) ∈ S
def SeedJ (la : Addr) (r : List Value) (m : Str → Option Value) (_ : Led) : Prop :=
  (∃ k t, m (Str.ofString "seed") = some (.int k t) ∧ 0 ≤ k ∧ k < 2147483647) ∧ m (Str.ofString "script") = some (.ref la) ∧ ∃ ks, IntsAre r ks
theorem gen_post {M : Model} {A : Around} {env : Env} {body : List Stmt} {Q₀ : Flow → Shared → Prop} {E₀ : Value → Shared → Prop} {s : Shared} {h₀ : Heap} {L : Addr} {m₀ : Str → Option Value} (_F : Fr h₀ L s.heap m₀)
    (h : ∀ (Q : Flow → Shared → Prop) (E : Value → Shared → Prop), PassesOwn M A env E → (∀ h' tk' m news, Fr h₀ L h' m → News h₀ L h' news → Q (.ret (.bool true)) { s with heap := h', toks := tk' }) → wpAny M A (execs body env) Q E s)
    (hE : PassesOwn M A env E₀) (hq : ∀ h' tk' m news, Fr h₀ L h' m → News h₀ L h' news → Q₀ (.ret (.bool true)) { s with heap := h', toks := tk' }) : wpAny M A (execs body env) Q₀ E₀ s := h _ _ hE hq
theorem law_try : PySem.Challenge.rw_nn0269_01.Holds := hd (And.intro (left_of_boot boot_w fun w os => pair_at 128 (seen_w w os) (obsA w os) (obsB w os)) (by
  k_go0
  rename_i xs hs hlay0 hL1 hr1 hl2 w4 w3 la vs ws hL ra w1 r0 hI hr hc1 hc2 K0 hD h₁ F N0
  clear hs hlay0 hL1 hr1 hl2 hr hc2
  show wpAny _ (ktrTop (2 + claimMargin) 7 (some []) _ _ _ _ _ [] []) _ _ _ _
  refine gen_post F ?walk ?pas ?post
  case pas => passes_own
  case post =>
    intro h' tk' m news F' N'
    try dsimp only
    first | close_w | wrow_close | walk1
  intro Q E hE hQ
  fail "go"
  try dsimp only
  refine For_turns (by assumption) ?_ (by intro _; rfl) hE
  fail "go"
  try dsimp only
  refine iter_L (SeedJ la) rfl (by assumption) (by assumption) (.head _) ⟨(mkE2 ⟨rfl, by decide, by decide⟩), rfl, _, by assumption⟩ ?up ?turn ?done
  case up => exact fun _ _ _ _ _ _ h _ => h
  case turn =>
    intro v r m₁ h₂ tk₂ S own F₂ N₂ ho hd hown hJJ; obtain ⟨⟨k, t, e1, e0, e9⟩, e2, ks, hk⟩ := hJJ
    fail "gen"
    cases hk with
    | cons n tn hk' =>
      fail "go"
      try dsimp only
      refine (mkE4 ⟨rfl, by assumption, by assumption, ho, ?_⟩)
      exact ⟨(mkE2 ⟨rfl, fmod_lo _ (by decide), fmod_hi _ (by decide)⟩), e2, _, hk'⟩
  case done =>
    intro m₁ S h₂ tk₂ F₂ N₂ hJJ; obtain ⟨⟨k, t, e1, e0, e9⟩, e2, _⟩ := hJJ
    fail "go"
    try dsimp only
    rename_i D₀ ws₁ h₃ lt₀ hI₁ hC₁ hL₁ D₁ c₁ h₄ lt₁ l₁ h₅ F₅ N₅ lt₂ h₆ F₆ N₆
    have hlt24 : (List.take 24 xs).length ≤ 24 := by simp; omega
    have hbx : BoxIn ((l₁, W.listOf #[Value.ref D₁, Value.int k t] 0) :: (D₁, W.listOf ws₁.toArray c₁) :: (D₀, W.listOf ws₁.toArray 0) :: S) l₁ D₁ := ⟨k, t, _, _, _, .head _, .tail _ (.head _), ?iv, ?il, e0, e9, Nat.ne_of_gt lt₂.1⟩
    case iv => exact ints_vs hI₁
    case il => have := hI₁.length; omega
    fail "gen"; refine' Tells.use (top_row _ _ _ _ _ _ rfl hbx) ?lb1 (by assumption) ?lx1 (by assumption) ?lt1 rfl ?cd1 ?cu1 ?ok1 ?er1; (case lb1 => assumption); (case lx1 => assumption); (case lt1 => assumption); (case cd1 => decide +kernel); (case cu1 => decide +kernel); (try (case er1 => exact fun _ _ _ _ _ _ _ _ _ h => h.elim))
    intro r news₁ h₁ tk₁ F₁ N₁ hJJ; obtain ⟨T₁, tl, v, tvs, n1, n2, txs, d, rfl, hb₁, K₁, hT, htl, hnew, hrs, hrd, hR, hlen⟩ := hJJ
    have keep : ∀ S', KeptB l₁ D₁ news₁ S' → Rd S' v d ∧ Rds S' tvs (txs.map strD) := fun S' K => ⟨KeptB.rd N₁ hb₁ K hrd, KeptB.rds N₁ hb₁ K hrs⟩
    have nb : tl ≠ l₁ := Ne.symm (hnew _ (.head _))
    have nq : tl ≠ D₁ := Ne.symm (hnew _ (.tail _ (.head _)))
    try dsimp only
    fail "go"
    try dsimp only
    fail "gen"; refine' Tells.use (written_tells _ _ l₁ D₁ tl tvs n2 txs hb₁ htl hrs nb nq (row_pieces hR) (by omega)) ?lb2 (by assumption) ?lx2 (by assumption) ?lt2 rfl ?cd2 ?cu2 ?ok2 ?er2; (case lb2 => assumption); (case lx2 => assumption); (case lt2 => assumption); (case cd2 => decide +kernel); (case cu2 => decide +kernel); (try (case er2 => exact fun _ _ _ _ _ _ _ _ _ h => h.elim))
    intro r news₂ h₂ tk₂ F₂ N₂ hJJ; obtain ⟨hb₂, K₂, x, tx, fs, rfl, hlf, hfs, hx, hxl⟩ := hJJ
    obtain ⟨hrd₂, hrs₂⟩ := keep _ K₂
    have htl₂ : (tl, lstOf tvs n2) ∈ news₂ := K₂ _ htl nb nq
    try dsimp only
    fail "go"
    try dsimp only
    have hxm : x.length < 2 ^ 20 := by omega
    fail "gen"; refine' Tells.use (read_tells _ _ x tx (.ok d []) hxm (rd_ok hR hlf hfs hx)) ?lb3 (by assumption) ?lx3 (by assumption) ?lt3 rfl ?cd3 ?cu3 ?ok3 ?er3; (case lb3 => assumption); (case lx3 => assumption); (case lt3 => assumption); (case cd3 => decide +kernel); (case cu3 => decide +kernel); (try (case er3 => exact fun _ _ _ _ _ _ _ _ _ h => h.elim))
    case er3 => exact fun _ _ _ _ _ _ _ _ _ h => nomatch h.1
    intro r news₃ h₃ tk₃ F₃ N₃ hJJ; obtain ⟨d', e', sub₃, hr₃⟩ := hJJ
    injection e' with e' _
    subst e'
    try dsimp only
    fail "go"
    try dsimp only
    refine ne_top hR N₃ (at71_of (Frag.In.keeps (by assumption) F₃.keep)) (by show 7 + 100 < cLine; decide +kernel) hr₃ (hrd₂.sub sub₃) ?_
    try dsimp only
    fail "go"
    try dsimp only
    have hxl' : x.length ≤ 2 ^ 20 := by omega
    try (refine len_str hxl' ?_; dsimp only; fail "go")
    refine For_turns (by assumption) ?_ (by intro _; rfl) hE
    fail "go"
    try dsimp only
    have hlen0 : (x.length : Int) = ((wr txs fs).length : Nat) := by rw [cps_len hx]
    have hpr := pairs_ok hR hlf hfs
    rw [← hlen0] at hpr
    refine iter_T (PairJ txs fs x tx tl tvs n2) rfl (by assumption) (by assumption) (.head _) ⟨pairsL (x.length : Int), ?pin, ?pok, rfl, rfl, ⟨_, rfl⟩, ?ptl⟩ ?up ?turn ?done
    case pin => exact .cons (by repeat (first | exact List.Mem.head _ | refine List.Mem.tail _ ?_)) (.cons (by repeat (first | exact List.Mem.head _ | refine List.Mem.tail _ ?_)) (.cons (by repeat (first | exact List.Mem.head _ | refine List.Mem.tail _ ?_)) (.cons (by repeat (first | exact List.Mem.head _ | refine List.Mem.tail _ ?_)) (.cons (by repeat (first | exact List.Mem.head _ | refine List.Mem.tail _ ?_)) (.cons (by repeat (first | exact List.Mem.head _ | refine List.Mem.tail _ ?_)) (.cons (by repeat (first | exact List.Mem.head _ | refine List.Mem.tail _ ?_)) (.cons (by repeat (first | exact List.Mem.head _ | refine List.Mem.tail _ ?_)) .nil)))))))
    case pok => exact fun p hp => ⟨hpr p hp, by
      simp only [List.mem_cons, List.not_mem_nil, or_false] at hp
      rcases hp with rfl | rfl | rfl | rfl | rfl | rfl | rfl | rfl <;> (dsimp only; decide +kernel)⟩
    case ptl => repeat (first | exact sub₃ _ htl₂ | refine List.Mem.tail _ ?_)
    case up =>
      intro I hI r m S S' hJJ c; obtain ⟨ps, g1, g2, g3, g4, g5, g6⟩ := hJJ
      exact ⟨ps, g1.mono c.tup, g2, g3, g4, g5, c.lst g6⟩
    case turn =>
      intro vv r m₅ h₅ tk₅ S₅ own F₅ N₅ ho hdd hown hJJ; obtain ⟨ps, g1, g2, g3, g4, ⟨te, g5⟩, g6⟩ := hJJ
      fail "gen"
      obtain ⟨Tp, sp, a, t1, t2, np, ps', rfl, rfl, hTp, hps⟩ := g1.inv
      obtain ⟨hpR, hp1⟩ := g2 _ (.head _)
      have hz2 : x.length + (Str.ofString sp).length ≤ sizeLine := by rw [show sizeLine = 16777216 from rfl]; dsimp only at hp1; omega
      fail "go"
      try dsimp only
      have hy : (x ++ Str.ofString sp).cps.toList = wr txs fs ++ cod sp := by rw [str_add, hx]
      have hyl : (x ++ Str.ofString sp).length < 2 ^ 20 := by rw [str_add_len]; dsimp only at hp1; omega
      rcases hpR _ hy with hRd | ⟨hs, hn, hRd⟩
      · refine' refused_call _ _ _ _ (.fail a) hyl hRd ?rb4 (by assumption) ?rx4 (by assumption) ?rt4 rfl ?ry4 ?ru4 ?rd4 ?rc4 ?ok4; (case rb4 => assumption); (case rx4 => assumption); (case rt4 => assumption); (case ry4 => assumption); (case ru4 => assumption); (case rd4 => decide +kernel); (case rc4 => decide +kernel)
        intro r news₆ h₆ tk₆ F₆ N₆ sub₆ hJJ; obtain ⟨t₆, rfl⟩ := hJJ
        try dsimp only
        fail "go"
        try dsimp only
        refine (mkE4 ⟨rfl, by assumption, by assumption, fun p hp => sub₆ _ (ho p hp), ?_⟩)
        exact ⟨ps', hps.mono (fun p hp _ => sub₆ p hp), fun p hp => g2 p (.tail _ hp), g3, g4, ⟨te, g5⟩, sub₆ _ g6⟩
      · obtain rfl : sp = "(" := hs
        refine' refused_call _ _ _ _ (.fail (a + 1)) hyl hRd ?rb5 (by assumption) ?rx5 (by assumption) ?rt5 rfl ?ry5 ?ru5 ?rd5 ?rc5 ?ok5; (case rb5 => assumption); (case rx5 => assumption); (case rt5 => assumption); (case ry5 => assumption); (case ru5 => assumption); (case rd5 => decide +kernel); (case rc5 => decide +kernel)
        intro r news₆ h₆ tk₆ F₆ N₆ sub₆ hJJ; obtain ⟨t₆, rfl⟩ := hJJ
        try dsimp only
        have hml := sub₆ _ g6
        obtain ⟨pre, sl, tls, hpre, hsl⟩ := last_val hrs₂ hn
        rw [hpre] at hml
        have hsl3 : sl = "x" ∨ sl = "y_1" ∨ sl = "%o2" := by simpa using hsl
        rcases hsl3 with rfl | rfl | rfl
        all_goals (fail "go"; try dsimp only)
        all_goals (refine ⟨_, _, _, _, rfl, by assumption, by assumption, fun p hp => .tail _ (sub₆ _ (ho p hp)), ?_⟩; exact ⟨ps', hps.mono (fun p hp _ => .tail _ (sub₆ p hp)), fun p hp => g2 p (.tail _ hp), g3, g4, ⟨te, g5⟩, .tail _ (sub₆ _ g6)⟩)
    case done =>
      intro m₅ S₅ h₅ tk₅ F₅ N₅ hJJ; obtain ⟨ps, g1, g2, g3, g4, ⟨te, g5⟩, g6⟩ := hJJ
      have hz3 : (Str.ofString "(").length + x.length ≤ sizeLine := by rw [show sizeLine = 16777216 from rfl, show (Str.ofString "(").length = 1 from by decide]; omega
      have hz4 : x.length + (Str.ofString "2x").length ≤ sizeLine := by rw [show sizeLine = 16777216 from rfl, show (Str.ofString "2x").length = 2 from by decide]; omega
      have hfin : ∀ {y : Str}, ReadR y (.fail (((wr txs fs).length + 1 : Nat) : Int)) → ReadR y (.fail ((x.length : Int) + 1)) := by intro y h; rwa [Int.natCast_add, ← hlen0] at h
      fail "go"
      try dsimp only
      refine' refused_call _ _ _ _ (.fail ((x.length : Int) + 1)) (by rw [str_add_len, show (Str.ofString "(").length = 1 from by decide]; omega) (hfin (rd_par hR hlf hfs (by rw [str_add, hx]))) ?rb6 (by assumption) ?rx6 (by assumption) ?rt6 rfl ?ry6 ?ru6 ?rd6 ?rc6 ?ok6; (case rb6 => assumption); (case rx6 => assumption); (case rt6 => assumption); (case ry6 => assumption); (case ru6 => assumption); (case rd6 => decide +kernel); (case rc6 => decide +kernel)
      intro r news₆ h₆ tk₆ F₆ N₆ sub₆ hJJ; obtain ⟨t₆, rfl⟩ := hJJ
      try dsimp only
      fail "go"
      try dsimp only
      refine' refused_call _ _ _ _ (.fail 0) (by decide) (rd_nil (by decide)) ?rb7 (by assumption) ?rx7 (by assumption) ?rt7 rfl ?ry7 ?ru7 ?rd7 ?rc7 ?ok7; (case rb7 => assumption); (case rx7 => assumption); (case rt7 => assumption); (case ry7 => assumption); (case ru7 => assumption); (case rd7 => decide +kernel); (case rc7 => decide +kernel)
      intro r news₇ h₇ tk₇ F₇ N₇ sub₇ hJJ; obtain ⟨t₇, rfl⟩ := hJJ
      try dsimp only
      fail "go"
      try dsimp only
      refine' refused_call _ _ _ _ (.fail ((x.length : Int) + 1)) (by rw [str_add_len, show (Str.ofString "2x").length = 2 from by decide]; omega) (hfin (rd_two hR hlf hfs (by rw [str_add, hx]))) ?rb8 (by assumption) ?rx8 (by assumption) ?rt8 rfl ?ry8 ?ru8 ?rd8 ?rc8 ?ok8; (case rb8 => assumption); (case rx8 => assumption); (case rt8 => assumption); (case ry8 => assumption); (case ru8 => assumption); (case rd8 => decide +kernel); (case rc8 => decide +kernel)
      intro r news₈ h₈ tk₈ F₈ N₈ sub₈ hJJ; obtain ⟨t₈, rfl⟩ := hJJ
      try dsimp only
      fail "go"
      try dsimp only
      exact hQ _ _ _ _ (by assumption) (by assumption)))
end

end Mine
theorem PySem.Challenge.cw_nn0269_01_holds : PySem.Challenge.rw_nn0269_01.Holds := by
  exact Mine.law_try
