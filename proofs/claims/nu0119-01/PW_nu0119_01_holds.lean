import PyProof.Rows.All
import Wide.All
import OpenK.AllK
import Wide.FinOn
import Lean
import PySem.Challenge.RW_nu0119_01
open PySem PySem.W PyProof.Rows
set_option Elab.async false
set_option rowWalk.seconds 0
set_option compiler.extract_closed false
namespace Mine
set_option maxRecDepth 100000
set_option maxHeartbeats 8000000
open_top hd for PySem.Challenge.rw_nu0119_01
end Mine

namespace Mine
theorem ex0_3 {P1 P2 P3 : Prop} {G : Prop} (h : P1 ∧ P2 ∧ P3) (g : P1 → P2 → P3 → G) : G := g h.1 h.2.1 h.2.2
theorem ex0_4 {P1 P2 P3 P4 : Prop} {G : Prop} (h : P1 ∧ P2 ∧ P3 ∧ P4) (g : P1 → P2 → P3 → P4 → G) : G := g h.1 h.2.1 h.2.2.1 h.2.2.2
theorem ex0_5 {P1 P2 P3 P4 P5 : Prop} {G : Prop} (h : P1 ∧ P2 ∧ P3 ∧ P4 ∧ P5) (g : P1 → P2 → P3 → P4 → P5 → G) : G := g h.1 h.2.1 h.2.2.1 h.2.2.2.1 h.2.2.2.2
theorem ex0_7 {P1 P2 P3 P4 P5 P6 P7 : Prop} {G : Prop} (h : P1 ∧ P2 ∧ P3 ∧ P4 ∧ P5 ∧ P6 ∧ P7) (g : P1 → P2 → P3 → P4 → P5 → P6 → P7 → G) : G := g h.1 h.2.1 h.2.2.1 h.2.2.2.1 h.2.2.2.2.1 h.2.2.2.2.2.1 h.2.2.2.2.2.2
theorem ex1_2 {α1 : Type} {P1 P2 : α1 → Prop} {G : Prop} (h : ∃ a1, P1 a1 ∧ P2 a1) (g : ∀ a1, P1 a1 → P2 a1 → G) : G := h.elim fun a1 h => g a1 h.1 h.2
theorem ex1_3 {α1 : Type} {P1 P2 P3 : α1 → Prop} {G : Prop} (h : ∃ a1, P1 a1 ∧ P2 a1 ∧ P3 a1) (g : ∀ a1, P1 a1 → P2 a1 → P3 a1 → G) : G := h.elim fun a1 h => g a1 h.1 h.2.1 h.2.2
theorem ex1_4 {α1 : Type} {P1 P2 P3 P4 : α1 → Prop} {G : Prop} (h : ∃ a1, P1 a1 ∧ P2 a1 ∧ P3 a1 ∧ P4 a1) (g : ∀ a1, P1 a1 → P2 a1 → P3 a1 → P4 a1 → G) : G := h.elim fun a1 h => g a1 h.1 h.2.1 h.2.2.1 h.2.2.2
theorem ex1_6 {α1 : Type} {P1 P2 P3 P4 P5 P6 : α1 → Prop} {G : Prop} (h : ∃ a1, P1 a1 ∧ P2 a1 ∧ P3 a1 ∧ P4 a1 ∧ P5 a1 ∧ P6 a1) (g : ∀ a1, P1 a1 → P2 a1 → P3 a1 → P4 a1 → P5 a1 → P6 a1 → G) : G := h.elim fun a1 h => g a1 h.1 h.2.1 h.2.2.1 h.2.2.2.1 h.2.2.2.2.1 h.2.2.2.2.2
theorem ex2_1 {α1 α2 : Type} {P1 : α1 → α2 → Prop} {G : Prop} (h : ∃ a1 a2, P1 a1 a2) (g : ∀ a1 a2, P1 a1 a2 → G) : G := h.elim fun a1 h => h.elim fun a2 h => g a1 a2 h
theorem ex2_2 {α1 α2 : Type} {P1 P2 : α1 → α2 → Prop} {G : Prop} (h : ∃ a1 a2, P1 a1 a2 ∧ P2 a1 a2) (g : ∀ a1 a2, P1 a1 a2 → P2 a1 a2 → G) : G := h.elim fun a1 h => h.elim fun a2 h => g a1 a2 h.1 h.2
theorem ex2_3 {α1 α2 : Type} {P1 P2 P3 : α1 → α2 → Prop} {G : Prop} (h : ∃ a1 a2, P1 a1 a2 ∧ P2 a1 a2 ∧ P3 a1 a2) (g : ∀ a1 a2, P1 a1 a2 → P2 a1 a2 → P3 a1 a2 → G) : G := h.elim fun a1 h => h.elim fun a2 h => g a1 a2 h.1 h.2.1 h.2.2
theorem ex2_4 {α1 α2 : Type} {P1 P2 P3 P4 : α1 → α2 → Prop} {G : Prop} (h : ∃ a1 a2, P1 a1 a2 ∧ P2 a1 a2 ∧ P3 a1 a2 ∧ P4 a1 a2) (g : ∀ a1 a2, P1 a1 a2 → P2 a1 a2 → P3 a1 a2 → P4 a1 a2 → G) : G := h.elim fun a1 h => h.elim fun a2 h => g a1 a2 h.1 h.2.1 h.2.2.1 h.2.2.2
theorem ex2_5 {α1 α2 : Type} {P1 P2 P3 P4 P5 : α1 → α2 → Prop} {G : Prop} (h : ∃ a1 a2, P1 a1 a2 ∧ P2 a1 a2 ∧ P3 a1 a2 ∧ P4 a1 a2 ∧ P5 a1 a2) (g : ∀ a1 a2, P1 a1 a2 → P2 a1 a2 → P3 a1 a2 → P4 a1 a2 → P5 a1 a2 → G) : G := h.elim fun a1 h => h.elim fun a2 h => g a1 a2 h.1 h.2.1 h.2.2.1 h.2.2.2.1 h.2.2.2.2
theorem ex3_1 {α1 α2 α3 : Type} {P1 : α1 → α2 → α3 → Prop} {G : Prop} (h : ∃ a1 a2 a3, P1 a1 a2 a3) (g : ∀ a1 a2 a3, P1 a1 a2 a3 → G) : G := h.elim fun a1 h => h.elim fun a2 h => h.elim fun a3 h => g a1 a2 a3 h
theorem ex3_2 {α1 α2 α3 : Type} {P1 P2 : α1 → α2 → α3 → Prop} {G : Prop} (h : ∃ a1 a2 a3, P1 a1 a2 a3 ∧ P2 a1 a2 a3) (g : ∀ a1 a2 a3, P1 a1 a2 a3 → P2 a1 a2 a3 → G) : G := h.elim fun a1 h => h.elim fun a2 h => h.elim fun a3 h => g a1 a2 a3 h.1 h.2
theorem ex3_3 {α1 α2 α3 : Type} {P1 P2 P3 : α1 → α2 → α3 → Prop} {G : Prop} (h : ∃ a1 a2 a3, P1 a1 a2 a3 ∧ P2 a1 a2 a3 ∧ P3 a1 a2 a3) (g : ∀ a1 a2 a3, P1 a1 a2 a3 → P2 a1 a2 a3 → P3 a1 a2 a3 → G) : G := h.elim fun a1 h => h.elim fun a2 h => h.elim fun a3 h => g a1 a2 a3 h.1 h.2.1 h.2.2
theorem ex3_4 {α1 α2 α3 : Type} {P1 P2 P3 P4 : α1 → α2 → α3 → Prop} {G : Prop} (h : ∃ a1 a2 a3, P1 a1 a2 a3 ∧ P2 a1 a2 a3 ∧ P3 a1 a2 a3 ∧ P4 a1 a2 a3) (g : ∀ a1 a2 a3, P1 a1 a2 a3 → P2 a1 a2 a3 → P3 a1 a2 a3 → P4 a1 a2 a3 → G) : G := h.elim fun a1 h => h.elim fun a2 h => h.elim fun a3 h => g a1 a2 a3 h.1 h.2.1 h.2.2.1 h.2.2.2
theorem ex3_5 {α1 α2 α3 : Type} {P1 P2 P3 P4 P5 : α1 → α2 → α3 → Prop} {G : Prop} (h : ∃ a1 a2 a3, P1 a1 a2 a3 ∧ P2 a1 a2 a3 ∧ P3 a1 a2 a3 ∧ P4 a1 a2 a3 ∧ P5 a1 a2 a3) (g : ∀ a1 a2 a3, P1 a1 a2 a3 → P2 a1 a2 a3 → P3 a1 a2 a3 → P4 a1 a2 a3 → P5 a1 a2 a3 → G) : G := h.elim fun a1 h => h.elim fun a2 h => h.elim fun a3 h => g a1 a2 a3 h.1 h.2.1 h.2.2.1 h.2.2.2.1 h.2.2.2.2
theorem ex3_6 {α1 α2 α3 : Type} {P1 P2 P3 P4 P5 P6 : α1 → α2 → α3 → Prop} {G : Prop} (h : ∃ a1 a2 a3, P1 a1 a2 a3 ∧ P2 a1 a2 a3 ∧ P3 a1 a2 a3 ∧ P4 a1 a2 a3 ∧ P5 a1 a2 a3 ∧ P6 a1 a2 a3) (g : ∀ a1 a2 a3, P1 a1 a2 a3 → P2 a1 a2 a3 → P3 a1 a2 a3 → P4 a1 a2 a3 → P5 a1 a2 a3 → P6 a1 a2 a3 → G) : G := h.elim fun a1 h => h.elim fun a2 h => h.elim fun a3 h => g a1 a2 a3 h.1 h.2.1 h.2.2.1 h.2.2.2.1 h.2.2.2.2.1 h.2.2.2.2.2
theorem ex4_1 {α1 α2 α3 α4 : Type} {P1 : α1 → α2 → α3 → α4 → Prop} {G : Prop} (h : ∃ a1 a2 a3 a4, P1 a1 a2 a3 a4) (g : ∀ a1 a2 a3 a4, P1 a1 a2 a3 a4 → G) : G := h.elim fun a1 h => h.elim fun a2 h => h.elim fun a3 h => h.elim fun a4 h => g a1 a2 a3 a4 h
theorem ex4_2 {α1 α2 α3 α4 : Type} {P1 P2 : α1 → α2 → α3 → α4 → Prop} {G : Prop} (h : ∃ a1 a2 a3 a4, P1 a1 a2 a3 a4 ∧ P2 a1 a2 a3 a4) (g : ∀ a1 a2 a3 a4, P1 a1 a2 a3 a4 → P2 a1 a2 a3 a4 → G) : G := h.elim fun a1 h => h.elim fun a2 h => h.elim fun a3 h => h.elim fun a4 h => g a1 a2 a3 a4 h.1 h.2
theorem ex4_3 {α1 α2 α3 α4 : Type} {P1 P2 P3 : α1 → α2 → α3 → α4 → Prop} {G : Prop} (h : ∃ a1 a2 a3 a4, P1 a1 a2 a3 a4 ∧ P2 a1 a2 a3 a4 ∧ P3 a1 a2 a3 a4) (g : ∀ a1 a2 a3 a4, P1 a1 a2 a3 a4 → P2 a1 a2 a3 a4 → P3 a1 a2 a3 a4 → G) : G := h.elim fun a1 h => h.elim fun a2 h => h.elim fun a3 h => h.elim fun a4 h => g a1 a2 a3 a4 h.1 h.2.1 h.2.2
theorem ex4_4 {α1 α2 α3 α4 : Type} {P1 P2 P3 P4 : α1 → α2 → α3 → α4 → Prop} {G : Prop} (h : ∃ a1 a2 a3 a4, P1 a1 a2 a3 a4 ∧ P2 a1 a2 a3 a4 ∧ P3 a1 a2 a3 a4 ∧ P4 a1 a2 a3 a4) (g : ∀ a1 a2 a3 a4, P1 a1 a2 a3 a4 → P2 a1 a2 a3 a4 → P3 a1 a2 a3 a4 → P4 a1 a2 a3 a4 → G) : G := h.elim fun a1 h => h.elim fun a2 h => h.elim fun a3 h => h.elim fun a4 h => g a1 a2 a3 a4 h.1 h.2.1 h.2.2.1 h.2.2.2
theorem ex4_5 {α1 α2 α3 α4 : Type} {P1 P2 P3 P4 P5 : α1 → α2 → α3 → α4 → Prop} {G : Prop} (h : ∃ a1 a2 a3 a4, P1 a1 a2 a3 a4 ∧ P2 a1 a2 a3 a4 ∧ P3 a1 a2 a3 a4 ∧ P4 a1 a2 a3 a4 ∧ P5 a1 a2 a3 a4) (g : ∀ a1 a2 a3 a4, P1 a1 a2 a3 a4 → P2 a1 a2 a3 a4 → P3 a1 a2 a3 a4 → P4 a1 a2 a3 a4 → P5 a1 a2 a3 a4 → G) : G := h.elim fun a1 h => h.elim fun a2 h => h.elim fun a3 h => h.elim fun a4 h => g a1 a2 a3 a4 h.1 h.2.1 h.2.2.1 h.2.2.2.1 h.2.2.2.2
theorem ex4_7 {α1 α2 α3 α4 : Type} {P1 P2 P3 P4 P5 P6 P7 : α1 → α2 → α3 → α4 → Prop} {G : Prop} (h : ∃ a1 a2 a3 a4, P1 a1 a2 a3 a4 ∧ P2 a1 a2 a3 a4 ∧ P3 a1 a2 a3 a4 ∧ P4 a1 a2 a3 a4 ∧ P5 a1 a2 a3 a4 ∧ P6 a1 a2 a3 a4 ∧ P7 a1 a2 a3 a4) (g : ∀ a1 a2 a3 a4, P1 a1 a2 a3 a4 → P2 a1 a2 a3 a4 → P3 a1 a2 a3 a4 → P4 a1 a2 a3 a4 → P5 a1 a2 a3 a4 → P6 a1 a2 a3 a4 → P7 a1 a2 a3 a4 → G) : G := h.elim fun a1 h => h.elim fun a2 h => h.elim fun a3 h => h.elim fun a4 h => g a1 a2 a3 a4 h.1 h.2.1 h.2.2.1 h.2.2.2.1 h.2.2.2.2.1 h.2.2.2.2.2.1 h.2.2.2.2.2.2
theorem ex4_8 {α1 α2 α3 α4 : Type} {P1 P2 P3 P4 P5 P6 P7 P8 : α1 → α2 → α3 → α4 → Prop} {G : Prop} (h : ∃ a1 a2 a3 a4, P1 a1 a2 a3 a4 ∧ P2 a1 a2 a3 a4 ∧ P3 a1 a2 a3 a4 ∧ P4 a1 a2 a3 a4 ∧ P5 a1 a2 a3 a4 ∧ P6 a1 a2 a3 a4 ∧ P7 a1 a2 a3 a4 ∧ P8 a1 a2 a3 a4) (g : ∀ a1 a2 a3 a4, P1 a1 a2 a3 a4 → P2 a1 a2 a3 a4 → P3 a1 a2 a3 a4 → P4 a1 a2 a3 a4 → P5 a1 a2 a3 a4 → P6 a1 a2 a3 a4 → P7 a1 a2 a3 a4 → P8 a1 a2 a3 a4 → G) : G := h.elim fun a1 h => h.elim fun a2 h => h.elim fun a3 h => h.elim fun a4 h => g a1 a2 a3 a4 h.1 h.2.1 h.2.2.1 h.2.2.2.1 h.2.2.2.2.1 h.2.2.2.2.2.1 h.2.2.2.2.2.2.1 h.2.2.2.2.2.2.2
theorem ex5_2 {α1 α2 α3 α4 α5 : Type} {P1 P2 : α1 → α2 → α3 → α4 → α5 → Prop} {G : Prop} (h : ∃ a1 a2 a3 a4 a5, P1 a1 a2 a3 a4 a5 ∧ P2 a1 a2 a3 a4 a5) (g : ∀ a1 a2 a3 a4 a5, P1 a1 a2 a3 a4 a5 → P2 a1 a2 a3 a4 a5 → G) : G := h.elim fun a1 h => h.elim fun a2 h => h.elim fun a3 h => h.elim fun a4 h => h.elim fun a5 h => g a1 a2 a3 a4 a5 h.1 h.2
theorem ex5_5 {α1 α2 α3 α4 α5 : Type} {P1 P2 P3 P4 P5 : α1 → α2 → α3 → α4 → α5 → Prop} {G : Prop} (h : ∃ a1 a2 a3 a4 a5, P1 a1 a2 a3 a4 a5 ∧ P2 a1 a2 a3 a4 a5 ∧ P3 a1 a2 a3 a4 a5 ∧ P4 a1 a2 a3 a4 a5 ∧ P5 a1 a2 a3 a4 a5) (g : ∀ a1 a2 a3 a4 a5, P1 a1 a2 a3 a4 a5 → P2 a1 a2 a3 a4 a5 → P3 a1 a2 a3 a4 a5 → P4 a1 a2 a3 a4 a5 → P5 a1 a2 a3 a4 a5 → G) : G := h.elim fun a1 h => h.elim fun a2 h => h.elim fun a3 h => h.elim fun a4 h => h.elim fun a5 h => g a1 a2 a3 a4 a5 h.1 h.2.1 h.2.2.1 h.2.2.2.1 h.2.2.2.2
end Mine

local macro_rules
  | `(tactic| obtain $p:rcasesPatMed := $e:term) => do
    let alts := p.raw[0].getSepArgs
    let one : Lean.TSyntax `tactic ← `(tactic| rcases $e:term with $p:rcasesPatMed)
    if alts.size != 1 then return one
    let t := alts[0]!
    unless t.isOfKind ``Lean.Parser.Tactic.rcasesPat.tuple do return one
    let els := t[1].getSepArgs
    let n := els.size
    if n < 2 || n > 14 then return one
    let mut tacs : Array (Lean.TSyntax `tactic) := #[]
    for kk in [0:min n 9] do
      let k := min (n - 1) 8 - kk
      for mm in [0:n - k] do
        let m := n - k - mm
        if m > 10 || k + m < 3 then continue
        let used := k + m
        let last : Option Lean.Syntax := if used == n then none else
          some (Lean.Syntax.node .none ``Lean.Parser.Tactic.rcasesPatLo #[Lean.Syntax.node .none ``Lean.Parser.Tactic.rcasesPatMed #[Lean.Syntax.node .none Lean.nullKind #[Lean.Syntax.node .none ``Lean.Parser.Tactic.rcasesPat.tuple #[Lean.mkAtom "⟨", Lean.Syntax.node .none Lean.nullKind (Lean.Syntax.SepArray.ofElems (sep := ",") (els.extract (used - 1) n)).elemsAndSeps, Lean.mkAtom "⟩"]]], Lean.Syntax.node .none Lean.nullKind #[]])
        let parts := match last with | none => els | some l => (els.extract 0 (used - 1)).push l
        let lem := Lean.mkIdent (.str `Mine s!"ex{k}_{m}")
        let mut ts : Array (Lean.TSyntax `tactic) := #[← `(tactic| refine $lem:ident $e:term ?_)]
        if e.raw.isIdent then ts := ts.push (← `(tactic| try clear $(⟨e.raw⟩):ident))
        let mut after : Array (Lean.TSyntax `tactic) := #[]
        let mut i := 0
        for x in parts do
          i := i + 1
          let med := x[0]
          let as := med[0].getSepArgs
          if x[1].getNumArgs == 0 && as.size == 1 && !as[0]!.isOfKind ``Lean.Parser.Tactic.rcasesPat.tuple then
            let pt : Lean.TSyntax `rcasesPat := ⟨as[0]!⟩
            ts := ts.push (← `(tactic| rintro $pt:rcasesPat))
          else
            let nm := Lean.mkIdent (Lean.Name.mkSimple s!"zq{i}")
            ts := ts.push (← `(tactic| intro $nm:ident))
            after := after.push (← `(tactic| obtain $(⟨med⟩):rcasesPatMed := $nm:ident))
        for a in after do ts := ts.push a
        tacs := tacs.push (← `(tactic| ($[$ts:tactic];*)))
    tacs := tacs.push one
    `(tactic| first $[| $tacs:tactic]*)
local macro_rules
  | `(tactic| k_ne) => do
    let fin ← `(tactic| assumption)
    let r ← `(tactic| apply And.right)
    let l ← `(tactic| apply And.left)
    let mut alts : Array (Lean.TSyntax `tactic) := #[fin]
    let mut rs : Array (Lean.TSyntax `tactic) := #[]
    for _ in [0:13] do
      let ts := (#[l] ++ rs).push fin
      alts := alts.push (← `(tactic| ($[$ts:tactic];*)))
      rs := rs.push r
      let us := rs.push fin
      alts := alts.push (← `(tactic| ($[$us:tactic];*)))
    let both ← `(tactic| first $[| $alts:tactic]*)
    `(tactic| (refine PySem.W.neN ?_; (try dsimp only); first | assumption | (apply Ne.symm; assumption) | (apply Nat.ne_of_lt; $both:tactic) | (apply Nat.ne_of_gt; $both:tactic) | (apply Ne.symm; $both:tactic) | $both:tactic | omega))
local macro_rules | `(tactic| walk_at "subscriptTail") => `(tactic| (k_here; (with_reducible show wpAny _ _ (PyProof.Rows.subscriptTail _ _ (PySem.Value.ref _) (PySem.Value.int _ _)) _ _ _); k_dflt (refine' item_tupleT ?t ?a ?b ?c ?d ?_; (case t => first | assumption | exact Fr.tup (by assumption) (by assumption) | exact News.isTup (by k_asm) (by k_mem)); (case a => decide); (case b => decide); (case c => rfl); (case d => rfl); k_whole)))
local macro_rules | `(tactic| walk_at "eval ListComp") => `(tactic| (k_here; k_dflt (refine PyProof.Rows.LCt.ListComp_T (F₀ := by k_asm) (by with_unfolding_all rfl) (by decide) (by rfl) (by decide) (by rfl) ?_)))

section
open PySem PySem.W PySem.Calls PyProof.Rows
set_option maxRecDepth 100000
namespace Mine

/-- what stands of the program in a heap -/
structure Wld (w : World) (h : Heap) : Prop where
  K : (hd.heap_39 w.params).In h
  T : ∃ loose mean mg mb, Top hd.view_39 loose mean mg mb h

theorem Wld.keeps {w : World} {h h' : Heap} (W : Wld w h) (k : ∀ b o, h.get? b = some o → h'.get? b = some o) : Wld w h' :=
  ⟨W.K.keeps k, let ⟨l, m, g, b, T⟩ := W.T; ⟨l, m, g, b, T.keeps k⟩⟩

theorem hide_keep {h : Heap} {S : List Addr} {b : Addr} {o : Obj} (e : (hideAll h S).get? b = some o) : h.get? b = some o := of_hideAll S e

theorem enter {prog : Program} {w : World} {A : Around} {R : Result → Shared → Prop} {s : Shared} {K : Frag} {name qual : Str} {params : Arguments} {body : List Stmt} {scope : Scope} {dV kV doc pm cdv ct oc : Value} {an od : Option Addr} {osl : Array (Option Value)} {f : Addr} {args : Args} {binds : List (Str × Value)}
    (S : List Addr) (X : K.In s.heap) (hlim : s.heap.NoLimit)
    (ho : K.lookup f = some ⟨oc, od, .func (fnOf name qual params body scope dV kV doc pm an cdv ct), osl⟩) (hcd : codeIn K cdv qual = true) (hroom : A.depth < recursionLimit)
    (hbind : BindsTo s (fnOf name qual params body scope dV kV doc pm an cdv ct) args binds) (hloc : ∀ y ∈ binds, scope.names.lookup y.1 = some .local)
    (h : ∀ h₁, Fr (hideAll s.heap S) s.heap.objs.size h₁ (fun y => binds.reverse.lookup y) → (∀ b o, s.heap.get? b = some o → h₁.get? b = some o) →
      wpAny (model prog w) (A.deeper (envOf qual scope s.heap.objs.size f cdv)) (execs body (envOf qual scope s.heap.objs.size f cdv))
        (fun fl s' => R (.ok (.ret (match fl with | .ret v => v | _ => .none))) s')
        (fun e s' => wpAny (model prog w) (A.deeper (envOf qual scope s.heap.objs.size f cdv)) (leaving (envOf qual scope s.heap.objs.size f cdv) e) (fun _ s'' => R (.error e) s'') (fun e' s'' => R (.error e') s'') s')
        { s with heap := h₁, toks := s.toks + binds.length })
    (hco : scope.isCoroutine = false := by rfl) (hgen : scope.isGenerator = false := by rfl) (hk : scope.kind = .function := by rfl)
    (hcell : ∀ x ∈ scope.names, x.2 ≠ .cell := by decide) : codeAny (model prog w) A (.call (.ref f) args) R s :=
  codeAny_call_def (fd := fnOf name qual params body scope dV kV doc pm an cdv ct) (body := body) (binds := binds) hroom (X _ _ ho) rfl hlim (codeRec_of X hcd) rfl hbind hcell hloc
    (fun h₁ hns hk₁ => h h₁ ⟨hns, fun b o e => hk₁ b o (of_hideAll _ e), Nat.le_of_eq (hideAll_size _ _)⟩ hk₁) hco hgen hk

theorem enterC {prog : Program} {w : World} {A : Around} {R : Result → Shared → Prop} {s : Shared} {K : Frag} {name qual : Str} {params : Arguments} {body : List Stmt} {scope : Scope} {dV kV doc pm cdv ct oc : Value} {an od : Option Addr} {osl : Array (Option Value)} {f : Addr} {args : Args} {binds : List (Str × Value)}
    (S : List Addr) (X : K.In s.heap) (hlim : s.heap.NoLimit)
    (ho : K.lookup f = some ⟨oc, od, .func (fnOf name qual params body scope dV kV doc pm an cdv ct), osl⟩) (hcd : codeIn K cdv qual = true) (hroom : A.depth < recursionLimit)
    (hbind : BindsTo s (fnOf name qual params body scope dV kV doc pm an cdv ct) args binds) (hkind : (binds.all fun y => scope.names.lookup y.1 == some .local || scope.names.lookup y.1 == some .cell) = true)
    (hnd : ((cellsFrom 0 scope.names []).map (·.1)).Nodup)
    (h : ∀ h₁ tk cells, Fr (hideAll s.heap S) s.heap.objs.size h₁ (bindL (envOfC qual scope s.heap.objs.size f cdv).kindOf binds fun _ => none) → News (hideAll s.heap S) s.heap.objs.size h₁ cells →
      CellsAre (bindC (envOfC qual scope s.heap.objs.size f cdv).kindOf binds fun _ => none) (cellsFrom (s.heap.objs.size + 1) scope.names []) cells → (∀ b o, s.heap.get? b = some o → h₁.get? b = some o) → (∀ p ∈ cells, s.heap.objs.size < p.1) →
      wpAny (model prog w) (A.deeper (envOfC qual scope s.heap.objs.size f cdv)) (execs body (envOfC qual scope s.heap.objs.size f cdv))
        (fun fl s' => R (.ok (.ret (match fl with | .ret v => v | _ => .none))) s')
        (fun e s' => wpAny (model prog w) (A.deeper (envOfC qual scope s.heap.objs.size f cdv)) (leaving (envOfC qual scope s.heap.objs.size f cdv) e) (fun _ s'' => R (.error e) s'') (fun e' s'' => R (.error e') s'') s')
        { s with heap := h₁, toks := tk })
    (hco : scope.isCoroutine = false := by rfl) (hgen : scope.isGenerator = false := by rfl) (hk : scope.kind = .function := by rfl) : codeAny (model prog w) A (.call (.ref f) args) R s := by
  refine codeAny_call_function hroom (X _ _ ho) rfl hco hgen rfl (codeRec_of X hcd) (hbind _ _ _ _ ?_)
  refine wpAny_newFunctionEnv_cells hk (kindsX hkind _) fun env' he s' x => ?_
  subst he
  refine ⟨hlim.keeps x.toInCall.keep, codeAny_func ?_⟩
  obtain ⟨h₁, tk, rfl, _⟩ := x.done
  have hk₁ := x.toInCall.keep
  obtain ⟨cells, NC, Y⟩ := Cl.news (h₀ := s.heap) (Nat.le_refl _) fun n c hm => ⟨x.cell n c (lookup_of_mem_nodup (cellsFrom_names scope.names 0 (s.heap.objs.size + 1) [] [] rfl ▸ hnd) hm), x.above n c hm⟩
  refine h h₁ tk cells ⟨x.toInCall.ns, fun b o e => hk₁ b o (of_hideAll _ e), Nat.le_of_eq (hideAll_size _ _)⟩ (fun p hp => ⟨(NC p hp).1, (NC p hp).2.1, ?_⟩) Y hk₁ ?_
  · cases q : (hideAll s.heap S).get? p.1 with
    | none => rfl
    | some o => have := of_hideAll _ q; rw [(NC p hp).2.2] at this; cases this
  · have aux : ∀ {cm : Str → Option Value} {cs : List (Str × Addr)} {cells : List (Addr × Obj)}, CellsAre cm cs cells → (∀ n c, (n, c) ∈ cs → s.heap.objs.size < c) → ∀ p ∈ cells, s.heap.objs.size < p.1 := by
      intro cm cs cells y
      induction y with
      | nil => intro _ p hp; cases hp
      | cons _ _ ih =>
        intro hb p hp
        rcases List.mem_cons.mp hp with rfl | hp
        · exact hb _ _ (.head _)
        · exact ih (fun n c hm => hb n c (.tail _ hm)) p hp
    exact aux Y fun n c hm => x.above n c hm

theorem enterZ {prog : Program} {w : World} {A : Around} {R : Result → Shared → Prop} {hp : Heap} {sg : Array GenState} {sd : Drawn} {st : Nat} {so : OsState} {L : Addr} {h₀ : Heap} {K : Frag} {name qual : Str} {params : Arguments} {body : List Stmt} {scope : Scope} {dV kV doc pm cdv ct oc : Value} {an od : Option Addr} {osl : Array (Option Value)} {f : Addr} {args : Args} {binds : List (Str × Value)}
    (S : List Addr) (hL : hp.objs.size = L) (hh : hideAll hp S = h₀) (X : K.In hp) (hlim : hp.NoLimit)
    (ho : K.lookup f = some ⟨oc, od, .func (fnOf name qual params body scope dV kV doc pm an cdv ct), osl⟩) (hcd : codeIn K cdv qual = true) (hroom : A.depth < recursionLimit)
    (hbind : BindsTo ⟨hp, sg, sd, st, so⟩ (fnOf name qual params body scope dV kV doc pm an cdv ct) args binds) (hkind : (binds.all fun y => scope.names.lookup y.1 == some .local || scope.names.lookup y.1 == some .cell) = true)
    (hnd : ((cellsFrom 0 scope.names []).map (·.1)).Nodup)
    (h : ∀ h₁ tk cells, Fr h₀ L h₁ (bindL (envOfC qual scope L f cdv).kindOf binds fun _ => none) → News h₀ L h₁ cells →
      CellsAre (bindC (envOfC qual scope L f cdv).kindOf binds fun _ => none) (cellsFrom (L + 1) scope.names []) cells → (∀ b o, hp.get? b = some o → h₁.get? b = some o) → (∀ p ∈ cells, L < p.1) →
      wpAny (model prog w) (A.deeper (envOfC qual scope L f cdv)) (execs body (envOfC qual scope L f cdv))
        (fun fl s' => R (.ok (.ret (match fl with | .ret v => v | _ => .none))) s')
        (fun e s' => wpAny (model prog w) (A.deeper (envOfC qual scope L f cdv)) (leaving (envOfC qual scope L f cdv) e) (fun _ s'' => R (.error e) s'') (fun e' s'' => R (.error e') s'') s')
        ⟨h₁, sg, sd, tk, so⟩)
    (hco : scope.isCoroutine = false := by rfl) (hgen : scope.isGenerator = false := by rfl) (hk : scope.kind = .function := by rfl) : codeAny (model prog w) A (.call (.ref f) args) R ⟨hp, sg, sd, st, so⟩ := by
  subst hL hh
  exact enterC (s := ⟨hp, sg, sd, st, so⟩) S X hlim ho hcd hroom hbind hkind hnd h hco hgen hk

theorem enterY {prog : Program} {w : World} {A : Around} {R : Result → Shared → Prop} {hp : Heap} {sg : Array GenState} {sd : Drawn} {st : Nat} {so : OsState} {L : Addr} {h₀ : Heap} {K : Frag} {name qual : Str} {params : Arguments} {body : List Stmt} {scope : Scope} {dV kV doc pm cdv ct oc : Value} {an od : Option Addr} {osl : Array (Option Value)} {f : Addr} {args : Args} {binds : List (Str × Value)}
    (S : List Addr) (hL : hp.objs.size = L) (hh : hideAll hp S = h₀) (X : K.In hp) (hlim : hp.NoLimit)
    (ho : K.lookup f = some ⟨oc, od, .func (fnOf name qual params body scope dV kV doc pm an cdv ct), osl⟩) (hcd : codeIn K cdv qual = true) (hroom : A.depth < recursionLimit)
    (hbind : BindsTo ⟨hp, sg, sd, st, so⟩ (fnOf name qual params body scope dV kV doc pm an cdv ct) args binds) (hloc : ∀ y ∈ binds, scope.names.lookup y.1 = some .local)
    (h : ∀ h₁, Fr h₀ L h₁ (fun y => binds.reverse.lookup y) → (∀ b o, hp.get? b = some o → h₁.get? b = some o) →
      wpAny (model prog w) (A.deeper (envOf qual scope L f cdv)) (execs body (envOf qual scope L f cdv))
        (fun fl s' => R (.ok (.ret (match fl with | .ret v => v | _ => .none))) s')
        (fun e s' => wpAny (model prog w) (A.deeper (envOf qual scope L f cdv)) (leaving (envOf qual scope L f cdv) e) (fun _ s'' => R (.error e) s'') (fun e' s'' => R (.error e') s'') s')
        ⟨h₁, sg, sd, st + binds.length, so⟩)
    (hco : scope.isCoroutine = false := by rfl) (hgen : scope.isGenerator = false := by rfl) (hk : scope.kind = .function := by rfl)
    (hcell : ∀ x ∈ scope.names, x.2 ≠ .cell := by decide) : codeAny (model prog w) A (.call (.ref f) args) R ⟨hp, sg, sd, st, so⟩ := by
  subst hL hh
  exact enter (s := ⟨hp, sg, sd, st, so⟩) S X hlim ho hcd hroom hbind hloc h hco hgen hk hcell
end Mine
end

section
open PySem PySem.W PySem.Calls PyProof.Rows PySem.Spec
set_option maxRecDepth 100000
namespace Mine

abbrev P2 := Int × Int
abbrev Ent := P2 × Option P2 × Int
set_option genInjectivity false in
set_option genSizeOfSpec false in
/-- the data of a contract -/
structure Zx where
  w : World
  k0 : Nat
  k1 : Nat
  k2 : Nat
  k3 : Nat
  fr : Option (List Env)
  ou : List Env
  gd : Option (List Code)
  R : Result → Shared → Prop
  s : Shared
  H : Heap
  A0 : Addr
  A1 : Addr
  A2 : Addr
  A3 : Addr
  A4 : Addr
  A5 : Addr
  cl : List ((P2 × P2) × Int)
  ll : List (P2 × Int)
  xc : List ((P2 × P2) × Addr × Value)
  xd : List (P2 × Addr × Value)
  M : List Ent
  vs : Array Value
  li : List Value
  ns : List Int
  e : Ent
  p0 : P2
  p1 : P2
  i0 : Int
  i1 : Int
  i2 : Int
  i3 : Int
  i4 : Int
  t0 : Tok
  t1 : Tok
  t2 : Tok
  t3 : Tok
  t4 : Tok
  t5 : Tok
  o0 : Obj
  o1 : Obj
  o2 : Obj
  v : Value
noncomputable def zx₀ : Zx := ⟨aWorld 1, 0, 0, 0, 0, none, [], none, fun _ _ => True, {}, default, (0 : Nat), (0 : Nat), (0 : Nat), (0 : Nat), (0 : Nat), (0 : Nat), [], [], [], [], [], #[], [], [], ((0, 0), none, 0), (0, 0), (0, 0), 0, 0, 0, 0, 0, (0 : Nat), (0 : Nat), (0 : Nat), (0 : Nat), (0 : Nat), (0 : Nat), default, default, default, .none⟩
theorem zxAll {P : Zx → Prop} (h : P (@Classical.epsilon Zx ⟨zx₀⟩ fun a => ¬ P a)) : ∀ a, P a := fun a => Classical.byContradiction fun n => Classical.epsilon_spec (p := fun a => ¬ P a) ⟨a, n⟩ h
abbrev Rd (h : Heap) (v : Value) (d : PyData) : Prop := Reads h v d []
abbrev RdAll (h : Heap) (vs : List Value) (ds : List PyData) : Prop := ReadsAll h vs ds []
noncomputable def ptD (p : P2) : PyData := .tuple [.int p.1, .int p.2]
noncomputable def remD : Option P2 → PyData
  | none => .none
  | some p => ptD p
noncomputable def keyD (k : P2 × P2) : PyData := .tuple [ptD k.1, ptD k.2]
noncomputable def entD (e : Ent) : PyData := .tuple [ptD e.1, remD e.2.1, .int e.2.2]

section
variable {h h' : Heap} {v : Value} {vs : List Value} {d : PyData} {ds : List PyData}

theorem rdAll_nil : RdAll h vs [] ↔ vs = [] := by
  constructor
  · intro r
    cases r
    rfl
  · rintro rfl
    exact .nil
theorem rdAll_cons : RdAll h vs (d :: ds) ↔ ∃ v r, vs = v :: r ∧ Rd h v d ∧ RdAll h r ds := by
  constructor
  · intro r
    have aux : ∀ z, z = ([] : List Addr) → ReadsAll h vs (d :: ds) z → ∃ v r, vs = v :: r ∧ Rd h v d ∧ RdAll h r ds := by
      intro z hz r
      cases r with
      | cons a b =>
        obtain ⟨rfl, rfl⟩ := List.append_eq_nil_iff.mp hz
        exact ⟨_, _, rfl, a, b⟩
    exact aux [] rfl r
  · rintro ⟨v, r, rfl, a, b⟩
    exact .cons (as := []) (bs := []) a b
theorem rdAll_cons' {r : List Value} : RdAll h (v :: r) (d :: ds) ↔ Rd h v d ∧ RdAll h r ds := by
  rw [rdAll_cons]
  constructor
  · rintro ⟨_, _, e, a, b⟩
    cases e
    exact ⟨a, b⟩
  · rintro ⟨a, b⟩
    exact ⟨_, _, rfl, a, b⟩
theorem rd_int {i : Int} : Rd h v (.int i) ↔ ∃ t, v = .int i t := by
  constructor
  · intro r; cases r; exact ⟨_, rfl⟩
  · rintro ⟨t, rfl⟩; exact .int i t
theorem rd_none : Rd h v .none ↔ v = .none := by
  constructor
  · intro r; cases r; rfl
  · rintro rfl; exact .none
theorem rd_bool {b : Bool} : Rd h v (.bool b) ↔ v = .bool b := by
  constructor
  · intro r; cases r; rfl
  · rintro rfl; exact .bool b
theorem rd_tup : Rd h v (.tuple ds) ↔ ∃ a o vs n, v = .ref a ∧ h.get? a = some o ∧ o.cls = .type "tuple" ∧ o.data = .seq vs n ∧ RdAll h vs.toList ds := by
  constructor
  · intro r
    cases r with
    | tuple h1 h2 h3 h4 => exact ⟨_, _, _, _, rfl, h1, h2, h3, h4⟩
  · rintro ⟨a, o, vs, n, rfl, h1, h2, h3, h4⟩
    exact .tuple h1 h2 h3 h4
theorem rd_tup_ref {a : Addr} : Rd h (.ref a) (.tuple ds) ↔ ∃ o vs n, h.get? a = some o ∧ o.cls = .type "tuple" ∧ o.data = .seq vs n ∧ RdAll h vs.toList ds := by
  rw [rd_tup]
  constructor
  · rintro ⟨_, o, vs, n, e, r⟩; cases e; exact ⟨o, vs, n, r⟩
  · rintro ⟨o, vs, n, r⟩; exact ⟨a, o, vs, n, rfl, r⟩

/-- every tuple stays as it is -/
noncomputable def TupObj (o : Obj) : Prop := o.cls = .type "tuple" ∧ ∃ vs n, o.data = .seq vs n
noncomputable def KeepT (h h' : Heap) : Prop := ∀ b o, h.get? b = some o → TupObj o → h'.get? b = some o

theorem KeepT.of (k : ∀ b o, h.get? b = some o → h'.get? b = some o) : KeepT h h' := fun b o e _ => k b o e
theorem KeepT.trans {h'' : Heap} (k : KeepT h h') (k' : KeepT h' h'') : KeepT h h'' := fun b o e c => k' b o (k b o e c) c
theorem KeepT.but {d : Addr} {o : Obj} {es : Array DictEntry} {ep : Nat} (ho : h.get? d = some o) (hd : o.data = .dict es ep) (hs : Heap.SameBut d h h') : KeepT h h' := fun b o' e c =>
  (hs.2 b (by
    rintro rfl
    rw [ho] at e; cases e
    obtain ⟨-, vs, n, e⟩ := c
    rw [hd] at e; cases e)).trans e

theorem rdAll_keep (hd : ∀ d ∈ ds, ∀ v, Rd h v d → Rd h' v d) (r : RdAll h vs ds) : RdAll h' vs ds := by
  induction ds generalizing vs with
  | nil => rw [rdAll_nil] at r ⊢; exact r
  | cons d ds ih =>
    rw [rdAll_cons] at r ⊢
    obtain ⟨v, r', rfl, a, b⟩ := r
    exact ⟨v, r', rfl, hd d (.head _) v a, ih (fun d' hd' => hd d' (.tail _ hd')) b⟩
theorem rdTup_keep (k : KeepT h h') (hd : ∀ d ∈ ds, ∀ v, Rd h v d → Rd h' v d) (r : Rd h v (.tuple ds)) : Rd h' v (.tuple ds) := by
  rw [rd_tup] at r ⊢
  obtain ⟨a, o, vs, n, e, h1, h2, h3, h4⟩ := r
  exact ⟨a, o, vs, n, e, k a o h1 ⟨h2, vs, n, h3⟩, h2, h3, rdAll_keep hd h4⟩
theorem rdInt_keep {i : Int} (r : Rd h v (.int i)) : Rd h' v (.int i) := by rw [rd_int] at r ⊢; exact r
theorem rdNone_keep (r : Rd h v .none) : Rd h' v .none := by rw [rd_none] at r ⊢; exact r
theorem rdBool_keep {b : Bool} (r : Rd h v (.bool b)) : Rd h' v (.bool b) := by rw [rd_bool] at r ⊢; exact r
theorem rdPt_keep {p : P2} (k : KeepT h h') (r : Rd h v (ptD p)) : Rd h' v (ptD p) :=
  rdTup_keep k (by intro d hd v r; simp at hd; rcases hd with rfl | rfl <;> exact rdInt_keep r) r
theorem rdRem_keep {p : Option P2} (k : KeepT h h') (r : Rd h v (remD p)) : Rd h' v (remD p) := by
  cases p with
  | none => exact rdNone_keep r
  | some p => exact rdPt_keep k r
theorem rdKey_keep {p : P2 × P2} (k : KeepT h h') (r : Rd h v (keyD p)) : Rd h' v (keyD p) :=
  rdTup_keep k (by intro d hd v r; simp at hd; rcases hd with rfl | rfl <;> exact rdPt_keep k r) r
theorem rdEnt_keep {e : Ent} (k : KeepT h h') (r : Rd h v (entD e)) : Rd h' v (entD e) :=
  rdTup_keep k (by
    intro d hd v r; simp at hd
    rcases hd with rfl | rfl | rfl
    · exact rdPt_keep k r
    · exact rdRem_keep k r
    · exact rdInt_keep r) r

theorem rdPt_unique {p q : P2} (r : Rd h v (ptD p)) (r' : Rd h v (ptD q)) : p = q := by
  rw [ptD, rd_tup] at r r'
  obtain ⟨a, o, vs, n, rfl, h1, -, h3, h4⟩ := r
  obtain ⟨a', o', vs', n', e, h1', -, h3', h4'⟩ := r'
  cases e
  rw [h1] at h1'; cases h1'
  rw [h3] at h3'; cases h3'
  simp only [rdAll_cons, rdAll_nil, rd_int] at h4 h4'
  obtain ⟨v1, r1, e1, ⟨t1, e2⟩, v2, r2, e3, ⟨t2, e4⟩, e5⟩ := h4
  obtain ⟨v1', r1', e1', ⟨t1', e2'⟩, v2', r2', e3', ⟨t2', e4'⟩, e5'⟩ := h4'
  subst e2 e4 e5 e3 e2' e4' e5' e3'
  rw [e1] at e1'
  cases p; cases q
  simp at e1'
  simp [e1']
theorem rdKey_unique {p q : P2 × P2} (r : Rd h v (keyD p)) (r' : Rd h v (keyD q)) : p = q := by
  rw [keyD, rd_tup] at r r'
  obtain ⟨a, o, vs, n, rfl, h1, -, h3, h4⟩ := r
  obtain ⟨a', o', vs', n', e, h1', -, h3', h4'⟩ := r'
  cases e
  rw [h1] at h1'; cases h1'
  rw [h3] at h3'; cases h3'
  simp only [rdAll_cons, rdAll_nil] at h4 h4'
  obtain ⟨v1, r1, e1, a1, v2, r2, rfl, a2, rfl⟩ := h4
  obtain ⟨v1', r1', e1', a1', v2', r2', rfl, a2', rfl⟩ := h4'
  rw [e1] at e1'
  simp at e1'
  obtain ⟨rfl, rfl⟩ := e1'
  exact Prod.ext (rdPt_unique a1 a1') (rdPt_unique a2 a2')
end

theorem ent_inv {h : Heap} {v : Value} {e : Ent} (r : Rd h v (entD e)) : ∃ a v1 v2 t, v = .ref a ∧ IsTup h a #[v1, v2, .int e.2.2 t] ∧ Rd h v1 (ptD e.1) ∧ Rd h v2 (remD e.2.1) := by
  rw [entD, rd_tup] at r
  obtain ⟨ae, oe, vs, n, rfl, h1, h2, h3, h4⟩ := r
  simp only [rdAll_cons, rdAll_nil, rd_int] at h4
  obtain ⟨v1, _, e1, r1, v2, _, rfl, r2, v3, _, rfl, ⟨to, rfl⟩, rfl⟩ := h4
  have : vs = #[v1, v2, .int e.2.2 to] := by rw [← Array.toList_inj]; exact e1
  subst this
  exact ⟨ae, v1, v2, to, rfl, ⟨oe, h1, h2, n, h3⟩, r1, r2⟩

theorem pt_inv {h : Heap} {v : Value} {p : P2} (r : Rd h v (ptD p)) : ∃ a t1 t2, v = .ref a ∧ IsTup h a #[.int p.1 t1, .int p.2 t2] := by
  rw [ptD, rd_tup] at r
  obtain ⟨a, o, vs, n, rfl, h1, h2, h3, h4⟩ := r
  simp only [rdAll_cons, rdAll_nil, rd_int] at h4
  obtain ⟨v1, _, e1, ⟨t1, rfl⟩, v2, _, rfl, ⟨t2, rfl⟩, rfl⟩ := h4
  have : vs = #[.int p.1 t1, .int p.2 t2] := by rw [← Array.toList_inj]; exact e1
  subst this
  exact ⟨a, t1, t2, rfl, ⟨o, h1, h2, n, h3⟩⟩
theorem key_inv {h : Heap} {v : Value} {k : P2 × P2} (r : Rd h v (keyD k)) : ∃ a l r, v = .ref a ∧ IsTup h a #[.ref l, .ref r] ∧ Rd h (.ref l) (ptD k.1) ∧ Rd h (.ref r) (ptD k.2) := by
  rw [keyD, rd_tup] at r
  obtain ⟨a, o, vs, n, rfl, h1, h2, h3, h4⟩ := r
  simp only [rdAll_cons, rdAll_nil] at h4
  obtain ⟨v1, _, e1, r1, v2, _, rfl, r2, rfl⟩ := h4
  obtain ⟨l, -, -, -, rfl, -⟩ := rd_tup.mp r1
  obtain ⟨r, -, -, -, rfl, -⟩ := rd_tup.mp r2
  have : vs = #[.ref l, .ref r] := by rw [← Array.toList_inj]; exact e1
  subst this
  exact ⟨a, l, r, rfl, ⟨o, h1, h2, n, h3⟩, r1, r2⟩

section
variable {prog : Program} {w : World} {A : Around} {E : Value → Shared → Prop} {s : Shared}

theorem eqv_pt (p q : P2) : PyData.eqv (ptD p) (ptD q) = decide (p = q) := by
  obtain ⟨a, b⟩ := p; obtain ⟨c, d⟩ := q
  simp [ptD, PyData.eqv, PyData.eqvAll]
  by_cases h1 : a = c <;> by_cases h2 : b = d <;> simp [h1, h2]
theorem eqv_pt' (q : P2) (a p : Int) : PyData.eqv (ptD q) (.tuple [.int a, .int p]) = decide (q = (a, p)) := eqv_pt q (a, p)
theorem close_int {R : Result → Shared → Prop} {x y : Int} {t : Tok} {s' : Shared} (hR : R (.ok (.ret (.int x t))) s') (e : x = y) : R (.ok (.ret (.int y t))) s' := e ▸ hR
theorem eqv_rem (p q : Option P2) : PyData.eqv (remD p) (remD q) = decide (p = q) := by
  cases p <;> cases q
  · simp [remD, PyData.eqv]
  · simp [remD, ptD, PyData.eqv]
  · simp [remD, ptD, PyData.eqv]
  · simp only [remD, eqv_pt, Option.some.injEq]
theorem eqv_key (p q : P2 × P2) : PyData.eqv (keyD p) (keyD q) = decide (p = q) := by
  obtain ⟨a, b⟩ := p; obtain ⟨c, d⟩ := q
  simp only [keyD, PyData.eqv, PyData.eqvAll, eqv_pt]
  by_cases h1 : a = c <;> by_cases h2 : b = d <;> simp [h1, h2]
theorem eqv_ent (p q : Ent) : PyData.eqv (entD p) (entD q) = decide (p = q) := by
  obtain ⟨a, b, x⟩ := p; obtain ⟨c, d, y⟩ := q
  simp only [entD, PyData.eqv, PyData.eqvAll, eqv_pt, eqv_rem]
  by_cases h1 : a = c <;> by_cases h2 : b = d <;> by_cases h3 : x = y <;> simp [h1, h2, h3]
theorem lay_pt (p : P2) : (ptD p).canLay0 = true := by simp [ptD, PyData.canLay0, PyData.canLayAll0]
theorem lay_rem (p : Option P2) : (remD p).canLay0 = true := by cases p <;> simp [remD, lay_pt, PyData.canLay0]
theorem lay_key (p : P2 × P2) : (keyD p).canLay0 = true := by simp [keyD, PyData.canLay0, PyData.canLayAll0, lay_pt]
theorem lay_ent (p : Ent) : (entD p).canLay0 = true := by simp [entD, PyData.canLay0, PyData.canLayAll0, lay_pt, lay_rem]
theorem depth_pt (p : P2) : (ptD p).depth ≤ 1 := by simp [ptD, PyData.depth, PyData.depthAll]
theorem depth_key (p : P2 × P2) : (keyD p).depth ≤ 2 := by
  have := depth_pt p.1; have := depth_pt p.2
  simp only [keyD, PyData.depth, PyData.depthAll]; omega

theorem tupKey_of_pt {h : Heap} {a : Addr} {p : P2} (r : Rd h (.ref a) (ptD p)) : IsTupleKey (intKind prog w) h [p.1, p.2] a := by
  rw [ptD, rd_tup_ref] at r
  obtain ⟨o, vs, n, h1, h2, h3, h4⟩ := r
  refine ⟨o, vs, n, h1, h2, h3, ?_⟩
  simp only [rdAll_cons, rdAll_nil, rd_int] at h4
  obtain ⟨_, _, e, ⟨t1, rfl⟩, _, _, rfl, ⟨t2, rfl⟩, rfl⟩ := h4
  rw [e]
  exact .cons (by simp [intKind, Value.isInt]) (.cons (by simp [intKind, Value.isInt]) .nil)

theorem quiet_pt {h : Shared} {a : Addr} {p : P2} {n : Nat} {Q : Bool → Shared → Prop} (r : Rd h.heap (.ref a) (ptD p)) (hq : Q true h) : wpAny (model prog w) A (eqIsQuiet (n + 1) (.ref a)) Q E h := by
  rw [ptD, rd_tup_ref] at r
  obtain ⟨o, vs, k, ho, hc, hd, h4⟩ := r
  have hT : h.TypeIs (.ref a) "tuple" := ⟨o, ho, hc⟩
  simp only [rdAll_cons, rdAll_nil, rd_int] at h4
  obtain ⟨_, _, e, ⟨t1, rfl⟩, _, _, rfl, ⟨t2, rfl⟩, rfl⟩ := h4
  unfold eqIsQuiet
  refine wpAny_bind (wpAny_specialOf hT F.slot_tuple_eq.lookup ?_)
  show wpAny _ _ (isInstance (.ref a) (.type "tuple") >>= _) _ _ h
  refine wpAny_bind (wpAny_isInstance hT isSubtype_tuple_tuple ?_)
  simp only [Bool.not_true, Bool.false_eq_true, if_false]
  refine wpAny_bind (wpAny_seqItems ho hd ?_)
  refine wpAny_bind ?_
  show wpAny _ _ (forIn vs _ _) _ _ h
  rw [← Array.forIn_toList, e]
  simp only [List.forIn_cons, List.forIn_nil]
  rw [eqIsQuiet_byValue n (v := .int p.1 t1) rfl, eqIsQuiet_byValue n (v := .int p.2 t2) rfl]
  refine wpAny_bind (wpAny_bind (wpAny_pure ?_))
  simp only [Bool.not_true, Bool.false_eq_true, if_false]
  refine wpAny_pure (wpAny_bind (wpAny_bind (wpAny_pure ?_)))
  simp only [Bool.not_true, Bool.false_eq_true, if_false]
  exact wpAny_pure (wpAny_pure (wpAny_pure hq))
theorem quiet_key {h : Shared} {a : Addr} {p : P2 × P2} {Q : Bool → Shared → Prop} (r : Rd h.heap (.ref a) (keyD p)) (hq : Q true h) : wpAny (model prog w) A (eqIsQuiet 8 (.ref a)) Q E h := by
  rw [keyD, rd_tup_ref] at r
  obtain ⟨o, vs, k, ho, hc, hd, h4⟩ := r
  have hT : h.TypeIs (.ref a) "tuple" := ⟨o, ho, hc⟩
  simp only [rdAll_cons, rdAll_nil] at h4
  obtain ⟨v1, _, e, r1, v2, _, rfl, r2, rfl⟩ := h4
  obtain ⟨a1, -, -, -, rfl, -⟩ := rd_tup.mp r1
  obtain ⟨a2, -, -, -, rfl, -⟩ := rd_tup.mp r2
  unfold eqIsQuiet
  refine wpAny_bind (wpAny_specialOf hT F.slot_tuple_eq.lookup ?_)
  show wpAny _ _ (isInstance (.ref a) (.type "tuple") >>= _) _ _ h
  refine wpAny_bind (wpAny_isInstance hT isSubtype_tuple_tuple ?_)
  simp only [Bool.not_true, Bool.false_eq_true, if_false]
  refine wpAny_bind (wpAny_seqItems ho hd ?_)
  refine wpAny_bind ?_
  show wpAny _ _ (forIn vs _ _) _ _ h
  rw [← Array.forIn_toList, e]
  simp only [List.forIn_cons, List.forIn_nil]
  refine wpAny_bind (wpAny_bind (quiet_pt r1 ?_))
  simp only [Bool.not_true, Bool.false_eq_true, if_false]
  refine wpAny_pure (wpAny_bind (wpAny_bind (quiet_pt r2 ?_)))
  simp only [Bool.not_true, Bool.false_eq_true, if_false]
  exact wpAny_pure (wpAny_pure (wpAny_pure hq))

noncomputable def ptHash (prog : Program) (w : World) (p : P2) : Int := tupleKeyHash (intKind prog w) [p.1, p.2]
noncomputable def keyHash2 (prog : Program) (w : World) (k : P2 × P2) : Int := reduceHash (Builtin.Tuple.tupleHashOf [ptHash prog w k.1, ptHash prog w k.2])

theorem hash_pt {a : Addr} {p : P2} {Q : Int → Shared → Prop} (hu : A.units < cLine) (r : Rd s.heap (.ref a) (ptD p)) (h : Q (ptHash prog w p) { s with toks := s.toks + 3 }) :
    wpAny (model prog w) A (pyHash (.ref a)) Q E s := wpAny_pyHash_tuple (knd := intKind prog w) hu (tupKey_of_pt r) h

theorem hash_key {a : Addr} {k : P2 × P2} {Q : Int → Shared → Prop} (hu : A.units + 1 < cLine) (r : Rd s.heap (.ref a) (keyD k)) (h : Q (keyHash2 prog w k) { s with toks := s.toks + 7 }) :
    wpAny (model prog w) A (pyHash (.ref a)) Q E s := by
  rw [keyD, rd_tup_ref] at r
  obtain ⟨o, vs, n, ho, hc, hd, h4⟩ := r
  simp only [rdAll_cons, rdAll_nil] at h4
  obtain ⟨v1, _, e, r1, v2, _, rfl, r2, rfl⟩ := h4
  obtain ⟨a1, -, -, -, rfl, -⟩ := rd_tup.mp r1
  obtain ⟨a2, -, -, -, rfl, -⟩ := rd_tup.mp r2
  refine pyHash_slot (T := "tuple") ⟨_, ho, hc⟩ F.slot_tuple_hash F.entry_tuple_hash (F.args_tuple_hash_1 _) (beq_builtin_none _) (.inr (by omega)) ?_
  show wpAny _ _ (Builtin.Tuple.tupleItemsOf (.ref a) >>= _) _ _ s
  refine wpAny_bind (wpAny_tupleItemsOf ho hd ?_)
  refine wpAny_bind ?_
  rw [← Array.forIn_toList, e]
  simp only [List.forIn_cons, List.forIn_nil]
  refine wpAny_bind (wpAny_bind (hash_pt (A := A.in1) hu r1 ?_))
  refine wpAny_pure (wpAny_bind (wpAny_bind (hash_pt (A := A.in1) hu r2 ?_)))
  refine wpAny_pure (wpAny_pure ?_)
  show wpAny _ _ (retInt (Builtin.Tuple.tupleHashOf _)) _ _ _
  exact wpAny_bind (wpAny_mkInt (wpAny_pure ⟨_, _, rfl, h⟩))

theorem eq_rd {a b : Value} {da db : PyData} {Q : Value → Shared → Prop} (ra : Rd s.heap a da) (rb : Rd s.heap b db) (la : da.canLay0 = true) (lb : db.canLay0 = true)
    (hu : A.units + min da.depth db.depth < cLine) (h : Q (.bool (PyData.eqv da db)) s) : wpAny (model prog w) A (compareOp .Eq a b) Q E s := SeqAt.compareEq_reads ra rb la lb hu h
theorem eq_pt {a b : Value} {p q : P2} {Q : Value → Shared → Prop} (ra : Rd s.heap a (ptD p)) (rb : Rd s.heap b (ptD q)) (hu : A.units + 5 < cLine) (h : Q (.bool (decide (p = q))) s) :
    wpAny (model prog w) A (compareOp .Eq a b) Q E s := eq_rd ra rb (lay_pt p) (lay_pt q) (by have := depth_pt p; omega) (by rw [eqv_pt]; exact h)
theorem rdF {h₀ h : Heap} {L : Addr} {m : Str → Option Value} {v : Value} {d : PyData} (F : Fr h₀ L h m) (r : Rd h₀ v d) : Rd h v d := Reads.keeps F.keep r
theorem rdN {h₀ h : Heap} {L a : Addr} {news : List (Addr × Obj)} {vs : Array Value} {n : Nat} {ds : List PyData} (N : News h₀ L h news)
    (hm : (a, ({ cls := .type "tuple", data := .seq vs n } : Obj)) ∈ news) (r : RdAll h vs.toList ds) : Rd h (.ref a) (.tuple ds) := .tuple (N.get hm) rfl rfl r
theorem rdNpt {h₀ h : Heap} {L a : Addr} {news : List (Addr × Obj)} {x y : Int} {t u : Tok} {n : Nat} (N : News h₀ L h news)
    (hm : (a, ({ cls := .type "tuple", data := .seq #[.int x t, .int y u] n } : Obj)) ∈ news) : Rd h (.ref a) (ptD (x, y)) :=
  rdN N hm (rdAll_cons'.mpr ⟨.int x t, rdAll_cons'.mpr ⟨.int y u, .nil⟩⟩)

theorem rdNkey {h₀ h : Heap} {L a x y : Addr} {news : List (Addr × Obj)} {p q : P2} {n : Nat} (N : News h₀ L h news)
    (hm : (a, ({ cls := .type "tuple", data := .seq #[.ref x, .ref y] n } : Obj)) ∈ news) (rx : Rd h (.ref x) (ptD p)) (ry : Rd h (.ref y) (ptD q)) : Rd h (.ref a) (keyD (p, q)) :=
  rdN N hm (rdAll_cons'.mpr ⟨rx, rdAll_cons'.mpr ⟨ry, .nil⟩⟩)
theorem sub_list {value slice : PySem.Expr} {l : Addr} {items : Array Value} {k : Int} {u : Tok} {x : Value} {Q : Value → Shared → Prop} (hl : s.heap.IsList l items) (h0 : 0 ≤ k) (hhi : k < 2 ^ 63) (hx : items[k.toNat]? = some x) (h : Q x s)
    (hs : subscripted slice false (.ref l) (.int k u) = operate [.ref l, .int k u] (getItem (.ref l) (.int k u)) := by with_unfolding_all rfl) :
    wpAny (model prog w) A (subscriptTail value slice (.ref l) (.int k u)) Q E s := tail_any hl.typeIs slot_list_getitem.lookup (wpAny_getItem_list hl h0 hhi hx h) hs
theorem frAfter {h₀ h h' : Heap} {L : Addr} {m : Str → Option Value} {S : List Addr} (F : Fr h₀ L h m) (hS : ∀ a ∈ S, h₀.get? a = none ∧ L ≠ a) (k : ∀ x o, x ∉ S → h.get? x = some o → h'.get? x = some o) : Fr h₀ L h' m := by
  obtain ⟨o, es, ep, ho, r⟩ := F.ns
  refine ⟨⟨o, es, ep, k L o (fun q => (hS L q).2 rfl) ho, r⟩, fun b o e => k b o (fun q => ?_) (F.keep b o e), F.above⟩
  rw [(hS b q).1] at e; cases e
theorem newsAfter {h₀ h h' : Heap} {L : Addr} {S : List Addr} {news : List (Addr × Obj)} (N : News h₀ L h news) (hS : ∀ p ∈ news, p.1 ∉ S) (k : ∀ x o, x ∉ S → h.get? x = some o → h'.get? x = some o) : News h₀ L h' news :=
  fun p hp => ⟨k _ _ (hS p hp) (N p hp).1, (N p hp).2⟩
theorem newsUpd {h₀ h h' : Heap} {L S : Addr} {o o' : Obj} {news : List (Addr × Obj)} {g : Obj → List (Addr × Obj)} (N : News h₀ L h news) (U : UpdF S o news g) (e : h'.get? S = some o')
    (k : ∀ x o, x ≠ S → h.get? x = some o → h'.get? x = some o) : News h₀ L h' (g o') := by
  obtain ⟨pre, post, rfl, hg, a, b⟩ := U.split
  rw [hg]
  intro p hp
  rcases List.mem_append.mp hp with q | q
  · have z := N p (List.mem_append_left _ q)
    exact ⟨k _ _ (a p q) z.1, z.2⟩
  · rcases List.mem_cons.mp q with rfl | q
    · exact ⟨e, (N (S, o) (by simp)).2⟩
    · have z := N p (List.mem_append_right _ (.tail _ q))
      exact ⟨k _ _ (b p q) z.1, z.2⟩
theorem frKeep {h₀ h h' : Heap} {L : Addr} {m : Str → Option Value} (F : Fr h₀ L h m) (k : ∀ x o, h.get? x = some o → h'.get? x = some o) : Fr h₀ L h' m :=
  frAfter (S := []) F (fun _ h => nomatch h) fun x o _ => k x o
theorem newsKeep {h₀ h h' : Heap} {L : Addr} {news : List (Addr × Obj)} (N : News h₀ L h news) (k : ∀ x o, h.get? x = some o → h'.get? x = some o) : News h₀ L h' news :=
  fun p hp => ⟨k _ _ (N p hp).1, (N p hp).2⟩

theorem newsSub {h₀ h : Heap} {L : Addr} {news news' : List (Addr × Obj)} (N : News h₀ L h news) (hs : ∀ p ∈ news', p ∈ news) : News h₀ L h news' := fun p hp => N p (hs p hp)
theorem sub_nil {news : List (Addr × Obj)} : ∀ p ∈ ([] : List (Addr × Obj)), p ∈ news := fun _ h => nomatch h
theorem sub_cons {q : Addr × Obj} {l news : List (Addr × Obj)} (h : q ∈ news) (t : ∀ p ∈ l, p ∈ news) : ∀ p ∈ q :: l, p ∈ news := fun p hp => by
  rcases List.mem_cons.mp hp with rfl | hp
  · exact h
  · exact t p hp
theorem off_one {a b : Addr} {o : Obj} (h : a ≠ b) : ∀ p ∈ [(a, o)], p.1 ≠ b := fun p hp => by rw [List.mem_singleton.mp hp]; exact h

/-- names whose values are known -/
noncomputable def Has (m : Str → Option Value) (ps : List (Str × Value)) : Prop := ∀ p ∈ ps, m p.1 = some p.2
noncomputable def over : List (Str × Value) → (Str → Option Value) → Str → Option Value
  | [], m, y => m y
  | p :: r, m, y => if y = p.1 then some p.2 else over r m y
theorem has_nil {m : Str → Option Value} : Has m [] := fun _ h => nomatch h
theorem has_cons {m : Str → Option Value} {x : Str} {v : Value} {r : List (Str × Value)} (h : m x = some v) (t : Has m r) : Has m ((x, v) :: r) := by
  intro p hp
  rcases List.mem_cons.mp hp with rfl | hp
  · exact h
  · exact t p hp
theorem Has.shape {m : Str → Option Value} : ∀ {ps : List (Str × Value)}, Has m ps → m = over ps m := by
  intro ps h
  funext y
  induction ps with
  | nil => rfl
  | cons p r ih =>
    show m y = if y = p.1 then some p.2 else over r m y
    by_cases e : y = p.1
    · rw [if_pos e, e]; exact h p (.head _)
    · rw [if_neg e]; exact ih fun q hq => h q (.tail _ hq)

theorem updMem {S : Addr} {o : Obj} {news : List (Addr × Obj)} {g : Obj → List (Addr × Obj)} (U : UpdF S o news g) : (S, o) ∈ news := by
  obtain ⟨pre, post, rfl, -⟩ := U.split
  simp

noncomputable def ptKind (prog : Program) (w : World) : HeapKind prog w P2 where
  is := fun h p a => Rd h (.ref a) (ptD p)
  hash := ptHash prog w
  draws := fun _ => 3
  room := fun A => A.units + 3 < cLine
  inj := fun hx hy => rdPt_unique hx hy
  keeps := fun x ho hd hs => rdPt_keep (KeepT.but ho hd hs) x
  pyHash := fun hu hk h => hash_pt (by omega) hk h
  eqBool := fun {A E s x y a b Q} hu hx hy h => SeqAt.eqBoolOverData _ _ _ _ _ _ _ _ _ _ _ _ hx hy (lay_pt x) (lay_pt y) (by have := depth_pt x; omega) (by rw [eqv_pt]; exact h)
  quiet := fun hk h => quiet_pt hk h

noncomputable def pairKind (prog : Program) (w : World) : HeapKind prog w (P2 × P2) where
  is := fun h p a => Rd h (.ref a) (keyD p)
  hash := keyHash2 prog w
  draws := fun _ => 7
  room := fun A => A.units + 3 < cLine
  inj := fun hx hy => rdKey_unique hx hy
  keeps := fun x ho hd hs => rdKey_keep (KeepT.but ho hd hs) x
  pyHash := fun hu hk h => hash_key (by omega) hk h
  eqBool := fun {A E s x y a b Q} hu hx hy h => SeqAt.eqBoolOverData _ _ _ _ _ _ _ _ _ _ _ _ hx hy (lay_key x) (lay_key y) (by have := depth_key x; omega) (by rw [eqv_key]; exact h)
  quiet := fun hk h => quiet_key hk h
end
end Mine
end

section
open PySem PySem.W PySem.Calls PyProof.Rows PySem.Spec
set_option maxRecDepth 100000
namespace Mine

noncomputable def conns (M : List Ent) : List ((P2 × P2) × Int) := M.filterMap fun e => e.2.1.map fun r => ((e.1, r), e.2.2)
noncomputable def lsts (M : List Ent) : List (P2 × Int) := M.filterMap fun e => if e.2.1.isNone then some (e.1, e.2.2) else none

inductive VsAre {K : Type} : List (K × Addr × Value) → List (K × Int) → Prop
  | nil : VsAre [] []
  | cons {k : K} {a : Addr} {o : Int} {t : Tok} {xs : List (K × Addr × Value)} {cl : List (K × Int)} : VsAre xs cl → VsAre ((k, a, .int o t) :: xs) ((k, o) :: cl)

noncomputable def look {K : Type} [DecidableEq K] (cl : List (K × Int)) (k : K) : Option Int := (cl.find? fun x => decide (x.1 = k)).map (·.2)

section
variable {K : Type}
theorem VsAre.keys {xs : List (K × Addr × Value)} {cl : List (K × Int)} (h : VsAre xs cl) : xs.map (·.1) = cl.map (·.1) := by
  induction h with
  | nil => rfl
  | cons _ ih => simp [ih]
theorem VsAre.length {xs : List (K × Addr × Value)} {cl : List (K × Int)} (h : VsAre xs cl) : xs.length = cl.length := by
  induction h with
  | nil => rfl
  | cons _ ih => simp [ih]
theorem VsAre.append {xs ys : List (K × Addr × Value)} {cl dl : List (K × Int)} (h : VsAre xs cl) (h' : VsAre ys dl) : VsAre (xs ++ ys) (cl ++ dl) := by
  induction h with
  | nil => exact h'
  | cons _ ih => exact .cons ih
theorem VsAre.filter (f : K → Bool) {xs : List (K × Addr × Value)} {cl : List (K × Int)} (h : VsAre xs cl) : VsAre (xs.filter fun x => f x.1) (cl.filter fun x => f x.1) := by
  induction h with
  | nil => exact .nil
  | @cons k a o t xs cl _ ih =>
    simp only [List.filter_cons]
    cases f k <;> simp only [Bool.false_eq_true, if_false, if_true]
    · exact ih
    · exact .cons ih
variable [DecidableEq K]
theorem VsAre.lk {xs : List (K × Addr × Value)} {cl : List (K × Int)} (h : VsAre xs cl) (k : K) :
    match look cl k with
    | none => atKey xs k = none
    | some o => ∃ a t, atKey xs k = some (a, .int o t) := by
  induction h with
  | nil => simp [Mine.look, atKey]
  | @cons k' a o t xs cl _ ih =>
    by_cases e : k' = k
    · simp only [Mine.look, atKey, List.find?_cons, e, decide_true, Option.map_some]
      exact ⟨_, _, rfl⟩
    · simp only [Mine.look, atKey, List.find?_cons, e, decide_false] at ih ⊢
      exact ih
theorem VsAre.lkV {xs : List (K × Addr × Value)} {cl : List (K × Int)} (h : VsAre xs cl) (k : K) :
    match look cl k with
    | none => ((atKey xs k).map (·.2)).getD .none = .none
    | some o => ∃ t, ((atKey xs k).map (·.2)).getD .none = .int o t := by
  have z := h.lk k
  cases e : look cl k with
  | none => rw [e] at z; simp only at z ⊢; rw [z]; rfl
  | some o => rw [e] at z; simp only at z ⊢; obtain ⟨a, t, z⟩ := z; rw [z]; exact ⟨t, rfl⟩
end

/-- the table's own objects -/
noncomputable def DxObj (w : World) (C D : Addr) (o : Obj) : Prop := ∃ t1 t2 n, o = dictOf [⟨PyData.keyHash w.params "connections", .str "connections" t1, .ref C⟩, ⟨PyData.keyHash w.params "listeners", .str "listeners" t2, .ref D⟩] n

section
variable (prog : Program) (w : World)
/-- the dict of the connections; its keys are younger than all of H -/
noncomputable def ConAt (H h : Heap) (C : Addr) (cl : List ((P2 × P2) × Int)) : Prop := ∃ xs, h.DictOfH (pairKind prog w) C xs ∧ VsAre xs cl ∧ (C == sysModules) = false ∧ ∀ x ∈ xs, H.get? x.2.1 = none
noncomputable def LstAt (h : Heap) (D : Addr) (ll : List (P2 × Int)) : Prop := ∃ xs, h.DictOfH (ptKind prog w) D xs ∧ VsAre xs ll ∧ (D == sysModules) = false
end
section
variable {prog : Program} {w : World} {H h h' : Heap} {C D : Addr} {cl : List ((P2 × P2) × Int)} {ll : List (P2 × Int)}
theorem ConAt.keep (c : ConAt prog w H h C cl) (k : KeepT h h') (e : ∀ o, h.get? C = some o → h'.get? C = some o) : ConAt prog w H h' C cl := by
  obtain ⟨xs, ⟨o, es, ep, ho, hc, hd, he, his, hn⟩, v, l⟩ := c
  exact ⟨xs, ⟨o, es, ep, e _ ho, hc, hd, he, fun x hx => rdKey_keep k (his x hx), hn⟩, v, l⟩
theorem LstAt.keep (c : LstAt prog w h D ll) (k : KeepT h h') (e : ∀ o, h.get? D = some o → h'.get? D = some o) : LstAt prog w h' D ll := by
  obtain ⟨xs, ⟨o, es, ep, ho, hc, hd, he, his, hn⟩, v, l⟩ := c
  exact ⟨xs, ⟨o, es, ep, e _ ho, hc, hd, he, fun x hx => rdPt_keep k (his x hx), hn⟩, v, l⟩
theorem ConAt.keeps (c : ConAt prog w H h C cl) (k : ∀ b o, h.get? b = some o → h'.get? b = some o) : ConAt prog w H h' C cl := c.keep (KeepT.of k) (k C)
theorem LstAt.keeps (c : LstAt prog w h D ll) (k : ∀ b o, h.get? b = some o → h'.get? b = some o) : LstAt prog w h' D ll := c.keep (KeepT.of k) (k D)
end

section
variable {prog : Program} {w : World} {A : Around} {E : Value → Shared → Prop} {s : Shared}
theorem meth_dict {d : Addr} {name : Str} {id : String} {pl : Sem Bool} {o : Obj} {Q : Value × List Value → Shared → Prop} (slot : Slot "dict" name id) (hty : typeOf (.builtin id) = pure (.type "method_descriptor"))
    (ho : s.heap.get? d = some o) (hc : o.ExactDict) (h : Q (.builtin id, [.ref d]) s) : wpAny (model prog w) A (getMethod (.ref d) name pl) Q E s :=
  getMethod_builtin ⟨o, ho, hc.1⟩ PySem.F.plainAttrs_dict slot hty (fun b e => by injection e with e; subst e; exact ⟨o, ho, hc.2.1⟩) h
theorem meth_con {H : Heap} {C : Addr} {name : Str} {id : String} {pl : Sem Bool} {cl : List ((P2 × P2) × Int)} {Q : Value × List Value → Shared → Prop} (slot : Slot "dict" name id) (hty : typeOf (.builtin id) = pure (.type "method_descriptor"))
    (c : ConAt prog w H s.heap C cl) (h : Q (.builtin id, [.ref C]) s) : wpAny (model prog w) A (getMethod (.ref C) name pl) Q E s := by
  obtain ⟨xs, ⟨o, es, ep, ho, hc, -⟩, -⟩ := c
  exact meth_dict slot hty ho hc h
theorem meth_lst {C : Addr} {name : Str} {id : String} {pl : Sem Bool} {cl : List (P2 × Int)} {Q : Value × List Value → Shared → Prop} (slot : Slot "dict" name id) (hty : typeOf (.builtin id) = pure (.type "method_descriptor"))
    (c : LstAt prog w s.heap C cl) (h : Q (.builtin id, [.ref C]) s) : wpAny (model prog w) A (getMethod (.ref C) name pl) Q E s := by
  obtain ⟨xs, ⟨o, es, ep, ho, hc, -⟩, -⟩ := c
  exact meth_dict slot hty ho hc h
theorem get_con {H : Heap} {C a : Addr} {cl : List ((P2 × P2) × Int)} {k : P2 × P2} {Q : Value → Shared → Prop} (hu : A.units + 4 < cLine) (c : ConAt prog w H s.heap C cl) (r : Rd s.heap (.ref a) (keyD k))
    (h : ∀ v, (match look cl k with | none => v = .none | some o => ∃ t, v = .int o t) → Q v { s with toks := s.toks + 7 }) : wpAny (model prog w) A (call (.builtin "dict.get") [.ref C, .ref a]) Q E s := by
  obtain ⟨xs, hd, v, l, -⟩ := c
  refine call_meetsIn PySem.F.slot_dict_get hd.typeIs PySem.F.entry_dict_get (PySem.F.args_dict_get_2 _ _) (meetsH_dict_get (pairKind prog w) C a l) ⟨hu, k, xs, r, hd, h _ (v.lkV k)⟩
theorem get_lst {D a : Addr} {ll : List (P2 × Int)} {k : P2} {Q : Value → Shared → Prop} (hu : A.units + 4 < cLine) (c : LstAt prog w s.heap D ll) (r : Rd s.heap (.ref a) (ptD k))
    (h : ∀ v, (match look ll k with | none => v = .none | some o => ∃ t, v = .int o t) → Q v { s with toks := s.toks + 3 }) : wpAny (model prog w) A (call (.builtin "dict.get") [.ref D, .ref a]) Q E s := by
  obtain ⟨xs, hd, v, l⟩ := c
  refine call_meetsIn PySem.F.slot_dict_get hd.typeIs PySem.F.entry_dict_get (PySem.F.args_dict_get_2 _ _) (meetsH_dict_get (ptKind prog w) D a l) ⟨hu, k, xs, r, hd, h _ (v.lkV k)⟩
end
end Mine
end

section
open PySem PySem.W PySem.Calls PyProof.Rows PySem.Spec
set_option maxRecDepth 100000
namespace Mine

section
variable {prog : Program} {w : World} {A : Around} {E : Value → Shared → Prop} {s : Shared}

/-- an exact dict with these entries, at this epoch -/
noncomputable def RawDict (h : Heap) (d : Addr) (es : Array DictEntry) (ep : Nat) : Prop := ∃ o, h.get? d = some o ∧ o.ExactDict ∧ o.data = .dict es ep

theorem iter_raw {d : Addr} {es : Array DictEntry} {ep : Nat} {Q : Value → Shared → Prop} (hd : (d == sysModules) = false) (hm : RawDict s.heap d es ep)
    (hQ : Q (.ref s.heap.objs.size) { s with heap := s.heap.push { cls := .type "dict_keyiterator", data := .fields #[.ref d, .int 0 0, .int es.size 0, .int ep 0] } }) :
    wpAny (model prog w) A (pyIter (.ref d)) Q E s := by
  obtain ⟨o, ho, hc, hdat⟩ := hm
  have hT : s.TypeIs (.ref d) "dict" := ⟨o, ho, hc.1⟩
  refine wpAny_pyIter_slot hT PySem.F.slot_dict_iter (wpAny_call_entry PySem.F.slot_dict_iter hT PySem.F.entry_dict_iter ?_ (PySem.F.args_dict_iter_1 _))
  unfold Builtin.«dict.__iter__» Builtin.Dict.dictSlotNone
  refine wpAny_bind (wpAny_bind (wpAny_notOrdered_dict hT ?_))
  show wpAny _ _ (pure (Value.ref d)) _ _ s
  refine wpAny_pure ?_
  show wpAny _ _ (Builtin.Dict.showsAll d >>= _) _ _ s
  unfold Builtin.Dict.showsAll
  rw [if_neg (by rw [hd]; exact Bool.false_ne_true)]
  refine wpAny_bind (wpAny_pure ?_)
  refine wpAny_bind (wpAny_dictEntries ho hdat ?_)
  refine wpAny_bind (wpAny_dictEpoch ho hdat ?_)
  exact wpAny_bind (wpAny_newObj_type (wpAny_pure ⟨_, rfl, "dict_keyiterator", _, ⟨_, Heap.get?_push_size _ rfl, rfl⟩, PySem.F.slot_dict_keyiterator_next.lookup, hQ⟩))

/-- the first half of a step of the dict's iterator: it is asked, and finds the dict as it was -/
theorem next_raw {it d : Addr} {i ep : Nat} {es : Array DictEntry} {k : DictEntry} {Q : Option Value → Shared → Prop} (hit : s.heap.IsKeyIter it d i es.size ep) (hm : RawDict s.heap d es ep) (hk : es[i]? = some k)
    (hQ : ∀ h', h'.IsKeyIter it d (i + 1) es.size ep → Heap.SameBut it s.heap h' → Q (some k.key) { s with heap := h' }) : wpAny (model prog w) A (pyNext (.ref it)) Q E s := by
  obtain ⟨o, ho, hc, hd⟩ := id hit
  obtain ⟨od, hod, hcd, hdd⟩ := id hm
  have hno : Builtin.Dict_items.ownsTuple "dict_keyiterator" = false := by decide
  unfold pyNext
  refine wpAny_bind (wpAny_attempt (wpAny_callSpecial?_slot (name := Str.ofString "__next__") hit.typeIs PySem.F.slot_dict_keyiterator_next
    (wpAny_call_entry PySem.F.slot_dict_keyiterator_next hit.typeIs PySem.F.entry_dict_keyiterator_next ?_ (PySem.F.args_dict_keyiterator_next_1 _))))
  refine wpAny_bind (wpAny_pure (wpAny_bind (wpAny_bind ?_)))
  refine wpAny_bind (wpAny_typeNameOfWhole_keyiter hit.typeIs (wpAny_pure ?_))
  refine wpAny_bind (wpAny_fieldsOf ho hd ?_)
  simp only [hno, Bool.false_eq_true, if_false]
  show wpAny _ _ (if (Value.ref d == Value.none) = true then _ else _) _ _ s
  rw [if_neg (show ¬ ((Value.ref d == Value.none) = true) from Bool.false_ne_true)]
  refine wpAny_bind (wpAny_pure (wpAny_bind (wpAny_dictEntries hod hdd ?_)))
  rw [if_neg (by simp)]
  refine wpAny_bind (wpAny_pure (wpAny_bind (wpAny_dictEpoch hod hdd ?_)))
  rw [if_neg (by simp)]
  refine wpAny_pure ?_
  simp only [show ¬ ((i : Int) < 0) from by omega, if_false, Int.toNat_natCast, hk]
  refine wpAny_bind ?_
  refine wpAny_bind (wpAny_typeNameOfWhole_keyiter hit.typeIs (wpAny_pure ?_))
  refine wpAny_bind (wpAny_isOneOf_keyiter hit.typeIs ?_)
  show wpAny _ _ (setField (.ref it) 1 (rawInt ((i : Int) + 1)) >>= _) _ _ s
  refine wpAny_bind (wpAny_setField ho hd (by simp) ?_)
  have hit' : (s.heap.update it (Obj.mapFields (·.setIfInBounds 1 (rawInt ((i : Int) + 1))))).IsKeyIter it d (i + 1) es.size ep :=
    ⟨_, Heap.get?_update_self _ ho (Obj.isFreed_of_fields (Obj.data_mapFields hd _)), (Obj.cls_mapFields ..).trans hc, by rw [Obj.data_mapFields hd]; simp [rawInt]⟩
  refine wpAny_bind (wpAny_holding (wpAny_bind (wpAny_isOneOf_keyiter (s := { s with heap := _ }) hit'.typeIs ?_)))
  exact wpAny_pure (wpAny_pure ⟨_, rfl, wpAny_pure (hQ _ hit' (Heap.SameBut.update ..))⟩)

theorem end_raw {it d : Addr} {i ep : Nat} {es : Array DictEntry} {Q : Option Value → Shared → Prop} (hh : A.handled = none) (hit : s.heap.IsKeyIter it d i es.size ep) (hm : RawDict s.heap d es ep) (hk : es[i]? = none)
    (hQ : ∀ h', Heap.ExtBut it s.heap h' → Q none { s with heap := h' }) : wpAny (model prog w) A (pyNext (.ref it)) Q E s := by
  obtain ⟨o, ho, hc, hd⟩ := id hit
  obtain ⟨od, hod, hcd, hdd⟩ := id hm
  have hno : Builtin.Dict_items.ownsTuple "dict_keyiterator" = false := by decide
  unfold pyNext
  refine wpAny_bind (wpAny_attempt (wpAny_callSpecial?_slot (name := Str.ofString "__next__") hit.typeIs PySem.F.slot_dict_keyiterator_next
    (wpAny_call_entry PySem.F.slot_dict_keyiterator_next hit.typeIs PySem.F.entry_dict_keyiterator_next ?_ (PySem.F.args_dict_keyiterator_next_1 _))))
  refine wpAny_bind (wpAny_pure (wpAny_bind (wpAny_bind ?_)))
  refine wpAny_bind (wpAny_typeNameOfWhole_keyiter hit.typeIs (wpAny_pure ?_))
  refine wpAny_bind (wpAny_fieldsOf ho hd ?_)
  simp only [hno, Bool.false_eq_true, if_false]
  show wpAny _ _ (if (Value.ref d == Value.none) = true then _ else _) _ _ s
  rw [if_neg (show ¬ ((Value.ref d == Value.none) = true) from Bool.false_ne_true)]
  refine wpAny_bind (wpAny_pure (wpAny_bind (wpAny_dictEntries hod hdd ?_)))
  rw [if_neg (by simp)]
  refine wpAny_bind (wpAny_pure (wpAny_bind (wpAny_dictEpoch hod hdd ?_)))
  rw [if_neg (by simp)]
  refine wpAny_pure ?_
  simp only [show ¬ ((i : Int) < 0) from by omega, if_false, Int.toNat_natCast, hk]
  refine wpAny_bind ?_
  refine wpAny_bind (wpAny_typeNameOfWhole_keyiter hit.typeIs (wpAny_pure ?_))
  show wpAny _ _ (setField (.ref it) 0 .none >>= _) _ _ s
  refine wpAny_bind (wpAny_setField ho hd (by simp) ?_)
  show wpAny _ _ (newExc (.type "StopIteration") [] >>= _) _ _ _
  refine wpAny_bind ?_
  simp only [newExc, newTuple]
  refine wpAny_bind (wpAny_newObj_type ?_ (by size_fits))
  refine wpAny_bind (m := firstArgMember _ _) (wpAny_of_eq (a := Value.none) (by first | rfl | (simp only [firstArgMember]; rfl)) ?_)
  refine wpAny_newObj_type ?_ (by size_fits)
  simp only [raiseNew]
  refine wpAny_bind (wpAny_handled ?_)
  rw [show A.in1.handled = none from hh]
  refine wpAny_bind (wpAny_pure (wpAny_throw ?_))
  refine wpAny_bind (wpAny_isInstance (T := "StopIteration") (b := true) ⟨_, Heap.get?_push_size _ rfl, rfl⟩ isSubtype_stop ?_)
  exact wpAny_pure (hQ _ (((Heap.SameBut.update ..).extBut.push _).push _))

theorem RawDict.at {h h' : Heap} {d : Addr} {es : Array DictEntry} {ep : Nat} (x : RawDict h d es ep) (e : ∀ o, h.get? d = some o → h'.get? d = some o) : RawDict h' d es ep := let ⟨o, ho, r⟩ := x; ⟨o, e _ ho, r⟩

theorem walks_raw (hh : A.handled = none) (I d : Addr) (hne : d ≠ I) (es : Array DictEntry) (ep : Nat) :
    Walks prog w A I [I, d] [I] es.size (fun i v => (es[i]?).map (·.key) = some v) (fun i h => h.IsKeyIter I d i es.size ep ∧ RawDict h d es ep) where
  sub := fun b hb => by simp at hb; simp [hb]
  frame := fun _ _ _ st hk => ⟨st.1.at fun o e => hk I (by simp) o e, st.2.at fun o e => hk d (by simp) o e⟩
  item := fun i s Q E hi st hQ => by
    refine next_raw st.1 st.2 (k := es[i]) (by simp [hi]) fun h' hit' hs' => ?_
    exact hQ _ h' s.toks (by simp [hi]) ⟨hit', st.2.at fun o e => hs'.extBut d o hne e⟩ fun b o hb e => hs'.extBut b o (fun h => hb (by simp [h])) e
  done := fun s Q E st hQ => end_raw hh st.1 st.2 (by simp) fun h' he' => hQ h' s.toks fun b o hb e => he' b o (fun h => hb (by simp [h])) e
  self := fun _ _ _ _ st hQ => wpAny_pyIter_keyiter st.1 hQ
end

section
variable {K : Type} [DecidableEq K]
noncomputable def dropKey (xs : List (K × Addr × Value)) (k : K) : List (K × Addr × Value) := xs.filter fun x => !decide (x.1 = k)
theorem dropKey_of_not {k : K} : ∀ {xs : List (K × Addr × Value)}, k ∉ xs.map (·.1) → dropKey xs k = xs
  | [], _ => rfl
  | x :: xs, h => by
    have h1 : ¬ x.1 = k := fun e => h (by simp [e])
    have h2 := dropKey_of_not (xs := xs) (k := k) fun q => h (by simp only [List.map_cons, List.mem_cons]; exact .inr q)
    unfold dropKey at h2 ⊢
    rw [List.filter_cons, h2]
    simp [h1]
theorem erase_dropKey {k : K} {p : Addr × Value} : ∀ {xs : List (K × Addr × Value)} {j : Nat}, (xs.map (·.1)).Nodup → xs[j]? = some (k, p) → xs.eraseIdx j = dropKey xs k
  | [], j, _, h => by simp at h
  | x :: xs, 0, hn, h => by
    simp at h; subst h
    rw [List.map_cons, List.nodup_cons] at hn
    have := dropKey_of_not hn.1
    unfold dropKey at this ⊢
    rw [List.filter_cons]
    simpa using this.symm
  | x :: xs, j + 1, hn, h => by
    rw [List.map_cons, List.nodup_cons] at hn
    simp at h
    have hm : k ∈ xs.map (·.1) := List.mem_map.mpr ⟨(k, p), List.mem_of_getElem? h, rfl⟩
    have h1 : ¬ x.1 = k := fun e => hn.1 (e ▸ hm)
    have ih := erase_dropKey (xs := xs) hn.2 h
    rw [List.eraseIdx_cons_succ, ih]
    unfold dropKey
    rw [List.filter_cons]
    simp [h1]
theorem map_erase {α β : Type} (f : α → β) : ∀ (l : List α) (j : Nat), (l.map f).eraseIdx j = (l.eraseIdx j).map f
  | [], _ => rfl
  | _ :: _, 0 => rfl
  | x :: l, j + 1 => by rw [List.map_cons, List.eraseIdx_cons_succ, List.eraseIdx_cons_succ, List.map_cons, map_erase f l j]
variable {prog : Program} {w : World} {knd : HeapKind prog w K} {A : Around} {E : Value → Shared → Prop} {s : Shared} {d a : Addr} {k : K} {xs : List (K × Addr × Value)}

theorem takeOut_heap {p : Addr × Value} {Q : Option DictEntry → Shared → Prop} (hu : knd.room A) (hkey : knd.is s.heap k a) (hm : s.heap.DictOfH knd d xs) (hp : atKey xs k = some p) (hsz : xs.length ≤ sizeLine)
    (hQ : ∀ e h', e.val = p.2 → h'.DictOfH knd d (dropKey xs k) → Heap.SameBut d s.heap h' → Q (some e) { s with heap := h', toks := s.toks + knd.draws k }) :
    wpAny (model prog w) A (Builtin.Dict.takeOut d (.ref a)) Q E s := by
  obtain ⟨o, es, ep, ho, hc, hd, he, his, hn⟩ := hm
  unfold Builtin.Dict.takeOut
  try with_reducible refine wpAny_holding ?_
  refine wpAny_bind (knd.pyHash hu hkey (wpAny_bind (wpAny_dictFind_heap (s := { s with toks := s.toks + knd.draws k }) hu hkey ho hd he his hn ?_ ?_)))
  · intro hno
    rw [atKey_none_of_get hno] at hp; cases hp
  · intro j q hj
    rw [atKey_of_get hn hj] at hp
    cases hp
    refine wpAny_bind (wpAny_dictEntries (s := { s with toks := s.toks + knd.draws k }) ho hd ?_)
    rw [entry_at he j, hj]
    have hz : es.size ≤ sizeLine := by rw [size_of_entries he]; exact hsz
    refine wpAny_bind (wpAny_updateDictKeys (hz := hz) (s := { s with toks := s.toks + knd.draws k }) ho hd (wpAny_pure (hQ _ _ rfl ⟨_, _, ep + 1, Heap.get?_update_self _ ho (Obj.isFreed_of_dict (Obj.data_mapDictKeys hd _)),
      hc.mapDictKeys _, Obj.data_mapDictKeys hd _, ?_, ?_, ?_⟩ (Heap.SameBut.update ..))))
    · rw [← erase_dropKey hn hj]
      obtain ⟨l⟩ := es
      simp only [List.eraseIdxIfInBounds_toArray] at he ⊢
      rw [he, map_erase]
    · intro x hx
      exact knd.keeps (his x (List.mem_filter.mp hx).1) ho hd (Heap.SameBut.update ..)
    · exact hn.sublist (List.Sublist.map _ (List.filter_sublist ..))

theorem pop_heap {p : Addr × Value} {Q : Value → Shared → Prop} (hu : knd.room A.in1) (hkey : knd.is s.heap k a) (hm : s.heap.DictOfH knd d xs) (hp : atKey xs k = some p) (hsz : xs.length ≤ sizeLine)
    (hQ : ∀ h', h'.DictOfH knd d (dropKey xs k) → Heap.SameBut d s.heap h' → Q p.2 { s with heap := h', toks := s.toks + knd.draws k }) :
    wpAny (model prog w) A (call (.builtin "dict.pop") [.ref d, .ref a]) Q E s := by
  refine wpAny_call_entry PySem.F.slot_dict_pop hm.typeIs PySem.F.entry_dict_pop ?_ (PySem.F.args_dict_pop_2 _ _)
  unfold Builtin.«dict.pop»
  refine wpAny_bind ?_
  unfold Builtin.Dict.keyAndDefault
  refine wpAny_bind (wpAny_notOrdered_dict hm.typeIs ?_)
  show wpAny _ _ (pure (d, Value.ref a, none)) _ _ s
  refine wpAny_pure ?_
  dsimp only
  rw [if_neg (show ¬ ((keyPart (.ref a)).isSome = true) from by simp [keyPart])]
  have hm' := hm
  obtain ⟨o, es, ep, ho, hc, hd, he, -⟩ := hm'
  refine wpAny_bind (wpAny_dictEntries ho hd (wpAny_bind (wpAny_pure ?_)))
  have hne : es.isEmpty = false := by
    have e := size_of_entries he
    cases xs with
    | nil => simp [atKey] at hp
    | cons x xs => simp [Array.isEmpty, e]
  rw [hne]
  simp only [Bool.false_eq_true, if_false]
  refine wpAny_bind (takeOut_heap hu hkey hm hp hsz fun e h' hv hm' hs' => ?_)
  simp only [Option.isNone_some, Bool.false_eq_true, if_false]
  exact wpAny_bind (wpAny_letGo (wpAny_pure ⟨e.val, rfl, by rw [hv]; exact hQ h' hm' hs'⟩))
end
end Mine
end

section
open PySem PySem.W PySem.Calls PyProof.Rows PySem.Spec
set_option maxRecDepth 100000
namespace Mine

noncomputable def LEnd (h₀ : Heap) (L I : Addr) (oI : Obj) (J : (Str → Option Value) → List (Addr × Obj) → Prop) (s₁ : Shared) (Q : Flow → Shared → Prop) (f : Flow) (s₂ : Shared) : Prop :=
  match f with
  | .ret v => Q (.ret v) s₂
  | .brk => Q .next s₂
  | _ => ∃ h' tk m' nx, s₂ = { s₁ with heap := h', toks := tk } ∧ Fr h₀ L h' m' ∧ News h₀ L h' ((I, oI) :: nx) ∧ (∀ p ∈ nx, p.1 ≠ I) ∧ J m' nx

section
variable {prog : Program} {w : World} {A : Around} {E : Value → Shared → Prop} {s : Shared} {env : Env} {h₀ : Heap} {x : Str} {body : List Stmt} {Q : Flow → Shared → Prop}

/-- a loop over anything that is walked by I alone, what it reads else standing in the base -/
theorem walk_loop {I : Addr} {fp : List Addr} {n : Nat} {P : Nat → Value → Prop} {St : Nat → Heap → Prop} {m₀ : Str → Option Value} {news : List (Addr × Obj)} (J : Nat → (Str → Option Value) → List (Addr × Obj) → Prop)
    (W : Walks prog w A I fp [I] n P St) (hI : I ∈ fp) (hLf : env.locals ∉ fp) (hIn : h₀.get? I = none) (hfp : ∀ b ∈ fp, b = I ∨ ∃ o, h₀.get? b = some o) (hISt : ∀ i h, St i h → ∃ o, h.get? I = some o)
    (hnw : ∀ p ∈ news, p.1 ≠ I) (hst : St 0 s.heap) (F : Fr h₀ env.locals s.heap m₀) (N : News h₀ env.locals s.heap news) (hj : J 0 m₀ news)
    (turn : ∀ i v m₁ news₁ h tk oI, i < n → P i v → J i m₁ news₁ → (∀ p ∈ news₁, p.1 ≠ I) → Fr h₀ env.locals h (fun y => if y = x then some v else m₁ y) → News h₀ env.locals h ((I, oI) :: news₁) →
      wpAny (model prog w) A (execs body env) (LEnd h₀ env.locals I oI (J (i + 1)) { s with heap := h, toks := tk } Q) E { s with heap := h, toks := tk })
    (done : ∀ m₁ news₁ h tk, J n m₁ news₁ → Fr h₀ env.locals h m₁ → News h₀ env.locals h news₁ → Q .next { s with heap := h, toks := tk }) :
    LoopAtV prog w A h₀ env x body Q E (.ref I) s := by
  refine ⟨I, fp, [I], n, P, St, m₀, news, J, rfl, W, hLf, fun b hb => by rw [List.mem_singleton.mp hb]; exact hIn, fun p hp hq => hnw p hp (List.mem_singleton.mp hq), hst, F, N, hj, ?_, ?_⟩
  · rintro i v m₁ news₁ s₁ own ⟨hh', tk', rfl⟩ hin hP hJ hoff hown hownAt hownAll hSt F₁ N₁
    obtain ⟨oI, hoI⟩ := hISt _ _ hSt
    have hIo : (I, oI) ∈ own := hownAll I hI hIn oI hoI
    have one : ∀ p ∈ own, p = (I, oI) := by
      rintro ⟨b, ob⟩ hp
      have hb : b = I := by
        rcases hfp b (hown _ hp) with e | ⟨o, e⟩
        · exact e
        · have := (N₁ _ (List.mem_append_left _ hp)).2.2
          rw [e] at this; cases this
      subst hb
      have := hownAt _ hp
      rw [hoI] at this
      cases this; rfl
    have N₂ : News h₀ env.locals hh' ((I, oI) :: news₁) := by
      intro p hp
      rcases List.mem_cons.mp hp with rfl | hp
      · exact N₁ _ (List.mem_append_left _ hIo)
      · exact N₁ _ (List.mem_append_right _ hp)
    refine wpAny_mono (turn i v m₁ news₁ hh' tk' oI hin hP hJ (fun p hp q => hoff p hp (by rw [q]; exact .head _)) F₁ N₂) (fun f s₂ z => ?_) fun _ _ e => e
    have fin : (∃ h' tk m' nx, s₂ = { s with heap := h', toks := tk } ∧ Fr h₀ env.locals h' m' ∧ News h₀ env.locals h' ((I, oI) :: nx) ∧ (∀ p ∈ nx, p.1 ≠ I) ∧ J (i + 1) m' nx) → LoopStepU h₀ env.locals [I] own (J (i + 1)) { s with heap := hh', toks := tk' } .next s₂ := by
      rintro ⟨h', tk, m', nx, rfl, F', N', hn, hj'⟩
      refine ⟨rfl, h', tk, m', nx, rfl, F', ?_, fun p hp q => hn p hp (List.mem_singleton.mp q), hj'⟩
      intro p hp
      rcases List.mem_append.mp hp with hp | hp
      · rw [one p hp]; exact N' _ (.head _)
      · exact N' _ (.tail _ hp)
    cases f with
    | ret v => exact .ret z
    | brk => exact .brk z
    | next => exact .next (fin z)
    | cont => exact .cont (fin z)
  · rintro h' tk m' news' F' N' _ hJ
    exact done m' news' h' tk hJ F' N'

/-- for x in l, l a list of the base -/
theorem list_loop {l : Addr} {vs : Array Value} {m₀ : Str → Option Value} {news : List (Addr × Obj)} (J : Nat → (Str → Option Value) → List (Addr × Obj) → Prop)
    (hh : A.handled = none) (hl : h₀.IsList l vs) (F : Fr h₀ env.locals s.heap m₀) (N : News h₀ env.locals s.heap news) (hj : J 0 m₀ news)
    (turn : ∀ i v m₁ news₁ h tk I oI, vs[i]? = some v → J i m₁ news₁ → (∀ p ∈ news₁, p.1 ≠ I) → Fr h₀ env.locals h (fun y => if y = x then some v else m₁ y) → News h₀ env.locals h ((I, oI) :: news₁) →
      wpAny (model prog w) A (execs body env) (LEnd h₀ env.locals I oI (J (i + 1)) { s with heap := h, toks := tk } Q) E { s with heap := h, toks := tk })
    (done : ∀ m₁ news₁ h tk, J vs.size m₁ news₁ → Fr h₀ env.locals h m₁ → News h₀ env.locals h news₁ → Q .next { s with heap := h, toks := tk }) :
    wpAny (model prog w) A (pyIter (.ref l)) (fun it s₂ => LoopAtV prog w A h₀ env x body Q E it s₂) E s := by
  have hls : s.heap.IsList l vs := hl.at fun o e => F.keep l o e
  obtain ⟨ol, hol, _⟩ := id hl
  have hlt : l < s.heap.objs.size := Heap.lt_size (F.keep _ _ hol)
  have hne : l ≠ s.heap.objs.size := Nat.ne_of_lt hlt
  refine wpAny_pyIter_list hls ?_
  have hLs : env.locals < s.heap.objs.size := F.ns.lt
  refine walk_loop (s := { s with heap := s.heap.push { cls := .type "list_iterator", data := .fields #[.ref l, .int 0 0] } }) J (Walks.list hh s.heap.objs.size l hne vs) (.head _) ?_ (next_is_new F) ?_ ?_ ?_
    ⟨⟨_, Heap.get?_push_size _ rfl, rfl, rfl⟩, hls.at fun o e => Heap.get?_push_of_some _ e⟩ (F.push _) (fun p hp => ⟨Heap.get?_push_of_some _ (N p hp).1, (N p hp).2⟩) hj (fun i v m₁ news₁ h tk oI hi hP => turn i v m₁ news₁ h tk _ oI hP) done
  · intro hm
    rcases List.mem_cons.mp hm with e | hm
    · exact absurd hLs (e ▸ Nat.lt_irrefl _)
    · have e := List.mem_singleton.mp hm
      exact absurd (Nat.lt_of_lt_of_le (Heap.lt_size hol) F.above) (e ▸ Nat.lt_irrefl _)
  · intro b hb
    rcases List.mem_cons.mp hb with e | hb
    · exact .inl e
    · exact .inr ⟨ol, (List.mem_singleton.mp hb) ▸ hol⟩
  · rintro i h ⟨⟨o, ho, _⟩, _⟩
    exact ⟨o, ho⟩
  · intro p hp e
    have := Heap.lt_size (N p hp).1
    rw [e] at this
    exact Nat.lt_irrefl _ this

theorem forLoopG {R : Result → Shared → Prop} {target : PySem.Expr} {it : Value} (I : Nat → Shared → Prop)
    (turn : ∀ n s, I n s → ∀ E' : Value → Shared → Prop, wpAny (model prog w) A (pyNext it) (fun r s₁ => match r with
      | none => R (.ok .next) s₁
      | some v => wpAny (model prog w) A (letOwnedTupleGo target it v) (fun _ s₁' => wpAny (model prog w) A (assign target env v) (fun _ s₂ => wpAny (model prog w) A (execs body env) (fun f s₃ => match f with
          | .next | .cont => ∃ m, m < n ∧ I m s₃
          | .brk => R (.ok .next) s₃
          | .ret v => R (.ok (.ret v)) s₃) E' s₂) E' s₁') E' s₁) E' s)
    (n : Nat) (h : I n s) : codeAny (model prog w) A (.forLoop target it body [] env) R s := by
  refine codeAny_loop' rfl I (fun n s hI => ?_) n h
  show wpAny _ _ ((forTurn target it body [] env).onRaise (fun x => do noteFrame x env; theTreesLotGoes x)) _ _ s
  refine wpAny_noted ?_
  simp only [forTurn]
  refine wpAny_bind (wpAny_standAt (wpAny_bind (wpAny_onRaise (wpAny_mono (turn n s hI _) (fun r s₁ h₁ => ?_) fun _ _ h' => wpAny_standAt h'))))
  cases r with
  | none => exact wpAny_pure (.inr ⟨rfl, codeAny_block (wpAny_pure h₁)⟩)
  | some v =>
    refine wpAny_bind (wpAny_mono h₁ (fun _ s₂ h₂ => wpAny_bind (wpAny_mono h₂ (fun _ s₃ h₃ => wpAny_bind (wpAny_mono h₃ (fun f s₄ h₄ => ?_) fun _ _ h' => h')) fun _ _ h' => h')) fun _ _ h' => h')
    cases f with
    | next => exact wpAny_pure (.inl ⟨rfl, h₄⟩)
    | cont => exact wpAny_pure (.inl ⟨rfl, h₄⟩)
    | brk => exact wpAny_pure h₄
    | ret v => exact wpAny_pure h₄

theorem go_keyiter {elts : List PySem.Expr} {x1 : Nat} {pos : Pos} {I d : Addr} {v : Value} {i n ep : Nat} {Q : Unit → Shared → Prop} (hit : s.heap.IsKeyIter I d i n ep) (hQ : Q () s) :
    wpAny (model prog w) A (letOwnedTupleGo (.Tuple elts x1 pos) (.ref I) v) Q E s := by
  obtain ⟨o, ho, hc, hd⟩ := hit
  unfold letOwnedTupleGo
  cases v with
  | ref a =>
    refine wpAny_bind (wpAny_load ho ?_)
    rw [hc, hd]
    dsimp only
    rw [if_neg (by
      intro h
      rw [show (["enumerate", "zip", "dict_itemiterator", "dict_reverseitemiterator", "odict_iterator", "itertools.zip_longest", "itertools.pairwise"].contains "dict_keyiterator") = false from by decide, Bool.false_and] at h
      cases h)]
    exact wpAny_pure hQ
  | _ => exact wpAny_pure hQ

/-- for a, b in d: d a dict of the base; the target is left to the turn -/
theorem dict_loop2 {R : Result → Shared → Prop} {elts : List PySem.Expr} {x1 : Nat} {tp : Pos} {d : Addr} {es : Array DictEntry} {ep : Nat} {L : Addr} {m₀ : Str → Option Value} {news : List (Addr × Obj)} (J : Nat → (Str → Option Value) → List (Addr × Obj) → Prop)
    (hh : A.handled = none) (hd : (d == sysModules) = false) (hr : RawDict h₀ d es ep) (F : Fr h₀ L s.heap m₀) (N : News h₀ L s.heap news) (hj : J 0 m₀ news)
    (turn : ∀ i k m₁ news₁ h tk I oI (E' : Value → Shared → Prop), es[i]? = some k → J i m₁ news₁ → (∀ p ∈ news₁, p.1 ≠ I) → Fr h₀ L h m₁ → News h₀ L h ((I, oI) :: news₁) →
      wpAny (model prog w) A (assign (.Tuple elts x1 tp) env k.key) (fun _ s₂ => wpAny (model prog w) A (execs body env) (LEnd h₀ L I oI (J (i + 1)) { s with heap := h, toks := tk } (fun f s' => R (.ok f) s')) E' s₂) E' { s with heap := h, toks := tk })
    (done : ∀ m₁ news₁ h tk, J es.size m₁ news₁ → Fr h₀ L h m₁ → News h₀ L h news₁ → R (.ok .next) { s with heap := h, toks := tk }) :
    wpAny (model prog w) A (pyIter (.ref d)) (fun it s₂ => codeAny (model prog w) A (.forLoop (.Tuple elts x1 tp) it body [] env) R s₂) E s := by
  have hrs : RawDict s.heap d es ep := hr.at fun o e => F.keep d o e
  obtain ⟨od, hod, _⟩ := id hr
  have hlt : d < s.heap.objs.size := Heap.lt_size (F.keep _ _ hod)
  have hne : d ≠ s.heap.objs.size := Nat.ne_of_lt hlt
  refine iter_raw hd hrs ?_
  generalize hI : s.heap.objs.size = I at *
  have hIn : h₀.get? I = none := hI ▸ next_is_new F
  have hIL : L ≠ I := hI ▸ Nat.ne_of_lt F.ns.lt
  have hId : I ≠ d := Ne.symm hne
  have up : ∀ b o, s.heap.get? b = some o → (s.heap.push { cls := .type "dict_keyiterator", data := .fields #[.ref d, .int 0 0, .int es.size 0, .int ep 0] }).get? b = some o := fun b o e => Heap.get?_push_of_some _ e
  have off0 : ∀ p ∈ news, p.1 ≠ I := fun p hp e => by
    have := Heap.lt_size (N p hp).1
    rw [e, hI] at this
    exact Nat.lt_irrefl _ this
  refine forLoopG
    (fun k s' => ∃ h' tk m' news' i, s' = { s with heap := h', toks := tk } ∧ h'.IsKeyIter I d i es.size ep ∧ Fr h₀ L h' m' ∧ News h₀ L h' news' ∧ (∀ p ∈ news', p.1 ≠ I) ∧ J i m' news' ∧ i ≤ es.size ∧ k = es.size + 1 - i) ?_ (es.size + 1)
    ⟨_, s.toks, m₀, news, 0, rfl, ⟨_, by rw [← hI]; exact Heap.get?_push_size _ rfl, rfl, rfl⟩, F.keeps up, N.grown up, off0, hj, Nat.zero_le _, rfl⟩
  rintro k s' ⟨h', tk, m', news', i, rfl, hit, F', N', hoff, hJ, hi, rfl⟩ E'
  have hr' : RawDict h' d es ep := hr.at fun o e => F'.keep d o e
  by_cases hlast : i < es.size
  · refine next_raw (s := { s with heap := h', toks := tk }) hit hr' (k := es[i]) (by simp [hlast]) fun h₂ hit₂ hs₂ => ?_
    dsimp only
    refine go_keyiter (s := { s with heap := h₂, toks := tk }) hit₂ ?_
    have F₂ : Fr h₀ L h₂ m' := F'.change hs₂ (Ne.symm hIL) hIn
    have N₂ : News h₀ L h₂ news' := fun p hp => ⟨(hs₂.2 _ (hoff p hp)).trans (N' p hp).1, (N' p hp).2⟩
    obtain ⟨oI, hoI, hIr⟩ := id hit₂
    have N₃ : News h₀ L h₂ ((I, oI) :: news') := fun p hp => by
      rcases List.mem_cons.mp hp with rfl | hp
      · exact ⟨hoI, Ne.symm hIL, hIn⟩
      · exact N₂ p hp
    refine wpAny_mono (turn i es[i] m' news' h₂ tk I oI E' (by simp [hlast]) hJ hoff F₂ N₃) (fun _ s₂ z => wpAny_mono z (fun f s₃ y => ?_) fun _ _ e => e) fun _ _ e => e
    have fin : (∃ h' tk' m' nx, s₃ = { s with heap := h', toks := tk' } ∧ Fr h₀ L h' m' ∧ News h₀ L h' ((I, oI) :: nx) ∧ (∀ p ∈ nx, p.1 ≠ I) ∧ J (i + 1) m' nx) → ∃ n', n' < es.size + 1 - i ∧ ∃ h' tk m' news' i, s₃ = { s with heap := h', toks := tk } ∧ h'.IsKeyIter I d i es.size ep ∧ Fr h₀ L h' m' ∧ News h₀ L h' news' ∧ (∀ p ∈ news', p.1 ≠ I) ∧ J i m' news' ∧ i ≤ es.size ∧ n' = es.size + 1 - i := by
      rintro ⟨h₄, tk₄, m₄, nx, rfl, F₄, N₄, ho₄, hj₄⟩
      exact ⟨es.size + 1 - (i + 1), by omega, h₄, tk₄, m₄, nx, i + 1, rfl, ⟨oI, N₄.get (.head _), hIr⟩, F₄, fun p hp => N₄ p (.tail _ hp), ho₄, hj₄, hlast, rfl⟩
    cases f with
    | ret v => exact y
    | brk => exact y
    | next => exact fin y
    | cont => exact fin y
  · have hi' : i = es.size := by omega
    subst hi'
    refine end_raw (s := { s with heap := h', toks := tk }) hh hit hr' (by simp) fun h₂ he₂ => ?_
    dsimp only
    exact done m' news' h₂ tk hJ (frAfter (S := [I]) F' (fun a ha => by rw [List.mem_singleton.mp ha]; exact ⟨hIn, hIL⟩) fun x o hx e => he₂ x o (fun q => hx (by rw [q]; exact .head _)) e) (fun p hp => ⟨he₂ _ _ (hoff p hp) (N' p hp).1, (N' p hp).2⟩)
end
end Mine
end

section
open PySem PySem.W PySem.Calls PyProof.Rows PySem.Spec PyProof.Rows.LCg PyProof.Rows.LCt
set_option maxRecDepth 100000
namespace Mine

inductive Zip {α : Type} (Rel : Value → α → Prop) : List Value → List α → Prop
  | nil : Zip Rel [] []
  | cons {v : Value} {a : α} {vs : List Value} {as : List α} : Rel v a → Zip Rel vs as → Zip Rel (v :: vs) (a :: as)

section
variable {α β : Type} {Rel Rel' : Value → α → Prop} {vs ws : List Value} {as bs : List α}
theorem Zip.length (z : Zip Rel vs as) : vs.length = as.length := by
  induction z with
  | nil => rfl
  | cons _ _ ih => simp [ih]
theorem Zip.append (z : Zip Rel vs as) (y : Zip Rel ws bs) : Zip Rel (vs ++ ws) (as ++ bs) := by
  induction z with
  | nil => exact y
  | cons r _ ih => exact .cons r ih
theorem Zip.mono (z : Zip Rel vs as) (h : ∀ v a, Rel v a → Rel' v a) : Zip Rel' vs as := by
  induction z with
  | nil => exact .nil
  | cons r _ ih => exact .cons (h _ _ r) ih
theorem Zip.mono' (z : Zip Rel vs as) (h : ∀ v a, a ∈ as → Rel v a → Rel' v a) : Zip Rel' vs as := by
  induction z with
  | nil => exact .nil
  | cons r _ ih => exact .cons (h _ _ (.head _) r) (ih fun v a ha => h v a (.tail _ ha))
theorem Zip.get (z : Zip Rel vs as) {i : Nat} {v : Value} (h : vs[i]? = some v) : ∃ a, as[i]? = some a ∧ Rel v a := by
  induction z generalizing i with
  | nil => simp at h
  | @cons v' a _ _ r _ ih =>
    cases i with
    | zero => simp at h; subst h; exact ⟨a, rfl, r⟩
    | succ i => simp at h; obtain ⟨b, h1, h2⟩ := ih h; exact ⟨b, by simpa using h1, h2⟩
theorem Zip.map {f : α → β} {R2 : Value → β → Prop} (z : Zip (fun v a => R2 v (f a)) vs as) : Zip R2 vs (as.map f) := by
  induction z with
  | nil => exact .nil
  | cons r _ ih => exact .cons r ih
end
theorem zip_of_rdAll {h : Heap} {vs : List Value} {α : Type} {f : α → PyData} {M : List α} (r : RdAll h vs (M.map f)) : Zip (fun v e => Rd h v (f e)) vs M := by
  induction M generalizing vs with
  | nil => rw [List.map_nil, rdAll_nil] at r; subst r; exact .nil
  | cons e M ih =>
    rw [List.map_cons, rdAll_cons] at r
    obtain ⟨v, r', rfl, a, b⟩ := r
    exact .cons a (ih b)
theorem rdAll_of_zip {h : Heap} {vs : List Value} {α : Type} {f : α → PyData} {M : List α} (z : Zip (fun v e => Rd h v (f e)) vs M) : RdAll h vs (M.map f) := by
  induction z with
  | nil => exact .nil
  | cons r _ ih => exact rdAll_cons'.mpr ⟨r, ih⟩

section
variable {prog : Program} {w : World} {A : Around} {s : Shared} {h₀ : Heap} {L : Addr} {m : Str → Option Value} {env : Env} {α : Type} {Rel : Value → α → Prop}

theorem compT_ind {ct : PySem.Expr} {x : Str} {px : Pos} {scope : Scope} {cl : List (Str × Addr)} {S : List (Addr × Obj) → Prop} {P : Nat → Value → Prop} {Fin : List Value → List (Addr × Obj) → Prop} {all : List Value} {news : List (Addr × Obj)} (p : α → Bool)
    (hP : ∀ i v, P i v → all[i]? = some v) (hS : S news)
    (hkind : ∀ C, (compEnvC scope cl C env).scope.kind = .function) (hxk : ∀ C, (compEnvC scope cl C env).kindOf x = some .local) (hxd : (x == ("__debug__" : Str)) = false)
    (turn : ∀ v e I oI C oC D m₂ h tk (E' : Value → Shared → Prop) ys, Rel v e → NsObj oC m₂ → m₂ x = some v → Fr h₀ L h m → News h₀ L h ((I, oI) :: (C, oC) :: (D, lst ys) :: news) → Off3 I C D news → ((@Ne Nat I C) ∧ (@Ne Nat I D) ∧ (@Ne Nat C D)) →
      wpAny (model prog w) A (isTrue ct (compEnvC scope cl C env) (eval ct (compEnvC scope cl C env)))
        (fun ok s' => ok = p e ∧ ∃ h' tk', s' = { s with heap := h', toks := tk' } ∧ Fr h₀ L h' m ∧ News h₀ L h' ((I, oI) :: (C, oC) :: (D, lst ys) :: news)) E' { s with heap := h, toks := tk })
    : ∀ {vals : List Value} {M' : List α} (i : Nat) (ys : List Value), Zip Rel vals M' → all.drop i = vals → (∀ zs, Zip Rel zs (M'.filter p) → Fin (ys ++ zs) news) →
      CompRestT prog w A h₀ L m env ct (.Name x px) x scope cl s S P Fin vals.length i ys news := by
  intro vals M' i ys z
  induction z generalizing i ys with
  | nil => intro _ fin; exact CompRestT.zero (by simpa using fin [] .nil)
  | @cons v e vals M r z ih =>
    intro hd fin
    refine CompRestT.succ fun v' I oI C oC D m₂ h tk E' hv hC hx F N off ne => ?_
    have hv' : v' = v := by
      have h1 := hP i v' hv
      have h2 : all[i]? = some v := by
        have := congrArg (fun l => l[0]?) hd
        simpa [List.getElem?_drop] using this
      rw [h1] at h2; cases h2; rfl
    subst hv'
    have hd' : all.drop (i + 1) = vals := by rw [← List.drop_drop, hd]; rfl
    refine wpAny_mono (turn v' e I oI C oC D m₂ h tk E' ys r hC hx F N off ne) (fun ok s' q => ?_) fun _ _ e => e
    obtain ⟨rfl, h', tk', rfl, F', N'⟩ := q
    cases hp : p e with
    | false =>
      rw [if_neg Bool.false_ne_true]
      exact CompEnd.intro F' N' news (fun _ h => h) off hS (ih (i + 1) ys hd' fun zs hz => fin zs (by rw [List.filter_cons, hp]; exact hz))
    | true =>
      rw [if_pos rfl]
      refine LCgL.ld_own N' (.tail _ (.head _)) hC hx ?_ (hkind C) (hxk C) hxd
      exact CompEnd.intro F' N' news (fun _ h => h) off hS (ih (i + 1) (ys ++ [v']) hd' fun zs hz => by
        rw [List.append_assoc]
        exact fin ([v'] ++ zs) (by rw [List.filter_cons, hp]; exact .cons r hz))

/-- the dict that a block walks: of the base, or of the ledger -/
noncomputable def DSrc (h₀ : Heap) (d : Addr) (es : Array DictEntry) (ep : Nat) (news : List (Addr × Obj)) : Prop := RawDict h₀ d es ep ∨ ∃ o, (d, o) ∈ news ∧ o.ExactDict ∧ o.data = .dict es ep
theorem DSrc.raw {h₀ h : Heap} {L d : Addr} {es : Array DictEntry} {ep : Nat} {news : List (Addr × Obj)} (x : DSrc h₀ d es ep news) (k : ∀ b o, h₀.get? b = some o → h.get? b = some o) (N : News h₀ L h news) : RawDict h d es ep := by
  rcases x with ⟨o, ho, r⟩ | ⟨o, hm, r⟩
  · exact ⟨o, k _ _ ho, r⟩
  · exact ⟨o, N.get hm, r⟩
theorem dict_st {h₀ : Heap} {L d I : Addr} {es : Array DictEntry} {ep : Nat} : ∀ i (h h' : Heap) (o : Obj) (nw : List (Addr × Obj)), (h.IsKeyIter I d i es.size ep ∧ RawDict h d es ep) → h.get? I = some o → h'.get? I = some o →
    (∀ b o, h₀.get? b = some o → h'.get? b = some o) → News h₀ L h' nw → DSrc h₀ d es ep nw → h'.IsKeyIter I d i es.size ep ∧ RawDict h' d es ep :=
  fun _ _ _ _ _ st e e' k N S => ⟨st.1.at fun o2 e2 => by rw [e] at e2; cases e2; exact e', S.raw k N⟩

noncomputable def DCompT (prog : Program) (w : World) (A : Around) (h₀ : Heap) (L : Addr) (m : Str → Option Value) (env : Env) (ct elt : PySem.Expr) (x : Str) (scope : Scope) (cl : List (Str × Addr)) (Q : Value → Shared → Prop) (xv : Value) (s₁ : Shared) : Prop :=
    ∃ d es ep news, xv = .ref d ∧ (d == sysModules) = false ∧ A.handled = none ∧ Fr h₀ L s₁.heap m ∧ News h₀ L s₁.heap news ∧ DSrc h₀ d es ep news ∧ es.size ≤ sizeLine ∧
      ∀ s₂ : Shared, (∃ h, s₂ = { s₁ with heap := h }) → CompRestT prog w A h₀ L m env ct elt x scope cl s₂ (DSrc h₀ d es ep) (fun i v => (es[i]?).map (·.key) = some v) (FinE h₀ L m s₂ Q) es.size 0 [] news
theorem ListComp_TD {ct elt iter : PySem.Expr} {x : Str} {px : Pos} {scope : Scope} {cl : List (Str × Addr)} {pos : Pos} {Q : Value → Shared → Prop} {E : Value → Shared → Prop} (F₀ : Fr h₀ L s.heap m)
    (hclos : closureFor scope env = pure cl) (hcell : ∀ y ∈ scope.names, y.2 ≠ .cell) (hkind : scope.kind = .function)
    (hnames : ∀ y ∈ scope.names, y.2 = .local → scope.names.lookup y.1 = some .local) (hx : scope.names.lookup x = some .local)
    (h : wpAny (model prog w) A (eval iter env) (DCompT prog w A h₀ L m env ct elt x scope cl Q) E s)
    (hs : ∀ x, foldedSetIterable iter env x = pure x := by intro _; rfl) :
    wpAny (model prog w) A (eval (.ListComp elt [⟨.Name x px, iter, [ct], 0⟩] scope pos) env) Q E s := by
  clear F₀
  rw [eval_ListComp]
  refine wpAny_comprehension_free (use := none) rfl hs hclos hkind hnames (wpAny_mono h (fun xv s₁ h₁ => ?_) fun _ _ e => e)
  obtain ⟨d, es, ep, news, rfl, hd, hh, F, N, S, hsz, R⟩ := h₁
  have hr := S.raw F.keep N
  have hlt : d < s₁.heap.objs.size := by obtain ⟨_, e, _⟩ := hr; exact Heap.lt_size e
  refine iter_raw hd hr ?_
  have up : ∀ b o, s₁.heap.get? b = some o → (s₁.heap.push { cls := .type "dict_keyiterator", data := .fields #[.ref d, .int 0 0, .int es.size 0, .int ep 0] }).get? b = some o := fun b o e => Heap.get?_push_of_some _ e
  refine block_T (s₂ := { s₁ with heap := s₁.heap.push { cls := .type "dict_keyiterator", data := .fields #[.ref d, .int 0 0, .int es.size 0, .int ep 0] } }) (walks_raw hh s₁.heap.objs.size d (Nat.ne_of_lt hlt) es ep) hsz (fun i h st => by obtain ⟨o, e, _⟩ := st.1; exact ⟨o, e⟩) dict_st hcell hkind hx ⟨⟨_, Heap.get?_push_size _ rfl, rfl, rfl⟩, hr.at fun o e => up d o e⟩ (fun b hb => ?_)
    (F.keeps up) (N.grown up) (Nat.ne_of_lt F.ns.lt) (next_is_new F) (fun p hp => Nat.ne_of_lt (Heap.lt_size (N p hp).1)) S (R _ ⟨_, rfl⟩) ?_
  · show b < (s₁.heap.push _).objs.size
    rw [Heap.size_push]
    rcases List.mem_cons.mp hb with rfl | hb
    · exact Nat.lt_succ_self _
    · rw [List.mem_singleton.mp hb]; exact Nat.lt_succ_of_lt hlt
  · intro D C h tk m' ys news' F' N' o1 hn hC₀ hD₀ hCL hDL hCD offC fin
    refine ⟨m', hn, fun h'' hs'' => fin D h'' tk (F'.change hs'' hCL hC₀) (fun p hp => ?_) o1⟩
    refine ⟨hs''.extBut _ _ ?_ (N' p hp).1, (N' p hp).2⟩
    rcases List.mem_cons.mp hp with rfl | hp
    · exact Ne.symm hCD
    · exact offC p hp

noncomputable def DCompU (prog : Program) (w : World) (A : Around) (h₀ : Heap) (L : Addr) (m : Str → Option Value) (env : Env) (elt : PySem.Expr) (x : Str) (scope : Scope) (cl : List (Str × Addr)) (Q : Value → Shared → Prop) (xv : Value) (s₁ : Shared) : Prop :=
    ∃ d es ep news, xv = .ref d ∧ (d == sysModules) = false ∧ A.handled = none ∧ Fr h₀ L s₁.heap m ∧ News h₀ L s₁.heap news ∧ DSrc h₀ d es ep news ∧ es.size ≤ sizeLine ∧
      ∀ s₂ : Shared, (∃ h, s₂ = { s₁ with heap := h }) → CompRest prog w A h₀ L m env elt x scope cl s₂ (DSrc h₀ d es ep) (fun i v => (es[i]?).map (·.key) = some v) (FinE h₀ L m s₂ Q) es.size 0 [] news
theorem ListComp_UD {elt iter : PySem.Expr} {x : Str} {px : Pos} {scope : Scope} {cl : List (Str × Addr)} {pos : Pos} {Q : Value → Shared → Prop} {E : Value → Shared → Prop} (F₀ : Fr h₀ L s.heap m)
    (hclos : closureFor scope env = pure cl) (hcell : ∀ y ∈ scope.names, y.2 ≠ .cell) (hkind : scope.kind = .function)
    (hnames : ∀ y ∈ scope.names, y.2 = .local → scope.names.lookup y.1 = some .local) (hx : scope.names.lookup x = some .local)
    (h : wpAny (model prog w) A (eval iter env) (DCompU prog w A h₀ L m env elt x scope cl Q) E s)
    (hs : ∀ x, foldedSetIterable iter env x = pure x := by intro _; rfl) :
    wpAny (model prog w) A (eval (.ListComp elt [⟨.Name x px, iter, [], 0⟩] scope pos) env) Q E s := by
  clear F₀
  rw [eval_ListComp]
  refine wpAny_comprehension_free (use := none) rfl hs hclos hkind hnames (wpAny_mono h (fun xv s₁ h₁ => ?_) fun _ _ e => e)
  obtain ⟨d, es, ep, news, rfl, hd, hh, F, N, S, hsz, R⟩ := h₁
  have hr := S.raw F.keep N
  have hlt : d < s₁.heap.objs.size := by obtain ⟨_, e, _⟩ := hr; exact Heap.lt_size e
  refine iter_raw hd hr ?_
  have up : ∀ b o, s₁.heap.get? b = some o → (s₁.heap.push { cls := .type "dict_keyiterator", data := .fields #[.ref d, .int 0 0, .int es.size 0, .int ep 0] }).get? b = some o := fun b o e => Heap.get?_push_of_some _ e
  refine block_U (s₂ := { s₁ with heap := s₁.heap.push { cls := .type "dict_keyiterator", data := .fields #[.ref d, .int 0 0, .int es.size 0, .int ep 0] } }) (walks_raw hh s₁.heap.objs.size d (Nat.ne_of_lt hlt) es ep) hsz (fun i h st => by obtain ⟨o, e, _⟩ := st.1; exact ⟨o, e⟩) dict_st hcell hkind hx ⟨⟨_, Heap.get?_push_size _ rfl, rfl, rfl⟩, hr.at fun o e => up d o e⟩ (fun b hb => ?_)
    (F.keeps up) (N.grown up) (Nat.ne_of_lt F.ns.lt) (next_is_new F) (fun p hp => Nat.ne_of_lt (Heap.lt_size (N p hp).1)) S (R _ ⟨_, rfl⟩) ?_
  · show b < (s₁.heap.push _).objs.size
    rw [Heap.size_push]
    rcases List.mem_cons.mp hb with rfl | hb
    · exact Nat.lt_succ_self _
    · rw [List.mem_singleton.mp hb]; exact Nat.lt_succ_of_lt hlt
  · intro D C h tk m' ys news' F' N' o1 hn hC₀ hD₀ hCL hDL hCD offC fin
    refine ⟨m', hn, fun h'' hs'' => fin D h'' tk (F'.change hs'' hCL hC₀) (fun p hp => ?_) o1⟩
    refine ⟨hs''.extBut _ _ ?_ (N' p hp).1, (N' p hp).2⟩
    rcases List.mem_cons.mp hp with rfl | hp
    · exact Ne.symm hCD
    · exact offC p hp

theorem compU_inv {elt : PySem.Expr} {x : Str} {scope : Scope} {cl : List (Str × Addr)} {S : List (Addr × Obj) → Prop} {P : Nat → Value → Prop} {Fin : List Value → List (Addr × Obj) → Prop} (n : Nat) (J : Nat → List Value → List (Addr × Obj) → Prop)
    (turn : ∀ i v I oI C oC D m₂ h tk (E' : Value → Shared → Prop) ys news, i < n → J i ys news → P i v → NsObj oC m₂ → m₂ x = some v → Fr h₀ L h m → News h₀ L h ((I, oI) :: (C, oC) :: (D, lst ys) :: news) → Off3 I C D news → ((@Ne Nat I C) ∧ (@Ne Nat I D) ∧ (@Ne Nat C D)) →
      wpAny (model prog w) A (eval elt (compEnvC scope cl C env)) (CompEnd h₀ L m { s with heap := h, toks := tk } I oI C oC D (lst ys) S (fun y news' => J (i + 1) (ys ++ [y]) news')) E' { s with heap := h, toks := tk })
    (fin : ∀ ys news, J n ys news → Fin ys news) : ∀ (k i : Nat) (ys : List Value) (news : List (Addr × Obj)), i + k = n → J i ys news → CompRest prog w A h₀ L m env elt x scope cl s S P Fin k i ys news
  | 0, i, ys, news, e, hj => CompRest.zero (fin ys news (by have : i = n := by omega
                                                            exact this ▸ hj))
  | k + 1, i, ys, news, e, hj => CompRest.succ fun v I oI C oC D m₂ h tk E' hv hC hx F N off ne =>
      wpAny_mono (turn i v I oI C oC D m₂ h tk E' ys news (by omega) hj hv hC hx F N off ne) (fun y s' ⟨h', tk', news', e1, F', N', o', S', r⟩ => ⟨h', tk', news', e1, F', N', o', S', compU_inv n J turn fin k (i + 1) (ys ++ [y]) news' (by omega) r⟩) fun _ _ e => e
end
end Mine
end

section
open PySem PySem.W PySem.Calls PyProof.Rows PySem.Spec
set_option maxRecDepth 100000
namespace Mine
theorem dev_fill : (fun (_ : OpenLaw) (_ : Params → Frag) => True) PySem.Challenge.rw_nu0119_01 hd.heap_39 := by k_fill; trivial

noncomputable def fit (e : Ent) (loc rem : P2) : Int := match e.2.1 with
  | some r => if e.1 = loc ∧ r = rem then 3 else 0
  | none => if e.1 = loc then 2 else if e.1 = (0, loc.2) then 1 else 0

namespace FitZ
noncomputable def P (w : World) (dp : Nat) (un : Nat) (fr : Option (List Env)) (gd : Option (List Code)) (R : Result → Shared → Prop) (s : Shared) (H : Heap) (a : Int) (p : Int) (a' : Int) (p' : Int) (t1 : Tok) (t2 : Tok) (t3 : Tok) (t4 : Tok) : Prop := ∀ (ev : Value) (e : Ent), (Wld w H) → (∀ x o, H.get? x = some o → s.heap.get? x = some o) → (Rd s.heap ev (entD e)) → (dp < 400) → (un < 400) → (∀ h' tk t, (∀ x o, s.heap.get? x = some o → h'.get? x = some o) → R (.ok (.ret (.int (fit e (a, p) (a', p')) t))) { s with heap := h', toks := tk }) →
    codeAny (model PySem.Challenge.pw_nu0119_01 w) ⟨none, dp, fr, gd, un⟩ (.call (.ref 131) ⟨[ev, .int a t1, .int p t2, .int a' t3, .int p' t4], []⟩) R s
noncomputable def PC (c : Zx) : Prop := P c.w c.k0 c.k1 c.fr c.gd c.R c.s c.H c.i0 c.i1 c.i2 c.i3 c.t0 c.t1 c.t2 c.t3
noncomputable def cx : Zx := @Classical.epsilon Zx ⟨zx₀⟩ fun c => ¬ PC c
@[irreducible] noncomputable def w : World := cx.w
@[irreducible] noncomputable def dp : Nat := cx.k0
@[irreducible] noncomputable def un : Nat := cx.k1
@[irreducible] noncomputable def fr : Option (List Env) := cx.fr
@[irreducible] noncomputable def gd : Option (List Code) := cx.gd
@[irreducible] noncomputable def R : Result → Shared → Prop := cx.R
@[irreducible] noncomputable def hZ : Heap := cx.s.heap
@[irreducible] noncomputable def sg : Array GenState := cx.s.gens
@[irreducible] noncomputable def sd : Drawn := cx.s.drawn
@[irreducible] noncomputable def st : Nat := cx.s.toks
@[irreducible] noncomputable def so : OsState := cx.s.os
@[irreducible] noncomputable def H : Heap := cx.H
@[irreducible] noncomputable def a : Int := cx.i0
@[irreducible] noncomputable def p : Int := cx.i1
@[irreducible] noncomputable def a' : Int := cx.i2
@[irreducible] noncomputable def p' : Int := cx.i3
@[irreducible] noncomputable def t1 : Tok := cx.t0
@[irreducible] noncomputable def t2 : Tok := cx.t1
@[irreducible] noncomputable def t3 : Tok := cx.t2
@[irreducible] noncomputable def t4 : Tok := cx.t3
@[irreducible] noncomputable def L : Addr := hZ.objs.size
theorem L_eq : hZ.objs.size = L := by delta L; rfl
theorem lt_L {x : Addr} {o : Obj} (h : hZ.get? x = some o) : x < L := L_eq ▸ Heap.lt_size h
set_option maxHeartbeats 4000000 in
theorem core (ev : Value) (e : Ent) (W : Wld w H) (hk : ∀ x o, H.get? x = some o → hZ.get? x = some o) (he : Rd hZ ev (entD e)) (hdp : dp < 400) (hun : un < 400) (h : ∀ h' tk t, (∀ x o, hZ.get? x = some o → h'.get? x = some o) → R (.ok (.ret (.int (fit e (a, p) (a', p')) t))) ⟨h', sg, sd, tk, so⟩) :
    codeAny (model PySem.Challenge.pw_nu0119_01 w) ⟨none, dp, fr, gd, un⟩ (.call (.ref 131) ⟨[ev, .int a t1, .int p t2, .int a' t3, .int p' t4], []⟩) R ⟨hZ, sg, sd, st, so⟩ := by
  obtain ⟨loose, mean, mg, mb, T⟩ := W.T
  have X := W.K.keeps hk
  have T' := T.keeps hk
  obtain ⟨le, re, ow⟩ := e
  rw [entD, rd_tup] at he
  obtain ⟨ae, oe, vs, n, rfl, h1, h2, h3, h4⟩ := he
  simp only [rdAll_cons, rdAll_nil, rd_int] at h4
  obtain ⟨v1, _, e1, r1, v2, _, rfl, r2, v3, _, rfl, ⟨to, rfl⟩, rfl⟩ := h4
  obtain rfl : vs = #[v1, v2, .int ow to] := by rw [← Array.toList_inj]; exact e1
  k_dflt (refine' enterY (h₀ := hZ) (K := Mine.hd.heap_39 w.params) [] L_eq rfl (W.K.keeps hk) (T.keeps hk).nolimit ?k6 ?k7 ?k8 ?k9 ?kB ?_ ?c2 ?c3 ?c4 ?c5; (case k6 => k_is); (case k7 => k_is); (case k8 => (dsimp only; rw [show recursionLimit = 1000 from rfl]; omega)); (case k9 => exact BindsTo.of_eq rfl); (case c5 => decide); (case kB => exact locs rfl); (case c2 => exact rfl); (case c3 => exact rfl); (case c4 => exact rfl))
  intro h₁ F hk₁
  have hT : IsTup hZ ae _ := ⟨oe, h1, h2, n, h3⟩
  have N : News hZ L h₁ [] := News.nil
  try dsimp only at *
  obtain ⟨a1, -, -, -, rfl, -⟩ := rd_tup.mp r1
  cases re with
  | none =>
    obtain rfl := rd_none.mp r2
    (all_goals try k_fold)
    k_steps
    all_goals (try dsimp only)
    all_goals (refine close_int (h _ _ _ (Fr.keep (by assumption))) ?_)
    all_goals (simp_all [fit, eqv_pt'])
    all_goals (try (split <;> rfl))
  | some re =>
    obtain ⟨a2, -, -, -, rfl, -⟩ := rd_tup.mp r2
    replace r2 : Rd hZ (.ref a2) (ptD re) := r2
    (all_goals try k_fold)
    k_steps
    all_goals (try dsimp only)
    all_goals (refine close_int (h _ _ _ (Fr.keep (by assumption))) ?_)
    all_goals (simp_all [fit, eqv_pt'])
    all_goals (try (split <;> rfl))

theorem fin : PC cx := by with_unfolding_all exact core
end FitZ
theorem fit_spec {w : World} {dp un : Nat} {fr : Option (List Env)} {gd : Option (List Code)} {R : Result → Shared → Prop} {s : Shared} {H : Heap} {ev : Value} {e : Ent} {a p a' p' : Int} {t1 t2 t3 t4 : Tok}
    (W : Wld w H) (hk : ∀ x o, H.get? x = some o → s.heap.get? x = some o)
    (he : Rd s.heap ev (entD e)) (hdp : dp < 400) (hun : un < 400)
    (h : ∀ h' tk t, (∀ x o, s.heap.get? x = some o → h'.get? x = some o) → R (.ok (.ret (.int (fit e (a, p) (a', p')) t))) { s with heap := h', toks := tk }) :
    codeAny (model PySem.Challenge.pw_nu0119_01 w) ⟨none, dp, fr, gd, un⟩ (.call (.ref 131) ⟨[ev, .int a t1, .int p t2, .int a' t3, .int p' t4], []⟩) R s :=
  zxAll (P := FitZ.PC) FitZ.fin { zx₀ with w := w, k0 := dp, k1 := un, fr := fr, gd := gd, R := R, s := s, H := H, i0 := a, i1 := p, i2 := a', i3 := p', t0 := t1, t1 := t2, t2 := t3, t3 := t4 } ev e W hk he hdp hun h
theorem fit_call {w : World} {dp un : Nat} {fr : Option (List Env)} {gd : Option (List Code)} {Q E : Value → Shared → Prop} {s : Shared} {h₀ : Heap} {L : Addr} {m : Str → Option Value} {news : List (Addr × Obj)} {ev : Value} {e : Ent} {a p a' p' : Int} {t1 t2 t3 t4 : Tok}
    (F : Fr h₀ L s.heap m) (N : News h₀ L s.heap news) (W : Wld w h₀) (he : Rd s.heap ev (entD e)) (hdp : dp < 400) (hun : un < 400)
    (h : ∀ h' tk t, Fr h₀ L h' m → News h₀ L h' news → (∀ x o, s.heap.get? x = some o → h'.get? x = some o) → Q (.int (fit e (a, p) (a', p')) t) { s with heap := h', toks := tk }) :
    wpAny (model PySem.Challenge.pw_nu0119_01 w) ⟨none, dp, fr, gd, un⟩ (call (.ref 131) [ev, .int a t1, .int p t2, .int a' t3, .int p' t4]) Q E s :=
  wpAny_call (fit_spec W F.keep he hdp hun fun h' tk t k => h h' tk t (frKeep F k) (newsKeep N k) k)
end Mine
end

section
open PySem PySem.W PySem.Calls PyProof.Rows PySem.Spec
set_option maxRecDepth 100000
namespace Mine

/-- the source: a list of two ints, the second small -/
noncomputable def SrcObj (o : Obj) : Prop := ∃ a ta b tb n, o = listOf #[.int a ta, .int b tb] n ∧ 0 ≤ b ∧ b < 2147483647

theorem src_mul {x : Int} (h : 0 ≤ x ∧ x < 2147483647) (y : Int) : IntMulOk x y := IntMulOk.of_left (intBits_le_64 (by omega) (by omega))
theorem fmod_in (x : Int) {n : Int} (h : 0 < n) : 0 ≤ x.fmod n ∧ x.fmod n < n := ⟨Int.fmod_nonneg_of_pos _ h, Int.fmod_lt_of_pos _ h⟩

namespace TakeZ
noncomputable def P (w : World) (dp : Nat) (un : Nat) (fr : Option (List Env)) (gd : Option (List Code)) (R : Result → Shared → Prop) (s : Shared) (H : Heap) (S : Addr) (top : Int) (tt : Tok) : Prop := ∀ (o : Obj), (Wld w H) → (∀ x o, H.get? x = some o → s.heap.get? x = some o) → (H.get? S = none) → (s.heap.get? S = some o) → (SrcObj o) → (dp < 400) → (un < 400) → (1 ≤ top ∧ top ≤ 7) → (∀ h' tk d t o', 0 ≤ d → d < top → SrcObj o' → h'.get? S = some o' → (∀ x o, x ≠ S → s.heap.get? x = some o → h'.get? x = some o) → R (.ok (.ret (.int d t))) { s with heap := h', toks := tk }) →
    codeAny (model PySem.Challenge.pw_nu0119_01 w) ⟨none, dp, fr, gd, un⟩ (.call (.ref 117) ⟨[.ref S, .int top tt], []⟩) R s
noncomputable def PC (c : Zx) : Prop := P c.w c.k0 c.k1 c.fr c.gd c.R c.s c.H c.A0 c.i0 c.t0
noncomputable def cx : Zx := @Classical.epsilon Zx ⟨zx₀⟩ fun c => ¬ PC c
@[irreducible] noncomputable def w : World := cx.w
@[irreducible] noncomputable def dp : Nat := cx.k0
@[irreducible] noncomputable def un : Nat := cx.k1
@[irreducible] noncomputable def fr : Option (List Env) := cx.fr
@[irreducible] noncomputable def gd : Option (List Code) := cx.gd
@[irreducible] noncomputable def R : Result → Shared → Prop := cx.R
@[irreducible] noncomputable def hZ : Heap := cx.s.heap
@[irreducible] noncomputable def sg : Array GenState := cx.s.gens
@[irreducible] noncomputable def sd : Drawn := cx.s.drawn
@[irreducible] noncomputable def st : Nat := cx.s.toks
@[irreducible] noncomputable def so : OsState := cx.s.os
@[irreducible] noncomputable def H : Heap := cx.H
@[irreducible] noncomputable def S : Addr := cx.A0
@[irreducible] noncomputable def top : Int := cx.i0
@[irreducible] noncomputable def tt : Tok := cx.t0
@[irreducible] noncomputable def L : Addr := hZ.objs.size
theorem L_eq : hZ.objs.size = L := by delta L; rfl
theorem lt_L {x : Addr} {o : Obj} (h : hZ.get? x = some o) : x < L := L_eq ▸ Heap.lt_size h
@[irreducible] noncomputable def h₀ : Heap := hideAll hZ [S]
theorem h₀_eq : hideAll hZ [S] = h₀ := by delta h₀; rfl
set_option maxHeartbeats 4000000 in
theorem core (o : Obj) (W : Wld w H) (hk : ∀ x o, H.get? x = some o → hZ.get? x = some o) (hS : H.get? S = none) (hs : hZ.get? S = some o) (ho : SrcObj o) (hdp : dp < 400) (hun : un < 400) (htop : 1 ≤ top ∧ top ≤ 7) (h : ∀ h' tk d t o', 0 ≤ d → d < top → SrcObj o' → h'.get? S = some o' → (∀ x o, x ≠ S → hZ.get? x = some o → h'.get? x = some o) → R (.ok (.ret (.int d t))) ⟨h', sg, sd, tk, so⟩) :
    codeAny (model PySem.Challenge.pw_nu0119_01 w) ⟨none, dp, fr, gd, un⟩ (.call (.ref 117) ⟨[.ref S, .int top tt], []⟩) R ⟨hZ, sg, sd, st, so⟩ := by
  obtain ⟨loose, mean, mg, mb, T⟩ := W.T
  obtain ⟨a, ta, b, tb, n, rfl, hb⟩ := ho
  have hk' : ∀ x o, H.get? x = some o → h₀.get? x = some o := fun x o e => h₀_eq ▸ hideAll_get _ (hk x o e) (by
    intro q; rw [List.mem_singleton.mp q] at e; rw [e] at hS; cases hS)
  have X := W.K.keeps hk'
  have T' := T.keeps hk'
  k_dflt (refine' enterY (K := Mine.hd.heap_39 w.params) [S] L_eq h₀_eq (W.K.keeps hk) (T.keeps hk).nolimit ?k6 ?k7 ?k8 ?k9 ?kB ?_ ?c2 ?c3 ?c4 ?c5; (case k6 => k_is); (case k7 => k_is); (case k8 => (dsimp only; rw [show recursionLimit = 1000 from rfl]; omega)); (case k9 => exact BindsTo.of_eq rfl); (case c5 => decide); (case kB => exact locs rfl); (case c2 => exact rfl); (case c3 => exact rfl); (case c4 => exact rfl))
  intro h₁ F hk₁
  have N : News h₀ L h₁ [(S, listOf #[.int a ta, .int b tb] n)] := by
    intro p hp
    rw [List.mem_singleton.mp hp]
    exact ⟨hk₁ _ _ hs, Nat.ne_of_lt (lt_L hs), h₀_eq ▸ hideAll_none _ (.head _)⟩
  have hend : ∀ x o, x ≠ S → hZ.get? x = some o → h₀.get? x = some o := fun x o hx e => h₀_eq ▸ hideAll_get _ e (by simpa using hx)
  try dsimp only at *
  clear hk hk₁ hs
  (all_goals try k_fold)
  k_steps
  · dsimp only
    refine h _ _ _ _ _ (fmod_in _ (by omega)).1 (fmod_in _ (by omega)).2 ⟨_, _, _, _, _, rfl, hb⟩ ((by assumption : News _ _ _ _).get (.head _)) ?_
    intro x o hx e
    exact Fr.keep (by assumption) _ _ (hend x o hx e)
  · refine mul_int ?_ (src_mul (fmod_in _ (by omega)) _)
    k_steps
    dsimp only
    refine h _ _ _ _ _ (fmod_in _ (by omega)).1 (fmod_in _ (by omega)).2 ⟨_, _, _, _, _, rfl, fmod_in _ (by omega)⟩ ((by assumption : News _ _ _ _).get (.head _)) ?_
    intro x o hx e
    exact Fr.keep (by assumption) _ _ (hend x o hx e)

theorem fin : PC cx := by with_unfolding_all exact core
end TakeZ
theorem take_spec {w : World} {dp un : Nat} {fr : Option (List Env)} {gd : Option (List Code)} {R : Result → Shared → Prop} {s : Shared} {H : Heap} {S : Addr} {o : Obj} {top : Int} {tt : Tok}
    (W : Wld w H) (hk : ∀ x o, H.get? x = some o → s.heap.get? x = some o) (hS : H.get? S = none)
    (hs : s.heap.get? S = some o) (ho : SrcObj o) (hdp : dp < 400) (hun : un < 400) (htop : 1 ≤ top ∧ top ≤ 7)
    (h : ∀ h' tk d t o', 0 ≤ d → d < top → SrcObj o' → h'.get? S = some o' → (∀ x o, x ≠ S → s.heap.get? x = some o → h'.get? x = some o) → R (.ok (.ret (.int d t))) { s with heap := h', toks := tk }) :
    codeAny (model PySem.Challenge.pw_nu0119_01 w) ⟨none, dp, fr, gd, un⟩ (.call (.ref 117) ⟨[.ref S, .int top tt], []⟩) R s :=
  zxAll (P := TakeZ.PC) TakeZ.fin { zx₀ with w := w, k0 := dp, k1 := un, fr := fr, gd := gd, R := R, s := s, H := H, A0 := S, i0 := top, t0 := tt } o W hk hS hs ho hdp hun htop h
theorem take_call {w : World} {dp un : Nat} {fr : Option (List Env)} {gd : Option (List Code)} {Q E : Value → Shared → Prop} {s : Shared} {h₀ : Heap} {L S : Addr} {m : Str → Option Value} {news : List (Addr × Obj)} {g : Obj → List (Addr × Obj)} {o : Obj} {top : Int} {tt : Tok}
    (F : Fr h₀ L s.heap m) (N : News h₀ L s.heap news) (W : Wld w h₀) (U : UpdF S o news g) (ho : SrcObj o) (hdp : dp < 400) (hun : un < 400) (htop : 1 ≤ top ∧ top ≤ 7)
    (h : ∀ h' tk d t o', 0 ≤ d → d < top → SrcObj o' → Fr h₀ L h' m → News h₀ L h' (g o') → (∀ x o, x ≠ S → s.heap.get? x = some o → h'.get? x = some o) → Q (.int d t) { s with heap := h', toks := tk }) :
    wpAny (model PySem.Challenge.pw_nu0119_01 w) ⟨none, dp, fr, gd, un⟩ (call (.ref 117) [.ref S, .int top tt]) Q E s := by
  refine wpAny_call (take_spec W F.keep (N.fresh (updMem U)) (N.get (updMem U)) ho hdp hun htop ?_)
  intro h' tk d t o' h1 h2 h3 h4 h5
  have hne := (N _ (updMem U)).2.1
  exact h h' tk d t o' h1 h2 h3 (frAfter (S := [S]) F (by intro a ha; rw [List.mem_singleton.mp ha]; exact ⟨N.fresh (updMem U), fun e => hne e.symm⟩) (fun x o hx => h5 x o (by simpa using hx))) (newsUpd N U h4 h5) h5
end Mine
end

section
open PySem PySem.W PySem.Calls PyProof.Rows PySem.Spec
set_option maxRecDepth 100000
namespace Mine

namespace OneZ
noncomputable def P (w : World) (dp : Nat) (un : Nat) (fr : Option (List Env)) (gd : Option (List Code)) (R : Result → Shared → Prop) (s : Shared) (H : Heap) (S : Addr) (Th : Addr) (o : Obj) (items : List Value) : Prop := (Wld w H) → (∀ x o, H.get? x = some o → s.heap.get? x = some o) → (H.get? S = none) → (s.heap.get? S = some o) → (SrcObj o) → (dp < 390) → (un < 390) → (s.heap.IsList Th items.toArray) → (S ≠ Th) → (1 ≤ items.length ∧ items.length ≤ 7) → (∀ h' tk (d : Nat) v o', items[d]? = some v → SrcObj o' → h'.get? S = some o' → (∀ x o, x ≠ S → s.heap.get? x = some o → h'.get? x = some o) → R (.ok (.ret v)) { s with heap := h', toks := tk }) →
    codeAny (model PySem.Challenge.pw_nu0119_01 w) ⟨none, dp, fr, gd, un⟩ (.call (.ref 124) ⟨[.ref S, .ref Th], []⟩) R s
noncomputable def PC (c : Zx) : Prop := P c.w c.k0 c.k1 c.fr c.gd c.R c.s c.H c.A0 c.A1 c.o0 c.li
noncomputable def cx : Zx := @Classical.epsilon Zx ⟨zx₀⟩ fun c => ¬ PC c
@[irreducible] noncomputable def w : World := cx.w
@[irreducible] noncomputable def dp : Nat := cx.k0
@[irreducible] noncomputable def un : Nat := cx.k1
@[irreducible] noncomputable def fr : Option (List Env) := cx.fr
@[irreducible] noncomputable def gd : Option (List Code) := cx.gd
@[irreducible] noncomputable def R : Result → Shared → Prop := cx.R
@[irreducible] noncomputable def hZ : Heap := cx.s.heap
@[irreducible] noncomputable def sg : Array GenState := cx.s.gens
@[irreducible] noncomputable def sd : Drawn := cx.s.drawn
@[irreducible] noncomputable def st : Nat := cx.s.toks
@[irreducible] noncomputable def so : OsState := cx.s.os
@[irreducible] noncomputable def H : Heap := cx.H
@[irreducible] noncomputable def S : Addr := cx.A0
@[irreducible] noncomputable def Th : Addr := cx.A1
@[irreducible] noncomputable def o : Obj := cx.o0
@[irreducible] noncomputable def items : List Value := cx.li
@[irreducible] noncomputable def L : Addr := hZ.objs.size
theorem L_eq : hZ.objs.size = L := by delta L; rfl
theorem lt_L {x : Addr} {o : Obj} (h : hZ.get? x = some o) : x < L := L_eq ▸ Heap.lt_size h
@[irreducible] noncomputable def h₀ : Heap := hideAll hZ [S]
theorem h₀_eq : hideAll hZ [S] = h₀ := by delta h₀; rfl
set_option maxHeartbeats 4000000 in
theorem core (W : Wld w H) (hk : ∀ x o, H.get? x = some o → hZ.get? x = some o) (hS : H.get? S = none) (hs : hZ.get? S = some o) (ho : SrcObj o) (hdp : dp < 390) (hun : un < 390) (hth : hZ.IsList Th items.toArray) (hne : S ≠ Th) (hlen : 1 ≤ items.length ∧ items.length ≤ 7) (h : ∀ h' tk (d : Nat) v o', items[d]? = some v → SrcObj o' → h'.get? S = some o' → (∀ x o, x ≠ S → hZ.get? x = some o → h'.get? x = some o) → R (.ok (.ret v)) ⟨h', sg, sd, tk, so⟩) :
    codeAny (model PySem.Challenge.pw_nu0119_01 w) ⟨none, dp, fr, gd, un⟩ (.call (.ref 124) ⟨[.ref S, .ref Th], []⟩) R ⟨hZ, sg, sd, st, so⟩ := by
  obtain ⟨loose, mean, mg, mb, T⟩ := W.T
  have hk' : ∀ x o, H.get? x = some o → h₀.get? x = some o := fun x o e => h₀_eq ▸ hideAll_get _ (hk x o e) (by
    intro q; rw [List.mem_singleton.mp q] at e; rw [e] at hS; cases hS)
  have W' := W.keeps hk'
  have X := W.K.keeps hk'
  have T' := T.keeps hk'
  k_dflt (refine' enterY (K := Mine.hd.heap_39 w.params) [S] L_eq h₀_eq (W.K.keeps hk) (T.keeps hk).nolimit ?k6 ?k7 ?k8 ?k9 ?kB ?_ ?c2 ?c3 ?c4 ?c5; (case k6 => k_is); (case k7 => k_is); (case k8 => (dsimp only; rw [show recursionLimit = 1000 from rfl]; omega)); (case k9 => exact BindsTo.of_eq rfl); (case c5 => decide); (case kB => exact locs rfl); (case c2 => exact rfl); (case c3 => exact rfl); (case c4 => exact rfl))
  intro h₁ F hk₁
  have N : News h₀ L h₁ [(S, o)] := by
    intro p hp
    rw [List.mem_singleton.mp hp]
    exact ⟨hk₁ _ _ hs, Nat.ne_of_lt (lt_L hs), h₀_eq ▸ hideAll_none _ (.head _)⟩
  have hend : ∀ x o, x ≠ S → hZ.get? x = some o → h₀.get? x = some o := fun x o hx e => h₀_eq ▸ hideAll_get _ e (by simpa using hx)
  have hTh : h₀.IsList Th items.toArray := let ⟨oo, h1, h2⟩ := hth; ⟨oo, hend _ _ (Ne.symm hne) h1, h2⟩
  try dsimp only at *
  clear hk hk₁ hs
  (all_goals try k_fold)
  k_steps
  refine len_list (Fr.lst F hTh) (by simp only [List.size_toArray]; omega) ?_
  k_steps
  refine take_call F N W' (UpdF.head (List.forall_mem_nil _)) ho (by dsimp only; omega) (by dsimp only; omega) (by simp only [List.size_toArray]; omega) ?_
  intro h' tk d t o' d0 d1 ho' F' N' _
  simp only [List.size_toArray] at d1
  k_steps
  have hx : d.toNat < items.length := by omega
  refine sub_list (Fr.lst F' hTh) d0 (by omega) (by rw [List.getElem?_toArray]; exact List.getElem?_eq_getElem hx) ?_
  dsimp only
  refine h _ _ _ _ _ (List.getElem?_eq_getElem hx) ho' (N'.get (.head _)) fun x o hx e => F'.keep _ _ (hend x o hx e)

theorem fin : PC cx := by with_unfolding_all exact core
end OneZ
theorem one_spec {w : World} {dp un : Nat} {fr : Option (List Env)} {gd : Option (List Code)} {R : Result → Shared → Prop} {s : Shared} {H : Heap} {S Th : Addr} {o : Obj} {items : List Value}
    (W : Wld w H) (hk : ∀ x o, H.get? x = some o → s.heap.get? x = some o) (hS : H.get? S = none)
    (hs : s.heap.get? S = some o) (ho : SrcObj o) (hdp : dp < 390) (hun : un < 390) (hth : s.heap.IsList Th items.toArray) (hne : S ≠ Th) (hlen : 1 ≤ items.length ∧ items.length ≤ 7)
    (h : ∀ h' tk (d : Nat) v o', items[d]? = some v → SrcObj o' → h'.get? S = some o' → (∀ x o, x ≠ S → s.heap.get? x = some o → h'.get? x = some o) → R (.ok (.ret v)) { s with heap := h', toks := tk }) :
    codeAny (model PySem.Challenge.pw_nu0119_01 w) ⟨none, dp, fr, gd, un⟩ (.call (.ref 124) ⟨[.ref S, .ref Th], []⟩) R s :=
  zxAll (P := OneZ.PC) OneZ.fin { zx₀ with w := w, k0 := dp, k1 := un, fr := fr, gd := gd, R := R, s := s, H := H, A0 := S, A1 := Th, li := items, o0 := o } W hk hS hs ho hdp hun hth hne hlen h
/-- the objects of these addresses alone may have turned -/
theorem one_call {w : World} {dp un : Nat} {fr : Option (List Env)} {gd : Option (List Code)} {Q E : Value → Shared → Prop} {s : Shared} {h₀ : Heap} {L S Th : Addr} {m : Str → Option Value} {news : List (Addr × Obj)} {g : Obj → List (Addr × Obj)} {o : Obj} {items : List Value}
    (F : Fr h₀ L s.heap m) (N : News h₀ L s.heap news) (W : Wld w h₀) (U : UpdF S o news g) (ho : SrcObj o) (hth : s.heap.IsList Th items.toArray) (hne : S ≠ Th) (hdp : dp < 390) (hun : un < 390) (hlen : 1 ≤ items.length ∧ items.length ≤ 7)
    (h : ∀ h' tk (d : Nat) v o', items[d]? = some v → SrcObj o' → Fr h₀ L h' m → News h₀ L h' (g o') → (∀ x o, x ≠ S → s.heap.get? x = some o → h'.get? x = some o) → Q v { s with heap := h', toks := tk }) :
    wpAny (model PySem.Challenge.pw_nu0119_01 w) ⟨none, dp, fr, gd, un⟩ (call (.ref 124) [.ref S, .ref Th]) Q E s := by
  refine wpAny_call (one_spec W F.keep (N.fresh (updMem U)) (N.get (updMem U)) ho hdp hun hth hne hlen ?_)
  intro h' tk d v o' h1 h3 h4 h5
  have hne := (N _ (updMem U)).2.1
  exact h h' tk d v o' h1 h3 (frAfter (S := [S]) F (by intro a ha; rw [List.mem_singleton.mp ha]; exact ⟨N.fresh (updMem U), fun e => hne e.symm⟩) (fun x o hx => h5 x o (by simpa using hx))) (newsUpd N U h4 h5) h5
end Mine
end

section
open PySem PySem.W PySem.Calls PyProof.Rows PySem.Spec
set_option maxRecDepth 100000
namespace Mine

noncomputable def resD : Option (Int × Bool) → PyData
  | none => .none
  | some r => .tuple [.int r.1, .bool r.2]
noncomputable def foundStep (loc rem : P2) (st : Option (Int × Bool) × Int) (e : Ent) : Option (Int × Bool) × Int :=
  if fit e loc rem > st.2 then (some (e.2.2, e.2.1.isNone), fit e loc rem) else st
noncomputable def found (M : List Ent) (loc rem : P2) : Option (Int × Bool) := (M.foldl (foundStep loc rem) (none, 0)).1

theorem rdAll_at {h : Heap} {vs : List Value} {ds : List PyData} (r : RdAll h vs ds) {i : Nat} {v : Value} (hv : vs[i]? = some v) : ∃ d, ds[i]? = some d ∧ Rd h v d := by
  induction ds generalizing vs i with
  | nil => rw [rdAll_nil] at r; subst r; simp at hv
  | cons d ds ih =>
    rw [rdAll_cons] at r
    obtain ⟨v', r', rfl, a, b⟩ := r
    cases i with
    | zero => simp at hv; subst hv; exact ⟨d, rfl, a⟩
    | succ i => simp at hv; obtain ⟨d', h1, h2⟩ := ih b hv; exact ⟨d', by simpa using h1, h2⟩
theorem rdAll_length {h : Heap} {vs : List Value} {ds : List PyData} (r : RdAll h vs ds) : vs.length = ds.length := by
  induction ds generalizing vs with
  | nil => rw [rdAll_nil] at r; subst r; rfl
  | cons d ds ih =>
    rw [rdAll_cons] at r
    obtain ⟨v', r', rfl, a, b⟩ := r
    simp [ih b]
theorem take_succ {α : Type} {l : List α} {i : Nat} {x : α} (h : l[i]? = some x) : l.take (i + 1) = l.take i ++ [x] := by
  rw [List.take_add_one, h]; rfl

noncomputable def BestAt (best : Option (Int × Bool)) (vb : Value) (news : List (Addr × Obj)) : Prop := match best with
  | none => vb = .none ∧ news = []
  | some r => ∃ a t, vb = .ref a ∧ news = [(a, { cls := .type "tuple", data := .seq #[.int r.1 t, .bool r.2] })]

namespace FoundZ
noncomputable def P (w : World) (dp : Nat) (un : Nat) (fr : Option (List Env)) (gd : Option (List Code)) (R : Result → Shared → Prop) (s : Shared) (H : Heap) (le : Addr) (vs : Array Value) (M : List Ent) (a : Int) (p : Int) (a' : Int) (p' : Int) (t1 : Tok) (t2 : Tok) (t3 : Tok) (t4 : Tok) : Prop := (Wld w H) → (∀ x o, H.get? x = some o → s.heap.get? x = some o) → (s.heap.IsList le vs) → (RdAll s.heap vs.toList (M.map entD)) → (dp < 390) → (un < 390) → (∀ h' tk v nw, (∀ x o, s.heap.get? x = some o → h'.get? x = some o) → BestAt (found M (a, p) (a', p')) v nw → (∀ p ∈ nw, h'.get? p.1 = some p.2 ∧ s.heap.get? p.1 = none) → R (.ok (.ret v)) { s with heap := h', toks := tk }) →
    codeAny (model PySem.Challenge.pw_nu0119_01 w) ⟨none, dp, fr, gd, un⟩ (.call (.ref 138) ⟨[.ref le, .int a t1, .int p t2, .int a' t3, .int p' t4], []⟩) R s
noncomputable def PC (c : Zx) : Prop := P c.w c.k0 c.k1 c.fr c.gd c.R c.s c.H c.A0 c.vs c.M c.i0 c.i1 c.i2 c.i3 c.t0 c.t1 c.t2 c.t3
noncomputable def cx : Zx := @Classical.epsilon Zx ⟨zx₀⟩ fun c => ¬ PC c
@[irreducible] noncomputable def w : World := cx.w
@[irreducible] noncomputable def dp : Nat := cx.k0
@[irreducible] noncomputable def un : Nat := cx.k1
@[irreducible] noncomputable def fr : Option (List Env) := cx.fr
@[irreducible] noncomputable def gd : Option (List Code) := cx.gd
@[irreducible] noncomputable def R : Result → Shared → Prop := cx.R
@[irreducible] noncomputable def hZ : Heap := cx.s.heap
@[irreducible] noncomputable def sg : Array GenState := cx.s.gens
@[irreducible] noncomputable def sd : Drawn := cx.s.drawn
@[irreducible] noncomputable def st : Nat := cx.s.toks
@[irreducible] noncomputable def so : OsState := cx.s.os
@[irreducible] noncomputable def H : Heap := cx.H
@[irreducible] noncomputable def le : Addr := cx.A0
@[irreducible] noncomputable def vs : Array Value := cx.vs
@[irreducible] noncomputable def M : List Ent := cx.M
@[irreducible] noncomputable def a : Int := cx.i0
@[irreducible] noncomputable def p : Int := cx.i1
@[irreducible] noncomputable def a' : Int := cx.i2
@[irreducible] noncomputable def p' : Int := cx.i3
@[irreducible] noncomputable def t1 : Tok := cx.t0
@[irreducible] noncomputable def t2 : Tok := cx.t1
@[irreducible] noncomputable def t3 : Tok := cx.t2
@[irreducible] noncomputable def t4 : Tok := cx.t3
@[irreducible] noncomputable def L : Addr := hZ.objs.size
theorem L_eq : hZ.objs.size = L := by delta L; rfl
theorem lt_L {x : Addr} {o : Obj} (h : hZ.get? x = some o) : x < L := L_eq ▸ Heap.lt_size h
set_option maxHeartbeats 4000000 in
theorem core (W : Wld w H) (hk : ∀ x o, H.get? x = some o → hZ.get? x = some o) (hl : hZ.IsList le vs) (he : RdAll hZ vs.toList (M.map entD)) (hdp : dp < 390) (hun : un < 390) (h : ∀ h' tk v nw, (∀ x o, hZ.get? x = some o → h'.get? x = some o) → BestAt (found M (a, p) (a', p')) v nw → (∀ p ∈ nw, h'.get? p.1 = some p.2 ∧ hZ.get? p.1 = none) → R (.ok (.ret v)) ⟨h', sg, sd, tk, so⟩) :
    codeAny (model PySem.Challenge.pw_nu0119_01 w) ⟨none, dp, fr, gd, un⟩ (.call (.ref 138) ⟨[.ref le, .int a t1, .int p t2, .int a' t3, .int p' t4], []⟩) R ⟨hZ, sg, sd, st, so⟩ := by
  obtain ⟨loose, mean, mg, mb, T⟩ := W.T
  have X := W.K.keeps hk
  have T' := T.keeps hk
  have W' := W.keeps hk
  k_dflt (refine' enterY (h₀ := hZ) (K := Mine.hd.heap_39 w.params) (binds := [("entries", .ref le), ("target", .int a t1), ("port", .int p t2), ("source", .int a' t3), ("source_port", .int p' t4)]) [] L_eq rfl (W.K.keeps hk) (T.keeps hk).nolimit ?k6 ?k7 ?k8 ?k9 ?kB ?_ ?c2 ?c3 ?c4 ?c5; (case k6 => k_is); (case k7 => k_is); (case k8 => (dsimp only; rw [show recursionLimit = 1000 from rfl]; omega)); (case k9 => exact BindsTo.of_eq rfl); (case c5 => decide); (case kB => exact locs rfl); (case c2 => exact rfl); (case c3 => exact rfl); (case c4 => exact rfl))
  intro h₁ F hk₁
  have N : News hZ L h₁ [] := News.nil
  try dsimp only at *
  (all_goals try k_fold)
  k_steps
  refine For_invV hZ rfl rfl ?_
  (repeat' (first | (k_unfold; (try dsimp only)) | (k_end; kc_close) | ((fail_if_success (with_reducible show wpAny _ _ (pyIter (.ref _)) _ _ _)); first | walk1 | (dsimp only; walk1) | (leave1; walk_say "STEP leave1"; (try dsimp only)))))
  refine list_loop (h₀ := hZ) (news := []) (fun i m news => ∃ vb t, Has m [("best", vb), ("least", .int ((M.take i).foldl (foundStep (a, p) (a', p')) (none, 0)).2 t), ("target", .int a t1), ("port", .int p t2), ("source", .int a' t3), ("source_port", .int p' t4)] ∧
    BestAt ((M.take i).foldl (foundStep (a, p) (a', p')) (none, 0)).1 vb news) (by exact rfl) hl (by assumption) News.nil ?_ ?_ ?_
  · exact ⟨_, _, has_cons rfl (has_cons rfl (has_cons rfl (has_cons rfl (has_cons rfl (has_cons rfl has_nil))))), rfl, rfl⟩
  · rintro i v m₁ news₁ hp₁ tk₁ I oI hv ⟨vb, t, hm, hb⟩ hoff F₁ N₁
    obtain ⟨dd, hd1, hd2⟩ := rdAll_at he (i := i) (v := v) (by rw [Array.getElem?_toList]; exact hv)
    rw [List.getElem?_map] at hd1
    obtain ⟨e, he1, rfl⟩ := Option.map_eq_some_iff.mp hd1
    have sh := hm.shape
    simp only [over] at sh
    rw [sh] at F₁
    clear sh
    obtain ⟨le, re, ow⟩ := e
    obtain ⟨ae, v1, v2, to, rfl, hT, r1, r2⟩ := ent_inv hd2
    dsimp only at hT r1 r2
    have sh : foundStep (a, p) (a', p') ((M.take i).foldl (foundStep (a, p) (a', p')) (none, 0)) (le, re, ow) = (M.take (i + 1)).foldl (foundStep (a, p) (a', p')) (none, 0) := by
      rw [take_succ he1, List.foldl_append]; rfl
    rw [← sh]
    generalize (M.take i).foldl (foundStep (a, p) (a', p')) (none, 0) = st at *
    clear sh
    have key : ∀ b : Bool, re.isNone = b → (match b with | true => v2 = .none | false => ∃ a2, v2 = .ref a2) := by
      intro b hb
      cases re with
      | none => subst hb; exact rd_none.mp r2
      | some r => subst hb; obtain ⟨a2, -, -, -, rfl, -⟩ := rd_tup.mp r2; exact ⟨a2, rfl⟩
    cases hre : re.isNone with
    | true =>
      obtain rfl := key true hre
      (all_goals try k_fold)
      k_steps
      refine fit_call (by assumption) (by assumption) W' (rdF (by assumption) hd2) (by dsimp only; omega) (by dsimp only; omega) ?_
      intro hp₂ tk₂ t' F₂ N₂ _
      k_steps
      · have e1 : foundStep (a, p) (a', p') st (le, re, ow) = (some (ow, re.isNone), fit (le, re, ow) (a, p) (a', p')) := by unfold foundStep; exact if_pos (by assumption)
        rw [e1, hre]
        refine ⟨_, _, _, [(_, { cls := .type "tuple", data := .seq #[.int ow to, .bool true] })], rfl, by assumption, newsSub (by assumption) (sub_cons (by k_mem) (sub_cons (by k_mem) sub_nil)), off_one ?_, _, t', ?_, ⟨_, _, rfl, rfl⟩⟩
        · skip
          k_ne
        · exact has_cons rfl (has_cons rfl (has_cons rfl (has_cons rfl (has_cons rfl (has_cons rfl has_nil)))))
      · have e1 : foundStep (a, p) (a', p') st (le, re, ow) = st := by unfold foundStep; exact if_neg (by assumption)
        rw [e1]
        refine ⟨_, _, _, news₁, rfl, by assumption, by assumption, hoff, _, t, ?_, hb⟩
        exact has_cons rfl (has_cons rfl (has_cons rfl (has_cons rfl (has_cons rfl (has_cons rfl has_nil)))))
    | false =>
      obtain ⟨a2, rfl⟩ := key false hre
      (all_goals try k_fold)
      k_steps
      refine fit_call (by assumption) (by assumption) W' (rdF (by assumption) hd2) (by dsimp only; omega) (by dsimp only; omega) ?_
      intro hp₂ tk₂ t' F₂ N₂ _
      k_steps
      · have e1 : foundStep (a, p) (a', p') st (le, re, ow) = (some (ow, re.isNone), fit (le, re, ow) (a, p) (a', p')) := by unfold foundStep; exact if_pos (by assumption)
        rw [e1, hre]
        refine ⟨_, _, _, [(_, { cls := .type "tuple", data := .seq #[.int ow to, .bool false] })], rfl, by assumption, newsSub (by assumption) (sub_cons (by k_mem) (sub_cons (by k_mem) sub_nil)), off_one ?_, _, t', ?_, ⟨_, _, rfl, rfl⟩⟩
        · skip
          k_ne
        · exact has_cons rfl (has_cons rfl (has_cons rfl (has_cons rfl (has_cons rfl (has_cons rfl has_nil)))))
      · have e1 : foundStep (a, p) (a', p') st (le, re, ow) = st := by unfold foundStep; exact if_neg (by assumption)
        rw [e1]
        refine ⟨_, _, _, news₁, rfl, by assumption, by assumption, hoff, _, t, ?_, hb⟩
        exact has_cons rfl (has_cons rfl (has_cons rfl (has_cons rfl (has_cons rfl (has_cons rfl has_nil)))))
  · rintro m₁ news₁ hp₁ tk₁ ⟨vb, t, hm, hb⟩ F₁ N₁
    have sh := hm.shape
    simp only [over] at sh
    rw [sh] at F₁
    clear sh
    k_steps
    dsimp only
    rw [List.take_of_length_le (by have := rdAll_length he; simp at this; omega)] at hb
    exact h _ _ _ news₁ (Fr.keep (by assumption)) hb fun p hp => ⟨News.get (by assumption) hp, (N₁ p hp).2.2⟩

theorem fin : PC cx := by with_unfolding_all exact core
end FoundZ
theorem found_spec {w : World} {dp un : Nat} {fr : Option (List Env)} {gd : Option (List Code)} {R : Result → Shared → Prop} {s : Shared} {H : Heap} {le : Addr} {vs : Array Value} {M : List Ent} {a p a' p' : Int} {t1 t2 t3 t4 : Tok}
    (W : Wld w H) (hk : ∀ x o, H.get? x = some o → s.heap.get? x = some o)
    (hl : s.heap.IsList le vs) (he : RdAll s.heap vs.toList (M.map entD)) (hdp : dp < 390) (hun : un < 390)
    (h : ∀ h' tk v nw, (∀ x o, s.heap.get? x = some o → h'.get? x = some o) → BestAt (found M (a, p) (a', p')) v nw → (∀ p ∈ nw, h'.get? p.1 = some p.2 ∧ s.heap.get? p.1 = none) → R (.ok (.ret v)) { s with heap := h', toks := tk }) :
    codeAny (model PySem.Challenge.pw_nu0119_01 w) ⟨none, dp, fr, gd, un⟩ (.call (.ref 138) ⟨[.ref le, .int a t1, .int p t2, .int a' t3, .int p' t4], []⟩) R s :=
  zxAll (P := FoundZ.PC) FoundZ.fin { zx₀ with w := w, k0 := dp, k1 := un, fr := fr, gd := gd, R := R, s := s, H := H, A0 := le, M := M, vs := vs, i0 := a, i1 := p, i2 := a', i3 := p', t0 := t1, t1 := t2, t2 := t3, t3 := t4 } W hk hl he hdp hun h
theorem found_call {w : World} {dp un : Nat} {fr : Option (List Env)} {gd : Option (List Code)} {Q E : Value → Shared → Prop} {s : Shared} {h₀ : Heap} {L : Addr} {m : Str → Option Value} {news : List (Addr × Obj)} {le : Addr} {vs : Array Value} {M : List Ent} {a p a' p' : Int} {t1 t2 t3 t4 : Tok}
    (F : Fr h₀ L s.heap m) (N : News h₀ L s.heap news) (W : Wld w h₀) (hl : s.heap.IsList le vs) (he : RdAll s.heap vs.toList (M.map entD)) (hdp : dp < 390) (hun : un < 390)
    (h : ∀ h' tk v nw, Fr h₀ L h' m → News h₀ L h' (nw ++ news) → (∀ x o, s.heap.get? x = some o → h'.get? x = some o) → BestAt (found M (a, p) (a', p')) v nw → Q v { s with heap := h', toks := tk }) :
    wpAny (model PySem.Challenge.pw_nu0119_01 w) ⟨none, dp, fr, gd, un⟩ (call (.ref 138) [.ref le, .int a t1, .int p t2, .int a' t3, .int p' t4]) Q E s :=
  wpAny_call (found_spec W F.keep hl he hdp hun fun h' tk v nw k r f => h h' tk v nw (frKeep F k) (fun p hp => by
    rcases List.mem_append.mp hp with q | q
    · refine ⟨(f p q).1, ?_, ?_⟩
      · obtain ⟨o, es, ep, ho, -⟩ := F.ns
        rintro e
        rw [← e, (f p q).2] at ho
        cases ho
      · cases e : h₀.get? p.1 with
        | none => rfl
        | some o => have := F.keep _ _ e; rw [(f p q).2] at this; cases this
    · exact newsKeep N k p q) k r)
theorem BestAt.rd {best : Option (Int × Bool)} {v : Value} {nw : List (Addr × Obj)} {h : Heap} (b : BestAt best v nw) (k : ∀ p ∈ nw, h.get? p.1 = some p.2) : Rd h v (resD best) := by
  cases best with
  | none => obtain ⟨rfl, -⟩ := b; exact .none
  | some r =>
    obtain ⟨a, t, rfl, rfl⟩ := b
    exact .tuple (k _ (.head _)) rfl rfl (rdAll_cons'.mpr ⟨.int _ _, rdAll_cons'.mpr ⟨.bool _, .nil⟩⟩)
end Mine
end

section
open PySem PySem.W PySem.Calls PyProof.Rows PySem.Spec
set_option maxRecDepth 100000
namespace Mine

noncomputable def findT (cl : List ((P2 × P2) × Int)) (ll : List (P2 × Int)) (loc rem : P2) : Option (Int × Bool) :=
  match look cl (loc, rem) with
  | some o => some (o, false)
  | none => match look ll loc with
    | some o => some (o, true)
    | none => (look ll (0, loc.2)).map fun o => (o, true)

/-- the table at X -/
structure TabIs (w : World) (H h : Heap) (X DX C D : Addr) (cl : List ((P2 × P2) × Int)) (ll : List (P2 × Int)) : Prop where
  x : h.get? X = some (instObj 99 DX)
  dx : ∃ o, h.get? DX = some o ∧ DxObj w C D o
  con : ConAt PySem.Challenge.pw_nu0119_01 w H h C cl
  lst : LstAt PySem.Challenge.pw_nu0119_01 w h D ll
  ne : C ≠ D ∧ C ≠ DX ∧ D ≠ DX

theorem TabIs.hide {w : World} {H h : Heap} {X DX C D : Addr} {cl : List ((P2 × P2) × Int)} {ll : List (P2 × Int)} (t : TabIs w H h X DX C D cl ll) :
    ConAt PySem.Challenge.pw_nu0119_01 w H (hideAll h [X, DX]) C cl ∧ LstAt PySem.Challenge.pw_nu0119_01 w (hideAll h [X, DX]) D ll ∧ X ≠ DX := by
  obtain ⟨hX, ⟨oD, hDX, u1, u2, un', rfl⟩, hC, hD, h1, h2, h3⟩ := t
  have kt : KeepT h (hideAll h [X, DX]) := fun b o e c => hideAll_get _ e (by
    intro q
    rcases List.mem_cons.mp q with rfl | q
    · rw [hX] at e; cases e; exact absurd c.1 (by simp)
    · rw [List.mem_singleton.mp q, hDX] at e; cases e; exact absurd c.1 (by simp))
  have hcx : C ≠ X := by
    rintro rfl
    obtain ⟨xs, ⟨o, es, ep, ho, hc, -⟩, -⟩ := hC
    rw [hX] at ho; cases ho; exact absurd hc.1 (by simp)
  have hdx : D ≠ X := by
    rintro rfl
    obtain ⟨xs, ⟨o, es, ep, ho, hc, -⟩, -⟩ := hD
    rw [hX] at ho; cases ho; exact absurd hc.1 (by simp)
  exact ⟨hC.keep kt fun o e => hideAll_get _ e (by simp [hcx, h2]), hD.keep kt fun o e => hideAll_get _ e (by simp [hdx, h3]), by rintro rfl; rw [hX] at hDX; cases hDX⟩

theorem unhide2 {h h₀ h' : Heap} {L X Y : Addr} {m : Str → Option Value} {oX oY : Obj} {news : List (Addr × Obj)} (hx : h.get? X = some oX) (hy : h.get? Y = some oY) (e : h₀ = hideAll h [X, Y]) (F : Fr h₀ L h' m) (N : News h₀ L h' news)
    (mx : (X, oX) ∈ news) (my : (Y, oY) ∈ news) : ∀ x o, h.get? x = some o → h'.get? x = some o := by
  intro x o q
  by_cases e1 : x = X
  · subst e1; rw [hx] at q; cases q; exact N.get mx
  · by_cases e2 : x = Y
    · subst e2; rw [hy] at q; cases q; exact N.get my
    · exact F.keep x o (e ▸ hideAll_get _ q (by simp [e1, e2]))

namespace FindZ
noncomputable def P (w : World) (dp : Nat) (un : Nat) (fr : Option (List Env)) (gd : Option (List Code)) (R : Result → Shared → Prop) (s : Shared) (H : Heap) (X : Addr) (DX : Addr) (C : Addr) (D : Addr) (cl : List ((P2 × P2) × Int)) (ll : List (P2 × Int)) (a : Int) (p : Int) (a' : Int) (p' : Int) (t1 : Tok) (t2 : Tok) (t3 : Tok) (t4 : Tok) (u1 : Tok) (u2 : Tok) (un' : Nat) : Prop := (Wld w H) → (∀ x o, H.get? x = some o → s.heap.get? x = some o) → (H.get? X = none) → (H.get? DX = none) → (TabIs w H s.heap X DX C D cl ll) → (dp < 390) → (un < 390) → (∀ h' tk v, (∀ x o, s.heap.get? x = some o → h'.get? x = some o) → Rd h' v (resD (findT cl ll (a, p) (a', p'))) → R (.ok (.ret v)) { s with heap := h', toks := tk }) → (s.heap.get? DX = some (dictOf [⟨PyData.keyHash w.params "connections", .str "connections" u1, .ref C⟩, ⟨PyData.keyHash w.params "listeners", .str "listeners" u2, .ref D⟩] un')) →
    codeAny (model PySem.Challenge.pw_nu0119_01 w) ⟨none, dp, fr, gd, un⟩ (.call (.ref 86) ⟨[.ref X, .int a t1, .int p t2, .int a' t3, .int p' t4], []⟩) R s
noncomputable def PC (c : Zx) : Prop := P c.w c.k0 c.k1 c.fr c.gd c.R c.s c.H c.A0 c.A1 c.A2 c.A3 c.cl c.ll c.i0 c.i1 c.i2 c.i3 c.t0 c.t1 c.t2 c.t3 c.t4 c.t5 c.k2
noncomputable def cx : Zx := @Classical.epsilon Zx ⟨zx₀⟩ fun c => ¬ PC c
@[irreducible] noncomputable def w : World := cx.w
@[irreducible] noncomputable def dp : Nat := cx.k0
@[irreducible] noncomputable def un : Nat := cx.k1
@[irreducible] noncomputable def fr : Option (List Env) := cx.fr
@[irreducible] noncomputable def gd : Option (List Code) := cx.gd
@[irreducible] noncomputable def R : Result → Shared → Prop := cx.R
@[irreducible] noncomputable def hZ : Heap := cx.s.heap
@[irreducible] noncomputable def sg : Array GenState := cx.s.gens
@[irreducible] noncomputable def sd : Drawn := cx.s.drawn
@[irreducible] noncomputable def st : Nat := cx.s.toks
@[irreducible] noncomputable def so : OsState := cx.s.os
@[irreducible] noncomputable def H : Heap := cx.H
@[irreducible] noncomputable def X : Addr := cx.A0
@[irreducible] noncomputable def DX : Addr := cx.A1
@[irreducible] noncomputable def C : Addr := cx.A2
@[irreducible] noncomputable def D : Addr := cx.A3
@[irreducible] noncomputable def cl : List ((P2 × P2) × Int) := cx.cl
@[irreducible] noncomputable def ll : List (P2 × Int) := cx.ll
@[irreducible] noncomputable def a : Int := cx.i0
@[irreducible] noncomputable def p : Int := cx.i1
@[irreducible] noncomputable def a' : Int := cx.i2
@[irreducible] noncomputable def p' : Int := cx.i3
@[irreducible] noncomputable def t1 : Tok := cx.t0
@[irreducible] noncomputable def t2 : Tok := cx.t1
@[irreducible] noncomputable def t3 : Tok := cx.t2
@[irreducible] noncomputable def t4 : Tok := cx.t3
@[irreducible] noncomputable def u1 : Tok := cx.t4
@[irreducible] noncomputable def u2 : Tok := cx.t5
@[irreducible] noncomputable def un' : Nat := cx.k2
@[irreducible] noncomputable def L : Addr := hZ.objs.size
theorem L_eq : hZ.objs.size = L := by delta L; rfl
theorem lt_L {x : Addr} {o : Obj} (h : hZ.get? x = some o) : x < L := L_eq ▸ Heap.lt_size h
@[irreducible] noncomputable def h₀ : Heap := hideAll hZ [X, DX]
theorem h₀_eq : hideAll hZ [X, DX] = h₀ := by delta h₀; rfl
set_option maxHeartbeats 4000000 in
theorem core (W : Wld w H) (hk : ∀ x o, H.get? x = some o → hZ.get? x = some o) (hXH : H.get? X = none) (hDH : H.get? DX = none) (tb : TabIs w H hZ X DX C D cl ll) (hdp : dp < 390) (hun : un < 390) (h : ∀ h' tk v, (∀ x o, hZ.get? x = some o → h'.get? x = some o) → Rd h' v (resD (findT cl ll (a, p) (a', p'))) → R (.ok (.ret v)) ⟨h', sg, sd, tk, so⟩) (hDX : hZ.get? DX = some (dictOf [⟨PyData.keyHash w.params "connections", .str "connections" u1, .ref C⟩, ⟨PyData.keyHash w.params "listeners", .str "listeners" u2, .ref D⟩] un')) :
    codeAny (model PySem.Challenge.pw_nu0119_01 w) ⟨none, dp, fr, gd, un⟩ (.call (.ref 86) ⟨[.ref X, .int a t1, .int p t2, .int a' t3, .int p' t4], []⟩) R ⟨hZ, sg, sd, st, so⟩ := by
  obtain ⟨loose, mean, mg, mb, T⟩ := W.T
  obtain ⟨hC, hD, hnX⟩ := tb.hide
  rw [h₀_eq] at hC hD
  have hX := tb.x
  clear tb
  have hk' : ∀ x o, H.get? x = some o → h₀.get? x = some o := fun x o e => h₀_eq ▸ hideAll_get _ (hk x o e) (by
    intro q
    rcases List.mem_cons.mp q with q | q
    · rw [q, hXH] at e; cases e
    · rw [List.mem_singleton.mp q, hDH] at e; cases e)
  have W' := W.keeps hk'
  have X' := W.K.keeps hk'
  have T' := T.keeps hk'
  k_dflt (refine' enterY (K := Mine.hd.heap_39 w.params) (binds := [("self", .ref X), ("target", .int a t1), ("target_port", .int p t2), ("source", .int a' t3), ("source_port", .int p' t4)]) [X, DX] L_eq h₀_eq (W.K.keeps hk) (T.keeps hk).nolimit ?k6 ?k7 ?k8 ?k9 ?kB ?_ ?c2 ?c3 ?c4 ?c5; (case k6 => k_is); (case k7 => k_is); (case k8 => (dsimp only; rw [show recursionLimit = 1000 from rfl]; omega)); (case k9 => exact BindsTo.of_eq rfl); (case c5 => decide); (case kB => exact locs rfl); (case c2 => exact rfl); (case c3 => exact rfl); (case c4 => exact rfl))
  intro h₁ F hk₁
  have N : News h₀ L h₁ [(X, instObj 99 DX), (DX, dictOf [⟨PyData.keyHash w.params "connections", .str "connections" u1, .ref C⟩, ⟨PyData.keyHash w.params "listeners", .str "listeners" u2, .ref D⟩] un')] := by
    intro p hp
    rcases List.mem_cons.mp hp with rfl | hp
    · exact ⟨hk₁ _ _ hX, Nat.ne_of_lt (lt_L hX), h₀_eq ▸ hideAll_none _ (.head _)⟩
    · rw [List.mem_singleton.mp hp]
      exact ⟨hk₁ _ _ hDX, Nat.ne_of_lt (lt_L hDX), h₀_eq ▸ hideAll_none _ (.tail _ (.head _))⟩
  have hend : ∀ {h' : Heap} {m news}, Fr h₀ L h' m → News h₀ L h' news → _ → _ → ∀ x o, hZ.get? x = some o → h'.get? x = some o :=
    fun F N mx my => unhide2 hX hDX h₀_eq.symm F N mx my
  try dsimp only at *
  clear hk hk₁
  (all_goals try k_fold)
  k_steps
  refine meth_con PySem.F.slot_dict_get PySem.F.type_dict_get (hC.keeps (Fr.keep (by assumption))) ?_
  k_steps
  refine get_con (by simp only [units_deeper, cLine]; omega) (hC.keeps (Fr.keep (by assumption))) (rdNkey (by assumption) (by k_mem) (rdNpt (by assumption) (by k_mem)) (rdNpt (by assumption) (by k_mem))) ?_
  intro v hv
  cases e1 : look cl ((a, p), (a', p')) with
  | some o =>
    rw [e1] at hv
    obtain ⟨t, rfl⟩ := hv
    k_steps
    all_goals (try dsimp only)
    refine h _ _ _ (hend (by assumption) (by assumption) (by k_mem) (by k_mem)) ?_
    simp only [findT, e1, resD]
    exact rdN (by assumption) (by k_mem) (rdAll_cons'.mpr ⟨.int _ _, rdAll_cons'.mpr ⟨.bool _, .nil⟩⟩)
  | none =>
    rw [e1] at hv
    cases hv
    k_steps
    refine meth_lst PySem.F.slot_dict_get PySem.F.type_dict_get (hD.keeps (Fr.keep (by assumption))) ?_
    k_steps
    refine get_lst (by simp only [units_deeper, cLine]; omega) (hD.keeps (Fr.keep (by assumption))) (rdNpt (by assumption) (by k_mem)) ?_
    intro v hv
    cases e2 : look ll (a, p) with
    | some o =>
      rw [e2] at hv
      obtain ⟨t, rfl⟩ := hv
      k_steps
      all_goals (try dsimp only)
      refine h _ _ _ (hend (by assumption) (by assumption) (by k_mem) (by k_mem)) ?_
      simp only [findT, e1, e2, resD]
      exact rdN (by assumption) (by k_mem) (rdAll_cons'.mpr ⟨.int _ _, rdAll_cons'.mpr ⟨.bool _, .nil⟩⟩)
    | none =>
      rw [e2] at hv
      cases hv
      k_steps
      refine meth_lst PySem.F.slot_dict_get PySem.F.type_dict_get (hD.keeps (Fr.keep (by assumption))) ?_
      k_steps
      refine get_lst (by simp only [units_deeper, cLine]; omega) (hD.keeps (Fr.keep (by assumption))) (rdNpt (by assumption) (by k_mem)) ?_
      intro v hv
      cases e3 : look ll (0, p) with
      | some o =>
        rw [e3] at hv
        obtain ⟨t, rfl⟩ := hv
        k_steps
        all_goals (try dsimp only)
        refine h _ _ _ (hend (by assumption) (by assumption) (by k_mem) (by k_mem)) ?_
        simp only [findT, e1, e2, e3, resD, Option.map_some]
        exact rdN (by assumption) (by k_mem) (rdAll_cons'.mpr ⟨.int _ _, rdAll_cons'.mpr ⟨.bool _, .nil⟩⟩)
      | none =>
        rw [e3] at hv
        cases hv
        k_steps
        all_goals (try dsimp only)
        refine h _ _ _ (hend (by assumption) (by assumption) (by k_mem) (by k_mem)) ?_
        simp only [findT, e1, e2, e3, resD, Option.map_none]
        exact .none
theorem fin : PC cx := by with_unfolding_all exact core
end FindZ
theorem find_spec {w : World} {dp un : Nat} {fr : Option (List Env)} {gd : Option (List Code)} {R : Result → Shared → Prop} {s : Shared} {H : Heap} {X DX C D : Addr} {cl : List ((P2 × P2) × Int)} {ll : List (P2 × Int)} {a p a' p' : Int} {t1 t2 t3 t4 : Tok}
    (W : Wld w H) (hk : ∀ x o, H.get? x = some o → s.heap.get? x = some o) (hXH : H.get? X = none) (hDH : H.get? DX = none)
    (tb : TabIs w H s.heap X DX C D cl ll) (hdp : dp < 390) (hun : un < 390)
    (h : ∀ h' tk v, (∀ x o, s.heap.get? x = some o → h'.get? x = some o) → Rd h' v (resD (findT cl ll (a, p) (a', p'))) → R (.ok (.ret v)) { s with heap := h', toks := tk }) :
    codeAny (model PySem.Challenge.pw_nu0119_01 w) ⟨none, dp, fr, gd, un⟩ (.call (.ref 86) ⟨[.ref X, .int a t1, .int p t2, .int a' t3, .int p' t4], []⟩) R s := by
  obtain ⟨_, hDX, u1, u2, un', rfl⟩ := tb.2
  exact
  zxAll (P := FindZ.PC) FindZ.fin { zx₀ with w := w, k0 := dp, k1 := un, fr := fr, gd := gd, R := R, s := s, H := H, A0 := X, A1 := DX, A2 := C, A3 := D, cl := cl, ll := ll, i0 := a, i1 := p, i2 := a', i3 := p', t0 := t1, t1 := t2, t2 := t3, t3 := t4, t4 := u1, t5 := u2, k2 := un' } W hk hXH hDH tb hdp hun h hDX
end Mine
end

section
open PySem PySem.W PySem.Calls PyProof.Rows PySem.Spec
set_option maxRecDepth 100000
namespace Mine

noncomputable def usedT (cl : List ((P2 × P2) × Int)) (ll : List (P2 × Int)) (port : Int) : Bool := cl.any (fun x => decide (x.1.1.2 = port)) || ll.any (fun x => decide (x.1.2 = port))

theorem boolsAre_map {α : Type} (f : α → Bool) : ∀ l : List α, LSm.BoolsAre (l.map fun x => Value.bool (f x)) (l.map f)
  | [] => .nil
  | x :: l => .cons (f x) (boolsAre_map f l)

local macro_rules | `(tactic| walk_at "eval ListComp") => `(tactic| (k_here; k_dflt (refine ListComp_UD (F₀ := by k_asm) (by with_unfolding_all rfl) (by decide) (by rfl) (by decide) (by rfl) ?_)))
namespace UsedZ
noncomputable def P (w : World) (dp : Nat) (un : Nat) (fr : Option (List Env)) (gd : Option (List Code)) (R : Result → Shared → Prop) (s : Shared) (H : Heap) (X : Addr) (DX : Addr) (C : Addr) (D : Addr) (cl : List ((P2 × P2) × Int)) (ll : List (P2 × Int)) (port : Int) (t1 : Tok) (u1 : Tok) (u2 : Tok) (un' : Nat) : Prop := (Wld w H) → (∀ x o, H.get? x = some o → s.heap.get? x = some o) → (H.get? X = none) → (H.get? DX = none) → (TabIs w H s.heap X DX C D cl ll) → (ll.length ≤ 1000) → (dp < 390) → (un < 390) → (∀ h' tk, (∀ x o, s.heap.get? x = some o → h'.get? x = some o) → R (.ok (.ret (.bool (usedT cl ll port)))) { s with heap := h', toks := tk }) → (s.heap.get? DX = some (dictOf [⟨PyData.keyHash w.params "connections", .str "connections" u1, .ref C⟩, ⟨PyData.keyHash w.params "listeners", .str "listeners" u2, .ref D⟩] un')) →
    codeAny (model PySem.Challenge.pw_nu0119_01 w) ⟨none, dp, fr, gd, un⟩ (.call (.ref 91) ⟨[.ref X, .int port t1], []⟩) R s
noncomputable def PC (c : Zx) : Prop := P c.w c.k0 c.k1 c.fr c.gd c.R c.s c.H c.A0 c.A1 c.A2 c.A3 c.cl c.ll c.i0 c.t0 c.t1 c.t2 c.k2
noncomputable def cx : Zx := @Classical.epsilon Zx ⟨zx₀⟩ fun c => ¬ PC c
@[irreducible] noncomputable def w : World := cx.w
@[irreducible] noncomputable def dp : Nat := cx.k0
@[irreducible] noncomputable def un : Nat := cx.k1
@[irreducible] noncomputable def fr : Option (List Env) := cx.fr
@[irreducible] noncomputable def gd : Option (List Code) := cx.gd
@[irreducible] noncomputable def R : Result → Shared → Prop := cx.R
@[irreducible] noncomputable def hZ : Heap := cx.s.heap
@[irreducible] noncomputable def sg : Array GenState := cx.s.gens
@[irreducible] noncomputable def sd : Drawn := cx.s.drawn
@[irreducible] noncomputable def st : Nat := cx.s.toks
@[irreducible] noncomputable def so : OsState := cx.s.os
@[irreducible] noncomputable def H : Heap := cx.H
@[irreducible] noncomputable def X : Addr := cx.A0
@[irreducible] noncomputable def DX : Addr := cx.A1
@[irreducible] noncomputable def C : Addr := cx.A2
@[irreducible] noncomputable def D : Addr := cx.A3
@[irreducible] noncomputable def cl : List ((P2 × P2) × Int) := cx.cl
@[irreducible] noncomputable def ll : List (P2 × Int) := cx.ll
@[irreducible] noncomputable def port : Int := cx.i0
@[irreducible] noncomputable def t1 : Tok := cx.t0
@[irreducible] noncomputable def u1 : Tok := cx.t1
@[irreducible] noncomputable def u2 : Tok := cx.t2
@[irreducible] noncomputable def un' : Nat := cx.k2
@[irreducible] noncomputable def L : Addr := hZ.objs.size
theorem L_eq : hZ.objs.size = L := by delta L; rfl
theorem lt_L {x : Addr} {o : Obj} (h : hZ.get? x = some o) : x < L := L_eq ▸ Heap.lt_size h
@[irreducible] noncomputable def h₀ : Heap := hideAll hZ [X, DX]
theorem h₀_eq : hideAll hZ [X, DX] = h₀ := by delta h₀; rfl
set_option maxHeartbeats 4000000 in
theorem core (W : Wld w H) (hk : ∀ x o, H.get? x = some o → hZ.get? x = some o) (hXH : H.get? X = none) (hDH : H.get? DX = none) (tb : TabIs w H hZ X DX C D cl ll) (hll : ll.length ≤ 1000) (hdp : dp < 390) (hun : un < 390) (h : ∀ h' tk, (∀ x o, hZ.get? x = some o → h'.get? x = some o) → R (.ok (.ret (.bool (usedT cl ll port)))) ⟨h', sg, sd, tk, so⟩) (hDX : hZ.get? DX = some (dictOf [⟨PyData.keyHash w.params "connections", .str "connections" u1, .ref C⟩, ⟨PyData.keyHash w.params "listeners", .str "listeners" u2, .ref D⟩] un')) :
    codeAny (model PySem.Challenge.pw_nu0119_01 w) ⟨none, dp, fr, gd, un⟩ (.call (.ref 91) ⟨[.ref X, .int port t1], []⟩) R ⟨hZ, sg, sd, st, so⟩ := by
  obtain ⟨loose, mean, mg, mb, T⟩ := W.T
  obtain ⟨hC, hD, hnX⟩ := tb.hide
  rw [h₀_eq] at hC hD
  have hX := tb.x
  clear tb
  have hk' : ∀ x o, H.get? x = some o → h₀.get? x = some o := fun x o e => h₀_eq ▸ hideAll_get _ (hk x o e) (by
    intro q
    rcases List.mem_cons.mp q with q | q
    · rw [q, hXH] at e; cases e
    · rw [List.mem_singleton.mp q, hDH] at e; cases e)
  have W' := W.keeps hk'
  have X' := W.K.keeps hk'
  have T' := T.keeps hk'
  k_dflt (refine' enterZ (K := Mine.hd.heap_39 w.params) (binds := [("self", .ref X), ("port", .int port t1)]) [X, DX] L_eq h₀_eq (W.K.keeps hk) (T.keeps hk).nolimit ?k6 ?k7 ?k8 ?k9 ?kB ?kD ?_ ?c2 ?c3 ?c4; (case k6 => k_is); (case k7 => k_is); (case k8 => (dsimp only; rw [show recursionLimit = 1000 from rfl]; omega)); (case k9 => exact BindsTo.of_eq rfl); (case kB => exact rfl); (case kD => decide +kernel); (case c2 => exact rfl); (case c3 => exact rfl); (case c4 => exact rfl))
  intro h₁ tk₁ cells F Nc Y hk₁ hab
  obtain ⟨oc, rfl, dc⟩ := CellsAre.one Y
  have N : News h₀ L h₁ [(L + 1, oc), (X, instObj 99 DX), (DX, dictOf [⟨PyData.keyHash w.params "connections", .str "connections" u1, .ref C⟩, ⟨PyData.keyHash w.params "listeners", .str "listeners" u2, .ref D⟩] un')] := by
    intro p hp
    rcases List.mem_cons.mp hp with rfl | hp
    · exact Nc _ (.head _)
    rcases List.mem_cons.mp hp with rfl | hp
    · exact ⟨hk₁ _ _ hX, Nat.ne_of_lt (lt_L hX), h₀_eq ▸ hideAll_none _ (.head _)⟩
    · rw [List.mem_singleton.mp hp]
      exact ⟨hk₁ _ _ hDX, Nat.ne_of_lt (lt_L hDX), h₀_eq ▸ hideAll_none _ (.tail _ (.head _))⟩
  have hend : ∀ {h' : Heap} {m news}, Fr h₀ L h' m → News h₀ L h' news → _ → _ → ∀ x o, hZ.get? x = some o → h'.get? x = some o :=
    fun F N mx my => unhide2 hX hDX h₀_eq.symm F N mx my
  have hX0 := lt_L hX
  have hD0 := lt_L hDX
  try dsimp only at *
  clear hk hk₁ Y Nc hab
  (all_goals try k_fold)
  k_steps
  refine wpAny_For ?_
  (repeat' (first | (k_unfold; (try dsimp only)) | (k_end; kc_close) | ((fail_if_success (with_reducible show wpAny _ _ (pyIter (.ref _)) _ _ _)); first | walk1 | (dsimp only; walk1) | (leave1; walk_say "STEP leave1"; (try dsimp only)))))
  have hC2 := hC
  obtain ⟨xs, ⟨oC, es, ep, hoC, hcC, hdC, heC, hisC, hnC⟩, vC, lC, -⟩ := hC2
  have hlen : es.size = cl.length := by rw [size_of_entries heC, vC.length]
  refine dict_loop2 (h₀ := h₀) (L := L) (es := es) (ep := ep) (news := [(L + 1, oc), (X, instObj 99 DX), (DX, dictOf [⟨PyData.keyHash w.params "connections", .str "connections" u1, .ref C⟩, ⟨PyData.keyHash w.params "listeners", .str "listeners" u2, .ref D⟩] un')])
    (fun i m news => Has m [("self", .ref X)] ∧ news = [(L + 1, oc), (X, instObj 99 DX), (DX, dictOf [⟨PyData.keyHash w.params "connections", .str "connections" u1, .ref C⟩, ⟨PyData.keyHash w.params "listeners", .str "listeners" u2, .ref D⟩] un')] ∧ (cl.take i).any (fun x => decide (x.1.1.2 = port)) = false)
    (by exact rfl) lC ⟨oC, hoC, hcC, hdC⟩ F N ⟨has_cons rfl has_nil, rfl, rfl⟩ ?_ ?_
  · rintro i k m₁ _ hp₁ tk₁ I oI E' hi ⟨hm, rfl, hno⟩ hoff F₁ N₁
    rw [entry_at heC] at hi
    obtain ⟨⟨key, ak, va⟩, hxi, rfl⟩ := Option.map_eq_some_iff.mp hi
    have hki : (cl.map (·.1))[i]? = some key := by rw [← vC.keys, List.getElem?_map, hxi]; rfl
    rw [List.getElem?_map] at hki
    obtain ⟨ce, hci, rfl⟩ := Option.map_eq_some_iff.mp hki
    obtain ⟨_, al, ar, ek, hTk, rl, rr⟩ := key_inv (hisC _ (List.mem_of_getElem? hxi))
    cases ek
    obtain ⟨_, ta, tb, el, hTl⟩ := pt_inv rl
    cases el
    dsimp only at hTk hTl
    have sh := hm.shape
    simp only [over] at sh
    rw [sh] at F₁
    clear sh hi hki hxi rr
    dsimp only [entryOfKey]
    (all_goals try k_fold)
    k_steps
    · dsimp only
      have e : usedT cl ll port = true := by
        have : cl.any (fun x => decide (x.1.1.2 = port)) = true := List.any_eq_true.mpr ⟨ce, List.mem_of_getElem? hci, by simpa using (by assumption : _ = port)⟩
        simp [usedT, this]
      rw [e] at h
      exact h _ _ (hend (by assumption) (by assumption) (by k_mem) (by k_mem))
    · refine ⟨_, _, _, _, rfl, by assumption, by assumption, hoff, has_cons rfl has_nil, rfl, ?_⟩
      rw [take_succ hci, List.any_append, hno]
      simpa using (by assumption : _ ≠ port)
  · rintro m₁ _ hp₁ tk₁ ⟨hm, rfl, hno⟩ F₁ N₁
    rw [hlen, List.take_length] at hno
    have sh := hm.shape
    simp only [over] at sh
    rw [sh] at F₁
    clear sh
    (all_goals try k_fold)
    k_steps
    obtain ⟨xl, ⟨oD, es', ep', hoD, hcD, hdD, heD, hisD, hnD⟩, vD, lD⟩ := hD
    have hlen' : es'.size = ll.length := by rw [size_of_entries heD, vD.length]
    refine ⟨D, es', ep', _, rfl, lD, rfl, by assumption, by assumption, .inl ⟨oD, hoD, hcD, hdD⟩, by rw [hlen', sizeLine_eq]; omega, ?_⟩
    rintro s₂ ⟨hp₂, rfl⟩
    refine compU_inv es'.size (fun i ys news => ys = (ll.take i).map (fun x => Value.bool (decide (x.1.2 = port))) ∧ news = [(L + 1, oc), (X, instObj 99 DX), (DX, dictOf [⟨PyData.keyHash w.params "connections", .str "connections" u1, .ref C⟩, ⟨PyData.keyHash w.params "listeners", .str "listeners" u2, .ref D⟩] un')]) ?_ ?_ _ _ _ _ (by omega) ⟨rfl, rfl⟩
    · rintro i v I oI Cc oC2 Dl m₂ hp₃ tk₃ E' ys _ hi ⟨rfl, rfl⟩ hv hNs hmx F₃ N₃ off3 ne3
      rw [entry_at heD] at hv
      obtain ⟨⟨key, ak, va⟩, hxi, rfl⟩ : ∃ q, xl[i]? = some q ∧ v = .ref q.2.1 := by
        cases hq : xl[i]? with
        | none => rw [hq] at hv; cases hv
        | some q => rw [hq] at hv; exact ⟨q, rfl, (Option.some.inj hv).symm⟩
      have hki : (ll.map (·.1))[i]? = some key := by rw [← vD.keys, List.getElem?_map, hxi]; rfl
      rw [List.getElem?_map] at hki
      obtain ⟨ce, hci, rfl⟩ := Option.map_eq_some_iff.mp hki
      obtain ⟨_, ta, tb, ek, hTk⟩ := pt_inv (hisD _ (List.mem_of_getElem? hxi))
      cases ek
      dsimp only at hTk
      clear hki hxi hv
      k_steps
      refine LCg.CompEnd.intro (by assumption) (by assumption) _ (fun _ h => h) off3 (.inl ⟨oD, hoD, hcD, hdD⟩) ⟨?_, rfl⟩
      rw [take_succ hci, List.map_append]
      rfl
    · rintro ys _ ⟨rfl, rfl⟩
      rw [hlen', List.take_length]
      k_steps
      refine LSm.any_bools (by assumption) (by assumption) (by exact rfl) (News.isList (by assumption) (.head _)) (boolsAre_map _ _) ?_
      intro hp₃ tk₃ F₃ N₃
      k_steps
      have e : usedT cl ll port = (ll.map fun x => decide (x.1.2 = port)).any id := by
        simp [usedT, hno, List.any_map, Function.comp_def]
      rw [e] at h
      exact h _ _ (hend (by assumption) (by assumption) (by k_mem) (by k_mem))
theorem fin : PC cx := by with_unfolding_all exact core
end UsedZ
theorem used_spec {w : World} {dp un : Nat} {fr : Option (List Env)} {gd : Option (List Code)} {R : Result → Shared → Prop} {s : Shared} {H : Heap} {X DX C D : Addr} {cl : List ((P2 × P2) × Int)} {ll : List (P2 × Int)} {port : Int} {t1 : Tok}
    (W : Wld w H) (hk : ∀ x o, H.get? x = some o → s.heap.get? x = some o) (hXH : H.get? X = none) (hDH : H.get? DX = none)
    (tb : TabIs w H s.heap X DX C D cl ll) (hll : ll.length ≤ 1000) (hdp : dp < 390) (hun : un < 390)
    (h : ∀ h' tk, (∀ x o, s.heap.get? x = some o → h'.get? x = some o) → R (.ok (.ret (.bool (usedT cl ll port)))) { s with heap := h', toks := tk }) :
    codeAny (model PySem.Challenge.pw_nu0119_01 w) ⟨none, dp, fr, gd, un⟩ (.call (.ref 91) ⟨[.ref X, .int port t1], []⟩) R s := by
  obtain ⟨_, hDX, u1, u2, un', rfl⟩ := tb.2
  exact
  zxAll (P := UsedZ.PC) UsedZ.fin { zx₀ with w := w, k0 := dp, k1 := un, fr := fr, gd := gd, R := R, s := s, H := H, A0 := X, A1 := DX, A2 := C, A3 := D, cl := cl, ll := ll, i0 := port, t0 := t1, t1 := u1, t2 := u2, k2 := un' } W hk hXH hDH tb hll hdp hun h hDX
local macro_rules | `(tactic| walk_at "zz") => `(tactic| fail)
theorem zreset_Used {M : Model} {A : Around} {env : Env} {Q : Flow → Shared → Prop} {E : Value → Shared → Prop} {s : Shared} (h : wpAny M A (execs [] env) Q E s) : wpAny M A (execs [] env) Q E s := by first | (walk1; fail) | exact h
end Mine
end

section
open PySem PySem.W PySem.Calls PyProof.Rows PySem.Spec Builtin Builtin.ObjectAttr Builtin.Getset_descriptor
set_option maxRecDepth 100000
namespace Mine

section
variable {prog : Program} {w : World} {A : Around} {E : Value → Shared → Prop} {s : Shared}

theorem port_cls : ∃ cd, clsIn (hd.heap_39 w.params) 44 = some cd ∧ cd.mro = [.ref 44, .ref 31, .type "Exception", .type "BaseException", .type "object"] ∧ cd.hasDict = true := ⟨_, by k_is, rfl, rfl⟩

/-- self.message = v, on a new exception without a dict -/
theorem set_exc {x : Addr} {ox : Obj} {vs : Array Value} {v : Value} {Q : Unit → Shared → Prop} (X : (hd.heap_39 w.params).In s.heap) (hx : s.heap.get? x = some ox) (hc : ox.cls = .ref 44) (hdn : ox.dict = none) (hdt : ox.data = .fields vs)
    (hq : ∀ h' tk dx, h'.get? x = some { ox with dict := some dx } → (∀ b o, b ≠ x → s.heap.get? b = some o → h'.get? b = some o) → Q () { s with heap := h', toks := tk }) :
    wpAny (model prog w) A (setAttr (.ref x) (PySem.Str.ofString "message") v) Q E s := by
  obtain ⟨cd, hcd, hm, hhd⟩ := port_cls (w := w)
  have I : PySem.W.InstAt s.heap x ox 44 none := ⟨hx, hc, by unfold notCls; rw [hdt], by rw [hdn]; trivial⟩
  have SF := PySem.F.store_Exception
  have hs : findIn (hd.heap_39 w.params) (.ref 44) "__setattr__" = some (some (.builtin "object.__setattr__")) := by k_is
  have hfm : findIn (hd.heap_39 w.params) (.ref 44) "message" = some none := by k_is
  refine set_plain X I hs ?_
  have X1 : (hd.heap_39 w.params).In ({ s with toks := s.toks + 1 } : Shared).heap := X
  have sub : Looks (model prog w) s.heap (isInstance (.ref x) (.type "object")) true := I.type.andThen (looks_mroIn X (by unfold mroIn; rw [hcd, Option.bind_some, hm]; rfl))
  refine codeAny_call_builtin SF.slot.plain SF.entry (@check_slot (model prog w) _ _ { s with toks := s.toks + 1 } "object.__setattr__" "object" "__setattr__" (.ref x) [.str "message" s.toks, v] [] _ SF.kind SF.split sub (SF.args (.ref x) (.str "message" s.toks) v) ?_)
  have hml : Looks (model prog w) s.heap (mroOf (.ref 44)) cd.mro := (looks_clsIn X hcd).andThen .now
  have L3 : Looks (model prog w) s.heap (storeTaker? none) none := .now
  rw [osa_eq, refuse_eq]
  generalize hs2 : ({ s with toks := s.toks + 1 } : Shared) = s2
  have e2 : s2.heap = s.heap := by rw [← hs2]
  have kk : ∀ b o, s.heap.get? b = some o → s2.heap.get? b = some o := fun b o e => by rw [e2]; exact e
  refine wpAny_bind (wpAny_bind (I.type _ _ _ s2 kk (wpAny_bind (hml _ _ _ s2 kk ?_))))
  rw [hm, refuseLoop_ref, refuseLoop_ref, SF.passes]
  refine wpAny_pure (wpAny_bind (I.type _ _ _ s2 kk (wpAny_bind (looks_findIn X hfm _ _ _ s2 kk (wpAny_bind (L3 _ _ _ s2 kk ?_))))))
  dsimp only
  subst hs2
  obtain ⟨oc, od, odt, osl⟩ := ox
  dsimp only at hc hdn hdt
  subst hc hdn hdt
  refine wpAny_bind (wpAny_pure (wpAny_bind (wpAny_bind (wpAny_loadPart hx (wpAny_bind (looks_clsIn X hcd _ _ _ { s with toks := s.toks + 1 } (fun _ _ e => e) ?_))))))
  rw [hhd]
  have hxs : x ≠ s.heap.objs.size := Nat.ne_of_lt (Heap.lt_size hx)
  have hx₁ : (s.heap.push { cls := .type "dict", data := .dict #[] }).get? x = some ⟨.ref 44, none, .fields vs, osl⟩ := Heap.get?_push_of_some _ hx
  show wpAny _ _ (alloc _ >>= _) _ _ _
  refine wpAny_bind (wpAny_alloc ?_)
  refine wpAny_bind (wpAny_updatePart (o := ⟨.ref 44, none, .fields vs, osl⟩) hx₁ ?_)
  refine wpAny_pure ?_
  have hgd : ((s.heap.push { cls := .type "dict", data := .dict #[] }).update x fun o => { cls := o.cls, dict := some s.heap.objs.size, data := o.data, slots := o.slots }).get? s.heap.objs.size
      = some { cls := .type "dict", data := .dict #[] } :=
    (Heap.get?_update_ne _ _ _ _ hxs.symm).trans (Heap.get?_push_at rfl rfl)
  have hnd : ((s.heap.push { cls := .type "dict", data := .dict #[] }).update x fun o => { cls := o.cls, dict := some s.heap.objs.size, data := o.data, slots := o.slots }).Ns s.heap.objs.size (fun _ => none) :=
    ⟨_, #[], _, hgd, rfl, fun e he => absurd he (by simp), fun _ => rfl⟩
  show wpAny _ _ (storeInDict s.heap.objs.size (.str "message" s.toks) "message" v) _ _ _
  unfold storeInDict newKeyGuard
  refine wpAny_bind (wpAny_pure (wpAny_bind (wpAny_nsSet1 (s := { s with heap := _, toks := s.toks + 1 }) (Heap.Ns1.of_empty hnd) fun h' hn' hs => ?_)))
  obtain ⟨oD, esD, epD, hoD, hdD, hcD⟩ := hn'.count (Within.cons "message" v Within.nil)
  refine wpAny_bind (wpAny_lookBehind hoD (by rw [hdD]; exact pastItsLine_dict (Nat.le_trans hcD (by rw [List.length_cons, List.length_nil, sizeLine_eq]; omega))) ?_)
  refine wpAny_pure ?_
  have hx' : h'.get? x = some ⟨.ref 44, some s.heap.objs.size, .fields vs, osl⟩ := (hs.2 x hxs).trans (Heap.get?_update_self _ hx₁ rfl)
  refine hq h' _ s.heap.objs.size hx' fun b ob hbx hb => ?_
  exact (hs.2 b (Nat.ne_of_lt (Heap.lt_size hb))).trans ((Heap.get?_update_ne _ _ _ _ hbx).trans (Heap.get?_push_of_some _ hb))
end

abbrev portObj (w : World) : Obj := excClassObj "PortError" "PortError" 44 43 [.ref 31] [.ref 31, .type "Exception", .type "BaseException", .type "object"] true [] [] false none none (some (.ref 35)) none (some (.str "PortError" 218)) (some (.str "PortError" 226)) (some (.bool true)) "Exception.__new__"

theorem port_at {w : World} {h : Heap} (X : (hd.heap_39 w.params).In h) : h.get? 44 = some (portObj w) := X _ _ (by k_is)

section
variable {prog : Program} {w : World} {A : Around} {R : Result → Shared → Prop} {E : Value → Shared → Prop} {h : Heap} {g : Array GenState} {d : Drawn} {t : Nat} {os : OsState}

abbrev freshExc (tp : Addr) : Obj := { cls := .ref 44, data := .fields #[.ref tp, .none, .none, .none, .bool false, .none] }

theorem port_check_new {rest : List Value} {Q : Unit → Shared → Prop} (X : (hd.heap_39 w.params).In h)
    (hq : Q () ⟨h, g, d, t, os⟩) : wpAny (model prog w) A (checkBuiltinCall "Exception.__new__" ⟨.ref 44 :: rest, []⟩) Q E ⟨h, g, d, t, os⟩ := by
  have F := PySem.F.excBase_Exception
  have hC := port_at X
  have hcont : (Value.ref 44 :: [Value.ref 31, .type "Exception", .type "BaseException", .type "object"]).contains (.type "Exception") = true := by decide
  have hstar := F.noStar
  simp only [checkBuiltinCall, F.newKind, F.newSplit, F.newRow]
  repeat (first | refine wpAny_loadPart_at hC ?_ | (refine wpAny_isSubtype_exc hC ?_; rw [hcont]) | refine wpAny_staticBase_exc hC ?_ | refine wpAny_madeBy_exc hC ?_ | simp only [bne_self_eq_false, Bool.false_eq_true, if_false] | wp_step)
  exact hq

theorem port_new {rest : List Value} (X : (hd.heap_39 w.params).In h)
    (hq : R (.ok (.ret (.ref (h.objs.size + 1)))) ⟨(h.push { cls := .type "tuple", data := .seq rest.toArray }).push (freshExc h.objs.size), g, d, t, os⟩) (hrest : rest.length ≤ sizeLine) :
    codeAny (model prog w) A (.builtin "Exception.__new__" ⟨.ref 44 :: rest, []⟩) R ⟨h, g, d, t, os⟩ := by
  have F := PySem.F.excBase_Exception
  have hC := port_at X
  have hends := F.ends
  have hcB : (Value.ref 44 :: [Value.ref 31, .type "Exception", .type "BaseException", .type "object"]).contains (.type "Exception") = true := by decide
  have hcA : (Value.ref 44 :: [Value.ref 31, .type "Exception", .type "BaseException", .type "object"]).contains (.type "AttributeError") = false := by decide
  have hcN : (Value.ref 44 :: [Value.ref 31, .type "Exception", .type "BaseException", .type "object"]).contains (.type "NameError") = false := by decide
  refine codeAny_builtinAt F.entry ?_
  unfold Builtin.«BaseException.__new__»
  refine PySem.wpAt_bind ?_
  show PySem.wpAt _ _ _ (stack >>= _) _ _ _
  refine PySem.wpAt_bind (PySem.wpAt_stack fun p below => PySem.wpAt_of_wpAny ?_)
  wp_walk
  refine PySem.wpAt_of_wpAny ?_
  rw [F.owner]
  repeat (first | with_reducible refine wpAny_madeHere_exc F.canon hC ?_ | with_reducible refine wpAny_loadPart_at hC ?_ | (with_reducible refine wpAny_isSubtype_exc hC ?_; first | rw [hcB] | rw [hcA] | rw [hcN]) | wp_step)
  show R _ _
  rw [Heap.size_push]
  exact hq
end

set_option maxHeartbeats 4000000 in
theorem port_init {w : World} {A : Around} {R : Result → Shared → Prop} {s : Shared} {e tp : Addr} {m : Str} {tk : Tok}
    (X : (hd.heap_39 w.params).In s.heap) (hlim : s.heap.NoLimit) (he : s.heap.get? e = some (freshExc tp)) (hroom : A.depth < recursionLimit)
    (hq : ∀ h' tk dx, h'.get? e = some { freshExc tp with dict := some dx } → (∀ b o, b ≠ e → s.heap.get? b = some o → h'.get? b = some o) → R (.ok (.ret .none)) { s with heap := h', toks := tk }) :
    codeAny (model PySem.Challenge.pw_nu0119_01 w) A (.call (.ref 28) ⟨[.ref e, .str m tk], []⟩) R s := by
  k_dflt (refine' enter (K := Mine.hd.heap_39 w.params) (binds := [("self", .ref e), ("message", .str m tk)]) [e] X hlim ?k6 ?k7 ?k8 ?k9 ?kB ?_ ?c2 ?c3 ?c4 ?c5; (case k6 => k_is); (case k7 => k_is); (case k8 => exact hroom); (case k9 => exact BindsTo.of_eq rfl); (case c5 => decide); (case kB => exact locs rfl); (case c2 => exact rfl); (case c3 => exact rfl); (case c4 => exact rfl))
  intro h₁ F hk₁
  have X₁ := X.keeps hk₁
  have N : News (hideAll s.heap [e]) s.heap.objs.size h₁ [] := News.nil
  generalize hb : hideAll s.heap [e] = h₀ at *
  generalize hL : s.heap.objs.size = L at *
  obtain ⟨h, g, d, tks, os⟩ := s
  dsimp only at *
  (all_goals try k_fold)
  k_steps
  refine set_exc X₁ (hk₁ _ _ he) rfl rfl rfl ?_
  intro h' tk' dx h1 h2
  k_steps
  dsimp only
  exact hq h' _ dx h1 fun b o hbe eb => h2 b o hbe (hk₁ _ _ eb)
end Mine
end

section
open PySem PySem.W PySem.Calls PyProof.Rows PySem.Spec Builtin Builtin.ObjectAttr Builtin.Getset_descriptor
set_option maxRecDepth 100000
namespace Mine

/-- a new PortError: its object -/
noncomputable def PortMade (h h' : Heap) (e : Addr) : Prop := (∀ b o, h.get? b = some o → h'.get? b = some o) ∧ h.get? e = none ∧ ∃ tp dx, h'.get? e = some { freshExc tp with dict := some dx }

section
variable {w : World} {A : Around} {E : Value → Shared → Prop} {s : Shared}

theorem port_type_call {R : Result → Shared → Prop} {m : Str} {tk : Tok} (X : (hd.heap_39 w.params).In s.heap) (hlim : s.heap.NoLimit) (hroom : A.depth + 10 < recursionLimit)
    (hq : ∀ h' tk e, PortMade s.heap h' e → R (.ok (.ret (.ref e))) { s with heap := h', toks := tk }) :
    codeAny (model PySem.Challenge.pw_nu0119_01 w) A (.call (.ref 44) ⟨[.str m tk], []⟩) R s := by
  obtain ⟨h, g, d, t, os⟩ := s
  dsimp only at X hlim hq
  have hC := port_at X
  have f1 := tc_lookup
  have f2 := tc_bind (.ref 44)
  have hT : (⟨h, g, d, t, os⟩ : Shared).TypeIs (.ref 44) "type" := ⟨_, hC, rfl⟩
  refine codeAny_of_tree ?_
  show wpAny _ _ (callAny (.ref 44) _) _ _ _
  repeat (any_goals (first | assumption | with_reducible refine wpAny_loadPart_at hC ?_ | wp_step))
  refine ⟨rfl, ?_⟩
  refine codeAny_call_builtin_at (Code.quiet_builtin _ (by decide +kernel)) entry_typeCall (wpAny_check_type_call_sub hC ?_)
  repeat (first | with_reducible refine wpAny_loadPart_at hC ?_ | with_reducible refine wpAny_madeBy_exc hC ?_ | wp_step)
  refine codeAny_call_builtin_code (Code.quiet_builtin _ PySem.F.excBase_Exception.quiet) (port_check_new X ?_)
  refine port_new X ?_ (by simp [sizeLine_eq])
  show wpAny _ _ _ _ _ _
  have up : ∀ b o, h.get? b = some o → ((h.push { cls := .type "tuple", data := .seq [Value.str m tk].toArray }).push (freshExc h.objs.size)).get? b = some o := fun b o e => Heap.get?_push_of_some _ (Heap.get?_push_of_some _ e)
  have X₁ := X.keeps up
  have hC₁ := up _ _ hC
  have hget : ((h.push { cls := .type "tuple", data := .seq [Value.str m tk].toArray }).push (freshExc h.objs.size)).get? (h.objs.size + 1) = some (freshExc h.objs.size) := by heap_get
  have hcC : (Value.ref 44 :: [Value.ref 31, .type "Exception", .type "BaseException", .type "object"]).contains (.ref 44) = true := by decide
  have hnone : h.get? (h.objs.size + 1) = none := Heap.get?_none_of_le (Nat.le_succ _)
  change wpAny _ _ _ _ _ ⟨(h.push { cls := .type "tuple", data := .seq [Value.str m tk].toArray }).push (freshExc h.objs.size), g, d, t, os⟩
  generalize (h.push { cls := .type "tuple", data := .seq [Value.str m tk].toArray }).push (freshExc h.objs.size) = H at *
  generalize h.objs.size + 1 = e at *
  have hty : Looks (model PySem.Challenge.pw_nu0119_01 w) H (typeOf (.ref e)) (.ref 44) := (Looks.ld hget).andThen .now
  have s1 : Looks (model PySem.Challenge.pw_nu0119_01 w) H (isSubtype (.ref 44) (.ref 44)) true := looks_mroIn X₁ (by k_is)
  have i1 : Looks (model PySem.Challenge.pw_nu0119_01 w) H (typeLookup (.ref 44) "__init__") (some (.ref 28)) := looks_findIn X₁ (by k_is)
  have b1 : Looks (model PySem.Challenge.pw_nu0119_01 w) H (bindSpecial (.ref 28) (.ref e)) (.ref 28, [.ref e]) := bind_fn X₁ _ (by k_is)
  unfold isInstance callSpecial? specialOf
  repeat (first | with_reducible refine wpAny_call ?_ | lk)
  refine port_init X₁ (hlim.keeps up) hget ?_ ?_
  · have : (A.under (Code.builtin "type.__call__" ⟨[Value.ref 44] ++ [Value.str m tk], []⟩)).depth = A.depth + 1 := depth_under_make ..
    exact Nat.lt_of_le_of_lt (Nat.le_of_eq this) (by omega)
  · intro h' tk' dx h1 h2
    have hex : PortMade h h' e := ⟨fun b o eb => h2 b o (fun q => by rw [q, hnone] at eb; cases eb) (up b o eb), hnone, _, dx, h1⟩
    exact wpAny_pure (wpAny_pure (hq h' _ e hex))

/-- what a raise of a new PortError asks -/
noncomputable def RaiseP (w : World) (E : Value → Shared → Prop) (v : Value) (s₁ : Shared) : Prop := ∃ e tp dx, v = .ref e ∧ (hd.heap_39 w.params).In s₁.heap ∧ s₁.heap.get? e = some { freshExc tp with dict := some dx } ∧ E (.ref e) s₁

theorem raiseStmt_port {prog : Program} {env : Env} {x : Sem Value} {Q : Flow → Shared → Prop} (hh : A.handled = none) (h : wpAny (model prog w) A x (RaiseP w E) E s) :
    wpAny (model prog w) A (raiseStmt env (some x) none) Q E s := by
  have hcB : (Value.ref 44 :: [Value.ref 31, .type "Exception", .type "BaseException", .type "object"]).contains (.type "BaseException") = true := by decide
  unfold raiseStmt
  refine wpAny_bind (wpAny_mono h (fun v s₁ h₁ => ?_) fun _ _ x => x)
  obtain ⟨e, tp, dx, rfl, X, he, hE⟩ := h₁
  have hC := port_at X
  obtain ⟨hp, g, d, tk, os⟩ := s₁
  repeat (first | with_reducible refine wpAny_loadPart_at he ?_ | with_reducible refine wpAny_loadPart_at hC ?_ | (with_reducible refine wpAny_isSubtype_exc hC ?_; rw [hcB]) | wp_step)
  exact wpAny_raiseNew_none hh hE

theorem Raise_port {prog : Program} {env : Env} {ex : PySem.Expr} {pos : Pos} {Q : Flow → Shared → Prop} (hh : A.handled = none) (h : wpAny (model prog w) A (eval ex env) (RaiseP w E) E s) :
    wpAny (model prog w) A (exec (.Raise (some ex) none pos) env) Q E s := by
  rw [arm_exec_Raise]
  exact wpAny_bind (wpAny_standAt (raiseStmt_port hh (wpAny_bind (wpAny_mono h (fun v s₁ h₁ => wpAny_bind (wpAny_standAt (wpAny_pure h₁))) fun _ _ e => e))))
end
end Mine
end

section
open PySem PySem.W PySem.Calls PyProof.Rows PySem.Spec
set_option maxRecDepth 100000
namespace Mine

noncomputable def framesOf (l : List Env) : List Addr := l.filterMap (·.frame)
theorem mem_framesOf {l : List Env} {env : Env} {L : Addr} (h : env ∈ l) (e : env.frame = some L) : L ∈ framesOf l := List.mem_filterMap.mpr ⟨env, h, e⟩
theorem funFrames_re {h h' base base' : Heap} : ∀ {l : List Env}, h.FunFrames base l → (∀ env ∈ l, ∀ L, env.frame = some L → base'.get? L = none) → (∀ b o, h.get? b = some o → (∀ vs, o.data ≠ .fields vs) → ∃ o', h'.get? b = some o' ∧ o'.data = o.data) → h'.FunFrames base' l
  | [], _, _, _ => trivial
  | env :: l, ⟨hk, ⟨L, o, hf, hn, ho, hd⟩, r⟩, hb, k => by
    obtain ⟨o', ho', hd'⟩ := k L o ho hd
    exact ⟨hk, ⟨L, o', hf, hb env (.head _) L hf, ho', by rw [hd']; exact hd⟩, funFrames_re r (fun e he => hb e (.tail _ he)) k⟩

/-- a PortError on its way through the frames of outer, all else of h standing -/
noncomputable def PortFly (h : Heap) (outer : List Env) (h' : Heap) (e : Addr) : Prop := (∃ a0, Heap.FlyingW (hideAll h (framesOf outer)) outer e (.ref 44) a0 h') ∧ h.UpToSlots h'

/-- the frame that raised is left -/
theorem leave_port {w : World} {M : Model} {dp un : Nat} {outer : List Env} {gd : Option (List Code)} {s s₁ : Shared} {H h₂ : Heap} {name : Str} {scope : Scope} {L a e : Addr} {cd : Value} {m : Str → Option Value} {hb : Heap} {Q : Unit → Shared → Prop} {E : Value → Shared → Prop}
    (hFF : s.heap.FunFrames H outer) (hL : L = s.heap.objs.size) (F : Fr hb L h₂ m) (hall : ∀ b o, s.heap.get? b = some o → h₂.get? b = some o) (hm : PortMade h₂ s₁.heap e)
    (hq : ∀ h', PortFly s.heap outer h' e → Q () { s₁ with heap := h' }) (hk : scope.kind = .function := by rfl) :
    wpAny M ((⟨none, dp, some outer, gd, un⟩ : Around).deeper (envOf name scope L a cd)) (leaving (envOf name scope L a cd) (.ref e)) Q E s₁ := by
  obtain ⟨k1, hnew, tp, dx, he⟩ := hm
  have kall : ∀ b o, s.heap.get? b = some o → s₁.heap.get? b = some o := fun b o q => k1 b o (hall b o q)
  have hsn : s.heap.get? e = none := by
    cases q : s.heap.get? e with
    | none => rfl
    | some o => have := hall _ _ q; rw [hnew] at this; cases this
  have hbn : ∀ {b}, s.heap.get? b = none → (hideAll s.heap (framesOf outer)).get? b = none := fun {b} q => by
    cases q2 : (hideAll s.heap (framesOf outer)).get? b with
    | none => rfl
    | some o => have := of_hideAll _ q2; rw [q] at this; cases this
  have hLn : s.heap.get? L = none := by
    cases q : s.heap.get? L with
    | none => rfl
    | some o => exact absurd (Heap.lt_size q) (hL ▸ Nat.lt_irrefl _)
  obtain ⟨oL, es, ep, hoL, hdL, -, -⟩ := F.ns
  have hl : s₁.heap.FunFrames (hideAll s.heap (framesOf outer)) (envOf name scope L a cd :: outer) := by
    refine ⟨by show scope.kind ≠ .module; rw [hk]; decide, ⟨L, oL, rfl, hbn hLn, k1 _ _ hoL, fun vs q => by rw [hdL] at q; cases q⟩, ?_⟩
    exact funFrames_re hFF (fun env he L hf => hideAll_none _ (mem_framesOf he hf)) fun b o q _ => ⟨o, kall b o q, rfl⟩
  refine wpAny_leaving_firstW (base := hideAll s.heap (framesOf outer)) rfl hl rfl he (fun b o q => kall b o (of_hideAll _ q)) (hbn hsn) rfl rfl rfl fun h' hLW => ?_
  obtain ⟨l1, ⟨-, -, l2⟩, l3, l4⟩ := hLW
  exact hq h' ⟨⟨_, l1, hbn hsn, l2, l3⟩, (Heap.UpToSlots.of_keeps kall).trans l4⟩

theorem low_none {H h₀ : Heap} {a : Addr} (hk : ∀ x o, H.get? x = some o → h₀.get? x = some o) (e : h₀.get? a = none) : H.get? a = none := by
  cases q : H.get? a with
  | none => rfl
  | some o => rw [hk _ _ q] at e; cases e
theorem lst_obj {prog : Program} {w : World} {h : Heap} {D : Addr} {ll : List (P2 × Int)} (c : LstAt prog w h D ll) : ∃ o, h.get? D = some o ∧ o.ExactDict := by
  obtain ⟨xs, ⟨o, es, ep, ho, hc, -⟩, -⟩ := c
  exact ⟨o, ho, hc⟩
theorem con_obj {prog : Program} {w : World} {H h : Heap} {D : Addr} {ll : List ((P2 × P2) × Int)} (c : ConAt prog w H h D ll) : ∃ o, h.get? D = some o ∧ o.ExactDict := by
  obtain ⟨xs, ⟨o, es, ep, ho, hc, -⟩, -⟩ := c
  exact ⟨o, ho, hc⟩
theorem unhide3 {h h₀ h' : Heap} {L X Y Z : Addr} {m : Str → Option Value} {oX oY oZ : Obj} {news : List (Addr × Obj)} (hx : h.get? X = some oX) (hy : h.get? Y = some oY) (hz : h.get? Z = some oZ) (e : h₀ = hideAll h [X, Y, Z]) (F : Fr h₀ L h' m) (N : News h₀ L h' news)
    (mx : (X, oX) ∈ news) (my : (Y, oY) ∈ news) (mz : (Z, oZ) ∈ news) : ∀ x o, h.get? x = some o → h'.get? x = some o := by
  intro x o q
  by_cases e1 : x = X
  · subst e1; rw [hx] at q; cases q; exact N.get mx
  by_cases e2 : x = Y
  · subst e2; rw [hy] at q; cases q; exact N.get my
  by_cases e3 : x = Z
  · subst e3; rw [hz] at q; cases q; exact N.get mz
  · exact F.keep x o (e ▸ hideAll_get _ q (by simp [e1, e2, e3]))

theorem LstAt.add {w : World} {A : Around} {E : Value → Shared → Prop} {s : Shared} {D a : Addr} {ll : List (P2 × Int)} {k : P2} {o : Int} {t : Tok} {Q : Unit → Shared → Prop} (hu : A.units + 4 < cLine) (c : LstAt PySem.Challenge.pw_nu0119_01 w s.heap D ll)
    (r : Rd s.heap (.ref a) (ptD k)) (hn : look ll k = none) (hsz : ll.length ≤ 1000)
    (hq : ∀ h', LstAt PySem.Challenge.pw_nu0119_01 w h' D (ll ++ [(k, o)]) → Heap.SameBut D s.heap h' → Q () { s with heap := h', toks := s.toks + 3 }) :
    wpAny (model PySem.Challenge.pw_nu0119_01 w) A (setItem (.ref D) (.ref a) (.int o t)) Q E s := by
  obtain ⟨xs, hd, v, l⟩ := c
  have z := v.lk k
  rw [hn] at z
  refine wpAny_setItem_heap (knd := ptKind PySem.Challenge.pw_nu0119_01 w) (hsz := by rw [v.length, sizeLine_eq]; omega) hu r hd fun h' hd' hs => hq h' ⟨_, hd', ?_, l⟩ hs
  rw [storedH_new z]
  exact v.append (.cons .nil)
theorem ConAt.add {w : World} {H : Heap} {A : Around} {E : Value → Shared → Prop} {s : Shared} {D a : Addr} {ll : List ((P2 × P2) × Int)} {k : P2 × P2} {o : Int} {t : Tok} {Q : Unit → Shared → Prop} (hu : A.units + 4 < cLine) (c : ConAt PySem.Challenge.pw_nu0119_01 w H s.heap D ll)
    (r : Rd s.heap (.ref a) (keyD k)) (hn : look ll k = none) (hsz : ll.length ≤ 1000) (hfr : H.get? a = none)
    (hq : ∀ h', ConAt PySem.Challenge.pw_nu0119_01 w H h' D (ll ++ [(k, o)]) → Heap.SameBut D s.heap h' → Q () { s with heap := h', toks := s.toks + 7 }) :
    wpAny (model PySem.Challenge.pw_nu0119_01 w) A (setItem (.ref D) (.ref a) (.int o t)) Q E s := by
  obtain ⟨xs, hd, v, l, fr⟩ := c
  have z := v.lk k
  rw [hn] at z
  refine wpAny_setItem_heap (knd := pairKind PySem.Challenge.pw_nu0119_01 w) (hsz := by rw [v.length, sizeLine_eq]; omega) hu r hd fun h' hd' hs => hq h' ⟨_, hd', ?_, l, ?_⟩ hs
  · rw [storedH_new z]
    exact v.append (.cons .nil)
  · rw [storedH_new z]
    intro x hx
    rcases List.mem_append.mp hx with hx | hx
    · exact fr x hx
    · rw [List.mem_singleton.mp hx]; exact hfr
theorem in_lst {w : World} {A : Around} {E : Value → Shared → Prop} {s : Shared} {D a : Addr} {ll : List (P2 × Int)} {k : P2} {Q : Value → Shared → Prop} (hu : A.units + 4 < cLine) (c : LstAt PySem.Challenge.pw_nu0119_01 w s.heap D ll)
    (r : Rd s.heap (.ref a) (ptD k)) (h : Q (.bool (look ll k).isSome) { s with toks := s.toks + 3 }) : wpAny (model PySem.Challenge.pw_nu0119_01 w) A (compareOp .In (.ref a) (.ref D)) Q E s := by
  obtain ⟨xs, hd, v, l⟩ := c
  refine wpAny_in_heap (knd := ptKind PySem.Challenge.pw_nu0119_01 w) hu r l hd ?_
  have z := v.lk k
  cases e : look ll k with
  | none => rw [e] at z h; rw [z]; exact h
  | some o => rw [e] at z h; obtain ⟨b, t, z⟩ := z; rw [z]; exact h
theorem in_con {w : World} {H : Heap} {A : Around} {E : Value → Shared → Prop} {s : Shared} {D a : Addr} {ll : List ((P2 × P2) × Int)} {k : P2 × P2} {Q : Value → Shared → Prop} (hu : A.units + 4 < cLine) (c : ConAt PySem.Challenge.pw_nu0119_01 w H s.heap D ll)
    (r : Rd s.heap (.ref a) (keyD k)) (h : Q (.bool (look ll k).isSome) { s with toks := s.toks + 7 }) : wpAny (model PySem.Challenge.pw_nu0119_01 w) A (compareOp .In (.ref a) (.ref D)) Q E s := by
  obtain ⟨xs, hd, v, l, -⟩ := c
  refine wpAny_in_heap (knd := pairKind PySem.Challenge.pw_nu0119_01 w) hu r l hd ?_
  have z := v.lk k
  cases e : look ll k with
  | none => rw [e] at z h; rw [z]; exact h
  | some o => rw [e] at z h; obtain ⟨b, t, z⟩ := z; rw [z]; exact h

theorem port_call {w : World} {dp un : Nat} {fr : Option (List Env)} {gd : Option (List Code)} {Q E : Value → Shared → Prop} {s : Shared} {h₀ : Heap} {L : Addr} {m0 : Str → Option Value} {m : Str} {tk : Tok}
    (F : Fr h₀ L s.heap m0) (W : Wld w h₀) (hdp : dp < 400)
    (h : ∀ h' tk e, PortMade s.heap h' e → Q (.ref e) { s with heap := h', toks := tk }) :
    wpAny (model PySem.Challenge.pw_nu0119_01 w) ⟨none, dp, fr, gd, un⟩ (call (.ref 44) [.str m tk]) Q E s := by
  obtain ⟨loose, mean, mg, mb, T⟩ := W.T
  exact wpAny_call (port_type_call (W.K.keeps F.keep) (T.keeps F.keep).nolimit (by show dp + 10 < 1000; omega) h)

local macro_rules | `(tactic| walk_at "exec Raise some none") => `(tactic| (k_here; k_dflt (refine Raise_port (w := _) (by exact rfl) ?_)))
namespace ListenZ
noncomputable def P (w : World) (dp : Nat) (un : Nat) (outer : List Env) (gd : Option (List Code)) (R : Result → Shared → Prop) (s : Shared) (H : Heap) (X : Addr) (DX : Addr) (C : Addr) (D : Addr) (cl : List ((P2 × P2) × Int)) (ll : List (P2 × Int)) (a : Int) (p : Int) (ow : Int) (t1 : Tok) (t2 : Tok) (t3 : Tok) (u1 : Tok) (u2 : Tok) (un' : Nat) (oD : Obj) : Prop := (Wld w H) → (∀ x o, H.get? x = some o → s.heap.get? x = some o) → (H.get? X = none) → (H.get? DX = none) → (H.get? D = none) → (s.heap.FunFrames H outer) → (TabIs w H s.heap X DX C D cl ll) → (ll.length ≤ 1000) → (dp < 390) → (un < 390) → (look ll (a, p) = none → ∀ h' tk, (∀ x o, x ≠ D → s.heap.get? x = some o → h'.get? x = some o) → LstAt PySem.Challenge.pw_nu0119_01 w h' D (ll ++ [((a, p), ow)]) → R (.ok (.ret .none)) { s with heap := h', toks := tk }) → (look ll (a, p) ≠ none → ∀ h' tk e, PortFly s.heap outer h' e → R (.error (.ref e)) { s with heap := h', toks := tk }) → (s.heap.get? DX = some (dictOf [⟨PyData.keyHash w.params "connections", .str "connections" u1, .ref C⟩, ⟨PyData.keyHash w.params "listeners", .str "listeners" u2, .ref D⟩] un')) → (s.heap.get? D = some oD) → (oD.ExactDict) →
    codeAny (model PySem.Challenge.pw_nu0119_01 w) ⟨none, dp, some outer, gd, un⟩ (.call (.ref 67) ⟨[.ref X, .int a t1, .int p t2, .int ow t3], []⟩) R s
noncomputable def PC (c : Zx) : Prop := P c.w c.k0 c.k1 c.ou c.gd c.R c.s c.H c.A0 c.A1 c.A2 c.A3 c.cl c.ll c.i0 c.i1 c.i2 c.t0 c.t1 c.t2 c.t3 c.t4 c.k2 c.o0
noncomputable def cx : Zx := @Classical.epsilon Zx ⟨zx₀⟩ fun c => ¬ PC c
@[irreducible] noncomputable def w : World := cx.w
@[irreducible] noncomputable def dp : Nat := cx.k0
@[irreducible] noncomputable def un : Nat := cx.k1
@[irreducible] noncomputable def outer : List Env := cx.ou
@[irreducible] noncomputable def gd : Option (List Code) := cx.gd
@[irreducible] noncomputable def R : Result → Shared → Prop := cx.R
@[irreducible] noncomputable def hZ : Heap := cx.s.heap
@[irreducible] noncomputable def sg : Array GenState := cx.s.gens
@[irreducible] noncomputable def sd : Drawn := cx.s.drawn
@[irreducible] noncomputable def st : Nat := cx.s.toks
@[irreducible] noncomputable def so : OsState := cx.s.os
@[irreducible] noncomputable def H : Heap := cx.H
@[irreducible] noncomputable def X : Addr := cx.A0
@[irreducible] noncomputable def DX : Addr := cx.A1
@[irreducible] noncomputable def C : Addr := cx.A2
@[irreducible] noncomputable def D : Addr := cx.A3
@[irreducible] noncomputable def cl : List ((P2 × P2) × Int) := cx.cl
@[irreducible] noncomputable def ll : List (P2 × Int) := cx.ll
@[irreducible] noncomputable def a : Int := cx.i0
@[irreducible] noncomputable def p : Int := cx.i1
@[irreducible] noncomputable def ow : Int := cx.i2
@[irreducible] noncomputable def t1 : Tok := cx.t0
@[irreducible] noncomputable def t2 : Tok := cx.t1
@[irreducible] noncomputable def t3 : Tok := cx.t2
@[irreducible] noncomputable def u1 : Tok := cx.t3
@[irreducible] noncomputable def u2 : Tok := cx.t4
@[irreducible] noncomputable def un' : Nat := cx.k2
@[irreducible] noncomputable def oD : Obj := cx.o0
@[irreducible] noncomputable def L : Addr := hZ.objs.size
theorem L_eq : hZ.objs.size = L := by delta L; rfl
theorem lt_L {x : Addr} {o : Obj} (h : hZ.get? x = some o) : x < L := L_eq ▸ Heap.lt_size h
@[irreducible] noncomputable def h₀ : Heap := hideAll hZ [X, DX, D]
theorem h₀_eq : hideAll hZ [X, DX, D] = h₀ := by delta h₀; rfl
set_option maxHeartbeats 4000000 in
theorem core (W : Wld w H) (hk : ∀ x o, H.get? x = some o → hZ.get? x = some o) (hXH : H.get? X = none) (hDH : H.get? DX = none) (hLH : H.get? D = none) (hFF : hZ.FunFrames H outer) (tb : TabIs w H hZ X DX C D cl ll) (hll : ll.length ≤ 1000) (hdp : dp < 390) (hun : un < 390) (hok : look ll (a, p) = none → ∀ h' tk, (∀ x o, x ≠ D → hZ.get? x = some o → h'.get? x = some o) → LstAt PySem.Challenge.pw_nu0119_01 w h' D (ll ++ [((a, p), ow)]) → R (.ok (.ret .none)) ⟨h', sg, sd, tk, so⟩) (hex : look ll (a, p) ≠ none → ∀ h' tk e, PortFly hZ outer h' e → R (.error (.ref e)) ⟨h', sg, sd, tk, so⟩) (hDX : hZ.get? DX = some (dictOf [⟨PyData.keyHash w.params "connections", .str "connections" u1, .ref C⟩, ⟨PyData.keyHash w.params "listeners", .str "listeners" u2, .ref D⟩] un')) (hoD : hZ.get? D = some oD) (hcD : oD.ExactDict) :
    codeAny (model PySem.Challenge.pw_nu0119_01 w) ⟨none, dp, some outer, gd, un⟩ (.call (.ref 67) ⟨[.ref X, .int a t1, .int p t2, .int ow t3], []⟩) R ⟨hZ, sg, sd, st, so⟩ := by
  obtain ⟨loose, mean, mg, mb, T⟩ := W.T
  have hX := tb.x
  have hD := tb.lst
  have hDDX := tb.ne.2.2
  clear tb
  have hXDX : X ≠ DX := by intro q; rw [← q, hX] at hDX; cases hDX
  have hDX' : D ≠ X := by intro q; rw [q, hX] at hoD; have q2 := Option.some.inj hoD; rw [← q2] at hcD; exact absurd hcD.1 (by simp)
  have hk' : ∀ x o, H.get? x = some o → h₀.get? x = some o := fun x o e => h₀_eq ▸ hideAll_get _ (hk x o e) (by
    intro q
    rcases List.mem_cons.mp q with q | q
    · rw [q, hXH] at e; cases e
    rcases List.mem_cons.mp q with q | q
    · rw [q, hDH] at e; cases e
    · rw [List.mem_singleton.mp q, hLH] at e; cases e)
  have kt : KeepT hZ h₀ := fun b o e c => h₀_eq ▸ hideAll_get _ e (by
    intro q
    rcases List.mem_cons.mp q with rfl | q
    · rw [hX] at e; cases e; exact absurd c.1 (by simp)
    rcases List.mem_cons.mp q with rfl | q
    · rw [hDX] at e; cases e; exact absurd c.1 (by simp)
    · rw [List.mem_singleton.mp q, hoD] at e; cases e; exact absurd c.1 (by rw [hcD.1]; simp))
  have W' := W.keeps hk'
  have X' := W.K.keeps hk'
  have T' := T.keeps hk'
  k_dflt (refine' enterY (K := Mine.hd.heap_39 w.params) (binds := [("self", .ref X), ("address", .int a t1), ("port", .int p t2), ("owner", .int ow t3)]) [X, DX, D] L_eq h₀_eq (W.K.keeps hk) (T.keeps hk).nolimit ?k6 ?k7 ?k8 ?k9 ?kB ?_ ?c2 ?c3 ?c4 ?c5; (case k6 => k_is); (case k7 => k_is); (case k8 => (dsimp only; rw [show recursionLimit = 1000 from rfl]; omega)); (case k9 => exact BindsTo.of_eq rfl); (case c5 => decide); (case kB => exact locs rfl); (case c2 => exact rfl); (case c3 => exact rfl); (case c4 => exact rfl))
  intro h₁ F hk₁
  have N : News h₀ L h₁ [(X, instObj 99 DX), (DX, dictOf [⟨PyData.keyHash w.params "connections", .str "connections" u1, .ref C⟩, ⟨PyData.keyHash w.params "listeners", .str "listeners" u2, .ref D⟩] un'), (D, oD)] := by
    intro p hp
    rcases List.mem_cons.mp hp with rfl | hp
    · exact ⟨hk₁ _ _ hX, Nat.ne_of_lt (lt_L hX), h₀_eq ▸ hideAll_none _ (.head _)⟩
    rcases List.mem_cons.mp hp with rfl | hp
    · exact ⟨hk₁ _ _ hDX, Nat.ne_of_lt (lt_L hDX), h₀_eq ▸ hideAll_none _ (.tail _ (.head _))⟩
    · rw [List.mem_singleton.mp hp]
      exact ⟨hk₁ _ _ hoD, Nat.ne_of_lt (lt_L hoD), h₀_eq ▸ hideAll_none _ (.tail _ (.tail _ (.head _)))⟩
  have hend : ∀ {h' : Heap} {m news}, Fr h₀ L h' m → News h₀ L h' news → _ → _ → _ → ∀ x o, hZ.get? x = some o → h'.get? x = some o :=
    fun F N mx my mz => unhide3 hX hDX hoD h₀_eq.symm F N mx my mz
  have hat : ∀ {h' : Heap} {m news}, Fr h₀ L h' m → News h₀ L h' news → (D, oD) ∈ news → LstAt PySem.Challenge.pw_nu0119_01 w h' D ll :=
    fun F N mz => hD.keep (fun b o e t => F.keep b o (kt b o e t)) fun o e => by rw [hoD] at e; cases e; exact N.get mz
  try dsimp only at *
  clear hk hk₁
  (all_goals try k_fold)
  k_steps
  refine in_lst (by simp only [units_deeper, cLine]; omega) (hat (by assumption) (by assumption) (by k_mem)) (rdNpt (by assumption) (by k_mem)) ?_
  cases e : look ll (a, p) with
  | some o =>
    have e' : look ll (a, p) ≠ none := by rw [e]; exact fun q => nomatch q
    rw [Option.isSome_some]
    k_steps
    refine port_call (by assumption) W' (by show _ < 400; dsimp only; omega) ?_
    intro hp tk₂ e₂ pm
    refine ⟨e₂, pm.2.2.choose, pm.2.2.choose_spec.choose, rfl, (X'.keeps (Fr.keep (by assumption))).keeps pm.1, pm.2.2.choose_spec.choose_spec, ?_⟩
    refine leave_port (w := w) (s := ⟨hZ, sg, sd, st, so⟩) hFF L_eq.symm (by assumption) (hend (by assumption) (by assumption) (by k_mem) (by k_mem) (by k_mem)) pm ?_
    intro h' hf
    exact hex e' _ _ _ hf
  | none =>
    rw [Option.isSome_none]
    k_steps
    refine LstAt.add (by simp only [units_deeper, cLine]; omega) (hat (by assumption) (by assumption) (by k_mem)) (rdNpt (by assumption) (by k_mem)) e hll ?_
    intro h' c' hs
    have hx := hend (by assumption) (by assumption) (by k_mem) (by k_mem) (by k_mem)
    k_steps
    try dsimp only
    exact hok e _ _ (fun x o q e => (hs.2 x q).trans (hx x o e)) c'
theorem fin : PC cx := by with_unfolding_all exact core
end ListenZ
theorem listen_spec {w : World} {dp un : Nat} {outer : List Env} {gd : Option (List Code)} {R : Result → Shared → Prop} {s : Shared} {H : Heap} {X DX C D : Addr} {cl : List ((P2 × P2) × Int)} {ll : List (P2 × Int)} {a p ow : Int} {t1 t2 t3 : Tok}
    (W : Wld w H) (hk : ∀ x o, H.get? x = some o → s.heap.get? x = some o) (hXH : H.get? X = none) (hDH : H.get? DX = none) (hLH : H.get? D = none)
    (hFF : s.heap.FunFrames H outer)
    (tb : TabIs w H s.heap X DX C D cl ll) (hll : ll.length ≤ 1000) (hdp : dp < 390) (hun : un < 390)
    (hok : look ll (a, p) = none → ∀ h' tk, (∀ x o, x ≠ D → s.heap.get? x = some o → h'.get? x = some o) → LstAt PySem.Challenge.pw_nu0119_01 w h' D (ll ++ [((a, p), ow)]) → R (.ok (.ret .none)) { s with heap := h', toks := tk })
    (hex : look ll (a, p) ≠ none → ∀ h' tk e, PortFly s.heap outer h' e → R (.error (.ref e)) { s with heap := h', toks := tk }) :
    codeAny (model PySem.Challenge.pw_nu0119_01 w) ⟨none, dp, some outer, gd, un⟩ (.call (.ref 67) ⟨[.ref X, .int a t1, .int p t2, .int ow t3], []⟩) R s := by
  obtain ⟨_, hDX, u1, u2, un', rfl⟩ := tb.2; obtain ⟨oD, hoD, hcD⟩ := lst_obj tb.lst
  exact
  zxAll (P := ListenZ.PC) ListenZ.fin { zx₀ with w := w, k0 := dp, k1 := un, ou := outer, gd := gd, R := R, s := s, H := H, A0 := X, A1 := DX, A2 := C, A3 := D, cl := cl, ll := ll, i0 := a, i1 := p, i2 := ow, t0 := t1, t1 := t2, t2 := t3, t3 := u1, t4 := u2, k2 := un', o0 := oD } W hk hXH hDH hLH hFF tb hll hdp hun hok hex hDX hoD hcD
namespace ConnectZ
noncomputable def P (w : World) (dp : Nat) (un : Nat) (outer : List Env) (gd : Option (List Code)) (R : Result → Shared → Prop) (s : Shared) (H : Heap) (X : Addr) (DX : Addr) (C : Addr) (D : Addr) (cl : List ((P2 × P2) × Int)) (ll : List (P2 × Int)) (al : Addr) (ar : Addr) (lo : P2) (re : P2) (ow : Int) (t3 : Tok) (u1 : Tok) (u2 : Tok) (un' : Nat) (oD : Obj) : Prop := (Wld w H) → (∀ x o, H.get? x = some o → s.heap.get? x = some o) → (H.get? X = none) → (H.get? DX = none) → (H.get? C = none) → (Rd s.heap (.ref al) (ptD lo)) → (Rd s.heap (.ref ar) (ptD re)) → (s.heap.FunFrames H outer) → (TabIs w H s.heap X DX C D cl ll) → (cl.length ≤ 1000) → (dp < 390) → (un < 390) → (look cl (lo, re) = none → ∀ h' tk, (∀ x o, x ≠ C → s.heap.get? x = some o → h'.get? x = some o) → ConAt PySem.Challenge.pw_nu0119_01 w H h' C (cl ++ [((lo, re), ow)]) → R (.ok (.ret .none)) { s with heap := h', toks := tk }) → (look cl (lo, re) ≠ none → ∀ h' tk e, PortFly s.heap outer h' e → R (.error (.ref e)) { s with heap := h', toks := tk }) → (s.heap.get? DX = some (dictOf [⟨PyData.keyHash w.params "connections", .str "connections" u1, .ref C⟩, ⟨PyData.keyHash w.params "listeners", .str "listeners" u2, .ref D⟩] un')) → (s.heap.get? C = some oD) → (oD.ExactDict) →
    codeAny (model PySem.Challenge.pw_nu0119_01 w) ⟨none, dp, some outer, gd, un⟩ (.call (.ref 74) ⟨[.ref X, .ref al, .ref ar, .int ow t3], []⟩) R s
noncomputable def PC (c : Zx) : Prop := P c.w c.k0 c.k1 c.ou c.gd c.R c.s c.H c.A0 c.A1 c.A2 c.A3 c.cl c.ll c.A4 c.A5 c.p0 c.p1 c.i0 c.t0 c.t1 c.t2 c.k2 c.o0
noncomputable def cx : Zx := @Classical.epsilon Zx ⟨zx₀⟩ fun c => ¬ PC c
@[irreducible] noncomputable def w : World := cx.w
@[irreducible] noncomputable def dp : Nat := cx.k0
@[irreducible] noncomputable def un : Nat := cx.k1
@[irreducible] noncomputable def outer : List Env := cx.ou
@[irreducible] noncomputable def gd : Option (List Code) := cx.gd
@[irreducible] noncomputable def R : Result → Shared → Prop := cx.R
@[irreducible] noncomputable def hZ : Heap := cx.s.heap
@[irreducible] noncomputable def sg : Array GenState := cx.s.gens
@[irreducible] noncomputable def sd : Drawn := cx.s.drawn
@[irreducible] noncomputable def st : Nat := cx.s.toks
@[irreducible] noncomputable def so : OsState := cx.s.os
@[irreducible] noncomputable def H : Heap := cx.H
@[irreducible] noncomputable def X : Addr := cx.A0
@[irreducible] noncomputable def DX : Addr := cx.A1
@[irreducible] noncomputable def C : Addr := cx.A2
@[irreducible] noncomputable def D : Addr := cx.A3
@[irreducible] noncomputable def cl : List ((P2 × P2) × Int) := cx.cl
@[irreducible] noncomputable def ll : List (P2 × Int) := cx.ll
@[irreducible] noncomputable def al : Addr := cx.A4
@[irreducible] noncomputable def ar : Addr := cx.A5
@[irreducible] noncomputable def lo : P2 := cx.p0
@[irreducible] noncomputable def re : P2 := cx.p1
@[irreducible] noncomputable def ow : Int := cx.i0
@[irreducible] noncomputable def t3 : Tok := cx.t0
@[irreducible] noncomputable def u1 : Tok := cx.t1
@[irreducible] noncomputable def u2 : Tok := cx.t2
@[irreducible] noncomputable def un' : Nat := cx.k2
@[irreducible] noncomputable def oD : Obj := cx.o0
@[irreducible] noncomputable def L : Addr := hZ.objs.size
theorem L_eq : hZ.objs.size = L := by delta L; rfl
theorem lt_L {x : Addr} {o : Obj} (h : hZ.get? x = some o) : x < L := L_eq ▸ Heap.lt_size h
@[irreducible] noncomputable def h₀ : Heap := hideAll hZ [X, DX, C]
theorem h₀_eq : hideAll hZ [X, DX, C] = h₀ := by delta h₀; rfl
set_option maxHeartbeats 4000000 in
theorem core (W : Wld w H) (hk : ∀ x o, H.get? x = some o → hZ.get? x = some o) (hXH : H.get? X = none) (hDH : H.get? DX = none) (hLH : H.get? C = none) (rl : Rd hZ (.ref al) (ptD lo)) (rr : Rd hZ (.ref ar) (ptD re)) (hFF : hZ.FunFrames H outer) (tb : TabIs w H hZ X DX C D cl ll) (hcl : cl.length ≤ 1000) (hdp : dp < 390) (hun : un < 390) (hok : look cl (lo, re) = none → ∀ h' tk, (∀ x o, x ≠ C → hZ.get? x = some o → h'.get? x = some o) → ConAt PySem.Challenge.pw_nu0119_01 w H h' C (cl ++ [((lo, re), ow)]) → R (.ok (.ret .none)) ⟨h', sg, sd, tk, so⟩) (hex : look cl (lo, re) ≠ none → ∀ h' tk e, PortFly hZ outer h' e → R (.error (.ref e)) ⟨h', sg, sd, tk, so⟩) (hDX : hZ.get? DX = some (dictOf [⟨PyData.keyHash w.params "connections", .str "connections" u1, .ref C⟩, ⟨PyData.keyHash w.params "listeners", .str "listeners" u2, .ref D⟩] un')) (hoD : hZ.get? C = some oD) (hcD : oD.ExactDict) :
    codeAny (model PySem.Challenge.pw_nu0119_01 w) ⟨none, dp, some outer, gd, un⟩ (.call (.ref 74) ⟨[.ref X, .ref al, .ref ar, .int ow t3], []⟩) R ⟨hZ, sg, sd, st, so⟩ := by
  obtain ⟨loose, mean, mg, mb, T⟩ := W.T
  have hX := tb.x
  have hC := tb.con
  have hDDX := tb.ne.2.1
  clear tb
  have hXDX : X ≠ DX := by intro q; rw [← q, hX] at hDX; cases hDX
  have hDX' : C ≠ X := by intro q; rw [q, hX] at hoD; have q2 := Option.some.inj hoD; rw [← q2] at hcD; exact absurd hcD.1 (by simp)
  have hk' : ∀ x o, H.get? x = some o → h₀.get? x = some o := fun x o e => h₀_eq ▸ hideAll_get _ (hk x o e) (by
    intro q
    rcases List.mem_cons.mp q with q | q
    · rw [q, hXH] at e; cases e
    rcases List.mem_cons.mp q with q | q
    · rw [q, hDH] at e; cases e
    · rw [List.mem_singleton.mp q, hLH] at e; cases e)
  have kt : KeepT hZ h₀ := fun b o e c => h₀_eq ▸ hideAll_get _ e (by
    intro q
    rcases List.mem_cons.mp q with rfl | q
    · rw [hX] at e; cases e; exact absurd c.1 (by simp)
    rcases List.mem_cons.mp q with rfl | q
    · rw [hDX] at e; cases e; exact absurd c.1 (by simp)
    · rw [List.mem_singleton.mp q, hoD] at e; cases e; exact absurd c.1 (by rw [hcD.1]; simp))
  have W' := W.keeps hk'
  have rl' := rdPt_keep kt rl
  have rr' := rdPt_keep kt rr
  obtain ⟨_, tl1, tl2, q, hTl⟩ := pt_inv rl'
  cases q
  obtain ⟨_, tr1, tr2, q, hTr⟩ := pt_inv rr'
  cases q
  have X' := W.K.keeps hk'
  have T' := T.keeps hk'
  k_dflt (refine' enterY (K := Mine.hd.heap_39 w.params) (binds := [("self", .ref X), ("local", .ref al), ("remote", .ref ar), ("owner", .int ow t3)]) [X, DX, C] L_eq h₀_eq (W.K.keeps hk) (T.keeps hk).nolimit ?k6 ?k7 ?k8 ?k9 ?kB ?_ ?c2 ?c3 ?c4 ?c5; (case k6 => k_is); (case k7 => k_is); (case k8 => (dsimp only; rw [show recursionLimit = 1000 from rfl]; omega)); (case k9 => exact BindsTo.of_eq rfl); (case c5 => decide); (case kB => exact locs rfl); (case c2 => exact rfl); (case c3 => exact rfl); (case c4 => exact rfl))
  intro h₁ F hk₁
  have N : News h₀ L h₁ [(X, instObj 99 DX), (DX, dictOf [⟨PyData.keyHash w.params "connections", .str "connections" u1, .ref C⟩, ⟨PyData.keyHash w.params "listeners", .str "listeners" u2, .ref D⟩] un'), (C, oD)] := by
    intro p hp
    rcases List.mem_cons.mp hp with rfl | hp
    · exact ⟨hk₁ _ _ hX, Nat.ne_of_lt (lt_L hX), h₀_eq ▸ hideAll_none _ (.head _)⟩
    rcases List.mem_cons.mp hp with rfl | hp
    · exact ⟨hk₁ _ _ hDX, Nat.ne_of_lt (lt_L hDX), h₀_eq ▸ hideAll_none _ (.tail _ (.head _))⟩
    · rw [List.mem_singleton.mp hp]
      exact ⟨hk₁ _ _ hoD, Nat.ne_of_lt (lt_L hoD), h₀_eq ▸ hideAll_none _ (.tail _ (.tail _ (.head _)))⟩
  have hend : ∀ {h' : Heap} {m news}, Fr h₀ L h' m → News h₀ L h' news → _ → _ → _ → ∀ x o, hZ.get? x = some o → h'.get? x = some o :=
    fun F N mx my mz => unhide3 hX hDX hoD h₀_eq.symm F N mx my mz
  have hat : ∀ {h' : Heap} {m news}, Fr h₀ L h' m → News h₀ L h' news → (C, oD) ∈ news → ConAt PySem.Challenge.pw_nu0119_01 w H h' C cl :=
    fun F N mz => hC.keep (fun b o e t => F.keep b o (kt b o e t)) fun o e => by rw [hoD] at e; cases e; exact N.get mz
  try dsimp only at *
  clear hk hk₁ rl rr
  (all_goals try k_fold)
  k_steps
  refine in_con (by simp only [units_deeper, cLine]; omega) (hat (by assumption) (by assumption) (by k_mem)) (rdNkey (by assumption) (by k_mem) (rdF (by assumption) rl') (rdF (by assumption) rr')) ?_
  cases e : look cl (lo, re) with
  | some o =>
    have e' : look cl (lo, re) ≠ none := by rw [e]; exact fun q => nomatch q
    rw [Option.isSome_some]
    k_steps
    refine port_call (by assumption) W' (by show _ < 400; dsimp only; omega) ?_
    intro hp tk₂ e₂ pm
    refine ⟨e₂, pm.2.2.choose, pm.2.2.choose_spec.choose, rfl, (X'.keeps (Fr.keep (by assumption))).keeps pm.1, pm.2.2.choose_spec.choose_spec, ?_⟩
    refine leave_port (w := w) (s := ⟨hZ, sg, sd, st, so⟩) hFF L_eq.symm (by assumption) (hend (by assumption) (by assumption) (by k_mem) (by k_mem) (by k_mem)) pm ?_
    intro h' hf
    exact hex e' _ _ _ hf
  | none =>
    rw [Option.isSome_none]
    k_steps
    refine ConAt.add (by simp only [units_deeper, cLine]; omega) (hat (by assumption) (by assumption) (by k_mem)) (rdNkey (by assumption) (by k_mem) (rdF (by assumption) rl') (rdF (by assumption) rr')) e hcl (by rename News _ _ _ _ => Nz; exact low_none hk' (Nz.fresh (by k_mem))) ?_
    intro h' c' hs
    have hx := hend (by assumption) (by assumption) (by k_mem) (by k_mem) (by k_mem)
    k_steps
    try dsimp only
    exact hok e _ _ (fun x o q e => (hs.2 x q).trans (hx x o e)) c'

theorem fin : PC cx := by with_unfolding_all exact core
end ConnectZ
theorem connect_spec {w : World} {dp un : Nat} {outer : List Env} {gd : Option (List Code)} {R : Result → Shared → Prop} {s : Shared} {H : Heap} {X DX C D : Addr} {cl : List ((P2 × P2) × Int)} {ll : List (P2 × Int)} {al ar : Addr} {lo re : P2} {ow : Int} {t3 : Tok}
    (W : Wld w H) (hk : ∀ x o, H.get? x = some o → s.heap.get? x = some o) (hXH : H.get? X = none) (hDH : H.get? DX = none) (hLH : H.get? C = none) (rl : Rd s.heap (.ref al) (ptD lo)) (rr : Rd s.heap (.ref ar) (ptD re))
    (hFF : s.heap.FunFrames H outer)
    (tb : TabIs w H s.heap X DX C D cl ll) (hcl : cl.length ≤ 1000) (hdp : dp < 390) (hun : un < 390)
    (hok : look cl (lo, re) = none → ∀ h' tk, (∀ x o, x ≠ C → s.heap.get? x = some o → h'.get? x = some o) → ConAt PySem.Challenge.pw_nu0119_01 w H h' C (cl ++ [((lo, re), ow)]) → R (.ok (.ret .none)) { s with heap := h', toks := tk })
    (hex : look cl (lo, re) ≠ none → ∀ h' tk e, PortFly s.heap outer h' e → R (.error (.ref e)) { s with heap := h', toks := tk }) :
    codeAny (model PySem.Challenge.pw_nu0119_01 w) ⟨none, dp, some outer, gd, un⟩ (.call (.ref 74) ⟨[.ref X, .ref al, .ref ar, .int ow t3], []⟩) R s := by
  obtain ⟨_, hDX, u1, u2, un', rfl⟩ := tb.2; obtain ⟨oD, hoD, hcD⟩ := con_obj tb.con
  exact
  zxAll (P := ConnectZ.PC) ConnectZ.fin { zx₀ with w := w, k0 := dp, k1 := un, ou := outer, gd := gd, R := R, s := s, H := H, A0 := X, A1 := DX, A2 := C, A3 := D, cl := cl, ll := ll, A4 := al, A5 := ar, p0 := lo, p1 := re, i0 := ow, t0 := t3, t1 := u1, t2 := u2, k2 := un', o0 := oD } W hk hXH hDH hLH rl rr hFF tb hcl hdp hun hok hex hDX hoD hcD
local macro_rules | `(tactic| walk_at "zz") => `(tactic| fail)
theorem zreset_Listen {M : Model} {A : Around} {env : Env} {Q : Flow → Shared → Prop} {E : Value → Shared → Prop} {s : Shared} (h : wpAny M A (execs [] env) Q E s) : wpAny M A (execs [] env) Q E s := by first | (walk1; fail) | exact h
end Mine
end

section
open PySem PySem.W PySem.Calls PyProof.Rows PySem.Spec
set_option maxRecDepth 100000
namespace Mine
section
variable {prog : Program} {w : World} {A : Around} {E : Value → Shared → Prop} {s : Shared} {h₀ : Heap} {L : Addr} {m : Str → Option Value} {news : List (Addr × Obj)}
theorem sliceApplied_two {sl : Addr} {u : Tok} {Q : Int × Int × Nat → Shared → Prop} (hs : s.heap.IsSliceOf sl .none (.int 2 u) .none) (h : Q (0, 1, 2) s) :
    wpAny (model prog w) A (Builtin.Slice.sliceApplied (.ref sl) (pure (3 : Int))) Q E s := by
  obtain ⟨os, hos, hcs, hds⟩ := id hs
  unfold Builtin.Slice.sliceApplied Builtin.Slice.sliceFields
  refine wpAny_bind (wpAny_bind (wpAny_field hos hds (x := .none) rfl (wpAny_bind (wpAny_field hos hds (x := .int 2 u) rfl (wpAny_bind (wpAny_field hos hds (x := .none) rfl (wpAny_pure ?_)))))))
  refine wpAny_bind (slicePart_none ?_)
  show wpAny _ _ (if ((1 : Int) == 0) = true then _ else _) _ _ s
  rw [if_neg (by decide)]
  refine wpAny_bind (slicePart_none (wpAny_bind (slicePart_int (wpAny_bind (wpAny_pure ?_)))))
  show wpAny _ _ (match Builtin.Slice.sliceAdjust none (some 2) 1 3 with | (lo, hi) => pure (lo, (1 : Int), Builtin.Slice.slicePlaces lo hi 1)) _ _ s
  rw [show Builtin.Slice.sliceAdjust none (some 2) 1 3 = (0, 2) from by decide]
  show wpAny _ _ (pure ((0 : Int), (1 : Int), Builtin.Slice.slicePlaces 0 2 1)) _ _ s
  rw [show Builtin.Slice.slicePlaces 0 2 1 = 2 from by decide]
  exact wpAny_pure h
theorem getItem_two {t sl : Addr} {x y z : Value} {u : Tok} {Q : Value → Shared → Prop} (ht : IsTup s.heap t #[x, y, z]) (hs : s.heap.IsSliceOf sl .none (.int 2 u) .none)
    (h : Q (.ref s.heap.objs.size) { s with heap := s.heap.push { cls := .type "tuple", data := .seq #[x, y] } }) : wpAny (model prog w) A (getItem (.ref t) (.ref sl)) Q E s := by
  have hdrop : sizeOk (.seq #[x, y]) := by show (2 : Nat) ≤ sizeLine; rw [sizeLine_eq]; decide
  obtain ⟨os, hos, hcs, hds⟩ := id hs
  have hTs : s.TypeIs (.ref sl) "slice" := ⟨os, hos, hcs⟩
  unfold getItem
  try with_reducible refine wpAny_holding ?_
  first | refine wpAny_bind (wpAny_pure ?_) | skip
  refine wpAny_bind (wpAny_sequenceKey ht.typeIs (by decide) ?_)
  refine wpAny_bind (wpAny_callSpecial?_slot (name := Str.ofString "__getitem__") ht.typeIs slot_tuple_getitem
    (wpAny_call_entry slot_tuple_getitem ht.typeIs entry_tuple_getitem ?_ (args_tuple_getitem _ _)))
  show wpAny _ _ (Builtin.Tuple.tupleItemsOf (.ref t) >>= _) _ _ s
  refine wpAny_bind (tupleItemsOf_ ht ?_)
  refine wpAny_bind (wpAny_typeOf hTs ?_)
  rw [if_pos (by decide)]
  refine wpAny_bind (sliceApplied_two hs ?_)
  have hno : ¬ (((0 : Int) == 0 && (1 : Int) == 1 && (2 : Nat) == 3) = true) := by decide
  show wpAny _ _ (if ((0 : Int) == 0 && (1 : Int) == 1 && (2 : Nat) == 3) = true then _ else _) _ _ s
  rw [if_neg hno]
  have e : ((List.range 2).filterMap fun (k : Nat) => #[x, y, z][((0 : Int) + (k : Int) * 1).toNat]?).toArray = #[x, y] := rfl
  rw [e]
  first
    | exact wpAny_bind (m := Builtin.Tuple.tupleExact _) (wpAny_newObj_type (wpAny_pure ⟨_, rfl, wpAny_pure h⟩) hdrop)
    | exact wpAny_bind (m := Builtin.Tuple.tupleExact _) (wpAny_newObj_type (wpAny_bind (wpAny_pure (wpAny_pure ⟨_, rfl, wpAny_pure h⟩))) hdrop)
    | exact wpAny_bind (wpAny_bind (m := Builtin.Tuple.tupleExact _) (wpAny_newObj_type (wpAny_pure (wpAny_pure ⟨_, rfl, wpAny_pure h⟩)) hdrop))
    | exact wpAny_bind (wpAny_bind (m := Builtin.Tuple.tupleExact _) (wpAny_newObj_type (wpAny_pure ⟨_, rfl, wpAny_pure h⟩) hdrop))

theorem slice_two {value slice : PySem.Expr} {t : Addr} {x y z : Value} {u : Tok} {Q : Value → Shared → Prop}
    (F : Fr h₀ L s.heap m) (N : News h₀ L s.heap news) (ht : IsTup s.heap t #[x, y, z])
    (h : ∀ h' r, Fr h₀ L h' m → News h₀ L h' ((r, { cls := .type "tuple", data := .seq #[x, y] }) :: news) → (∀ p ∈ news, p.1 < r) → Q (.ref r) { s with heap := h' })
    (hs : subscripted slice false (.ref t) (.ref s.heap.objs.size) = operate [.ref s.heap.objs.size, .ref t] (getItem (.ref t) (.ref s.heap.objs.size)) := by with_unfolding_all rfl)
    (hg : ∀ r, letTemporaryGo value (.ref t) r = pure () := by intro _; with_unfolding_all rfl) :
    wpAny (model prog w) A (subscriptTail value slice (.ref t) (.ref s.heap.objs.size)) Q E { s with heap := s.heap.push { cls := .type "slice", data := .fields #[.none, .int 2 u, .none] } } := by
  have ht' : IsTup (s.heap.push { cls := .type "slice", data := .fields #[.none, .int 2 u, .none] }) t #[x, y, z] := ht.keeps fun _ _ e => Heap.get?_push_of_some _ e
  refine subscriptTail_ops (s := { s with heap := s.heap.push { cls := .type "slice", data := .fields #[.none, .int 2 u, .none] } }) ht'.typeIs slot_tuple_getitem.lookup
    (getItem_two ht' (Heap.IsSliceOf.new ..) ?_) hs hg
  have N1 := News.push (F.push { cls := .type "slice", data := .fields #[.none, .int 2 u, .none] }) (N.grown fun _ _ e => Heap.get?_push_of_some _ e) { cls := .type "tuple", data := .seq #[x, y] }
  rw [Heap.size_push] at N1
  show Q (.ref (s.heap.push _).objs.size) _
  rw [Heap.size_push]
  exact h _ _ ((F.push _).push _) N1 fun p hp => Nat.lt_succ_of_lt (Heap.lt_size (N p hp).1)
end
end Mine
end

section
open PySem PySem.W PySem.Calls PyProof.Rows PySem.Spec PyProof.Rows.LCg PyProof.Rows.LCt
set_option maxRecDepth 100000
namespace Mine

noncomputable def KeptF (outer : List Env) (S : List Addr) (h h' : Heap) : Prop := (∀ x o, x ∉ S → x ∉ framesOf outer → h.get? x = some o → h'.get? x = some o) ∧ ∀ x m, x ∈ framesOf outer → h.Ns x m → h'.Ns x m

theorem unhideL {h h₀ h' : Heap} {L : Addr} {m : Str → Option Value} {news ps : List (Addr × Obj)} (hp : ∀ p ∈ ps, h.get? p.1 = some p.2) (e : h₀ = hideAll h (ps.map (·.1))) (F : Fr h₀ L h' m) (N : News h₀ L h' news) (hm : ∀ p ∈ ps, p ∈ news) :
    ∀ x o, h.get? x = some o → h'.get? x = some o := by
  intro x o q
  by_cases hx : x ∈ ps.map (·.1)
  · obtain ⟨p, hp1, rfl⟩ := List.mem_map.mp hx
    rw [hp p hp1] at q; cases q
    exact N.get (hm p hp1)
  · exact F.keep x o (e ▸ hideAll_get _ q hx)
theorem newsStart {h h₁ : Heap} {ps : List (Addr × Obj)} (hp : ∀ p ∈ ps, h.get? p.1 = some p.2) (k : ∀ x o, h.get? x = some o → h₁.get? x = some o) : News (hideAll h (ps.map (·.1))) h.objs.size h₁ ps := fun p hm =>
  ⟨k _ _ (hp p hm), Nat.ne_of_lt (Heap.lt_size (hp p hm)), hideAll_none _ (List.mem_map_of_mem hm)⟩
theorem keptHide {h : Heap} {ps : List (Addr × Obj)} (hp : ∀ p ∈ ps, h.get? p.1 = some p.2) (nt : ∀ p ∈ ps, ¬ TupObj p.2) : KeepT h (hideAll h (ps.map (·.1))) := fun b o e c => hideAll_get _ e (by
  intro q
  obtain ⟨p, hm, rfl⟩ := List.mem_map.mp q
  rw [hp p hm] at e; cases e
  exact nt p hm c)
theorem hideLow {h H : Heap} {ps : List (Addr × Obj)} (hk : ∀ x o, H.get? x = some o → h.get? x = some o) (hn : ∀ p ∈ ps, H.get? p.1 = none) : ∀ x o, H.get? x = some o → (hideAll h (ps.map (·.1))).get? x = some o := fun x o e => hideAll_get _ (hk x o e) (by
  intro q
  obtain ⟨p, hm, rfl⟩ := List.mem_map.mp q
  rw [hn p hm] at e; cases e)
theorem all_nil {P : Addr × Obj → Prop} : ∀ p ∈ ([] : List (Addr × Obj)), P p := fun _ h => nomatch h
theorem all_cons {P : Addr × Obj → Prop} {q : Addr × Obj} {l : List (Addr × Obj)} (h : P q) (t : ∀ p ∈ l, P p) : ∀ p ∈ q :: l, P p := fun p hp => by
  rcases List.mem_cons.mp hp with rfl | hp
  · exact h
  · exact t p hp

theorem excMatches_port {M : Model} {A : Around} {E : Value → Shared → Prop} {w : World} {s : Shared} {e : Addr} {oe : Obj} {Q : Bool → Shared → Prop} (X : (hd.heap_39 w.params).In s.heap) (he : s.heap.get? e = some oe) (hcls : oe.cls = .ref 44)
    (hq : Q true s) : wpAny M A (excMatches (.ref e) (.ref 44)) Q E s := by
  have hC := port_at X
  obtain ⟨hh, g, d, tk, os⟩ := s
  exact wpAny_excMatches_sub_self hC he hcls (by decide) hq

noncomputable def Caught (w : World) (A : Around) (env : Env) (e : Addr) (suite : List Stmt) (Q : Flow → Shared → Prop) (E : Value → Shared → Prop) (c : Value) (s₁ : Shared) : Prop :=
  c = .ref 44 ∧ (hd.heap_39 w.params).In s₁.heap ∧ (∃ oe, s₁.heap.get? e = some oe ∧ oe.cls = .ref 44) ∧
      wpAny (model PySem.Challenge.pw_nu0119_01 w) (A.mark (some (.ref e))) (setFlight (.ref e) none) (fun _ s₂ => wpAny (model PySem.Challenge.pw_nu0119_01 w) (A.mark (some (.ref e))) (execs suite env) Q (notedBy (model PySem.Challenge.pw_nu0119_01 w) (A.mark (some (.ref e))) env (cameBackBy (model PySem.Challenge.pw_nu0119_01 w) A env E)) s₂) (notedBy (model PySem.Challenge.pw_nu0119_01 w) (A.mark (some (.ref e))) env (cameBackBy (model PySem.Challenge.pw_nu0119_01 w) A env E)) s₁
/-- the clause `except PortError:` -/
theorem handle_port {w : World} {A : Around} {E : Value → Shared → Prop} {s : Shared} {env : Env} {e : Addr} {t : PySem.Expr} {b₀ : Stmt} {suite : List Stmt} {pos : Pos} {rest : List ExceptHandler} {Q : Flow → Shared → Prop}
    (h : wpAny (model PySem.Challenge.pw_nu0119_01 w) (A.mark (some (.ref e))) (eval t env) (Caught w A env e (b₀ :: suite) Q E) (notedBy (model PySem.Challenge.pw_nu0119_01 w) (A.mark (some (.ref e))) env (cameBackBy (model PySem.Challenge.pw_nu0119_01 w) A env E)) s) :
    wpAny (model PySem.Challenge.pw_nu0119_01 w) A (handleBy (.ref e) env (.ExceptHandler (some t) none (b₀ :: suite) pos :: rest)) Q E s := by
  refine wpAny_handleBy_cons (codeAny_handlers_test (wpAny_mono h (fun c s₁ h₁ => ?_) fun _ _ y => y)) (by intro q; cases q)
  obtain ⟨rfl, X, ⟨oe, he, hcls⟩, hk⟩ := h₁
  exact excMatches_port X he hcls (codeAny_handlers_suite hk)

theorem lay_half (l : P2) (r : Option P2) : (PyData.tuple [ptD l, remD r]).canLay0 = true := by simp [PyData.canLay0, PyData.canLayAll0, lay_pt, lay_rem]
theorem depth_rem (p : Option P2) : (remD p).depth ≤ 1 := by cases p <;> simp [remD, ptD, PyData.depth, PyData.depthAll]
theorem depth_half (l : P2) (r : Option P2) : (PyData.tuple [ptD l, remD r]).depth ≤ 2 := by
  have := depth_pt l; have := depth_rem r
  simp only [PyData.depth, PyData.depthAll]; omega
theorem eqv_half (l l' : P2) (r r' : Option P2) : PyData.eqv (.tuple [ptD l, remD r]) (.tuple [ptD l', remD r']) = decide (l = l' ∧ r = r') := by
  simp only [PyData.eqv, PyData.eqvAll, eqv_pt, eqv_rem]
  by_cases h1 : l = l' <;> by_cases h2 : r = r' <;> simp [h1, h2]

noncomputable def putM (M : List Ent) (e : Ent) : List Ent := if M.any (fun x => decide (x.1 = e.1 ∧ x.2.1 = e.2.1)) then M else M ++ [e]

theorem ne_nil {prog : Program} {w : World} {A : Around} {E : Value → Shared → Prop} {s : Shared} {l b : Addr} {ys : List Value} {Q : Value → Shared → Prop} (hl : s.heap.IsList l ys.toArray) (hb : s.heap.IsList b #[]) (hu : A.units < cLine) (h : Q (.bool (!ys.isEmpty)) s) :
    wpAny (model prog w) A (compareOp .NotEq (.ref l) (.ref b)) Q E s := by
  cases ys with
  | nil => exact (SeqAt.RcNeAt.lists (e := fun _ => true) hl hb rfl hu (fun j h1 _ => absurd h1 (Nat.not_lt_zero _))) prog w E Q h
  | cons y ys => exact (SeqAt.RcNeAt.lists_lengths hl hb (by simp) hu) prog w E Q h
theorem zip_any {Rel : Value → Ent → Prop} {zs : List Value} {M : List Ent} {p : Ent → Bool} (z : Zip Rel zs (M.filter p)) : (!zs.isEmpty) = M.any p := by
  have := z.length
  cases zs with
  | nil =>
    have h0 : M.filter p = [] := List.length_eq_zero_iff.mp this.symm
    rw [List.filter_eq_nil_iff] at h0
    cases e : M.any p with
    | false => rfl
    | true => obtain ⟨x, hx, hp⟩ := List.any_eq_true.mp e; exact absurd hp (h0 x hx)
  | cons y ys =>
    cases e : M.any p with
    | true => rfl
    | false =>
      have h0 : M.filter p = [] := by
        rw [List.filter_eq_nil_iff]
        intro x hx hp
        have := List.any_eq_false.mp e x hx
        exact this hp
      rw [h0] at this; simp at this

theorem look_none {K : Type} [DecidableEq K] {cl : List (K × Int)} {k : K} : look cl k = none ↔ ∀ x ∈ cl, x.1 ≠ k := by
  rw [Mine.look, Option.map_eq_none_iff, List.find?_eq_none]
  simp
theorem conns_some (M : List Ent) (l r : P2) : (look (conns M) (l, r) = none) ↔ M.any (fun x => decide (x.1 = l ∧ x.2.1 = some r)) = false := by
  rw [look_none]
  simp only [conns, List.mem_filterMap, List.any_eq_false, decide_eq_true_eq]
  constructor
  · intro h x hx ⟨h1, h2⟩
    exact h ((l, r), x.2.2) ⟨x, hx, by rw [h2, h1]; rfl⟩ rfl
  · rintro h _ ⟨x, hx, he⟩
    obtain ⟨r', h1, rfl⟩ := Option.map_eq_some_iff.mp he
    intro q
    injection q with q1 q2
    exact h x hx ⟨q1, by rw [h1, q2]⟩
theorem lsts_none (M : List Ent) (l : P2) : (look (lsts M) l = none) ↔ M.any (fun x => decide (x.1 = l ∧ x.2.1 = none)) = false := by
  rw [look_none]
  simp only [lsts, List.mem_filterMap, List.any_eq_false, decide_eq_true_eq]
  constructor
  · intro h x hx ⟨h1, h2⟩
    exact h (l, x.2.2) ⟨x, hx, by rw [h2, h1]; rfl⟩ rfl
  · rintro h _ ⟨x, hx, he⟩
    split at he
    · cases he
      intro q
      exact h x hx ⟨q, by rename_i hh; exact Option.isNone_iff_eq_none.mp hh⟩
    · cases he

theorem lsts_len (M : List Ent) : (lsts M).length ≤ M.length := List.length_filterMap_le _ _
theorem conns_len (M : List Ent) : (conns M).length ≤ M.length := List.length_filterMap_le _ _
theorem ne_cls {h : Heap} {a b : Addr} {o o' : Obj} (ha : h.get? a = some o) (hb : h.get? b = some o') (hc : o.cls ≠ o'.cls) : a ≠ b := by
  rintro rfl
  rw [ha] at hb; cases hb
  exact hc rfl
theorem TabIs.move {w : World} {H h h' : Heap} {X DX C D : Addr} {cl : List ((P2 × P2) × Int)} {ll : List (P2 × Int)} (t : TabIs w H h X DX C D cl ll) (kt : KeepT h h') (k : ∀ x ∈ [X, DX, C, D], ∀ o, h.get? x = some o → h'.get? x = some o) : TabIs w H h' X DX C D cl ll := by
  obtain ⟨hX, ⟨oDX, hDX, r⟩, hC, hD, hn⟩ := t
  exact ⟨k X (by simp) _ hX, ⟨oDX, k DX (by simp) _ hDX, r⟩, hC.keep kt (k C (by simp)), hD.keep kt (k D (by simp)), hn⟩
theorem TabIs.keeps {w : World} {H h h' : Heap} {X DX C D : Addr} {cl : List ((P2 × P2) × Int)} {ll : List (P2 × Int)} (t : TabIs w H h X DX C D cl ll) (k : ∀ x o, h.get? x = some o → h'.get? x = some o) : TabIs w H h' X DX C D cl ll :=
  t.move (KeepT.of k) fun x _ o => k x o

theorem frames_push {h cur H h₀ : Heap} {L : Addr} {m : Str → Option Value} {outer : List Env} (env : Env) (hFF : h.FunFrames H outer) (hL : h.objs.size = L) (hk : ∀ x o, H.get? x = some o → h.get? x = some o) (F : Fr h₀ L cur m)
    (k : ∀ x o, h.get? x = some o → cur.get? x = some o) (hm : env.scope.kind ≠ .module) (hf : env.frame = some L) : cur.FunFrames H (env :: outer) := by
  obtain ⟨o, es, ep, ho, hd, -⟩ := F.ns
  refine ⟨hm, ⟨L, o, hf, ?_, ho, fun vs q => by rw [hd] at q; cases q⟩, funFrames_re hFF ?_ fun b o e _ => ⟨o, k b o e, rfl⟩⟩
  · cases q : H.get? L with
    | none => rfl
    | some o => exact absurd (Heap.lt_size (hk _ _ q)) (hL ▸ Nat.lt_irrefl _)
  · intro env he L' hL'
    have aux : ∀ l : List Env, h.FunFrames H l → env ∈ l → H.get? L' = none := by
      intro l
      induction l with
      | nil => intro _ h; cases h
      | cons e l ih =>
        rintro ⟨-, ⟨L2, _, h1, h2, -⟩, r⟩ hm
        rcases List.mem_cons.mp hm with rfl | hm
        · rw [hL'] at h1; cases h1; exact h2
        · exact ih r hm
    exact aux _ hFF he

theorem frames_low {h H : Heap} {outer : List Env} (hFF : h.FunFrames H outer) : ∀ x o, H.get? x = some o → x ∉ framesOf outer := by
  intro x o e hx
  obtain ⟨env, he, hL'⟩ := List.mem_filterMap.mp hx
  have aux : ∀ l : List Env, h.FunFrames H l → env ∈ l → H.get? x = none := by
    intro l
    induction l with
    | nil => intro _ h; cases h
    | cons e l ih =>
      rintro ⟨-, ⟨L2, _, h1, h2, -⟩, r⟩ hm
      rcases List.mem_cons.mp hm with rfl | hm
      · rw [hL'] at h1; cases h1; exact h2
      · exact ih r hm
  rw [aux _ hFF he] at e
  cases e
theorem mem_push {L x : Addr} {env : Env} {outer : List Env} (hf : env.frame = some L) : x ∈ framesOf (env :: outer) ↔ x = L ∨ x ∈ framesOf outer := by
  unfold framesOf
  rw [List.filterMap_cons, hf]
  simp

theorem fr_after {h₀ cur h' : Heap} {L : Addr} {m : Str → Option Value} {env : Env} {outer : List Env} (F : Fr h₀ L cur m) (hf : env.frame = some L) (hst : (hideAll cur (framesOf (env :: outer))).StaysIn h') (hsm : cur.UpToSlots h') :
    Fr (hideAll h₀ (framesOf outer)) L h' m := by
  refine ⟨hsm.ns F.ns, fun b o e => hst b o ?_, by rw [hideAll_size]; exact F.above⟩
  have e0 := of_hideAll _ e
  refine hideAll_get _ (F.keep _ _ e0) fun q => ?_
  rcases (mem_push hf).mp q with rfl | q
  · exact absurd (Nat.lt_of_lt_of_le (Heap.lt_size e0) F.above) (Nat.lt_irrefl _)
  · rw [hideAll_none _ q] at e; cases e

theorem after_port {w : World} {H h cur h' : Heap} {env : Env} {outer : List Env} {L X DX C D Le : Addr} {cl : List ((P2 × P2) × Int)} {ll : List (P2 × Int)} {M : List Ent} {vs : Array Value} {n : Nat} (hcur : ∀ x o, h.get? x = some o → cur.get? x = some o) (hL : h.objs.size = L) (hf : env.frame = some L)
    (hst : (hideAll cur (framesOf (env :: outer))).StaysIn h') (hsm : cur.UpToSlots h') (hFN : ∀ x ∈ framesOf outer, ∃ m, h.Ns x m) (hoff : ∀ x ∈ [X, DX, C, D, Le], x ∉ framesOf outer)
    (tb : TabIs w H h X DX C D cl ll) (hl : h.get? Le = some (listOf vs n)) (he : RdAll h vs.toList (M.map entD)) :
    KeptF outer [C, D, Le] h h' ∧ TabIs w H h' X DX C D cl ll ∧ h'.get? Le = some (listOf vs n) ∧ RdAll h' vs.toList (M.map entD) := by
  have k : ∀ x o, x ∉ framesOf outer → h.get? x = some o → h'.get? x = some o := fun x o hx e => hst x o (hideAll_get _ (hcur x o e) fun q => by
    rcases (mem_push hf).mp q with rfl | q
    · exact absurd (Heap.lt_size e) (hL ▸ Nat.lt_irrefl _)
    · exact hx q)
  have kt : KeepT h h' := fun b o e c => k b o (fun q => by
    obtain ⟨m, o', es, ep, ho', hd, -⟩ := hFN b q
    rw [e] at ho'; cases ho'
    obtain ⟨-, vs, n, q2⟩ := c
    rw [hd] at q2; cases q2) e
  refine ⟨⟨fun x o _ hx e => k x o hx e, fun x m _ hn => hsm.ns ?_⟩, tb.move kt (fun x hx o e => k x o (hoff x (by simp at hx ⊢; rcases hx with h | h | h | h <;> simp [h])) e), k _ _ (hoff Le (by simp)) hl, rdAll_keep (by intro d hd v r; obtain ⟨x, -, rfl⟩ := List.mem_map.mp hd; exact rdEnt_keep kt r) he⟩
  obtain ⟨o, es, ep, ho, r⟩ := hn
  exact ⟨o, es, ep, hcur _ _ ho, r⟩


/-- all else that stands in a heap beside its base and the addresses S -/
noncomputable def rest (h₀ h : Heap) (S : List Addr) : List (Addr × Obj) := (List.range h.objs.size).filterMap fun b => if b ∈ S ∨ (h₀.get? b).isSome then none else (h.get? b).map fun o => (b, o)
theorem mem_rest {h₀ h : Heap} {S : List Addr} {b : Addr} {o : Obj} : (b, o) ∈ rest h₀ h S ↔ h.get? b = some o ∧ b ∉ S ∧ h₀.get? b = none := by
  unfold rest
  rw [List.mem_filterMap]
  constructor
  · rintro ⟨a, ha, q⟩
    split at q
    · cases q
    · rename_i hn
      obtain ⟨o', ho', q2⟩ := Option.map_eq_some_iff.mp q
      injection q2 with q3 q4
      subst q3 q4
      refine ⟨ho', fun hs => hn (.inl hs), ?_⟩
      cases e : h₀.get? a with
      | none => rfl
      | some _ => exact absurd (.inr (by rw [e]; rfl)) hn
  · rintro ⟨h1, h2, h3⟩
    refine ⟨b, List.mem_range.mpr (Heap.lt_size h1), ?_⟩
    rw [if_neg (fun q => q.elim (fun q => h2 q) (fun q => by rw [h3] at q; cases q)), h1]
    rfl
theorem rest_news {h₀ h : Heap} {L : Addr} {S : List Addr} (hL : L ∈ S) : News h₀ L h (rest h₀ h S) := fun p hp => by
  obtain ⟨h1, h2, h3⟩ := mem_rest.mp (show (p.1, p.2) ∈ _ from hp)
  exact ⟨h1, fun e => h2 (e ▸ hL), h3⟩
theorem rest_off {h₀ h : Heap} {S : List Addr} {x : Addr} (hx : x ∈ S) : ∀ p ∈ rest h₀ h S, p.1 ≠ x := fun p hp e => (mem_rest.mp (show (p.1, p.2) ∈ _ from hp)).2.1 (e ▸ hx)
theorem rest_back {h₀ h hf : Heap} {L : Addr} {S : List Addr} {m m' : Str → Option Value} {news : List (Addr × Obj)} (F : Fr h₀ L h m) (F' : Fr h₀ L hf m') (N : News h₀ L hf news) (hs : ∀ p ∈ rest h₀ h S, p ∈ news) : ∀ b o, b ∉ S → h.get? b = some o → hf.get? b = some o := by
  intro b o hb e
  cases q : h₀.get? b with
  | none => exact N.get (hs (b, o) (mem_rest.mpr ⟨e, hb, q⟩))
  | some o' =>
    have := F.keep _ _ q
    rw [e] at this; cases this
    exact F'.keep _ _ q

theorem put_done {h h' hf : Heap} {L Dk C D Le : Addr} {outer : List Env} {m : Str → Option Value} {vs : Array Value} {n : Nat} {oc : Obj} {cv : Option Value} (hL : h.objs.size = L) (hkx : ∀ x o, x ≠ Dk → h.get? x = some o → h'.get? x = some o)
    (hb : ∀ b o, b ∉ [L, Le, L + 1] → h'.get? b = some o → hf.get? b = some o) (hLe : h'.get? Le = some (listOf vs n)) (hns : h'.Ns L m) (hc : h'.get? (L + 1) = some oc) (hcd : oc.data = .cell cv)
    (hDk : Dk ∈ [C, D]) {oDk : Obj} (hDo : h.get? Dk = some oDk) (hnt : ¬ TupObj oDk) (hne : Dk ≠ Le) (hFN : ∀ x ∈ framesOf outer, ∃ m, h.Ns x m) (hoff : ∀ x ∈ [C, D, Le], x ∉ framesOf outer) :
    KeptF outer [C, D, Le] h hf ∧ KeepT h' hf ∧ KeepT h hf ∧ (∀ x o, x ≠ Dk → x ≠ Le → h.get? x = some o → hf.get? x = some o) ∧ ∀ o, h'.get? Dk = some o → hf.get? Dk = some o := by
  have hlt : ∀ {x o}, h.get? x = some o → x < L := fun e => hL ▸ Heap.lt_size e
  have k4 : ∀ x o, x ≠ Dk → x ≠ Le → h.get? x = some o → hf.get? x = some o := fun x o h1 h2 e => hb x o (by
    have := hlt e
    simp only [List.mem_cons, List.not_mem_nil, or_false, not_or]
    exact ⟨Nat.ne_of_lt this, h2, Nat.ne_of_lt (Nat.lt_succ_of_lt this)⟩) (hkx x o h1 e)
  have k2 : KeepT h' hf := fun b o e c => hb b o (by
    simp only [List.mem_cons, List.not_mem_nil, or_false, not_or]
    refine ⟨?_, ?_, ?_⟩
    · rintro rfl
      obtain ⟨o', es, ep, ho', hd, -⟩ := hns
      rw [e] at ho'; cases ho'
      obtain ⟨-, vs, n, q⟩ := c
      rw [hd] at q; cases q
    · rintro rfl
      rw [e] at hLe; cases hLe
      exact absurd c.1 (by simp)
    · rintro rfl
      rw [e] at hc; cases hc
      obtain ⟨-, vs, n, q⟩ := c
      rw [hcd] at q; cases q) e
  have k1 : KeepT h h' := fun b o e c => hkx b o (by rintro rfl; rw [e] at hDo; cases hDo; exact hnt c) e
  refine ⟨⟨fun x o hx _ e => k4 x o (fun q => hx (q ▸ (by simp at hDk ⊢; rcases hDk with h | h <;> simp [h]))) (fun q => hx (by rw [q]; simp)) e, fun x m hx hn => ?_⟩, k2, k1.trans k2, k4, fun o e => hb Dk o (by
    have := hlt hDo
    simp only [List.mem_cons, List.not_mem_nil, or_false, not_or]
    exact ⟨Nat.ne_of_lt this, hne, Nat.ne_of_lt (Nat.lt_succ_of_lt this)⟩) e⟩
  obtain ⟨o, es, ep, ho, r⟩ := hn
  refine ⟨o, es, ep, k4 x o ?_ ?_ ho, r⟩
  · rintro rfl
    exact hoff _ (by simp at hDk ⊢; rcases hDk with h | h <;> simp [h]) hx
  · rintro rfl
    exact hoff _ (by simp) hx

theorem putM_new {M : List Ent} {e : Ent} (h : M.any (fun x => decide (x.1 = e.1 ∧ x.2.1 = e.2.1)) = false) : putM M e = M ++ [e] := by unfold putM; rw [h]; rfl
theorem putM_old {M : List Ent} {e : Ent} (h : M.any (fun x => decide (x.1 = e.1 ∧ x.2.1 = e.2.1)) = true) : putM M e = M := by unfold putM; rw [h]; rfl
theorem conns_lst (M : List Ent) (l : P2) (o : Int) : conns (M ++ [(l, none, o)]) = conns M := by simp [conns, List.filterMap_append]
theorem lsts_lst (M : List Ent) (l : P2) (o : Int) : lsts (M ++ [(l, none, o)]) = lsts M ++ [(l, o)] := by simp [lsts, List.filterMap_append]
theorem conns_con (M : List Ent) (l r : P2) (o : Int) : conns (M ++ [(l, some r, o)]) = conns M ++ [((l, r), o)] := by simp [conns, List.filterMap_append]
theorem lsts_con (M : List Ent) (l r : P2) (o : Int) : lsts (M ++ [(l, some r, o)]) = lsts M := by simp [lsts, List.filterMap_append]
theorem rdAll_append {h : Heap} {vs ws : List Value} {ds es : List PyData} (a : RdAll h vs ds) (b : RdAll h ws es) : RdAll h (vs ++ ws) (ds ++ es) := by
  induction ds generalizing vs with
  | nil => rw [rdAll_nil] at a; subst a; exact b
  | cons d ds ih =>
    rw [rdAll_cons] at a
    obtain ⟨v, r, rfl, x, y⟩ := a
    exact rdAll_cons'.mpr ⟨x, ih y⟩
theorem ent_keepT {h h' : Heap} {vs : List Value} {M : List Ent} (kt : KeepT h h') (r : RdAll h vs (M.map entD)) : RdAll h' vs (M.map entD) :=
  rdAll_keep (by intro d hd v r; obtain ⟨x, -, rfl⟩ := List.mem_map.mp hd; exact rdEnt_keep kt r) r
theorem ent_push {h : Heap} {vs : Array Value} {M : List Ent} {v : Value} {e : Ent} (r : RdAll h vs.toList (M.map entD)) (re : Rd h v (entD e)) : RdAll h (vs.push v).toList ((M ++ [e]).map entD) := by
  rw [Array.toList_push, List.map_append]
  exact rdAll_append r (rdAll_cons'.mpr ⟨re, .nil⟩)
end Mine
end

section
open PySem PySem.W PySem.Calls PyProof.Rows PySem.Spec PyProof.Rows.LCg PyProof.Rows.LCt
set_option maxRecDepth 100000
namespace Mine

namespace PutZ
noncomputable def P (w : World) (dp : Nat) (un : Nat) (outer : List Env) (gd : Option (List Code)) (R : Result → Shared → Prop) (s : Shared) (H : Heap) (X : Addr) (DX : Addr) (C : Addr) (D : Addr) (Le : Addr) (ae : Addr) (cl : List ((P2 × P2) × Int)) (ll : List (P2 × Int)) (M : List Ent) (vs : Array Value) (n : Nat) (u1 : Tok) (u2 : Tok) (un' : Nat) (oC : Obj) (oD : Obj) : Prop := ∀ (e : Ent), (Wld w H) → (∀ x o, H.get? x = some o → s.heap.get? x = some o) → (H.get? X = none) → (H.get? DX = none) → (H.get? C = none) → (H.get? D = none) → (H.get? Le = none) → (s.heap.FunFrames H outer) → (∀ x ∈ framesOf outer, ∃ m, s.heap.Ns x m) → (∀ x ∈ [X, DX, C, D, Le], x ∉ framesOf outer) → (TabIs w H s.heap X DX C D (conns M) (lsts M)) → (M.length ≤ 900) → (s.heap.get? Le = some (listOf vs n)) → (RdAll s.heap vs.toList (M.map entD)) → (Rd s.heap (.ref ae) (entD e)) → (dp < 380) → (un < 380) → (∀ h' tk vs' n', KeptF outer [C, D, Le] s.heap h' → TabIs w H h' X DX C D (conns (putM M e)) (lsts (putM M e)) → h'.get? Le = some (listOf vs' n') → RdAll h' vs'.toList ((putM M e).map entD) → R (.ok (.ret (.bool true))) { s with heap := h', toks := tk }) → (s.heap.get? DX = some (dictOf [⟨PyData.keyHash w.params "connections", .str "connections" u1, .ref C⟩, ⟨PyData.keyHash w.params "listeners", .str "listeners" u2, .ref D⟩] un')) → (s.heap.get? C = some oC) → (oC.ExactDict) → (s.heap.get? D = some oD) → (oD.ExactDict) →
    codeAny (model PySem.Challenge.pw_nu0119_01 w) ⟨none, dp, some outer, gd, un⟩ (.call (.ref 143) ⟨[.ref X, .ref Le, .ref ae], []⟩) R s
noncomputable def PC (c : Zx) : Prop := P c.w c.k0 c.k1 c.ou c.gd c.R c.s c.H c.A0 c.A1 c.A2 c.A3 c.A4 c.A5 c.cl c.ll c.M c.vs c.k2 c.t0 c.t1 c.k3 c.o0 c.o1
noncomputable def cx : Zx := @Classical.epsilon Zx ⟨zx₀⟩ fun c => ¬ PC c
@[irreducible] noncomputable def w : World := cx.w
@[irreducible] noncomputable def dp : Nat := cx.k0
@[irreducible] noncomputable def un : Nat := cx.k1
@[irreducible] noncomputable def outer : List Env := cx.ou
@[irreducible] noncomputable def gd : Option (List Code) := cx.gd
@[irreducible] noncomputable def R : Result → Shared → Prop := cx.R
@[irreducible] noncomputable def hZ : Heap := cx.s.heap
@[irreducible] noncomputable def sg : Array GenState := cx.s.gens
@[irreducible] noncomputable def sd : Drawn := cx.s.drawn
@[irreducible] noncomputable def st : Nat := cx.s.toks
@[irreducible] noncomputable def so : OsState := cx.s.os
@[irreducible] noncomputable def H : Heap := cx.H
@[irreducible] noncomputable def X : Addr := cx.A0
@[irreducible] noncomputable def DX : Addr := cx.A1
@[irreducible] noncomputable def C : Addr := cx.A2
@[irreducible] noncomputable def D : Addr := cx.A3
@[irreducible] noncomputable def Le : Addr := cx.A4
@[irreducible] noncomputable def ae : Addr := cx.A5
@[irreducible] noncomputable def cl : List ((P2 × P2) × Int) := cx.cl
@[irreducible] noncomputable def ll : List (P2 × Int) := cx.ll
@[irreducible] noncomputable def M : List Ent := cx.M
@[irreducible] noncomputable def vs : Array Value := cx.vs
@[irreducible] noncomputable def n : Nat := cx.k2
@[irreducible] noncomputable def u1 : Tok := cx.t0
@[irreducible] noncomputable def u2 : Tok := cx.t1
@[irreducible] noncomputable def un' : Nat := cx.k3
@[irreducible] noncomputable def oC : Obj := cx.o0
@[irreducible] noncomputable def oD : Obj := cx.o1
@[irreducible] noncomputable def L : Addr := hZ.objs.size
theorem L_eq : hZ.objs.size = L := by delta L; rfl
theorem lt_L {x : Addr} {o : Obj} (h : hZ.get? x = some o) : x < L := L_eq ▸ Heap.lt_size h
@[irreducible] noncomputable def h₀ : Heap := hideAll hZ [X, DX, C, D, Le]
theorem h₀_eq : hideAll hZ [X, DX, C, D, Le] = h₀ := by delta h₀; rfl
set_option maxHeartbeats 4000000 in
theorem core (e : Ent) (W : Wld w H) (hk : ∀ x o, H.get? x = some o → hZ.get? x = some o) (hXH : H.get? X = none) (hDXH : H.get? DX = none) (hCH : H.get? C = none) (hDH : H.get? D = none) (hEH : H.get? Le = none) (hFF : hZ.FunFrames H outer) (hFN : ∀ x ∈ framesOf outer, ∃ m, hZ.Ns x m) (hoff : ∀ x ∈ [X, DX, C, D, Le], x ∉ framesOf outer) (tb : TabIs w H hZ X DX C D (conns M) (lsts M)) (hM : M.length ≤ 900) (hl : hZ.get? Le = some (listOf vs n)) (he : RdAll hZ vs.toList (M.map entD)) (re : Rd hZ (.ref ae) (entD e)) (hdp : dp < 380) (hun : un < 380) (h : ∀ h' tk vs' n', KeptF outer [C, D, Le] hZ h' → TabIs w H h' X DX C D (conns (putM M e)) (lsts (putM M e)) → h'.get? Le = some (listOf vs' n') → RdAll h' vs'.toList ((putM M e).map entD) → R (.ok (.ret (.bool true))) ⟨h', sg, sd, tk, so⟩) (hDX : hZ.get? DX = some (dictOf [⟨PyData.keyHash w.params "connections", .str "connections" u1, .ref C⟩, ⟨PyData.keyHash w.params "listeners", .str "listeners" u2, .ref D⟩] un')) (hoC : hZ.get? C = some oC) (hcC : oC.ExactDict) (hoD : hZ.get? D = some oD) (hcD : oD.ExactDict) :
    codeAny (model PySem.Challenge.pw_nu0119_01 w) ⟨none, dp, some outer, gd, un⟩ (.call (.ref 143) ⟨[.ref X, .ref Le, .ref ae], []⟩) R ⟨hZ, sg, sd, st, so⟩ := by
  obtain ⟨loose, mean, mg, mb, T⟩ := W.T
  have tb₀ := tb
  obtain ⟨hX, -, -, -, hne1, hne2, hne3⟩ := tb
  have hps : ∀ p ∈ [(X, instObj 99 DX), (DX, dictOf [⟨PyData.keyHash w.params "connections", .str "connections" u1, .ref C⟩, ⟨PyData.keyHash w.params "listeners", .str "listeners" u2, .ref D⟩] un'), (C, oC), (D, oD), (Le, listOf vs n)], hZ.get? p.1 = some p.2 :=
    all_cons hX (all_cons hDX (all_cons hoC (all_cons hoD (all_cons hl all_nil))))
  have hpt : ∀ p ∈ [(X, instObj 99 DX), (DX, dictOf [⟨PyData.keyHash w.params "connections", .str "connections" u1, .ref C⟩, ⟨PyData.keyHash w.params "listeners", .str "listeners" u2, .ref D⟩] un'), (C, oC), (D, oD), (Le, listOf vs n)], ¬ TupObj p.2 :=
    all_cons (fun c => absurd c.1 (by simp)) (all_cons (fun c => absurd c.1 (by simp)) (all_cons (fun c => absurd c.1 (by rw [hcC.1]; simp)) (all_cons (fun c => absurd c.1 (by rw [hcD.1]; simp)) (all_cons (fun c => absurd c.1 (by simp)) all_nil))))
  have hk' : ∀ x o, H.get? x = some o → h₀.get? x = some o := h₀_eq ▸ hideLow (ps := [(X, oC), (DX, oC), (C, oC), (D, oC), (Le, oC)]) hk (all_cons hXH (all_cons hDXH (all_cons hCH (all_cons hDH (all_cons hEH all_nil)))))
  have kt : KeepT hZ h₀ := by
    have k := keptHide hps hpt
    rw [← h₀_eq]
    exact k
  have W' := W.keeps hk'
  have X' := W.K.keeps hk'
  have T' := T.keeps hk'
  have re' := rdEnt_keep kt re
  have he' : RdAll h₀ vs.toList (M.map entD) := rdAll_keep (by intro d hd v r; obtain ⟨x, -, rfl⟩ := List.mem_map.mp hd; exact rdEnt_keep kt r) he
  k_dflt (refine' enterZ (K := Mine.hd.heap_39 w.params) (binds := [("table", .ref X), ("entries", .ref Le), ("entry", .ref ae)]) [X, DX, C, D, Le] L_eq h₀_eq (W.K.keeps hk) (T.keeps hk).nolimit ?k6 ?k7 ?k8 ?k9 ?kB ?kD ?_ ?c2 ?c3 ?c4; (case k6 => k_is); (case k7 => k_is); (case k8 => (dsimp only; rw [show recursionLimit = 1000 from rfl]; omega)); (case k9 => exact BindsTo.of_eq rfl); (case kB => exact rfl); (case kD => decide +kernel); (case c2 => exact rfl); (case c3 => exact rfl); (case c4 => exact rfl))
  intro h₁ tk₁ cells F Nc Y hk₁ hab
  obtain ⟨oc, rfl, dc⟩ := CellsAre.one Y
  have N : News h₀ L h₁ [(L + 1, oc), (X, instObj 99 DX), (DX, dictOf [⟨PyData.keyHash w.params "connections", .str "connections" u1, .ref C⟩, ⟨PyData.keyHash w.params "listeners", .str "listeners" u2, .ref D⟩] un'), (C, oC), (D, oD), (Le, listOf vs n)] := by
    intro p hp
    rcases List.mem_cons.mp hp with rfl | hp
    · exact Nc _ (.head _)
    · have k := newsStart hps hk₁
      rw [← h₀_eq, ← L_eq]
      exact k p hp
  have hend : ∀ {h' : Heap} {m news}, Fr h₀ L h' m → News h₀ L h' news → (∀ p ∈ [(X, instObj 99 DX), (DX, dictOf [⟨PyData.keyHash w.params "connections", .str "connections" u1, .ref C⟩, ⟨PyData.keyHash w.params "listeners", .str "listeners" u2, .ref D⟩] un'), (C, oC), (D, oD), (Le, listOf vs n)], p ∈ news) → ∀ x o, hZ.get? x = some o → h'.get? x = some o :=
    fun F N hm => unhideL hps h₀_eq.symm F N hm
  have hX0 := lt_L hX
  have hDX0 := lt_L hDX
  have hC0 := lt_L hoC
  have hD0 := lt_L hoD
  have hL0 := lt_L hl
  have dC : C ≠ Le := ne_cls hoC hl (by rw [hcC.1]; simp)
  have dD : D ≠ Le := ne_cls hoD hl (by rw [hcD.1]; simp)
  have dX : X ≠ Le := ne_cls hX hl (by simp)
  have dDX : DX ≠ Le := ne_cls hDX hl (by simp)
  have dXD : X ≠ D := ne_cls hX hoD (by rw [hcD.1]; simp)
  have dXC : X ≠ C := ne_cls hX hoC (by rw [hcC.1]; simp)
  clear hps hpt
  try dsimp only at *
  clear hk₁ Y Nc hab
  obtain ⟨lo, rem, ow⟩ := e
  obtain ⟨_, v1, v2, to, q, hT, r1, r2⟩ := ent_inv re'
  cases q
  dsimp only at hT r1 r2
  obtain ⟨_, ta, tb', q, hTl⟩ := pt_inv r1
  cases q
  (all_goals try k_fold)
  k_steps
  have hvs : vs.size = M.length := by have := rdAll_length he; simpa using this
  have hvz : vs.size ≤ sizeLine := by rw [sizeLine_eq]; omega
  refine CompSrcT.ledger (by exact rfl) (by assumption) (by assumption) (by k_mem) (by rw [sizeLine_eq]; omega) ?_
  intro hp₁
  refine compT_ind (all := vs.toList) (Rel := fun v e => Rd h₀ v (entD e)) (fun x : Ent => decide (x.1 = lo ∧ x.2.1 = rem)) (fun i v q => by rw [Array.getElem?_toList]; exact q) (.inr ⟨_, by k_mem, rfl, _, rfl⟩) (fun _ => rfl) (fun _ => rfl) (by decide) ?_ (vals := vs.toList) (M' := M) 0 [] (zip_of_rdAll he') rfl ?_
  · rintro v ⟨lo', rem', ow'⟩ I oI Cc oC2 Dl m₂ hp₂ tk₂ E' ys hv hNs hmx F₂ N₂ off2 ne2
    obtain ⟨_, w1, w2, to', q, hT', r1', r2'⟩ := ent_inv hv
    cases q
    dsimp only at hT' r1' r2'
    (repeat' (first | (k_unfold; (try dsimp only)) | (k_end; kc_close) | ((fail_if_success (with_reducible show wpAny _ _ (subscriptTail _ _ (.ref _) (.ref _)) _ _ _)); first | walk1 | (dsimp only; walk1) | (leave1; walk_say "STEP leave1"; (try dsimp only)))))
    refine slice_two (by assumption) (by assumption) (Fr.tup (by assumption) hT') ?_
    intro hp₃ r3 F₃ N₃ l3
    (repeat' (first | (k_unfold; (try dsimp only)) | (k_end; kc_close) | ((fail_if_success (with_reducible show wpAny _ _ (subscriptTail _ _ (.ref _) (.ref _)) _ _ _)); first | walk1 | (dsimp only; walk1) | (leave1; walk_say "STEP leave1"; (try dsimp only)))))
    refine slice_two (by assumption) (by assumption) (Fr.tup (by assumption) hT) ?_
    intro hp₄ r4 F₄ N₄ l4
    refine eq_rd (rdN (by assumption) (.tail _ (.head _)) (ds := [ptD lo', remD rem']) (rdAll_cons'.mpr ⟨rdF (by assumption) r1', rdAll_cons'.mpr ⟨rdF (by assumption) r2', .nil⟩⟩)) (rdN (by assumption) (.head _) (ds := [ptD lo, remD rem]) (rdAll_cons'.mpr ⟨rdF (by assumption) r1, rdAll_cons'.mpr ⟨rdF (by assumption) r2, .nil⟩⟩)) (lay_half _ _) (lay_half _ _) (by have := depth_half lo' rem'; simp only [units_deeper, cLine]; omega) ?_
    rw [eqv_half]
    exact wpAny_truthy_bool ⟨rfl, _, _, rfl, by assumption, fun p hp => N₄ p (.tail _ (.tail _ hp))⟩
  · intro zs hz
    rw [List.nil_append]
    (repeat' (first | (k_unfold; (try dsimp only)) | (k_end; kc_close) | ((fail_if_success (with_reducible show wpAny _ _ (compareOp .NotEq (.ref _) (.ref _)) _ _ _)); first | walk1 | (dsimp only; walk1) | (leave1; walk_say "STEP leave1"; (try dsimp only)))))
    refine ne_nil (News.isList (by assumption) (by k_mem)) (News.isList (by assumption) (by k_mem)) (by simp only [units_deeper, cLine]; omega) ?_
    rw [zip_any hz]
    (repeat' (first | (k_unfold; (try dsimp only)) | (k_end; kc_close) | ((fail_if_success (with_reducible show wpAny _ _ (exec (.Try ..) _) _ _ _)); first | walk1 | (dsimp only; walk1) | (leave1; walk_say "STEP leave1"; (try dsimp only)))))
    refine wpAny_Try_except ?_
    k_steps
    cases rem with
    | none =>
      obtain rfl := rd_none.mp r2
      k_steps
      rename News _ _ _ _ => Nx
      rename Fr _ _ _ _ => Fx
      have hcur := hend Fx Nx (all_cons (by k_mem) (all_cons (by k_mem) (all_cons (by k_mem) (all_cons (by k_mem) (all_cons (by k_mem) all_nil)))))
      refine wpAny_call (listen_spec (a := lo.1) (p := lo.2) W (fun x o e => Fx.keep x o (hk' x o e)) hXH hDXH hDH (frames_push _ hFF L_eq hk Fx hcur (fun q => nomatch q) rfl) (tb₀.keeps hcur) (by have := lsts_len M; omega) (by dsimp only; omega) (by dsimp only; omega) ?_ ?_)
      · intro hn h' tk' hkx hc'
        have hany := (lsts_none M lo).mp hn
        have F₄ := frAfter (S := [D]) Fx (fun a ha => by rw [List.mem_singleton.mp ha]; exact ⟨Nx.fresh (by k_mem), Nat.ne_of_gt hD0⟩) (fun x o hx => hkx x o (by simpa using hx))
        have hLe' : h'.get? Le = some (listOf vs n) := hkx _ _ (Ne.symm dD) (Nx.get (by k_mem))
        have hoc' : h'.get? (L + 1) = some oc := hkx _ _ (Nat.ne_of_gt (Nat.lt_succ_of_lt hD0)) (Nx.get (by k_mem))
        have N₄ : News h₀ L h' ((Le, listOf vs n) :: (L + 1, oc) :: rest h₀ h' [L, Le, L + 1]) := fun p hp => by
          rcases List.mem_cons.mp hp with rfl | hp
          · exact ⟨hLe', Nat.ne_of_lt hL0, Nx.fresh (by k_mem)⟩
          rcases List.mem_cons.mp hp with rfl | hp
          · exact ⟨hoc', Nat.succ_ne_self L, Nx.fresh (by k_mem)⟩
          · exact rest_news (.head _) p hp
        have hoffT : ∀ p ∈ rest h₀ h' [L, Le, L + 1], p.1 ≠ Le := rest_off (by simp)
        have hoffT2 : ∀ p ∈ rest h₀ h' [L, Le, L + 1], p.1 ≠ L + 1 := rest_off (by simp)
        have hoffA : ∀ p ∈ (L + 1, oc) :: rest h₀ h' [L, Le, L + 1], p.1 ≠ Le := all_cons (P := fun p => p.1 ≠ Le) (Nat.ne_of_gt (Nat.lt_succ_of_lt hL0)) hoffT
        have hkx' := fun x o hx e => hkx x o hx (hcur x o e)
        have hback := fun {hf m' news} => @rest_back h₀ h' hf L [L, Le, L + 1] _ m' news F₄
        have hns := F₄.ns
        clear hcur Fx Nx hkx
        generalize rest h₀ h' [L, Le, L + 1] = tl at *
        dsimp only
        (repeat' (first | (k_unfold; (try dsimp only)) | (k_end; kc_close) | ((fail_if_success (with_reducible show wpAny _ _ (call (Value.builtin "list.append") [Value.ref _, _]) _ _ _)); first | walk1 | (dsimp only; walk1) | (leave1; walk_say "STEP leave1"; (try dsimp only)))))
        k_dflt (refine' append_K ?pa1 ?pa2 ?pa3 ?_ ?paz; (case pa1 => k_asm); (case pa2 => k_asm); (case pa3 => exact Upd.head (by assumption)); (case paz => assumption))
        intro hpa Fpa Npa
        (try k_sweep)
        k_steps
        dsimp only
        rename News _ _ _ _ => Nf
        rename Fr _ _ _ _ => Ff
        obtain ⟨k1, k2, k3, k4, k5⟩ := put_done (C := C) (D := D) (outer := outer) L_eq hkx' (hback Ff Nf (fun p hp => .tail _ (.tail _ hp))) hLe' hns hoc' dc (by simp) hoD (fun c => absurd c.1 (by rw [hcD.1]; simp)) dD hFN (fun x hx => hoff x (by simp at hx ⊢; rcases hx with h | h | h <;> simp [h]))
        rw [putM_new hany, conns_lst, lsts_lst] at h
        rw [hany]
        exact h _ _ _ _ k1 ⟨k4 _ _ dXD dX hX, ⟨_, k4 _ _ (Ne.symm hne3) dDX hDX, _, _, _, rfl⟩, tb₀.con.keep k3 fun o e => k4 _ o hne1 dC e, hc'.keep k2 k5, hne1, hne2, hne3⟩ (Nf.get (.head _)) (ent_push (ent_keepT k3 he) (rdEnt_keep k3 re))
      · intro hn h' tk' e ⟨⟨a0, hfl⟩, hsm⟩
        have hany := mt (lsts_none M lo).mpr hn
        rw [Bool.not_eq_false] at hany
        refine wpAny_looks_onW rfl rfl hfl fun h₄ hheld₄ hsm₄ => ?_
        refine wpAny_landsW hheld₄ fun h₅ hfl₅ hsm₅ => ?_
        have F₅ := fr_after Fx rfl hfl₅.1 ((hsm.trans hsm₄).trans hsm₅)
        have hlow : ∀ x o, H.get? x = some o → (hideAll h₀ (framesOf outer)).get? x = some o := fun x o e => hideAll_get _ (hk' x o e) (frames_low hFF x o e)
        have T₅ := T.keeps hlow
        have X₅ := W.K.keeps hlow
        clear T' X'
        generalize hg : hideAll h₀ (framesOf outer) = g₀ at *
        refine handle_port ?_
        k_steps
        refine ⟨rfl, X₅.keeps F₅.keep, hfl₅.there, ?_⟩
        refine lands_againW hfl₅ fun h₆ hfl₆ hsm₆ => ?_
        have F₆ := fr_after Fx rfl hfl₆.1 (((hsm.trans hsm₄).trans hsm₅).trans hsm₆)
        rw [hg] at F₆
        k_steps
        dsimp only
        obtain ⟨k1, k2, k3, k4⟩ := after_port (M := M) hcur L_eq rfl hfl₆.1 (((hsm.trans hsm₄).trans hsm₅).trans hsm₆) hFN hoff tb₀ hl he
        rw [putM_old hany] at h
        rw [hany]
        exact h _ _ _ _ k1 k2 k3 k4
    | some rr =>
      obtain ⟨_, tc, td, q, hTr⟩ := pt_inv r2
      cases q
      k_steps
      rename News _ _ _ _ => Nx
      rename Fr _ _ _ _ => Fx
      have hcur := hend Fx Nx (all_cons (by k_mem) (all_cons (by k_mem) (all_cons (by k_mem) (all_cons (by k_mem) (all_cons (by k_mem) all_nil)))))
      refine wpAny_call (connect_spec W (fun x o e => Fx.keep x o (hk' x o e)) hXH hDXH hCH (rdF Fx r1) (rdF Fx r2) (frames_push _ hFF L_eq hk Fx hcur (fun q => nomatch q) rfl) (tb₀.keeps hcur) (by have := conns_len M; omega) (by dsimp only; omega) (by dsimp only; omega) ?_ ?_)
      · intro hn h' tk' hkx hc'
        have hany := (conns_some M lo rr).mp hn
        have F₄ := frAfter (S := [C]) Fx (fun a ha => by rw [List.mem_singleton.mp ha]; exact ⟨Nx.fresh (by k_mem), Nat.ne_of_gt hC0⟩) (fun x o hx => hkx x o (by simpa using hx))
        have hLe' : h'.get? Le = some (listOf vs n) := hkx _ _ (Ne.symm dC) (Nx.get (by k_mem))
        have hoc' : h'.get? (L + 1) = some oc := hkx _ _ (Nat.ne_of_gt (Nat.lt_succ_of_lt hC0)) (Nx.get (by k_mem))
        have N₄ : News h₀ L h' ((Le, listOf vs n) :: (L + 1, oc) :: rest h₀ h' [L, Le, L + 1]) := fun p hp => by
          rcases List.mem_cons.mp hp with rfl | hp
          · exact ⟨hLe', Nat.ne_of_lt hL0, Nx.fresh (by k_mem)⟩
          rcases List.mem_cons.mp hp with rfl | hp
          · exact ⟨hoc', Nat.succ_ne_self L, Nx.fresh (by k_mem)⟩
          · exact rest_news (.head _) p hp
        have hoffT : ∀ p ∈ rest h₀ h' [L, Le, L + 1], p.1 ≠ Le := rest_off (by simp)
        have hoffT2 : ∀ p ∈ rest h₀ h' [L, Le, L + 1], p.1 ≠ L + 1 := rest_off (by simp)
        have hoffA : ∀ p ∈ (L + 1, oc) :: rest h₀ h' [L, Le, L + 1], p.1 ≠ Le := all_cons (P := fun p => p.1 ≠ Le) (Nat.ne_of_gt (Nat.lt_succ_of_lt hL0)) hoffT
        have hkx' := fun x o hx e => hkx x o hx (hcur x o e)
        have hback := fun {hf m' news} => @rest_back h₀ h' hf L [L, Le, L + 1] _ m' news F₄
        have hns := F₄.ns
        clear hcur Fx Nx hkx
        generalize rest h₀ h' [L, Le, L + 1] = tl at *
        dsimp only
        (repeat' (first | (k_unfold; (try dsimp only)) | (k_end; kc_close) | ((fail_if_success (with_reducible show wpAny _ _ (call (Value.builtin "list.append") [Value.ref _, _]) _ _ _)); first | walk1 | (dsimp only; walk1) | (leave1; walk_say "STEP leave1"; (try dsimp only)))))
        k_dflt (refine' append_K ?pb1 ?pb2 ?pb3 ?_ ?pbz; (case pb1 => k_asm); (case pb2 => k_asm); (case pb3 => exact Upd.head (by assumption)); (case pbz => assumption))
        intro hpb Fpb Npb
        (try k_sweep)
        k_steps
        dsimp only
        rename News _ _ _ _ => Nf
        rename Fr _ _ _ _ => Ff
        obtain ⟨k1, k2, k3, k4, k5⟩ := put_done (C := C) (D := D) (outer := outer) L_eq hkx' (hback Ff Nf (fun p hp => .tail _ (.tail _ hp))) hLe' hns hoc' dc (by simp) hoC (fun c => absurd c.1 (by rw [hcC.1]; simp)) dC hFN (fun x hx => hoff x (by simp at hx ⊢; rcases hx with h | h | h <;> simp [h]))
        rw [putM_new hany, conns_con, lsts_con] at h
        rw [hany]
        exact h _ _ _ _ k1 ⟨k4 _ _ dXC dX hX, ⟨_, k4 _ _ (Ne.symm hne2) dDX hDX, _, _, _, rfl⟩, hc'.keep k2 k5, tb₀.lst.keep k3 fun o e => k4 _ o (Ne.symm hne1) dD e, hne1, hne2, hne3⟩ (Nf.get (.head _)) (ent_push (ent_keepT k3 he) (rdEnt_keep k3 re))
      · intro hn h' tk' e ⟨⟨a0, hfl⟩, hsm⟩
        have hany := mt (conns_some M lo rr).mpr hn
        rw [Bool.not_eq_false] at hany
        refine wpAny_looks_onW rfl rfl hfl fun h₄ hheld₄ hsm₄ => ?_
        refine wpAny_landsW hheld₄ fun h₅ hfl₅ hsm₅ => ?_
        have F₅ := fr_after Fx rfl hfl₅.1 ((hsm.trans hsm₄).trans hsm₅)
        have hlow : ∀ x o, H.get? x = some o → (hideAll h₀ (framesOf outer)).get? x = some o := fun x o e => hideAll_get _ (hk' x o e) (frames_low hFF x o e)
        have T₅ := T.keeps hlow
        have X₅ := W.K.keeps hlow
        clear T' X'
        generalize hg : hideAll h₀ (framesOf outer) = g₀ at *
        refine handle_port ?_
        k_steps
        refine ⟨rfl, X₅.keeps F₅.keep, hfl₅.there, ?_⟩
        refine lands_againW hfl₅ fun h₆ hfl₆ hsm₆ => ?_
        have F₆ := fr_after Fx rfl hfl₆.1 (((hsm.trans hsm₄).trans hsm₅).trans hsm₆)
        rw [hg] at F₆
        k_steps
        dsimp only
        obtain ⟨k1, k2, k3, k4⟩ := after_port (M := M) hcur L_eq rfl hfl₆.1 (((hsm.trans hsm₄).trans hsm₅).trans hsm₆) hFN hoff tb₀ hl he
        rw [putM_old hany] at h
        rw [hany]
        exact h _ _ _ _ k1 k2 k3 k4
theorem fin : PC cx := by with_unfolding_all exact core
end PutZ
theorem put_spec {w : World} {dp un : Nat} {outer : List Env} {gd : Option (List Code)} {R : Result → Shared → Prop} {s : Shared} {H : Heap} {X DX C D Le ae : Addr} {cl : List ((P2 × P2) × Int)} {ll : List (P2 × Int)} {M : List Ent} {vs : Array Value} {n : Nat} {e : Ent}
    (W : Wld w H) (hk : ∀ x o, H.get? x = some o → s.heap.get? x = some o) (hXH : H.get? X = none) (hDXH : H.get? DX = none) (hCH : H.get? C = none) (hDH : H.get? D = none) (hEH : H.get? Le = none)
    (hFF : s.heap.FunFrames H outer) (hFN : ∀ x ∈ framesOf outer, ∃ m, s.heap.Ns x m) (hoff : ∀ x ∈ [X, DX, C, D, Le], x ∉ framesOf outer)
    (tb : TabIs w H s.heap X DX C D (conns M) (lsts M)) (hM : M.length ≤ 900) (hl : s.heap.get? Le = some (listOf vs n)) (he : RdAll s.heap vs.toList (M.map entD)) (re : Rd s.heap (.ref ae) (entD e)) (hdp : dp < 380) (hun : un < 380)
    (h : ∀ h' tk vs' n', KeptF outer [C, D, Le] s.heap h' → TabIs w H h' X DX C D (conns (putM M e)) (lsts (putM M e)) → h'.get? Le = some (listOf vs' n') → RdAll h' vs'.toList ((putM M e).map entD) → R (.ok (.ret (.bool true))) { s with heap := h', toks := tk }) :
    codeAny (model PySem.Challenge.pw_nu0119_01 w) ⟨none, dp, some outer, gd, un⟩ (.call (.ref 143) ⟨[.ref X, .ref Le, .ref ae], []⟩) R s := by
  obtain ⟨_, hDX, u1, u2, un', rfl⟩ := tb.2; obtain ⟨oC, hoC, hcC⟩ := con_obj tb.con; obtain ⟨oD, hoD, hcD⟩ := lst_obj tb.lst
  exact
  zxAll (P := PutZ.PC) PutZ.fin { zx₀ with w := w, k0 := dp, k1 := un, ou := outer, gd := gd, R := R, s := s, H := H, A0 := X, A1 := DX, A2 := C, A3 := D, A4 := Le, A5 := ae, cl := cl, ll := ll, M := M, vs := vs, k2 := n, t0 := u1, t1 := u2, k3 := un', o0 := oC, o1 := oD } e W hk hXH hDXH hCH hDH hEH hFF hFN hoff tb hM hl he re hdp hun h hDX hoC hcC hoD hcD
end Mine
end

section
open PySem PySem.W PySem.Calls PyProof.Rows PySem.Spec PyProof.Rows.LCg
set_option maxRecDepth 100000
namespace Mine
theorem neNat {a b : Nat} (h : a ≠ b) : a ≠ b := h
theorem ltN {a b : Nat} (h : a < b) : a < b := h

section
variable {prog : Program} {w : World} {A : Around} {E : Value → Shared → Prop} {s : Shared} {env : Env} {h₀ : Heap} {x : Str} {body : List Stmt} {Q : Flow → Shared → Prop}

theorem walk_loop2 {I : Addr} {fp : List Addr} {n : Nat} {P : Nat → Value → Prop} {St : Nat → Heap → Prop} {m₀ : Str → Option Value} {news kp : List (Addr × Obj)} (J : Nat → (Str → Option Value) → List (Addr × Obj) → Prop)
    (W : Walks prog w A I fp [I] n P St) (hI : I ∈ fp) (hLf : env.locals ∉ fp) (hIn : h₀.get? I = none) (hfp : ∀ b ∈ fp, b = I ∨ (∃ o, h₀.get? b = some o) ∨ ∃ o, (b, o) ∈ kp) (hISt : ∀ i h, St i h → ∃ o, h.get? I = some o)
    (hnw : ∀ p ∈ news, p.1 ≠ I) (hst : St 0 s.heap) (F : Fr h₀ env.locals s.heap m₀) (N : News h₀ env.locals s.heap news) (hj : J 0 m₀ news) (hkp : ∀ i m nx, J i m nx → ∀ p ∈ kp, p ∈ nx)
    (turn : ∀ i v m₁ news₁ h tk oI, i < n → P i v → J i m₁ news₁ → (∀ p ∈ news₁, p.1 ≠ I) → Fr h₀ env.locals h (fun y => if y = x then some v else m₁ y) → News h₀ env.locals h ((I, oI) :: news₁) →
      wpAny (model prog w) A (execs body env) (LEnd h₀ env.locals I oI (J (i + 1)) { s with heap := h, toks := tk } Q) E { s with heap := h, toks := tk })
    (done : ∀ m₁ news₁ h tk, J n m₁ news₁ → Fr h₀ env.locals h m₁ → News h₀ env.locals h news₁ → Q .next { s with heap := h, toks := tk }) :
    LoopAtV prog w A h₀ env x body Q E (.ref I) s := by
  refine ⟨I, fp, [I], n, P, St, m₀, news, J, rfl, W, hLf, fun b hb => by rw [List.mem_singleton.mp hb]; exact hIn, fun p hp hq => hnw p hp (List.mem_singleton.mp hq), hst, F, N, hj, ?_, ?_⟩
  · rintro i v m₁ news₁ s₁ own ⟨hh', tk', rfl⟩ hin hP hJ hoff hown hownAt hownAll hSt F₁ N₁
    obtain ⟨oI, hoI⟩ := hISt _ _ hSt
    have hIo : (I, oI) ∈ own := hownAll I hI hIn oI hoI
    have one : ∀ p ∈ own, p = (I, oI) ∨ p ∈ kp := by
      rintro ⟨b, ob⟩ hp
      rcases hfp b (hown _ hp) with e | ⟨o, e⟩ | ⟨o, e⟩
      · subst e
        have := hownAt _ hp
        rw [hoI] at this
        cases this; exact .inl rfl
      · have := (N₁ _ (List.mem_append_left _ hp)).2.2
        rw [e] at this; cases this
      · have h1 := (N₁ _ (List.mem_append_right _ (hkp _ _ _ hJ _ e))).1
        have h2 := hownAt _ hp
        dsimp only at h1 h2
        rw [h2] at h1; cases h1
        exact .inr e
    have N₂ : News h₀ env.locals hh' ((I, oI) :: news₁) := by
      intro p hp
      rcases List.mem_cons.mp hp with rfl | hp
      · exact N₁ _ (List.mem_append_left _ hIo)
      · exact N₁ _ (List.mem_append_right _ hp)
    refine wpAny_mono (turn i v m₁ news₁ hh' tk' oI hin hP hJ (fun p hp q => hoff p hp (by rw [q]; exact .head _)) F₁ N₂) (fun f s₂ z => ?_) fun _ _ e => e
    have fin : (∃ h' tk m' nx, s₂ = { s with heap := h', toks := tk } ∧ Fr h₀ env.locals h' m' ∧ News h₀ env.locals h' ((I, oI) :: nx) ∧ (∀ p ∈ nx, p.1 ≠ I) ∧ J (i + 1) m' nx) → LoopStepU h₀ env.locals [I] own (J (i + 1)) { s with heap := hh', toks := tk' } .next s₂ := by
      rintro ⟨h', tk, m', nx, rfl, F', N', hn, hj'⟩
      refine ⟨rfl, h', tk, m', nx, rfl, F', ?_, fun p hp q => hn p hp (List.mem_singleton.mp q), hj'⟩
      intro p hp
      rcases List.mem_append.mp hp with hp | hp
      · rcases one p hp with e | e
        · rw [e]; exact N' _ (.head _)
        · exact N' _ (.tail _ (hkp _ _ _ hj' _ e))
      · exact N' _ (.tail _ hp)
    cases f with
    | ret v => exact .ret z
    | brk => exact .brk z
    | next => exact .next (fin z)
    | cont => exact .cont (fin z)
  · rintro h' tk m' news' F' N' _ hJ
    exact done m' news' h' tk hJ F' N'

/-- for x in l, l a list of the ledger that stays -/
theorem list_loopN {l : Addr} {vs : List Value} {m₀ : Str → Option Value} {news : List (Addr × Obj)} (J : Nat → (Str → Option Value) → List (Addr × Obj) → Prop)
    (hh : A.handled = none) (F : Fr h₀ env.locals s.heap m₀) (N : News h₀ env.locals s.heap news) (hl : (l, lst vs) ∈ news) (hj : J 0 m₀ news) (hkp : ∀ i m nx, J i m nx → (l, lst vs) ∈ nx)
    (turn : ∀ i v m₁ news₁ h tk I oI, vs[i]? = some v → J i m₁ news₁ → (∀ p ∈ news₁, p.1 ≠ I) → Fr h₀ env.locals h (fun y => if y = x then some v else m₁ y) → News h₀ env.locals h ((I, oI) :: news₁) →
      wpAny (model prog w) A (execs body env) (LEnd h₀ env.locals I oI (J (i + 1)) { s with heap := h, toks := tk } Q) E { s with heap := h, toks := tk })
    (done : ∀ m₁ news₁ h tk, J vs.length m₁ news₁ → Fr h₀ env.locals h m₁ → News h₀ env.locals h news₁ → Q .next { s with heap := h, toks := tk }) :
    wpAny (model prog w) A (pyIter (.ref l)) (fun it s₂ => LoopAtV prog w A h₀ env x body Q E it s₂) E s := by
  have hls : s.heap.IsList l vs.toArray := News.isList N hl
  have hlt : l < s.heap.objs.size := Heap.lt_size (N.get hl)
  have hne : l ≠ s.heap.objs.size := Nat.ne_of_lt hlt
  have hlL : l ≠ env.locals := (N _ hl).2.1
  refine wpAny_pyIter_list hls ?_
  have hLs : env.locals < s.heap.objs.size := F.ns.lt
  refine walk_loop2 (kp := [(l, lst vs)]) (s := { s with heap := s.heap.push { cls := .type "list_iterator", data := .fields #[.ref l, .int 0 0] } }) J (Walks.list hh s.heap.objs.size l hne vs.toArray) (.head _) ?_ (next_is_new F) ?_ ?_ ?_
    ⟨⟨_, Heap.get?_push_size _ rfl, rfl, rfl⟩, hls.at fun o e => Heap.get?_push_of_some _ e⟩ (F.push _) (fun p hp => ⟨Heap.get?_push_of_some _ (N p hp).1, (N p hp).2⟩) hj (fun i m nx q p hp => List.mem_singleton.mp hp ▸ hkp i m nx q)
    (fun i v m₁ news₁ h tk oI hi hP => turn i v m₁ news₁ h tk _ oI (by simpa using hP)) (by simpa using done)
  · intro hm
    rcases List.mem_cons.mp hm with e | hm
    · exact absurd hLs (e ▸ Nat.lt_irrefl _)
    · exact hlL (List.mem_singleton.mp hm).symm
  · intro b hb
    rcases List.mem_cons.mp hb with e | hb
    · exact .inl e
    · exact .inr (.inr ⟨lst vs, by rw [List.mem_singleton.mp hb]; exact .head _⟩)
  · rintro i h ⟨⟨o, ho, _⟩, _⟩
    exact ⟨o, ho⟩
  · intro p hp e
    have := Heap.lt_size (N p hp).1
    rw [e] at this
    exact Nat.lt_irrefl _ this
end

section
variable {K : Type} [DecidableEq K]
theorem look_mem {cl : List (K × Int)} (nd : (cl.map (·.1)).Nodup) {x : K × Int} (hx : x ∈ cl) : look cl x.1 = some x.2 := by
  induction cl with
  | nil => cases hx
  | cons y cl ih =>
    rw [List.map_cons, List.nodup_cons] at nd
    unfold Mine.look at ih ⊢
    rw [List.find?_cons]
    rcases List.mem_cons.mp hx with rfl | hx
    · simp
    · have : ¬ y.1 = x.1 := fun e => nd.1 (e ▸ List.mem_map_of_mem hx)
      simp only [this, decide_false]
      exact ih nd.2 hx

noncomputable def remTo (cl M : List (K × Int)) (i : Nat) : List (K × Int) := cl.filter fun x => !decide (x.1 ∈ (M.take i).map (·.1))
theorem rem_zero (cl M : List (K × Int)) : remTo cl M 0 = cl := by simp [remTo]
theorem rem_len (cl M : List (K × Int)) (i : Nat) : (remTo cl M i).length ≤ cl.length := List.length_filter_le _ _
theorem rem_succ {cl M : List (K × Int)} {i : Nat} {y : K × Int} (h : M[i]? = some y) : (remTo cl M i).filter (fun x => !decide (x.1 = y.1)) = remTo cl M (i + 1) := by
  unfold remTo
  rw [List.filter_filter, take_succ h]
  congr 1
  funext x
  simp only [List.map_append, List.map_cons, List.map_nil, List.mem_append, List.mem_singleton]
  by_cases h1 : x.1 = y.1 <;> by_cases h2 : x.1 ∈ (M.take i).map (·.1) <;> simp [h1, h2]
theorem nodup_take {l : List K} (nd : l.Nodup) {i : Nat} {y : K} (h : l[i]? = some y) : y ∉ l.take i := by
  intro hm
  have h1 : (l.take (i + 1)).Nodup := (List.take_sublist _ _).nodup nd
  rw [take_succ h, List.nodup_append] at h1
  exact h1.2.2 y hm y (by simp) rfl
theorem rem_look {cl : List (K × Int)} {p : K × Int → Bool} (nd : (cl.map (·.1)).Nodup) {i : Nat} {y : K × Int} (h : (cl.filter p)[i]? = some y) : look (remTo cl (cl.filter p) i) y.1 = some y.2 := by
  have hy : y ∈ cl := (List.mem_filter.mp (List.mem_of_getElem? h)).1
  refine look_mem ((List.Sublist.map _ List.filter_sublist).nodup nd) (List.mem_filter.mpr ⟨hy, ?_⟩)
  have nd2 : ((cl.filter p).map (·.1)).Nodup := (List.Sublist.map _ List.filter_sublist).nodup nd
  have := nodup_take nd2 (i := i) (y := y.1) (by rw [List.getElem?_map, h]; rfl)
  simpa using this
theorem rem_end {cl : List (K × Int)} {p : K × Int → Bool} (nd : (cl.map (·.1)).Nodup) : remTo cl (cl.filter p) (cl.filter p).length = cl.filter fun x => !p x := by
  unfold remTo
  rw [List.take_length]
  apply List.filter_congr
  intro x hx
  have : x.1 ∈ (cl.filter p).map (·.1) ↔ p x = true := by
    constructor
    · intro hm
      obtain ⟨y, hy, e⟩ := List.mem_map.mp hm
      obtain ⟨hy1, hy2⟩ := List.mem_filter.mp hy
      have h1 := look_mem nd hy1
      have h2 := look_mem nd hx
      rw [e, h2] at h1
      have : x = y := Prod.ext e.symm (Option.some.inj h1)
      rw [this]; exact hy2
    · intro hp
      exact List.mem_map_of_mem (List.mem_filter.mpr ⟨hx, hp⟩)
  by_cases hp : p x = true
  · simp [this.mpr hp, hp]
  · have h2 : ¬ x.1 ∈ (cl.filter p).map (·.1) := fun q => hp (this.mp q)
    simp only [h2, decide_false, hp]

variable {prog : Program} {w : World}
/-- a dict's object, its keys read by rd -/
noncomputable def DicO (knd : HeapKind prog w K) (rd : K → Addr → Prop) (o : Obj) (xs : List (K × Addr × Value)) : Prop :=
  o.ExactDict ∧ ∃ es ep, o.data = .dict es ep ∧ es.toList = xs.map (entryOfKey knd) ∧ (∀ x ∈ xs, rd x.1 x.2.1) ∧ (xs.map (·.1)).Nodup
variable {knd : HeapKind prog w K} {rd : K → Addr → Prop} {o : Obj} {xs : List (K × Addr × Value)}
theorem DicO.at {h : Heap} {Z : Addr} (d : DicO knd rd o xs) (e : h.get? Z = some o) (k : ∀ x a, rd x a → knd.is h x a) : h.DictOfH knd Z xs := by
  obtain ⟨hc, es, ep, hd, he, hr, hn⟩ := d
  exact ⟨o, es, ep, e, hc, hd, he, fun x hx => k _ _ (hr x hx), hn⟩
theorem DicO.of {h : Heap} {Z : Addr} (d : h.DictOfH knd Z xs) (k : ∀ x ∈ xs, rd x.1 x.2.1) : ∃ o, h.get? Z = some o ∧ DicO knd rd o xs := by
  obtain ⟨o, es, ep, e, hc, hd, he, hr, hn⟩ := d
  exact ⟨o, e, hc, es, ep, hd, he, k, hn⟩
theorem zip_keys {xs : List (K × Addr × Value)} {cl : List (K × Int)} (v : VsAre xs cl) (k : ∀ x ∈ xs, rd x.1 x.2.1) {S : K × Int → Prop} (hS : ∀ x ∈ cl, S x) : Zip (fun v x => ∃ a, v = .ref a ∧ rd x.1 a ∧ S x) (xs.map fun x => Value.ref x.2.1) cl := by
  induction v with
  | nil => exact .nil
  | cons _ ih => exact .cons ⟨_, rfl, k _ (.head _), hS _ (.head _)⟩ (ih (fun x hx => k x (.tail _ hx)) fun x hx => hS x (.tail _ hx))
theorem key_at {es : Array DictEntry} {xs : List (K × Addr × Value)} (he : es.toList = xs.map (entryOfKey knd)) {i : Nat} {v : Value} (q : (es[i]?).map (·.key) = some v) : (xs.map fun x => Value.ref x.2.1)[i]? = some v := by
  rw [entry_at he] at q
  rw [List.getElem?_map]
  cases e : xs[i]? with
  | none => rw [e] at q; cases q
  | some x => rw [e] at q; exact q
theorem updRe {d : Addr} {o : Obj} {l : List (Addr × Obj)} {g : Obj → List (Addr × Obj)} (U : UpdF d o l g) : ∀ o', UpdF d o' (g o') g := by
  induction U with
  | head h => exact fun o' => .head h
  | tail h _ ih => exact fun o' => .tail h (ih o')
theorem pop_loop {A : Around} {E : Value → Shared → Prop} {s : Shared} {env : Env} {h₀ : Heap} {x : Str} {body : List Stmt} {Q : Flow → Shared → Prop} {l Z : Addr} {oZ : Obj} {g : Obj → List (Addr × Obj)} {vs : List Value} {m₀ : Str → Option Value} {news : List (Addr × Obj)} (J : Nat → (Str → Option Value) → Obj → Prop)
    (hh : A.handled = none) (F : Fr h₀ env.locals s.heap m₀) (N : News h₀ env.locals s.heap news) (U : UpdF Z oZ news g) (hl : ∀ o, (l, lst vs) ∈ g o) (hj : J 0 m₀ oZ)
    (turn : ∀ i v m₁ o h tk I oI, vs[i]? = some v → J i m₁ o → (∀ o', ∀ p ∈ g o', p.1 ≠ I) → UpdF Z o ((I, oI) :: g o) (fun o' => (I, oI) :: g o') → Fr h₀ env.locals h (fun y => if y = x then some v else m₁ y) → News h₀ env.locals h ((I, oI) :: g o) →
      wpAny (model prog w) A (execs body env) (LEnd h₀ env.locals I oI (fun m nx => ∃ o, nx = g o ∧ J (i + 1) m o) { s with heap := h, toks := tk } Q) E { s with heap := h, toks := tk })
    (done : ∀ m₁ o h tk, J vs.length m₁ o → Fr h₀ env.locals h m₁ → News h₀ env.locals h (g o) → Q .next { s with heap := h, toks := tk }) :
    wpAny (model prog w) A (pyIter (.ref l)) (fun it s₂ => LoopAtV prog w A h₀ env x body Q E it s₂) E s := by
  obtain ⟨pre, post, e, hg, hp1, hp2⟩ := id U.split
  have hg' : news = g oZ := by rw [e, hg]
  refine list_loopN (fun i m nx => ∃ o, nx = g o ∧ J i m o) hh F N (hg' ▸ hl oZ) ⟨oZ, hg', hj⟩ (by rintro i m _ ⟨o, rfl, -⟩; exact hl o) ?_ ?_
  · rintro i v m₁ _ h tk I oI hv ⟨o, rfl, hJ⟩ hoff F₁ N₁
    have ho2 : ∀ o', ∀ p ∈ g o', p.1 ≠ I := fun o' p hp => by
      rw [hg] at hp
      rcases List.mem_append.mp hp with q | q
      · exact hoff p (by rw [hg]; exact List.mem_append_left _ q)
      · rcases List.mem_cons.mp q with rfl | q
        · exact hoff (Z, o) (by rw [hg]; simp)
        · exact hoff p (by rw [hg]; exact List.mem_append_right _ (.tail _ q))
    have hZI : I ≠ Z := fun q => ho2 o (Z, o) (by rw [hg]; simp) q.symm
    exact turn i v m₁ o h tk I oI hv hJ ho2 (.tail hZI (updRe U o)) F₁ N₁
  · rintro m₁ _ h tk ⟨o, rfl, hJ⟩ F₁ N₁
    exact done m₁ o h tk hJ F₁ N₁
theorem sub_dict {A : Around} {E : Value → Shared → Prop} {s : Shared} {value slice : PySem.Expr} {Z a : Addr} {k : K} {cl : List (K × Int)} {y : Int} {Q : Value → Shared → Prop} (hu : knd.room A.in1.in1) (hu1 : knd.room A.in1) (hkey : knd.is s.heap k a) (hm : s.heap.DictOfH knd Z xs) (v : VsAre xs cl) (hl : look cl k = some y)
    (h : ∀ t, Q (.int y t) { s with toks := s.toks + knd.draws k })
    (hs : subscripted slice false (.ref Z) (.ref a) = operate [.ref Z, .ref a] (getItem (.ref Z) (.ref a)) := by with_unfolding_all rfl) :
    wpAny (model prog w) A (subscriptTail value slice (.ref Z) (.ref a)) Q E s := by
  have z := v.lk k
  rw [hl] at z
  obtain ⟨b, t, z⟩ := z
  exact tail_any hm.typeIs slot_dict_getitem.lookup (wpAny_getItem_heap hu1 hkey hm z (h t)) hs
end
end Mine
end

section
open PySem PySem.W PySem.Calls PyProof.Rows PySem.Spec PyProof.Rows.LCg PyProof.Rows.LCt
set_option maxRecDepth 100000
namespace Mine

local macro_rules | `(tactic| walk_at "eval ListComp") => `(tactic| (k_here; k_dflt (refine ListComp_TD (F₀ := by k_asm) (by with_unfolding_all rfl) (by decide) (by rfl) (by decide) (by rfl) ?_)))
namespace RemoveZ
noncomputable def P (w : World) (dp : Nat) (un : Nat) (fr : Option (List Env)) (gd : Option (List Code)) (R : Result → Shared → Prop) (s : Shared) (H : Heap) (X : Addr) (DX : Addr) (C : Addr) (D : Addr) (cl : List ((P2 × P2) × Int)) (ll : List (P2 × Int)) (ow : Int) (t1 : Tok) (u1 : Tok) (u2 : Tok) (un' : Nat) (oC : Obj) (oD : Obj) : Prop := (Wld w H) → (∀ x o, H.get? x = some o → s.heap.get? x = some o) → (H.get? X = none) → (H.get? DX = none) → (H.get? C = none) → (H.get? D = none) → (TabIs w H s.heap X DX C D cl ll) → (cl.length ≤ 900) → (ll.length ≤ 900) → (dp < 380) → (un < 380) → (∀ h' tk t, (∀ x o, x ∉ [C, D] → s.heap.get? x = some o → h'.get? x = some o) → TabIs w H h' X DX C D (cl.filter fun x => decide (x.2 ≠ ow)) (ll.filter fun x => decide (x.2 ≠ ow)) →
      R (.ok (.ret (.int (((cl.filter fun x => decide (x.2 = ow)).length + (ll.filter fun x => decide (x.2 = ow)).length : Nat) : Int) t))) { s with heap := h', toks := tk }) → (s.heap.get? DX = some (dictOf [⟨PyData.keyHash w.params "connections", .str "connections" u1, .ref C⟩, ⟨PyData.keyHash w.params "listeners", .str "listeners" u2, .ref D⟩] un')) → (s.heap.get? C = some oC) → (oC.ExactDict) → (s.heap.get? D = some oD) → (oD.ExactDict) →
    codeAny (model PySem.Challenge.pw_nu0119_01 w) ⟨none, dp, fr, gd, un⟩ (.call (.ref 79) ⟨[.ref X, .int ow t1], []⟩) R s
noncomputable def PC (c : Zx) : Prop := P c.w c.k0 c.k1 c.fr c.gd c.R c.s c.H c.A0 c.A1 c.A2 c.A3 c.cl c.ll c.i0 c.t0 c.t1 c.t2 c.k2 c.o0 c.o1
noncomputable def cx : Zx := @Classical.epsilon Zx ⟨zx₀⟩ fun c => ¬ PC c
@[irreducible] noncomputable def w : World := cx.w
@[irreducible] noncomputable def dp : Nat := cx.k0
@[irreducible] noncomputable def un : Nat := cx.k1
@[irreducible] noncomputable def fr : Option (List Env) := cx.fr
@[irreducible] noncomputable def gd : Option (List Code) := cx.gd
@[irreducible] noncomputable def R : Result → Shared → Prop := cx.R
@[irreducible] noncomputable def hZ : Heap := cx.s.heap
@[irreducible] noncomputable def sg : Array GenState := cx.s.gens
@[irreducible] noncomputable def sd : Drawn := cx.s.drawn
@[irreducible] noncomputable def st : Nat := cx.s.toks
@[irreducible] noncomputable def so : OsState := cx.s.os
@[irreducible] noncomputable def H : Heap := cx.H
@[irreducible] noncomputable def X : Addr := cx.A0
@[irreducible] noncomputable def DX : Addr := cx.A1
@[irreducible] noncomputable def C : Addr := cx.A2
@[irreducible] noncomputable def D : Addr := cx.A3
@[irreducible] noncomputable def cl : List ((P2 × P2) × Int) := cx.cl
@[irreducible] noncomputable def ll : List (P2 × Int) := cx.ll
@[irreducible] noncomputable def ow : Int := cx.i0
@[irreducible] noncomputable def t1 : Tok := cx.t0
@[irreducible] noncomputable def u1 : Tok := cx.t1
@[irreducible] noncomputable def u2 : Tok := cx.t2
@[irreducible] noncomputable def un' : Nat := cx.k2
@[irreducible] noncomputable def oC : Obj := cx.o0
@[irreducible] noncomputable def oD : Obj := cx.o1
@[irreducible] noncomputable def L : Addr := hZ.objs.size
theorem L_eq : hZ.objs.size = L := by delta L; rfl
theorem lt_L {x : Addr} {o : Obj} (h : hZ.get? x = some o) : x < L := L_eq ▸ Heap.lt_size h
@[irreducible] noncomputable def h₀ : Heap := hideAll hZ [X, DX, C, D]
theorem h₀_eq : hideAll hZ [X, DX, C, D] = h₀ := by delta h₀; rfl
set_option maxHeartbeats 4000000 in
theorem core (W : Wld w H) (hk : ∀ x o, H.get? x = some o → hZ.get? x = some o) (hXH : H.get? X = none) (hDXH : H.get? DX = none) (hCH : H.get? C = none) (hDH : H.get? D = none) (tb : TabIs w H hZ X DX C D cl ll) (hcl : cl.length ≤ 900) (hll : ll.length ≤ 900) (hdp : dp < 380) (hun : un < 380) (h : ∀ h' tk t, (∀ x o, x ∉ [C, D] → hZ.get? x = some o → h'.get? x = some o) → TabIs w H h' X DX C D (cl.filter fun x => decide (x.2 ≠ ow)) (ll.filter fun x => decide (x.2 ≠ ow)) →
      R (.ok (.ret (.int (((cl.filter fun x => decide (x.2 = ow)).length + (ll.filter fun x => decide (x.2 = ow)).length : Nat) : Int) t))) ⟨h', sg, sd, tk, so⟩) (hDX : hZ.get? DX = some (dictOf [⟨PyData.keyHash w.params "connections", .str "connections" u1, .ref C⟩, ⟨PyData.keyHash w.params "listeners", .str "listeners" u2, .ref D⟩] un')) (hoC : hZ.get? C = some oC) (hcC : oC.ExactDict) (hoD : hZ.get? D = some oD) (hcD : oD.ExactDict) :
    codeAny (model PySem.Challenge.pw_nu0119_01 w) ⟨none, dp, fr, gd, un⟩ (.call (.ref 79) ⟨[.ref X, .int ow t1], []⟩) R ⟨hZ, sg, sd, st, so⟩ := by
  obtain ⟨loose, mean, mg, mb, T⟩ := W.T
  have tb₀ := tb
  obtain ⟨hX, -, hC, hD, hne1, hne2, hne3⟩ := tb
  have hps : ∀ p ∈ [(X, instObj 99 DX), (DX, dictOf [⟨PyData.keyHash w.params "connections", .str "connections" u1, .ref C⟩, ⟨PyData.keyHash w.params "listeners", .str "listeners" u2, .ref D⟩] un'), (C, oC), (D, oD)], hZ.get? p.1 = some p.2 :=
    all_cons hX (all_cons hDX (all_cons hoC (all_cons hoD all_nil)))
  have hpt : ∀ p ∈ [(X, instObj 99 DX), (DX, dictOf [⟨PyData.keyHash w.params "connections", .str "connections" u1, .ref C⟩, ⟨PyData.keyHash w.params "listeners", .str "listeners" u2, .ref D⟩] un'), (C, oC), (D, oD)], ¬ TupObj p.2 :=
    all_cons (fun c => absurd c.1 (by simp)) (all_cons (fun c => absurd c.1 (by simp)) (all_cons (fun c => absurd c.1 (by rw [hcC.1]; simp)) (all_cons (fun c => absurd c.1 (by rw [hcD.1]; simp)) all_nil)))
  have hk' : ∀ x o, H.get? x = some o → h₀.get? x = some o := h₀_eq ▸ hideLow (ps := [(X, oC), (DX, oC), (C, oC), (D, oC)]) hk (all_cons hXH (all_cons hDXH (all_cons hCH (all_cons hDH all_nil))))
  have kt : KeepT hZ h₀ := by
    have k := keptHide hps hpt
    rw [← h₀_eq]
    exact k
  have W' := W.keeps hk'
  have X' := W.K.keeps hk'
  have T' := T.keeps hk'
  k_dflt (refine' enterZ (K := Mine.hd.heap_39 w.params) (binds := [("self", .ref X), ("owner", .int ow t1)]) [X, DX, C, D] L_eq h₀_eq (W.K.keeps hk) (T.keeps hk).nolimit ?k6 ?k7 ?k8 ?k9 ?kB ?kD ?_ ?c2 ?c3 ?c4; (case k6 => k_is); (case k7 => k_is); (case k8 => (dsimp only; rw [show recursionLimit = 1000 from rfl]; omega)); (case k9 => exact BindsTo.of_eq rfl); (case kB => exact rfl); (case kD => decide +kernel); (case c2 => exact rfl); (case c3 => exact rfl); (case c4 => exact rfl))
  intro h₁ tk₁ cells F Nc Y hk₁ hab
  obtain ⟨oc, oc', rfl, dc, dc'⟩ := CellsAre.two Y
  have N : News h₀ L h₁ [(L + 1 + 1, oc), (L + 1, oc'), (X, instObj 99 DX), (DX, dictOf [⟨PyData.keyHash w.params "connections", .str "connections" u1, .ref C⟩, ⟨PyData.keyHash w.params "listeners", .str "listeners" u2, .ref D⟩] un'), (C, oC), (D, oD)] := by
    intro p hp
    rcases List.mem_cons.mp hp with rfl | hp
    · exact Nc _ (.head _)
    rcases List.mem_cons.mp hp with rfl | hp
    · exact Nc _ (.tail _ (.head _))
    · have k := newsStart hps hk₁
      rw [← h₀_eq, ← L_eq]
      exact k p hp
  have hX0 := ltN (lt_L hX)
  have hDX0 := ltN (lt_L hDX)
  have hC0 := ltN (lt_L hoC)
  have hD0 := ltN (lt_L hoD)
  have dXD := neNat (ne_cls hX hoD (by rw [hcD.1]; simp))
  have dXC := neNat (ne_cls hX hoC (by rw [hcC.1]; simp))
  have n1 := neNat hne1
  have n2 := neNat hne2
  have n3 := neNat hne3
  obtain ⟨xsC, dC₀, vC, lC, frC⟩ := hC
  obtain ⟨xsD, dD₀, vD, lD⟩ := hD
  have fr2 := frC
  have dOC : DicO (pairKind PySem.Challenge.pw_nu0119_01 w) (fun k a => Rd h₀ (.ref a) (keyD k) ∧ H.get? a = none) oC xsC := by
    obtain ⟨o, es, ep, ho, hc, hd, he, his, hn⟩ := dC₀
    rw [hoC] at ho; cases ho
    exact ⟨hc, es, ep, hd, he, fun x hx => ⟨rdKey_keep kt (his x hx), fr2 x hx⟩, hn⟩
  have dOD : DicO (ptKind PySem.Challenge.pw_nu0119_01 w) (fun k a => Rd h₀ (.ref a) (ptD k)) oD xsD := by
    obtain ⟨o, es, ep, ho, hc, hd, he, his, hn⟩ := dD₀
    rw [hoD] at ho; cases ho
    exact ⟨hc, es, ep, hd, he, fun x hx => rdPt_keep kt (his x hx), hn⟩
  have ndC : (cl.map (·.1)).Nodup := by
    obtain ⟨o, es, ep, ho, hc, hd, he, his, hn⟩ := dC₀
    rw [← vC.keys]; exact hn
  have ndD : (ll.map (·.1)).Nodup := by
    obtain ⟨o, es, ep, ho, hc, hd, he, his, hn⟩ := dD₀
    rw [← vD.keys]; exact hn
  clear hpt dC₀ dD₀
  try dsimp only at *
  clear hk₁ Y Nc hab
  (all_goals try k_fold)
  k_steps
  obtain ⟨dcz1, esz1, epz1, dz1, dez1, drz1, dnz1⟩ := dOC
  rename News _ _ _ _ => Nx1
  rename Fr _ _ _ _ => Fx1
  have hen1 := size_of_entries dez1
  refine ⟨C, esz1, epz1, _, rfl, lC, rfl, Fx1, Nx1, .inr ⟨_, by k_mem, dcz1, dz1⟩, by rw [hen1, vC.length, sizeLine_eq]; omega, ?_⟩
  rintro s₂ ⟨hp₃, rfl⟩
  have hep1 : esz1.size = (xsC.map fun x => Value.ref x.2.1).length := by rw [hen1, List.length_map]
  rw [hep1]
  refine compT_ind (Rel := fun v (x : (P2 × P2) × Int) => ∃ a, v = .ref a ∧ (Rd h₀ (.ref a) (keyD x.1) ∧ H.get? a = none) ∧ look cl x.1 = some x.2) (all := xsC.map fun x => Value.ref x.2.1) (fun x : (P2 × P2) × Int => decide (x.2 = ow)) ?_ ?_ ?_ ?_ ?_ ?_ (vals := xsC.map fun x => Value.ref x.2.1) (M' := cl) 0 [] ?_ ?_ ?_
  · exact fun i v q => key_at dez1 q
  · exact .inr ⟨_, by k_mem, dcz1, dz1⟩
  · exact fun _ => rfl
  · exact fun _ => rfl
  · decide
  · rintro v ⟨ky, o⟩ I oI Cc oC2 Dl m₂ hp₄ tk₄ E' ys ⟨ak, rfl, hrd, hlk⟩ hNs hmx F₄ N₄ off4 ne4
    k_steps
    refine sub_dict (knd := pairKind PySem.Challenge.pw_nu0119_01 w) (k := ky) (xs := xsC) (cl := cl) (by dsimp only [pairKind]; simp only [units_deeper, cLine]; omega) (by dsimp only [pairKind]; simp only [units_deeper, cLine]; omega) (rdF F₄ hrd.1) (DicO.at (rd := fun k a => Rd h₀ (.ref a) (keyD k) ∧ H.get? a = none) ⟨dcz1, esz1, epz1, dz1, dez1, drz1, dnz1⟩ (N₄.get (by k_mem)) fun x a r => rdF F₄ r.1) vC hlk ?_
    intro tq
    k_steps
    all_goals first | exact F₄ | exact N₄
  · exact zip_keys (rd := fun k a => Rd h₀ (.ref a) (keyD k) ∧ H.get? a = none) vC drz1 (S := fun x => look cl x.1 = some x.2) (fun x hx => look_mem ndC hx)
  · rfl
  · intro zs1 hz1
    rw [List.nil_append]
    (repeat' (first | (k_unfold; (try dsimp only)) | (k_end; kc_close) | ((fail_if_success (with_reducible show wpAny _ _ (pyIter (.ref _)) _ _ _)); first | walk1 | (dsimp only; walk1) | (leave1; walk_say "STEP leave1"; (try dsimp only)))))
    refine' pop_loop (g := ?g) (x := "key") (Z := C) (oZ := oC) (vs := zs1) (fun i m o => ∃ t xs, Has m [("self", .ref X), ("many", .int (0 + (i : Int)) t)] ∧ DicO (pairKind PySem.Challenge.pw_nu0119_01 w) (fun k a => Rd h₀ (.ref a) (keyD k) ∧ H.get? a = none) o xs ∧ VsAre xs (remTo cl (cl.filter fun x => decide (x.2 = ow)) i)) rfl ?F ?N ?U ?hl ?hj ?turn ?done
    case F => k_asm
    case N => k_asm
    case U => k_updF
    case hl => intro o; k_mem
    case hj => exact ⟨_, _, has_cons rfl (has_cons (by rw [show (0 + ((0 : Nat) : Int)) = 0 from Int.add_zero _]; rfl) has_nil), ⟨dcz1, esz1, epz1, dz1, dez1, drz1, dnz1⟩, (rem_zero cl _).symm ▸ vC⟩
    case turn =>
      rintro i v m₁ o h₅ tk₅ I oI hv ⟨t, xs, hm, dO, vO⟩ hoff U₅ F₅ N₅
      have sh := hm.shape
      simp only [over] at sh
      rw [sh] at F₅
      clear sh
      obtain ⟨⟨ky, oy⟩, hy, ak, rfl, hrd, hlk⟩ := hz1.get hv
      have z := vO.lk ky
      rw [rem_look ndC hy] at z
      obtain ⟨bq, tq, z⟩ := z
      (repeat' (first | (k_unfold; (try dsimp only)) | (k_end; kc_close) | ((fail_if_success (with_reducible show wpAny _ _ (getMethod (.ref _) _) _ _ _)); first | walk1 | (dsimp only; walk1) | (leave1; walk_say "STEP leave1"; (try dsimp only)))))
      refine meth_dict PySem.F.slot_dict_pop PySem.F.type_dict_pop (N₅.get (by k_mem)) dO.1 ?_
      k_steps
      refine pop_heap (knd := pairKind PySem.Challenge.pw_nu0119_01 w) (k := ky) (by dsimp only [pairKind]; simp only [units_deeper, units_in1, cLine]; omega) (rdF F₅ hrd.1) (dO.at (N₅.get (by k_mem)) fun x a r => rdF F₅ r.1) z (by rw [vO.length, sizeLine_eq]; have := rem_len cl (cl.filter fun x => decide (x.2 = ow)) i; omega) ?_
      intro h₆ hd₆ hs₆
      obtain ⟨o₂, ho₂, d₂⟩ := DicO.of (rd := fun k a => Rd h₀ (.ref a) (keyD k) ∧ H.get? a = none) hd₆ (fun x hx => by obtain ⟨_, es, ep, _, _, hr, _⟩ := dO; exact hr x (List.mem_filter.mp hx).1)
      have F₆ := frAfter (S := [C]) F₅ (fun a ha => by rw [List.mem_singleton.mp ha]; exact ⟨N₅.fresh (by k_mem), fun q => (N₅ (C, o) (by k_mem)).2.1 q.symm⟩) (fun x o hx e => (hs₆.2 x (by simpa using hx)).trans e)
      have N₆ := newsUpd N₅ U₅ ho₂ (fun x o hx e => (hs₆.2 x hx).trans e)
      clear F₅ N₅ U₅
      k_steps
      refine ⟨_, _, _, _, rfl, by assumption, by assumption, hoff o₂, o₂, rfl, _, _, has_cons rfl (has_cons (by rw [show 0 + ((i + 1 : Nat) : Int) = 0 + (i : Int) + 1 from by omega]; rfl) has_nil), d₂, ?_⟩
      rw [← rem_succ hy]
      exact vO.filter fun k => !decide (k = ky)
    case done =>
      rintro m₁ o1 h₅ tk₅ ⟨t1, xs1, hm, dO1, vO1⟩ F₅ N₅
      have sh := hm.shape
      simp only [over] at sh
      rw [sh] at F₅
      clear sh
      k_steps
      obtain ⟨dcz2, esz2, epz2, dz2, dez2, drz2, dnz2⟩ := dOD
      rename News _ _ _ _ => Nx2
      rename Fr _ _ _ _ => Fx2
      have hen2 := size_of_entries dez2
      refine ⟨D, esz2, epz2, _, rfl, lD, rfl, Fx2, Nx2, .inr ⟨_, by k_mem, dcz2, dz2⟩, by rw [hen2, vD.length, sizeLine_eq]; omega, ?_⟩
      rintro s₂ ⟨hp₃, rfl⟩
      have hep2 : esz2.size = (xsD.map fun x => Value.ref x.2.1).length := by rw [hen2, List.length_map]
      rw [hep2]
      refine compT_ind (Rel := fun v (x : P2 × Int) => ∃ a, v = .ref a ∧ Rd h₀ (.ref a) (ptD x.1) ∧ look ll x.1 = some x.2) (all := xsD.map fun x => Value.ref x.2.1) (fun x : P2 × Int => decide (x.2 = ow)) ?_ ?_ ?_ ?_ ?_ ?_ (vals := xsD.map fun x => Value.ref x.2.1) (M' := ll) 0 [] ?_ ?_ ?_
      · exact fun i v q => key_at dez2 q
      · exact .inr ⟨_, by k_mem, dcz2, dz2⟩
      · exact fun _ => rfl
      · exact fun _ => rfl
      · decide
      · rintro v ⟨ky, o⟩ I oI Cc oC2 Dl m₂ hp₄ tk₄ E' ys ⟨ak, rfl, hrd, hlk⟩ hNs hmx F₄ N₄ off4 ne4
        k_steps
        refine sub_dict (knd := ptKind PySem.Challenge.pw_nu0119_01 w) (k := ky) (xs := xsD) (cl := ll) (by dsimp only [ptKind]; simp only [units_deeper, cLine]; omega) (by dsimp only [ptKind]; simp only [units_deeper, cLine]; omega) (rdF F₄ hrd) (DicO.at (rd := fun k a => Rd h₀ (.ref a) (ptD k)) ⟨dcz2, esz2, epz2, dz2, dez2, drz2, dnz2⟩ (N₄.get (by k_mem)) fun x a r => rdF F₄ r) vD hlk ?_
        intro tq
        k_steps
        all_goals first | exact F₄ | exact N₄
      · exact zip_keys (rd := fun k a => Rd h₀ (.ref a) (ptD k)) vD drz2 (S := fun x => look ll x.1 = some x.2) (fun x hx => look_mem ndD hx)
      · rfl
      · intro zs2 hz2
        rw [List.nil_append]
        (repeat' (first | (k_unfold; (try dsimp only)) | (k_end; kc_close) | ((fail_if_success (with_reducible show wpAny _ _ (pyIter (.ref _)) _ _ _)); first | walk1 | (dsimp only; walk1) | (leave1; walk_say "STEP leave1"; (try dsimp only)))))
        refine' pop_loop (g := ?g2) (x := "key") (Z := D) (oZ := oD) (vs := zs2) (fun i m o => ∃ t xs, Has m [("self", .ref X), ("many", .int (0 + (zs1.length : Int) + (i : Int)) t)] ∧ DicO (ptKind PySem.Challenge.pw_nu0119_01 w) (fun k a => Rd h₀ (.ref a) (ptD k)) o xs ∧ VsAre xs (remTo ll (ll.filter fun x => decide (x.2 = ow)) i)) rfl ?F2 ?N2 ?U2 ?hl2 ?hj2 ?turn2 ?done2
        case F2 => k_asm
        case N2 => k_asm
        case U2 => k_updF
        case hl2 => intro o; k_mem
        case hj2 => exact ⟨_, _, has_cons rfl (has_cons (by rw [show (0 + (zs1.length : Int) + ((0 : Nat) : Int)) = 0 + (zs1.length : Int) from Int.add_zero _]; rfl) has_nil), ⟨dcz2, esz2, epz2, dz2, dez2, drz2, dnz2⟩, (rem_zero ll _).symm ▸ vD⟩
        case turn2 =>
          rintro i v m₁ o h₅ tk₅ I oI hv ⟨t, xs, hm, dO, vO⟩ hoff U₅ F₅ N₅
          have sh := hm.shape
          simp only [over] at sh
          rw [sh] at F₅
          clear sh
          obtain ⟨⟨ky, oy⟩, hy, ak, rfl, hrd, hlk⟩ := hz2.get hv
          have z := vO.lk ky
          rw [rem_look ndD hy] at z
          obtain ⟨bq, tq, z⟩ := z
          (repeat' (first | (k_unfold; (try dsimp only)) | (k_end; kc_close) | ((fail_if_success (with_reducible show wpAny _ _ (getMethod (.ref _) _) _ _ _)); first | walk1 | (dsimp only; walk1) | (leave1; walk_say "STEP leave1"; (try dsimp only)))))
          refine meth_dict PySem.F.slot_dict_pop PySem.F.type_dict_pop (N₅.get (by k_mem)) dO.1 ?_
          k_steps
          refine pop_heap (knd := ptKind PySem.Challenge.pw_nu0119_01 w) (k := ky) (by dsimp only [ptKind]; simp only [units_deeper, units_in1, cLine]; omega) (rdF F₅ hrd) (dO.at (N₅.get (by k_mem)) fun x a r => rdF F₅ r) z (by rw [vO.length, sizeLine_eq]; have := rem_len ll (ll.filter fun x => decide (x.2 = ow)) i; omega) ?_
          intro h₆ hd₆ hs₆
          obtain ⟨o₂, ho₂, d₂⟩ := DicO.of (rd := fun k a => Rd h₀ (.ref a) (ptD k)) hd₆ (fun x hx => by obtain ⟨_, es, ep, _, _, hr, _⟩ := dO; exact hr x (List.mem_filter.mp hx).1)
          have F₆ := frAfter (S := [D]) F₅ (fun a ha => by rw [List.mem_singleton.mp ha]; exact ⟨N₅.fresh (by k_mem), fun q => (N₅ (D, o) (by k_mem)).2.1 q.symm⟩) (fun x o hx e => (hs₆.2 x (by simpa using hx)).trans e)
          have N₆ := newsUpd N₅ U₅ ho₂ (fun x o hx e => (hs₆.2 x hx).trans e)
          clear F₅ N₅ U₅
          k_steps
          refine ⟨_, _, _, _, rfl, by assumption, by assumption, hoff o₂, o₂, rfl, _, _, has_cons rfl (has_cons (by rw [show 0 + (zs1.length : Int) + ((i + 1 : Nat) : Int) = 0 + (zs1.length : Int) + (i : Int) + 1 from by omega]; rfl) has_nil), d₂, ?_⟩
          rw [← rem_succ hy]
          exact vO.filter fun k => !decide (k = ky)
        case done2 =>
          rintro m₁ o2 h₅ tk₅ ⟨t2, xs2, hm, dO2, vO2⟩ F₅ N₅
          have sh := hm.shape
          simp only [over] at sh
          rw [sh] at F₅
          clear sh
          k_steps
          dsimp only
          rename News _ _ _ _ => Nf
          rename Fr _ _ _ _ => Ff
          have e1 : zs1.length = (cl.filter fun x => decide (x.2 = ow)).length := hz1.length
          have e2 : zs2.length = (ll.filter fun x => decide (x.2 = ow)).length := hz2.length
          rw [e1] at vO1
          rw [e2] at vO2
          rw [rem_end ndC] at vO1
          rw [rem_end ndD] at vO2
          refine close_int (h _ _ t2 (fun x o hx q => ?_) ⟨Nf.get (by k_mem), ⟨_, Nf.get (by k_mem), _, _, _, rfl⟩, ⟨_, dO1.at (Nf.get (by k_mem)) (fun x a r => rdF Ff r.1), ?_, lC, by obtain ⟨_, es, ep, _, _, hr, _⟩ := dO1; exact fun x hx => (hr x hx).2⟩, ⟨_, dO2.at (Nf.get (by k_mem)) (fun x a r => rdF Ff r), ?_, lD⟩, hne1, hne2, hne3⟩) (by rw [← e1, ← e2]; omega)
          · by_cases e1 : x = X
            · subst e1; rw [hX] at q; cases q; exact Nf.get (by k_mem)
            by_cases e2 : x = DX
            · subst e2; rw [hDX] at q; cases q; exact Nf.get (by k_mem)
            · refine Ff.keep x o ?_
              rw [← h₀_eq]
              refine hideAll_get _ q ?_
              simp only [List.mem_cons, List.not_mem_nil, or_false, not_or] at hx ⊢
              exact ⟨e1, e2, hx.1, hx.2⟩
          · simpa using vO1
          · simpa using vO2
theorem fin : PC cx := by with_unfolding_all exact core
end RemoveZ
theorem remove_spec {w : World} {dp un : Nat} {fr : Option (List Env)} {gd : Option (List Code)} {R : Result → Shared → Prop} {s : Shared} {H : Heap} {X DX C D : Addr} {cl : List ((P2 × P2) × Int)} {ll : List (P2 × Int)} {ow : Int} {t1 : Tok}
    (W : Wld w H) (hk : ∀ x o, H.get? x = some o → s.heap.get? x = some o) (hXH : H.get? X = none) (hDXH : H.get? DX = none) (hCH : H.get? C = none) (hDH : H.get? D = none)
    (tb : TabIs w H s.heap X DX C D cl ll) (hcl : cl.length ≤ 900) (hll : ll.length ≤ 900) (hdp : dp < 380) (hun : un < 380)
    (h : ∀ h' tk t, (∀ x o, x ∉ [C, D] → s.heap.get? x = some o → h'.get? x = some o) → TabIs w H h' X DX C D (cl.filter fun x => decide (x.2 ≠ ow)) (ll.filter fun x => decide (x.2 ≠ ow)) →
      R (.ok (.ret (.int (((cl.filter fun x => decide (x.2 = ow)).length + (ll.filter fun x => decide (x.2 = ow)).length : Nat) : Int) t))) { s with heap := h', toks := tk }) :
    codeAny (model PySem.Challenge.pw_nu0119_01 w) ⟨none, dp, fr, gd, un⟩ (.call (.ref 79) ⟨[.ref X, .int ow t1], []⟩) R s := by
  obtain ⟨_, hDX, u1, u2, un', rfl⟩ := tb.2; obtain ⟨oC, hoC, hcC⟩ := con_obj tb.con; obtain ⟨oD, hoD, hcD⟩ := lst_obj tb.lst
  exact
  zxAll (P := RemoveZ.PC) RemoveZ.fin { zx₀ with w := w, k0 := dp, k1 := un, fr := fr, gd := gd, R := R, s := s, H := H, A0 := X, A1 := DX, A2 := C, A3 := D, cl := cl, ll := ll, i0 := ow, t0 := t1, t1 := u1, t2 := u2, k2 := un', o0 := oC, o1 := oD } W hk hXH hDXH hCH hDH tb hcl hll hdp hun h hDX hoC hcC hoD hcD
local macro_rules | `(tactic| walk_at "zz") => `(tactic| fail)
theorem zreset_Remove {M : Model} {A : Around} {env : Env} {Q : Flow → Shared → Prop} {E : Value → Shared → Prop} {s : Shared} (h : wpAny M A (execs [] env) Q E s) : wpAny M A (execs [] env) Q E s := by first | (walk1; fail) | exact h
end Mine
end

section
open PySem PySem.W PySem.Calls PyProof.Rows PySem.Spec
set_option maxRecDepth 100000
namespace Mine

/-- what a tree of questions answers under an order -/
noncomputable def Tw (n : Nat) (lt : Nat → Nat → Bool) {α : Type} : KasT α → (α → Prop) → Prop
  | .ret a, Q => Q a
  | .ask i j k, Q => i < n ∧ j < n ∧ Tw n lt (k (lt i j)) Q

section
variable {n : Nat} {lt : Nat → Nat → Bool}
theorem tw_bind {α β : Type} {f : α → KasT β} {Q : β → Prop} : ∀ (t : KasT α), Tw n lt t (fun a => Tw n lt (f a) Q) → Tw n lt (t.bind f) Q
  | .ret _, h => h
  | .ask _ _ k, ⟨h1, h2, h3⟩ => ⟨h1, h2, tw_bind (k _) h3⟩
theorem tw_mono {α : Type} {Q Q' : α → Prop} (hq : ∀ a, Q a → Q' a) : ∀ (t : KasT α), Tw n lt t Q → Tw n lt t Q'
  | .ret _, h => hq _ h
  | .ask _ _ k, ⟨h1, h2, h3⟩ => ⟨h1, h2, tw_mono hq (k _) h3⟩
theorem tw_kas {α : Type} {cmp : Nat → Nat → (Bool → Shared → Prop) → Shared → Prop} {I : Shared → Prop} (hc : ∀ i j C s, i < n → j < n → I s → (∀ s', I s' → C (lt i j) s') → cmp i j C s) {P : α → Prop} {Q : α → Shared → Prop} (hQ : ∀ a s, P a → I s → Q a s) :
    ∀ (t : KasT α) (s : Shared), I s → Tw n lt t P → t.kasWp cmp Q s
  | .ret _, s, hI, h => hQ _ s h hI
  | .ask i j k, s, hI, ⟨h1, h2, h3⟩ => hc i j _ s h1 h2 hI fun s' hI' => tw_kas hc hQ (k _) s' hI' h3

noncomputable def at_ (p : Array Nat) (i : Nat) : Nat := p.getD i 0
theorem at_eq {p q : Array Nat} {i j : Nat} (h : p[i]? = q[j]?) : at_ p i = at_ q j := by
  unfold at_
  rw [Array.getD_eq_getD_getElem?, Array.getD_eq_getD_getElem?, h]
noncomputable def Inc (lt : Nat → Nat → Bool) (p : Array Nat) (k : Nat) : Prop := ∀ a b, a < b → b < k → lt (at_ p a) (at_ p b) = true
noncomputable def Dec (lt : Nat → Nat → Bool) (p : Array Nat) (k : Nat) : Prop := ∀ a b, a < b → b < k → lt (at_ p b) (at_ p a) = true
structure Ord (n : Nat) (lt : Nat → Nat → Bool) : Prop where
  irr : ∀ i, lt i i = false
  trans : ∀ i j k, lt i j = true → lt j k = true → lt i k = true
  tri : ∀ i j, i < n → j < n → i ≠ j → lt i j = false → lt j i = true
noncomputable def Per (n : Nat) (p : Array Nat) : Prop := p.toList.Perm (List.range n)
theorem Per.size {p : Array Nat} (h : Per n p) : p.size = n := by
  have := h.length_eq
  simpa using this
theorem Per.bd {p : Array Nat} (h : Per n p) (hn : 0 < n) (i : Nat) : at_ p i < n := by
  unfold at_
  rw [Array.getD_eq_getD_getElem?]
  cases e : p[i]? with
  | none => exact hn
  | some x =>
    have : x ∈ p.toList := by
      rw [← Array.getElem?_toList] at e
      exact List.mem_of_getElem? e
    simpa using h.mem_iff.mp this
theorem Per.df {p : Array Nat} (h : Per n p) {i j : Nat} (hi : i < n) (hj : j < n) (hij : i ≠ j) : at_ p i ≠ at_ p j := by
  have nd : p.toList.Nodup := (h.nodup_iff).mpr List.nodup_range
  have hs := h.size
  unfold at_
  have e1 : p.getD i 0 = p.toList[i]'(by simpa [hs] using hi) := by simp [Array.getD, hs, hi]
  have e2 : p.getD j 0 = p.toList[j]'(by simpa [hs] using hj) := by simp [Array.getD, hs, hj]
  rw [e1, e2]
  intro e
  exact hij ((List.getElem_inj nd).mp e)
theorem Per.of {p q : Array Nat} (h : Per n p) (hq : q.Perm p) : Per n q := (Array.perm_iff_toList_perm.mp hq).trans h

theorem Inc.snoc {p : Array Nat} {k : Nat} (O : Ord n lt) (h : Inc lt p k) (hk : 1 ≤ k) (e : lt (at_ p (k - 1)) (at_ p k) = true) : Inc lt p (k + 1) := fun a b hab hb => by
  by_cases hbk : b < k
  · exact h a b hab hbk
  · have : b = k := by omega
    subst this
    by_cases ha : a = b - 1
    · rw [ha]; exact e
    · exact O.trans _ _ _ (h a (b - 1) (by omega) (by omega)) e
theorem Dec.snoc {p : Array Nat} {k : Nat} (O : Ord n lt) (h : Dec lt p k) (hk : 1 ≤ k) (e : lt (at_ p k) (at_ p (k - 1)) = true) : Dec lt p (k + 1) := fun a b hab hb => by
  by_cases hbk : b < k
  · exact h a b hab hbk
  · have : b = k := by omega
    subst this
    by_cases ha : a = b - 1
    · rw [ha]; exact e
    · exact O.trans _ _ _ e (h a (b - 1) (by omega) (by omega))

theorem tw_asc (O : Ord n lt) {p : Array Nat} (hp : Per n p) : ∀ (f m : Nat), 1 ≤ m → m + f ≤ n → Inc lt p m → Tw n lt (kas_asc p f m) fun k => m ≤ k ∧ k ≤ m + f ∧ Inc lt p k ∧ (k < m + f → lt (at_ p k) (at_ p (k - 1)) = true)
  | 0, m, _, _, h => ⟨Nat.le_refl _, Nat.le_refl _, h, fun q => absurd q (Nat.lt_irrefl _)⟩
  | f + 1, m, h1, hn, h => by
    have h0 : 0 < n := by omega
    refine ⟨hp.bd h0 m, hp.bd h0 (m - 1), ?_⟩
    show Tw n lt (if lt (at_ p m) (at_ p (m - 1)) = true then _ else _) _
    by_cases c : lt (at_ p m) (at_ p (m - 1)) = true
    · rw [if_pos c]
      exact ⟨Nat.le_refl _, by omega, h, fun _ => c⟩
    · rw [if_neg c]
      have e := O.tri _ _ (hp.bd h0 m) (hp.bd h0 (m - 1)) (hp.df (by omega) (by omega) (by omega)) (by simpa using c)
      refine tw_mono (fun k q => ?_) _ (tw_asc O hp f (m + 1) (by omega) (by omega) (h.snoc O h1 e))
      obtain ⟨a, b, c, d⟩ := q
      exact ⟨by omega, by omega, c, fun q => d (by omega)⟩

theorem tw_desc (O : Ord n lt) {p : Array Nat} (hp : Per n p) : ∀ (f m : Nat), 1 ≤ m → m + f ≤ n → Dec lt p m → Tw n lt (kas_desc f p m 0) fun r => r.1 = p ∧ r.2.2 = 0 ∧ m ≤ r.2.1 ∧ r.2.1 ≤ m + f ∧ Dec lt p r.2.1
  | 0, m, _, _, h => ⟨rfl, rfl, Nat.le_refl _, Nat.le_refl _, h⟩
  | f + 1, m, h1, hn, h => by
    have h0 : 0 < n := by omega
    refine ⟨hp.bd h0 m, hp.bd h0 (m - 1), ?_⟩
    show Tw n lt (if lt (at_ p m) (at_ p (m - 1)) = true then _ else _) _
    by_cases c : lt (at_ p m) (at_ p (m - 1)) = true
    · rw [if_pos c, if_neg (by omega)]
      refine tw_mono (fun k q => ?_) _ (tw_desc O hp f (m + 1) (by omega) (by omega) (h.snoc O h1 c))
      obtain ⟨a, b, c, d, e⟩ := q
      exact ⟨a, b, by omega, by omega, e⟩
    · rw [if_neg c]
      have e := O.tri _ _ (hp.bd h0 m) (hp.bd h0 (m - 1)) (hp.df (by omega) (by omega) (by omega)) (by simpa using c)
      refine ⟨hp.bd h0 (m - 1), hp.bd h0 m, ?_⟩
      show Tw n lt (if lt (at_ p (m - 1)) (at_ p m) = true then _ else _) _
      rw [if_pos e]
      exact ⟨rfl, rfl, Nat.le_refl _, by show m ≤ m + (f + 1); omega, h⟩

theorem rev_per {p : Array Nat} (hp : Per n p) (i j : Nat) : Per n (kas_rev p i j) := hp.of (mirror_perm _ _ _ _)
theorem rev_inc {p : Array Nat} {k : Nat} (hp : Per n p) (hk : k ≤ n) (h : Dec lt p k) : Inc lt (kas_rev p 0 k) k := fun a b hab hb => by
  have hs := hp.size
  have e : ∀ c, c < k → at_ (kas_rev p 0 k) c = at_ p (k - 1 - c) := fun c hc => at_eq (by
    unfold kas_rev
    rw [getElem?_mirror_all (by omega), if_pos ⟨Nat.zero_le _, hc⟩]
    congr 1; omega)
  rw [e a (by omega), e b hb]
  exact h (k - 1 - b) (k - 1 - a) (by omega) (by omega)

theorem tw_tail3 (O : Ord n lt) {p : Array Nat} (hp : Per n p) {k nrem : Nat} (h1 : 1 ≤ k) (hk : k ≤ nrem) (hn : nrem ≤ n) (h : Dec lt p k) : Tw n lt (kas_tail3 k nrem p) fun r => 1 ≤ r.1 ∧ r.1 ≤ nrem ∧ Per n r.2 ∧ Inc lt r.2 r.1 := by
  refine tw_bind _ (tw_mono (fun m q => ?_) _ (tw_asc O (rev_per hp 0 k) (nrem - k) k h1 (by omega) (rev_inc hp (by omega) h)))
  obtain ⟨a, b, c, -⟩ := q
  exact ⟨by omega, by omega, rev_per hp 0 k, c⟩
theorem tw_descPart (O : Ord n lt) {p : Array Nat} (hp : Per n p) {m nrem : Nat} (hm : m + 1 ≤ nrem) (hn : nrem ≤ n) (h : Dec lt p (m + 1)) : Tw n lt (kas_descPart m nrem p) fun r => 1 ≤ r.1 ∧ r.1 ≤ nrem ∧ Per n r.2 ∧ Inc lt r.2 r.1 := by
  refine tw_bind _ (tw_mono (fun r q => ?_) _ (tw_desc O hp (nrem - (m + 1)) (m + 1) (by omega) (by omega) h))
  obtain ⟨a, b, c, d, e⟩ := q
  rw [if_neg (by omega), a]
  exact tw_tail3 O hp (by omega) (by omega) hn e
theorem tw_count (O : Ord n lt) {p : Array Nat} (hp : Per n p) (h1 : 1 ≤ n) : Tw n lt (kas_count n p) fun r => 1 ≤ r.1 ∧ r.1 ≤ n ∧ Per n r.2 ∧ Inc lt r.2 r.1 := by
  refine tw_bind _ (tw_mono (fun m q => ?_) _ (tw_asc O hp (n - 1) 1 (Nat.le_refl _) (by omega) (fun a b hab hb => by omega)))
  obtain ⟨a, b, c, d⟩ := q
  by_cases e : m = n
  · rw [if_pos (by simpa using e)]
    exact ⟨a, by omega, hp, c⟩
  · rw [if_neg (by simpa using e)]
    have d' := d (by omega)
    by_cases g : m > 1
    · rw [if_pos g]
      refine ⟨hp.bd (by omega) 0, hp.bd (by omega) (m - 1), ?_⟩
      show Tw n lt (if lt (at_ p 0) (at_ p (m - 1)) = true then _ else _) _
      rw [if_pos (c 0 (m - 1) (by omega) (by omega))]
      exact ⟨a, by omega, hp, c⟩
    · rw [if_neg g]
      have hm : m = 1 := by omega
      subst hm
      refine tw_descPart O hp (by omega) (Nat.le_refl _) fun a b hab hb => ?_
      have ha : a = 0 := by omega
      have hb : b = 1 := by omega
      subst ha hb
      exact d'

theorem tw_place (O : Ord n lt) {p : Array Nat} (hp : Per n p) {k : Nat} (hk : k < n) (h : Inc lt p k) : ∀ (f l r : Nat), l ≤ r → r ≤ k → r ≤ l + f → (∀ i, i < l → lt (at_ p i) (at_ p k) = true) → (∀ i, r ≤ i → i < k → lt (at_ p k) (at_ p i) = true) →
    Tw n lt (kas_place p k f l r) fun x => x ≤ k ∧ (∀ i, i < x → lt (at_ p i) (at_ p k) = true) ∧ ∀ i, x ≤ i → i < k → lt (at_ p k) (at_ p i) = true
  | 0, l, r, h1, h2, h3, ha, hb => ⟨by omega, ha, fun i hi => hb i (by omega)⟩
  | f + 1, l, r, h1, h2, h3, ha, hb => by
    unfold kas_place
    by_cases c : l ≥ r
    · rw [if_pos c]
      exact ⟨by omega, ha, fun i hi => hb i (by omega)⟩
    · rw [if_neg c]
      have h0 : 0 < n := by omega
      have hm : (l + r) / 2 < k := by omega
      refine ⟨hp.bd h0 k, hp.bd h0 _, ?_⟩
      show Tw n lt (if lt (at_ p k) (at_ p ((l + r) / 2)) = true then _ else _) _
      by_cases e : lt (at_ p k) (at_ p ((l + r) / 2)) = true
      · rw [if_pos e]
        refine tw_place O hp hk h f l _ (by omega) (by omega) (by omega) ha fun i hi hik => ?_
        by_cases q : i = (l + r) / 2
        · rw [q]; exact e
        · exact O.trans _ _ _ e (h _ i (by omega) hik)
      · rw [if_neg e]
        have e' := O.tri _ _ (hp.bd h0 k) (hp.bd h0 ((l + r) / 2)) (hp.df hk (by omega) (by omega)) (by simpa using e)
        refine tw_place O hp hk h f _ r (by omega) (by omega) (by omega) (fun i hi => ?_) hb
        by_cases q : i = (l + r) / 2
        · rw [q]; exact e'
        · exact O.trans _ _ _ (h i _ (by omega) hm) e'

theorem bubble_inc {p : Array Nat} {k x : Nat} (O : Ord n lt) (hp : Per n p) (hk : k < n) (hx : x ≤ k) (h : Inc lt p k) (ha : ∀ i, i < x → lt (at_ p i) (at_ p k) = true) (hb : ∀ i, x ≤ i → i < k → lt (at_ p k) (at_ p i) = true) : Inc lt (bubble p k (k - x)) (k + 1) := by
  have hs := hp.size
  have g : ∀ c, (bubble p k (k - x))[c]? = if c = k - (k - x) then p[k]? else if k - (k - x) < c ∧ c ≤ k then p[c - 1]? else p[c]? := fun c => getElem?_bubble (by omega) (k - x) (by omega) c
  have hkx : k - (k - x) = x := by omega
  rw [hkx] at g
  have e1 : at_ (bubble p k (k - x)) x = at_ p k := at_eq (by rw [g, if_pos rfl])
  have e2 : ∀ c, x < c → c ≤ k → at_ (bubble p k (k - x)) c = at_ p (c - 1) := fun c h1 h2 => at_eq (by rw [g, if_neg (by omega), if_pos ⟨h1, h2⟩])
  have e3 : ∀ c, c < x → at_ (bubble p k (k - x)) c = at_ p c := fun c h1 => at_eq (by rw [g, if_neg (by omega), if_neg (by omega)])
  intro a b hab hbk
  by_cases a1 : a < x
  · rw [e3 a a1]
    by_cases b1 : b < x
    · rw [e3 b b1]; exact h a b hab (by omega)
    · by_cases b2 : b = x
      · rw [b2, e1]; exact ha a a1
      · rw [e2 b (by omega) (by omega)]; exact h a (b - 1) (by omega) (by omega)
  · by_cases a2 : a = x
    · rw [a2, e1, e2 b (by omega) (by omega)]; exact hb (b - 1) (by omega) (by omega)
    · rw [e2 a (by omega) (by omega), e2 b (by omega) (by omega)]; exact h (a - 1) (b - 1) (by omega) (by omega)

theorem tw_bin (O : Ord n lt) : ∀ (f : Nat) (p : Array Nat) (k : Nat), Per n p → k + f ≤ n → Inc lt p k → Tw n lt (kas_bin f p k) fun q => Per n q ∧ Inc lt q (k + f)
  | 0, p, k, hp, _, h => ⟨hp, h⟩
  | f + 1, p, k, hp, hk, h => by
    refine tw_bind _ (tw_mono (fun x q => ?_) _ (tw_place O hp (by omega) h k 0 k (Nat.zero_le _) (Nat.le_refl _) (by omega) (fun i hi => absurd hi (Nat.not_lt_zero _)) fun i hi hik => by omega))
    obtain ⟨a, b, c⟩ := q
    refine tw_mono (fun r q => ?_) _ (tw_bin O f _ (k + 1) (hp.of (bubble_perm _ _ _)) (by omega) (bubble_inc O hp (by omega) a h b c))
    rw [show k + 1 + f = k + (f + 1) from by omega] at q
    exact q

theorem tw_sort (O : Ord n lt) (h1 : 1 ≤ n) : Tw n lt (kas_sort n) fun q => Per n q ∧ Inc lt q n := by
  refine tw_bind _ (tw_mono (fun r q => ?_) _ (tw_count O (p := List.toArray (List.range n)) (by unfold Per; exact List.Perm.refl _) h1))
  obtain ⟨a, b, c, d⟩ := q
  by_cases e : r.1 < n
  · rw [if_pos e, show max r.1 1 = r.1 from by omega]
    refine tw_mono (fun q h => ?_) _ (tw_bin O (n - r.1) r.2 r.1 c (by omega) d)
    rw [show r.1 + (n - r.1) = n from by omega] at h
    exact h
  · rw [if_neg e]
    exact ⟨c, by rw [show r.1 = n from by omega] at d; exact d⟩
end
end Mine
end

section
open PySem PySem.W PySem.Calls PyProof.Rows PySem.Spec
set_option maxRecDepth 100000
namespace Mine
noncomputable def ltPt (p q : P2) : Bool := decide (p.1 < q.1) || (decide (p.1 = q.1) && decide (p.2 < q.2))

theorem tup_lt_meets (l b : Addr) (x1 y1 x2 y2 : Int) (t1 u1 t2 u2 : Tok) (n n2 : Nat) (dd dd2 : Option Addr) (sl sl2 : Array (Option Value)) :
    Meets (Builtin.«tuple.__lt__» ⟨[.ref l, .ref b], []⟩)
      (fun _ R s => s.heap.get? l = some { cls := .type "tuple", dict := dd, data := .seq #[.int x1 t1, .int y1 u1] n, slots := sl } ∧ s.heap.get? b = some { cls := .type "tuple", dict := dd2, data := .seq #[.int x2 t2, .int y2 u2] n2, slots := sl2 } ∧
        R (.ok (.ret (.bool (ltPt (x1, y1) (x2, y2))))) s) :=
  .of_wp fun prog w A R s h => by
    obtain ⟨hp, g, d, tk, os⟩ := s; obtain ⟨hl, hb, h⟩ := h
    have f2 := PySem.AutoSeq1.sub_tuple_tuple
    wp_walk using PySem.AutoSeq1.wpAny_loadPart' hl, PySem.AutoSeq1.wpAny_loadPart' hb
    refine (wpAny_eqBool_int ?_ : wpAny (model prog w) A.in1 (eqBool (.int x1 t1) (.int x2 t2)) _ _ _)
    by_cases e1 : x1 = x2
    · subst e1
      rw [show (x1 == x1) = true from by simp]
      wp_walk
      refine (wpAny_eqBool_int ?_ : wpAny (model prog w) A.in1 (eqBool (.int y1 u1) (.int y2 u2)) _ _ _)
      by_cases e2 : y1 = y2
      · subst e2
        rw [show (y1 == y1) = true from by simp]
        wp_walk
        exact ⟨_, rfl, by simpa [ltPt, Builtin.Tuple.tupleCompareSizes] using h⟩
      · rw [show (y1 == y2) = false from by simpa using e2]
        refine wpAny_bind (wpAny_rule (wpAny_bind ?_))
        refine (lt_int ?_ : wpAny (model prog w) A.in1 (compareOp .Lt (.int y1 u1) (.int y2 u2)) _ _ _)
        wp_walk
        exact ⟨_, rfl, by simpa [ltPt] using h⟩
    · rw [show (x1 == x2) = false from by simpa using e1]
      refine wpAny_bind (wpAny_rule (wpAny_bind ?_))
      refine (lt_int ?_ : wpAny (model prog w) A.in1 (compareOp .Lt (.int x1 t1) (.int x2 t2)) _ _ _)
      wp_walk
      exact ⟨_, rfl, by simpa [ltPt, e1] using h⟩

section
variable {prog : Program} {w : World} {A : Around} {E : Value → Shared → Prop} {s : Shared}
theorem lt_pt {a b : Value} {p q : P2} {Q : Value → Shared → Prop} (ra : Rd s.heap a (ptD p)) (rb : Rd s.heap b (ptD q)) (hu : A.units < cLine) (h : Q (.bool (ltPt p q)) s) : wpAny (model prog w) A (compareOp .Lt a b) Q E s := by
  obtain ⟨a, t1, u1, rfl, ⟨⟨c1, dd, dt1, sl⟩, h1, h2, n, h3⟩⟩ := pt_inv ra
  obtain ⟨b, t2, u2, rfl, ⟨⟨c2, dd2, dt2, sl2⟩, g1, g2, n2, g3⟩⟩ := pt_inv rb
  dsimp only at h2 h3 g2 g3
  subst h2 h3 g2 g3
  exact richCompare_meets_room (op := .Lt) ⟨_, h1, rfl⟩ ⟨_, g1, rfl⟩ PySem.F.slot_tuple_lt PySem.F.entry_tuple_lt (PySem.F.args_tuple_lt_2 _ _) (tup_lt_meets a b p.1 p.2 q.1 q.2 t1 u1 t2 u2 n n2 dd dd2 sl sl2)
    ⟨h1, g1, show Value.bool _ ≠ Value.notImplemented ∧ Q _ s from ⟨(fun x => nomatch x), h⟩⟩ hu
theorem eqB_pt {a b : Value} {p q : P2} {Q : Bool → Shared → Prop} (ra : Rd s.heap a (ptD p)) (rb : Rd s.heap b (ptD q)) (hu : A.units + 1 < cLine) (h : Q (decide (p = q)) s) : wpAny (model prog w) A (eqBool a b) Q E s :=
  SeqAt.eqBoolOverData _ _ _ _ _ _ _ _ _ _ _ _ ra rb (lay_pt p) (lay_pt q) (by have := depth_pt p; omega) (by rw [eqv_pt]; exact h)

noncomputable def ltKey (k k' : P2 × P2) : Bool := ltPt k.1 k'.1 || (decide (k.1 = k'.1) && ltPt k.2 k'.2)

theorem keylt_pt {x y : Value} {p q : P2} {C : Bool → Shared → Prop} (rx : Rd s.heap x (ptD p)) (ry : Rd s.heap y (ptD q)) (hu : A.units + 5 < cLine) (h : C (ltPt p q) s) : wpAny (model prog w) A (keyLt' (tuples' true) x y) C E s := by
  obtain ⟨a, t1, u1, rfl, ⟨o1, h1, h2, n, h3⟩⟩ := pt_inv rx
  obtain ⟨b, t2, u2, rfl, ⟨o2, g1, g2, n2, g3⟩⟩ := pt_inv ry
  refine kat_lt h1 h3 g1 g3 ?_
  refine kat_cons (wpAny_eqBool_int (kat_go (fun e => kat_yes (kat_cons (wpAny_eqBool_int (kat_go (fun e' => kat_yes (kat_nil ?_)) fun e' => kat_no ?_)))) fun e => kat_no ?_))
  · have e1 : p.1 = q.1 := by simpa using e
    have e2 : p.2 = q.2 := by simpa using e'
    have : ltPt p q = false := by simp [ltPt, e1, e2]
    rw [this] at h; exact h
  · have e1 : p.1 = q.1 := by simpa using e
    have : ltPt p q = decide (p.2 < q.2) := by simp [ltPt, e1]
    rw [this] at h
    exact kat_one _ _ (lt_int h)
  · have e1 : ¬ p.1 = q.1 := by simpa using e
    have : ltPt p q = decide (p.1 < q.1) := by simp [ltPt, e1]
    rw [this] at h
    exact oneLt_int h
theorem keylt_key {x y : Value} {p q : P2 × P2} {C : Bool → Shared → Prop} (rx : Rd s.heap x (keyD p)) (ry : Rd s.heap y (keyD q)) (hu : A.units + 5 < cLine) (h : C (ltKey p q) s) : wpAny (model prog w) A (keyLt' (tuples' false) x y) C E s := by
  obtain ⟨a, l1, r1, rfl, ⟨o1, h1, h2, n, h3⟩, rl1, rr1⟩ := key_inv rx
  obtain ⟨b, l2, r2, rfl, ⟨o2, g1, g2, n2, g3⟩, rl2, rr2⟩ := key_inv ry
  refine kat_lt h1 h3 g1 g3 ?_
  refine kat_cons (eqB_pt rl1 rl2 (by omega) (kat_go (fun e => kat_yes (kat_cons (eqB_pt rr1 rr2 (by omega) (kat_go (fun e' => kat_yes (kat_nil ?_)) fun e' => kat_no ?_)))) fun e => kat_no ?_))
  · have e1 : p.1 = q.1 := by simpa using e
    have e2 : p.2 = q.2 := by simpa using e'
    have : ltKey p q = false := by simp [ltKey, ltPt, e1, e2]
    rw [this] at h; exact h
  · have e1 : p.1 = q.1 := by simpa using e
    have : ltKey p q = ltPt p.2 q.2 := by simp [ltKey, ltPt, e1]
    rw [this] at h
    exact kat_one _ _ (lt_pt rr1 rr2 (by omega) h)
  · have e1 : ¬ p.1 = q.1 := by simpa using e
    have : ltKey p q = ltPt p.1 q.1 := by simp [ltKey, e1]
    rw [this] at h
    exact kat_one _ _ (lt_pt rl1 rl2 (by omega) h)

theorem kind_pts {vs : List Value} {ps : List P2} {Q : SortKind → Shared → Prop} {M : Model} (r : RdAll s.heap vs (ps.map ptD)) (hne : 0 < ps.length) (h : Q (tuples' true) s) : wpAny M A (keyKind' vs.toArray) Q E s := by
  have t : ∃ fs : List Value, fs.length = ps.length ∧ KatTups s.heap vs fs ∧ ∀ v ∈ fs, ∃ i t, v = .int i t := by
    clear hne h
    induction ps generalizing vs with
    | nil => rw [List.map_nil, rdAll_nil] at r; subst r; exact ⟨[], rfl, KatTups.nil, fun _ h => nomatch h⟩
    | cons p ps ih =>
      rw [List.map_cons, rdAll_cons] at r
      obtain ⟨v, r', rfl, a, b⟩ := r
      obtain ⟨fs, e1, e2, e3⟩ := ih b
      obtain ⟨a, t1, u1, rfl, ⟨o1, h1, h2, n, h3⟩⟩ := pt_inv a
      exact ⟨.int p.1 t1 :: fs, by simp [e1], KatTups.cons h1 h2 h3 rfl e2, fun v hv => by
        rcases List.mem_cons.mp hv with rfl | hv
        · exact ⟨_, _, rfl⟩
        · exact e3 v hv⟩
  obtain ⟨fs, e1, e2, e3⟩ := t
  refine kat_kind (T := .type "int") e2 (by omega) (fun v hv => ?_) (by decide) h
  obtain ⟨i, t, rfl⟩ := e3 v hv
  exact Looks.of_pure rfl
theorem kind_keys {vs : List Value} {ps : List (P2 × P2)} {Q : SortKind → Shared → Prop} {M : Model} (r : RdAll s.heap vs (ps.map keyD)) (hne : 0 < ps.length) (h : Q (tuples' false) s) : wpAny M A (keyKind' vs.toArray) Q E s := by
  have t : ∃ fs : List Value, fs.length = ps.length ∧ KatTups s.heap vs fs ∧ ∀ v ∈ fs, ∃ a o, v = .ref a ∧ s.heap.get? a = some o ∧ o.cls = .type "tuple" := by
    clear hne h
    induction ps generalizing vs with
    | nil => rw [List.map_nil, rdAll_nil] at r; subst r; exact ⟨[], rfl, KatTups.nil, fun _ h => nomatch h⟩
    | cons p ps ih =>
      rw [List.map_cons, rdAll_cons] at r
      obtain ⟨v, r', rfl, a, b⟩ := r
      obtain ⟨fs, e1, e2, e3⟩ := ih b
      obtain ⟨a, l1, r1, rfl, ⟨o1, h1, h2, n, h3⟩, rl, rr⟩ := key_inv a
      obtain ⟨_, ta, tb, q, ⟨o2, g1, g2, -⟩⟩ := pt_inv rl
      cases q
      exact ⟨.ref l1 :: fs, by simp [e1], KatTups.cons h1 h2 h3 rfl e2, fun v hv => by
        rcases List.mem_cons.mp hv with rfl | hv
        · exact ⟨_, _, rfl, g1, g2⟩
        · exact e3 v hv⟩
  obtain ⟨fs, e1, e2, e3⟩ := t
  refine kat_kind (T := .type "tuple") e2 (by omega) (fun v hv => ?_) (by decide) h
  obtain ⟨a, o, rfl, h1, h2⟩ := e3 v hv
  exact h2 ▸ (Looks.ld h1).andThen .now
end
end Mine
end

section
open PySem PySem.W PySem.Calls PyProof.Rows PySem.Spec
set_option maxRecDepth 100000
namespace Mine
section
variable {prog : Program} {w : World} {A : Around} {E : Value → Shared → Prop} {s : Shared} {h₀ : Heap} {L a D : Addr} {m : Str → Option Value} {news : List (Addr × Obj)} {vs : List Value}

theorem lsort_short {n : Nat} {Q : Value → Shared → Prop} (F : Fr h₀ L s.heap m) (N : News h₀ L s.heap ((a, seqObj "list" vs.toArray n) :: news)) (hna : ∀ p ∈ news, p.1 ≠ a) (h2 : vs.length < 2)
    (h : ∀ c h', Fr h₀ L h' m → News h₀ L h' ((a, seqObj "list" vs.toArray c) :: news) → Q .none { s with heap := h' }) :
    wpAny (model prog w) A (call (.builtin "list.sort") [.ref a]) Q E s := by
  have ho := (N _ (.head _)).1
  have haL := (N _ (.head _)).2.1
  have ha0 := (N _ (.head _)).2.2
  dsimp only at ho haL ha0
  refine wpAny_call_entry slot_list_sort ⟨_, ho, rfl⟩ entry_list_sort ?_ (args_list_sort _)
  have s1 := Heap.SameBut.update s.heap a (Obj.mapSeq fun _ => (#[] : Array Value))
  obtain ⟨e1, ho1⟩ : ∃ e1, (s.heap.update a (Obj.mapSeq fun _ => (#[] : Array Value))).get? a = some (seqObj "list" #[] e1) := ⟨_, get?_update_seq ho fun _ => #[]⟩
  have F3 : Fr h₀ L (((s.heap.update a (Obj.mapSeq fun _ => (#[] : Array Value))).push (seqObj "tuple" vs.toArray 0)).push (seqObj "list" #[] 0)) m := ((kas_fr F s1 haL ha0).push _).push _
  have N2 : News h₀ L (((s.heap.update a (Obj.mapSeq fun _ => (#[] : Array Value))).push (seqObj "tuple" vs.toArray 0)).push (seqObj "list" #[] 0)) news :=
    (kas_news (fun p hp => N p (.tail _ hp)) s1 hna).grown fun b x e => Heap.get?_push_of_some _ (Heap.get?_push_of_some _ e)
  have ho6 : (((s.heap.update a (Obj.mapSeq fun _ => (#[] : Array Value))).push (seqObj "tuple" vs.toArray 0)).push (seqObj "list" #[] 0)).get? a = some (seqObj "list" #[] e1) := Heap.get?_push_of_some _ (Heap.get?_push_of_some _ ho1)
  rw [list_sort_plain]
  refine wpAny_bind (listItems_at ho rfl ?_)
  refine wpAny_bind (listUpdate_at ho rfl ?_ (by rw [List.size_toArray, sizeLine_eq]; omega) (Nat.zero_le _))
  refine wpAny_bind (seqEpoch_at ho1 rfl ?_)
  refine wpAny_bind (wpAny_newTuple ?_ (by show vs.length ≤ _; rw [sizeLine_eq]; omega))
  refine wpAny_bind (wpAny_newList ?_ (Nat.zero_le _))
  refine wpAny_holding ?_
  show wpAny (model prog w) _ _ _ E { s with heap := ((s.heap.update a (Obj.mapSeq fun _ => (#[] : Array Value))).push (seqObj "tuple" vs.toArray 0)).push (seqObj "list" #[] 0) }
  dsimp only
  have hn2 : vs.toArray.size < 2 := by rw [List.size_toArray]; omega
  rw [if_pos hn2, if_pos hn2]
  refine wpAny_bind (wpAny_pure ?_)
  rw [StateT.run_pure]
  refine wpAny_bind (wpAny_pure ?_)
  dsimp only
  have hout : (vs.toArray.zip vs.toArray).map (·.2) = vs.toArray := by
    apply Array.toList_inj.mp
    simp only [Array.toList_map, Array.toList_zip]
    exact List.map_snd_zip (Nat.le_refl _)
  have s2 := fun (out : Array Value) => Heap.SameBut.update (((s.heap.update a (Obj.mapSeq fun _ => (#[] : Array Value))).push (seqObj "tuple" vs.toArray 0)).push (seqObj "list" #[] 0)) a (Obj.mapSeq fun _ => out)
  obtain ⟨c2, hc2⟩ : ∃ c2, ((((s.heap.update a (Obj.mapSeq fun _ => (#[] : Array Value))).push (seqObj "tuple" vs.toArray 0)).push (seqObj "list" #[] 0)).update a (Obj.mapSeq fun _ => vs.toArray)).get? a = some (seqObj "list" vs.toArray c2) := ⟨_, get?_update_seq ho6 fun _ => vs.toArray⟩
  refine wpAny_bind (seqEpoch_at ho6 rfl ?_)
  show wpAny _ _ (Builtin.List.listUpdate (.ref a) (fun _ => (vs.toArray.zip vs.toArray).map (·.2)) >>= _) _ _ _
  rw [hout]
  refine wpAny_bind (listUpdate_at ho6 rfl ?_ (Nat.zero_le _) (by rw [List.size_toArray, sizeLine_eq]; omega))
  simp only [bne_self_eq_false, Bool.false_eq_true, if_false]
  refine wpAny_pure ⟨_, rfl, h c2 _ (kas_fr F3 (s2 _) haL ha0) fun p hp => ?_⟩
  rcases List.mem_cons.mp hp with rfl | hp
  · exact ⟨hc2, haL, ha0⟩
  · exact kas_news N2 (s2 _) hna p hp

theorem RawDict.lt {h : Heap} {d : Addr} {es : Array DictEntry} {ep : Nat} (x : RawDict h d es ep) : d < h.objs.size := let ⟨_, e, _⟩ := x; Heap.lt_size e
theorem kdl_raw {d : Addr} {es : Array DictEntry} {ep : Nat} (lo : (d == sysModules) = false) : KdlSrc prog w "dict" d d es.size (fun i v => (es[i]?).map (·.key) = some v) (fun h => RawDict h d es ep) where
  type := fun _ ⟨o, ho, hc, _⟩ => ⟨o, ho, hc.1⟩
  there := fun _ hm => ⟨hm.lt, hm.lt⟩
  keep := fun _ _ hm hk => hm.at fun o e => hk d (.inl rfl) o e
  notList := by decide
  notTuple := by decide
  hint := fun _ _ _ _ ⟨o, ho, hc, _⟩ hq => kdl_hint_dict ⟨o, ho, hc.1⟩ hq
  iter := fun _ s hh hm => ⟨_, _, (fun _ _ hq => iter_raw lo hm hq), walks_raw hh _ d (Nat.ne_of_lt hm.lt) es ep, ⟨⟨_, Heap.get?_push_size _ rfl, rfl, rfl⟩, hm.at fun o e => Heap.get?_push_of_some _ e⟩⟩
end

/-- a kind of key that is data and has an order -/
structure SKey (K : Type) where
  data : K → PyData
  lt : K → K → Bool
  one : Bool
  irr : ∀ a, lt a a = false
  trans : ∀ a b c, lt a b = true → lt b c = true → lt a c = true
  tri : ∀ a b, a ≠ b → lt a b = false → lt b a = true
  kind : ∀ {M : Model} {A : Around} {E : Value → Shared → Prop} {s : Shared} {vs : List Value} {ks : List K} {Q : SortKind → Shared → Prop}, RdAll s.heap vs (ks.map data) → 0 < ks.length → Q (tuples' one) s → wpAny M A (keyKind' vs.toArray) Q E s
  ask : ∀ {prog : Program} {w : World} {A : Around} {E : Value → Shared → Prop} {s : Shared} {x y : Value} {p q : K} {C : Bool → Shared → Prop}, Rd s.heap x (data p) → Rd s.heap y (data q) → A.units + 5 < cLine → C (lt p q) s → wpAny (model prog w) A (keyLt' (tuples' one) x y) C E s

theorem ltPt_irr (a : P2) : ltPt a a = false := by simp [ltPt]
theorem ltPt_trans (a b c : P2) (h : ltPt a b = true) (h' : ltPt b c = true) : ltPt a c = true := by
  simp only [ltPt, Bool.or_eq_true, Bool.and_eq_true, decide_eq_true_eq] at *
  omega
theorem ltPt_tri (a b : P2) (h : a ≠ b) (h' : ltPt a b = false) : ltPt b a = true := by
  have h2 : ¬ (a.1 = b.1 ∧ a.2 = b.2) := fun q => h (Prod.ext q.1 q.2)
  simp only [ltPt, Bool.or_eq_false_iff, Bool.and_eq_false_iff, decide_eq_false_iff_not, Bool.or_eq_true, Bool.and_eq_true, decide_eq_true_eq] at *
  omega
theorem ltKey_irr (a : P2 × P2) : ltKey a a = false := by simp [ltKey, ltPt_irr]
theorem ltKey_trans (a b c : P2 × P2) (h : ltKey a b = true) (h' : ltKey b c = true) : ltKey a c = true := by
  simp only [ltKey, Bool.or_eq_true, Bool.and_eq_true, decide_eq_true_eq] at *
  rcases h with h | ⟨e, h⟩ <;> rcases h' with h' | ⟨e', h'⟩
  · exact .inl (ltPt_trans _ _ _ h h')
  · exact .inl (e' ▸ h)
  · exact .inl (e ▸ h')
  · exact .inr ⟨e.trans e', ltPt_trans _ _ _ h h'⟩
theorem ltKey_tri (a b : P2 × P2) (h : a ≠ b) (h' : ltKey a b = false) : ltKey b a = true := by
  simp only [ltKey, Bool.or_eq_false_iff, Bool.and_eq_false_iff, decide_eq_false_iff_not, Bool.or_eq_true, Bool.and_eq_true, decide_eq_true_eq] at *
  by_cases e : a.1 = b.1
  · have e2 : a.2 ≠ b.2 := fun q => h (Prod.ext e q)
    rcases h'.2 with q | q
    · exact absurd e q
    · exact .inr ⟨e.symm, ltPt_tri _ _ e2 q⟩
  · exact .inl (ltPt_tri _ _ e h'.1)
noncomputable def skPt : SKey P2 where
  data := ptD
  lt := ltPt
  one := true
  irr := ltPt_irr
  trans := ltPt_trans
  tri := ltPt_tri
  kind := fun r hn h => kind_pts r hn h
  ask := fun rx ry hu h => keylt_pt rx ry hu h
noncomputable def skKey : SKey (P2 × P2) where
  data := keyD
  lt := ltKey
  one := false
  irr := ltKey_irr
  trans := ltKey_trans
  tri := ltKey_tri
  kind := fun r hn h => kind_keys r hn h
  ask := fun rx ry hu h => keylt_key rx ry hu h

theorem rdAll_len {h : Heap} {vs : List Value} {ds : List PyData} (r : RdAll h vs ds) : vs.length = ds.length := by
  induction ds generalizing vs with
  | nil => rw [rdAll_nil] at r; subst r; rfl
  | cons d ds ih =>
    rw [rdAll_cons] at r
    obtain ⟨v, r', rfl, a, b⟩ := r
    simp [ih b]
theorem rdAll_of_get {h : Heap} : ∀ {vs : List Value} {ds : List PyData}, vs.length = ds.length → (∀ (i : Nat) (v : Value), vs[i]? = some v → ∃ d, ds[i]? = some d ∧ Rd h v d) → RdAll h vs ds
  | [], [], _, _ => .nil
  | v :: vs, d :: ds, e, k => by
    obtain ⟨d', h1, h2⟩ := k 0 v rfl
    cases h1
    exact rdAll_cons'.mpr ⟨h2, rdAll_of_get (by simpa using e) fun i v hv => by
      obtain ⟨d', h1, h2⟩ := k (i + 1) v (by simpa using hv)
      exact ⟨d', by simpa using h1, h2⟩⟩
theorem rdAll_getD {h : Heap} {K : Type} {f : K → PyData} : ∀ {vs : List Value} {ks : List K}, RdAll h vs (ks.map f) → ∀ (d : K) (i : Nat), i < ks.length → Rd h (vs.getD i .none) (f (ks.getD i d))
  | vs, [], _, _, i, hi => absurd hi (Nat.not_lt_zero _)
  | vs, k :: ks, r, d, i, hi => by
    rw [List.map_cons, rdAll_cons] at r
    obtain ⟨v, r', rfl, a, b⟩ := r
    cases i with
    | zero => exact a
    | succ i => simpa using rdAll_getD b d i (by simpa using hi)

section
variable {prog : Program} {w : World} {A : Around} {E : Value → Shared → Prop} {s : Shared} {h₀ : Heap} {L a D : Addr} {m : Str → Option Value} {news : List (Addr × Obj)} {vs : List Value} {K : Type} [DecidableEq K]

theorem rdAll_map {h : Heap} {f : K → PyData} (g : Nat → Value) (g' : Nat → K) : ∀ {l : List Nat}, (∀ i ∈ l, Rd h (g i) (f (g' i))) → RdAll h (l.map g) ((l.map g').map f)
  | [], _ => .nil
  | i :: l, hi => rdAll_cons'.mpr ⟨hi i (.head _), rdAll_map g g' fun j hj => hi j (.tail _ hj)⟩

theorem zip_getD {K : Type} {Rel : Value → K → Prop} : ∀ {vs : List Value} {ks : List K}, Zip Rel vs ks → ∀ (d : K) (i : Nat), i < ks.length → Rel (vs.getD i .none) (ks.getD i d)
  | _, _, .nil, _, i, hi => absurd hi (Nat.not_lt_zero _)
  | _, _, .cons r z, d, 0, _ => r
  | _, _, .cons r z, d, i + 1, hi => by simpa using zip_getD z d i (by simpa using hi)
theorem zip_of_map {K : Type} {Rel : Value → K → Prop} (g : Nat → Value) (g' : Nat → K) : ∀ {l : List Nat}, (∀ i ∈ l, Rel (g i) (g' i)) → Zip Rel (l.map g) (l.map g')
  | [], _ => .nil
  | i :: l, hi => .cons (hi i (.head _)) (zip_of_map g g' fun j hj => hi j (.tail _ hj))
theorem zip_of_get {K : Type} {Rel : Value → K → Prop} : ∀ {vs : List Value} {ks : List K}, vs.length = ks.length → (∀ (i : Nat) (v : Value), vs[i]? = some v → ∃ d, ks[i]? = some d ∧ Rel v d) → Zip Rel vs ks
  | [], [], _, _ => .nil
  | v :: vs, d :: ds, e, k => by
    obtain ⟨d', h1, h2⟩ := k 0 v rfl
    cases h1
    exact .cons h2 (zip_of_get (by simpa using e) fun i v hv => by
      obtain ⟨d', h1, h2⟩ := k (i + 1) v (by simpa using hv)
      exact ⟨d', by simpa using h1, h2⟩)
theorem lsort_keys (S : SKey K) (Rel : Value → K → Prop) {ks : List K} {Q : Value → Shared → Prop} {n : Nat} (F : Fr h₀ L s.heap m) (N : News h₀ L s.heap ((D, listOf vs.toArray n) :: news)) (hlt : ∀ q ∈ news, q.1 < D)
    (z : Zip Rel vs ks) (hRel : ∀ v k, Rel v k → ∀ h' : Heap, (∀ b o, h₀.get? b = some o → h'.get? b = some o) → News h₀ L h' news → Rd h' v (S.data k)) (nd : ks.Nodup) (h64 : ks.length < 64) (hu : A.units + 10 < cLine)
    (h : ∀ c h' (out : List Value) (ks' : List K), Fr h₀ L h' m → News h₀ L h' ((D, listOf out.toArray c) :: news) → Zip Rel out ks' → ks'.Perm ks → ks'.Pairwise (fun a b => S.lt a b = true) → Q .none { s with heap := h' }) :
    wpAny (model prog w) A (call (.builtin "list.sort") [.ref D]) Q E s := by
  have hoff : ∀ q ∈ news, q.1 ≠ D := fun q hq => Nat.ne_of_lt (hlt q hq)
  have hlen := z.length
  by_cases h2 : vs.length < 2
  · refine lsort_short F N hoff h2 fun c h' F' N' => h c h' vs ks F' N' z (List.Perm.refl _) ?_
    match ks, hlen with
    | [], _ => exact .nil
    | [_], _ => exact .cons (fun _ h => nomatch h) .nil
    | _ :: _ :: _, hlen => simp at hlen; omega
  · obtain ⟨d, ks₁, e⟩ : ∃ d ks₁, ks = d :: ks₁ := by
      cases ks with
      | nil => exact absurd (show vs.length < 2 by rw [hlen]; exact (by decide : (0 : Nat) < 2)) h2
      | cons d ks₁ => exact ⟨d, ks₁, rfl⟩
    refine kat_lsort (vs := vs) F N (.head hoff) (by simp) (by omega) (by omega) fun e1 h' F' N' => ?_
    have r' : RdAll h' vs (ks.map S.data) := rdAll_of_zip (z.mono fun v k q => hRel v k q h' F'.keep fun p hp => N' p (.tail _ hp))
    refine S.kind (s := { s with heap := h' }) r' (by omega) ?_
    have O : Ord ks.length (fun i j => S.lt (ks.getD i d) (ks.getD j d)) := by
      refine ⟨fun i => S.irr _, fun i j k => S.trans _ _ _, fun i j hi hj hij => S.tri _ _ fun q => hij ?_⟩
      have e1 : ks.getD i d = ks[i] := by simp [hi]
      have e2 : ks.getD j d = ks[j] := by simp [hj]
      rw [e1, e2] at q
      exact (List.getElem_inj nd).mp q
    rw [hlen]
    refine tw_kas (n := ks.length) (I := fun s' => s' = { s with heap := h' }) (lt := fun i j => S.lt (ks.getD i d) (ks.getD j d)) ?_ (P := fun q => Per ks.length q ∧ Inc (fun i j => S.lt (ks.getD i d) (ks.getD j d)) q ks.length) ?_ _ _ rfl (tw_sort O (by omega))
    · rintro i j C _ hi hj rfl hC
      exact S.ask (s := { s with heap := h' }) (rdAll_getD r' d i hi) (rdAll_getD r' d j hj) (by show _ + 1 + _ < _; omega) (hC _ rfl)
    · rintro p _ ⟨hp, hinc⟩ rfl
      refine KasFin.intro F' N' (.head hoff) fun h₂ c F₂ N₂ => ?_
      have hs := hp.size
      refine h c h₂ _ (p.toList.map fun i => ks.getD i d) F₂ N₂ (zip_of_map _ _ fun i hi => zip_getD z d i (by simpa using hp.mem_iff.mp hi)) ?_ ?_
      · have e2 : (List.range ks.length).map (fun i => ks.getD i d) = ks := by
          apply List.ext_getElem
          · simp
          · intro i h1 h2
            simp [h2]
        exact (hp.map fun i => ks.getD i d).trans (List.Perm.of_eq e2)
      · rw [List.pairwise_map, List.pairwise_iff_getElem]
        intro i j hi hj hij
        have := hinc i j hij (by simpa [hs] using hj)
        unfold at_ at this
        have hi' : i < p.size := by simpa using hi
        have hj' : j < p.size := by simpa using hj
        have e1 : p.getD i 0 = p[i] := by simp [Array.getD, hi']
        have e2 : p.getD j 0 = p[j] := by simp [Array.getD, hj']
        rw [e1, e2] at this
        simpa using this

theorem sorted_keys (S : SKey K) (Rel : Value → K → Prop) {d : Addr} {es : Array DictEntry} {ep : Nat} {ks : List K} {Q : Value → Shared → Prop} (lo : (d == sysModules) = false) (hh : A.handled = none) (F : Fr h₀ L s.heap m) (N : News h₀ L s.heap news) (hr : RawDict s.heap d es ep)
    (hks : ∀ (i : Nat) (v : Value), (es[i]?).map (·.key) = some v → ∃ k, ks[i]? = some k ∧ Rel v k) (hRel : ∀ v k, Rel v k → ∀ h' : Heap, (∀ b o, h₀.get? b = some o → h'.get? b = some o) → News h₀ L h' news → Rd h' v (S.data k)) (hsz : es.size = ks.length) (nd : ks.Nodup) (h64 : ks.length < 64) (hu : A.units + 20 < cLine)
    (h : ∀ D c h' tk (out : List Value) (ks' : List K), Fr h₀ L h' m → News h₀ L h' ((D, listOf out.toArray c) :: news) → (∀ q ∈ news, q.1 < D) → Zip Rel out ks' → ks'.Perm ks → ks'.Pairwise (fun a b => S.lt a b = true) → Q (.ref D) { s with heap := h', toks := tk }) :
    wpAny (model prog w) A (call (.builtin "sorted") [.ref d]) Q E s := by
  refine kdu_sorted (kdl_raw lo) hh F N hr (by rw [hsz, sizeLine_eq]; omega) fun D h' tk vs F' N' hlt hlen hvs => ?_
  have z : Zip Rel vs ks := zip_of_get (hlen.trans hsz) fun i v hv => hks i v (hvs i v hv)
  exact lsort_keys S Rel (s := { s with heap := h', toks := tk }) F' N' hlt z hRel nd h64 (by show _ + 1 + _ < _; omega) fun c h₂ out ks' F₂ N₂ zl hp hs => h D c h₂ tk out ks' F₂ N₂ hlt zl hp hs
end
end Mine
end

section
open PySem PySem.W PySem.Calls PyProof.Rows PySem.Spec PyProof.Rows.LCg PyProof.Rows.LCt PyProof.Rows.LCp
set_option maxRecDepth 100000
namespace Mine

/-- a key's tuple as an object -/
noncomputable def KeyO (h : Heap) (o : Obj) (k : P2 × P2) : Prop := o.cls = .type "tuple" ∧ ∃ l r n, o.data = .seq #[.ref l, .ref r] n ∧ Rd h (.ref l) (ptD k.1) ∧ Rd h (.ref r) (ptD k.2)
noncomputable def EntO (h : Heap) (o : Obj) (e : Ent) : Prop := o.cls = .type "tuple" ∧ ∃ v1 v2 t n, o.data = .seq #[v1, v2, .int e.2.2 t] n ∧ Rd h v1 (ptD e.1) ∧ Rd h v2 (remD e.2.1)
theorem KeyO.rd {h₀ h : Heap} {o : Obj} {k : P2 × P2} {a : Addr} (x : KeyO h₀ o k) (e : h.get? a = some o) (up : ∀ b o, h₀.get? b = some o → h.get? b = some o) : Rd h (.ref a) (keyD k) := by
  obtain ⟨hc, l, r, n, hd, rl, rr⟩ := x
  exact .tuple e hc hd (rdAll_cons'.mpr ⟨Reads.keeps up rl, rdAll_cons'.mpr ⟨Reads.keeps up rr, .nil⟩⟩)
theorem EntO.rd {h₀ h : Heap} {o : Obj} {k : Ent} {a : Addr} (x : EntO h₀ o k) (e : h.get? a = some o) (up : ∀ b o, h₀.get? b = some o → h.get? b = some o) : Rd h (.ref a) (entD k) := by
  obtain ⟨hc, l, r, t, n, hd, rl, rr⟩ := x
  exact .tuple e hc hd (rdAll_cons'.mpr ⟨Reads.keeps up rl, rdAll_cons'.mpr ⟨Reads.keeps up rr, rdAll_cons'.mpr ⟨.int _ _, .nil⟩⟩⟩)

noncomputable def tailOf (h : Heap) (xs : List ((P2 × P2) × Addr × Value)) : List (Addr × Obj) := xs.filterMap fun x => (h.get? x.2.1).map fun o => (x.2.1, o)
theorem mem_tailOf {h : Heap} {xs : List ((P2 × P2) × Addr × Value)} {p : Addr × Obj} : p ∈ tailOf h xs ↔ h.get? p.1 = some p.2 ∧ ∃ x ∈ xs, x.2.1 = p.1 := by
  unfold tailOf
  rw [List.mem_filterMap]
  constructor
  · rintro ⟨x, hx, e⟩
    obtain ⟨o, ho, rfl⟩ := Option.map_eq_some_iff.mp e
    exact ⟨ho, x, hx, rfl⟩
  · rintro ⟨h1, x, hx, e⟩
    refine ⟨x, hx, ?_⟩
    rw [e, h1]; rfl
theorem tailOf_map {h : Heap} {xs : List ((P2 × P2) × Addr × Value)} (hx : ∀ x ∈ xs, Rd h (.ref x.2.1) (keyD x.1)) : (tailOf h xs).map (·.1) = xs.map (·.2.1) := by
  unfold tailOf
  induction xs with
  | nil => rfl
  | cons x xs ih =>
    obtain ⟨_, l, r, q, ⟨o, ho, -⟩, -⟩ := key_inv (hx x (.head _))
    cases q
    rw [List.filterMap_cons, ho]
    simp only [Option.map_some, List.map_cons]
    rw [ih fun x q => hx x (.tail _ q)]

section
variable {prog : Program} {w : World} {A : Around} {s : Shared} {h₀ : Heap} {L : Addr} {m : Str → Option Value} {env : Env}
theorem compP_inv {elt : PySem.Expr} {x x₂ : Str} {scope : Scope} {cl : List (Str × Addr)} {S : List (Addr × Obj) → Prop} {P : Nat → Value → Prop} {Fin : List Value → List (Addr × Obj) → Prop} (n : Nat) (J : Nat → List Value → List (Addr × Obj) → Prop)
    (turn : ∀ i v ys news, i < n → J i ys news → P i v → ∃ (t : Addr) (ot : Obj) (v₁ v₂ : Value) (nt : Nat), v = .ref t ∧ (t, ot) ∈ news ∧ ot.cls = .type "tuple" ∧ ot.data = .seq #[v₁, v₂] nt ∧
      ∀ I oI C oC D m₂ h tk (E' : Value → Shared → Prop), NsObj oC m₂ → m₂ x = some v₁ → m₂ x₂ = some v₂ → Fr h₀ L h m → News h₀ L h ((I, oI) :: (C, oC) :: (D, lst ys) :: news) → Off3 I C D news → ((@Ne Nat I C) ∧ (@Ne Nat I D) ∧ (@Ne Nat C D)) →
      wpAny (model prog w) A (eval elt (compEnvC scope cl C env)) (CompEnd h₀ L m { s with heap := h, toks := tk } I oI C oC D (lst ys) S (fun y news' => J (i + 1) (ys ++ [y]) news')) E' { s with heap := h, toks := tk })
    (fin : ∀ ys news, J n ys news → Fin ys news) : ∀ (k i : Nat) (ys : List Value) (news : List (Addr × Obj)), i + k = n → J i ys news → CompRestP prog w A h₀ L m env elt x x₂ scope cl s S P Fin k i ys news
  | 0, i, ys, news, e, hj => CompRestP.zero (fin ys news (by have : i = n := by omega
                                                             exact this ▸ hj))
  | k + 1, i, ys, news, e, hj => CompRestP.succ fun v hv => by
      obtain ⟨t, ot, v₁, v₂, nt, h1, h2, h3, h4, h5⟩ := turn i v ys news (by omega) hj hv
      refine ⟨t, ot, v₁, v₂, nt, h1, h2, h3, h4, fun I oI C oC D m₂ h tk E' a b c F N o ne => wpAny_mono (h5 I oI C oC D m₂ h tk E' a b c F N o ne) (fun y s' z => ?_) fun _ _ e => e⟩
      obtain ⟨h', tk', news', e1, F', N', o', S', r⟩ := z
      exact ⟨h', tk', news', e1, F', N', o', S', compP_inv n J turn fin k (i + 1) (ys ++ [y]) news' (by omega) r⟩
end
theorem off3_ins {I C D : Addr} {p1 p2 p3 p4 q : Addr × Obj} {nw tl : List (Addr × Obj)} (h : Off3 I C D (p1 :: p2 :: p3 :: p4 :: (nw ++ tl))) (hq : q.1 ≠ I ∧ q.1 ≠ C ∧ q.1 ≠ D) : Off3 I C D (p1 :: p2 :: p3 :: p4 :: ((q :: nw) ++ tl)) := by
  obtain ⟨a, b, c, d, e⟩ := h
  exact ⟨a, b, c, d, hq, e⟩
theorem sub_ins {q1 q2 i1 i2 i3 p1 p2 p3 p4 : Addr × Obj} {l : List (Addr × Obj)} : ∀ p ∈ i1 :: i2 :: i3 :: p1 :: p2 :: p3 :: p4 :: q1 :: l, p ∈ q1 :: q2 :: i1 :: i2 :: i3 :: p1 :: p2 :: p3 :: p4 :: l := by
  intro p hp
  simp only [List.mem_cons] at hp ⊢
  rcases hp with h | h | h | h | h | h | h | h | h <;> simp [h]
theorem off3_ins6 {I C D : Addr} {p1 p2 p3 p4 p5 p6 q : Addr × Obj} {nw tl : List (Addr × Obj)} (h : Off3 I C D (p1 :: p2 :: p3 :: p4 :: p5 :: p6 :: (nw ++ tl))) (hq : q.1 ≠ I ∧ q.1 ≠ C ∧ q.1 ≠ D) : Off3 I C D (p1 :: p2 :: p3 :: p4 :: p5 :: p6 :: ((q :: nw) ++ tl)) := by
  obtain ⟨a, b, c, d, e, f, g⟩ := h
  exact ⟨a, b, c, d, e, f, hq, g⟩
theorem sub_ins6 {q1 i1 i2 i3 p1 p2 p3 p4 p5 p6 : Addr × Obj} {l : List (Addr × Obj)} : ∀ p ∈ i1 :: i2 :: i3 :: p1 :: p2 :: p3 :: p4 :: p5 :: p6 :: q1 :: l, p ∈ q1 :: i1 :: i2 :: i3 :: p1 :: p2 :: p3 :: p4 :: p5 :: p6 :: l := by
  intro p hp
  simp only [List.mem_cons] at hp ⊢
  rcases hp with h | h | h | h | h | h | h | h | h | h | h <;> simp [h]
noncomputable def conE (cl : List ((P2 × P2) × Int)) (k : P2 × P2) : Ent := (k.1, some k.2, (look cl k).getD 0)
noncomputable def lstE (ll : List (P2 × Int)) (k : P2) : Ent := (k, none, (look ll k).getD 0)
noncomputable def RowsAt (h : Heap) (v : Value) (cl : List ((P2 × P2) × Int)) (ll : List (P2 × Int)) : Prop := ∃ (D : Addr) (out : Array Value) (ck : List (P2 × P2)) (lk : List P2), v = .ref D ∧ h.IsList D out ∧ ck.Perm (cl.map (·.1)) ∧ ck.Pairwise (fun a b => ltKey a b = true) ∧ lk.Perm (ll.map (·.1)) ∧ lk.Pairwise (fun a b => ltPt a b = true) ∧ RdAll h out.toList ((ck.map (conE cl) ++ lk.map (lstE ll)).map entD)

local macro_rules | `(tactic| walk_at "exec Assign cons ListComp") => `(tactic| (k_here; k_dflt (refine LCp.Assign_ListComp_P (F₀ := by k_asm) (by exact rfl) (by with_unfolding_all rfl) (by with_unfolding_all rfl) (by decide) (by rfl) (by decide) (by rfl) (by rfl) (by decide) (by rfl) (by rfl) ?_)))
local macro_rules | `(tactic| walk_at "eval ListComp") => `(tactic| (k_here; k_dflt (refine LCg.ListComp_U (F₀ := by k_asm) (by with_unfolding_all rfl) (by decide) (by rfl) (by decide) (by rfl) ?_)))
namespace RowsZ
noncomputable def P (w : World) (dp : Nat) (un : Nat) (fr : Option (List Env)) (gd : Option (List Code)) (R : Result → Shared → Prop) (s : Shared) (H : Heap) (X : Addr) (DX : Addr) (C : Addr) (D : Addr) (cl : List ((P2 × P2) × Int)) (ll : List (P2 × Int)) (u1 : Tok) (u2 : Tok) (un' : Nat) (xsC : List ((P2 × P2) × Addr × Value)) : Prop := (Wld w H) → (∀ x o, H.get? x = some o → s.heap.get? x = some o) → (H.get? X = none) → (H.get? DX = none) → (TabIs w H s.heap X DX C D cl ll) → (cl.length < 60) → (ll.length < 60) → (dp < 380) → (un < 380) → (∀ h' tk v, (∀ x o, s.heap.get? x = some o → h'.get? x = some o) → RowsAt h' v cl ll → R (.ok (.ret v)) { s with heap := h', toks := tk }) → (s.heap.get? DX = some (dictOf [⟨PyData.keyHash w.params "connections", .str "connections" u1, .ref C⟩, ⟨PyData.keyHash w.params "listeners", .str "listeners" u2, .ref D⟩] un')) → (s.heap.DictOfH (pairKind PySem.Challenge.pw_nu0119_01 w) C xsC) → (VsAre xsC cl) → ((C == sysModules) = false) → (∀ x ∈ xsC, H.get? x.2.1 = none) →
    codeAny (model PySem.Challenge.pw_nu0119_01 w) ⟨none, dp, fr, gd, un⟩ (.call (.ref 96) ⟨[.ref X], []⟩) R s
noncomputable def PC (c : Zx) : Prop := P c.w c.k0 c.k1 c.fr c.gd c.R c.s c.H c.A0 c.A1 c.A2 c.A3 c.cl c.ll c.t0 c.t1 c.k2 c.xc
noncomputable def cx : Zx := @Classical.epsilon Zx ⟨zx₀⟩ fun c => ¬ PC c
@[irreducible] noncomputable def w : World := cx.w
@[irreducible] noncomputable def dp : Nat := cx.k0
@[irreducible] noncomputable def un : Nat := cx.k1
@[irreducible] noncomputable def fr : Option (List Env) := cx.fr
@[irreducible] noncomputable def gd : Option (List Code) := cx.gd
@[irreducible] noncomputable def R : Result → Shared → Prop := cx.R
@[irreducible] noncomputable def hZ : Heap := cx.s.heap
@[irreducible] noncomputable def sg : Array GenState := cx.s.gens
@[irreducible] noncomputable def sd : Drawn := cx.s.drawn
@[irreducible] noncomputable def st : Nat := cx.s.toks
@[irreducible] noncomputable def so : OsState := cx.s.os
@[irreducible] noncomputable def H : Heap := cx.H
@[irreducible] noncomputable def X : Addr := cx.A0
@[irreducible] noncomputable def DX : Addr := cx.A1
@[irreducible] noncomputable def C : Addr := cx.A2
@[irreducible] noncomputable def D : Addr := cx.A3
@[irreducible] noncomputable def cl : List ((P2 × P2) × Int) := cx.cl
@[irreducible] noncomputable def ll : List (P2 × Int) := cx.ll
@[irreducible] noncomputable def u1 : Tok := cx.t0
@[irreducible] noncomputable def u2 : Tok := cx.t1
@[irreducible] noncomputable def un' : Nat := cx.k2
@[irreducible] noncomputable def xsC : List ((P2 × P2) × Addr × Value) := cx.xc
@[irreducible] noncomputable def L : Addr := hZ.objs.size
theorem L_eq : hZ.objs.size = L := by delta L; rfl
theorem lt_L {x : Addr} {o : Obj} (h : hZ.get? x = some o) : x < L := L_eq ▸ Heap.lt_size h
@[irreducible] noncomputable def tl : List (Addr × Obj) := tailOf hZ xsC
theorem tl_eq : tailOf hZ xsC = tl := by delta tl; rfl
theorem mem_tl {p : Addr × Obj} : p ∈ tl ↔ hZ.get? p.1 = some p.2 ∧ ∃ x ∈ xsC, x.2.1 = p.1 := by rw [← tl_eq]; exact mem_tailOf
@[irreducible] noncomputable def h₀ : Heap := hideAll hZ (X :: DX :: tl.map (·.1))
theorem h₀_eq : hideAll hZ (X :: DX :: tl.map (·.1)) = h₀ := by delta h₀; rfl
set_option maxHeartbeats 1000000 in
theorem core (W : Wld w H) (hk : ∀ x o, H.get? x = some o → hZ.get? x = some o) (hXH : H.get? X = none) (hDXH : H.get? DX = none) (tb : TabIs w H hZ X DX C D cl ll) (hcl : cl.length < 60) (hll : ll.length < 60) (hdp : dp < 380) (hun : un < 380) (h : ∀ h' tk v, (∀ x o, hZ.get? x = some o → h'.get? x = some o) → RowsAt h' v cl ll → R (.ok (.ret v)) ⟨h', sg, sd, tk, so⟩) (hDX : hZ.get? DX = some (dictOf [⟨PyData.keyHash w.params "connections", .str "connections" u1, .ref C⟩, ⟨PyData.keyHash w.params "listeners", .str "listeners" u2, .ref D⟩] un')) (dC : hZ.DictOfH (pairKind PySem.Challenge.pw_nu0119_01 w) C xsC) (vC : VsAre xsC cl) (lC : (C == sysModules) = false) (frC : ∀ x ∈ xsC, H.get? x.2.1 = none) :
    codeAny (model PySem.Challenge.pw_nu0119_01 w) ⟨none, dp, fr, gd, un⟩ (.call (.ref 96) ⟨[.ref X], []⟩) R ⟨hZ, sg, sd, st, so⟩ := by
  obtain ⟨loose, mean, mg, mb, T⟩ := W.T
  have tb₀ := tb
  obtain ⟨hX, -, -, hD, hne1, hne2, hne3⟩ := tb
  obtain ⟨oC, esC, epC, hoC, hcC, hdC, heC, hisC, hnC⟩ := dC
  obtain ⟨xsD, ⟨oD, esD, epD, hoD, hcD, hdD, heD, hisD, hnD⟩, vD, lD⟩ := hD
  have hps : ∀ p ∈ (X, instObj 99 DX) :: (DX, dictOf [⟨PyData.keyHash w.params "connections", .str "connections" u1, .ref C⟩, ⟨PyData.keyHash w.params "listeners", .str "listeners" u2, .ref D⟩] un') :: tl, hZ.get? p.1 = some p.2 :=
    all_cons hX (all_cons hDX fun p hp => (mem_tl.mp hp).1)
  have hkeyo : ∀ x ∈ xsC, ∃ l r n o, hZ.get? x.2.1 = some o ∧ o.cls = .type "tuple" ∧ o.data = .seq #[.ref l, .ref r] n := fun x hx => by
    obtain ⟨_, l, r, q, ⟨o, ho, hc, n, hd⟩, -⟩ := key_inv (hisC x hx)
    cases q
    exact ⟨l, r, n, o, ho, hc, hd⟩
  have hk' : ∀ x o, H.get? x = some o → h₀.get? x = some o := h₀_eq ▸ hideLow (ps := (X, oC) :: (DX, oC) :: tl) hk (all_cons hXH (all_cons hDXH fun p hp => by
    obtain ⟨-, x, hx, e⟩ := mem_tl.mp hp
    exact e ▸ frC x hx))
  have kpt : ∀ v p, Rd hZ v (ptD p) → Rd h₀ v (ptD p) := fun v p r => by
    obtain ⟨a, t1, t2, rfl, ⟨o, ho, hc, n, hd⟩⟩ := pt_inv r
    refine rd_tup_ref.mpr ⟨o, _, n, h₀_eq ▸ hideAll_get _ ho ?_, hc, hd, rdAll_cons'.mpr ⟨.int _ _, rdAll_cons'.mpr ⟨.int _ _, .nil⟩⟩⟩
    intro q
    rcases List.mem_cons.mp q with rfl | q
    · rw [hX] at ho; cases ho; exact absurd hc (by simp)
    rcases List.mem_cons.mp q with rfl | q
    · rw [hDX] at ho; cases ho; exact absurd hc (by simp)
    · rw [← tl_eq, tailOf_map hisC] at q
      obtain ⟨x, hx, rfl⟩ := List.mem_map.mp q
      obtain ⟨l, r, n', o', ho', -, hd'⟩ := hkeyo x hx
      rw [ho] at ho'; cases ho'
      rw [hd] at hd'; cases hd'
  have hkey : ∀ x ∈ xsC, ∃ o, (x.2.1, o) ∈ tl ∧ KeyO h₀ o x.1 := fun x hx => by
    obtain ⟨_, l, r, q, ⟨o, ho, hc, n, hd⟩, rl, rr⟩ := key_inv (hisC x hx)
    cases q
    exact ⟨o, mem_tl.mpr ⟨ho, x, hx, rfl⟩, hc, l, r, n, hd, kpt _ _ rl, kpt _ _ rr⟩
  have hdict : ∀ {a o}, hZ.get? a = some o → o.cls = .type "dict" → (∀ b, o ≠ dictOf b un' ∨ a ≠ DX) → a ≠ X → a ≠ DX → h₀.get? a = some o := fun {a o} ho hc _ h1 h2 => by
    rw [← h₀_eq]
    refine hideAll_get _ ho ?_
    intro q
    rcases List.mem_cons.mp q with q | q
    · exact h1 q
    rcases List.mem_cons.mp q with q | q
    · exact h2 q
    · rw [← tl_eq, tailOf_map hisC] at q
      obtain ⟨x, hx, rfl⟩ := List.mem_map.mp q
      obtain ⟨l, r, n', o', ho', hc', -⟩ := hkeyo x hx
      rw [ho] at ho'; cases ho'
      rw [hc] at hc'; exact absurd hc' (by simp)
  have hoC' := hdict hoC hcC.1 (fun _ => .inr hne2) (ne_cls hoC hX (by rw [hcC.1]; simp)) hne2
  have hoD' := hdict hoD hcD.1 (fun _ => .inr hne3) (ne_cls hoD hX (by rw [hcD.1]; simp)) hne3
  have W' := W.keeps hk'
  have X' := W.K.keeps hk'
  have T' := T.keeps hk'
  k_dflt (refine' enterZ (K := Mine.hd.heap_39 w.params) (binds := [("self", .ref X)]) (X :: DX :: tl.map (·.1)) L_eq h₀_eq (W.K.keeps hk) (T.keeps hk).nolimit ?k6 ?k7 ?k8 ?k9 ?kB ?kD ?_ ?c2 ?c3 ?c4; (case k6 => k_is); (case k7 => k_is); (case k8 => (dsimp only; rw [show recursionLimit = 1000 from rfl]; omega)); (case k9 => exact BindsTo.of_eq rfl); (case kB => exact rfl); (case kD => decide +kernel); (case c2 => exact rfl); (case c3 => exact rfl); (case c4 => exact rfl))
  intro h₁ tk₁ cells F Nc Y hk₁ hab
  obtain ⟨oc, rfl, dc⟩ := CellsAre.one Y
  have N : News h₀ L h₁ ((L + 1, oc) :: (X, instObj 99 DX) :: (DX, dictOf [⟨PyData.keyHash w.params "connections", .str "connections" u1, .ref C⟩, ⟨PyData.keyHash w.params "listeners", .str "listeners" u2, .ref D⟩] un') :: tl) := by
    intro p hp
    rcases List.mem_cons.mp hp with rfl | hp
    · exact Nc _ (.head _)
    · have k := newsStart hps hk₁
      rw [← h₀_eq, ← L_eq]
      exact k p hp
  have hX0 := ltN (lt_L hX)
  have hDX0 := ltN (lt_L hDX)
  have hT0 : ∀ p ∈ tl, p.1 < L := fun p hp => lt_L (mem_tl.mp hp).1
  try dsimp only at *
  clear hk₁ Y Nc hab hdict hkeyo
  (all_goals try k_fold)
  k_steps
  rename News _ _ _ _ => Nx
  rename Fr _ _ _ _ => Fx
  refine sorted_keys skKey (fun v k => ∃ a o, v = .ref a ∧ (a, o) ∈ tl ∧ KeyO h₀ o k) (es := esC) (ep := epC) (ks := xsC.map (·.1)) lC (by exact rfl) Fx Nx ⟨oC, Fx.keep _ _ hoC', hcC, hdC⟩ ?_ ?_ ?_ hnC ?_ ?_ ?_
  · intro i v q
    have q2 := key_at heC q
    rw [List.getElem?_map] at q2
    obtain ⟨x, hx, rfl⟩ := Option.map_eq_some_iff.mp q2
    obtain ⟨o, hm, ho⟩ := hkey x (List.mem_of_getElem? hx)
    exact ⟨x.1, by rw [List.getElem?_map, hx]; rfl, _, o, rfl, hm, ho⟩
  · rintro v k ⟨a, o, rfl, hm, ho⟩ h' up N'
    exact ho.rd (N'.get (.tail _ (.tail _ (.tail _ hm)))) up
  · rw [size_of_entries heC, List.length_map]
  · rw [List.length_map, vC.length]; omega
  · simp only [units_deeper, cLine]; omega
  · intro D1 c1 hp₁ tk₂ out ck F₂ N₂ hlt hz hperm hpw
    have hck : ck.length = cl.length := by rw [hperm.length_eq, List.length_map, vC.length]
    refine SrcLP.ledger (by exact rfl) F₂ N₂ (.head _) (by rw [List.size_toArray, hz.length, sizeLine_eq]; omega) ?_
    intro g₁
    refine compP_inv out.toArray.size (fun i ys news => ∃ nw, news = (D1, listOf out.toArray c1) :: (L + 1, oc) :: (X, instObj 99 DX) :: (DX, dictOf [⟨PyData.keyHash w.params "connections", .str "connections" u1, .ref C⟩, ⟨PyData.keyHash w.params "listeners", .str "listeners" u2, .ref D⟩] un') :: (nw ++ tl) ∧
      Zip (fun v e => ∃ a o, v = .ref a ∧ (a, o) ∈ nw ∧ EntO h₀ o e) ys ((ck.take i).map (conE cl))) ?_ ?_ _ _ _ _ (by omega) ⟨[], rfl, .nil⟩
    · rintro i v ys _ hi ⟨nw, rfl, hys⟩ hv
      obtain ⟨k, hk1, a, o, rfl, hm, hc, l, r, nt, hd, rl, rr⟩ := hz.get (by simpa using hv)
      refine ⟨a, o, _, _, _, rfl, .tail _ (.tail _ (.tail _ (.tail _ (List.mem_append_right _ hm)))), hc, hd, ?_⟩
      intro I oI Cc oC2 Dl m₂ hp₃ tk₃ E' hNs hm1 hm2 F₃ N₃ off3 ne3
      k_steps
      have hlk : look cl k = some ((look cl k).getD 0) := by
        have hm : k ∈ cl.map (·.1) := by
          have := hperm.mem_iff.mp (List.mem_of_getElem? hk1)
          rwa [vC.keys] at this
        obtain ⟨y, hy, rfl⟩ := List.mem_map.mp hm
        rw [look_mem (by rw [← vC.keys]; exact hnC) hy]
        rfl
      rename News _ _ _ _ => N₄
      rename Fr _ _ _ _ => F₄
      refine sub_dict (knd := pairKind PySem.Challenge.pw_nu0119_01 w) (k := k) (xs := xsC) (cl := cl) (by dsimp only [pairKind]; simp only [units_deeper, cLine]; omega) (by dsimp only [pairKind]; simp only [units_deeper, cLine]; omega) (rdNkey N₄ (.head _) (rdF F₄ rl) (rdF F₄ rr))
        (DicO.at (rd := fun k a => ∃ o, (a, o) ∈ tl ∧ KeyO h₀ o k) ⟨hcC, esC, epC, hdC, heC, hkey, hnC⟩ (F₄.keep _ _ hoC') fun x a ⟨o, hm, ho⟩ => ho.rd (N₄.get (by first | exact .tail _ (.tail _ (.tail _ (.tail _ (.tail _ (.tail _ (.tail _ (.tail _ (List.mem_append_right _ hm)))))))))) F₄.keep) vC hlk ?_
      intro tq
      k_steps
      rename _ < _ ∧ _ < _ ∧ _ < _ ∧ _ < _ ∧ _ < _ ∧ _ < _ ∧ _ < _ ∧ _ < _ ∧ AllLt _ _ => l3
      refine CompEnd.intro (by assumption) (by assumption) _ sub_ins (off3_ins off3 ⟨?_, ?_, ?_⟩) (.inr ⟨_, .head _, rfl, _, rfl⟩) ⟨_ :: nw, rfl, ?_⟩
      · exact Nat.ne_of_gt l3.2.1
      · exact Nat.ne_of_gt l3.2.2.1
      · exact Nat.ne_of_gt l3.2.2.2.1
      · rw [take_succ hk1, List.map_append]
        exact (hys.mono fun v e ⟨a, o, h1, h2, h3⟩ => ⟨a, o, h1, .tail _ h2, h3⟩).append (.cons ⟨_, _, rfl, .head _, rfl, _, _, _, _, rfl, rl, rr⟩ .nil)
    · rintro ys _ ⟨nw, rfl, hys⟩
      rw [show out.toArray.size = ck.length by simpa using hz.length, List.take_length] at hys
      k_steps
      rename News _ _ _ _ => N₅
      rename Fr _ _ _ _ => F₅
      rename_i Df hpf tkf of1
      refine sorted_keys skPt (fun v k => Rd h₀ v (ptD k)) (es := esD) (ep := epD) (ks := xsD.map (·.1)) lD (by exact rfl) F₅ N₅ ⟨oD, F₅.keep _ _ hoD', hcD, hdD⟩ ?_ ?_ ?_ hnD ?_ ?_ ?_
      · intro i v q
        have q2 := key_at heD q
        rw [List.getElem?_map] at q2
        obtain ⟨x, hx, rfl⟩ := Option.map_eq_some_iff.mp q2
        exact ⟨x.1, by rw [List.getElem?_map, hx]; rfl, kpt _ _ (hisD x (List.mem_of_getElem? hx))⟩
      · intro v k r h' up N'
        exact Reads.keeps up r
      · rw [size_of_entries heD, List.length_map]
      · rw [List.length_map, vD.length]; omega
      · simp only [units_deeper, cLine]; omega
      · intro D2 c2 hp₆ tk₆ out2 lk F₆ N₆ hlt2 hz2 hperm2 hpw2
        have hlk : lk.length = ll.length := by rw [hperm2.length_eq, List.length_map, vD.length]
        refine CompSrc.ledger (by exact rfl) F₆ N₆ (.head _) (by rw [List.size_toArray, hz2.length, sizeLine_eq]; omega) ?_
        intro g₂
        refine compU_inv out2.toArray.size (fun i zs news => ∃ nw2, news = (D2, listOf out2.toArray c2) :: (Df, lst ys) :: (D1, listOf out.toArray c1) :: (L + 1, oc) :: (X, instObj 99 DX) :: (DX, dictOf [⟨PyData.keyHash w.params "connections", .str "connections" u1, .ref C⟩, ⟨PyData.keyHash w.params "listeners", .str "listeners" u2, .ref D⟩] un') :: (nw2 ++ (nw ++ tl)) ∧
          Zip (fun v e => ∃ a o, v = .ref a ∧ (a, o) ∈ nw2 ∧ EntO h₀ o e) zs ((lk.take i).map (lstE ll))) ?_ ?_ _ _ _ _ (by omega) ⟨[], rfl, .nil⟩
        · rintro i v I oI Cc oC2 Dl m₂ hp₇ tk₇ E' zs _ hi ⟨nw2, rfl, hzs⟩ hv hNs hmx F₇ N₇ off7 ne7
          obtain ⟨k, hk1, rk⟩ := hz2.get (by simpa using hv)
          obtain ⟨a, t1, t2, rfl, hTk⟩ := pt_inv rk
          have hlk3 : look ll k = some ((look ll k).getD 0) := by
            have hm : k ∈ ll.map (·.1) := by
              have := hperm2.mem_iff.mp (List.mem_of_getElem? hk1)
              rwa [vD.keys] at this
            obtain ⟨y, hy, rfl⟩ := List.mem_map.mp hm
            rw [look_mem (by rw [← vD.keys]; exact hnD) hy]
            rfl
          k_steps
          refine sub_dict (knd := ptKind PySem.Challenge.pw_nu0119_01 w) (k := k) (xs := xsD) (cl := ll) (by dsimp only [ptKind]; simp only [units_deeper, cLine]; omega) (by dsimp only [ptKind]; simp only [units_deeper, cLine]; omega) (rdF F₇ rk)
            (DicO.at (rd := fun k a => Rd h₀ (.ref a) (ptD k)) ⟨hcD, esD, epD, hdD, heD, fun x hx => kpt _ _ (hisD x hx), hnD⟩ (F₇.keep _ _ hoD') fun x a r => rdF F₇ r) vD hlk3 ?_
          intro tq
          k_steps
          rename _ < _ ∧ _ < _ ∧ _ < _ ∧ _ < _ ∧ _ < _ ∧ _ < _ ∧ _ < _ ∧ _ < _ ∧ _ < _ ∧ AllLt _ _ => l3
          refine CompEnd.intro (by assumption) (by assumption) _ sub_ins6 (off3_ins6 off7 ⟨?_, ?_, ?_⟩) (.inr ⟨_, .head _, rfl, _, rfl⟩) ⟨_ :: nw2, rfl, ?_⟩
          · exact Nat.ne_of_gt l3.1
          · exact Nat.ne_of_gt l3.2.1
          · exact Nat.ne_of_gt l3.2.2.1
          · rw [take_succ hk1, List.map_append]
            exact (hzs.mono fun v e ⟨a, o, h1, h2, h3⟩ => ⟨a, o, h1, .tail _ h2, h3⟩).append (.cons ⟨_, _, rfl, .head _, rfl, _, _, _, _, rfl, rk, .none⟩ .nil)
        · rintro zs _ ⟨nw2, rfl, hzs⟩
          rw [show out2.toArray.size = lk.length by simpa using hz2.length, List.take_length] at hzs
          k_steps
          rename News _ _ _ _ => N₈
          rename Fr _ _ _ _ => F₈
          refine add_lists F₈ N₈ (N₈.isList (.tail _ (.tail _ (.head _)))) (N₈.isList (.head _)) ?_ ?_
          · intro h₉ F₉ N₉
            k_steps
            try dsimp only
            refine h _ _ _ (unhideL hps h₀_eq.symm F₉ N₉ (all_cons (by k_mem) (all_cons (by k_mem) fun p hp => ?_))) ⟨_, _, ck, lk, rfl, ⟨_, N₉.get (.head _), rfl, _, rfl⟩, vC.keys ▸ hperm, hpw, vD.keys ▸ hperm2, hpw2, ?_⟩
            · exact .tail _ (.tail _ (.tail _ (.tail _ (.tail _ (.tail _ (.tail _ (.tail _ (List.mem_append_right _ (List.mem_append_right _ hp)))))))))
            · refine rdAll_of_zip (Zip.append (hys.mono fun v e ⟨a, o, h1, h2, h3⟩ => ?_) (hzs.mono fun v e ⟨a, o, h1, h2, h3⟩ => ?_))
              · subst h1
                exact h3.rd (N₉.get (.tail _ (.tail _ (.tail _ (.tail _ (.tail _ (.tail _ (.tail _ (.tail _ (List.mem_append_right _ (List.mem_append_left _ h2))))))))))) F₉.keep
              · subst h1
                exact h3.rd (N₉.get (.tail _ (.tail _ (.tail _ (.tail _ (.tail _ (.tail _ (.tail _ (.tail _ (List.mem_append_left _ h2)))))))))) F₉.keep
          · have e1 := hys.length
            have e2 := hzs.length
            rw [List.length_map] at e1 e2
            rw [e1, e2, sizeLine_eq]
            omega
theorem fin : PC cx := by with_unfolding_all exact core
end RowsZ
theorem rows_spec {w : World} {dp un : Nat} {fr : Option (List Env)} {gd : Option (List Code)} {R : Result → Shared → Prop} {s : Shared} {H : Heap} {X DX C D : Addr} {cl : List ((P2 × P2) × Int)} {ll : List (P2 × Int)}
    (W : Wld w H) (hk : ∀ x o, H.get? x = some o → s.heap.get? x = some o) (hXH : H.get? X = none) (hDXH : H.get? DX = none)
    (tb : TabIs w H s.heap X DX C D cl ll) (hcl : cl.length < 60) (hll : ll.length < 60) (hdp : dp < 380) (hun : un < 380)
    (h : ∀ h' tk v, (∀ x o, s.heap.get? x = some o → h'.get? x = some o) → RowsAt h' v cl ll → R (.ok (.ret v)) { s with heap := h', toks := tk }) :
    codeAny (model PySem.Challenge.pw_nu0119_01 w) ⟨none, dp, fr, gd, un⟩ (.call (.ref 96) ⟨[.ref X], []⟩) R s := by
  obtain ⟨_, hDX, u1, u2, un', rfl⟩ := tb.2; obtain ⟨xsC, dC, vC, lC, frC⟩ := tb.con
  exact
  zxAll (P := RowsZ.PC) RowsZ.fin { zx₀ with w := w, k0 := dp, k1 := un, fr := fr, gd := gd, R := R, s := s, H := H, A0 := X, A1 := DX, A2 := C, A3 := D, cl := cl, ll := ll, t0 := u1, t1 := u2, k2 := un', xc := xsC } W hk hXH hDXH tb hcl hll hdp hun h hDX dC vC lC frC
local macro_rules | `(tactic| walk_at "zz") => `(tactic| fail)
theorem zreset_Rows {M : Model} {A : Around} {env : Env} {Q : Flow → Shared → Prop} {E : Value → Shared → Prop} {s : Shared} (h : wpAny M A (execs [] env) Q E s) : wpAny M A (execs [] env) Q E s := by first | (walk1; fail) | exact h
end Mine
end

section
open PySem PySem.W PySem.Calls PyProof.Rows PySem.Spec
set_option maxRecDepth 100000
namespace Mine
section
variable {prog : Program} {w : World} {A : Around} {R : Result → Shared → Prop} {hp : Heap} {g : Array GenState} {d : Drawn} {tk : Nat} {os : OsState} {l : Addr} {items : Array Value} {n : Nat} {x : Value} {e : Nat → Bool} {j : Nat}
/-- list.remove from place i on: it goes to the first place j whose item is x, items read from the heap as it stands -/
theorem rem_walk (hl : hp.get? l = some (seqObj "list" items n)) (he : ∀ m (hm : m < items.size), SeqAt.EqAt A.in1 ⟨hp, g, d, tk, os⟩ items[m] x (e m)) (hj : j < items.size) (hit : e j = true) (hno : ∀ m, m < j → e m = false) (hs1 : items.size ≤ sizeLine)
    (h : R (.ok (.ret .none)) ⟨hp.update l (Obj.mapSeq fun xs => xs.eraseIdxIfInBounds j), g, d, tk, os⟩) :
    ∀ (k i : Nat), i + k = j → wpAny (model prog w) A.in1 (Builtin.«list.remove.loop» ⟨[.ref l, x, rawInt i], []⟩)
      (fun fin s' => match fin with | .done f => R (.ok f) s' | .again c' => c'.quiet = true ∧ codeAny (model prog w) A c' R s') (fun e s' => R (.error e) s') ⟨hp, g, d, tk, os⟩ := by
  have hz' : (items.eraseIdxIfInBounds j).size ≤ sizeLine + 1 := Nat.le_trans (MeetsSeq.size_erased items j) (Nat.le_succ_of_le hs1)
  intro k
  induction k with
  | zero =>
    rintro i rfl
    wp_walk using AutoSeq1.wpAny_loadPart' hl
    rw [show items[((i : Nat) : Int).toNat]? = some items[i] from by simp [hj]]
    refine wpAny_bind (he _ hj prog w _ _ ?_)
    rw [hit]
    wp_walk using (wpAny_updateSeq hl rfl (hz := hs1) (_hz' := hz')), AutoSeq1.wpAny_loadPart' hl
    simpa using h
  | succ k ih =>
    intro i hk
    have hi : i < items.size := by omega
    wp_walk using AutoSeq1.wpAny_loadPart' hl
    rw [show items[((i : Nat) : Int).toNat]? = some items[i] from by simp [hi]]
    refine wpAny_bind (he _ hi prog w _ _ ?_)
    rw [hno i (by omega)]
    wp_walk
    refine ⟨plainId_quiet MeetsSeq.plain_remove_loop _, codeAny_builtin MeetsSeq.entry_remove_loop ?_⟩
    rw [Around.under_plainId MeetsSeq.plain_remove_loop _]
    exact ih (i + 1) (by omega)
end

section
variable {prog : Program} {w : World} {A : Around} {E : Value → Shared → Prop} {s : Shared} {h₀ : Heap} {L l : Addr} {m : Str → Option Value} {news : List (Addr × Obj)}
theorem remove_call {ys : List Value} {n : Nat} {x : Value} {e : Nat → Bool} {j : Nat} {gg : Obj → List (Addr × Obj)} {Q : Value → Shared → Prop} (F : Fr h₀ L s.heap m) (N : News h₀ L s.heap news) (U : UpdF l (listOf ys.toArray n) news gg)
    (he : ∀ i (hi : i < ys.length), SeqAt.EqAt A.in1 s ys[i] x (e i)) (hj : j < ys.length) (hit : e j = true) (hno : ∀ i, i < j → e i = false) (hs1 : ys.length ≤ sizeLine)
    (h : ∀ h' c, Fr h₀ L h' m → News h₀ L h' (gg (listOf (ys.eraseIdx j).toArray c)) → Q .none { s with heap := h' }) : wpAny (model prog w) A (call (.builtin "list.remove") [.ref l, x]) Q E s := by
  obtain ⟨hp, g, d, tk, os⟩ := s
  have hm := N _ (by obtain ⟨pre, post, rfl, -⟩ := U.split; exact List.mem_append_right _ (.head _))
  have ho : hp.get? l = some (seqObj "list" ys.toArray n) := hm.1
  refine wpAny_call (codeAny_call_builtin PySem.F.slot_list_remove.plain PySem.F.entry_list_remove (PySem.F.slot_list_remove.check _ _ _ _ _ _ _ _ ⟨_, ho, rfl⟩ (PySem.F.args_list_remove_2 _ _) ?_))
  wp_walk using AutoSeq1.wpAny_loadPart' ho
  refine ⟨plainId_quiet MeetsSeq.plain_remove_loop _, codeAny_builtin MeetsSeq.entry_remove_loop ?_⟩
  rw [Around.under_plainId MeetsSeq.plain_remove_loop _]
  refine rem_walk (R := wants Q E) (items := ys.toArray) (n := n) (j := j) (e := e) ho (fun i hi => by simpa using he i (by simpa using hi)) (by simpa using hj) hit hno (by simpa using hs1) ?_ j 0 (by omega)
  have s1 := Heap.SameBut.update hp l (Obj.mapSeq fun xs => xs.eraseIdxIfInBounds j)
  have hc := get?_update_seq ho fun xs => xs.eraseIdxIfInBounds j
  have e1 : ys.toArray.eraseIdxIfInBounds j = (ys.eraseIdx j).toArray := by simp [List.eraseIdxIfInBounds_toArray]
  rw [e1] at hc
  exact h _ _ (kas_fr F s1 hm.2.1 hm.2.2) (newsUpd N U hc fun x o hx q => (s1.2 x hx).trans q)
end
end Mine
end

section
open PySem PySem.W PySem.Calls PyProof.Rows PySem.Spec
set_option maxRecDepth 100000
namespace Mine
section
variable {prog : Program} {w : World} {A : Around} {E : Value → Shared → Prop} {s : Shared} {env : Env} {h₀ : Heap} {body : List Stmt}
/-- for target in l, l a list of the ledger that stays; the target is left to the turn -/
theorem list_loopG {R : Result → Shared → Prop} {target : PySem.Expr} {l : Addr} {n : Nat} {vs : List Value} {L : Addr} {m₀ : Str → Option Value} {news : List (Addr × Obj)} (J : Nat → (Str → Option Value) → List (Addr × Obj) → Prop)
    (hh : A.handled = none) (F : Fr h₀ L s.heap m₀) (N : News h₀ L s.heap news) (hl : (l, listOf vs.toArray n) ∈ news) (hj : J 0 m₀ news) (hkp : ∀ i m nx, J i m nx → (l, listOf vs.toArray n) ∈ nx)
    (turn : ∀ i v m₁ news₁ h tk I oI, vs[i]? = some v → J i m₁ news₁ → (∀ p ∈ news₁, p.1 ≠ I) → Fr h₀ L h m₁ → News h₀ L h ((I, oI) :: news₁) →
      wpAny (model prog w) A (assign target env v) (fun _ s₂ => wpAny (model prog w) A (execs body env) (LEnd h₀ L I oI (J (i + 1)) { s with heap := h, toks := tk } (fun f s' => R (.ok f) s')) (fun _ _ => False) s₂) (fun _ _ => False) { s with heap := h, toks := tk })
    (done : ∀ m₁ news₁ h tk, J vs.length m₁ news₁ → Fr h₀ L h m₁ → News h₀ L h news₁ → R (.ok .next) { s with heap := h, toks := tk }) :
    wpAny (model prog w) A (pyIter (.ref l)) (fun it s₂ => codeAny (model prog w) A (.forLoop target it body [] env) R s₂) E s := by
  have hls : s.heap.IsList l vs.toArray := ⟨_, N.get hl, rfl, n, rfl⟩
  have hlt : l < s.heap.objs.size := Heap.lt_size (N.get hl)
  have hne : l ≠ s.heap.objs.size := Nat.ne_of_lt hlt
  refine wpAny_pyIter_list hls ?_
  generalize hI : s.heap.objs.size = I at *
  have hIn : h₀.get? I = none := hI ▸ next_is_new F
  have hIL : L ≠ I := hI ▸ Nat.ne_of_lt F.ns.lt
  have up : ∀ b o, s.heap.get? b = some o → (s.heap.push { cls := .type "list_iterator", data := .fields #[.ref l, .int 0 0] }).get? b = some o := fun b o e => Heap.get?_push_of_some _ e
  have off0 : ∀ p ∈ news, p.1 ≠ I := fun p hp e => by
    have := Heap.lt_size (N p hp).1
    rw [e, hI] at this
    exact Nat.lt_irrefl _ this
  have W := Walks.list (prog := prog) (w := w) hh I l hne vs.toArray
  refine forLoopG
    (fun k s' => ∃ h' tk m' news' i, s' = { s with heap := h', toks := tk } ∧ h'.IsListIter I l i ∧ Fr h₀ L h' m' ∧ News h₀ L h' news' ∧ (∀ p ∈ news', p.1 ≠ I) ∧ J i m' news' ∧ i ≤ vs.length ∧ k = vs.length + 1 - i) ?_ (vs.length + 1)
    ⟨_, s.toks, m₀, news, 0, rfl, ⟨_, by rw [← hI]; exact Heap.get?_push_size _ rfl, rfl, rfl⟩, F.keeps up, N.grown up, off0, hj, Nat.zero_le _, rfl⟩
  rintro k s' ⟨h', tk, m', news', i, rfl, hit, F', N', hoff, hJ, hi, rfl⟩ E'
  have hl' : h'.IsList l vs.toArray := ⟨_, N'.get (hkp _ _ _ hJ), rfl, n, rfl⟩
  by_cases hlast : i < vs.length
  · refine W.item i { s with heap := h', toks := tk } _ _ (by simpa using hlast) ⟨hit, hl'⟩ fun v h₂ tk₂ hv st₂ hk₂ => ?_
    dsimp only
    refine letGo_listiter (s' := { s with heap := h₂, toks := tk₂ }) st₂.1 ?_
    have hk₃ : ∀ x o, x ∉ [I] → h'.get? x = some o → h₂.get? x = some o := fun x o hx e => hk₂ x o hx e
    have F₂ : Fr h₀ L h₂ m' := frAfter (S := [I]) F' (fun a ha => by rw [List.mem_singleton.mp ha]; exact ⟨hIn, hIL⟩) hk₃
    have N₂ : News h₀ L h₂ news' := newsAfter (S := [I]) N' (fun p hp q => hoff p hp (List.mem_singleton.mp q)) hk₃
    obtain ⟨oI, hoI, hIr⟩ := id st₂.1
    have N₃ : News h₀ L h₂ ((I, oI) :: news') := fun p hp => by
      rcases List.mem_cons.mp hp with rfl | hp
      · exact ⟨hoI, Ne.symm hIL, hIn⟩
      · exact N₂ p hp
    refine wpAny_mono (turn i v m' news' h₂ tk₂ I oI (by simpa using hv) hJ hoff F₂ N₃) (fun _ s₂ z => wpAny_mono z (fun f s₃ y => ?_) fun _ _ e => e.elim) fun _ _ e => e.elim
    have fin : (∃ h' tk' m' nx, s₃ = { s with heap := h', toks := tk' } ∧ Fr h₀ L h' m' ∧ News h₀ L h' ((I, oI) :: nx) ∧ (∀ p ∈ nx, p.1 ≠ I) ∧ J (i + 1) m' nx) → ∃ n', n' < vs.length + 1 - i ∧ ∃ h' tk m' news' i, s₃ = { s with heap := h', toks := tk } ∧ h'.IsListIter I l i ∧ Fr h₀ L h' m' ∧ News h₀ L h' news' ∧ (∀ p ∈ news', p.1 ≠ I) ∧ J i m' news' ∧ i ≤ vs.length ∧ n' = vs.length + 1 - i := by
      rintro ⟨h₄, tk₄, m₄, nx, rfl, F₄, N₄, ho₄, hj₄⟩
      exact ⟨vs.length + 1 - (i + 1), by omega, h₄, tk₄, m₄, nx, i + 1, rfl, ⟨oI, N₄.get (.head _), hIr⟩, F₄, fun p hp => N₄ p (.tail _ hp), ho₄, hj₄, hlast, rfl⟩
    cases f with
    | ret v => exact y
    | brk => exact y
    | next => exact fin y
    | cont => exact fin y
  · have hi' : i = vs.length := by omega
    subst hi'
    refine W.done { s with heap := h', toks := tk } _ _ ⟨by simpa using hit, hl'⟩ fun h₂ tk₂ he₂ => ?_
    dsimp only
    have hk₃ : ∀ x o, x ∉ [I] → h'.get? x = some o → h₂.get? x = some o := fun x o hx e => he₂ x o hx e
    exact done m' news' h₂ tk₂ hJ (frAfter (S := [I]) F' (fun a ha => by rw [List.mem_singleton.mp ha]; exact ⟨hIn, hIL⟩) hk₃) (newsAfter (S := [I]) N' (fun p hp q => hoff p hp (List.mem_singleton.mp q)) hk₃)
end
section
variable {prog : Program} {w : World} {A : Around} {E : Value → Shared → Prop} {s : Shared} {env : Env} {h₀ : Heap} {x : Str} {body : List Stmt} {Q : Flow → Shared → Prop}
/-- for x in l, l a list of the ledger that stays -/
theorem list_loopM {l : Addr} {vs : List Value} {n : Nat} {m₀ : Str → Option Value} {news : List (Addr × Obj)} (J : Nat → (Str → Option Value) → List (Addr × Obj) → Prop)
    (hh : A.handled = none) (F : Fr h₀ env.locals s.heap m₀) (N : News h₀ env.locals s.heap news) (hl : (l, listOf vs.toArray n) ∈ news) (hj : J 0 m₀ news) (hkp : ∀ i m nx, J i m nx → (l, listOf vs.toArray n) ∈ nx)
    (turn : ∀ i v m₁ news₁ h tk I oI, vs[i]? = some v → J i m₁ news₁ → (∀ p ∈ news₁, p.1 ≠ I) → Fr h₀ env.locals h (fun y => if y = x then some v else m₁ y) → News h₀ env.locals h ((I, oI) :: news₁) →
      wpAny (model prog w) A (execs body env) (LEnd h₀ env.locals I oI (J (i + 1)) { s with heap := h, toks := tk } Q) E { s with heap := h, toks := tk })
    (done : ∀ m₁ news₁ h tk, J vs.length m₁ news₁ → Fr h₀ env.locals h m₁ → News h₀ env.locals h news₁ → Q .next { s with heap := h, toks := tk }) :
    wpAny (model prog w) A (pyIter (.ref l)) (fun it s₂ => LoopAtV prog w A h₀ env x body Q E it s₂) E s := by
  have hls : s.heap.IsList l vs.toArray := ⟨_, N.get hl, rfl, n, rfl⟩
  have hlt : l < s.heap.objs.size := Heap.lt_size (N.get hl)
  have hne : l ≠ s.heap.objs.size := Nat.ne_of_lt hlt
  have hlL : l ≠ env.locals := (N _ hl).2.1
  refine wpAny_pyIter_list hls ?_
  have hLs : env.locals < s.heap.objs.size := F.ns.lt
  refine walk_loop2 (kp := [(l, listOf vs.toArray n)]) (s := { s with heap := s.heap.push { cls := .type "list_iterator", data := .fields #[.ref l, .int 0 0] } }) J (Walks.list hh s.heap.objs.size l hne vs.toArray) (.head _) ?_ (next_is_new F) ?_ ?_ ?_
    ⟨⟨_, Heap.get?_push_size _ rfl, rfl, rfl⟩, hls.at fun o e => Heap.get?_push_of_some _ e⟩ (F.push _) (fun p hp => ⟨Heap.get?_push_of_some _ (N p hp).1, (N p hp).2⟩) hj (fun i m nx q p hp => List.mem_singleton.mp hp ▸ hkp i m nx q)
    (fun i v m₁ news₁ h tk oI hi hP => turn i v m₁ news₁ h tk _ oI (by simpa using hP)) (by simpa using done)
  · intro hm
    rcases List.mem_cons.mp hm with e | hm
    · exact absurd hLs (e ▸ Nat.lt_irrefl _)
    · exact hlL (List.mem_singleton.mp hm).symm
  · intro b hb
    rcases List.mem_cons.mp hb with e | hb
    · exact .inl e
    · exact .inr (.inr ⟨listOf vs.toArray n, by rw [List.mem_singleton.mp hb]; exact .head _⟩)
  · rintro i h ⟨⟨o, ho, _⟩, _⟩
    exact ⟨o, ho⟩
  · intro p hp e
    have := Heap.lt_size (N p hp).1
    rw [e] at this
    exact Nat.lt_irrefl _ this
end
section
variable {prog : Program} {w : World} {A : Around} {E : Value → Shared → Prop} {s : Shared} {env : Env} {h₀ : Heap} {x : Str} {body : List Stmt} {Q : Flow → Shared → Prop}
/-- a loop over anything that is walked by I alone, what it reads else standing in the base -/
theorem walk_loopP {PI : Obj → Prop} {I : Addr} {fp : List Addr} {n : Nat} {P : Nat → Value → Prop} {St : Nat → Heap → Prop} {m₀ : Str → Option Value} {news : List (Addr × Obj)} (J : Nat → (Str → Option Value) → List (Addr × Obj) → Prop)
    (W : Walks prog w A I fp [I] n P St) (hI : I ∈ fp) (hLf : env.locals ∉ fp) (hIn : h₀.get? I = none) (hfp : ∀ b ∈ fp, b = I ∨ ∃ o, h₀.get? b = some o) (hISt : ∀ i h, St i h → ∃ o, h.get? I = some o ∧ PI o)
    (hnw : ∀ p ∈ news, p.1 ≠ I) (hst : St 0 s.heap) (F : Fr h₀ env.locals s.heap m₀) (N : News h₀ env.locals s.heap news) (hj : J 0 m₀ news)
    (turn : ∀ i v m₁ news₁ h tk oI, i < n → PI oI → P i v → J i m₁ news₁ → (∀ p ∈ news₁, p.1 ≠ I) → Fr h₀ env.locals h (fun y => if y = x then some v else m₁ y) → News h₀ env.locals h ((I, oI) :: news₁) →
      wpAny (model prog w) A (execs body env) (LEnd h₀ env.locals I oI (J (i + 1)) { s with heap := h, toks := tk } Q) E { s with heap := h, toks := tk })
    (done : ∀ m₁ news₁ h tk, J n m₁ news₁ → Fr h₀ env.locals h m₁ → News h₀ env.locals h news₁ → Q .next { s with heap := h, toks := tk }) :
    LoopAtV prog w A h₀ env x body Q E (.ref I) s := by
  refine ⟨I, fp, [I], n, P, St, m₀, news, J, rfl, W, hLf, fun b hb => by rw [List.mem_singleton.mp hb]; exact hIn, fun p hp hq => hnw p hp (List.mem_singleton.mp hq), hst, F, N, hj, ?_, ?_⟩
  · rintro i v m₁ news₁ s₁ own ⟨hh', tk', rfl⟩ hin hP hJ hoff hown hownAt hownAll hSt F₁ N₁
    obtain ⟨oI, hoI, hPI⟩ := hISt _ _ hSt
    have hIo : (I, oI) ∈ own := hownAll I hI hIn oI hoI
    have one : ∀ p ∈ own, p = (I, oI) := by
      rintro ⟨b, ob⟩ hp
      have hb : b = I := by
        rcases hfp b (hown _ hp) with e | ⟨o, e⟩
        · exact e
        · have := (N₁ _ (List.mem_append_left _ hp)).2.2
          rw [e] at this; cases this
      subst hb
      have := hownAt _ hp
      rw [hoI] at this
      cases this; rfl
    have N₂ : News h₀ env.locals hh' ((I, oI) :: news₁) := by
      intro p hp
      rcases List.mem_cons.mp hp with rfl | hp
      · exact N₁ _ (List.mem_append_left _ hIo)
      · exact N₁ _ (List.mem_append_right _ hp)
    refine wpAny_mono (turn i v m₁ news₁ hh' tk' oI hin hPI hP hJ (fun p hp q => hoff p hp (by rw [q]; exact .head _)) F₁ N₂) (fun f s₂ z => ?_) fun _ _ e => e
    have fin : (∃ h' tk m' nx, s₂ = { s with heap := h', toks := tk } ∧ Fr h₀ env.locals h' m' ∧ News h₀ env.locals h' ((I, oI) :: nx) ∧ (∀ p ∈ nx, p.1 ≠ I) ∧ J (i + 1) m' nx) → LoopStepU h₀ env.locals [I] own (J (i + 1)) { s with heap := hh', toks := tk' } .next s₂ := by
      rintro ⟨h', tk, m', nx, rfl, F', N', hn, hj'⟩
      refine ⟨rfl, h', tk, m', nx, rfl, F', ?_, fun p hp q => hn p hp (List.mem_singleton.mp q), hj'⟩
      intro p hp
      rcases List.mem_append.mp hp with hp | hp
      · rw [one p hp]; exact N' _ (.head _)
      · exact N' _ (.tail _ hp)
    cases f with
    | ret v => exact .ret z
    | brk => exact .brk z
    | next => exact .next (fin z)
    | cont => exact .cont (fin z)
  · rintro h' tk m' news' F' N' _ hJ
    exact done m' news' h' tk hJ F' N'

/-- for x in range(a, b) -/
theorem range_loop {r : Addr} {a₀ b₀ : Int} {t₀ u₀ v₀ : Tok} {n : Nat} {m₀ : Str → Option Value} {news : List (Addr × Obj)} (J : Nat → (Str → Option Value) → List (Addr × Obj) → Prop)
    (hh : A.handled = none) (hr : IsRange s.heap r a₀ b₀ 1 t₀ u₀ v₀) (hsmall : Builtin.Range.small a₀ b₀ 1 = true) (hn : Builtin.Range.rangeSize a₀ b₀ 1 = (n : Int)) (F : Fr h₀ env.locals s.heap m₀) (N : News h₀ env.locals s.heap news) (hj : J 0 m₀ news)
    (turn : ∀ i v m₁ news₁ h tk I oI, i < n → oI.cls = .type "range_iterator" → J i m₁ news₁ → (∀ p ∈ news₁, p.1 ≠ I) → Fr h₀ env.locals h (fun y => if y = x then some v else m₁ y) → News h₀ env.locals h ((I, oI) :: news₁) →
      wpAny (model prog w) A (execs body env) (LEnd h₀ env.locals I oI (J (i + 1)) { s with heap := h, toks := tk } Q) E { s with heap := h, toks := tk })
    (done : ∀ m₁ news₁ h tk, J n m₁ news₁ → Fr h₀ env.locals h m₁ → News h₀ env.locals h news₁ → Q .next { s with heap := h, toks := tk }) :
    wpAny (model prog w) A (pyIter (.ref r)) (fun it s₂ => LoopAtV prog w A h₀ env x body Q E it s₂) E s := by
  refine wpAny_pyIter_range hr hsmall ?_
  refine walk_loopP (PI := fun o => o.cls = .type "range_iterator") (s := { s with heap := _ }) J (Walks.range hh s.heap.objs.size a₀ 1 n) (.head _) ?_ (next_is_new F) ?_ ?_ ?_ (by show IsRangeIter _ _ _ _ _; rw [hn]; simpa using Heap.get?_push_size _ rfl) (F.push _) (fun p hp => ⟨Heap.get?_push_of_some _ (N p hp).1, (N p hp).2⟩) hj (fun i v m₁ news₁ h tk oI hi hPI hP => turn i v m₁ news₁ h tk _ oI hi hPI) done
  · intro hm
    exact absurd F.ns.lt ((List.mem_singleton.mp hm) ▸ Nat.lt_irrefl _)
  · intro b hb
    exact .inl (List.mem_singleton.mp hb)
  · intro i h st
    exact ⟨_, st, rfl⟩
  · intro p hp e
    have := Heap.lt_size (N p hp).1
    rw [e] at this
    exact Nat.lt_irrefl _ this
end
end Mine
end

section
open PySem PySem.W PySem.Calls PyProof.Rows PySem.Spec
set_option maxRecDepth 100000
namespace Mine
/-- the key that an entry is ordered by -/
noncomputable def kd (e : Ent) : P2 × P2 := (e.1, e.2.1.getD (0, 0))
noncomputable def ltE (e l : Ent) : Bool := ltKey (kd e) (kd l)
noncomputable def leastOf (e : Ent) (l : List Ent) : Ent := l.foldl (fun m x => if ltE x m then x else m) e
theorem ltE_irr (a : Ent) : ltE a a = false := ltKey_irr _
theorem ltKey_asym {a b : P2 × P2} (h : ltKey a b = true) : ltKey b a = false := by
  cases e : ltKey b a with
  | false => rfl
  | true => have := ltKey_trans _ _ _ h e; rw [ltKey_irr] at this; cases this
theorem ltKey_ntrans {a b c : P2 × P2} (h : ltKey a b = false) (h' : ltKey b c = false) : ltKey a c = false := by
  cases e : ltKey a c with
  | false => rfl
  | true =>
    by_cases q : b = c
    · rw [q] at h; rw [h] at e; cases e
    · have h2 := ltKey_tri _ _ q h'
      have := ltKey_trans _ _ _ e h2
      rw [h] at this; cases this
theorem leastOf_mem : ∀ (l : List Ent) (e : Ent), leastOf e l ∈ e :: l
  | [], e => .head _
  | x :: l, e => by
    show leastOf (if ltE x e then x else e) l ∈ _
    have := leastOf_mem l (if ltE x e then x else e)
    rcases List.mem_cons.mp this with h | h
    · rw [h]; split <;> simp
    · exact .tail _ (.tail _ h)
theorem leastOf_min : ∀ (l : List Ent) (e b : Ent), b ∈ e :: l → ltE b (leastOf e l) = false
  | [], e, b, h => by rw [List.mem_singleton.mp h]; exact ltE_irr e
  | x :: l, e, b, h => by
    show ltE b (leastOf (if ltE x e then x else e) l) = false
    have ih := leastOf_min l (if ltE x e then x else e)
    rcases List.mem_cons.mp h with rfl | h
    · have h1 := ih _ (.head _)
      by_cases q : ltE x b = true
      · rw [if_pos q] at h1 ⊢
        exact ltKey_ntrans (ltKey_asym q) h1
      · rw [if_neg q] at h1 ⊢
        exact h1
    rcases List.mem_cons.mp h with rfl | h
    · have h1 := ih _ (.head _)
      by_cases q : ltE b e = true
      · rw [if_pos q] at h1 ⊢; exact h1
      · rw [if_neg q] at h1 ⊢
        exact ltKey_ntrans (show ltE b e = false by simpa using q) h1
    · exact ih b (.tail _ h)

/-- out is a beginning of the entries F in order, rem the rest -/
structure Sel (F out rem : List Ent) : Prop where
  perm : (out ++ rem).Perm F
  ord : out.Pairwise fun a b => ltE b a = false
  cross : ∀ a ∈ out, ∀ b ∈ rem, ltE b a = false
theorem Sel.start (F : List Ent) : Sel F [] F := ⟨List.Perm.refl _, .nil, fun _ h => nomatch h⟩
theorem erase_split {α : Type} : ∀ {l : List α} {j : Nat} {x : α}, l[j]? = some x → (x :: l.eraseIdx j).Perm l
  | [], _, _, h => by simp at h
  | y :: l, 0, x, h => by simp at h; subst h; simp
  | y :: l, j + 1, x, h => by
    rw [List.eraseIdx_cons_succ]
    exact (List.Perm.swap y x _).trans ((erase_split (by simpa using h)).cons y)
theorem Sel.step {F out rem : List Ent} {e : Ent} (s : Sel F out rem) {j : Nat} (hj : rem[j]? = some (leastOf e rem)) : Sel F (out ++ [leastOf e rem]) (rem.eraseIdx j) := by
  have hm : leastOf e rem ∈ rem := List.mem_of_getElem? hj
  have hsub : ∀ b ∈ rem.eraseIdx j, b ∈ rem := fun b hb => List.mem_of_mem_eraseIdx hb
  refine ⟨?_, ?_, ?_⟩
  · rw [List.append_assoc]
    exact ((erase_split hj).append_left out).trans s.perm
  · rw [List.pairwise_append]
    exact ⟨s.ord, List.pairwise_singleton .., fun a ha b hb => by rw [List.mem_singleton.mp hb]; exact s.cross a ha _ hm⟩
  · intro a ha b hb
    rcases List.mem_append.mp ha with h | h
    · exact s.cross a h b (hsub b hb)
    · rw [List.mem_singleton.mp h]
      refine leastOf_min rem e b (.tail _ (hsub b hb))
theorem Sel.len {F out rem : List Ent} (s : Sel F out rem) : out.length + rem.length = F.length := by
  have := s.perm.length_eq
  simpa using this
theorem Sel.done {F out : List Ent} (s : Sel F out []) : out.Perm F ∧ out.Pairwise fun a b => ltE b a = false := ⟨by simpa using s.perm, s.ord⟩
noncomputable def isB (b : Bool) (e : Ent) : Bool := e.2.1.isSome == b
theorem Sel.kind {M out rem : List Ent} {b : Bool} (s : Sel (M.filter (isB b)) out rem) {e : Ent} (he : e ∈ rem) : e.2.1.isSome = b := by
  have := s.perm.mem_iff.mp (List.mem_append_right _ he)
  simpa [isB] using (List.mem_filter.mp this).2
/-- the first place of an item -/
theorem first_at {l : List Ent} {x : Ent} (h : x ∈ l) : ∃ j : Nat, l[j]? = some x ∧ ∀ i : Nat, i < j → l[i]? ≠ some x := by
  induction l with
  | nil => cases h
  | cons y l ih =>
    by_cases e : y = x
    · exact ⟨0, by simp [e], fun i hi => absurd hi (Nat.not_lt_zero _)⟩
    · obtain ⟨j, h1, h2⟩ := ih ((List.mem_cons.mp h).resolve_left fun q => e q.symm)
      refine ⟨j + 1, by simpa using h1, fun i hi => ?_⟩
      cases i with
      | zero => simpa using e
      | succ i => simpa using h2 i (by omega)
/-- what the law's own ordering is -/
noncomputable def OrdL (M O : List Ent) : Prop := ∃ O1 O2, O = O1 ++ O2 ∧ (O1.Perm (M.filter (isB true)) ∧ O1.Pairwise fun a b => ltE b a = false) ∧ O2.Perm (M.filter (isB false)) ∧ O2.Pairwise fun a b => ltE b a = false
theorem ltE_some {l l' r r' : P2} {o o' : Int} : ltE (l, some r, o) (l', some r', o') = (ltPt l l' || (decide (l = l') && ltPt r r')) := rfl
theorem ltE_none {l l' : P2} {o o' : Int} : ltE (l, none, o) (l', none, o') = ltPt l l' := by
  show (ltPt l l' || (decide (l = l') && ltPt (0, 0) (0, 0))) = _
  rw [ltPt_irr]; simp
theorem depth_ent (e : Ent) : (entD e).depth ≤ 2 := by
  have h1 := depth_pt e.1
  have h2 : (remD e.2.1).depth ≤ 1 := by cases e.2.1 <;> simp [remD, ptD, PyData.depth, PyData.depthAll]
  simp only [entD, PyData.depth, PyData.depthAll]; omega
theorem eqAt_ent {A : Around} {s : Shared} {a b : Value} {p q : Ent} (ra : Rd s.heap a (entD p)) (rb : Rd s.heap b (entD q)) (hu : A.units + 5 < cLine) : SeqAt.EqAt A s a b (decide (p = q)) := by
  rw [← eqv_ent]
  exact SeqAt.eqAt_reads _ _ _ _ _ _ _ _ ra rb (lay_ent p) (lay_ent q) (by have := depth_ent p; omega)
end Mine
end

section
open PySem PySem.W PySem.Calls PyProof.Rows PySem.Spec PyProof.Rows.LCg PyProof.Rows.LCt
set_option maxRecDepth 100000
namespace Mine

/-- a fact that the walk is not to see -/
noncomputable def Hid (p : Prop) : Prop := p

/-- what is sorted after i turns -/
noncomputable def OutO (M O : List Ent) : Nat → Prop
  | 0 => O = []
  | 1 => O.Perm (M.filter (isB true)) ∧ O.Pairwise fun a b => ltE b a = false
  | _ => OrdL M O
inductive OutJ (h₀ : Heap) (M : List Ent) (T Fo L Le : Addr) (i : Nat) (m : Str → Option Value) (news : List (Addr × Obj)) : Prop
  | mk (os : List Value) (co : Nat) (O : List Ent) (o : Obj) (e : news = [(T, listOf #[.bool true, .bool false] 0), (Fo, listOf os.toArray co), (L + 1, o)]) (hm : Has m [("entries", .ref Le), ("found", .ref Fo)]) (hz : Zip (fun v e => Rd h₀ v (entD e)) os O) (hc : ∃ cv, o.data = .cell cv ∧ OutO M O i) : OutJ h₀ M T Fo L Le i m news
inductive WhJ (h₀ : Heap) (M : List Ent) (b : Bool) (O : List Ent) (Sm I T Fo Le L : Addr) (oI oC : Obj) (n : Nat) (m : Str → Option Value) (nx : List (Addr × Obj)) : Prop
  | mk (zs : List Value) (cz : Nat) (os : List Value) (co : Nat) (rem out : List Ent) (e : n = rem.length) (hm : Has m [("entries", .ref Le), ("found", .ref Fo), ("some", .ref Sm)]) (e2 : nx = [(Sm, listOf zs.toArray cz), (I, oI), (T, listOf #[.bool true, .bool false] 0), (Fo, listOf os.toArray co), (L + 1, oC)])
    (hz : Zip (fun v e => Rd h₀ v (entD e)) zs rem) (ho : Zip (fun v e => Rd h₀ v (entD e)) os (O ++ out)) (sel : Sel (M.filter (isB b)) out rem) : WhJ h₀ M b O Sm I T Fo Le L oI oC n m nx
/-- what `_law_ordered` gives back -/
noncomputable def OrdAt (h : Heap) (v : Value) (M : List Ent) : Prop := ∃ (D : Addr) (out : Array Value) (O : List Ent), v = .ref D ∧ h.IsList D out ∧ RdAll h out.toList (O.map entD) ∧ OrdL M O
theorem OutO.len {M O : List Ent} : ∀ {i : Nat}, OutO M O i → O.length ≤ 2 * M.length
  | 0, h => by rw [show O = [] from h]; exact Nat.zero_le _
  | 1, h => by
    have h1 := h.1.length_eq
    have h2 : (M.filter (isB true)).length ≤ M.length := List.length_filter_le _ _
    omega
  | _ + 2, ⟨O1, O2, e, ⟨h1, _⟩, h2, _⟩ => by
    have h1 := h1.length_eq
    have h2 := h2.length_eq
    have h3 : (M.filter (isB true)).length ≤ M.length := List.length_filter_le _ _
    have h4 : (M.filter (isB false)).length ≤ M.length := List.length_filter_le _ _
    rw [e, List.length_append]; omega
theorem Zip.erase {α : Type} {Rel : Value → α → Prop} {vs : List Value} {as : List α} (z : Zip Rel vs as) : ∀ j, Zip Rel (vs.eraseIdx j) (as.eraseIdx j) := by
  induction z with
  | nil => exact fun _ => .nil
  | cons r z ih =>
    intro j
    cases j with
    | zero => exact z
    | succ j => exact .cons r (ih j)
theorem OutO.next {M O out : List Ent} {i : Nat} {b : Bool} (h : OutO M O i) (hv : [Value.bool true, Value.bool false][i]? = some (.bool b)) (s : Sel (M.filter (isB b)) out []) : OutO M (O ++ out) (i + 1) := by
  match i, hv, h with
  | 0, hv, h =>
    obtain rfl : true = b := by simpa using hv
    have h : O = [] := h
    rw [h]
    exact s.done
  | 1, hv, h =>
    obtain rfl : false = b := by simpa using hv
    exact ⟨O, out, rfl, h, s.done⟩

local macro_rules | `(tactic| walk_at "exec Assign cons ListComp") => `(tactic| (k_here; k_dflt (refine LCt.Assign_ListComp_T (F₀ := by k_asm) (by exact rfl) (by with_unfolding_all rfl) (by with_unfolding_all rfl) (by decide) (by rfl) (by decide) (by rfl) (by rfl) (by rfl) ?_)))
namespace OrdZ
noncomputable def P (w : World) (dp : Nat) (un : Nat) (fr : Option (List Env)) (gd : Option (List Code)) (R : Result → Shared → Prop) (s : Shared) (H : Heap) (Le : Addr) (vs : Array Value) (n : Nat) (M : List Ent) : Prop := (Wld w H) → (∀ x o, H.get? x = some o → s.heap.get? x = some o) → (s.heap.IsList Le vs) → (RdAll s.heap vs.toList (M.map entD)) → (M.length ≤ 100) → (dp < 380) → (un < 380) → (∀ h' tk v, (∀ x o, s.heap.get? x = some o → h'.get? x = some o) → OrdAt h' v M → R (.ok (.ret v)) { s with heap := h', toks := tk }) →
    codeAny (model PySem.Challenge.pw_nu0119_01 w) ⟨none, dp, fr, gd, un⟩ (.call (.ref 148) ⟨[.ref Le], []⟩) R s
noncomputable def PC (c : Zx) : Prop := P c.w c.k0 c.k1 c.fr c.gd c.R c.s c.H c.A0 c.vs c.k2 c.M
noncomputable def cx : Zx := @Classical.epsilon Zx ⟨zx₀⟩ fun c => ¬ PC c
@[irreducible] noncomputable def w : World := cx.w
@[irreducible] noncomputable def dp : Nat := cx.k0
@[irreducible] noncomputable def un : Nat := cx.k1
@[irreducible] noncomputable def fr : Option (List Env) := cx.fr
@[irreducible] noncomputable def gd : Option (List Code) := cx.gd
@[irreducible] noncomputable def R : Result → Shared → Prop := cx.R
@[irreducible] noncomputable def hZ : Heap := cx.s.heap
@[irreducible] noncomputable def sg : Array GenState := cx.s.gens
@[irreducible] noncomputable def sd : Drawn := cx.s.drawn
@[irreducible] noncomputable def st : Nat := cx.s.toks
@[irreducible] noncomputable def so : OsState := cx.s.os
@[irreducible] noncomputable def H : Heap := cx.H
@[irreducible] noncomputable def Le : Addr := cx.A0
@[irreducible] noncomputable def vs : Array Value := cx.vs
@[irreducible] noncomputable def n : Nat := cx.k2
@[irreducible] noncomputable def M : List Ent := cx.M
@[irreducible] noncomputable def L : Addr := hZ.objs.size
theorem L_eq : hZ.objs.size = L := by delta L; rfl
theorem lt_L {x : Addr} {o : Obj} (h : hZ.get? x = some o) : x < L := L_eq ▸ Heap.lt_size h
set_option maxHeartbeats 4000000 in
theorem core (W : Wld w H) (hk : ∀ x o, H.get? x = some o → hZ.get? x = some o) (hl : hZ.IsList Le vs) (he : RdAll hZ vs.toList (M.map entD)) (hM : M.length ≤ 100) (hdp : dp < 380) (hun : un < 380) (h : ∀ h' tk v, (∀ x o, hZ.get? x = some o → h'.get? x = some o) → OrdAt h' v M → R (.ok (.ret v)) ⟨h', sg, sd, tk, so⟩) :
    codeAny (model PySem.Challenge.pw_nu0119_01 w) ⟨none, dp, fr, gd, un⟩ (.call (.ref 148) ⟨[.ref Le], []⟩) R ⟨hZ, sg, sd, st, so⟩ := by
  obtain ⟨loose, mean, mg, mb, T⟩ := W.T
  have X := W.K.keeps hk
  have T' := T.keeps hk
  have W' := W.keeps hk
  k_dflt (refine' enterZ (h₀ := hZ) (K := Mine.hd.heap_39 w.params) (binds := [("entries", .ref Le)]) [] L_eq rfl (W.K.keeps hk) (T.keeps hk).nolimit ?k6 ?k7 ?k8 ?k9 ?kB ?kD ?_ ?c2 ?c3 ?c4; (case k6 => k_is); (case k7 => k_is); (case k8 => (dsimp only; rw [show recursionLimit = 1000 from rfl]; omega)); (case k9 => exact BindsTo.of_eq rfl); (case kB => exact rfl); (case kD => decide +kernel); (case c2 => exact rfl); (case c3 => exact rfl); (case c4 => exact rfl))
  intro h₁ tk₁ cells F Nc Y hk₁ hab
  obtain ⟨oc, rfl, dc⟩ := CellsAre.one Y
  try dsimp only at *
  have hlH : Hid (hZ.IsList Le vs) := hl
  clear hl
  (all_goals try k_fold)
  k_steps
  refine wpAny_For ?_
  (repeat' (first | (k_unfold; (try dsimp only)) | (k_end; kc_close) | ((fail_if_success (with_reducible show wpAny _ _ (pyIter (.ref _)) _ _ _)); first | walk1 | (dsimp only; walk1) | (leave1; walk_say "STEP leave1"; (try dsimp only)))))
  rename News _ _ _ _ => Nx
  rename Fr _ _ _ _ => Fx
  rename_i Fo hF lF hF2 T hT lT
  refine list_loopG (vs := [.bool true, .bool false]) (n := 0) (l := T) (OutJ hZ M T Fo L Le) (by exact rfl) Fx Nx (by k_mem) ?_ ?_ ?_ ?_
  · exact ⟨[], 0, [], oc, rfl, has_cons rfl (has_cons rfl has_nil), .nil, _, dc, rfl⟩
  · rintro i m nx ⟨os, co, O, o, rfl, -⟩
    exact .head _
  · rintro i v m₁ _ hp₁ tk₁ I oI hv ⟨os, co, O, o, rfl, hm, hz, cv, hcd, hO⟩ hoff F₁ N₁
    obtain ⟨b, rfl⟩ : ∃ b, v = .bool b := by
      match i, hv with
      | 0, hv => exact ⟨true, by simpa using hv.symm⟩
      | 1, hv => exact ⟨false, by simpa using hv.symm⟩
    have sh := hm.shape
    simp only [over] at sh
    rw [sh] at F₁
    clear sh
    have nI1 : L + 1 ≠ I := hoff (L + 1, o) (by k_mem)
    have nI2 : Fo ≠ I := hoff (Fo, _) (by k_mem)
    have nI3 : T ≠ I := hoff (T, _) (by k_mem)
    have nI1 := neNat nI1
    have nI2 := neNat nI2
    have nI3 := neNat nI3
    k_steps
    rename News _ _ _ _ => N₂
    rename Fr _ _ _ _ => F₂
    rename_i oC hdC
    have hvs : vs.size = M.length := by have := rdAll_length he; simpa using this
    refine LCt.CompSrcT.base (by exact rfl) F₂ N₂ hlH (by rw [sizeLine_eq]; omega) ?_
    intro hp₁
    refine compT_ind (all := vs.toList) (Rel := fun v e => Rd hZ v (entD e)) (isB b) (fun i v q => by rw [Array.getElem?_toList]; exact q) (.inl hlH) (fun _ => rfl) (fun _ => rfl) (by decide) ?_ (vals := vs.toList) (M' := M) 0 [] (zip_of_rdAll he) rfl ?_
    · rintro v ⟨lo', rem', ow'⟩ I' oI' Cc oC2 Dl m₂ hp₂ tk₂ E'' ys hv hNs hmx F₃ N₃ off3 ne3
      obtain ⟨_, w1, w2, to', q, hT', r1', r2'⟩ := ent_inv hv
      cases q
      dsimp only at hT' r1' r2'
      cases rem' with
      | none =>
        obtain rfl := rd_none.mp r2'
        k_steps
        all_goals first | exact F₃ | exact N₃
      | some rr =>
        obtain ⟨_, tc, td, q, hTr⟩ := pt_inv r2'
        cases q
        k_steps
        all_goals first | exact F₃ | exact N₃
    · intro zs hz'
      rw [List.nil_append]
      iterate 2 (first | (k_unfold; (try dsimp only)) | (k_end; wrow_close) | walk1 | (dsimp only; walk1) | skip)
      rename News _ _ _ _ => N₄
      rename Fr _ _ _ _ => F₄
      rename_i Sm hS tkS oS
      refine While_inv (WhJ hZ M b O Sm I T Fo Le L oI oC) F₄ N₄ ⟨zs, _, os, co, M.filter (isB b), [], rfl, has_cons rfl (has_cons rfl (has_cons rfl has_nil)), rfl, hz', by rw [List.append_nil]; exact hz, Sel.start _⟩ ?_
      rintro n₅ m₅ _ h₅ tk₅ F₅ N₅ ⟨zs, cz, os, co, rem, out, rfl, hm, rfl, hzz, hzo, sel⟩
      have sh := hm.shape
      simp only [over] at sh
      rw [sh] at F₅
      clear sh N₄ F₄ F₂ N₂
      (repeat' (first | (k_unfold; (try dsimp only)) | (k_end; kc_close) | ((fail_if_success (with_reducible show wpAny _ _ (compareOp .NotEq (.ref _) (.ref _)) _ _ _)); first | walk1 | (dsimp only; walk1) | (leave1; walk_say "STEP leave1"; (try dsimp only)))))
      refine ne_nil (ys := zs) ⟨_, News.get (by assumption) (by k_mem), rfl, _, rfl⟩ ⟨_, News.get (by assumption) (.head _), rfl, _, rfl⟩ (by simp only [units_deeper, cLine]; omega) ?_
      rename News _ _ _ _ => N₆
      rename Fr _ _ _ _ => F₆
      cases hzz with
      | nil =>
        k_steps
        exact ⟨_, _, _, _, rfl, by assumption, newsSub (by assumption) (sub_cons (by k_mem) (sub_cons (by k_mem) (sub_cons (by k_mem) (sub_cons (by k_mem) sub_nil)))), all_cons (P := fun p => p.1 ≠ I) nI3 (all_cons nI2 (all_cons nI1 all_nil)), os, co, O ++ out, oC, rfl, has_cons rfl (has_cons rfl has_nil), hzo, ⟨_, hdC, hO.next hv sel⟩⟩
      | @cons v e zs' rem' he₁ hzz =>
        rw [show (!(v :: zs').isEmpty) = true from rfl]
        have hzz0 : Zip (fun v e => Rd hZ v (entD e)) (v :: zs') (e :: rem') := .cons he₁ hzz
        (repeat' (first | (k_unfold; (try dsimp only)) | (k_end; kc_close) | ((fail_if_success (with_reducible show wpAny _ _ (pyIter (.ref _)) _ _ _)); first | walk1 | (dsimp only; walk1) | (leave1; walk_say "STEP leave1"; (try dsimp only)))))
        rename News _ _ _ _ => N₇
        rename Fr _ _ _ _ => F₇
        refine list_loopM (l := Sm) (vs := v :: zs') (n := cz) (fun i' m nx => ∃ lv, Has m [("entries", .ref Le), ("found", .ref Fo), ("some", .ref Sm), ("least", lv)] ∧ nx = [(Sm, listOf (v :: zs').toArray cz), (I, oI), (T, listOf #[.bool true, .bool false] 0), (Fo, listOf os.toArray co), (L + 1, oC)] ∧
          Rd hZ lv (entD (leastOf e ((e :: rem').take i')))) (by exact rfl) F₇ (fun p hp => N₇ p (.tail _ hp)) (by k_mem) ⟨_, has_cons rfl (has_cons rfl (has_cons rfl (has_cons rfl has_nil))), rfl, he₁⟩ (by rintro i' m _ ⟨lv, -, rfl, -⟩; exact .head _) ?_ ?_
        · rintro i' v' m₈ _ h₈ tk₈ I' oI' hv' ⟨lv, hm, rfl, hlv⟩ hoff' F₈ N₈
          obtain ⟨e', he', hr'⟩ := hzz0.get hv'
          have hle : leastOf e ((e :: rem').take (i' + 1)) = if ltE e' (leastOf e ((e :: rem').take i')) then e' else leastOf e ((e :: rem').take i') := by
            rw [take_succ he']; unfold leastOf; rw [List.foldl_append]; rfl
          have hk1 := sel.kind (List.mem_of_getElem? he')
          have hk2 : (leastOf e ((e :: rem').take i')).2.1.isSome = b := by
            have := leastOf_mem ((e :: rem').take i') e
            rcases List.mem_cons.mp this with q | q
            · rw [q]; exact sel.kind (.head _)
            · exact sel.kind (List.mem_of_mem_take q)
          rw [hle]
          generalize leastOf e ((e :: rem').take i') = q at *
          have sh := hm.shape
          simp only [over] at sh
          rw [sh] at F₈
          clear sh hle hv' he' F₇ N₇ he₁
          have nJ1 : Sm ≠ I' := hoff' (Sm, _) (by k_mem)
          have nJ2 : I ≠ I' := hoff' (I, _) (by k_mem)
          have nJ3 : T ≠ I' := hoff' (T, _) (by k_mem)
          have nJ4 : Fo ≠ I' := hoff' (Fo, _) (by k_mem)
          have nJ5 : L + 1 ≠ I' := hoff' (L + 1, _) (by k_mem)
          have nJ1 := neNat nJ1
          have nJ2 := neNat nJ2
          have nJ3 := neNat nJ3
          have nJ4 := neNat nJ4
          have nJ5 := neNat nJ5
          obtain ⟨le, re, oe⟩ := e'
          obtain ⟨lq, rq, oq⟩ := q
          obtain ⟨ae, x1, x2, to, rfl, hTe, re1, re2⟩ := ent_inv hr'
          obtain ⟨aq, y1, y2, tq, rfl, hTq, rq1, rq2⟩ := ent_inv hlv
          dsimp only at hTe re1 re2 hTq rq1 rq2 hk1 hk2
          obtain ⟨al, -, -, -, rfl, -⟩ := rd_tup.mp re1
          obtain ⟨bl, -, -, -, rfl, -⟩ := rd_tup.mp rq1
          cases b with
          | true =>
            obtain ⟨re, rfl⟩ := Option.isSome_iff_exists.mp hk1
            obtain ⟨rq, rfl⟩ := Option.isSome_iff_exists.mp hk2
            obtain ⟨ar, -, -, -, rfl, -⟩ := rd_tup.mp re2
            obtain ⟨br, -, -, -, rfl, -⟩ := rd_tup.mp rq2
            replace re2 : Rd hZ (.ref ar) (ptD re) := re2
            replace rq2 : Rd hZ (.ref br) (ptD rq) := rq2
            k_steps
            refine lt_pt (rdF (by assumption) re1) (rdF (by assumption) rq1) (by simp only [units_deeper, cLine]; omega) ?_
            cases hlt : ltPt le lq with
            | true =>
              k_steps
              rw [if_pos (show ltE (le, some re, oe) (lq, some rq, oq) = true by rw [ltE_some, hlt]; rfl)]
              refine ⟨_, _, _, _, rfl, by assumption, by assumption, hoff', _, has_cons rfl (has_cons rfl (has_cons rfl (has_cons rfl has_nil))), rfl, hr'⟩
            | false =>
              k_steps
              · refine lt_pt (rdF (by assumption) re2) (rdF (by assumption) rq2) (by simp only [units_deeper, cLine]; omega) ?_
                cases hlt2 : ltPt re rq with
                | true =>
                  k_steps
                  have heq : le = lq := by have := (by assumption : PyData.eqv (ptD le) (ptD lq) = true); rw [eqv_pt] at this; exact of_decide_eq_true this
                  rw [if_pos (show ltE (le, some re, oe) (lq, some rq, oq) = true by rw [ltE_some, hlt, hlt2, decide_eq_true heq]; rfl)]
                  refine ⟨_, _, _, _, rfl, by assumption, by assumption, hoff', _, has_cons rfl (has_cons rfl (has_cons rfl (has_cons rfl has_nil))), rfl, hr'⟩
                | false =>
                  k_steps
                  rw [if_neg (show ¬ ltE (le, some re, oe) (lq, some rq, oq) = true by rw [ltE_some, hlt, hlt2]; simp)]
                  refine ⟨_, _, _, _, rfl, by assumption, by assumption, hoff', _, has_cons rfl (has_cons rfl (has_cons rfl (has_cons rfl has_nil))), rfl, hlv⟩
              · have heq : le ≠ lq := by have := (by assumption : PyData.eqv (ptD le) (ptD lq) = false); rw [eqv_pt] at this; exact of_decide_eq_false this
                rw [if_neg (show ¬ ltE (le, some re, oe) (lq, some rq, oq) = true by rw [ltE_some, hlt, decide_eq_false heq]; simp)]
                refine ⟨_, _, _, _, rfl, by assumption, by assumption, hoff', _, has_cons rfl (has_cons rfl (has_cons rfl (has_cons rfl has_nil))), rfl, hlv⟩
          | false =>
            obtain rfl : re = none := by simpa using hk1
            obtain rfl : rq = none := by simpa using hk2
            obtain rfl := rd_none.mp re2
            obtain rfl := rd_none.mp rq2
            k_steps
            refine lt_pt (rdF (by assumption) re1) (rdF (by assumption) rq1) (by simp only [units_deeper, cLine]; omega) ?_
            cases hlt : ltPt le lq with
            | true =>
              k_steps
              rw [if_pos (show ltE (le, none, oe) (lq, none, oq) = true by rw [ltE_none, hlt])]
              refine ⟨_, _, _, _, rfl, by assumption, by assumption, hoff', _, has_cons rfl (has_cons rfl (has_cons rfl (has_cons rfl has_nil))), rfl, hr'⟩
            | false =>
              k_steps
              · rw [if_neg (show ¬ ltE (le, none, oe) (lq, none, oq) = true by rw [ltE_none, hlt]; simp)]
                refine ⟨_, _, _, _, rfl, by assumption, by assumption, hoff', _, has_cons rfl (has_cons rfl (has_cons rfl (has_cons rfl has_nil))), rfl, hlv⟩
              · rw [if_neg (show ¬ ltE (le, none, oe) (lq, none, oq) = true by rw [ltE_none, hlt]; simp)]
                refine ⟨_, _, _, _, rfl, by assumption, by assumption, hoff', _, has_cons rfl (has_cons rfl (has_cons rfl (has_cons rfl has_nil))), rfl, hlv⟩
        · rintro m₈ _ h₈ tk₈ ⟨lv, hm, rfl, hlv⟩ F₈ N₈
          rw [show (v :: zs').length = (e :: rem').length from hzz0.length, List.take_length] at hlv
          have sh := hm.shape
          simp only [over] at sh
          rw [sh] at F₈
          clear sh N₇ F₇
          have hlm : leastOf e (e :: rem') ∈ e :: rem' := by
            rcases List.mem_cons.mp (leastOf_mem (e :: rem') e) with q | q
            · rw [q]; exact .head _
            · exact q
          obtain ⟨j, hj1, hj2⟩ := first_at hlm
          have hjl : j < (e :: rem').length := (List.getElem?_eq_some_iff.mp hj1).1
          k_steps
          have hlz : (v :: zs').length = (e :: rem').length := hzz0.length
          have hrl : (e :: rem').length ≤ M.length := by
            have h1 := sel.len
            have h2 : (M.filter (isB b)).length ≤ M.length := List.length_filter_le _ _
            omega
          refine remove_call (ys := v :: zs') (n := cz) (e := fun i => decide ((e :: rem')[i]? = some (leastOf e (e :: rem')))) (j := j) F₈ N₈ (UpdF.head (by k_all)) (fun i hi => ?_) (by rw [hlz]; exact hjl) (decide_eq_true hj1) (fun i hi => decide_eq_false (hj2 i hi)) (by rw [hlz, sizeLine_eq]; omega) ?_
          · obtain ⟨x, hx, hr⟩ := hzz0.get (List.getElem?_eq_getElem hi)
            have e1 : decide (x = leastOf e (e :: rem')) = decide ((e :: rem')[i]? = some (leastOf e (e :: rem'))) := by rw [hx]; simp
            show SeqAt.EqAt _ _ _ _ (decide ((e :: rem')[i]? = some (leastOf e (e :: rem'))))
            rw [← e1]
            refine eqAt_ent (rdF F₈ hr) (rdF F₈ hlv) ?_
            simp only [units_deeper, cLine]; omega
          · intro h₉ c₉ F₉ N₉
            clear F₈ N₈
            have hoz : os.toArray.size ≤ sizeLine := by
              have h1 := hzo.length
              have h2 := sel.len
              have h3 := hO.len
              have h4 : (M.filter (isB b)).length ≤ M.length := List.length_filter_le _ _
              rw [List.size_toArray, h1, List.length_append, sizeLine_eq]; omega
            (repeat' (first | (k_unfold; (try dsimp only)) | (k_end; kc_close) | ((fail_if_success (with_reducible show wpAny _ _ (call (Value.builtin "list.append") [Value.ref _, _]) _ _ _)); first | walk1 | (dsimp only; walk1) | (leave1; walk_say "STEP leave1"; (try dsimp only)))))
            k_dflt (refine' append_K ?oa1 ?oa2 ?oa3 ?_ ?oaz; (case oa1 => k_asm); (case oa2 => k_asm); (case oa3 => k_upd); (case oaz => assumption))
            intro hoa Foa Noa
            (try k_sweep)
            k_steps
            rename News _ _ _ _ => N₁₀
            rename Fr _ _ _ _ => F₁₀
            refine WhileStep.intro F₁₀ N₁₀ (n' := ((e :: rem').eraseIdx j).length) ?_ ⟨(v :: zs').eraseIdx j, c₉, os ++ [lv], co + 1, (e :: rem').eraseIdx j, out ++ [leastOf e (e :: rem')], rfl, ?_, ?_, hzz0.erase j, ?_, sel.step hj1⟩
            · rw [List.length_eraseIdx_of_lt hjl]
              simp
            · exact has_cons rfl (has_cons rfl (has_cons rfl has_nil))
            · simp only [List.push_toArray]
            · rw [← List.append_assoc]
              exact hzo.append (.cons hlv .nil)
  · rintro m₁ _ hp₁ tk₁ ⟨os, co, O, o, rfl, hm, hz, cv, hcd, hO⟩ F₁ N₁
    have sh := hm.shape
    simp only [over] at sh
    rw [sh] at F₁
    clear sh
    k_steps
    dsimp only
    refine h _ _ _ (Fr.keep (by assumption)) ⟨Fo, os.toArray, O, rfl, ⟨_, News.get (by assumption) (by k_mem), rfl, _, rfl⟩, rdAll_of_zip (hz.mono fun v e r => rdF (by assumption) r), hO⟩
theorem fin : PC cx := by with_unfolding_all exact core
end OrdZ
theorem ordered_spec {w : World} {dp un : Nat} {fr : Option (List Env)} {gd : Option (List Code)} {R : Result → Shared → Prop} {s : Shared} {H : Heap} {Le : Addr} {vs : Array Value} {n : Nat} {M : List Ent}
    (W : Wld w H) (hk : ∀ x o, H.get? x = some o → s.heap.get? x = some o)
    (hl : s.heap.IsList Le vs) (he : RdAll s.heap vs.toList (M.map entD)) (hM : M.length ≤ 100) (hdp : dp < 380) (hun : un < 380)
    (h : ∀ h' tk v, (∀ x o, s.heap.get? x = some o → h'.get? x = some o) → OrdAt h' v M → R (.ok (.ret v)) { s with heap := h', toks := tk }) :
    codeAny (model PySem.Challenge.pw_nu0119_01 w) ⟨none, dp, fr, gd, un⟩ (.call (.ref 148) ⟨[.ref Le], []⟩) R s :=
  zxAll (P := OrdZ.PC) OrdZ.fin { zx₀ with w := w, k0 := dp, k1 := un, fr := fr, gd := gd, R := R, s := s, H := H, A0 := Le, vs := vs, k2 := n, M := M } W hk hl he hM hdp hun h
local macro_rules | `(tactic| walk_at "zz") => `(tactic| fail)
theorem zreset_Ordd {M : Model} {A : Around} {env : Env} {Q : Flow → Shared → Prop} {E : Value → Shared → Prop} {s : Shared} (h : wpAny M A (execs [] env) Q E s) : wpAny M A (execs [] env) Q E s := by first | (walk1; fail) | exact h
end Mine
end

section
open PySem PySem.W PySem.Calls PyProof.Rows PySem.Spec
set_option maxRecDepth 100000
namespace Mine
section
variable {prog : Program} {w : World} {A : Around} {E : Value → Shared → Prop} {s : Shared}
/-- l[:] = b, b another list -/
theorem setItem_all {l sl b : Addr} {items ys : Array Value} {n : Nat} {Q : Unit → Shared → Prop} (hl : s.heap.get? l = some (listOf items n)) (hb : s.heap.IsList b ys) (hne : l ≠ b) (hs : s.heap.IsSliceOf sl .none .none .none)
    (hz1 : items.size ≤ sizeLine) (hz2 : items.size + ys.size ≤ sizeLine) (h : ∀ c h', h'.get? l = some (listOf ys c) → Heap.SameBut l s.heap h' → Q () { s with heap := h' }) :
    wpAny (model prog w) A (setItem (.ref l) (.ref sl) (.ref b)) Q E s := by
  have hll : s.heap.IsList l items := ⟨_, hl, rfl, n, rfl⟩
  obtain ⟨ob, hob, hcb, nb, hdb⟩ := id hb
  obtain ⟨os, hos, hcs, hds⟩ := id hs
  have hTs : s.TypeIs (.ref sl) "slice" := ⟨os, hos, hcs⟩
  unfold setItem
  try with_reducible refine wpAny_holding ?_
  refine wpAny_bind (wpAny_sequenceKey hll.typeIs (by decide) ?_)
  refine wpAny_bind (wpAny_callSpecial?_slot (name := Str.ofString "__setitem__") hll.typeIs slot_list_setitem
    (wpAny_call_entry slot_list_setitem hll.typeIs entry_list_setitem ?_ (args_list_setitem _ _ _)))
  show wpAny _ _ (Builtin.List.listSubscript? (.ref sl) >>= _) _ _ s
  refine wpAny_bind ?_
  unfold Builtin.List.listSubscript?
  refine wpAny_bind (wpAny_specialOf hTs slice_no_index ?_)
  simp only [Option.isNone_none, if_true]
  refine wpAny_pure ?_
  show wpAny _ _ (typeOf (.ref sl) >>= _) _ _ s
  refine wpAny_bind (wpAny_typeOf hTs ?_)
  rw [if_neg (by decide)]
  rw [listSliceParts_eq]
  refine wpAny_bind (wpAny_bind (wpAny_field hos hds (x := .none) rfl (wpAny_bind (wpAny_listPart .none ?_))))
  rw [if_neg (show ¬ ((rawPart none == rawInt 0) = true) from Bool.false_ne_true)]
  refine wpAny_bind (wpAny_field hos hds (x := .none) rfl (wpAny_bind (wpAny_listPart .none ?_)))
  refine wpAny_bind (wpAny_field hos hds (x := .none) rfl (wpAny_bind (wpAny_listPart .none (wpAny_pure ?_))))
  dsimp only
  rw [if_neg (show ¬ (Builtin.List.listSameRef (.ref l) (.ref b) = true) from by simp [Builtin.List.listSameRef, hne])]
  refine wpAny_bind ?_
  unfold Builtin.List.listAllItems
  refine wpAny_bind (wpAny_typeOf hb.typeIs ?_)
  rw [if_pos (by decide)]
  refine wpAny_bind (wpAny_seqItems hob hdb (wpAny_pure ?_))
  refine wpAny_bind (listItems_at hl rfl ?_)
  have e0 := sliceIndices_raw (none) none none items.size (by simp)
  refine wpAny_bind (wpAny_of_eq e0 ?_)
  have e1 : sliceBounds none none none items.size = (0, (items.size : Int), 1) := by simp [sliceBounds]
  rw [e1]
  dsimp only
  rw [if_pos (by decide)]
  refine wpAny_bind (wpAny_rule ?_)
  rw [if_neg (show ¬ (Builtin.List.listTooLong (items.size + ys.size) = true) from by simp [Builtin.List.listTooLong]; omega)]
  have hf : (fun xs : Array Value => xs.extract 0 (0 : Int).toNat ++ ys ++ xs.extract (max (0 : Int) (items.size : Int)).toNat xs.size) items = ys := by
    simp
  have ho' := get?_update_seq hl (fun xs : Array Value => xs.extract 0 (0 : Int).toNat ++ ys ++ xs.extract (max (0 : Int) (items.size : Int)).toNat xs.size)
  have hf' : items.extract 0 (0 : Int).toNat ++ ys ++ items.extract (max (0 : Int) (items.size : Int)).toNat = ys := hf
  rw [hf'] at ho'
  refine wpAny_bind (listUpdate_at hl rfl ?_ hz1 (by rw [hf']; omega))
  refine wpAny_bind (wpAny_letGo ?_)
  exact wpAny_bind (wpAny_pure (wpAny_pure ⟨_, rfl, wpAny_pure (h _ _ ho' (Heap.SameBut.update ..))⟩))
theorem set_all {h₀ : Heap} {L l b : Addr} {m : Str → Option Value} {news : List (Addr × Obj)} {g : Obj → List (Addr × Obj)} {items : Array Value} {ys : List Value} {n nb : Nat} {Q : Unit → Shared → Prop} (F : Fr h₀ L s.heap m) (N : News h₀ L s.heap news) (U : UpdF l (listOf items n) news g) (hb : (b, listOf ys.toArray nb) ∈ news) (hne : l ≠ b)
    (hz : items.size ≤ 1000 ∧ ys.length ≤ 1000) (h : ∀ c h', Fr h₀ L h' m → News h₀ L h' (g (listOf ys.toArray c)) → Q () { s with heap := h' }) :
    wpAny (model prog w) A (setItem (.ref l) (.ref s.heap.objs.size) (.ref b)) Q E { s with heap := s.heap.push { cls := .type "slice", data := .fields #[.none, .none, .none] } } := by
  have N' := newsKeep N (fun x o e => Heap.get?_push_of_some ({ cls := .type "slice", data := .fields #[.none, .none, .none] } : Obj) e)
  have hm := updMem U
  refine setItem_all (s := { s with heap := s.heap.push { cls := .type "slice", data := .fields #[.none, .none, .none] } }) (N'.get hm) ⟨_, N'.get hb, rfl, _, rfl⟩ hne (Heap.IsSliceOf.new ..) (by rw [sizeLine_eq]; omega) (by rw [sizeLine_eq, show ys.toArray.size = ys.length from List.size_toArray ..]; omega) ?_
  intro c h' hg sb
  exact h c h' ((F.push _).change sb (N _ hm).2.1 (N.fresh hm)) (newsUpd N' U hg fun x o hx e => (sb.2 x hx).trans e)
end
end Mine
end

section
open PySem PySem.W PySem.Calls PyProof.Rows PySem.Spec
set_option maxRecDepth 100000
namespace Mine
/-- a draw from a display that is then let go -/
theorem one_draw {w : World} {dp un : Nat} {fr : Option (List Env)} {gd : Option (List Code)} {Q E : Value → Shared → Prop} {s : Shared} {h₀ : Heap} {L S Th : Addr} {m : Str → Option Value} {news : List (Addr × Obj)} {g : Obj → List (Addr × Obj)} {o : Obj} {items : List Value} {n : Nat}
    (F : Fr h₀ L s.heap m) (N : News h₀ L s.heap ((Th, listOf items.toArray n) :: news)) (W : Wld w h₀) (U : UpdF S o news g) (ho : SrcObj o) (hne : S ≠ Th) (hdp : dp < 390) (hun : un < 390) (hlen : 1 ≤ items.length ∧ items.length ≤ 7)
    (h : ∀ h' tk v o', v ∈ items → SrcObj o' → Fr h₀ L h' m → News h₀ L h' (g o') → (∀ x o, x ≠ S → s.heap.get? x = some o → h'.get? x = some o) → Q v { s with heap := h', toks := tk }) :
    wpAny (model PySem.Challenge.pw_nu0119_01 w) ⟨none, dp, fr, gd, un⟩ (call (.ref 124) [.ref S, .ref Th]) Q E s :=
  one_call F (fun p hp => N p (.tail _ hp)) W U ho (news := news) (items := items) ⟨_, N.get (.head _), rfl, _, rfl⟩ hne hdp hun hlen fun h' tk d v o' hv ho' F' N' k => h h' tk v o' (List.mem_of_getElem? hv) ho' F' N' k

noncomputable def IsWord (v : Value) : Prop := (∃ t, v = .str "listen" t) ∨ (∃ t, v = .str "connect" t) ∨ (∃ t, v = .str "find" t) ∨ ∃ t, v = .str "remove" t
theorem int_draw2 {v : Value} {a b : Int} {t u : Tok} (h : v ∈ [Value.int a t, .int b u]) : ∃ i t, v = Value.int i t := by
  simp only [List.mem_cons, List.not_mem_nil, or_false] at h
  rcases h with rfl | rfl <;> exact ⟨_, _, rfl⟩
theorem int_draw3 {v : Value} {a b c : Int} {t u x : Tok} (h : v ∈ [Value.int a t, .int b u, .int c x]) : ∃ i t, v = Value.int i t := by
  simp only [List.mem_cons, List.not_mem_nil, or_false] at h
  rcases h with rfl | rfl | rfl <;> exact ⟨_, _, rfl⟩
theorem int_draw4 {v : Value} {a b c d : Int} {t u x y : Tok} (h : v ∈ [Value.int a t, .int b u, .int c x, .int d y]) : ∃ i t, v = Value.int i t := by
  simp only [List.mem_cons, List.not_mem_nil, or_false] at h
  rcases h with rfl | rfl | rfl | rfl <;> exact ⟨_, _, rfl⟩
theorem word_draw {v : Value} {t1 t2 t3 t4 t5 t6 t7 : Tok} (h : v ∈ [Value.str "listen" t1, .str "connect" t2, .str "connect" t3, .str "find" t4, .str "find" t5, .str "find" t6, .str "remove" t7]) : IsWord v := by
  simp only [List.mem_cons, List.not_mem_nil, or_false] at h
  rcases h with rfl | rfl | rfl | rfl | rfl | rfl | rfl
  · exact .inl ⟨_, rfl⟩
  · exact .inr (.inl ⟨_, rfl⟩)
  · exact .inr (.inl ⟨_, rfl⟩)
  · exact .inr (.inr (.inl ⟨_, rfl⟩))
  · exact .inr (.inr (.inl ⟨_, rfl⟩))
  · exact .inr (.inr (.inl ⟨_, rfl⟩))
  · exact .inr (.inr (.inr ⟨_, rfl⟩))
theorem deep1 {dp n : Nat} (h : dp < 370) (hn : 371 ≤ n) : dp + 1 < n := by omega
theorem units1 {un n : Nat} (h : un < 370) (hn : 374 ≤ n) : un + 3 < n := by omega
theorem funFrames_re2 {h h' base : Heap} : ∀ {l : List Env}, h.FunFrames base l → (∀ b ∈ framesOf l, ∀ o, h.get? b = some o → h'.get? b = some o) → h'.FunFrames base l
  | [], _, _ => trivial
  | env :: l, ⟨hk, ⟨L, o, hf, hn, ho, hd⟩, r⟩, k =>
    ⟨hk, ⟨L, o, hf, hn, k L (mem_framesOf (.head _) hf) o ho, hd⟩, funFrames_re2 r fun b hb o e => k b (by
      obtain ⟨env', he, hL⟩ := List.mem_filterMap.mp hb
      exact mem_framesOf (.tail _ he) hL) o e⟩
theorem frames_push2 {h cur H h₀ : Heap} {L : Addr} {m : Str → Option Value} {outer : List Env} (env : Env) (hFF : h.FunFrames H outer) (hL : h.objs.size = L) (hk : ∀ x o, H.get? x = some o → h.get? x = some o) (F : Fr h₀ L cur m)
    (k : ∀ x ∈ framesOf outer, ∀ o, h.get? x = some o → cur.get? x = some o) (hm : env.scope.kind ≠ .module) (hf : env.frame = some L) : cur.FunFrames H (env :: outer) := by
  obtain ⟨o, es, ep, ho, hd, -⟩ := F.ns
  refine ⟨hm, ⟨L, o, hf, ?_, ho, fun vs q => by rw [hd] at q; cases q⟩, funFrames_re2 hFF k⟩
  cases q : H.get? L with
  | none => rfl
  | some o => exact absurd (Heap.lt_size (hk _ _ q)) (hL ▸ Nat.lt_irrefl _)

/-- a draw's end brought back to the caller's heap -/
theorem keptF_back {env : Env} {outer : List Env} {S S' : List Addr} {h cur h' : Heap} {L : Addr} (hL : h.objs.size = L) (hf : env.frame = some L) (k : ∀ x o, x ∉ S' → h.get? x = some o → cur.get? x = some o) (hS : ∀ x ∈ S', x ∉ framesOf outer) (hsub : ∀ x ∈ S, x ∈ S')
    (K : KeptF (env :: outer) S cur h') : KeptF outer S' h h' := by
  refine ⟨fun x o hx hxf e => K.1 x o (fun q => hx (hsub x q)) ?_ (k x o hx e), fun x m hx hn => K.2 x m ((mem_push hf).mpr (.inr hx)) ?_⟩
  · intro q
    rcases (mem_push hf).mp q with rfl | q
    · exact absurd (Heap.lt_size e) (hL ▸ Nat.lt_irrefl _)
    · exact hxf q
  · obtain ⟨o, es, ep, ho, r⟩ := hn
    exact ⟨o, es, ep, k x o (fun q => hS x q hx) ho, r⟩
theorem keptF_of {outer : List Env} {S : List Addr} {h h' : Heap} (k : ∀ x o, x ∉ S → h.get? x = some o → h'.get? x = some o) (hS : ∀ x ∈ S, x ∉ framesOf outer) : KeptF outer S h h' :=
  ⟨fun x o hx _ e => k x o hx e, fun x m hx ⟨o, es, ep, ho, r⟩ => ⟨o, es, ep, k x o (fun q => hS x q hx) ho, r⟩⟩

/-- found, as find tells it -/
theorem look_append {K : Type} [DecidableEq K] (l : List (K × Int)) (x : K × Int) (k : K) : look (l ++ [x]) k = (look l k).or (if x.1 = k then some x.2 else none) := by
  unfold Mine.look
  rw [List.find?_append]
  cases e : l.find? (fun x => decide (x.1 = k)) with
  | some y => simp
  | none =>
    simp only [Option.none_or, Option.map_none, List.find?_cons, List.find?_nil]
    by_cases h : x.1 = k <;> simp [h]
/-- the best of three looks -/
noncomputable def best3 (a b c : Option Int) : Option (Int × Bool) × Int := match a with
  | some o => (some (o, false), 3)
  | none => match b with
    | some o => (some (o, true), 2)
    | none => match c with
      | some o => (some (o, true), 1)
      | none => (none, 0)
theorem best3_eq (a b c : Option Int) : best3 a b c = (match a with | some o => some (o, false) | none => match b with | some o => some (o, true) | none => c.map fun o => (o, true), if a.isSome then 3 else if b.isSome then 2 else if c.isSome then 1 else 0) := by
  cases a <;> cases b <;> cases c <;> rfl
theorem best3_con {P P' : Prop} [i : Decidable P] [i' : Decidable P'] (e : P ↔ P') (a b c : Option Int) (o : Int) :
    (if (if P then 3 else 0 : Int) > (best3 a b c).2 then (some (o, false), (if P then 3 else 0 : Int)) else best3 a b c) = best3 (a.or (if P' then some o else none)) b c := by
  cases i with
  | isTrue p => cases i' with
    | isTrue q => cases a <;> cases b <;> cases c <;> rfl
    | isFalse q => exact absurd (e.mp p) q
  | isFalse p => cases i' with
    | isTrue q => exact absurd (e.mpr q) p
    | isFalse q => cases a <;> cases b <;> cases c <;> rfl
theorem best3_lst {P Q : Prop} [i : Decidable P] [j : Decidable Q] (a b c : Option Int) (o : Int) :
    (if (if P then 2 else if Q then 1 else 0 : Int) > (best3 a b c).2 then (some (o, true), (if P then 2 else if Q then 1 else 0 : Int)) else best3 a b c) = best3 a (b.or (if P then some o else none)) (c.or (if Q then some o else none)) := by
  cases i <;> cases j <;> cases a <;> cases b <;> cases c <;> rfl
theorem found_run (loc rem : P2) : ∀ R : List Ent, (R.foldr (fun e st => foundStep loc rem st e) (none, 0)) = best3 (look (conns R.reverse) (loc, rem)) (look (lsts R.reverse) loc) (look (lsts R.reverse) (0, loc.2)) := by
  intro R
  induction R with
  | nil => rfl
  | cons e R ih =>
    rw [List.foldr_cons, ih, List.reverse_cons]
    obtain ⟨l, r, o⟩ := e
    cases r with
    | none =>
      rw [conns_lst, lsts_lst, look_append, look_append]
      exact best3_lst _ _ _ o
    | some r =>
      rw [conns_con, lsts_con, look_append]
      exact best3_con (P := l = loc ∧ r = rem) ⟨fun h => Prod.ext h.1 h.2, fun h => ⟨congrArg Prod.fst h, congrArg Prod.snd h⟩⟩ _ _ _ o
theorem found_find (M : List Ent) (loc rem : P2) : found M loc rem = findT (conns M) (lsts M) loc rem := by
  have := found_run loc rem M.reverse
  rw [List.foldr_reverse, List.reverse_reverse, best3_eq] at this
  exact congrArg Prod.fst this
theorem conns_c0 (l : P2) (o : Int) (M : List Ent) : conns ((l, none, o) :: M) = conns M := rfl
theorem conns_c1 (l r : P2) (o : Int) (M : List Ent) : conns ((l, some r, o) :: M) = ((l, r), o) :: conns M := rfl
theorem lsts_c0 (l : P2) (o : Int) (M : List Ent) : lsts ((l, none, o) :: M) = (l, o) :: lsts M := rfl
theorem lsts_c1 (l r : P2) (o : Int) (M : List Ent) : lsts ((l, some r, o) :: M) = lsts M := rfl
theorem conns_filter (p : Int → Bool) (M : List Ent) : conns (M.filter fun e => p e.2.2) = (conns M).filter fun x => p x.2 := by
  induction M with
  | nil => rfl
  | cons e M ih =>
    obtain ⟨l, r, o⟩ := e
    rw [List.filter_cons]
    cases r <;> cases hp : p o <;> simp only [Bool.false_eq_true, if_false, if_true, conns_c0, conns_c1, ih, List.filter_cons, hp]
theorem lsts_filter (p : Int → Bool) (M : List Ent) : lsts (M.filter fun e => p e.2.2) = (lsts M).filter fun x => p x.2 := by
  induction M with
  | nil => rfl
  | cons e M ih =>
    obtain ⟨l, r, o⟩ := e
    rw [List.filter_cons]
    cases r <;> cases hp : p o <;> simp only [Bool.false_eq_true, if_false, if_true, lsts_c0, lsts_c1, ih, List.filter_cons, hp]
theorem parts_len (M : List Ent) : (conns M).length + (lsts M).length = M.length := by
  induction M with
  | nil => rfl
  | cons e M ih =>
    obtain ⟨l, r, o⟩ := e
    cases r <;> simp only [conns_c0, conns_c1, lsts_c0, lsts_c1, List.length_cons] <;> omega
theorem used_any (M : List Ent) (port : Int) : usedT (conns M) (lsts M) port = M.any fun e => decide (e.1.2 = port) := by
  induction M with
  | nil => rfl
  | cons e M ih =>
    obtain ⟨l, r, o⟩ := e
    unfold usedT at ih ⊢
    rw [List.any_cons, ← ih]
    cases r
    · rw [conns_c0, lsts_c0, List.any_cons]
      cases decide (l.2 = port) <;> simp
    · rw [conns_c1, lsts_c1, List.any_cons, Bool.or_assoc]
theorem lay_res (r : Option (Int × Bool)) : (resD r).canLay0 = true := by cases r <;> simp [resD, PyData.canLay0, PyData.canLayAll0]
theorem depth_res (r : Option (Int × Bool)) : (resD r).depth ≤ 1 := by cases r <;> simp [resD, PyData.depth, PyData.depthAll]
theorem eqv_res (r : Option (Int × Bool)) : PyData.eqv (resD r) (resD r) = true := by cases r <;> simp [resD, PyData.eqv, PyData.eqvAll]

theorem unhideS {h h₀ h' : Heap} {L S : Addr} {m : Str → Option Value} {news ps : List (Addr × Obj)} (hp : ∀ p ∈ ps, h.get? p.1 = some p.2) (e : h₀ = hideAll h (S :: ps.map (·.1))) (F : Fr h₀ L h' m) (N : News h₀ L h' news) (hm : ∀ p ∈ ps, p ∈ news) :
    ∀ x o, x ≠ S → h.get? x = some o → h'.get? x = some o := by
  intro x o hS q
  by_cases hx : x ∈ ps.map (·.1)
  · obtain ⟨p, hp1, rfl⟩ := List.mem_map.mp hx
    rw [hp p hp1] at q; cases q
    exact N.get (hm p hp1)
  · exact F.keep x o (e ▸ hideAll_get _ q (fun z => (List.mem_cons.mp z).elim hS hx))
theorem unhideG {h h₀ h' : Heap} {L : Addr} {m : Str → Option Value} {news ps : List (Addr × Obj)} {Z S2 : List Addr} (hp : ∀ p ∈ ps, h.get? p.1 = some p.2) (e : h₀ = hideAll h Z) (F : Fr h₀ L h' m) (N : News h₀ L h' news) (hm : ∀ p ∈ ps, p ∈ news) (hZ : ∀ x ∈ Z, x ∈ S2 ∨ x ∈ ps.map (·.1)) :
    ∀ x o, x ∉ S2 → h.get? x = some o → h'.get? x = some o := by
  intro x o hS q
  by_cases hx : x ∈ ps.map (·.1)
  · obtain ⟨p, hp1, rfl⟩ := List.mem_map.mp hx
    rw [hp p hp1] at q; cases q
    exact N.get (hm p hp1)
  · exact F.keep x o (e ▸ hideAll_get _ q (fun z => (hZ x z).elim hS hx))
theorem count_parts (M : List Ent) (ow : Int) : ((conns M).filter fun x => decide (x.2 = ow)).length + ((lsts M).filter fun x => decide (x.2 = ow)).length = (M.filter fun x : Ent => decide (x.2.2 = ow)).length := by
  rw [← parts_len, conns_filter (fun o => decide (o = ow)) M, lsts_filter (fun o => decide (o = ow)) M]
theorem conns_ne (M : List Ent) (ow : Int) : conns (M.filter fun x : Ent => decide (x.2.2 ≠ ow)) = (conns M).filter fun x => decide (x.2 ≠ ow) := conns_filter (fun o => decide (o ≠ ow)) M
theorem lsts_ne (M : List Ent) (ow : Int) : lsts (M.filter fun x : Ent => decide (x.2.2 ≠ ow)) = (lsts M).filter fun x => decide (x.2 ≠ ow) := lsts_filter (fun o => decide (o ≠ ow)) M
theorem putM_len (M : List Ent) (e : Ent) : (putM M e).length ≤ M.length + 1 := by
  unfold putM
  split
  · omega
  · simp
theorem src_nt {o : Obj} (h : SrcObj o) : ¬ TupObj o := by obtain ⟨_, _, _, _, _, rfl, _⟩ := h; exact fun c => absurd c.1 (by simp)

section
variable {w : World} {outer : List Env} {h cur H h₀ : Heap} {L X DX C D Le S : Addr} {M : List Ent} {vs : Array Value} {n : Nat} {oS oS' : Obj} {m : Str → Option Value} {env : Env}
/-- what stands for a call out of a def that has drawn alone -/
theorem drawn_keepT (hs : h.get? S = some oS) (hoS : SrcObj oS) (k : ∀ x o, x ≠ S → h.get? x = some o → cur.get? x = some o) : KeepT h cur := fun b o e c => k b o (by rintro rfl; rw [hs] at e; cases e; exact src_nt hoS c) e
theorem drawn_frames (hFF : h.FunFrames H outer) (hk : ∀ x o, H.get? x = some o → h.get? x = some o) (hL : h.objs.size = L) (F : Fr h₀ L cur m) (hf : env.frame = some L) (hm : env.scope.kind ≠ .module) (hoff : S ∉ framesOf outer)
    (k : ∀ x o, x ≠ S → h.get? x = some o → cur.get? x = some o) : cur.FunFrames H (env :: outer) :=
  frames_push2 env hFF hL hk F (fun x hx o e => k x o (by rintro rfl; exact hoff hx) e) hm hf
theorem drawn_ns (hFN : ∀ x ∈ framesOf outer, ∃ m, h.Ns x m) (F : Fr h₀ L cur m) (hf : env.frame = some L) (hoff : S ∉ framesOf outer)
    (k : ∀ x o, x ≠ S → h.get? x = some o → cur.get? x = some o) : ∀ x ∈ framesOf (env :: outer), ∃ m, cur.Ns x m := fun x hx => by
  rcases (mem_push hf).mp hx with rfl | hx
  · exact ⟨_, F.ns⟩
  · obtain ⟨m, o, es, ep, ho, r⟩ := hFN x hx
    exact ⟨m, o, es, ep, k x o (by rintro rfl; exact hoff hx) ho, r⟩
theorem drawn_off {l : List Addr} (hL : h.objs.size = L) (hf : env.frame = some L) (hl : ∀ x ∈ l, ∃ o, h.get? x = some o) (hoff : ∀ x ∈ l, x ∉ framesOf outer) : ∀ x ∈ l, x ∉ framesOf (env :: outer) := fun x hx q => by
  rcases (mem_push hf).mp q with rfl | q
  · obtain ⟨o, e⟩ := hl _ hx
    exact absurd (Heap.lt_size e) (hL ▸ Nat.lt_irrefl _)
  · exact hoff x hx q
theorem tab_objs (tb : TabIs w H h X DX C D (conns M) (lsts M)) (hl : h.get? Le = some (listOf vs n)) : ∀ x ∈ [X, DX, C, D, Le], ∃ o, h.get? x = some o := by
  obtain ⟨hX, ⟨oDX, hDX, -⟩, hC, hD, -⟩ := tb
  obtain ⟨oC, hoC, -⟩ := con_obj hC
  obtain ⟨oD, hoD, -⟩ := lst_obj hD
  intro x hx
  simp only [List.mem_cons, List.not_mem_nil, or_false] at hx
  rcases hx with rfl | rfl | rfl | rfl | rfl
  · exact ⟨_, hX⟩
  · exact ⟨_, hDX⟩
  · exact ⟨_, hoC⟩
  · exact ⟨_, hoD⟩
  · exact ⟨_, hl⟩
theorem tab_neS (tb : TabIs w H h X DX C D (conns M) (lsts M)) (hs : h.get? S = some oS) (hoS : SrcObj oS) : ∀ x ∈ [X, DX, C, D], x ≠ S := by
  obtain ⟨hX, ⟨oDX, hDX, _, _, _, rfl⟩, hC, hD, -⟩ := tb
  obtain ⟨oC, hoC, hcC⟩ := con_obj hC
  obtain ⟨oD, hoD, hcD⟩ := lst_obj hD
  have hcS : oS.cls = .type "list" := by obtain ⟨_, _, _, _, _, rfl, _⟩ := hoS; rfl
  intro x hx
  simp only [List.mem_cons, List.not_mem_nil, or_false] at hx
  rcases hx with rfl | rfl | rfl | rfl
  · exact ne_cls hX hs (by rw [hcS]; simp)
  · exact ne_cls hDX hs (by rw [hcS]; simp)
  · exact ne_cls hoC hs (by rw [hcS, hcC.1]; simp)
  · exact ne_cls hoD hs (by rw [hcS, hcD.1]; simp)

/-- a deed ends: what the caller gets -/
noncomputable def DeedEnd (w : World) (outer : List Env) (h H : Heap) (X DX C D Le S : Addr) (M : List Ent) (h' : Heap) : Prop :=
  ∃ (vs' : Array Value) (n' : Nat) (M' : List Ent) (oS' : Obj), KeptF outer [C, D, Le, S] h h' ∧ TabIs w H h' X DX C D (conns M') (lsts M') ∧ h'.get? Le = some (listOf vs' n') ∧ RdAll h' vs'.toList (M'.map entD) ∧ M'.length ≤ M.length + 1 ∧ h'.get? S = some oS' ∧ SrcObj oS'

theorem deed_put {dp un : Nat} {gd : Option (List Code)} {R : Result → Shared → Prop} {s : Shared} {ae : Addr} {e : Ent}
    (W : Wld w H) (hk : ∀ x o, H.get? x = some o → h.get? x = some o) (hXH : H.get? X = none) (hDXH : H.get? DX = none) (hCH : H.get? C = none) (hDH : H.get? D = none) (hEH : H.get? Le = none) (hSH : H.get? S = none) (hSE : S ≠ Le)
    (hFF : h.FunFrames H outer) (hFN : ∀ x ∈ framesOf outer, ∃ m, h.Ns x m) (hoff : ∀ x ∈ [X, DX, C, D, Le, S], x ∉ framesOf outer)
    (tb : TabIs w H h X DX C D (conns M) (lsts M)) (hM : M.length ≤ 500) (hl : h.get? Le = some (listOf vs n)) (he : RdAll h vs.toList (M.map entD)) (hs : h.get? S = some oS) (hoS : SrcObj oS)
    (hL : h.objs.size = L) (hf : env.frame = some L) (hm : env.scope.kind ≠ .module) (F : Fr h₀ L s.heap m) (k : ∀ x o, x ≠ S → h.get? x = some o → s.heap.get? x = some o) (hS : s.heap.get? S = some oS') (hoS' : SrcObj oS')
    (re : Rd s.heap (.ref ae) (entD e)) (hdp : dp < 380) (hun : un < 380)
    (hR : ∀ h' tk, DeedEnd w outer h H X DX C D Le S M h' → R (.ok (.ret (.bool true))) { s with heap := h', toks := tk }) :
    codeAny (model PySem.Challenge.pw_nu0119_01 w) ⟨none, dp, some (env :: outer), gd, un⟩ (.call (.ref 143) ⟨[.ref X, .ref Le, .ref ae], []⟩) R s := by
  have offS : S ∉ framesOf outer := hoff S (by simp)
  have kt := drawn_keepT hs hoS k
  have nS := tab_neS tb hs hoS
  have k5 : ∀ x ∈ [X, DX, C, D], ∀ o, h.get? x = some o → s.heap.get? x = some o := fun x hx o e => k x o (nS x hx) e
  have hkc : ∀ x o, H.get? x = some o → s.heap.get? x = some o := fun x o e => k x o (by rintro rfl; rw [hSH] at e; cases e) (hk x o e)
  have off2 : ∀ x ∈ [X, DX, C, D, Le], x ∉ framesOf outer := fun x hx => hoff x (List.mem_append_left [S] hx)
  refine put_spec (cl := []) (ll := []) W hkc hXH hDXH hCH hDH hEH (drawn_frames hFF hk hL F hf hm offS k) (drawn_ns hFN F hf offS k) (drawn_off hL hf (tab_objs tb hl) off2) (tb.move kt k5) (by omega) (k _ _ (Ne.symm hSE) hl) (ent_keepT kt he) re hdp hun ?_
  intro h' tk vs' n' K t' hl' he'
  have nC := nS C (by simp)
  have nD := nS D (by simp)
  refine hR h' tk ⟨vs', n', putM M e, oS', keptF_back hL hf (fun x o hx e => k x o (fun q => hx (by rw [q]; simp)) e) (fun x hx => hoff x (by simp only [List.mem_cons, List.not_mem_nil, or_false] at hx ⊢; rcases hx with h | h | h | h <;> simp [h])) (fun x hx => List.mem_append_left [S] hx) K, t', hl', he', putM_len M e, K.1 S _ ?_ ?_ hS, hoS'⟩
  · simp only [List.mem_cons, List.not_mem_nil, or_false, not_or]
    exact ⟨Ne.symm nC, Ne.symm nD, hSE⟩
  · exact drawn_off (l := [S]) hL hf (fun x hx => ⟨oS, List.mem_singleton.mp hx ▸ hs⟩) (fun x hx => List.mem_singleton.mp hx ▸ offS) S (by simp)
theorem deed_same {h' : Heap} (hSE : S ≠ Le) (hoff : ∀ x ∈ [X, DX, C, D, Le, S], x ∉ framesOf outer)
    (tb : TabIs w H h X DX C D (conns M) (lsts M)) (hl : h.get? Le = some (listOf vs n)) (he : RdAll h vs.toList (M.map entD)) (hs : h.get? S = some oS) (hoS : SrcObj oS)
    (k : ∀ x o, x ≠ S → h.get? x = some o → h'.get? x = some o) (hS : h'.get? S = some oS') (hoS' : SrcObj oS') : DeedEnd w outer h H X DX C D Le S M h' :=
  ⟨vs, n, M, oS', keptF_of (fun x o hx e => k x o (fun q => hx (by rw [q]; simp)) e) (fun x hx => hoff x (List.mem_append_right [X, DX] hx)), tb.move (drawn_keepT hs hoS k) (fun x hx o e => k x o (tab_neS tb hs hoS x hx) e), k _ _ (Ne.symm hSE) hl, ent_keepT (drawn_keepT hs hoS k) he, Nat.le_succ _, hS, hoS'⟩

/-- the deed of removing ends -/
theorem deed_rem {h' : Heap} {zs : List Value} {c : Nat} {M' : List Ent} (hSE : S ≠ Le) (hoff : ∀ x ∈ [X, DX, C, D, Le, S], x ∉ framesOf outer) (tb : TabIs w H h X DX C D (conns M) (lsts M)) (hs : h.get? S = some oS) (hoS : SrcObj oS)
    (k : ∀ x o, x ∉ [S, Le] → h.get? x = some o → cur.get? x = some o) (k2 : ∀ x o, x ∉ [C, D] → cur.get? x = some o → h'.get? x = some o) (tb' : TabIs w H h' X DX C D (conns M') (lsts M')) (hlen : M'.length ≤ M.length)
    (tc : TabIs w H cur X DX C D (conns M) (lsts M)) (hl : cur.get? Le = some (listOf zs.toArray c)) (hz : RdAll cur zs (M'.map entD)) (hS : cur.get? S = some oS') (hoS' : SrcObj oS') (hCE : C ≠ Le ∧ D ≠ Le) : DeedEnd w outer h H X DX C D Le S M h' := by
  have nS := tab_neS tb hs hoS
  have nC := nS C (by simp)
  have nD := nS D (by simp)
  have kt : KeepT cur h' := fun b o e q => k2 b o (fun z => by
    obtain ⟨oC, hoC, hcC⟩ := con_obj tc.con
    obtain ⟨oD, hoD, hcD⟩ := lst_obj tc.lst
    rcases List.mem_cons.mp z with rfl | z
    · rw [hoC] at e; cases e; exact absurd q.1 (by rw [hcC.1]; simp)
    · rw [List.mem_singleton.mp z, hoD] at e; cases e; exact absurd q.1 (by rw [hcD.1]; simp)) e
  refine ⟨zs.toArray, c, M', oS', keptF_of (fun x o hx e => ?_) (fun x hx => hoff x (List.mem_append_right [X, DX] hx)), tb', k2 _ _ ?_ hl, ent_keepT kt hz, by omega, k2 _ _ ?_ hS, hoS'⟩
  · simp only [List.mem_cons, List.not_mem_nil, or_false, not_or] at hx
    exact k2 x o (by simp [hx.1, hx.2.1]) (k x o (by simp [hx.2.2.1, hx.2.2.2]) e)
  · simp [Ne.symm hCE.1, Ne.symm hCE.2]
  · simp [Ne.symm nC, Ne.symm nD]
end
end Mine
end

section
open PySem PySem.W PySem.Calls PyProof.Rows PySem.Spec PyProof.Rows.LCg PyProof.Rows.LCt
set_option maxRecDepth 100000
namespace Mine


theorem src_cls {o : Obj} (h : SrcObj o) : o.cls = .type "list" := by obtain ⟨_, _, _, _, _, rfl, _⟩ := h; rfl
theorem fr_hide {h₀ h h' : Heap} {L : Addr} {m : Str → Option Value} {S : List Addr} (F : Fr h₀ L h m) (k : ∀ x o, x ∉ S → h.get? x = some o → h'.get? x = some o) (hS : ∀ a ∈ S, L ≠ a) : Fr (hideAll h₀ S) L h' m := by
  obtain ⟨o, es, ep, ho, r⟩ := F.ns
  refine ⟨⟨o, es, ep, k L o (fun q => hS L q rfl) ho, r⟩, fun b o e => ?_, by rw [hideAll_size]; exact F.above⟩
  by_cases hb : b ∈ S
  · rw [hideAll_none _ hb] at e; cases e
  · exact k b o hb (F.keep b o (of_hideAll _ e))

namespace DeedZ
noncomputable def P (w : World) (dp : Nat) (un : Nat) (outer : List Env) (gd : Option (List Code)) (R : Result → Shared → Prop) (s : Shared) (H : Heap) (X : Addr) (DX : Addr) (C : Addr) (D : Addr) (Le : Addr) (S : Addr) (M : List Ent) (vs : Array Value) (n : Nat) (oS : Obj) (u1 : Tok) (u2 : Tok) (un' : Nat) : Prop := (Wld w H) → (∀ x o, H.get? x = some o → s.heap.get? x = some o) → (H.get? X = none) → (H.get? DX = none) → (H.get? C = none) → (H.get? D = none) → (H.get? Le = none) → (H.get? S = none) → (S ≠ Le) → (s.heap.FunFrames H outer) → (∀ x ∈ framesOf outer, ∃ m, s.heap.Ns x m) → (∀ x ∈ [X, DX, C, D, Le, S], x ∉ framesOf outer) → (TabIs w H s.heap X DX C D (conns M) (lsts M)) → (M.length ≤ 500) → (s.heap.get? Le = some (listOf vs n)) → (RdAll s.heap vs.toList (M.map entD)) → (s.heap.get? S = some oS) → (SrcObj oS) → (dp < 370) → (un < 370) → (∀ h' tk, DeedEnd w outer s.heap H X DX C D Le S M h' → R (.ok (.ret (.bool true))) { s with heap := h', toks := tk }) → (s.heap.get? DX = some (dictOf [⟨PyData.keyHash w.params "connections", .str "connections" u1, .ref C⟩, ⟨PyData.keyHash w.params "listeners", .str "listeners" u2, .ref D⟩] un')) →
    codeAny (model PySem.Challenge.pw_nu0119_01 w) ⟨none, dp, some outer, gd, un⟩ (.call (.ref 153) ⟨[.ref X, .ref Le, .ref S], []⟩) R s
noncomputable def PC (c : Zx) : Prop := P c.w c.k0 c.k1 c.ou c.gd c.R c.s c.H c.A0 c.A1 c.A2 c.A3 c.A4 c.A5 c.M c.vs c.k2 c.o0 c.t0 c.t1 c.k3
noncomputable def cx : Zx := @Classical.epsilon Zx ⟨zx₀⟩ fun c => ¬ PC c
@[irreducible] noncomputable def w : World := cx.w
@[irreducible] noncomputable def dp : Nat := cx.k0
@[irreducible] noncomputable def un : Nat := cx.k1
@[irreducible] noncomputable def outer : List Env := cx.ou
@[irreducible] noncomputable def gd : Option (List Code) := cx.gd
@[irreducible] noncomputable def R : Result → Shared → Prop := cx.R
@[irreducible] noncomputable def hZ : Heap := cx.s.heap
@[irreducible] noncomputable def sg : Array GenState := cx.s.gens
@[irreducible] noncomputable def sd : Drawn := cx.s.drawn
@[irreducible] noncomputable def st : Nat := cx.s.toks
@[irreducible] noncomputable def so : OsState := cx.s.os
@[irreducible] noncomputable def H : Heap := cx.H
@[irreducible] noncomputable def X : Addr := cx.A0
@[irreducible] noncomputable def DX : Addr := cx.A1
@[irreducible] noncomputable def C : Addr := cx.A2
@[irreducible] noncomputable def D : Addr := cx.A3
@[irreducible] noncomputable def Le : Addr := cx.A4
@[irreducible] noncomputable def S : Addr := cx.A5
@[irreducible] noncomputable def M : List Ent := cx.M
@[irreducible] noncomputable def vs : Array Value := cx.vs
@[irreducible] noncomputable def n : Nat := cx.k2
@[irreducible] noncomputable def oS : Obj := cx.o0
@[irreducible] noncomputable def u1 : Tok := cx.t0
@[irreducible] noncomputable def u2 : Tok := cx.t1
@[irreducible] noncomputable def un' : Nat := cx.k3
@[irreducible] noncomputable def L : Addr := hZ.objs.size
theorem L_eq : hZ.objs.size = L := by delta L; rfl
theorem lt_L {x : Addr} {o : Obj} (h : hZ.get? x = some o) : x < L := L_eq ▸ Heap.lt_size h
@[irreducible] noncomputable def h₀ : Heap := hideAll hZ [S, X, DX, Le]
theorem h₀_eq : hideAll hZ [S, X, DX, Le] = h₀ := by delta h₀; rfl
set_option maxHeartbeats 4000000 in
theorem core (W : Wld w H) (hk : ∀ x o, H.get? x = some o → hZ.get? x = some o) (hXH : H.get? X = none) (hDXH : H.get? DX = none) (hCH : H.get? C = none) (hDH : H.get? D = none) (hEH : H.get? Le = none) (hSH : H.get? S = none) (hSE : S ≠ Le) (hFF : hZ.FunFrames H outer) (hFN : ∀ x ∈ framesOf outer, ∃ m, hZ.Ns x m) (hoff : ∀ x ∈ [X, DX, C, D, Le, S], x ∉ framesOf outer) (tb : TabIs w H hZ X DX C D (conns M) (lsts M)) (hM : M.length ≤ 500) (hl : hZ.get? Le = some (listOf vs n)) (he : RdAll hZ vs.toList (M.map entD)) (hs : hZ.get? S = some oS) (hoS : SrcObj oS) (hdp : dp < 370) (hun : un < 370) (h : ∀ h' tk, DeedEnd w outer hZ H X DX C D Le S M h' → R (.ok (.ret (.bool true))) ⟨h', sg, sd, tk, so⟩) (hDX : hZ.get? DX = some (dictOf [⟨PyData.keyHash w.params "connections", .str "connections" u1, .ref C⟩, ⟨PyData.keyHash w.params "listeners", .str "listeners" u2, .ref D⟩] un')) :
    codeAny (model PySem.Challenge.pw_nu0119_01 w) ⟨none, dp, some outer, gd, un⟩ (.call (.ref 153) ⟨[.ref X, .ref Le, .ref S], []⟩) R ⟨hZ, sg, sd, st, so⟩ := by
  obtain ⟨loose, mean, mg, mb, T⟩ := W.T
  have tb₀ := tb
  obtain ⟨hX, -, hC, hD, hne1, hne2, hne3⟩ := tb
  obtain ⟨oC, hoC, hcC⟩ := con_obj hC
  obtain ⟨oD, hoD, hcD⟩ := lst_obj hD
  have hps : ∀ p ∈ [(S, oS), (X, instObj 99 DX), (DX, dictOf [⟨PyData.keyHash w.params "connections", .str "connections" u1, .ref C⟩, ⟨PyData.keyHash w.params "listeners", .str "listeners" u2, .ref D⟩] un'), (Le, listOf vs n)], hZ.get? p.1 = some p.2 :=
    all_cons hs (all_cons hX (all_cons hDX (all_cons hl all_nil)))
  have hnS : ¬ TupObj oS := src_nt hoS
  have hpt : ∀ p ∈ [(S, oS), (X, instObj 99 DX), (DX, dictOf [⟨PyData.keyHash w.params "connections", .str "connections" u1, .ref C⟩, ⟨PyData.keyHash w.params "listeners", .str "listeners" u2, .ref D⟩] un'), (Le, listOf vs n)], ¬ TupObj p.2 :=
    all_cons hnS (all_cons (fun c => absurd c.1 (by simp)) (all_cons (fun c => absurd c.1 (by simp)) (all_cons (fun c => absurd c.1 (by simp)) all_nil)))
  have hk' : ∀ x o, H.get? x = some o → h₀.get? x = some o := h₀_eq ▸ hideLow (ps := [(S, oC), (X, oC), (DX, oC), (Le, oC)]) hk (all_cons hSH (all_cons hXH (all_cons hDXH (all_cons hEH all_nil))))
  have kt : KeepT hZ h₀ := by
    have k := keptHide hps hpt
    rw [← h₀_eq]
    exact k
  have W' := W.keeps hk'
  have X' := W.K.keeps hk'
  have T' := T.keeps hk'
  have he' : RdAll h₀ vs.toList (M.map entD) := rdAll_keep (by intro d hd v r; obtain ⟨x, -, rfl⟩ := List.mem_map.mp hd; exact rdEnt_keep kt r) he
  k_dflt (refine' enterZ (K := Mine.hd.heap_39 w.params) (binds := [("table", .ref X), ("entries", .ref Le), ("source", .ref S)]) [S, X, DX, Le] L_eq h₀_eq (W.K.keeps hk) (T.keeps hk).nolimit ?k6 ?k7 ?k8 ?k9 ?kB ?kD ?_ ?c2 ?c3 ?c4; (case k6 => k_is); (case k7 => k_is); (case k8 => (dsimp only; rw [show recursionLimit = 1000 from rfl]; omega)); (case k9 => exact BindsTo.of_eq rfl); (case kB => exact rfl); (case kD => decide +kernel); (case c2 => exact rfl); (case c3 => exact rfl); (case c4 => exact rfl))
  intro h₁ tk₁ cells F Nc Y hk₁ hab
  obtain ⟨oc, rfl, dc⟩ := CellsAre.one Y
  have N : News h₀ L h₁ [(L + 1, oc), (S, oS), (X, instObj 99 DX), (DX, dictOf [⟨PyData.keyHash w.params "connections", .str "connections" u1, .ref C⟩, ⟨PyData.keyHash w.params "listeners", .str "listeners" u2, .ref D⟩] un'), (Le, listOf vs n)] := by
    intro p hp
    rcases List.mem_cons.mp hp with rfl | hp
    · exact Nc _ (.head _)
    · have k := newsStart hps hk₁
      rw [← h₀_eq, ← L_eq]
      exact k p hp
  have hX0 := ltN (lt_L hX)
  have hDX0 := ltN (lt_L hDX)
  have hC0 := ltN (lt_L hoC)
  have hD0 := ltN (lt_L hoD)
  have hL0 := ltN (lt_L hl)
  have hS0 := ltN (lt_L hs)
  have dSE := neNat hSE
  have hcS : oS.cls = .type "list" := src_cls hoS
  have dXE := neNat (ne_cls hX hl (by simp))
  have dDXE := neNat (ne_cls hDX hl (by simp))
  have dCE := neNat (ne_cls hoC hl (by rw [hcC.1]; simp))
  have dDE := neNat (ne_cls hoD hl (by rw [hcD.1]; simp))
  have dSX := neNat (ne_cls hs hX (by rw [hcS]; simp))
  have dSDX := neNat (ne_cls hs hDX (by rw [hcS]; simp))
  have dSC := neNat (ne_cls hs hoC (by rw [hcS, hcC.1]; simp))
  have dSD := neNat (ne_cls hs hoD (by rw [hcS, hcD.1]; simp))
  try dsimp only at *
  clear hk₁ Y Nc hab
  (all_goals try k_fold)
  k_steps
  refine' one_draw ?dF1 ?dN1 W' ?dU1 hoS ?dn1 ?dd1 ?du1 ?dl1 ?_
  case dF1 => k_asm
  case dN1 => k_asm
  case dU1 => k_updF
  case dn1 => k_ne
  case dd1 => exact deep1 hdp (Nat.le_of_ble_eq_true rfl)
  case du1 => exact units1 hun (Nat.le_of_ble_eq_true rfl)
  case dl1 => exact ⟨Nat.le_of_ble_eq_true rfl, Nat.le_of_ble_eq_true rfl⟩
  rintro hp1 tkd1 vw oS1 hv1 hoS1 Fd1 Nd1 -
  have hw1 : IsWord vw := word_draw hv1
  clear hv1
  k_steps
  refine' one_draw ?dF2 ?dN2 W' ?dU2 hoS1 ?dn2 ?dd2 ?du2 ?dl2 ?_
  case dF2 => k_asm
  case dN2 => k_asm
  case dU2 => k_updF
  case dn2 => k_ne
  case dd2 => exact deep1 hdp (Nat.le_of_ble_eq_true rfl)
  case du2 => exact units1 hun (Nat.le_of_ble_eq_true rfl)
  case dl2 => exact ⟨Nat.le_of_ble_eq_true rfl, Nat.le_of_ble_eq_true rfl⟩
  rintro hp2 tkd2 v2 oS2 hv2 hoS2 Fd2 Nd2 -
  obtain ⟨i2, ti2, rfl⟩ := int_draw2 hv2
  clear hv2
  k_steps
  refine' one_draw ?dF3 ?dN3 W' ?dU3 hoS2 ?dn3 ?dd3 ?du3 ?dl3 ?_
  case dF3 => k_asm
  case dN3 => k_asm
  case dU3 => k_updF
  case dn3 => k_ne
  case dd3 => exact deep1 hdp (Nat.le_of_ble_eq_true rfl)
  case du3 => exact units1 hun (Nat.le_of_ble_eq_true rfl)
  case dl3 => exact ⟨Nat.le_of_ble_eq_true rfl, Nat.le_of_ble_eq_true rfl⟩
  rintro hp3 tkd3 v3 oS3 hv3 hoS3 Fd3 Nd3 -
  obtain ⟨i3, ti3, rfl⟩ := int_draw3 hv3
  clear hv3
  k_steps
  refine' one_draw ?dF4 ?dN4 W' ?dU4 hoS3 ?dn4 ?dd4 ?du4 ?dl4 ?_
  case dF4 => k_asm
  case dN4 => k_asm
  case dU4 => k_updF
  case dn4 => k_ne
  case dd4 => exact deep1 hdp (Nat.le_of_ble_eq_true rfl)
  case du4 => exact units1 hun (Nat.le_of_ble_eq_true rfl)
  case dl4 => exact ⟨Nat.le_of_ble_eq_true rfl, Nat.le_of_ble_eq_true rfl⟩
  rintro hp4 tkd4 v4 oS4 hv4 hoS4 Fd4 Nd4 -
  obtain ⟨i4, ti4, rfl⟩ := int_draw2 hv4
  clear hv4
  k_steps
  refine' one_draw ?dF5 ?dN5 W' ?dU5 hoS4 ?dn5 ?dd5 ?du5 ?dl5 ?_
  case dF5 => k_asm
  case dN5 => k_asm
  case dU5 => k_updF
  case dn5 => k_ne
  case dd5 => exact deep1 hdp (Nat.le_of_ble_eq_true rfl)
  case du5 => exact units1 hun (Nat.le_of_ble_eq_true rfl)
  case dl5 => exact ⟨Nat.le_of_ble_eq_true rfl, Nat.le_of_ble_eq_true rfl⟩
  rintro hp5 tkd5 v5 oS5 hv5 hoS5 Fd5 Nd5 -
  obtain ⟨i5, ti5, rfl⟩ := int_draw2 hv5
  clear hv5
  k_steps
  refine' take_call ?dF6 ?dN6 W' ?dU6 hoS5 ?dd6 ?du6 ?dl6 ?_
  case dF6 => k_asm
  case dN6 => k_asm
  case dU6 => k_updF
  case dd6 => exact deep1 hdp (Nat.le_of_ble_eq_true rfl)
  case du6 => exact units1 hun (Nat.le_of_ble_eq_true rfl)
  case dl6 => exact ⟨by decide, by decide⟩
  rintro hp6 tkd6 ow tw oS6 - - hoS6 Fd6 Nd6 -
  rcases hw1 with ⟨twd, rfl⟩ | ⟨twd, rfl⟩ | ⟨twd, rfl⟩ | ⟨twd, rfl⟩
  · k_steps
    refine' one_draw ?dF7 ?dN7 W' ?dU7 hoS6 ?dn7 ?dd7 ?du7 ?dl7 ?_
    case dF7 => k_asm
    case dN7 => k_asm
    case dU7 => k_updF
    case dn7 => k_ne
    case dd7 => exact deep1 hdp (Nat.le_of_ble_eq_true rfl)
    case du7 => exact units1 hun (Nat.le_of_ble_eq_true rfl)
    case dl7 => exact ⟨Nat.le_of_ble_eq_true rfl, Nat.le_of_ble_eq_true rfl⟩
    rintro hp7 tkd7 v7 oS7 hv7 hoS7 Fd7 Nd7 -
    obtain ⟨i7, ti7, rfl⟩ := int_draw3 hv7
    clear hv7
    k_steps
    rename News _ _ _ _ => Nx
    rename Fr _ _ _ _ => Fx
    have hcur := unhideS (S := S) (ps := [(X, instObj 99 DX), (DX, dictOf [⟨PyData.keyHash w.params "connections", .str "connections" u1, .ref C⟩, ⟨PyData.keyHash w.params "listeners", .str "listeners" u2, .ref D⟩] un'), (Le, listOf vs n)]) (fun p hp => hps p (.tail _ hp)) h₀_eq.symm Fx Nx (all_cons (by k_mem) (all_cons (by k_mem) (all_cons (by k_mem) all_nil)))
    refine wpAny_call (deed_put W hk hXH hDXH hCH hDH hEH hSH hSE hFF hFN hoff tb₀ hM hl he hs hoS L_eq rfl (fun q => nomatch q) Fx hcur (Nx.get (by k_mem)) hoS7 (e := ((i7, i3), none, ow)) (rdN Nx (.head _) (rdAll_cons'.mpr ⟨rdNpt Nx (by k_mem), rdAll_cons'.mpr ⟨.none, rdAll_cons'.mpr ⟨.int _ _, .nil⟩⟩⟩)) (deep1 hdp (Nat.le_of_ble_eq_true rfl)) (units1 hun (Nat.le_of_ble_eq_true rfl)) ?_)
    intro h' tk' hd
    exact h _ _ hd
  · k_steps
    rename News _ _ _ _ => Nx
    rename Fr _ _ _ _ => Fx
    have hcur := unhideS (S := S) (ps := [(X, instObj 99 DX), (DX, dictOf [⟨PyData.keyHash w.params "connections", .str "connections" u1, .ref C⟩, ⟨PyData.keyHash w.params "listeners", .str "listeners" u2, .ref D⟩] un'), (Le, listOf vs n)]) (fun p hp => hps p (.tail _ hp)) h₀_eq.symm Fx Nx (all_cons (by k_mem) (all_cons (by k_mem) (all_cons (by k_mem) all_nil)))
    refine wpAny_call (deed_put W hk hXH hDXH hCH hDH hEH hSH hSE hFF hFN hoff tb₀ hM hl he hs hoS L_eq rfl (fun q => nomatch q) Fx hcur (Nx.get (by k_mem)) hoS6 (e := ((i2, i3), some (i4, i5), ow)) (rdN Nx (.head _) (rdAll_cons'.mpr ⟨rdNpt Nx (by k_mem), rdAll_cons'.mpr ⟨rdNpt Nx (by k_mem), rdAll_cons'.mpr ⟨.int _ _, .nil⟩⟩⟩)) (deep1 hdp (Nat.le_of_ble_eq_true rfl)) (units1 hun (Nat.le_of_ble_eq_true rfl)) ?_)
    intro h' tk' hd
    exact h _ _ hd
  · k_steps
    rename News _ _ _ _ => Nx
    rename Fr _ _ _ _ => Fx
    refine found_call (M := M) Fx Nx W' ⟨_, Nx.get (by k_mem), rfl, _, rfl⟩ (ent_keepT (KeepT.of Fx.keep) he') (deep1 hdp (Nat.le_of_ble_eq_true rfl)) (units1 hun (Nat.le_of_ble_eq_true rfl)) ?_
    rintro hq1 tq1 vq1 nw1 Fq1 Nq1 - bq1
    clear Fx Nx
    rw [found_find] at bq1
    generalize hres : findT (conns M) (lsts M) (i2, i3) (i4, i5) = res at bq1
    cases res with
    | none =>
      obtain ⟨rfl, rfl⟩ := bq1
      rw [List.nil_append] at Nq1
      k_steps
      rename News _ _ _ _ => Nx
      rename Fr _ _ _ _ => Fx
      have hcur := unhideS (S := S) (ps := [(X, instObj 99 DX), (DX, dictOf [⟨PyData.keyHash w.params "connections", .str "connections" u1, .ref C⟩, ⟨PyData.keyHash w.params "listeners", .str "listeners" u2, .ref D⟩] un'), (Le, listOf vs n)]) (fun p hp => hps p (.tail _ hp)) h₀_eq.symm Fx Nx (all_cons (by k_mem) (all_cons (by k_mem) (all_cons (by k_mem) all_nil)))
      refine wpAny_call (find_spec W (fun x o e => Fx.keep x o (hk' x o e)) hXH hDXH (tb₀.move (drawn_keepT hs hoS hcur) (fun x hx o e => hcur x o (tab_neS tb₀ hs hoS x hx) e)) (deep1 hdp (Nat.le_of_ble_eq_true rfl)) (units1 hun (Nat.le_of_ble_eq_true rfl)) ?_)
      intro hq2 tq2 vq2 kq2 rq2
      rw [hres] at rq2
      obtain rfl := rd_none.mp rq2
      have Fy := frKeep Fx kq2
      have Ny := newsKeep Nx kq2
      clear Fx Nx
      k_steps
      try dsimp only
      exact h _ _ (deed_same hSE hoff tb₀ hl he hs hoS (fun x o hx e => kq2 x o (hcur x o hx e)) (Ny.get (by k_mem)) hoS6)
    | some r =>
      obtain ⟨aq1, tr1, rfl, rfl⟩ := bq1
      rw [List.singleton_append] at Nq1
      k_steps
      rename News _ _ _ _ => Nx
      rename Fr _ _ _ _ => Fx
      have hcur := unhideS (S := S) (ps := [(X, instObj 99 DX), (DX, dictOf [⟨PyData.keyHash w.params "connections", .str "connections" u1, .ref C⟩, ⟨PyData.keyHash w.params "listeners", .str "listeners" u2, .ref D⟩] un'), (Le, listOf vs n)]) (fun p hp => hps p (.tail _ hp)) h₀_eq.symm Fx Nx (all_cons (by k_mem) (all_cons (by k_mem) (all_cons (by k_mem) all_nil)))
      refine wpAny_call (find_spec W (fun x o e => Fx.keep x o (hk' x o e)) hXH hDXH (tb₀.move (drawn_keepT hs hoS hcur) (fun x hx o e => hcur x o (tab_neS tb₀ hs hoS x hx) e)) (deep1 hdp (Nat.le_of_ble_eq_true rfl)) (units1 hun (Nat.le_of_ble_eq_true rfl)) ?_)
      intro hq2 tq2 vq2 kq2 rq2
      rw [hres] at rq2
      have Fy := frKeep Fx kq2
      have Ny := newsKeep Nx kq2
      have rq3 : Rd hq2 (.ref aq1) (resD (some r)) := rdN Ny (.head _) (rdAll_cons'.mpr ⟨.int _ _, rdAll_cons'.mpr ⟨.bool _, .nil⟩⟩)
      obtain ⟨bq2, -, -, -, rfl, -⟩ := rd_tup.mp rq2
      clear Fx Nx
      k_steps
      refine eq_rd rq2 rq3 (lay_res _) (lay_res _) (by have := depth_res (some r); simp only [units_deeper, cLine]; omega) ?_
      rw [eqv_res]
      k_steps
      try dsimp only
      exact h _ _ (deed_same hSE hoff tb₀ hl he hs hoS (fun x o hx e => kq2 x o (hcur x o hx e)) (Ny.get (by k_mem)) hoS6)
  · k_steps
    have hvs : vs.size = M.length := by have := rdAll_length he'; simpa using this
    rename News _ _ _ _ => Nx
    rename Fr _ _ _ _ => Fx
    refine LCt.CompSrcT.ledger (by exact rfl) Fx Nx (by k_mem) (by rw [sizeLine_eq]; omega) ?_
    intro g1
    refine compT_ind (all := vs.toList) (Rel := fun v e => Rd h₀ v (entD e)) (fun x : Ent => decide (x.2.2 = ow)) (fun i v q => by rw [Array.getElem?_toList]; exact q) (.inr ⟨_, by k_mem, rfl, _, rfl⟩) (fun _ => rfl) (fun _ => rfl) (by decide) ?_ (vals := vs.toList) (M' := M) 0 [] (zip_of_rdAll he') rfl ?_
    · rintro v ⟨lo', rem', ow'⟩ I oI Cc oC2 Dl m₂ hp₂ tk₂ E' ys hv hNs hmx F₂ N₂ off2 ne2
      obtain ⟨_, w1, w2, to', q, hT', r1', r2'⟩ := ent_inv hv
      cases q
      dsimp only at hT' r1' r2'
      k_steps
      all_goals first | exact F₂ | exact N₂
    · intro zs hz
      rw [List.nil_append]
      clear Fx Nx
      (repeat' (first | (k_unfold; (try dsimp only)) | (k_end; kc_close) | ((fail_if_success (with_reducible show wpAny _ _ (call (Value.builtin "len") [Value.ref _]) _ _ _)); first | walk1 | (dsimp only; walk1) | (leave1; walk_say "STEP leave1"; (try dsimp only)))))
      have hzl : zs.length ≤ 500 := by
        have h1 := hz.length
        have h2 : (M.filter fun x : Ent => decide (x.2.2 = ow)).length ≤ M.length := List.length_filter_le _ _
        omega
      refine len_list (News.isList (by assumption) (.head _)) (by simp only [List.size_toArray]; omega) ?_
      k_steps
      rename News _ _ _ _ => Nx
      rename Fr _ _ _ _ => Fx
      refine LCt.CompSrcT.ledger (by exact rfl) Fx Nx (by k_mem) (by rw [sizeLine_eq]; omega) ?_
      intro g2
      refine compT_ind (all := vs.toList) (Rel := fun v e => Rd h₀ v (entD e)) (fun x : Ent => decide (x.2.2 ≠ ow)) (fun i v q => by rw [Array.getElem?_toList]; exact q) (.inr ⟨_, by k_mem, rfl, _, rfl⟩) (fun _ => rfl) (fun _ => rfl) (by decide) ?_ (vals := vs.toList) (M' := M) 0 [] (zip_of_rdAll he') rfl ?_
      · rintro v ⟨lo', rem', ow'⟩ I oI Cc oC2 Dl m₂ hp₂ tk₂ E' ys hv hNs hmx F₂ N₂ off2 ne2
        obtain ⟨_, w1, w2, to', q, hT', r1', r2'⟩ := ent_inv hv
        cases q
        dsimp only at hT' r1' r2'
        k_steps
        all_goals first | exact F₂ | exact N₂ | (by_cases hq : ow' = ow <;> simp [hq])
      · intro zs2 hz2
        rw [List.nil_append]
        clear Fx Nx
        have hzl2 : zs2.length ≤ 500 := by
          have h1 := hz2.length
          have h2 : (M.filter fun x : Ent => decide (x.2.2 ≠ ow)).length ≤ M.length := List.length_filter_le _ _
          omega
        k_steps
        rename News _ _ _ _ => Nx
        rename Fr _ _ _ _ => Fx
        rename_i Dz hpz tkz oz
        refine' set_all ?sF ?sN ?sU ?sb ?sn ?sz ?_
        case sF => exact Fx
        case sN => exact Nx
        case sU => k_updF
        case sb => exact .head _
        case sn => k_ne
        case sz => omega
        intro c5 h5 F5 N5
        clear Fx Nx
        k_steps
        rename News _ _ _ _ => Nx
        rename Fr _ _ _ _ => Fx
        have hcur := unhideG (S2 := [S, Le]) (ps := [(X, instObj 99 DX), (DX, dictOf [⟨PyData.keyHash w.params "connections", .str "connections" u1, .ref C⟩, ⟨PyData.keyHash w.params "listeners", .str "listeners" u2, .ref D⟩] un')]) (all_cons hX (all_cons hDX all_nil)) h₀_eq.symm Fx Nx (all_cons (by k_mem) (all_cons (by k_mem) all_nil))
          (by intro x hx; simp only [List.mem_cons, List.not_mem_nil, or_false, List.map_cons, List.map_nil] at hx ⊢; rcases hx with h | h | h | h <;> simp [h])
        have ktc : KeepT _ _ := fun b o e c => hcur b o (fun z => by
          rcases List.mem_cons.mp z with rfl | z
          · rw [hs] at e; cases e; exact hnS c
          · rw [List.mem_singleton.mp z, hl] at e; cases e; exact absurd c.1 (by simp)) e
        have tbc := tb₀.move ktc (fun x hx o e => hcur x o (by
          simp only [List.mem_cons, List.not_mem_nil, or_false] at hx ⊢
          rcases hx with rfl | rfl | rfl | rfl
          · exact fun z => z.elim (Ne.symm dSX) dXE
          · exact fun z => z.elim (Ne.symm dSDX) dDXE
          · exact fun z => z.elim (Ne.symm dSC) dCE
          · exact fun z => z.elim (Ne.symm dSD) dDE) e)
        refine wpAny_call (remove_spec W (fun x o e => Fx.keep x o (hk' x o e)) hXH hDXH hCH hDH tbc (by have := conns_len M; omega) (by have := lsts_len M; omega) (deep1 hdp (Nat.le_of_ble_eq_true rfl)) (units1 hun (Nat.le_of_ble_eq_true rfl)) ?_)
        intro h6 tk6 t6 k6 tb6
        rw [count_parts, ← hz.length]
        rw [← conns_ne, ← lsts_ne] at tb6
        have Fy0 := fr_hide (S := [C, D]) Fx k6 (fun a ha => by
          simp only [List.mem_cons, List.not_mem_nil, or_false] at ha
          rcases ha with rfl | rfl
          · exact Nat.ne_of_gt hC0
          · exact Nat.ne_of_gt hD0)
        have hlow : ∀ x o, H.get? x = some o → (hideAll h₀ [C, D]).get? x = some o := hideLow (ps := [(C, oC), (D, oD)]) hk' (all_cons hCH (all_cons hDH all_nil))
        have X9 := W.K.keeps hlow
        have T9 := T.keeps hlow
        have Ny : News (hideAll h₀ [C, D]) L h6 [] := News.nil
        have fin := deed_rem (c := c5) (zs := zs2) hSE hoff tb₀ hs hoS hcur k6 tb6 (List.length_filter_le _ _) tbc (Nx.get (by k_mem)) (rdAll_of_zip (hz2.mono fun v e r => rdF Fx r)) (Nx.get (by k_mem)) hoS6 ⟨dCE, dDE⟩
        clear Fx Nx hcur ktc tbc k6 tb6 X' T'
        generalize hideAll h₀ [C, D] = g₀ at *
        dsimp only
        k_steps
        rw [show ((zs.length : Int) == (zs.toArray.size : Int)) = true from by simp]
        exact h _ _ fin
theorem fin : PC cx := by with_unfolding_all exact core
end DeedZ
theorem deed_spec {w : World} {dp un : Nat} {outer : List Env} {gd : Option (List Code)} {R : Result → Shared → Prop} {s : Shared} {H : Heap} {X DX C D Le S : Addr} {M : List Ent} {vs : Array Value} {n : Nat} {oS : Obj}
    (W : Wld w H) (hk : ∀ x o, H.get? x = some o → s.heap.get? x = some o) (hXH : H.get? X = none) (hDXH : H.get? DX = none) (hCH : H.get? C = none) (hDH : H.get? D = none) (hEH : H.get? Le = none) (hSH : H.get? S = none) (hSE : S ≠ Le)
    (hFF : s.heap.FunFrames H outer) (hFN : ∀ x ∈ framesOf outer, ∃ m, s.heap.Ns x m) (hoff : ∀ x ∈ [X, DX, C, D, Le, S], x ∉ framesOf outer)
    (tb : TabIs w H s.heap X DX C D (conns M) (lsts M)) (hM : M.length ≤ 500) (hl : s.heap.get? Le = some (listOf vs n)) (he : RdAll s.heap vs.toList (M.map entD)) (hs : s.heap.get? S = some oS) (hoS : SrcObj oS) (hdp : dp < 370) (hun : un < 370)
    (h : ∀ h' tk, DeedEnd w outer s.heap H X DX C D Le S M h' → R (.ok (.ret (.bool true))) { s with heap := h', toks := tk }) :
    codeAny (model PySem.Challenge.pw_nu0119_01 w) ⟨none, dp, some outer, gd, un⟩ (.call (.ref 153) ⟨[.ref X, .ref Le, .ref S], []⟩) R s := by
  obtain ⟨_, hDX, u1, u2, un', rfl⟩ := tb.2
  exact
  zxAll (P := DeedZ.PC) DeedZ.fin { zx₀ with w := w, k0 := dp, k1 := un, ou := outer, gd := gd, R := R, s := s, H := H, A0 := X, A1 := DX, A2 := C, A3 := D, A4 := Le, A5 := S, M := M, vs := vs, k2 := n, o0 := oS, t0 := u1, t1 := u2, k3 := un' } W hk hXH hDXH hCH hDH hEH hSH hSE hFF hFN hoff tb hM hl he hs hoS hdp hun h hDX
end Mine
end

section
open PySem PySem.W PySem.Calls PyProof.Rows PySem.Spec
set_option maxRecDepth 100000
namespace Mine
theorem sorted_same {A O : List Ent} (p : A.Perm O) (h : A.Pairwise fun a b => ltE a b = true) (h' : O.Pairwise fun a b => ltE b a = false) : A = O := by
  induction A generalizing O with
  | nil => exact (List.nil_perm.mp p).symm
  | cons a A ih =>
    cases O with
    | nil => exact absurd (List.perm_nil.mp p) (by simp)
    | cons o O =>
      rw [List.pairwise_cons] at h h'
      have e : a = o := by
        by_cases q : a = o
        · exact q
        · have h1 : a ∈ O := (List.mem_cons.mp (p.mem_iff.mp (.head _))).resolve_left q
          have h2 : o ∈ A := (List.mem_cons.mp (p.mem_iff.mpr (.head _))).resolve_left fun z => q z.symm
          have h3 := h.1 o h2
          rw [h'.1 a h1] at h3; cases h3
      subst e
      rw [ih (List.perm_cons a |>.mp p) h.2 h'.2]
theorem conns_back (M : List Ent) : (conns M).map (fun x => ((x.1.1, some x.1.2, x.2) : Ent)) = M.filter (isB true) := by
  induction M with
  | nil => rfl
  | cons e M ih =>
    obtain ⟨l, r, o⟩ := e
    cases r with
    | none => rw [conns_c0, ih, List.filter_cons, if_neg (by simp [isB])]
    | some r => rw [conns_c1, List.map_cons, ih, List.filter_cons, if_pos (by simp [isB])]
theorem lsts_back (M : List Ent) : (lsts M).map (fun x => ((x.1, none, x.2) : Ent)) = M.filter (isB false) := by
  induction M with
  | nil => rfl
  | cons e M ih =>
    obtain ⟨l, r, o⟩ := e
    cases r with
    | none => rw [lsts_c0, List.map_cons, ih, List.filter_cons, if_pos (by simp [isB])]
    | some r => rw [lsts_c1, ih, List.filter_cons, if_neg (by simp [isB])]
theorem rows_ordered {M O : List Ent} {ck : List (P2 × P2)} {lk : List P2} (nc : ((conns M).map (·.1)).Nodup) (nl : ((lsts M).map (·.1)).Nodup) (pc : ck.Perm ((conns M).map (·.1))) (sc : ck.Pairwise fun a b => ltKey a b = true)
    (pl : lk.Perm ((lsts M).map (·.1))) (sl : lk.Pairwise fun a b => ltPt a b = true) (h : OrdL M O) : ck.map (conE (conns M)) ++ lk.map (lstE (lsts M)) = O := by
  obtain ⟨O1, O2, rfl, ⟨p1, s1⟩, p2, s2⟩ := h
  have e1 : ck.map (conE (conns M)) = O1 := by
    refine sorted_same ?_ ?_ s1
    · refine (pc.map _).trans ((List.Perm.of_eq ?_).trans p1.symm)
      rw [← conns_back, List.map_map]
      apply List.map_congr_left
      intro x hx
      show (x.1.1, some x.1.2, (look (conns M) x.1).getD 0) = _
      rw [look_mem nc hx]; rfl
    · rw [List.pairwise_map]
      exact sc
  have e2 : lk.map (lstE (lsts M)) = O2 := by
    refine sorted_same ?_ ?_ s2
    · refine (pl.map _).trans ((List.Perm.of_eq ?_).trans p2.symm)
      rw [← lsts_back, List.map_map]
      apply List.map_congr_left
      intro x hx
      show (x.1, none, (look (lsts M) x.1).getD 0) = _
      rw [look_mem nl hx]; rfl
    · rw [List.pairwise_map]
      exact sl.imp fun {a b} hab => by rw [lstE, lstE, ltE_none]; exact hab
  rw [e1, e2]
theorem con_nodup {prog : Program} {w : World} {H h : Heap} {C : Addr} {cl : List ((P2 × P2) × Int)} (c : ConAt prog w H h C cl) : (cl.map (·.1)).Nodup := by
  obtain ⟨xs, ⟨o, es, ep, ho, hc, hd, he, his, hn⟩, v, -⟩ := c
  rw [← v.keys]; exact hn
theorem lst_nodup {prog : Program} {w : World} {h : Heap} {D : Addr} {ll : List (P2 × Int)} (c : LstAt prog w h D ll) : (ll.map (·.1)).Nodup := by
  obtain ⟨xs, ⟨o, es, ep, ho, hc, hd, he, his, hn⟩, v, -⟩ := c
  rw [← v.keys]; exact hn
/-- table.rows() == _law_ordered(entries) -/
theorem rows_eq {prog : Program} {w : World} {A : Around} {E : Value → Shared → Prop} {s : Shared} {v v' : Value} {M : List Ent} {Q : Value → Shared → Prop} (nc : ((conns M).map (·.1)).Nodup) (nl : ((lsts M).map (·.1)).Nodup)
    (r : RowsAt s.heap v (conns M) (lsts M)) (r' : OrdAt s.heap v' M) (hu : A.units + 10 < cLine) (h : Q (.bool true) s) : wpAny (model prog w) A (compareOp .Eq v v') Q E s := by
  obtain ⟨D, out, ck, lk, rfl, hl, pc, sc, pl, sl, ra⟩ := r
  obtain ⟨D', out', O, rfl, hl', ra', ho⟩ := r'
  rw [rows_ordered nc nl pc sc pl sl ho] at ra
  have e1 := rdAll_length ra
  have e2 := rdAll_length ra'
  have hsz : out.size = out'.size := by rw [← Array.length_toList, ← Array.length_toList, e1, e2]
  refine SeqAt.RcAt.lists (e := fun _ => true) hl hl' hsz (by omega) (fun j h1 h2 => ?_) prog w E Q (by rw [show ((List.range out.size).all fun _ => true) = true from by simp]; exact h)
  obtain ⟨d, hd, rd⟩ := rdAll_at ra (i := j) (v := out[j]) (by simp [h1])
  obtain ⟨d', hd', rd'⟩ := rdAll_at ra' (i := j) (v := out'[j]) (by simp [h2])
  rw [hd] at hd'; cases hd'
  rw [List.getElem?_map] at hd
  obtain ⟨x, -, rfl⟩ := Option.map_eq_some_iff.mp hd
  have := eqAt_ent (A := A.in1) rd rd' (by simp only [units_in1]; omega)
  rwa [decide_eq_true rfl] at this
end Mine
end

section
open PySem PySem.W PySem.Calls PyProof.Rows PySem.Spec
set_option maxRecDepth 100000
namespace Mine

namespace PoolZ
noncomputable def P (w : World) (dp : Nat) (un : Nat) (fr : Option (List Env)) (gd : Option (List Code)) (R : Result → Shared → Prop) (s : Shared) (H : Heap) (ls : Addr) (vals : List Value) (ns : List Int) (t0 : Tok) : Prop := (Wld w H) → (∀ x o, H.get? x = some o → s.heap.get? x = some o) → (s.heap.IsList ls vals.toArray) → (IntsAre vals ns) → (ns.length ≤ 63) → (dp < 400) → (un < 400) → (∀ h' tk S oS, (∀ x o, s.heap.get? x = some o → h'.get? x = some o) → SrcObj oS → h'.get? S = some oS → s.heap.get? S = none → R (.ok (.ret (.ref S))) { s with heap := h', toks := tk }) →
    codeAny (model PySem.Challenge.pw_nu0119_01 w) ⟨none, dp, fr, gd, un⟩ (.call (.ref 110) ⟨[.ref ls, .int 0 t0], []⟩) R s
noncomputable def PC (c : Zx) : Prop := P c.w c.k0 c.k1 c.fr c.gd c.R c.s c.H c.A0 c.li c.ns c.t0
noncomputable def cx : Zx := @Classical.epsilon Zx ⟨zx₀⟩ fun c => ¬ PC c
@[irreducible] noncomputable def w : World := cx.w
@[irreducible] noncomputable def dp : Nat := cx.k0
@[irreducible] noncomputable def un : Nat := cx.k1
@[irreducible] noncomputable def fr : Option (List Env) := cx.fr
@[irreducible] noncomputable def gd : Option (List Code) := cx.gd
@[irreducible] noncomputable def R : Result → Shared → Prop := cx.R
@[irreducible] noncomputable def hZ : Heap := cx.s.heap
@[irreducible] noncomputable def sg : Array GenState := cx.s.gens
@[irreducible] noncomputable def sd : Drawn := cx.s.drawn
@[irreducible] noncomputable def st : Nat := cx.s.toks
@[irreducible] noncomputable def so : OsState := cx.s.os
@[irreducible] noncomputable def H : Heap := cx.H
@[irreducible] noncomputable def ls : Addr := cx.A0
@[irreducible] noncomputable def vals : List Value := cx.li
@[irreducible] noncomputable def ns : List Int := cx.ns
@[irreducible] noncomputable def t0 : Tok := cx.t0
@[irreducible] noncomputable def L : Addr := hZ.objs.size
theorem L_eq : hZ.objs.size = L := by delta L; rfl
theorem lt_L {x : Addr} {o : Obj} (h : hZ.get? x = some o) : x < L := L_eq ▸ Heap.lt_size h
set_option maxHeartbeats 4000000 in
theorem core (W : Wld w H) (hk : ∀ x o, H.get? x = some o → hZ.get? x = some o) (hl : hZ.IsList ls vals.toArray) (hI : IntsAre vals ns) (hlen : ns.length ≤ 63) (hdp : dp < 400) (hun : un < 400) (h : ∀ h' tk S oS, (∀ x o, hZ.get? x = some o → h'.get? x = some o) → SrcObj oS → h'.get? S = some oS → hZ.get? S = none → R (.ok (.ret (.ref S))) ⟨h', sg, sd, tk, so⟩) :
    codeAny (model PySem.Challenge.pw_nu0119_01 w) ⟨none, dp, fr, gd, un⟩ (.call (.ref 110) ⟨[.ref ls, .int 0 t0], []⟩) R ⟨hZ, sg, sd, st, so⟩ := by
  obtain ⟨loose, mean, mg, mb, T⟩ := W.T
  have X := W.K.keeps hk
  have T' := T.keeps hk
  k_dflt (refine' enterY (h₀ := hZ) (K := Mine.hd.heap_39 w.params) (binds := [("script", .ref ls), ("k", .int 0 t0)]) [] L_eq rfl (W.K.keeps hk) (T.keeps hk).nolimit ?k6 ?k7 ?k8 ?k9 ?kB ?_ ?c2 ?c3 ?c4 ?c5; (case k6 => k_is); (case k7 => k_is); (case k8 => (dsimp only; rw [show recursionLimit = 1000 from rfl]; omega)); (case k9 => exact BindsTo.of_eq rfl); (case c5 => decide); (case kB => exact locs rfl); (case c2 => exact rfl); (case c3 => exact rfl); (case c4 => exact rfl))
  intro h₁ F hk₁
  have N : News hZ L h₁ [] := News.nil
  try dsimp only at *
  (all_goals try k_fold)
  k_steps
  all_goals
    try dsimp only
    exact h _ _ _ _ (Fr.keep (by assumption)) ⟨_, _, _, _, _, rfl, fmod_in _ (by omega)⟩ (News.get (by assumption) (.head _)) (News.fresh (by assumption) (.head _))
theorem fin : PC cx := by with_unfolding_all exact core
end PoolZ
theorem pool_spec {w : World} {dp un : Nat} {fr : Option (List Env)} {gd : Option (List Code)} {R : Result → Shared → Prop} {s : Shared} {H : Heap} {ls : Addr} {vals : List Value} {ns : List Int} {t0 : Tok}
    (W : Wld w H) (hk : ∀ x o, H.get? x = some o → s.heap.get? x = some o) (hl : s.heap.IsList ls vals.toArray) (hI : IntsAre vals ns) (hlen : ns.length ≤ 63) (hdp : dp < 400) (hun : un < 400)
    (h : ∀ h' tk S oS, (∀ x o, s.heap.get? x = some o → h'.get? x = some o) → SrcObj oS → h'.get? S = some oS → s.heap.get? S = none → R (.ok (.ret (.ref S))) { s with heap := h', toks := tk }) :
    codeAny (model PySem.Challenge.pw_nu0119_01 w) ⟨none, dp, fr, gd, un⟩ (.call (.ref 110) ⟨[.ref ls, .int 0 t0], []⟩) R s :=
  zxAll (P := PoolZ.PC) PoolZ.fin { zx₀ with w := w, k0 := dp, k1 := un, fr := fr, gd := gd, R := R, s := s, H := H, A0 := ls, li := vals, ns := ns, t0 := t0 } W hk hl hI hlen hdp hun h
end Mine
end

section
open PySem PySem.W PySem.Calls PyProof.Rows PySem.Spec
set_option maxRecDepth 100000
namespace Mine
/-- a fact that the walk cannot open -/
structure Box (p : Prop) : Prop where
  out : p

/-- what the law's ledger bears: the table, the entries, the source, their tuples -/
structure Bears (w : World) (h₀ : Heap) (L X DX C D Le S : Addr) (M : List Ent) (oC oD oS oc : Obj) (u1 u2 : Tok) (un n : Nat) (vs : Array Value) (tl : List (Addr × Obj)) : Prop where
  src : SrcObj oS
  cell : ∃ cv, oc.data = .cell cv
  tup : ∀ p ∈ tl, TupObj p.2
  snap : ∃ hs, TabIs w h₀ hs X DX C D (conns M) (lsts M) ∧ hs.get? DX = some (dictOf [⟨PyData.keyHash w.params "connections", .str "connections" u1, .ref C⟩, ⟨PyData.keyHash w.params "listeners", .str "listeners" u2, .ref D⟩] un) ∧ hs.get? C = some oC ∧ hs.get? D = some oD ∧ RdAll hs vs.toList (M.map entD) ∧
    ∀ b o, hs.get? b = some o → TupObj o → h₀.get? b = some o ∨ (b, o) ∈ tl

noncomputable def Cells (X DX C D Le S c : Addr) (w : World) (oC oD oS oc : Obj) (u1 u2 : Tok) (un n : Nat) (vs : Array Value) (tl : List (Addr × Obj)) : List (Addr × Obj) :=
  (Le, listOf vs n) :: (S, oS) :: (X, instObj 99 DX) :: (DX, dictOf [⟨PyData.keyHash w.params "connections", .str "connections" u1, .ref C⟩, ⟨PyData.keyHash w.params "listeners", .str "listeners" u2, .ref D⟩] un) :: (C, oC) :: (D, oD) :: (c, oc) :: tl

section
variable {w : World} {h₀ h : Heap} {L X DX C D Le S : Addr} {M : List Ent} {oC oD oS oc : Obj} {u1 u2 : Tok} {un n : Nat} {vs : Array Value} {tl news : List (Addr × Obj)} {m : Str → Option Value}
theorem Bears.keepT (B : Bears w h₀ L X DX C D Le S M oC oD oS oc u1 u2 un n vs tl) : ∃ hs, TabIs w h₀ hs X DX C D (conns M) (lsts M) ∧ RdAll hs vs.toList (M.map entD) ∧
    ∀ {h : Heap} {m : Str → Option Value} {news : List (Addr × Obj)}, Fr h₀ L h m → News h₀ L h news → (∀ p ∈ tl, p ∈ news) → KeepT hs h := by
  obtain ⟨hs, t, -, -, -, r, k⟩ := B.snap
  refine ⟨hs, t, r, fun {h m news} F N hm b o e c => ?_⟩
  rcases k b o e c with q | q
  · exact F.keep _ _ q
  · exact N.get (hm _ q)
theorem Bears.tab (B : Bears w h₀ L X DX C D Le S M oC oD oS oc u1 u2 un n vs tl) (F : Fr h₀ L h m) (N : News h₀ L h news) (hm : ∀ p ∈ tl, p ∈ news) (h1 : (X, instObj 99 DX) ∈ news) (h2 : (DX, dictOf [⟨PyData.keyHash w.params "connections", .str "connections" u1, .ref C⟩, ⟨PyData.keyHash w.params "listeners", .str "listeners" u2, .ref D⟩] un) ∈ news)
    (h3 : (C, oC) ∈ news) (h4 : (D, oD) ∈ news) : TabIs w h₀ h X DX C D (conns M) (lsts M) := by
  obtain ⟨hs, t, hDX, hC, hD, r, k⟩ := B.snap
  have kt : KeepT hs h := fun b o e c => by
    rcases k b o e c with q | q
    · exact F.keep _ _ q
    · exact N.get (hm _ q)
  refine t.move kt fun x hx o e => ?_
  simp only [List.mem_cons, List.not_mem_nil, or_false] at hx
  rcases hx with rfl | rfl | rfl | rfl
  · rw [t.x] at e; cases e; exact N.get h1
  · rw [hDX] at e; cases e; exact N.get h2
  · rw [hC] at e; cases e; exact N.get h3
  · rw [hD] at e; cases e; exact N.get h4
theorem Bears.rd (B : Bears w h₀ L X DX C D Le S M oC oD oS oc u1 u2 un n vs tl) (F : Fr h₀ L h m) (N : News h₀ L h news) (hm : ∀ p ∈ tl, p ∈ news) : RdAll h vs.toList (M.map entD) := by
  obtain ⟨hs, -, r, k⟩ := B.keepT
  exact ent_keepT (k F N hm) r
/-- the tuples of a heap that are not of its base -/
theorem tuples_of {h₀ h : Heap} {L : Addr} {m : Str → Option Value} (F : Fr h₀ L h m) : ∃ tl : List (Addr × Obj), News h₀ L h tl ∧ (∀ p ∈ tl, TupObj p.2) ∧ ∀ b o, h.get? b = some o → TupObj o → h₀.get? b = some o ∨ (b, o) ∈ tl := by
  classical
  refine ⟨(rest h₀ h []).filter fun p => decide (TupObj p.2), fun p hp => ?_, fun p hp => by simpa using (List.mem_filter.mp hp).2, fun b o e c => ?_⟩
  · obtain ⟨h1, h2⟩ := List.mem_filter.mp hp
    have h2 : TupObj p.2 := by simpa using h2
    obtain ⟨h3, -, h4⟩ := mem_rest.mp (show (p.1, p.2) ∈ _ from h1)
    refine ⟨h3, fun q => ?_, h4⟩
    obtain ⟨o, es, ep, ho, hd, -⟩ := F.ns
    rw [← q, h3] at ho
    cases ho
    obtain ⟨-, vs, n, q⟩ := h2
    rw [hd] at q; cases q
  · cases q : h₀.get? b with
    | some o' =>
      have := F.keep _ _ q
      rw [e] at this; cases this
      exact .inl rfl
    | none => exact .inr (List.mem_filter.mpr ⟨mem_rest.mpr ⟨e, by simp, q⟩, by simpa using c⟩)
/-- a tuple's place is none of another object's -/
theorem tup_off {h : Heap} {L a : Addr} {o : Obj} {tl : List (Addr × Obj)} (N : News h₀ L h tl) (ht : ∀ p ∈ tl, TupObj p.2) (ha : h.get? a = some o) (ho : ¬ TupObj o) : ∀ p ∈ tl, p.1 ≠ a := fun p hp q => by
  have := (N p hp).1
  rw [q, ha] at this; cases this
  exact ho (ht p hp)

/-- a deed is done: the frame and the ledger of the law behind it -/
theorem after_deed {env : Env} {cur h' : Heap} {I : Addr} {oI : Obj} {tl₀ : List (Addr × Obj)} (hf : env.frame = some L) (F : Fr h₀ L cur m) (N : News h₀ L cur ((I, oI) :: Cells X DX C D Le S (L + 1) w oC oD oS oc u1 u2 un n vs tl₀)) (hcell : ∃ cv, oc.data = .cell cv)
    (hI : I ≠ C ∧ I ≠ D ∧ I ≠ Le ∧ I ≠ S) (hc : L + 1 ≠ C ∧ L + 1 ≠ D ∧ L + 1 ≠ Le ∧ L + 1 ≠ S) (hDX : DX ≠ C ∧ DX ≠ D ∧ DX ≠ Le ∧ DX ≠ S) (e : DeedEnd w [env] cur h₀ X DX C D Le S M h') :
    Fr h₀ L h' m ∧ ∃ oC' oD' oS' n' vs' M' tl, News h₀ L h' ((I, oI) :: Cells X DX C D Le S (L + 1) w oC' oD' oS' oc u1 u2 un n' vs' tl) ∧ Bears w h₀ L X DX C D Le S M' oC' oD' oS' oc u1 u2 un n' vs' tl ∧ M'.length ≤ M.length + 1 := by
  obtain ⟨vs', n', M', oS', K, t, hl, he, hlen, hS, hoS⟩ := e
  have mf : ∀ x, x ∈ framesOf [env] ↔ x = L := fun x => by rw [mem_push hf]; simp [framesOf]
  have nm : ∀ p ∈ (I, oI) :: Cells X DX C D Le S (L + 1) w oC oD oS oc u1 u2 un n vs tl₀, p.1 ≠ L := fun p hp => (N p hp).2.1
  have kk : ∀ x o, x ∉ [C, D, Le, S] → x ≠ L → cur.get? x = some o → h'.get? x = some o := fun x o hx hL e => K.1 x o hx (fun q => hL ((mf x).mp q)) e
  have mC : (C, oC) ∈ (I, oI) :: Cells X DX C D Le S (L + 1) w oC oD oS oc u1 u2 un n vs tl₀ := by unfold Cells; k_mem
  have mD : (D, oD) ∈ (I, oI) :: Cells X DX C D Le S (L + 1) w oC oD oS oc u1 u2 un n vs tl₀ := by unfold Cells; k_mem
  have mE : (Le, listOf vs n) ∈ (I, oI) :: Cells X DX C D Le S (L + 1) w oC oD oS oc u1 u2 un n vs tl₀ := by unfold Cells; k_mem
  have mS : (S, oS) ∈ (I, oI) :: Cells X DX C D Le S (L + 1) w oC oD oS oc u1 u2 un n vs tl₀ := by unfold Cells; k_mem
  have mX : (X, instObj 99 DX) ∈ (I, oI) :: Cells X DX C D Le S (L + 1) w oC oD oS oc u1 u2 un n vs tl₀ := by unfold Cells; k_mem
  have mDX : (DX, dictOf [⟨PyData.keyHash w.params "connections", .str "connections" u1, .ref C⟩, ⟨PyData.keyHash w.params "listeners", .str "listeners" u2, .ref D⟩] un) ∈ (I, oI) :: Cells X DX C D Le S (L + 1) w oC oD oS oc u1 u2 un n vs tl₀ := by unfold Cells; exact .tail _ (.tail _ (.tail _ (.tail _ (.head _))))
  have mc : (L + 1, oc) ∈ (I, oI) :: Cells X DX C D Le S (L + 1) w oC oD oS oc u1 u2 un n vs tl₀ := by unfold Cells; k_mem
  have F' : Fr h₀ L h' m := by
    refine ⟨K.2 L m ((mf L).mpr rfl) F.ns, fun b o e => ?_, F.above⟩
    refine kk b o ?_ (fun q => ?_) (F.keep _ _ e)
    · simp only [List.mem_cons, List.not_mem_nil, or_false, not_or]
      refine ⟨?_, ?_, ?_, ?_⟩ <;> rintro rfl
      · rw [N.fresh mC] at e; cases e
      · rw [N.fresh mD] at e; cases e
      · rw [N.fresh mE] at e; cases e
      · rw [N.fresh mS] at e; cases e
    · exact absurd (Nat.lt_of_lt_of_le (Heap.lt_size e) F.above) (q ▸ Nat.lt_irrefl _)
  obtain ⟨oC', hoC, hcC⟩ := con_obj t.con
  obtain ⟨oD', hoD, hcD⟩ := lst_obj t.lst
  obtain ⟨tl, Nt, tt, tk⟩ := tuples_of F'
  have hDX' : h'.get? DX = some (dictOf [⟨PyData.keyHash w.params "connections", .str "connections" u1, .ref C⟩, ⟨PyData.keyHash w.params "listeners", .str "listeners" u2, .ref D⟩] un) := kk DX _ (by simp only [List.mem_cons, List.not_mem_nil, or_false, not_or]; exact hDX) (nm _ mDX) (N.get mDX)
  refine ⟨F', oC', oD', oS', n', vs', M', tl, fun p hp => ?_, ⟨hoS, hcell, tt, h', t, hDX', hoC, hoD, he, tk⟩, hlen⟩
  unfold Cells at hp
  rcases List.mem_cons.mp hp with rfl | hp
  · exact ⟨kk I _ (by simp only [List.mem_cons, List.not_mem_nil, or_false, not_or]; exact hI) (nm _ (.head _)) (N.get (.head _)), (N _ (.head _)).2⟩
  rcases List.mem_cons.mp hp with rfl | hp
  · exact ⟨hl, (N _ mE).2⟩
  rcases List.mem_cons.mp hp with rfl | hp
  · exact ⟨hS, (N _ mS).2⟩
  rcases List.mem_cons.mp hp with rfl | hp
  · exact ⟨t.x, (N _ mX).2⟩
  rcases List.mem_cons.mp hp with rfl | hp
  · exact ⟨hDX', (N _ mDX).2⟩
  rcases List.mem_cons.mp hp with rfl | hp
  · exact ⟨hoC, (N _ mC).2⟩
  rcases List.mem_cons.mp hp with rfl | hp
  · exact ⟨hoD, (N _ mD).2⟩
  rcases List.mem_cons.mp hp with rfl | hp
  · exact ⟨kk (L + 1) _ (by simp only [List.mem_cons, List.not_mem_nil, or_false, not_or]; exact hc) (nm _ mc) (N.get mc), (N _ mc).2⟩
  · exact Nt p hp

inductive LawJ (w : World) (h₀ : Heap) (L X DX C D Le S : Addr) (i : Nat) (m : Str → Option Value) (nx : List (Addr × Obj)) : Prop
  | mk (oC oD oS oc : Obj) (u1 u2 : Tok) (un n : Nat) (vs : Array Value) (M : List Ent) (tl : List (Addr × Obj)) (e : nx = Cells X DX C D Le S (L + 1) w oC oD oS oc u1 u2 un n vs tl) (hm : Has m [("source", .ref S), ("table", .ref X), ("entries", .ref Le)])
    (B : Bears w h₀ L X DX C D Le S M oC oD oS oc u1 u2 un n vs tl) (hi : M.length ≤ i) : LawJ w h₀ L X DX C D Le S i m nx
theorem empty_dict {prog : Program} {w : World} {o : Obj} (x : Obj.IsDictOf (PySem.intKind prog w) o []) : o.ExactDict ∧ ∃ es ep, o.data = .dict es ep ∧ es.toList = [] := by
  obtain ⟨es, ep, h1, h2, -, h4, -⟩ := x
  refine ⟨h1, es, ep, h2, ?_⟩
  cases e : es.toList with
  | nil => rfl
  | cons a l => rw [e] at h4; cases h4
theorem law_begin {Tp : Addr} {tp : Obj} (F : Fr h₀ L h m)
    (N : News h₀ L h ((Tp, tp) :: (Le, listOf #[] 0) :: (D, oD) :: (C, oC) :: (X, instObj 99 DX) :: (DX, dictOf [⟨PyData.keyHash w.params "connections", .str "connections" u1, .ref C⟩, ⟨PyData.keyHash w.params "listeners", .str "listeners" u2, .ref D⟩] un) :: (S, oS) :: (L + 1, oc) :: []))
    (hoS : SrcObj oS) (hcell : ∃ cv, oc.data = .cell cv) {prog : Program} (hiC : Obj.IsDictOf (PySem.intKind prog w) oC []) (hiD : Obj.IsDictOf (PySem.intKind prog w) oD []) (loC : (C == sysModules) = false) (loD : (D == sysModules) = false) (hne : C ≠ D ∧ C ≠ DX ∧ D ≠ DX) :
    ∃ tl, News h₀ L h (Cells X DX C D Le S (L + 1) w oC oD oS oc u1 u2 un 0 #[] tl) ∧ Bears w h₀ L X DX C D Le S [] oC oD oS oc u1 u2 un 0 #[] tl := by
  obtain ⟨tl, Nt, tt, tk⟩ := tuples_of F
  obtain ⟨c1, esC, epC, c2, c3⟩ := empty_dict hiC
  obtain ⟨d1, esD, epD, d2, d3⟩ := empty_dict hiD
  have gX := N.get (show (X, instObj 99 DX) ∈ _ by k_mem)
  have gDX := N.get (show (DX, dictOf [⟨PyData.keyHash w.params "connections", .str "connections" u1, .ref C⟩, ⟨PyData.keyHash w.params "listeners", .str "listeners" u2, .ref D⟩] un) ∈ _ by k_mem)
  have gC := N.get (show (C, oC) ∈ _ by k_mem)
  have gD := N.get (show (D, oD) ∈ _ by k_mem)
  refine ⟨tl, fun p hp => ?_, hoS, hcell, tt, h, ⟨gX, ⟨_, gDX, u1, u2, un, rfl⟩, ⟨[], ⟨oC, esC, epC, gC, c1, c2, by rw [c3]; rfl, (fun _ h => nomatch h), .nil⟩, .nil, loC, fun _ h => nomatch h⟩, ⟨[], ⟨oD, esD, epD, gD, d1, d2, by rw [d3]; rfl, (fun _ h => nomatch h), .nil⟩, .nil, loD⟩, hne⟩, gDX, gC, gD, .nil, tk⟩
  unfold Cells at hp
  rcases List.mem_cons.mp hp with rfl | hp
  · exact N _ (by k_mem)
  rcases List.mem_cons.mp hp with rfl | hp
  · exact N _ (by k_mem)
  rcases List.mem_cons.mp hp with rfl | hp
  · exact N _ (by k_mem)
  rcases List.mem_cons.mp hp with rfl | hp
  · exact N _ (by k_mem)
  rcases List.mem_cons.mp hp with rfl | hp
  · exact N _ (by k_mem)
  rcases List.mem_cons.mp hp with rfl | hp
  · exact N _ (by k_mem)
  rcases List.mem_cons.mp hp with rfl | hp
  · exact N _ (by k_mem)
  · exact Nt p hp

theorem frames_one {env : Env} {cur : Heap} (F : Fr h₀ L cur m) (hm : env.scope.kind ≠ .module) (hf : env.frame = some L) : cur.FunFrames h₀ [env] := by
  obtain ⟨o, es, ep, ho, hd, -⟩ := F.ns
  refine ⟨hm, ⟨L, o, hf, ?_, ho, fun vs q => by rw [hd] at q; cases q⟩, trivial⟩
  cases q : h₀.get? L with
  | none => rfl
  | some o => exact absurd (Nat.lt_of_lt_of_le (Heap.lt_size q) F.above) (Nat.lt_irrefl _)
theorem deed_law {dp un0 : Nat} {gd : Option (List Code)} {Q E : Value → Shared → Prop} {s : Shared} {env : Env} {I : Addr} {oI : Obj} (W : Wld w h₀) (F : Fr h₀ L s.heap m) (N : News h₀ L s.heap ((I, oI) :: Cells X DX C D Le S (L + 1) w oC oD oS oc u1 u2 un n vs tl)) (B : Bears w h₀ L X DX C D Le S M oC oD oS oc u1 u2 un n vs tl) (hM : M.length ≤ 500)
    (hf : env.frame = some L) (hm : env.scope.kind ≠ .module) (hI : I ≠ C ∧ I ≠ D ∧ I ≠ Le ∧ I ≠ S) (hc : L + 1 ≠ C ∧ L + 1 ≠ D ∧ L + 1 ≠ Le ∧ L + 1 ≠ S) (hDX : DX ≠ C ∧ DX ≠ D ∧ DX ≠ Le ∧ DX ≠ S) (hSE : S ≠ Le) (hdp : dp < 370) (hun : un0 < 370)
    (h : ∀ h' tk oC' oD' oS' n' vs' M' tl', Fr h₀ L h' m → News h₀ L h' ((I, oI) :: Cells X DX C D Le S (L + 1) w oC' oD' oS' oc u1 u2 un n' vs' tl') → Bears w h₀ L X DX C D Le S M' oC' oD' oS' oc u1 u2 un n' vs' tl' → M'.length ≤ M.length + 1 → Q (.bool true) { s with heap := h', toks := tk }) :
    wpAny (model PySem.Challenge.pw_nu0119_01 w) ⟨none, dp, some [env], gd, un0⟩ (call (.ref 153) [.ref X, .ref Le, .ref S]) Q E s := by
  have mC : (C, oC) ∈ (I, oI) :: Cells X DX C D Le S (L + 1) w oC oD oS oc u1 u2 un n vs tl := by unfold Cells; k_mem
  have mD : (D, oD) ∈ (I, oI) :: Cells X DX C D Le S (L + 1) w oC oD oS oc u1 u2 un n vs tl := by unfold Cells; k_mem
  have mE : (Le, listOf vs n) ∈ (I, oI) :: Cells X DX C D Le S (L + 1) w oC oD oS oc u1 u2 un n vs tl := by unfold Cells; k_mem
  have mS : (S, oS) ∈ (I, oI) :: Cells X DX C D Le S (L + 1) w oC oD oS oc u1 u2 un n vs tl := by unfold Cells; k_mem
  have mX : (X, instObj 99 DX) ∈ (I, oI) :: Cells X DX C D Le S (L + 1) w oC oD oS oc u1 u2 un n vs tl := by unfold Cells; k_mem
  have mDX : (DX, dictOf [⟨PyData.keyHash w.params "connections", .str "connections" u1, .ref C⟩, ⟨PyData.keyHash w.params "listeners", .str "listeners" u2, .ref D⟩] un) ∈ (I, oI) :: Cells X DX C D Le S (L + 1) w oC oD oS oc u1 u2 un n vs tl := by unfold Cells; k_mem
  have mT : ∀ p ∈ tl, p ∈ (I, oI) :: Cells X DX C D Le S (L + 1) w oC oD oS oc u1 u2 un n vs tl := fun p hp => by unfold Cells; exact .tail _ (.tail _ (.tail _ (.tail _ (.tail _ (.tail _ (.tail _ (.tail _ hp)))))))
  have mf : ∀ x, x ∈ framesOf [env] ↔ x = L := fun x => by rw [mem_push hf]; simp [framesOf]
  refine wpAny_call (deed_spec W F.keep (N.fresh mX) (N.fresh mDX) (N.fresh mC) (N.fresh mD) (N.fresh mE) (N.fresh mS) hSE (frames_one F hm hf) (fun x hx => ⟨m, by rw [(mf x).mp hx]; exact F.ns⟩) (fun x hx q => ?_) (B.tab F N mT mX mDX mC mD) hM (N.get mE) (B.rd F N mT) (N.get mS) B.src hdp hun ?_)
  · have q := (mf x).mp q
    simp only [List.mem_cons, List.not_mem_nil, or_false] at hx
    rcases hx with rfl | rfl | rfl | rfl | rfl | rfl
    · exact (N _ mX).2.1 q
    · exact (N _ mDX).2.1 q
    · exact (N _ mC).2.1 q
    · exact (N _ mD).2.1 q
    · exact (N _ mE).2.1 q
    · exact (N _ mS).2.1 q
  · intro h' tk e
    obtain ⟨F', oC', oD', oS', n', vs', M', tl', N', B', hlen⟩ := after_deed hf F N B.cell hI hc hDX e
    exact h h' tk oC' oD' oS' n' vs' M' tl' F' N' B' hlen
end
section
variable {prog : Program} {w : World} {A : Around} {E : Value → Shared → Prop} {s : Shared} {env : Env} {h₀ : Heap} {body : List Stmt}
/-- for target in a display, all else of the ledger told by b -/
theorem list_loopH {β : Type} {G : β → List (Addr × Obj)} {R : Result → Shared → Prop} {target : PySem.Expr} {l : Addr} {n : Nat} {vs : List Value} {L : Addr} {m₀ : Str → Option Value} {b₀ : β} (J : Nat → (Str → Option Value) → β → Prop)
    (hh : A.handled = none) (F : Fr h₀ L s.heap m₀) (N : News h₀ L s.heap ((l, listOf vs.toArray n) :: G b₀)) (hj : J 0 m₀ b₀)
    (turn : ∀ i v m₁ b h tk I oI, vs[i]? = some v → J i m₁ b → (∀ p ∈ (l, listOf vs.toArray n) :: G b, p.1 ≠ I) → Fr h₀ L h m₁ → News h₀ L h ((I, oI) :: (l, listOf vs.toArray n) :: G b) →
      wpAny (model prog w) A (assign target env v) (fun _ s₂ => wpAny (model prog w) A (execs body env) (LEnd h₀ L I oI (fun m nx => ∃ b, nx = (l, listOf vs.toArray n) :: G b ∧ J (i + 1) m b) { s with heap := h, toks := tk } (fun f s' => R (.ok f) s')) (fun _ _ => False) s₂) (fun _ _ => False) { s with heap := h, toks := tk })
    (done : ∀ m₁ b h tk, J vs.length m₁ b → Fr h₀ L h m₁ → News h₀ L h (G b) → R (.ok .next) { s with heap := h, toks := tk }) :
    wpAny (model prog w) A (pyIter (.ref l)) (fun it s₂ => codeAny (model prog w) A (.forLoop target it body [] env) R s₂) E s := by
  refine list_loopG (fun i m nx => ∃ b, nx = (l, listOf vs.toArray n) :: G b ∧ J i m b) hh F N (.head _) ⟨b₀, rfl, hj⟩ (by rintro i m _ ⟨b, rfl, -⟩; exact .head _) ?_ ?_
  · rintro i v m₁ _ h tk I oI hv ⟨b, rfl, hJ⟩ hoff F' N'
    exact turn i v m₁ b h tk I oI hv hJ hoff F' N'
  · rintro m₁ _ h tk ⟨b, rfl, hJ⟩ F' N'
    exact done m₁ b h tk hJ F' fun p hp => N' p (.tail _ hp)
end
section
variable {prog : Program} {w : World} {A : Around} {E : Value → Shared → Prop} {s : Shared} {env : Env} {h₀ : Heap} {x : Str} {body : List Stmt} {Q : Flow → Shared → Prop}
theorem list_loopHV {β : Type} {G : β → List (Addr × Obj)} {l : Addr} {n : Nat} {vs : List Value} {m₀ : Str → Option Value} {b₀ : β} (J : Nat → (Str → Option Value) → β → Prop)
    (hh : A.handled = none) (F : Fr h₀ env.locals s.heap m₀) (N : News h₀ env.locals s.heap ((l, listOf vs.toArray n) :: G b₀)) (hj : J 0 m₀ b₀)
    (turn : ∀ i v m₁ b h tk I oI, vs[i]? = some v → J i m₁ b → (∀ p ∈ (l, listOf vs.toArray n) :: G b, p.1 ≠ I) → Fr h₀ env.locals h (fun y => if y = x then some v else m₁ y) → News h₀ env.locals h ((I, oI) :: (l, listOf vs.toArray n) :: G b) →
      wpAny (model prog w) A (execs body env) (LEnd h₀ env.locals I oI (fun m nx => ∃ b, nx = (l, listOf vs.toArray n) :: G b ∧ J (i + 1) m b) { s with heap := h, toks := tk } Q) E { s with heap := h, toks := tk })
    (done : ∀ m₁ b h tk, J vs.length m₁ b → Fr h₀ env.locals h m₁ → News h₀ env.locals h (G b) → Q .next { s with heap := h, toks := tk }) :
    wpAny (model prog w) A (pyIter (.ref l)) (fun it s₂ => LoopAtV prog w A h₀ env x body Q E it s₂) E s := by
  refine list_loopM (fun i m nx => ∃ b, nx = (l, listOf vs.toArray n) :: G b ∧ J i m b) hh F N (.head _) ⟨b₀, rfl, hj⟩ (by rintro i m _ ⟨b, rfl, -⟩; exact .head _) ?_ ?_
  · rintro i v m₁ _ h tk I oI hv ⟨b, rfl, hJ⟩ hoff F' N'
    exact turn i v m₁ b h tk I oI hv hJ hoff F' N'
  · rintro m₁ _ h tk ⟨b, rfl, hJ⟩ F' N'
    exact done m₁ b h tk hJ F' fun p hp => N' p (.tail _ hp)
end
theorem ne_res {prog : Program} {w : World} {A : Around} {E : Value → Shared → Prop} {s : Shared} {a b : Value} {r : Option (Int × Bool)} {Q : Value → Shared → Prop} (ra : Rd s.heap a (resD r)) (rb : Rd s.heap b (resD r)) (hu : A.units + 10 < cLine) (h : Q (.bool false) s) : wpAny (model prog w) A (compareOp .NotEq a b) Q E s :=
  SeqAt.compareNe_reads ra rb (lay_res r) (lay_res r) (by have := depth_res r; omega) (by rw [eqv_res]; exact h)
theorem off_map {I : Addr} {l l' : List (Addr × Obj)} (h : ∀ p ∈ l, p.1 ≠ I) (e : l'.map (·.1) = l.map (·.1)) : ∀ p ∈ l', p.1 ≠ I := fun p hp => by
  have : p.1 ∈ l.map (·.1) := e ▸ List.mem_map_of_mem hp
  obtain ⟨q, hq, e2⟩ := List.mem_map.mp this
  exact e2 ▸ h q hq
theorem RowsAt.keeps {h h' : Heap} {v : Value} {cl : List ((P2 × P2) × Int)} {ll : List (P2 × Int)} (r : RowsAt h v cl ll) (k : ∀ x o, h.get? x = some o → h'.get? x = some o) : RowsAt h' v cl ll := by
  obtain ⟨D, out, ck, lk, e, ⟨o, ho, r1⟩, a, b, c, d, ra⟩ := r
  exact ⟨D, out, ck, lk, e, ⟨o, k _ _ ho, r1⟩, a, b, c, d, ent_keepT (KeepT.of k) ra⟩
end Mine
end

section
open PySem PySem.W PySem.Calls PyProof.Rows PySem.Spec PyProof.Rows.LCg PyProof.Rows.LCt
set_option maxRecDepth 100000
namespace Mine
local macro_rules | `(tactic| k_all) => `(tactic| assumption)
namespace LawZ
noncomputable def P (w : World) (R : Result → Shared → Prop) (s : Shared) (ls : Addr) (vals : List Value) (ns : List Int) : Prop := (Wld w s.heap) → (s.heap.IsList ls vals.toArray) → (IntsAre vals ns) → (ns.length ≤ 63) → (∀ h' tk, (∀ x o, s.heap.get? x = some o → h'.get? x = some o) → R (.ok (.ret (.bool true))) { s with heap := h', toks := tk }) →
    codeAny (model PySem.Challenge.pw_nu0119_01 w) callerA (.call (.ref 158) ⟨[.ref ls], []⟩) R s
noncomputable def PC (c : Zx) : Prop := P c.w c.R c.s c.A0 c.li c.ns
noncomputable def cx : Zx := @Classical.epsilon Zx ⟨zx₀⟩ fun c => ¬ PC c
@[irreducible] noncomputable def w : World := cx.w
@[irreducible] noncomputable def R : Result → Shared → Prop := cx.R
@[irreducible] noncomputable def hZ : Heap := cx.s.heap
@[irreducible] noncomputable def sg : Array GenState := cx.s.gens
@[irreducible] noncomputable def sd : Drawn := cx.s.drawn
@[irreducible] noncomputable def st : Nat := cx.s.toks
@[irreducible] noncomputable def so : OsState := cx.s.os
@[irreducible] noncomputable def ls : Addr := cx.A0
@[irreducible] noncomputable def vals : List Value := cx.li
@[irreducible] noncomputable def ns : List Int := cx.ns
@[irreducible] noncomputable def L : Addr := hZ.objs.size
theorem L_eq : hZ.objs.size = L := by delta L; rfl
theorem lt_L {x : Addr} {o : Obj} (h : hZ.get? x = some o) : x < L := L_eq ▸ Heap.lt_size h
set_option maxHeartbeats 8000000 in
theorem core (W : Wld w hZ) (hLs : hZ.IsList ls vals.toArray) (hI : IntsAre vals ns) (hlen63 : ns.length ≤ 63) (hR : ∀ h' tk, (∀ x o, hZ.get? x = some o → h'.get? x = some o) → R (.ok (.ret (.bool true))) ⟨h', sg, sd, tk, so⟩) :
    codeAny (model PySem.Challenge.pw_nu0119_01 w) callerA (.call (.ref 158) ⟨[.ref ls], []⟩) R ⟨hZ, sg, sd, st, so⟩ := by
  obtain ⟨loose, mean, mg, mb, T⟩ := W.T
  have X' := W.K
  k_dflt (refine' enterZ (h₀ := hZ) (K := Mine.hd.heap_39 w.params) (binds := [("script", .ref ls)]) [] L_eq rfl W.K T.nolimit ?k6 ?k7 ?k8 ?k9 ?kB ?kD ?_ ?c2 ?c3 ?c4; (case k6 => k_is); (case k7 => k_is); (case k8 => decide); (case k9 => exact BindsTo.of_eq rfl); (case kB => exact rfl); (case kD => decide +kernel); (case c2 => exact rfl); (case c3 => exact rfl); (case c4 => exact rfl))
  intro h₁ tk₁ cells F Nc Y hk₁ hab
  obtain ⟨oc, rfl, dcl⟩ := CellsAre.one Y
  try dsimp only at *
  clear hk₁ Y hab
  (all_goals try k_fold)
  k_steps
  rename News _ _ _ _ => Nx
  rename Fr _ _ _ _ => Fx
  refine wpAny_call (pool_spec W Fx.keep (hLs.at fun o e => Fx.keep _ o e) hI (by omega) (by decide) (by decide) ?_)
  intro hq0 tq0 S oS kq0 hoS hS0 hS1
  have hSL : S ≠ L := by
    rintro rfl
    obtain ⟨o, es, ep, ho, -⟩ := Fx.ns
    rw [hS1] at ho; cases ho
  have F0 := frKeep Fx kq0
  have N0 : News hZ L hq0 ((S, oS) :: _) := fun p hp => by
    rcases List.mem_cons.mp hp with rfl | hp
    · refine ⟨hS0, hSL, ?_⟩
      cases e : hZ.get? S with
      | none => rfl
      | some o => have := Fx.keep _ _ e; rw [hS1] at this; cases this
    · exact newsKeep Nx kq0 p hp
  have hlt0 : S ≠ L + 1 := by
    rintro rfl
    have := Nx.get (.head _)
    rw [hS1] at this; cases this
  have hlt0 := neNat hlt0
  clear Fx Nx
  dsimp only
  have K0 := below_caller hZ
  (repeat' (first | (k_unfold; (try dsimp only)) | (k_end; kc_close) | ((fail_if_success (with_reducible show wpAny _ _ (exec (.For ..) _) _ _ _)); first | walk1 | (dsimp only; walk1) | (leave1; walk_say "STEP leave1"; (try dsimp only)))))
  repeat (rename Below _ _ _ _ => kzz; clear kzz)
  k_steps
  rename News _ _ _ _ => Nx
  rename Fr _ _ _ _ => Fx
  rename_i X DX hha l1a l2a gga LLa hhb qq4 qq5 tkz C hhc oC loC hsC fsC hiC fiC l1c hhd D hhe oD loD hsD fsD hiD fiD l1d hhf Fz1 Fz2 Fz3 Fz4 Le hh7 la5 Tp hh8 la6 hh9 hh10 hh11
  refine' take_call Fx Nx W ?U0 hoS ?d0 ?u0 ?t0 ?_
  case U0 => k_updF
  case d0 => decide
  case u0 => decide
  case t0 => exact ⟨by decide, by decide⟩
  rintro hq1 tq1 dr tdr oS1 dr0 dr7 hoS1 F1 N1 -
  clear Fx Nx Fz1 Fz2 Fz3 Fz4 qq4 qq5
  iterate 3 (first | (k_unfold; (try dsimp only)) | walk1 | (dsimp only; walk1) | skip)
  rename IsRange _ _ _ _ _ _ _ _ => hrg
  rename News _ _ _ _ => Nx
  rename Fr _ _ _ _ => Fx
  obtain ⟨tl0, Nc, Bc⟩ := law_begin Fx Nx hoS1 ⟨_, dcl⟩ hiC hiD loC loD ⟨by k_ne, by k_ne, by k_ne⟩
  have hcE : L + 1 ≠ Le := by k_ne
  clear fsC fiC fsD fiD
  clear Nx
  refine range_loop (n := (5 + dr - 0).toNat) (LawJ w hZ L X DX C D Le S) (by exact rfl) hrg (small_one (by omega) (by omega) (by omega) (by omega)) (rangeSize_nat _ _) Fx Nc ⟨_, _, _, _, _, _, _, _, _, _, _, rfl, has_cons rfl (has_cons rfl (has_cons rfl has_nil)), Bc, Nat.le_refl _⟩ ?_ ?_
  · rintro i v m₁ _ h₅ tk₅ I oI hi hoI ⟨oC, oD, oS, oc, u1, u2, un, n, vs, M, tl, rfl, hm, B, hMi⟩ hoff F₅ N₅
    have sh := hm.shape
    simp only [over] at sh
    rw [sh] at F₅
    clear sh Fx Nc Bc
    obtain ⟨cv, hcv⟩ := B.cell
    unfold Cells at N₅ hoff
    change Fr hZ L h₅ _ at F₅
    change News hZ L h₅ _ at N₅
    have nI1 : I ≠ Le := Ne.symm (hoff _ (show (Le, listOf vs n) ∈ _ by k_mem))
    have nI2 : I ≠ S := Ne.symm (hoff _ (show (S, oS) ∈ _ by k_mem))
    have nI3 : I ≠ C := Ne.symm (hoff _ (show (C, oC) ∈ _ by k_mem))
    have nI4 : I ≠ D := Ne.symm (hoff _ (show (D, oD) ∈ _ by k_mem))
    have nI5 : I ≠ L + 1 := Ne.symm (hoff _ (show (L + 1, oc) ∈ _ by k_mem))
    have nI6 : I ≠ X := Ne.symm (hoff _ (show (X, instObj 99 DX) ∈ _ by k_mem))
    have nI7 : I ≠ DX := Ne.symm (hoff _ (show (DX, dictOf [⟨PyData.keyHash w.params "connections", .str "connections" u1, .ref C⟩, ⟨PyData.keyHash w.params "listeners", .str "listeners" u2, .ref D⟩] un) ∈ _ by k_mem))
    have mI2 := neNat nI2
    have mI5 := neNat nI5
    k_steps
    rename News _ _ _ _ => Nx
    rename Fr _ _ _ _ => Fx
    refine deed_law W Fx Nx B (by omega) rfl (fun q => nomatch q) ⟨nI3, nI4, nI1, nI2⟩ ⟨by k_ne, by k_ne, by k_ne, by k_ne⟩ ⟨by k_ne, by k_ne, by k_ne, by k_ne⟩ (by k_ne) (by decide) (by decide) ?_
    intro h₆ tk₆ oC6 oD6 oS6 n6 vs6 M6 tl6 F₆ N₆ B6 hM6
    clear Fx Nx B hm hoff
    unfold Cells at N₆
    have hoffS : ∀ p ∈ tl6, p.1 ≠ S := tup_off (fun p hp => N₆ p (.tail _ (.tail _ (.tail _ (.tail _ (.tail _ (.tail _ (.tail _ (.tail _ hp))))))))) B6.tup (N₆.get (show (S, oS6) ∈ _ by k_mem)) (src_nt B6.src)
    have hoffc : ∀ p ∈ tl6, p.1 ≠ L + 1 := tup_off (fun p hp => N₆ p (.tail _ (.tail _ (.tail _ (.tail _ (.tail _ (.tail _ (.tail _ (.tail _ hp))))))))) B6.tup (N₆.get (show (L + 1, oc) ∈ _ by k_mem)) (fun c => by obtain ⟨-, vs, n, q⟩ := c; rw [hcv] at q; cases q)
    have hoffI : ∀ p ∈ tl6, p.1 ≠ I := tup_off (fun p hp => N₆ p (.tail _ (.tail _ (.tail _ (.tail _ (.tail _ (.tail _ (.tail _ (.tail _ hp))))))))) B6.tup (N₆.get (.head _)) (fun c => absurd c.1 (by rw [hoI]; simp))
    k_steps
    refine' one_draw ?dF1 ?dN1 W ?dU1 B6.src ?dn1 ?dd1 ?du1 ?dl1 ?_
    case dF1 => k_asm
    case dN1 => k_asm
    case dU1 => k_updF
    case dn1 => k_ne
    case dd1 => decide
    case du1 => decide
    case dl1 => exact ⟨by simp, by simp⟩
    rintro hp1 tkp1 vp oS7 hvp hoS7 F₇ N₇ -
    obtain ⟨po, tpo, rfl⟩ : ∃ i t, vp = Value.int i t := by
      simp only [List.mem_cons, List.not_mem_nil, or_false] at hvp
      rcases hvp with rfl | rfl | rfl | rfl <;> exact ⟨_, _, rfl⟩
    clear hvp
    k_steps
    rename News _ _ _ _ => Nx
    rename Fr _ _ _ _ => Fx
    rename Obj.data _ = Data.cell (some _) => dport
    rename_i op
    refine wpAny_call (used_spec W Fx.keep (Nx.fresh (show (X, instObj 99 DX) ∈ _ by k_mem)) (Nx.fresh (show (DX, dictOf [⟨PyData.keyHash w.params "connections", .str "connections" u1, .ref C⟩, ⟨PyData.keyHash w.params "listeners", .str "listeners" u2, .ref D⟩] un) ∈ _ by k_mem)) (B6.tab Fx Nx (fun p hp => .tail _ (.tail _ (.tail _ (.tail _ (.tail _ (.tail _ (.tail _ (.tail _ hp)))))))) (by k_mem) (by k_mem) (by k_mem) (by k_mem)) (by have := lsts_len M6; omega) (by decide) (by decide) ?_)
    intro h₈ tk₈ k₈
    have F₈ := frKeep Fx k₈
    have N₈ := newsKeep Nx k₈
    clear Fx Nx
    rw [used_any]
    have B6k := B6.keepT
    obtain ⟨hs, -, rs, kts⟩ := B6k
    have hvs : vs6.size = M6.length := by have := rdAll_length rs; simpa using this
    k_steps
    rename News _ _ _ _ => Nx
    rename Fr _ _ _ _ => Fx
    refine LCt.CompSrcT.ledger (by exact rfl) Fx Nx (show (Le, listOf vs6 n6) ∈ _ by k_mem) (by rw [sizeLine_eq]; omega) ?_
    intro g1
    refine compT_ind (all := vs6.toList) (Rel := fun v e => Rd hs v (entD e)) (fun e : Ent => decide (e.1.2 = po)) (fun i v q => by rw [Array.getElem?_toList]; exact q) (.inr ⟨_, (show (Le, listOf vs6 n6) ∈ _ by k_mem), rfl, _, rfl⟩) (fun _ => rfl) (fun _ => rfl) (by decide) ?_ (vals := vs6.toList) (M' := M6) 0 [] (zip_of_rdAll rs) rfl ?_
    · rintro v ⟨lo', rem', ow'⟩ I' oI' Cc oC2 Dl m₂ hp₂ tk₂ E' ys hv hNs hmx F₂ N₂ off2 ne2
      have hv2 := rdEnt_keep (kts F₂ N₂ (fun p hp => .tail _ (.tail _ (.tail _ (.tail _ (.tail _ (.tail _ (.tail _ (.tail _ (.tail _ (.tail _ (.tail _ hp)))))))))))) hv
      obtain ⟨_, w1, w2, to', q, hT', r1', r2'⟩ := ent_inv hv2
      cases q
      dsimp only at hT' r1'
      obtain ⟨_, ta, tb, q, hTl⟩ := pt_inv r1'
      cases q
      iterate 20 (first | (k_unfold; (try dsimp only)) | (k_end; wrow_close) | walk1 | (dsimp only; walk1) | skip)
      all_goals first | exact F₂ | exact N₂
    · intro zs hz
      rw [List.nil_append]
      iterate 4 (first | (k_unfold; (try dsimp only)) | (k_end; wrow_close) | walk1 | (dsimp only; walk1) | skip)
      refine ne_nil (ys := zs) ⟨_, News.get (by assumption) (.tail _ (.head _)), rfl, _, rfl⟩ ⟨_, News.get (by assumption) (.head _), rfl, _, rfl⟩ (by simp only [units_deeper, cLine]; decide) ?_
      rw [zip_any hz]
      generalize (M6.any fun e => decide (e.1.2 = po)) = bb
      cases bb with
      | true =>
        iterate 8 (first | (k_unfold; (try dsimp only)) | walk1 | (dsimp only; walk1) | skip)
        rename News _ _ _ _ => Nz
        rename Fr _ _ _ _ => Fz
        refine ⟨_, _, _, Cells X DX C D Le S (L + 1) w oC6 oD6 oS7 op u1 u2 un n6 vs6 tl6, rfl, Fz, newsSub Nz (fun p hp => ?_), ?_, oC6, oD6, oS7, op, u1, u2, un, n6, vs6, M6, tl6, rfl, has_cons rfl (has_cons rfl (has_cons rfl has_nil)), ⟨hoS7, ⟨_, dport⟩, B6.tup, B6.snap⟩, by omega⟩
        · exact .tail _ (.tail _ hp)
        · unfold Cells
          exact all_cons (Ne.symm nI1) (all_cons (Ne.symm nI2) (all_cons (Ne.symm nI6) (all_cons (Ne.symm nI7) (all_cons (Ne.symm nI3) (all_cons (Ne.symm nI4) (all_cons (Ne.symm nI5) hoffI))))))
      | false =>
        iterate 8 (first | (k_unfold; (try dsimp only)) | walk1 | (dsimp only; walk1) | skip)
        rename News _ _ _ _ => Nz
        rename Fr _ _ _ _ => Fz
        refine ⟨_, _, _, Cells X DX C D Le S (L + 1) w oC6 oD6 oS7 op u1 u2 un n6 vs6 tl6, rfl, Fz, newsSub Nz (fun p hp => ?_), ?_, oC6, oD6, oS7, op, u1, u2, un, n6, vs6, M6, tl6, rfl, has_cons rfl (has_cons rfl (has_cons rfl has_nil)), ⟨hoS7, ⟨_, dport⟩, B6.tup, B6.snap⟩, by omega⟩
        · exact .tail _ (.tail _ hp)
        · unfold Cells
          exact all_cons (Ne.symm nI1) (all_cons (Ne.symm nI2) (all_cons (Ne.symm nI6) (all_cons (Ne.symm nI7) (all_cons (Ne.symm nI3) (all_cons (Ne.symm nI4) (all_cons (Ne.symm nI5) hoffI))))))
  · rintro m₁ _ h₅ tk₅ ⟨oC, oD, oS, oc, u1, u2, un, n, vs, M, tl, rfl, hm, B, hMi⟩ F₅ N₅
    have sh := hm.shape
    simp only [over] at sh
    rw [sh] at F₅
    clear sh hrg Fx
    obtain ⟨cv, hcv⟩ := B.cell
    unfold Cells at N₅
    change Fr hZ L h₅ _ at F₅
    change News hZ L h₅ _ at N₅
    have hoffS : ∀ p ∈ tl, p.1 ≠ S := tup_off (fun p hp => N₅ p (.tail _ (.tail _ (.tail _ (.tail _ (.tail _ (.tail _ (.tail _ hp)))))))) B.tup (N₅.get (show (S, oS) ∈ _ by k_mem)) (src_nt B.src)
    have hoffc : ∀ p ∈ tl, p.1 ≠ L + 1 := tup_off (fun p hp => N₅ p (.tail _ (.tail _ (.tail _ (.tail _ (.tail _ (.tail _ (.tail _ hp)))))))) B.tup (N₅.get (show (L + 1, oc) ∈ _ by k_mem)) (fun c => by obtain ⟨-, vs, n, q⟩ := c; rw [hcv] at q; cases q)
    dsimp only
    k_steps
    refine' one_draw ?eF1 ?eN1 W ?eU1 B.src ?en1 ?ed1 ?eu1 ?el1 ?_
    case eF1 => k_asm
    case eN1 => k_asm
    case eU1 => k_updF
    case en1 => k_ne
    case ed1 => decide
    case eu1 => decide
    case el1 => exact ⟨by simp, by simp⟩
    rintro hpe1 tke1 ve1 oSe1 hve1 hoSe1 Fe1 Ne1 -
    obtain ⟨ie1, te1, rfl⟩ : ∃ i t, ve1 = Value.int i t := by
      simp only [List.mem_cons, List.not_mem_nil, or_false] at hve1
      rcases hve1 with rfl | rfl <;> exact ⟨_, _, rfl⟩
    clear hve1
    k_steps
    refine' one_draw ?eF2 ?eN2 W ?eU2 hoSe1 ?en2 ?ed2 ?eu2 ?el2 ?_
    case eF2 => k_asm
    case eN2 => k_asm
    case eU2 => k_updF
    case en2 => k_ne
    case ed2 => decide
    case eu2 => decide
    case el2 => exact ⟨by simp, by simp⟩
    rintro hpe2 tke2 ve2 oSe2 hve2 hoSe2 Fe2 Ne2 -
    obtain ⟨ie2, te2, rfl⟩ : ∃ i t, ve2 = Value.int i t := by
      simp only [List.mem_cons, List.not_mem_nil, or_false] at hve2
      rcases hve2 with rfl | rfl <;> exact ⟨_, _, rfl⟩
    clear hve2
    k_steps
    rename News _ _ _ _ => Nx
    rename Fr _ _ _ _ => Fx
    rename_i Ot hO lO hO2 T hT lT
    have Nx2 : News hZ L hT ((T, _) :: (Ot, { cls := .type "tuple", data := .seq #[.int ie1 te1, .int ie2 te2] }) :: Cells X DX C D Le S (L + 1) w oC oD oSe2 oc u1 u2 un n vs tl) := Nx
    refine' list_loopHV (β := Obj) (b₀ := oc) (G := fun oc => (Ot, { cls := .type "tuple", data := .seq #[.int ie1 te1, .int ie2 te2] }) :: Cells X DX C D Le S (L + 1) w oC oD oSe2 oc u1 u2 un n vs tl) (n := 0) (vs := [_, _]) (fun i m oc => Has m [("source", .ref S), ("table", .ref X), ("entries", .ref Le), ("other", .ref Ot)] ∧ ∃ cv, oc.data = .cell cv) ?hh1 ?fF1 ?fN1 ?hj1 ?turn1 ?done1
    case fF1 => exact Fx
    case fN1 => exact Nx2
    case hh1 => exact rfl
    case hj1 => exact ⟨has_cons rfl (has_cons rfl (has_cons rfl (has_cons rfl has_nil))), _, hcv⟩
    case turn1 =>
      rintro i1 v1 m1 oc1 h1 tk1 I1 oI1 hv1 ⟨hm1, cv1, hcv1⟩ hoff1 F1 N1
      obtain ⟨tv, tt, rfl⟩ : ∃ i t, v1 = Value.int i t := by
        have := List.mem_of_getElem? hv1
        simp only [List.mem_cons, List.not_mem_nil, or_false] at this
        rcases this with rfl | rfl <;> exact ⟨_, _, rfl⟩
      have sh := hm1.shape
      simp only [over] at sh
      rw [sh] at F1
      clear sh hv1 Fx Nx
      unfold Cells at N1 hoff1
      change Fr hZ L h1 _ at F1
      change News hZ L h1 _ at N1
      have nK1 : I1 ≠ L + 1 := Ne.symm (hoff1 (L + 1, oc1) (by k_mem))
      have nK1 := neNat nK1
      k_steps
      refine wpAny_For ?_
      (repeat' (first | (k_unfold; (try dsimp only)) | (k_end; kc_close) | ((fail_if_success (with_reducible show wpAny _ _ (pyIter (.ref _)) _ _ _)); first | walk1 | (dsimp only; walk1) | (leave1; walk_say "STEP leave1"; (try dsimp only)))))
      rename News _ _ _ _ => Ny
      rename Fr _ _ _ _ => Fy
      rename_i T2 hT2 lT2
      have Ny2 : News hZ L hT2 ((T2, _) :: (I1, oI1) :: (T, _) :: (Ot, { cls := .type "tuple", data := .seq #[.int ie1 te1, .int ie2 te2] }) :: Cells X DX C D Le S (L + 1) w oC oD oSe2 oc1 u1 u2 un n vs tl) := Ny
      refine' list_loopH (β := Obj) (b₀ := oc1) (G := fun oc => (I1, oI1) :: (T, _) :: (Ot, { cls := .type "tuple", data := .seq #[.int ie1 te1, .int ie2 te2] }) :: Cells X DX C D Le S (L + 1) w oC oD oSe2 oc u1 u2 un n vs tl) (n := 0) (vs := [_, _]) (fun i m oc => Has m [("source", .ref S), ("table", .ref X), ("entries", .ref Le), ("other", .ref Ot), ("target", .int tv tt)] ∧ ∃ cv, oc.data = .cell cv) ?hh2 ?fF2 ?fN2 ?hj2 ?turn2 ?done2
      case hh2 => exact rfl
      case fF2 => exact Fy
      case fN2 => exact Ny2
      case hj2 => exact ⟨has_cons rfl (has_cons rfl (has_cons rfl (has_cons rfl (has_cons rfl has_nil)))), _, hcv1⟩
      case turn2 =>
        rintro i2 v2 m2 oc2 h2 tk2 I2 oI2 hv2 ⟨hm2, cv2, hcv2⟩ hoff2 F2 N2
        obtain ⟨pv, pt, rfl⟩ : ∃ i t, v2 = Value.int i t := by
          have := List.mem_of_getElem? hv2
          simp only [List.mem_cons, List.not_mem_nil, or_false] at this
          rcases this with rfl | rfl <;> exact ⟨_, _, rfl⟩
        have sh := hm2.shape
        simp only [over] at sh
        rw [sh] at F2
        clear sh hv2 Fy Ny Ny2
        unfold Cells at N2
        have nK2 : I2 ≠ L + 1 := Ne.symm (hoff2 (L + 1, oc2) (by unfold Cells; k_mem))
        have nK2 := neNat nK2
        k_steps
        rename News _ _ _ _ => Nz
        rename Fr _ _ _ _ => Fz
        rename Obj.data _ = Data.cell (some _) => dpo
        rename_i oP
        have hez := B.rd Fz Nz (fun p hp => .tail _ (.tail _ (.tail _ (.tail _ (.tail _ (.tail _ (.tail _ (.tail _ (.tail _ (.tail _ (.tail _ (.tail _ hp))))))))))))
        refine wpAny_call (find_spec W Fz.keep (Nz.fresh (show (X, instObj 99 DX) ∈ _ by k_mem)) (Nz.fresh (show (DX, dictOf [⟨PyData.keyHash w.params "connections", .str "connections" u1, .ref C⟩, ⟨PyData.keyHash w.params "listeners", .str "listeners" u2, .ref D⟩] un) ∈ _ by k_mem)) (B.tab Fz Nz (fun p hp => .tail _ (.tail _ (.tail _ (.tail _ (.tail _ (.tail _ (.tail _ (.tail _ (.tail _ (.tail _ (.tail _ (.tail _ hp)))))))))))) (by k_mem) (by k_mem) (by k_mem) (by k_mem)) (by decide) (by decide) ?_)
        intro h3 tk3 vf kf rf
        have F3 := frKeep Fz kf
        have N3 := newsKeep Nz kf
        have he3 := ent_keepT (KeepT.of kf) hez
        clear Fz Nz hez
        k_steps
        refine found_call (M := M) F3 N3 W ⟨_, N3.get (show (Le, listOf vs n) ∈ _ by k_mem), rfl, _, rfl⟩ he3 (by decide) (by decide) ?_
        rintro h4 tk4 vg nw F4 N4 k4 b4
        rw [found_find] at b4
        have rg := b4.rd (h := h4) (fun p hp => (N4 p (List.mem_append_left _ hp)).1)
        have rf4 : Rd h4 vf _ := Reads.keeps k4 rf
        have N5 : News hZ L h4 ((I2, oI2) :: (T2, _) :: (I1, oI1) :: (T, _) :: (Ot, { cls := .type "tuple", data := .seq #[.int ie1 te1, .int ie2 te2] }) :: Cells X DX C D Le S (L + 1) w oC oD oSe2 oP u1 u2 un n vs tl) := fun p hp => N4 p (List.mem_append_right _ hp)
        clear N4 F3 N3 he3
        iterate 3 (first | (k_unfold; (try dsimp only)) | walk1 | (dsimp only; walk1) | skip)
        refine ne_res rf4 rg (by simp only [units_deeper, cLine]; decide) ?_
        iterate 8 (first | (k_unfold; (try dsimp only)) | walk1 | (dsimp only; walk1) | skip)
        refine ⟨_, _, _, _, rfl, F4, N5, off_map hoff2 rfl, oP, rfl, has_cons rfl (has_cons rfl (has_cons rfl (has_cons rfl (has_cons rfl has_nil)))), _, dpo⟩
      case done2 =>
        rintro m2 oc2 h2 tk2 ⟨hm2, cv2, hcv2⟩ F2 N2
        dsimp only
        iterate 3 (first | (k_unfold; (try dsimp only)) | walk1 | (dsimp only; walk1) | skip)
        exact ⟨_, _, _, _, rfl, F2, N2, off_map hoff1 rfl, oc2, rfl, fun p hp => hm2 p (List.mem_append_left [_] hp), _, hcv2⟩
    case done1 =>
      rintro m1 oc1 h1 tk1 ⟨hm1, cv1, hcv1⟩ F1 N1
      have sh := hm1.shape
      simp only [over] at sh
      rw [sh] at F1
      clear sh Fx Nx Nx2
      unfold Cells at N1
      change Fr hZ L h1 _ at F1
      change News hZ L h1 _ at N1
      dsimp only
      k_steps
      rename News _ _ _ _ => Nz
      rename Fr _ _ _ _ => Fz
      have hez := B.rd Fz Nz (fun p hp => .tail _ (.tail _ (.tail _ (.tail _ (.tail _ (.tail _ (.tail _ (.tail _ hp))))))))
      have tbz := B.tab Fz Nz (fun p hp => .tail _ (.tail _ (.tail _ (.tail _ (.tail _ (.tail _ (.tail _ (.tail _ hp)))))))) (by k_mem) (by k_mem) (by k_mem) (by k_mem)
      have nC := con_nodup tbz.con
      have nL := lst_nodup tbz.lst
      refine wpAny_call (rows_spec W Fz.keep (Nz.fresh (show (X, instObj 99 DX) ∈ _ by k_mem)) (Nz.fresh (show (DX, dictOf [⟨PyData.keyHash w.params "connections", .str "connections" u1, .ref C⟩, ⟨PyData.keyHash w.params "listeners", .str "listeners" u2, .ref D⟩] un) ∈ _ by k_mem)) tbz (by have := conns_len M; omega) (by have := lsts_len M; omega) (by decide) (by decide) ?_)
      intro h3 tk3 vr kr rr
      have F3 := frKeep Fz kr
      have N3 := newsKeep Nz kr
      have he3 := ent_keepT (KeepT.of kr) hez
      clear Fz Nz hez tbz
      k_steps
      refine wpAny_call (ordered_spec (n := n) W F3.keep ⟨_, N3.get (show (Le, listOf vs n) ∈ _ by k_mem), rfl, _, rfl⟩ he3 (by omega) (by decide) (by decide) ?_)
      intro h4 tk4 vo ko ro
      have rr4 := rr.keeps ko
      have F4 := frKeep F3 ko
      have N4 := newsKeep N3 ko
      clear F3 N3 he3 rr
      iterate 3 (first | (k_unfold; (try dsimp only)) | walk1 | (dsimp only; walk1) | skip)
      refine rows_eq nC nL rr4 ro (by simp only [units_deeper, cLine]; decide) ?_
      iterate 3 (first | (k_unfold; (try dsimp only)) | walk1 | (dsimp only; walk1) | skip)
      try dsimp only
      exact hR _ _ F4.keep
theorem fin : PC cx := by with_unfolding_all exact core
end LawZ
theorem law_spec {w : World} {R : Result → Shared → Prop} {s : Shared} {ls : Addr} {vals : List Value} {ns : List Int}
    (W : Wld w s.heap) (hLs : s.heap.IsList ls vals.toArray) (hI : IntsAre vals ns) (hlen63 : ns.length ≤ 63)
    (hR : ∀ h' tk, (∀ x o, s.heap.get? x = some o → h'.get? x = some o) → R (.ok (.ret (.bool true))) { s with heap := h', toks := tk }) :
    codeAny (model PySem.Challenge.pw_nu0119_01 w) callerA (.call (.ref 158) ⟨[.ref ls], []⟩) R s :=
  zxAll (P := LawZ.PC) LawZ.fin { zx₀ with w := w, R := R, s := s, A0 := ls, li := vals, ns := ns } W hLs hI hlen63 hR
set_option maxHeartbeats 8000000 in
theorem law_holds : PySem.Challenge.rw_nu0119_01.Holds := hd (by
  k_fill
  intro w s₀ s₁ mg mb G Y fa o pm cd doc dV kV ho hd hcd hD hmg hg args vals as hpre hlay hrd hwl hlo
  have KX := kIn_of Y
  have X := (Ground.X G).1
  have V := (Ground.X G).2
  refine Ground.open G ?_
  intro T B D TE TW
  have e158 := mg_of KX T.g (n := "law") (v := .ref 158) (by k_is)
  rw [hmg] at e158
  cases e158
  wrow_args hpre hlay hrd hwl hlo
  all_goals (
    first | refine callC_kw (enter_call ?_) | refine enter_call ?_
    w_top on
    try refine codeAny_mono ?_ (fun _ _ g => GoodW.toG g))
  rename IntsAre _ _ => hI
  rename Heap.IsList _ _ _ => hLs
  rename ¬ _ < _ => hlen63
  refine law_spec ⟨KX, _, _, _, _, T⟩ hLs hI (by omega) ?_
  intro h' tk hk
  refine ⟨.inl ⟨_, _, [], rfl, raisesW_false ?ra, .bool true, ?po, fun _ => ⟨.nil, nofun⟩⟩, hk, rfl, hg⟩
  case ra => wrow_none_raised
  case po => wrow_post)
end Mine
end

set_option maxRecDepth 100000 in
set_option maxHeartbeats 8000000 in
theorem PySem.Challenge.cw_nu0119_01_holds : PySem.Challenge.rw_nu0119_01.Holds := by
  exact Mine.law_holds
