import PyProof.Rows.All
import Wide.All
import OpenK.AllK
import Wide.FinOn
import PySem.Challenge.RW_pf0072_01
open PySem PySem.W PyProof.Rows
set_option Elab.async false
set_option maxRecDepth 100000
set_option linter.unusedVariables false
set_option linter.unusedSectionVars false
set_option linter.unusedSimpArgs false
set_option genSizeOf false
set_option genInjectivity false
set_option maxHeartbeats 8000000
namespace Mine
noncomputable def vw : Program := view PySem.Challenge.pw_pf0072_01 [29]
def los : List PySem.Str := ["_wall", "count_in_clock", "joined_clocks", "ticked_clock", "is_clock_before", "are_clocks_apart", "READ", "WRITE", "is_path_ahead", "do_places_meet", "Line", "Place", "Watch", "_law_pool", "_law_take", "_law_one", "_law_told", "_law_learn", "_law_spans", "_law_meets", "_law_access", "_law_deed", "_law_gates_right", "_law_clocks_right", "_law_begun", "_law_fixed_right"]
/-- what is looked for in the state that the text's top leaves -/
noncomputable def seenX (s : Shared) : Bool := xlAt vw [] s && recOk (RowW.records PySem.Challenge.rw_pf0072_01.row.toRowW) s
theorem seenX_xl (s : Shared) (h : seenX s = true) : XL vw [] (s.heap.nsMap mainGlobals) s.heap := xl_of s (Bool.and_eq_true_iff.mp h).left
theorem seenX_rec (s : Shared) (h : seenX s = true) : RecFacts (RowW.records PySem.Challenge.rw_pf0072_01.row.toRowW) s.heap := recFacts_of (Bool.and_eq_true_iff.mp h).right
/-- the state in which the text's own statements begin -/
noncomputable def begun (w : World) (os : OsState) : Shared := ⟨boot_heap w.params, #[], boot_drawn, boot_toks, os⟩
theorem open_it : ∀ w : World, (fencedOpening treeTable PySem.Challenge.pw_pf0072_01 w 2200).map (fun s => (s.heap, s.gens, s.drawn, s.toks)) = some (boot_heap w.params, Array.mk [], boot_drawn, boot_toks) :=
  boot_open (by kernel_rfl) (by decide) fun s => by kernel_rfl
theorem left_of {p q : Program} {loose : List PySem.Str} {Xt : Shared → Bool} {α : Type} {Yf : Shared → α} {Ya : World → α} {N : Nat}
    (opens : ∀ w : World, (fencedOpening treeTable p w N).map (fun s => (s.heap, s.gens, s.drawn, s.toks)) = some (boot_heap w.params, Array.mk [], boot_drawn, boot_toks))
    (runs : ∀ w os, (topFrom treeTable p w N (begun w os)).map (fun s => (openSeen q loose (importedModules p.main.body) Xt true s, Yf s)) = some (openGood q loose, Ya w)) : LeftO p q loose Xt Yf Ya N true := by
  intro w
  have top := opens w
  cases h : fencedOpening treeTable p w N with
  | none => rw [h] at top; cases top
  | some s =>
    rw [h] at top
    have e : s = begun w s.os := by
      obtain ⟨s1, s2, s3, s4, s5⟩ := s
      have pairs := Option.some.inj top
      have a := congrArg Prod.fst pairs
      have b := congrArg (fun z => z.2.1) pairs
      have c := congrArg (fun z => z.2.2) pairs
      subst a b
      exact congrArg (fun z : Drawn × Nat => (⟨_, _, z.1, z.2, s5⟩ : Shared)) c
    rw [openEnds, h, e]
    exact runs w s.os
theorem lk0 : sreFenced PySem.Challenge.pw_pf0072_01.main = true := by rewrite [PySem.W.Fast.te11788848310118352699]; kernel_rfl
theorem lk1 : ((moduleNames PySem.Challenge.pw_pf0072_01.main.body).isEmpty || lookedIntoSs (moduleNames PySem.Challenge.pw_pf0072_01.main.body) PySem.Challenge.pw_pf0072_01.main.body) = true := by rewrite [PySem.W.Fast.te9807087744658564304, PySem.W.Fast.te12862048085361865435]; kernel_rfl
theorem lk2 : namesResolve PySem.Challenge.pw_pf0072_01 = true := by rewrite [PySem.W.Fast.te8377067652309620493]; kernel_rfl
theorem lk3 : (PySem.Challenge.pw_pf0072_01.boundNames.all fun n => !worldNames.contains n) = true := by rewrite [PySem.W.Fast.te18344453789297297638, PySem.W.Fast.te14412699480532031325]; kernel_rfl
theorem lk4 : noRoadLSs { strict := !(importedModules PySem.Challenge.pw_pf0072_01.main.body).all cThrough.contains, foot := none, bare := (["vars", "dir", "locals"] : List Str).filter (readsOut PySem.Challenge.pw_pf0072_01 PySem.Challenge.pw_pf0072_01.main.body) } PySem.Challenge.pw_pf0072_01.main.body = true := by rewrite [PySem.W.Fast.te8326940854005059898, PySem.W.Fast.te5923862056798008813, PySem.W.Fast.te17691160309236699985, PySem.W.Fast.te13343964577679436407]; kernel_rfl
theorem lk5 : (namesMeet PySem.Challenge.pw_pf0072_01 PySem.Challenge.pw_pf0072_01.main.body fun _ n => attrL n) = true := by rewrite [PySem.W.Fast.te17119622794617984870, PySem.W.Fast.te17868728402115742887]; kernel_rfl
theorem lw0 : PySem.Challenge.rw_pf0072_01.row.prog.boundNames.contains PySem.Challenge.rw_pf0072_01.row.name = true := by rewrite [PySem.W.Fast.te18344453789297297638]; kernel_rfl
theorem lw1 : PySem.Challenge.rw_pf0072_01.footing.all footLine = true := by rewrite [PySem.W.Fast.te10501279942588096481]; kernel_rfl
theorem lw2 : noClassBlock PySem.Challenge.rw_pf0072_01.prog PySem.Challenge.rw_pf0072_01.footing = true := by rewrite [PySem.W.Fast.te8179353310426384613]; kernel_rfl
theorem lw3 : noRoadLSs { strict := true, foot := some PySem.Challenge.rw_pf0072_01.bound', writes := PySem.Challenge.rw_pf0072_01.writes, may := PySem.Challenge.rw_pf0072_01.may } PySem.Challenge.rw_pf0072_01.footing = true := by rewrite [PySem.W.Fast.te8326940854005059898, PySem.W.Fast.te797321630700447069]; kernel_rfl
theorem lw4 : PySem.Challenge.rw_pf0072_01.namesIt = true := by rewrite [PySem.W.Fast.te16286561074155671207]; kernel_rfl
theorem lw5 : (PySem.Challenge.rw_pf0072_01.bound'.all fun n => !builtinNamed n || PySem.Challenge.rw_pf0072_01.about == [n] || !PySem.Challenge.rw_pf0072_01.reads n) = true := by rewrite [PySem.W.Fast.te6984425678791042302, PySem.W.Fast.te797321630700447069]; kernel_rfl
theorem lw6 : (namesMeet PySem.Challenge.rw_pf0072_01.prog PySem.Challenge.rw_pf0072_01.footing (fun sc n => (!(["type", "isinstance", "issubclass", "getattr", "hasattr"] : List Str).contains n || sc.names.lookup n == some .globalImplicit) && (PySem.Challenge.rw_pf0072_01.may != some n || sc.kind == .module || sc.names.lookup n == some .globalImplicit))) = true := by rewrite [PySem.W.Fast.te17119622794617984870]; kernel_rfl
theorem lw7 : (PySem.Challenge.rw_pf0072_01.own.all (fun n => !builtinNamed n)) = true := by rewrite [PySem.W.Fast.te10792542408131684335]; kernel_rfl
theorem lw8 : (namesMeet PySem.Challenge.rw_pf0072_01.prog PySem.Challenge.rw_pf0072_01.above (fun _ n => !PySem.Challenge.rw_pf0072_01.own.contains n)) = true := by rewrite [PySem.W.Fast.te17119622794617984870, PySem.W.Fast.te10792542408131684335]; kernel_rfl
theorem lw9 : (namesMeet PySem.Challenge.rw_pf0072_01.prog PySem.Challenge.rw_pf0072_01.footing fun sc n => sc.kind == .module || sc.names.lookup n != some .globalExplicit) = true := by rewrite [PySem.W.Fast.te17119622794617984870]; kernel_rfl
theorem ok_looks : looksOpen PySem.Challenge.pw_pf0072_01 = true := by
  unfold looksOpen
  repeat' with_reducible refine look_both ?_ ?_
  · with_reducible exact lk0
  · with_reducible exact lk1
  · with_reducible exact lk2
  · with_reducible exact lk3
  · with_reducible exact lk4
  · with_reducible exact lk5
theorem ok_part : OpenRow.partSaid PySem.Challenge.rw_pf0072_01.row = true := by
  unfold OpenRow.partSaid
  repeat' with_reducible refine look_both ?_ ?_
  · exact ok_looks
  all_goals kernel_rfl
theorem ok_law : PySem.Challenge.rw_pf0072_01.wellSaid = true := by
  unfold OpenLaw.wellSaid OpenRow.wellSaid
  repeat' with_reducible refine look_both ?_ ?_
  · with_reducible exact ok_part
  · with_reducible exact lw0
  · kernel_rfl
  · kernel_rfl
  · with_reducible exact lw1
  · with_reducible exact lw2
  · kernel_rfl
  · kernel_rfl
  · with_reducible exact lw3
  · kernel_rfl
  · with_reducible exact lw4
  · kernel_rfl
  · with_reducible exact lw5
  · kernel_rfl
  · kernel_rfl
  · with_reducible exact lw6
  · kernel_rfl
  · kernel_rfl
  · with_reducible exact lw7
  · with_reducible exact lw8
  · with_reducible exact lw9
local macro_rules | `(tactic| o_law) => `(tactic| refine holds_law Mine.ok_law fun said => ?_)
local macro_rules | `(tactic| o_head $H) => `(tactic| (
  refine holds_open (Mine.left_of (q := Mine.vw) (loose := Mine.los) (Xt := Mine.seenX) (Yf := Hook.obs $H) (Ya := Hook.val $H) Mine.open_it ?top) (Hook.of $H) (Hook.keeps $H) Mine.seenX_xl XL.keeps (by rfl) (by rfl) (by rfl) Mine.seenX_rec (by kernel_rfl) (by assumption) (by decide +kernel) ⟨rfl, rfl, rfl, rfl, rfl, by decide +kernel⟩ ?hw ?hc
  case top =>
    intro w os
    unfold PySem.W.topFrom
    rw [PySem.W.Fast.te14082659384304107361, PySem.W.Fast.te14364793385576792824, PySem.W.Fast.te4187177175401517315, PySem.W.Fast.te5923862056798008813]
    kernel_rfl))
open_top hd for PySem.Challenge.rw_pf0072_01
end Mine

open PySem.Calls PySem.SeqAt
namespace Mine
inductive Ex2 {t1 : Type} {t2 : Type} (p : t1 → t2 → Prop) : Prop
  | mk (a1 : t1) (a2 : t2) (h : p a1 a2) : Ex2 p
inductive Ex3 {t1 : Type} {t2 : Type} {t3 : Type} (p : t1 → t2 → t3 → Prop) : Prop
  | mk (a1 : t1) (a2 : t2) (a3 : t3) (h : p a1 a2 a3) : Ex3 p
inductive Ex4 {t1 : Type} {t2 : Type} {t3 : Type} {t4 : Type} (p : t1 → t2 → t3 → t4 → Prop) : Prop
  | mk (a1 : t1) (a2 : t2) (a3 : t3) (a4 : t4) (h : p a1 a2 a3 a4) : Ex4 p
inductive Ex5 {t1 : Type} {t2 : Type} {t3 : Type} {t4 : Type} {t5 : Type} (p : t1 → t2 → t3 → t4 → t5 → Prop) : Prop
  | mk (a1 : t1) (a2 : t2) (a3 : t3) (a4 : t4) (a5 : t5) (h : p a1 a2 a3 a4 a5) : Ex5 p
inductive Ex6 {t1 : Type} {t2 : Type} {t3 : Type} {t4 : Type} {t5 : Type} {t6 : Type} (p : t1 → t2 → t3 → t4 → t5 → t6 → Prop) : Prop
  | mk (a1 : t1) (a2 : t2) (a3 : t3) (a4 : t4) (a5 : t5) (a6 : t6) (h : p a1 a2 a3 a4 a5 a6) : Ex6 p
inductive Ex7 {t1 : Type} {t2 : Type} {t3 : Type} {t4 : Type} {t5 : Type} {t6 : Type} {t7 : Type} (p : t1 → t2 → t3 → t4 → t5 → t6 → t7 → Prop) : Prop
  | mk (a1 : t1) (a2 : t2) (a3 : t3) (a4 : t4) (a5 : t5) (a6 : t6) (a7 : t7) (h : p a1 a2 a3 a4 a5 a6 a7) : Ex7 p
inductive Ex8 {t1 : Type} {t2 : Type} {t3 : Type} {t4 : Type} {t5 : Type} {t6 : Type} {t7 : Type} {t8 : Type} (p : t1 → t2 → t3 → t4 → t5 → t6 → t7 → t8 → Prop) : Prop
  | mk (a1 : t1) (a2 : t2) (a3 : t3) (a4 : t4) (a5 : t5) (a6 : t6) (a7 : t7) (a8 : t8) (h : p a1 a2 a3 a4 a5 a6 a7 a8) : Ex8 p
inductive Ex9 {t1 : Type} {t2 : Type} {t3 : Type} {t4 : Type} {t5 : Type} {t6 : Type} {t7 : Type} {t8 : Type} {t9 : Type} (p : t1 → t2 → t3 → t4 → t5 → t6 → t7 → t8 → t9 → Prop) : Prop
  | mk (a1 : t1) (a2 : t2) (a3 : t3) (a4 : t4) (a5 : t5) (a6 : t6) (a7 : t7) (a8 : t8) (a9 : t9) (h : p a1 a2 a3 a4 a5 a6 a7 a8 a9) : Ex9 p
inductive Ex12 {t1 : Type} {t2 : Type} {t3 : Type} {t4 : Type} {t5 : Type} {t6 : Type} {t7 : Type} {t8 : Type} {t9 : Type} {t10 : Type} {t11 : Type} {t12 : Type} (p : t1 → t2 → t3 → t4 → t5 → t6 → t7 → t8 → t9 → t10 → t11 → t12 → Prop) : Prop
  | mk (a1 : t1) (a2 : t2) (a3 : t3) (a4 : t4) (a5 : t5) (a6 : t6) (a7 : t7) (a8 : t8) (a9 : t9) (a10 : t10) (a11 : t11) (a12 : t12) (h : p a1 a2 a3 a4 a5 a6 a7 a8 a9 a10 a11 a12) : Ex12 p
inductive Ex16 {t1 : Type} {t2 : Type} {t3 : Type} {t4 : Type} {t5 : Type} {t6 : Type} {t7 : Type} {t8 : Type} {t9 : Type} {t10 : Type} {t11 : Type} {t12 : Type} {t13 : Type} {t14 : Type} {t15 : Type} {t16 : Type} (p : t1 → t2 → t3 → t4 → t5 → t6 → t7 → t8 → t9 → t10 → t11 → t12 → t13 → t14 → t15 → t16 → Prop) : Prop
  | mk (a1 : t1) (a2 : t2) (a3 : t3) (a4 : t4) (a5 : t5) (a6 : t6) (a7 : t7) (a8 : t8) (a9 : t9) (a10 : t10) (a11 : t11) (a12 : t12) (a13 : t13) (a14 : t14) (a15 : t15) (a16 : t16) (h : p a1 a2 a3 a4 a5 a6 a7 a8 a9 a10 a11 a12 a13 a14 a15 a16) : Ex16 p
structure An4 (p1 p2 p3 p4 : Prop) : Prop where
  h1 : p1
  h2 : p2
  h3 : p3
  h4 : p4
structure An5 (p1 p2 p3 p4 p5 : Prop) : Prop where
  h1 : p1
  h2 : p2
  h3 : p3
  h4 : p4
  h5 : p5
structure An6 (p1 p2 p3 p4 p5 p6 : Prop) : Prop where
  h1 : p1
  h2 : p2
  h3 : p3
  h4 : p4
  h5 : p5
  h6 : p6
structure An7 (p1 p2 p3 p4 p5 p6 p7 : Prop) : Prop where
  h1 : p1
  h2 : p2
  h3 : p3
  h4 : p4
  h5 : p5
  h6 : p6
  h7 : p7
structure An8 (p1 p2 p3 p4 p5 p6 p7 p8 : Prop) : Prop where
  h1 : p1
  h2 : p2
  h3 : p3
  h4 : p4
  h5 : p5
  h6 : p6
  h7 : p7
  h8 : p8
structure An9 (p1 p2 p3 p4 p5 p6 p7 p8 p9 : Prop) : Prop where
  h1 : p1
  h2 : p2
  h3 : p3
  h4 : p4
  h5 : p5
  h6 : p6
  h7 : p7
  h8 : p8
  h9 : p9
structure An10 (p1 p2 p3 p4 p5 p6 p7 p8 p9 p10 : Prop) : Prop where
  h1 : p1
  h2 : p2
  h3 : p3
  h4 : p4
  h5 : p5
  h6 : p6
  h7 : p7
  h8 : p8
  h9 : p9
  h10 : p10
structure An11 (p1 p2 p3 p4 p5 p6 p7 p8 p9 p10 p11 : Prop) : Prop where
  h1 : p1
  h2 : p2
  h3 : p3
  h4 : p4
  h5 : p5
  h6 : p6
  h7 : p7
  h8 : p8
  h9 : p9
  h10 : p10
  h11 : p11
structure An12 (p1 p2 p3 p4 p5 p6 p7 p8 p9 p10 p11 p12 : Prop) : Prop where
  h1 : p1
  h2 : p2
  h3 : p3
  h4 : p4
  h5 : p5
  h6 : p6
  h7 : p7
  h8 : p8
  h9 : p9
  h10 : p10
  h11 : p11
  h12 : p12
structure An13 (p1 p2 p3 p4 p5 p6 p7 p8 p9 p10 p11 p12 p13 : Prop) : Prop where
  h1 : p1
  h2 : p2
  h3 : p3
  h4 : p4
  h5 : p5
  h6 : p6
  h7 : p7
  h8 : p8
  h9 : p9
  h10 : p10
  h11 : p11
  h12 : p12
  h13 : p13
def tacRfl : Lean.Syntax := .node .none `Lean.Parser.Tactic.tacticSeq #[.node .none `Lean.Parser.Tactic.tacticSeq1Indented #[.node .none `null #[.node .none `Lean.Parser.Tactic.tacticRfl #[.atom .none "rfl"]]]]
def tacDec : Lean.Syntax := .node .none `Lean.Parser.Tactic.tacticSeq #[.node .none `Lean.Parser.Tactic.tacticSeq1Indented #[.node .none `null #[.node .none `Lean.Parser.Tactic.decide #[.atom .none "decide", .node .none `Lean.Parser.Tactic.optConfig #[.node .none `null #[]]]]]]
def tacIR : Lean.Syntax := .node .none `Lean.Parser.Tactic.tacticSeq #[.node .none `Lean.Parser.Tactic.tacticSeq1Indented #[.node .none `null #[.node .none `Lean.Parser.Tactic.intro #[.atom .none "intro", .node .none `null #[.node .none `Lean.Parser.Term.hole #[.atom .none "_"]]], .atom .none ";", .node .none `Lean.Parser.Tactic.tacticRfl #[.atom .none "rfl"]]]]
def tacWU : Lean.Syntax := .node .none `Lean.Parser.Tactic.tacticSeq #[.node .none `Lean.Parser.Tactic.tacticSeq1Indented #[.node .none `null #[.node .none `Lean.Parser.Tactic.withUnfoldingAll #[.atom .none "with_unfolding_all", .node .none `Lean.Parser.Tactic.tacticSeq #[.node .none `Lean.Parser.Tactic.tacticSeq1Indented #[.node .none `null #[.node .none `Lean.Parser.Tactic.tacticRfl #[.atom .none "rfl"]]]]]]]]
end Mine

local macro_rules
  | `(tactic| omega) => `(tactic| first
    | assumption
    | exact Nat.le_refl _
    | exact Nat.add_le_add_left (by decide) _
    | exact Nat.le_trans ‹_› (by decide)
    | exact Nat.le_trans ‹_› (Nat.le_add_right _ _)
    | exact Nat.le_succ_of_le ‹_›
    | (simp +arith only; done)
    | lia)
set_option maxHeartbeats 2000000
namespace Mine

noncomputable abbrev Imm := Addr → Option Obj
noncomputable abbrev Nm := Str → Option Value
noncomputable abbrev noE : Value → Shared → Prop := fun _ _ => False

noncomputable def Sub (I J : Imm) : Prop := ∀ a o, I a = some o → J a = some o
theorem Sub.refl (I : Imm) : Sub I I := fun _ _ h => h
theorem Sub.trans {I J K : Imm} (x : Sub I J) (y : Sub J K) : Sub I K := fun a o h => y a o (x a o h)

/-- what a piece of a run has done to the heap: all but X is kept, I has grown by new things -/
structure Gr (S : Shared) (I₀ : Imm) (X : List Addr) (I : Imm) (s : Shared) : Prop where
  same : ∃ h tk, s = { S with heap := h, toks := tk }
  alive : ∀ a o, S.heap.get? a = some o → ∃ o', s.heap.get? a = some o'
  keep : ∀ a o, S.heap.get? a = some o → a ∉ X → s.heap.get? a = some o
  sub : Sub I₀ I
  imm : ∀ a o, I a = some o → s.heap.get? a = some o
  new : ∀ a o, I a = some o → I₀ a = some o ∨ S.heap.get? a = none

theorem Gr.refl {S : Shared} {I : Imm} (h : ∀ a o, I a = some o → S.heap.get? a = some o) : Gr S I [] I S :=
  ⟨⟨_, _, rfl⟩, fun _ o e => ⟨o, e⟩, fun _ _ e _ => e, Sub.refl _, h, fun _ _ e => .inl e⟩

/-- a frame at work: L its locals (m), M the things that may be turned -/
structure Cx (S₀ : Shared) (I₀ : Imm) (X : List Addr) (I : Imm) (L : Addr) (m : Nm) (M : List (Addr × Obj)) (s : Shared) : Prop extends Gr S₀ I₀ (L :: X) I s where
  ns : s.heap.Ns L m
  immL : I L = none
  mt : ∀ p ∈ M, s.heap.get? p.1 = some p.2
  mtI : ∀ p ∈ M, I p.1 = none
  mtL : ∀ p ∈ M, p.1 ≠ L
  mtX : ∀ p ∈ M, p.1 ∈ X ∨ S₀.heap.get? p.1 = none
  nodup : (M.map (·.1)).Nodup

/-- the top's part: the text's own things, the built-ins' names -/
structure Tp (K : Frag) (mb : Nm) (I : Imm) : Prop where
  k : ∀ a o, K.lookup a = some o → I a = some o
  b : ∃ ob, I builtinsNs = some ob ∧ ∀ h : Heap, h.get? builtinsNs = some ob → h.Ns builtinsNs mb
  g : ∃ ob mg, I mainGlobals = some ob ∧ ∀ h : Heap, h.get? mainGlobals = some ob → h.Ns mainGlobals mg
  l : ∃ ob mc, I cStatics = some ob ∧ mc "sys.recursionlimit" = none ∧ ∀ h : Heap, h.get? cStatics = some ob → h.Ns cStatics mc
  bi : ∀ x : Str, x ≠ "__name__" → mb x = bootBuiltins x

theorem Tp.sub {K : Frag} {mb : Nm} {I J : Imm} (T : Tp K mb I) (h : Sub I J) : Tp K mb J :=
  ⟨fun a o e => h _ _ (T.k a o e), let ⟨ob, a, b⟩ := T.b; ⟨ob, h _ _ a, b⟩, let ⟨ob, mg, a, b⟩ := T.g; ⟨ob, mg, h _ _ a, b⟩, let ⟨ob, mc, a, b⟩ := T.l; ⟨ob, mc, h _ _ a, b⟩, T.bi⟩
theorem Tp.inn {K : Frag} {mb : Nm} {I : Imm} {h : Heap} (T : Tp K mb I) (e : ∀ a o, I a = some o → h.get? a = some o) : K.In h := fun a o q => e _ _ (T.k a o q)
theorem Tp.lim {K : Frag} {mb : Nm} {I : Imm} {h : Heap} (T : Tp K mb I) (e : ∀ a o, I a = some o → h.get? a = some o) : h.NoLimit := let ⟨_, mc, a, b, c⟩ := T.l; ⟨mc, c h (e _ _ a), b⟩

structure Room (A : Around) (d : Nat) : Prop where
  hd : A.handled = none
  dp : A.depth + d < recursionLimit
  un : A.units + 10 * d < cLine
theorem Room.deeper {A : Around} {d : Nat} (h : Room A (d + 1)) (env : Env) : Room (A.deeper env) d :=
  ⟨h.hd, by have := h.dp; show A.depth + 1 + d < _; omega, by have := h.un; show A.units + 3 + 10 * d < _; omega⟩
theorem Room.le {A : Around} {d e : Nat} (h : Room A d) (he : e ≤ d) : Room A e := ⟨h.hd, by have := h.dp; omega, by have := h.un; omega⟩
theorem Room.depth {A : Around} {d : Nat} (h : Room A d) : A.depth < recursionLimit := by have := h.dp; omega
theorem Room.units {A : Around} {d : Nat} (h : Room A (d + 1)) : A.units + 9 < cLine := by have := h.un; omega

section
variable {S₀ : Shared} {I₀ I : Imm} {X : List Addr} {L : Addr} {m : Nm} {M : List (Addr × Obj)} {s : Shared}

theorem Cx.lt {a : Addr} {o : Obj} (c : Cx S₀ I₀ X I L m M s) (h : I a = some o) : a < s.heap.objs.size := Heap.lt_size (c.imm _ _ h)
theorem not_some {h : Heap} {a : Addr} (e : ∀ o, h.get? a ≠ some o) : h.get? a = none := by
  cases q : h.get? a with
  | none => rfl
  | some o => exact absurd q (e o)
theorem size_none (h : Heap) : h.get? h.objs.size = none := not_some fun _ q => Nat.lt_irrefl _ (Heap.lt_size q)
theorem Cx.isL (c : Cx S₀ I₀ X I L m M s) : ∃ o, s.heap.get? L = some o := let ⟨o, _, _, e, _⟩ := c.ns; ⟨o, e⟩
theorem Cx.fresh (c : Cx S₀ I₀ X I L m M s) {a : Addr} (h : s.heap.get? a = none) : S₀.heap.get? a = none := not_some fun o q => by
  obtain ⟨o', e⟩ := c.alive a o q
  rw [h] at e; cases e
theorem Cx.noI (c : Cx S₀ I₀ X I L m M s) {a : Addr} (h : s.heap.get? a = none) : I a = none := by
  cases q : I a with
  | none => rfl
  | some o => have := c.imm _ _ q; rw [h] at this; cases this
theorem Cx.ltL (c : Cx S₀ I₀ X I L m M s) : L < s.heap.objs.size := c.ns.lt

/-- a local's store -/
theorem Cx.set {m' : Nm} {h' : Heap} {tk : Nat} (c : Cx S₀ I₀ X I L m M s) (hn : h'.Ns L m') (hs : Heap.SameBut L s.heap h') : Cx S₀ I₀ X I L m' M { s with heap := h', toks := tk } := by
  obtain ⟨h, t, rfl⟩ := c.same
  refine ⟨⟨⟨_, _, rfl⟩, ?_, ?_, c.sub, ?_, c.new⟩, hn, c.immL, ?_, c.mtI, c.mtL, c.mtX, c.nodup⟩
  · intro a o e
    obtain ⟨o', q⟩ := c.alive a o e
    by_cases hL : a = L
    · obtain ⟨oL, _, _, g, _⟩ := hn; exact ⟨oL, by rw [hL]; exact g⟩
    · exact ⟨o', (hs.2 a hL).trans q⟩
  · intro a o e n
    have : a ≠ L := fun q => n (by rw [q]; exact .head _)
    exact (hs.2 a this).trans (c.keep a o e n)
  · intro a o e
    have : a ≠ L := fun q => by rw [q, c.immL] at e; cases e
    exact (hs.2 a this).trans (c.imm a o e)
  · intro p hp
    exact (hs.2 _ (c.mtL p hp)).trans (c.mt p hp)
/-- any step that keeps what there is -/
theorem Cx.kept {h' : Heap} {tk : Nat} (c : Cx S₀ I₀ X I L m M s) (hk : ∀ a o, s.heap.get? a = some o → h'.get? a = some o) : Cx S₀ I₀ X I L m M { s with heap := h', toks := tk } := by
  obtain ⟨h, t, rfl⟩ := c.same
  exact ⟨⟨⟨_, _, rfl⟩, fun a o e => let ⟨o', q⟩ := c.alive a o e; ⟨o', hk _ _ q⟩, fun a o e n => hk _ _ (c.keep a o e n), c.sub, fun a o e => hk _ _ (c.imm a o e), c.new⟩, c.ns.keeps hk, c.immL,
    fun p hp => hk _ _ (c.mt p hp), c.mtI, c.mtL, c.mtX, c.nodup⟩
theorem Cx.toks {tk : Nat} (c : Cx S₀ I₀ X I L m M s) : Cx S₀ I₀ X I L m M { s with toks := tk } := c.kept (h' := s.heap) fun _ _ e => e
theorem Cx.push (c : Cx S₀ I₀ X I L m M s) (o : Obj) (tk : Nat) : Cx S₀ I₀ X I L m M { s with heap := s.heap.push o, toks := tk } :=
  c.kept fun _ _ e => Heap.get?_push_of_some _ e

noncomputable def addI (I : Imm) (a : Addr) (o : Obj) : Imm := fun b => if b = a then some o else I b
theorem addI_self {I : Imm} {a : Addr} {o : Obj} : addI I a o a = some o := if_pos rfl
theorem sub_addI {I : Imm} {a : Addr} {o : Obj} (h : I a = none) : Sub I (addI I a o) := fun b x e => by
  have : b ≠ a := fun q => by rw [q, h] at e; cases e
  show (if b = a then some o else I b) = some x
  rw [if_neg this]; exact e

/-- a thing that is there, nobody's, becomes one of the kept -/
theorem Cx.take {a : Addr} {o : Obj} (c : Cx S₀ I₀ X I L m M s) (ho : s.heap.get? a = some o) (hn : S₀.heap.get? a = none) (hL : a ≠ L) (hM : ∀ p ∈ M, p.1 ≠ a) (hI : I a = none) :
    Cx S₀ I₀ X (addI I a o) L m M s ∧ Sub I (addI I a o) := by
  have hs := sub_addI (o := o) hI
  refine ⟨⟨⟨c.same, c.alive, c.keep, c.sub.trans hs, ?_, ?_⟩, c.ns, ?_, c.mt, ?_, c.mtL, c.mtX, c.nodup⟩, hs⟩
  · intro b x e
    by_cases q : b = a
    · subst q; rw [addI_self] at e; cases e; exact ho
    · unfold addI at e; rw [if_neg q] at e; exact c.imm _ _ e
  · intro b x e
    by_cases q : b = a
    · subst q; exact .inr hn
    · unfold addI at e; rw [if_neg q] at e; exact c.new _ _ e
  · unfold addI; rw [if_neg (Ne.symm hL)]; exact c.immL
  · intro p hp
    unfold addI; rw [if_neg (hM p hp)]; exact c.mtI p hp

/-- a new thing, kept -/
theorem Cx.alloc (c : Cx S₀ I₀ X I L m M s) {o : Obj} (tk : Nat) (hf : o.isFreed = false) :
    Cx S₀ I₀ X (addI I s.heap.objs.size o) L m M { s with heap := s.heap.push o, toks := tk } ∧ Sub I (addI I s.heap.objs.size o) := by
  refine (c.push o tk).take (Heap.get?_push_size _ hf) (c.fresh (size_none _)) (Nat.ne_of_gt c.ltL) (fun p hp => Nat.ne_of_lt (Heap.lt_size (c.mt p hp))) (c.noI (size_none _))
/-- a new thing, to be turned -/
theorem Cx.allocM (c : Cx S₀ I₀ X I L m M s) {o : Obj} (tk : Nat) (hf : o.isFreed = false) :
    Cx S₀ I₀ X I L m ((s.heap.objs.size, o) :: M) { s with heap := s.heap.push o, toks := tk } := by
  have c' := c.push o tk
  refine ⟨c'.toGr, c'.ns, c'.immL, ?_, ?_, ?_, ?_, ?_⟩
  · intro p hp
    rcases List.mem_cons.mp hp with rfl | hp
    · exact Heap.get?_push_size _ hf
    · exact c'.mt p hp
  · intro p hp
    rcases List.mem_cons.mp hp with rfl | hp
    · exact c.noI (size_none _)
    · exact c.mtI p hp
  · intro p hp
    rcases List.mem_cons.mp hp with rfl | hp
    · exact Nat.ne_of_gt c.ltL
    · exact c.mtL p hp
  · intro p hp
    rcases List.mem_cons.mp hp with rfl | hp
    · exact .inr (c.fresh (size_none _))
    · exact c.mtX p hp
  · rw [List.map_cons, List.nodup_cons]
    refine ⟨fun q => ?_, c.nodup⟩
    obtain ⟨p, hp, e⟩ := List.mem_map.mp q
    exact absurd (Heap.lt_size (c.mt p hp)) (by rw [e]; exact Nat.lt_irrefl _)

/-- a call has come back: it turned the things Y (of M), made I' -/
theorem Cx.back {I' : Imm} {Y : List Addr} {M' : List (Addr × Obj)} {s' : Shared} (c : Cx S₀ I₀ X I L m M s) (g : Gr s I Y I' s') (hY : ∀ a ∈ Y, a ∈ M.map (·.1))
    (hM : M'.map (·.1) = M.map (·.1)) (hm : ∀ p ∈ M', s'.heap.get? p.1 = some p.2) : Cx S₀ I₀ X I' L m M' s' := by
  have hLY : L ∉ Y := fun q => by
    obtain ⟨p, hp, e⟩ := List.mem_map.mp (hY _ q)
    exact c.mtL p hp e
  have hp' : ∀ p ∈ M', ∃ o, (p.1, o) ∈ M := fun p hp => by
    have : p.1 ∈ M.map (·.1) := by rw [← hM]; exact List.mem_map.mpr ⟨p, hp, rfl⟩
    obtain ⟨q, hq, e⟩ := List.mem_map.mp this
    exact ⟨q.2, by rw [← e]; exact hq⟩
  have hnone : ∀ a o, s.heap.get? a = some o → I a = none → I' a = none := fun a o ha hI => by
    cases q : I' a with
    | none => rfl
    | some x => rcases g.new _ _ q with e | e
                · rw [hI] at e; cases e
                · rw [ha] at e; cases e
  refine ⟨⟨?_, fun a o e => let ⟨o', q⟩ := c.alive a o e; g.alive a o' q, ?_, c.sub.trans g.sub, g.imm, ?_⟩, ?_, (let ⟨oL, q⟩ := c.isL; hnone L oL q c.immL), hm, ?_, ?_, ?_, by rw [hM]; exact c.nodup⟩
  · obtain ⟨h, t, e⟩ := c.same
    obtain ⟨h2, t2, e2⟩ := g.same
    exact ⟨h2, t2, by rw [e2, e]⟩
  · intro a o e n
    refine g.keep a o (c.keep a o e n) fun q => ?_
    obtain ⟨p, hp, rfl⟩ := List.mem_map.mp (hY _ q)
    rcases c.mtX p hp with h | h
    · exact n (.tail _ h)
    · rw [e] at h; cases h
  · intro a o e
    rcases g.new _ _ e with h | h
    · exact c.new _ _ h
    · exact .inr (c.fresh h)
  · obtain ⟨o, es, ep, ho, r⟩ := c.ns
    exact ⟨o, es, ep, g.keep _ _ ho hLY, r⟩
  · intro p hp
    obtain ⟨o, ho⟩ := hp' p hp
    exact hnone p.1 o (c.mt (p.1, o) ho) (c.mtI (p.1, o) ho)
  · intro p hp
    obtain ⟨o, ho⟩ := hp' p hp
    exact c.mtL (p.1, o) ho
  · intro p hp
    obtain ⟨o, ho⟩ := hp' p hp
    exact c.mtX (p.1, o) ho
theorem Cx.back0 {I' : Imm} {s' : Shared} (c : Cx S₀ I₀ X I L m M s) (g : Gr s I [] I' s') : Cx S₀ I₀ X I' L m M s' :=
  c.back g (fun _ h => nomatch h) rfl fun p hp => g.keep _ _ (c.mt p hp) (fun h => nomatch h)

/-- the frame is left -/
theorem Cx.leave (c : Cx S₀ I₀ X I L m M s) (hL : S₀.heap.get? L = none) : Gr S₀ I₀ X I s :=
  ⟨c.same, c.alive, fun a o e n => c.keep a o e fun q => by
    rcases List.mem_cons.mp q with rfl | q
    · rw [hL] at e; cases e
    · exact n q, c.sub, c.imm, c.new⟩
end

/-! ## a def of the text is called -/
section
variable {prog : Program} {w : World} {A : Around} {s : Shared} {K : Frag} {mb : Nm} {I : Imm}

theorem call_def {fd : FuncData} {body : List Stmt} {f : Addr} {oc : Value} {od : Option Addr} {osl : Array (Option Value)} {args : List Value} {binds : List (Str × Value)} {d : Nat} {X : List Addr} {M : List (Addr × Obj)}
    {Q : Value → Shared → Prop} (R : Room A (d + 1)) (T : Tp K mb I) (hI : ∀ a o, I a = some o → s.heap.get? a = some o)
    (hM : ∀ p ∈ M, s.heap.get? p.1 = some p.2 ∧ I p.1 = none ∧ p.1 ∈ X) (hnd : (M.map (·.1)).Nodup)
    (ho : K.lookup f = some ⟨oc, od, .func fd, osl⟩) (hcd : codeIn K fd.code fd.qualname = true) (hbody : fd.body = .stmts body)
    (hbind : bindArgs fd ⟨args, []⟩ = pure binds) (hcell : fd.scope.names.all (fun x => x.2 != .cell) = true) (hloc : binds.all (fun x => fd.scope.names.lookup x.1 == some .local) = true)
    (h : ∀ (L : Addr) (s' : Shared), s.heap.get? L = none → Cx s I X I L (fun x => binds.reverse.lookup x) M s' → Room (A.deeper (callEnv fd L f)) d →
      wpAny (model prog w) (A.deeper (callEnv fd L f)) (execs body (callEnv fd L f)) (fun fl s' => Q (match fl with | .ret v => v | _ => .none) s') noE s')
    (hco : fd.scope.isCoroutine = false) (hgen : fd.scope.isGenerator = false) (hk : fd.scope.kind = .function) :
    wpAny (model prog w) A (call (.ref f) args) Q noE s := by
  refine wpAny_call (codeAny_call_def R.depth (hI _ _ (T.k _ _ ho)) rfl (T.lim hI) (codeRec_of (T.inn hI) hcd) hbody (BindsTo.of_eq hbind) ?_ ?_ (fun h₁ hns hk₁ => ?_) hco hgen hk)
  · intro x hx q
    have := List.all_eq_true.mp hcell x hx
    rw [q] at this; cases this
  · intro x hx
    exact eq_of_beq (List.all_eq_true.mp hloc x hx)
  · have hL : s.heap.get? s.heap.objs.size = none := by
      cases q : s.heap.get? s.heap.objs.size with
      | none => rfl
      | some x => exact absurd (Heap.lt_size q) (Nat.lt_irrefl _)
    have c : Cx s I X I s.heap.objs.size (fun x => binds.reverse.lookup x) M { s with heap := h₁, toks := s.toks + binds.length } := by
      refine ⟨⟨⟨_, _, rfl⟩, fun a o e => ⟨o, hk₁ _ _ e⟩, fun a o e _ => hk₁ _ _ e, Sub.refl _, fun a o e => hk₁ _ _ (hI _ _ e), fun _ _ e => .inl e⟩, hns, ?_, fun p hp => hk₁ _ _ (hM p hp).1, fun p hp => (hM p hp).2.1,
        fun p hp => Nat.ne_of_lt (Heap.lt_size (hM p hp).1), fun p hp => .inl (hM p hp).2.2, hnd⟩
      · cases q : I s.heap.objs.size with
        | none => rfl
        | some x => have := hI _ _ q; rw [hL] at this; cases this
    refine wpAny_mono (h _ _ hL c (R.deeper _)) (fun fl s' q => ?_) fun _ _ e => e.elim
    cases fl <;> exact q
end
end Mine

set_option maxHeartbeats 2000000
namespace Mine

noncomputable def KK (P : Params) : Frag := hd.heap_1 P
noncomputable def dP : Params := (aWorld 0).params
noncomputable def fnAt (K : Frag) (a : Addr) : FuncData := match K.lookup a with
  | some ⟨_, _, .func f, _⟩ => f
  | _ => default
noncomputable def fdA (a : Addr) : FuncData := fnAt (KK dP) a
noncomputable def bodyOf (f : FuncData) : List Stmt := match f.body with | .stmts b => b | _ => []

noncomputable abbrev upd (m : Nm) (x : Str) (v : Value) : Nm := fun y => if y = x then some v else m y

section
variable {prog : Program} {w : World} {A : Around} {s : Shared} {mb : Nm} {S₀ : Shared} {I₀ I : Imm} {X : List Addr} {L f : Addr} {m : Nm} {M : List (Addr × Obj)} {fd : FuncData}

/-! names -/
theorem nm {x : Str} {pos : Pos} {v : Value} {Q : Value → Shared → Prop} (c : Cx S₀ I₀ X I L m M s) (hv : m x = some v) (h : Q v s)
    (hk : fd.scope.kind = .function) (hl : (callEnv fd L f).kindOf x = some .local) (hd : autoParam ((x == ("__debug__" : Str)) = false) tacDec) :
    wpAny (model prog w) A (eval (.Name x pos) (callEnv fd L f)) Q noE s := ldc hk hl c.ns hv h hd
theorem nmG {K : Frag} {x : Str} {pos : Pos} {v : Value} {Q : Value → Shared → Prop} (T : Tp K mb I) (c : Cx S₀ I₀ X I L m M s) (e : nsIn K mainGlobals x = some (some v)) (h : Q v s)
    (hk : fd.scope.kind = .function) (hg : fd.globals = mainGlobals) (hx : (callEnv fd L f).kindOf x = some .globalImplicit) (hd : autoParam ((x == ("__debug__" : Str)) = false) tacDec) :
    wpAny (model prog w) A (eval (.Name x pos) (callEnv fd L f)) Q noE s := by
  obtain ⟨ob, mg, a, b⟩ := T.g
  have hn := b s.heap (c.imm _ _ a)
  exact Name_function_global hk hx (loadGlobal_global (env := callEnv fd L f) (by show s.heap.Ns fd.globals mg; rw [hg]; exact hn) (mg_of (T.inn c.imm) hn e) h) hd
theorem nmB {K : Frag} {x : Str} {pos : Pos} {v : Value} {Q : Value → Shared → Prop} (T : Tp K mb I) (c : Cx S₀ I₀ X I L m M s) (e : nsIn K mainGlobals x = some none) (hv : bootBuiltins x = some v) (hn : x ≠ "__name__") (h : Q v s)
    (hk : fd.scope.kind = .function) (hg : fd.globals = mainGlobals) (hb : fd.builtins = builtinsNs) (hx : (callEnv fd L f).kindOf x = some .globalImplicit) (hd : autoParam ((x == ("__debug__" : Str)) = false) tacDec) :
    wpAny (model prog w) A (eval (.Name x pos) (callEnv fd L f)) Q noE s := by
  obtain ⟨ob, mg, a, b⟩ := T.g
  obtain ⟨ob', a', b'⟩ := T.b
  have hg' := b s.heap (c.imm _ _ a)
  have hb' := b' s.heap (c.imm _ _ a')
  exact Name_function_global hk hx (loadGlobal_builtin (env := callEnv fd L f) (by show s.heap.Ns fd.globals mg; rw [hg]; exact hg') (mg_none_of (T.inn c.imm) hg' e) (by show s.heap.Ns fd.builtins mb; rw [hb]; exact hb') ((T.bi x hn).trans hv) h) hd

theorem st {x : Str} {v : Value} {Q : Unit → Shared → Prop} (c : Cx S₀ I₀ X I L m M s) (h : ∀ s', Cx S₀ I₀ X I L (upd m x v) M s' → Q () s')
    (hk : fd.scope.kind = .function) (hl : (callEnv fd L f).kindOf x = some .local) :
    wpAny (model prog w) A (storeName (callEnv fd L f) x v) Q noE s :=
  wpAny_storeName_local (env := callEnv fd L f) hl c.ns (fun h' hn hs => h _ (c.set hn hs))
    (by show (fd.scope.kind == .class || (fd.scope.kind == .module && L != fd.globals)) = false; rw [hk]; rfl)

/-! constants -/
theorem cint {env : Env} {i : Int} {k : Nat} {pos : Pos} {Q : Value → Shared → Prop} (c : Cx S₀ I₀ X I L m M s) (h : ∀ t s', Cx S₀ I₀ X I L m M s' → Q (.int i t) s') :
    wpAny (model prog w) A (eval (.Constant (.int i) k pos) env) Q noE s := wpAny_Constant_int (h _ _ c.toks)
theorem cstr {env : Env} {x : Str} {k : Nat} {pos : Pos} {Q : Value → Shared → Prop} (c : Cx S₀ I₀ X I L m M s) (h : ∀ t s', Cx S₀ I₀ X I L m M s' → Q (.str x t) s') :
    wpAny (model prog w) A (eval (.Constant (.str x) k pos) env) Q noE s := Constant_str (h _ _ c.toks)
theorem cbool {env : Env} {b : Bool} {k : Nat} {pos : Pos} {Q : Value → Shared → Prop} (h : Q (.bool b) s) :
    wpAny (model prog w) A (eval (.Constant (.bool b) k pos) env) Q noE s := fun _ _ _ => h

/-! tuples -/
noncomputable abbrev tupObj (vs : List Value) : Obj := { cls := .type "tuple", data := .seq vs.toArray }
noncomputable abbrev lstObj (vs : List Value) : Obj := { cls := .type "list", data := .seq vs.toArray }
theorem isTup_of {h : Heap} {a : Addr} {vs : List Value} {o : Obj} (e : h.get? a = some o) (hc : o.cls = .type "tuple") {n : Nat} (hd : o.data = .seq vs.toArray n) : IsTup h a vs.toArray := ⟨o, e, hc, n, hd⟩


theorem asg2 {x y : Str} {px py p : Pos} {k : Nat} {t : Addr} {u v : Value} {Q : Unit → Shared → Prop} (c : Cx S₀ I₀ X I L m M s) (hh : A.handled = none) (ht : IsTup s.heap t #[u, v])
    (h : ∀ s', Cx S₀ I₀ X I L (upd (upd m x u) y v) M s' → Q () s') (hk : fd.scope.kind = .function) (hx : (callEnv fd L f).kindOf x = some .local) (hy : (callEnv fd L f).kindOf y = some .local) :
    wpAny (model prog w) A (assign (.Tuple [.Name x px, .Name y py] k p) (callEnv fd L f) (.ref t)) Q noE s := by
  refine assign_Tuple_tuple hh ht rfl rfl fun h' he => ?_
  have c1 : Cx S₀ I₀ X I L m M { s with heap := h' } := c.kept (tk := s.toks) fun a o e => he a o (Nat.ne_of_lt (Heap.lt_size e)) e
  show wpAny _ A (do holding [v] (assign (.Name x px) (callEnv fd L f) u); do holding [] (assign (.Name y py) (callEnv fd L f) v); pure ()) Q noE { s with heap := h' }
  exact wpAny_bind (wpAny_holding (wpAny_assign_Name (st c1 (fun s1 c2 => wpAny_bind (wpAny_holding (wpAny_assign_Name (st c2 (fun s2 c3 => wpAny_pure (h s2 c3)) hk hy)))) hk hx)))
end

/-! ## loops -/
section
variable {S₀ : Shared} {I₀ I : Imm} {X : List Addr} {L : Addr} {m : Nm} {M : List (Addr × Obj)} {s : Shared}
theorem Cx.kept' {h' : Heap} {tk : Nat} {wr : List Addr} (c : Cx S₀ I₀ X I L m M s) (hk : ∀ b o, b ∉ wr → s.heap.get? b = some o → h'.get? b = some o)
    (hw : ∀ b ∈ wr, S₀.heap.get? b = none ∧ I b = none ∧ b ≠ L ∧ b ∉ M.map (·.1)) : Cx S₀ I₀ X I L m M { s with heap := h', toks := tk } := by
  obtain ⟨h, t, rfl⟩ := c.same
  have no : ∀ {b : Addr} {o : Obj}, S₀.heap.get? b = some o → b ∉ wr := fun e q => by rw [(hw _ q).1] at e; cases e
  refine ⟨⟨⟨_, _, rfl⟩, fun a o e => let ⟨o', q⟩ := c.alive a o e; ⟨o', hk _ _ (no e) q⟩, fun a o e n => hk _ _ (no e) (c.keep a o e n), c.sub, fun a o e => hk _ _ (fun q => by rw [(hw _ q).2.1] at e; cases e) (c.imm a o e), c.new⟩,
    ?_, c.immL, fun p hp => hk _ _ (fun q => (hw _ q).2.2.2 (List.mem_map.mpr ⟨p, hp, rfl⟩)) (c.mt p hp), c.mtI, c.mtL, c.mtX, c.nodup⟩
  obtain ⟨o, es, ep, ho, r⟩ := c.ns
  exact ⟨o, es, ep, hk _ _ (fun q => (hw _ q).2.2.1 rfl) ho, r⟩
/-- the same frame, seen from here on -/
theorem Cx.here (c : Cx S₀ I₀ X I L m M s) : Cx s I (M.map (·.1)) I L m M s :=
  ⟨⟨⟨_, _, rfl⟩, fun _ o e => ⟨o, e⟩, fun _ _ e _ => e, Sub.refl _, c.imm, fun _ _ e => .inl e⟩, c.ns, c.immL, c.mt, c.mtI, c.mtL, fun p hp => .inl (List.mem_map.mpr ⟨p, hp, rfl⟩), c.nodup⟩
theorem Cx.then {s' : Shared} {I' : Imm} {m' : Nm} {M' : List (Addr × Obj)} (c : Cx S₀ I₀ X I L m M s) (d : Cx s I (M.map (·.1)) I' L m' M' s') : Cx S₀ I₀ X I' L m' M' s' := by
  refine ⟨⟨?_, fun a o e => let ⟨o', q⟩ := c.alive a o e; d.alive a o' q, ?_, c.sub.trans d.sub, d.imm, ?_⟩, d.ns, d.immL, d.mt, d.mtI, d.mtL, ?_, d.nodup⟩
  · obtain ⟨h, t, e⟩ := c.same
    obtain ⟨h2, t2, e2⟩ := d.same
    exact ⟨h2, t2, by rw [e2, e]⟩
  · intro a o e n
    refine d.keep a o (c.keep a o e n) fun q => ?_
    rcases List.mem_cons.mp q with q | q
    · exact n (by rw [q]; exact .head _)
    · obtain ⟨p, hp, rfl⟩ := List.mem_map.mp q
      rcases c.mtX p hp with h | h
      · exact n (.tail _ h)
      · rw [e] at h; cases h
  · intro a o e
    rcases d.new _ _ e with h | h
    · exact c.new _ _ h
    · exact .inr (c.fresh h)
  · intro p hp
    rcases d.mtX p hp with h | h
    · obtain ⟨q, hq, e⟩ := List.mem_map.mp h
      rw [← e]; exact c.mtX q hq
    · exact .inr (c.fresh h)
/-- things are let out of sight -/
theorem Cx.drop {M' : List (Addr × Obj)} (c : Cx S₀ I₀ X I L m M s) (h : M'.Sublist M) : Cx S₀ I₀ X I L m M' s :=
  ⟨c.toGr, c.ns, c.immL, fun p hp => c.mt p (h.mem hp), fun p hp => c.mtI p (h.mem hp), fun p hp => c.mtL p (h.mem hp), fun p hp => c.mtX p (h.mem hp), (h.map _).nodup c.nodup⟩
end

section
variable {prog : Program} {w : World} {A : Around} {s : Shared} {S₀ : Shared} {I₀ I : Imm} {X : List Addr} {m : Nm} {M : List (Addr × Obj)} {env : Env}

/-- a loop's turn and what comes of it -/
noncomputable def Turn (S₀ : Shared) (I₀ : Imm) (X : List Addr) (L : Addr) (Q : Flow → Shared → Prop) (J : Imm → Nm → List (Addr × Obj) → Prop) (s1 : Shared) (I1 : Imm) (M1 : List (Addr × Obj)) (fl : Flow) (s3 : Shared) : Prop :=
  ∃ I2 m2 M2, Cx s1 I1 (M1.map (·.1)) I2 L m2 M2 s3 ∧ match fl with
    | .next | .cont => M2.map (·.1) = M1.map (·.1) ∧ J I2 m2 M2
    | .brk => Cx S₀ I₀ X I2 L m2 M2 s3 → Q .next s3
    | .ret v => Cx S₀ I₀ X I2 L m2 M2 s3 → Q (.ret v) s3

theorem for_walk {target : Expr} {body : List Stmt} {it : Addr} {fp wr : List Addr} {n : Nat} {P : Nat → Value → Prop} {St : Nat → Heap → Prop} {Q : Flow → Shared → Prop}
    (W : Walks prog w A it fp wr n P St) (c : Cx S₀ I₀ X I env.locals m M s) (hst : St 0 s.heap)
    (hfp : ∀ b ∈ fp, b ≠ env.locals ∧ b ∉ M.map (·.1)) (hwr : ∀ b ∈ wr, S₀.heap.get? b = none ∧ I b = none) (hal : ∀ i h, St i h → ∀ b ∈ wr, ∃ o, h.get? b = some o)
    (J : Nat → Imm → Nm → List (Addr × Obj) → Prop) (h0 : J 0 I m M)
    (turn : ∀ i v I1 m1 M1 s1, i < n → P i v → J i I1 m1 M1 → Sub I I1 → M1.map (·.1) = M.map (·.1) → Cx S₀ I₀ X I1 env.locals m1 M1 s1 → Cx s1 I1 (M1.map (·.1)) I1 env.locals m1 M1 s1 →
      wpAny (model prog w) A (assign target env v) (fun _ s2 => wpAny (model prog w) A (execs body env) (Turn S₀ I₀ X env.locals Q (J (i + 1)) s1 I1 M1) noE s2) noE s1)
    (done : ∀ I1 m1 M1 s1, J n I1 m1 M1 → Sub I I1 → M1.map (·.1) = M.map (·.1) → Cx S₀ I₀ X I1 env.locals m1 M1 s1 → Q .next s1)
    (hlt : ∀ i v (s : Shared) (Q : Unit → Shared → Prop) (E : Value → Shared → Prop), St i s.heap → Q () s → wpAny (model prog w) A (letOwnedTupleGo target (.ref it) v) Q E s) :
    codeAny (model prog w) A (.forLoop target (.ref it) body [] env) (fun r s' => match r with | .ok f => Q f s' | .error e => cameBackBy (model prog w) A env noE e s') s := by
  refine codeAny_forLoop_any (fun k s' => Ex4 fun i I1 m1 M1 => An9 (Cx S₀ I₀ X I1 env.locals m1 M1 s') (Sub I I1) (∀ a o, I1 a = some o → I a = some o ∨ s.heap.get? a = none) (M1.map (·.1) = M.map (·.1)) (J i I1 m1 M1) (St i s'.heap) (i ≤ n) (k = n + 1 - i) (∀ a o, s.heap.get? a = some o → ∃ o', s'.heap.get? a = some o')) ?_ (n + 1)
    ⟨0, I, m, M, c, Sub.refl _, fun _ _ e => .inl e, rfl, h0, hst, Nat.zero_le _, rfl, fun _ o e => ⟨o, e⟩⟩
  rintro k s' ⟨i, I1, m1, M1, c1, sub1, new1, hM1, hJ, hst1, hi, rfl, hal1⟩
  have hw1 : ∀ b ∈ wr, S₀.heap.get? b = none ∧ I1 b = none ∧ b ≠ env.locals ∧ b ∉ M1.map (·.1) := fun b hb => by
    have hf := hfp b (W.sub b hb)
    obtain ⟨a1, a2⟩ := hwr b hb
    obtain ⟨o, a3⟩ := hal _ _ hst b hb
    refine ⟨a1, ?_, hf.1, by rw [hM1]; exact hf.2⟩
    cases q : I1 b with
    | none => rfl
    | some x => rcases new1 _ _ q with e | e
                · rw [a2] at e; cases e
                · rw [a3] at e; cases e
  by_cases hlt' : i < n
  · refine W.item i _ _ _ hlt' hst1 fun v h1 tk1 hP hst2 hk1 => ?_
    have c2 : Cx S₀ I₀ X I1 env.locals m1 M1 { s' with heap := h1, toks := tk1 } := c1.kept' hk1 hw1
    refine hlt _ _ _ _ _ hst2 ?_
    refine wpAny_mono (turn i v I1 m1 M1 _ hlt' hP hJ sub1 hM1 c2 c2.here) (fun _ s2 h2 => ?_) fun _ _ e => e.elim
    refine wpAny_mono h2 (fun fl s3 h3 => ?_) fun _ _ e => e.elim
    obtain ⟨I2, m2, M2, c3, h3⟩ := h3
    have c4 := c2.then c3
    have hkeep : ∀ b ∈ fp, ∀ o, h1.get? b = some o → s3.heap.get? b = some o := fun b hb o e => c3.keep b o e fun q => by
      rcases List.mem_cons.mp q with q | q
      · exact (hfp b hb).1 q
      · rw [hM1] at q; exact (hfp b hb).2 q
    have fin : M2.map (·.1) = M1.map (·.1) ∧ J (i + 1) I2 m2 M2 → ∃ k', k' < n + 1 - i ∧ Ex4 fun i I1 m1 M1 => An9 (Cx S₀ I₀ X I1 env.locals m1 M1 s3) (Sub I I1) (∀ a o, I1 a = some o → I a = some o ∨ s.heap.get? a = none) (M1.map (·.1) = M.map (·.1)) (J i I1 m1 M1) (St i s3.heap) (i ≤ n) (k' = n + 1 - i) (∀ a o, s.heap.get? a = some o → ∃ o', s3.heap.get? a = some o') := by
      rintro ⟨e1, e2⟩
      have al2 : ∀ a o, s.heap.get? a = some o → ∃ o', h1.get? a = some o' := fun a o e => by
        by_cases q : a ∈ wr
        · exact hal _ _ hst2 a q
        · obtain ⟨o', e'⟩ := hal1 a o e
          exact ⟨o', hk1 _ _ q e'⟩
      refine ⟨n + 1 - (i + 1), by omega, i + 1, I2, m2, M2, c4, sub1.trans c3.sub, ?_, e1.trans hM1, e2, W.frame _ _ _ hst2 hkeep, hlt', rfl, fun a o e => let ⟨o', e'⟩ := al2 a o e; c3.alive a o' e'⟩
      intro a o e
      rcases c3.new _ _ e with q | q
      · exact new1 _ _ q
      · refine .inr (not_some fun o' e' => ?_)
        obtain ⟨o2, e2⟩ := al2 a o' e'
        rw [show h1.get? a = none from q] at e2; cases e2
    cases fl with
    | next => exact fin h3
    | cont => exact fin h3
    | brk => exact h3 c4
    | ret v => exact h3 c4
  · have hin : i = n := by omega
    subst hin
    refine W.done _ _ _ hst1 fun h1 tk1 hk1 => wpAny_execs_nil ?_
    exact done I1 m1 M1 _ hJ sub1 hM1 (c1.kept' hk1 hw1)

theorem own_plain {target : Expr} {it : Addr} {v : Value} {o : Obj} {T : String} {s : Shared} {Q : Unit → Shared → Prop} {E : Value → Shared → Prop} (ho : s.heap.get? it = some o) (hc : o.cls = .type T)
    (hn : (["enumerate", "zip", "dict_itemiterator", "dict_reverseitemiterator", "odict_iterator", "itertools.zip_longest", "itertools.pairwise"].contains T) = false) (h : Q () s) :
    wpAny (model prog w) A (letOwnedTupleGo target (.ref it) v) Q E s := by
  unfold letOwnedTupleGo
  split
  · split
    · rename_i r a e
      injection e with e1 e2
      injection e1 with e1
      subst e1
      refine wpAny_bind (wpAny_load ho ?_)
      split
      · rename_i n vs e1 e2
        rw [hc] at e1
        injection e1 with e1
        subst e1
        rw [hn]
        simp only [Bool.false_and, Bool.false_eq_true, if_false]
        exact wpAny_pure h
      · exact wpAny_pure h
    · exact wpAny_pure h
  · split
    · rename_i r a e
      injection e with e1 e2
      injection e1 with e1
      subst e1
      refine wpAny_bind (wpAny_load ho ?_)
      split
      · rename_i n vs e1 e2
        rw [hc] at e1
        injection e1 with e1
        subst e1
        rw [hn]
        simp only [Bool.false_and, Bool.false_eq_true, if_false]
        exact wpAny_pure h
      · exact wpAny_pure h
    · exact wpAny_pure h
  · exact wpAny_pure h

noncomputable def TupI (I : Imm) (a : Addr) (vs : List Value) : Prop := ∃ n, I a = some (seqObj "tuple" vs.toArray n)
noncomputable def LstI (I : Imm) (a : Addr) (vs : List Value) : Prop := ∃ n, I a = some (seqObj "list" vs.toArray n)
theorem TupI.sub {I J : Imm} {a : Addr} {vs : List Value} (h : TupI I a vs) (hs : Sub I J) : TupI J a vs := let ⟨n, e⟩ := h; ⟨n, hs _ _ e⟩
theorem LstI.sub {I J : Imm} {a : Addr} {vs : List Value} (h : LstI I a vs) (hs : Sub I J) : LstI J a vs := let ⟨n, e⟩ := h; ⟨n, hs _ _ e⟩
theorem TupI.at {I : Imm} {a : Addr} {vs : List Value} {h : Heap} (x : TupI I a vs) (hi : ∀ a o, I a = some o → h.get? a = some o) : IsTup h a vs.toArray := let ⟨n, e⟩ := x; ⟨_, hi _ _ e, rfl, n, rfl⟩
theorem TupI.at' {I : Imm} {a : Addr} {vs : List Value} {h : Heap} (x : TupI I a vs) (hi : ∀ a o, I a = some o → h.get? a = some o) : h.IsTuple a vs.toArray := let ⟨n, e⟩ := x; ⟨_, hi _ _ e, rfl, n, rfl⟩
theorem LstI.at {I : Imm} {a : Addr} {vs : List Value} {h : Heap} (x : LstI I a vs) (hi : ∀ a o, I a = some o → h.get? a = some o) : h.IsList a vs.toArray := let ⟨n, e⟩ := x; ⟨_, hi _ _ e, rfl, n, rfl⟩
theorem TupI.inj {I : Imm} {a : Addr} {vs us : List Value} (x : TupI I a vs) (y : TupI I a us) : vs = us := by
  obtain ⟨n, e⟩ := x
  obtain ⟨k, f⟩ := y
  rw [e] at f
  injection f with f
  injection f with _ _ f _
  injection f with f _
  exact congrArg Array.toList f

/-- a for over a tuple -/
theorem for_tup {target iter : Expr} {body : List Stmt} {pos : Pos} {t : Addr} {vs : List Value} {Q : Flow → Shared → Prop} (hh : A.handled = none)
    (J : Nat → Imm → Nm → List (Addr × Obj) → Prop)
    (h : wpAny (model prog w) A (eval iter env) (fun v s1 => v = .ref t ∧ Ex3 fun I1 m1 M1 => An5 (Cx S₀ I₀ X I1 env.locals m1 M1 s1) (TupI I1 t vs) (J 0 I1 m1 M1) (∀ i v I2 m2 M2 s2, vs[i]? = some v → J i I2 m2 M2 → Sub I1 I2 → M2.map (·.1) = M1.map (·.1) → Cx S₀ I₀ X I2 env.locals m2 M2 s2 → Cx s2 I2 (M2.map (·.1)) I2 env.locals m2 M2 s2 →
        wpAny (model prog w) A (assign target env v) (fun _ s3 => wpAny (model prog w) A (execs body env) (Turn S₀ I₀ X env.locals Q (J (i + 1)) s2 I2 M2) noE s3) noE s2) (∀ I2 m2 M2 s2, J vs.length I2 m2 M2 → Sub I1 I2 → M2.map (·.1) = M1.map (·.1) → Cx S₀ I₀ X I2 env.locals m2 M2 s2 → Q .next s2)) noE s)
    (hs : autoParam (∀ x, foldedSetIterable iter env x = pure x) tacIR) :
    wpAny (model prog w) A (exec (.For target iter body [] pos) env) Q noE s := by
  refine wpAny_For (wpAny_mono h (fun v s1 h1 => ?_) fun _ _ e => e) hs
  obtain ⟨rfl, I1, m1, M1, c, ht, h0, turn, done⟩ := h1
  refine wpAny_pyIter_tuple (ht.at' c.imm) ?_
  have hlt : t < s1.heap.objs.size := let ⟨n, e⟩ := ht; c.lt e
  have c1 := c.push { cls := .type "tuple_iterator", data := .fields #[.ref t, .int 0 0] } s1.toks
  refine for_walk (Walks.tuple hh s1.heap.objs.size t (Nat.ne_of_lt hlt) vs.toArray) c1 ⟨⟨_, Heap.get?_push_size _ rfl, rfl, rfl⟩, ht.at' c1.imm⟩ ?_ ?_ ?_ J h0 ?_ ?_ ?_
  · intro b hb
    rcases List.mem_cons.mp hb with rfl | hb
    · refine ⟨Nat.ne_of_gt c.ltL, fun q => ?_⟩
      obtain ⟨p, hp, e⟩ := List.mem_map.mp q
      exact absurd (Heap.lt_size (c.mt p hp)) (by rw [e]; exact Nat.lt_irrefl _)
    · rw [List.mem_singleton.mp hb]
      obtain ⟨n, e⟩ := ht
      refine ⟨fun q => (by rw [q, c.immL] at e; cases e), fun q => ?_⟩
      obtain ⟨p, hp, e'⟩ := List.mem_map.mp q
      have := c.mtI p hp
      rw [e', e] at this; cases this
  · intro b hb
    rw [List.mem_singleton.mp hb]
    exact ⟨c.fresh (size_none _), c.noI (size_none _)⟩
  · intro i h st b hb
    rw [List.mem_singleton.mp hb]
    obtain ⟨⟨o, e, _⟩, _⟩ := st
    exact ⟨o, e⟩
  · intro i v I2 m2 M2 s2 _ hv hJ hsub hM c2 c3
    exact turn i v I2 m2 M2 s2 (by simpa using hv) hJ hsub hM c2 c3
  · intro I2 m2 M2 s2 hJ hsub hM c2
    exact done I2 m2 M2 s2 (by simpa using hJ) hsub hM c2
  · intro i v s Q E st hq
    obtain ⟨⟨o, e, hc, hd⟩, hx⟩ := st
    exact own_plain e hc (by decide) hq
/-- a for over a list that nobody turns -/
theorem for_lst {target iter : Expr} {body : List Stmt} {pos : Pos} {t : Addr} {vs : List Value} {Q : Flow → Shared → Prop} (hh : A.handled = none)
    (J : Nat → Imm → Nm → List (Addr × Obj) → Prop)
    (h : wpAny (model prog w) A (eval iter env) (fun v s1 => v = .ref t ∧ Ex3 fun I1 m1 M1 => An5 (Cx S₀ I₀ X I1 env.locals m1 M1 s1) (LstI I1 t vs) (J 0 I1 m1 M1) (∀ i v I2 m2 M2 s2, vs[i]? = some v → J i I2 m2 M2 → Sub I1 I2 → M2.map (·.1) = M1.map (·.1) → Cx S₀ I₀ X I2 env.locals m2 M2 s2 → Cx s2 I2 (M2.map (·.1)) I2 env.locals m2 M2 s2 →
        wpAny (model prog w) A (assign target env v) (fun _ s3 => wpAny (model prog w) A (execs body env) (Turn S₀ I₀ X env.locals Q (J (i + 1)) s2 I2 M2) noE s3) noE s2) (∀ I2 m2 M2 s2, J vs.length I2 m2 M2 → Sub I1 I2 → M2.map (·.1) = M1.map (·.1) → Cx S₀ I₀ X I2 env.locals m2 M2 s2 → Q .next s2)) noE s)
    (hs : autoParam (∀ x, foldedSetIterable iter env x = pure x) tacIR) :
    wpAny (model prog w) A (exec (.For target iter body [] pos) env) Q noE s := by
  refine wpAny_For (wpAny_mono h (fun v s1 h1 => ?_) fun _ _ e => e) hs
  obtain ⟨rfl, I1, m1, M1, c, ht, h0, turn, done⟩ := h1
  refine wpAny_pyIter_list (ht.at c.imm) ?_
  have hlt : t < s1.heap.objs.size := let ⟨n, e⟩ := ht; c.lt e
  have c1 := c.push { cls := .type "list_iterator", data := .fields #[.ref t, .int 0 0] } s1.toks
  refine for_walk (Walks.list hh s1.heap.objs.size t (Nat.ne_of_lt hlt) vs.toArray) c1 ⟨⟨_, Heap.get?_push_size _ rfl, rfl, rfl⟩, ht.at c1.imm⟩ ?_ ?_ ?_ J h0 ?_ ?_ ?_
  · intro b hb
    rcases List.mem_cons.mp hb with rfl | hb
    · refine ⟨Nat.ne_of_gt c.ltL, fun q => ?_⟩
      obtain ⟨p, hp, e⟩ := List.mem_map.mp q
      exact absurd (Heap.lt_size (c.mt p hp)) (by rw [e]; exact Nat.lt_irrefl _)
    · rw [List.mem_singleton.mp hb]
      obtain ⟨n, e⟩ := ht
      refine ⟨fun q => (by rw [q, c.immL] at e; cases e), fun q => ?_⟩
      obtain ⟨p, hp, e'⟩ := List.mem_map.mp q
      have := c.mtI p hp
      rw [e', e] at this; cases this
  · intro b hb
    rw [List.mem_singleton.mp hb]
    exact ⟨c.fresh (size_none _), c.noI (size_none _)⟩
  · intro i h st b hb
    rw [List.mem_singleton.mp hb]
    obtain ⟨⟨o, e, _⟩, _⟩ := st
    exact ⟨o, e⟩
  · intro i v I2 m2 M2 s2 _ hv hJ hsub hM c2 c3
    exact turn i v I2 m2 M2 s2 (by simpa using hv) hJ hsub hM c2 c3
  · intro I2 m2 M2 s2 hJ hsub hM c2
    exact done I2 m2 M2 s2 (by simpa using hJ) hsub hM c2
  · intro i v s Q E st hq
    obtain ⟨⟨o, e, hc, hd⟩, hx⟩ := st
    exact own_plain e hc (by decide) hq
end
end Mine

set_option maxHeartbeats 2000000
namespace Mine

structure Kd (α : Type) where
  is : Imm → α → Value → Prop
  sub : ∀ {I J : Imm} {a : α} {v : Value}, Sub I J → is I a v → is J a v
noncomputable def Are {α : Type} (k : Kd α) (I : Imm) : List α → List Value → Prop
  | [], [] => True
  | a :: l, v :: r => k.is I a v ∧ Are k I l r
  | _, _ => False
theorem Are.sub {α : Type} {k : Kd α} {I J : Imm} (hs : Sub I J) : ∀ {l : List α} {r : List Value}, Are k I l r → Are k J l r
  | [], [], _ => trivial
  | _ :: _, _ :: _, ⟨a, b⟩ => ⟨k.sub hs a, Are.sub hs b⟩
theorem Are.length {α : Type} {k : Kd α} {I : Imm} : ∀ {l : List α} {r : List Value}, Are k I l r → r.length = l.length
  | [], [], _ => rfl
  | _ :: _, _ :: _, ⟨_, b⟩ => by rw [List.length_cons, List.length_cons, Are.length b]
theorem Are.get {α : Type} {k : Kd α} {I : Imm} : ∀ {l : List α} {r : List Value} {i : Nat} {v : Value}, Are k I l r → r[i]? = some v → ∃ a, l[i]? = some a ∧ k.is I a v
  | a :: _, v' :: _, 0, v, ⟨h, _⟩, e => by simp at e; subst e; exact ⟨a, rfl, h⟩
  | _ :: l, _ :: r, i + 1, v, ⟨_, h⟩, e => by simp at e; obtain ⟨a, h1, h2⟩ := h.get e; exact ⟨a, by simpa using h1, h2⟩
  | [], [], i, v, _, e => by simp at e
noncomputable def kInt : Kd Int := ⟨fun _ i v => ∃ t, v = .int i t, fun _ h => h⟩
noncomputable def kStr : Kd Str := ⟨fun _ x v => ∃ t, v = .str x t, fun _ h => h⟩
noncomputable def kPair {α β : Type} (k : Kd α) (l : Kd β) : Kd (α × β) :=
  ⟨fun I p v => Ex3 fun t x y => An4 (v = .ref t) (TupI I t [x, y]) (k.is I p.1 x) (l.is I p.2 y), fun hs ⟨t, x, y, e, a, b, c⟩ => ⟨t, x, y, e, a.sub hs, k.sub hs b, l.sub hs c⟩⟩
noncomputable def kList {α : Type} (k : Kd α) : Kd (List α) :=
  ⟨fun I l v => ∃ t vs, v = .ref t ∧ TupI I t vs ∧ Are k I l vs, fun hs ⟨t, vs, e, a, b⟩ => ⟨t, vs, e, a.sub hs, b.sub hs⟩⟩
noncomputable abbrev Clock := List (Int × Int)
noncomputable abbrev kClock : Kd Clock := kList (kPair kInt kInt)

noncomputable def cnt : Clock → Int → Int
  | [], _ => 0
  | (n, c) :: r, g => if n = g then c else cnt r g

theorem cnt_drop {c : Clock} {g : Int} {i : Nat} (h : ∀ j p, j < i → c[j]? = some p → p.1 ≠ g) : cnt c g = cnt (c.drop i) g := by
  induction i generalizing c with
  | zero => rfl
  | succ i ih =>
    cases c with
    | nil => rfl
    | cons p r =>
      rw [List.drop_succ_cons]
      have h0 := h 0 p (Nat.zero_lt_succ _) rfl
      rw [cnt, if_neg h0]
      exact ih fun j q hj e => h (j + 1) q (Nat.succ_lt_succ hj) (by simpa using e)

theorem cnt_at {c : Clock} {g : Int} {i : Nat} {n k : Int} (h : c[i]? = some (n, k)) : cnt (c.drop i) g = if n = g then k else cnt (c.drop (i + 1)) g := by
  have hl : i < c.length := by
    rcases Nat.lt_or_ge i c.length with q | q
    · exact q
    · rw [List.getElem?_eq_none q] at h; cases h
  rw [List.drop_eq_getElem_cons hl]
  rw [List.getElem?_eq_getElem hl] at h
  injection h with h
  rw [h]; rfl
theorem eq_int {prog : Program} {w : World} {A : Around} {s : Shared} {E : Value → Shared → Prop} {a b : Int} {t u : Tok} {Q : Value → Shared → Prop} (h : Q (.bool (a == b)) s) : wpAny (model prog w) A (compareOp .Eq (.int a t) (.int b u)) Q E s := wpAny_eq_int h
section
variable {prog : Program} {w : World} {A : Around} {s : Shared} {mb : Nm} {I : Imm} {d : Nat}

theorem count_ok {c : Clock} {cv : Value} {g : Int} {tk : Tok} (R : Room A (d + 1)) (T : Tp (KK w.params) mb I) (hI : ∀ a o, I a = some o → s.heap.get? a = some o) (hc : kClock.is I c cv) :
    wpAny (model prog w) A (call (.ref 28) [cv, .int g tk]) (fun v s' => ∃ I', Gr s I [] I' s' ∧ ∃ t, v = .int (cnt c g) t) noE s := by
  obtain ⟨t, vs, rfl, ht, hvs⟩ := hc
  refine call_def (fd := fdA 28) (M := []) (X := []) (binds := [("clock", _), ("goroutine", _)]) R T hI (fun _ h => nomatch h) .nil rfl rfl rfl rfl rfl rfl ?_ rfl rfl rfl
  intro L s1 hL c1 R1
  refine wpAny_execs_cons ?_
  refine' for_tup R1.hd (fun i I1 m1 M1 => An4 (M1 = []) (m1 "clock" = some (.ref t)) (m1 "goroutine" = some (.int g tk)) (∀ j p, j < i → c[j]? = some p → p.1 ≠ g)) ?h
  case h =>
  refine nm c1 rfl ?_ rfl rfl
  refine ⟨rfl, _, _, _, c1, ht, ⟨rfl, rfl, rfl, fun j p h => absurd h (Nat.not_lt_zero _)⟩, ?_, ?_⟩
  · rintro i v I2 m2 M2 s2 hv ⟨rfl, m1, m2', hno⟩ hsub hM c2 c3
    obtain ⟨⟨n, k⟩, hp, tt, x, y, rfl, htt, ⟨ta, rfl⟩, ⟨tb, rfl⟩⟩ := hvs.get hv
    refine asg2 c3 R1.hd ((htt.sub hsub).at c3.imm) (fun s3 c4 => ?_) rfl rfl rfl
    refine wpAny_execs_cons (wpAny_If (wpAny_isTrue_Compare1 ?_))
    refine nm c4 rfl ?_ rfl rfl
    refine nm c4 m2' ?_ rfl rfl
    refine Mine.eq_int (wpAny_truthy_bool ?_)
    by_cases hn : n = g
    · rw [beq_iff_eq.mpr hn, if_pos rfl]
      refine wpAny_execs_cons (wpAny_Return_some (nm c4 rfl ?_ rfl rfl))
      refine ⟨_, _, _, c4, fun c5 => ⟨_, c5.leave hL, tb, ?_⟩⟩
      rw [cnt_drop (i := i) hno, cnt_at hp, if_pos hn]
    · rw [beq_eq_false_iff_ne.mpr hn, if_neg Bool.false_ne_true]
      refine wpAny_execs_nil (wpAny_execs_nil ⟨_, _, _, c4, rfl, rfl, m1, m2', ?_⟩)
      intro j p hj e
      rcases Nat.lt_succ_iff_lt_or_eq.mp hj with q | rfl
      · exact hno j p q e
      · rw [hp] at e; cases e; exact hn
  · rintro I2 m2 M2 s2 ⟨rfl, m1, m2', hno⟩ hsub hM c2
    refine wpAny_execs_cons (wpAny_Return_some (cint c2 fun t' s3 c3 => ?_))
    refine ⟨_, c3.leave hL, t', ?_⟩
    rw [cnt_drop (i := vs.length) hno, hvs.length, List.drop_length]; rfl
end
end Mine

set_option maxHeartbeats 2000000
namespace Mine

/-! # the short sort, with a comparer that answers by an order -/
structure Ord' (α : Type) where
  lt : α → α → Bool
  irrefl : ∀ a, lt a a = false
  neg : ∀ a b c, lt a c = true → lt a b = true ∨ lt b c = true
  asym : ∀ a b, lt a b = true → lt b a = false
namespace Ord'
variable {α : Type} (O : Ord' α)
noncomputable def le (a b : α) : Prop := O.lt b a = false
variable {O}
theorem le_refl (a : α) : O.le a a := O.irrefl a
theorem le_trans {a b c : α} (h : O.le a b) (k : O.le b c) : O.le a c := by
  unfold le at *
  cases q : O.lt c a with
  | false => rfl
  | true => rcases O.neg c b a q with e | e
            · rw [k] at e; cases e
            · rw [h] at e; cases e
theorem le_of_lt {a b : α} (h : O.lt a b = true) : O.le a b := O.asym _ _ h
end Ord'

section
variable {α : Type} {O : Ord' α} {key : Nat → α}
noncomputable abbrev kk (key : Nat → α) (p : Array Nat) (i : Nat) : α := key (p.getD i 0)
noncomputable def Asc (O : Ord' α) (key : Nat → α) (p : Array Nat) (k : Nat) : Prop := ∀ i j, i ≤ j → j < k → O.le (kk key p i) (kk key p j)
noncomputable def Dsc (O : Ord' α) (key : Nat → α) (p : Array Nat) (k : Nat) : Prop := ∀ i j, i ≤ j → j < k → O.le (kk key p j) (kk key p i)

theorem getD_of {p q : Array Nat} {i j : Nat} (h : p[i]? = q[j]?) : p.getD i 0 = q.getD j 0 := by
  rw [Array.getD_eq_getD_getElem?, Array.getD_eq_getD_getElem?, h]
theorem kk_rev {p : Array Nat} {i j : Nat} (hj : j ≤ p.size) (k : Nat) : kk key (kas_rev p i j) k = if i ≤ k ∧ k < j then kk key p (i + j - 1 - k) else kk key p k := by
  have e := getElem?_mirror_all (i := i) hj k
  split
  · rename_i h; rw [if_pos h] at e; exact congrArg key (getD_of e)
  · rename_i h; rw [if_neg h] at e; exact congrArg key (getD_of e)
theorem rev_size (p : Array Nat) (i j : Nat) : (kas_rev p i j).size = p.size := mirror_size _ _ _ _
theorem rev_perm (p : Array Nat) (i j : Nat) : (kas_rev p i j).Perm p := mirror_perm _ _ _ _

/-- the places that p names are below N -/
noncomputable def Bd (N : Nat) (p : Array Nat) : Prop := p.size = N ∧ p.toList.Perm (List.range N)
theorem Bd.lt {N : Nat} {p : Array Nat} (h : Bd N p) (hN : 0 < N) (i : Nat) : p.getD i 0 < N := by
  rw [Array.getD_eq_getD_getElem?]
  cases q : p[i]? with
  | none => exact hN
  | some x =>
    have : x ∈ p.toList := Array.mem_toList_iff.mpr (Array.mem_of_getElem? q)
    exact List.mem_range.mp (h.2.mem_iff.mp this)
theorem Bd.perm {N : Nat} {p q : Array Nat} (h : Bd N p) (hq : q.Perm p) : Bd N q := ⟨by rw [← h.1]; exact hq.size_eq, (Array.perm_iff_toList_perm.mp hq).trans h.2⟩

variable {N : Nat} {cmp : Nat → Nat → (Bool → Shared → Prop) → Shared → Prop} {s : Shared}

theorem w_asc (hcmp : ∀ i j C, i < N → j < N → C (O.lt (key i) (key j)) s → cmp i j C s) (hN : 0 < N) {p : Array Nat} (hp : Bd N p) {Q : Nat → Shared → Prop} :
    ∀ (f n : Nat), 1 ≤ n → Asc O key p n → (∀ m, n ≤ m → m ≤ n + f → Asc O key p m → Q m s) → (kas_asc p f n).kasWp cmp Q s
  | 0, n, _, ha, h => h n (Nat.le_refl _) (Nat.le_refl _) ha
  | f + 1, n, h1, ha, h => by
    refine hcmp _ _ _ (hp.lt hN n) (hp.lt hN (n - 1)) ?_
    cases q : O.lt (kk key p n) (kk key p (n - 1)) with
    | true =>
      dsimp only; rw [if_pos rfl]
      exact h n (Nat.le_refl _) (Nat.le_add_right _ _) ha
    | false =>
      dsimp only; rw [if_neg Bool.false_ne_true]
      refine w_asc hcmp hN hp f (n + 1) (by omega) ?_ fun m a b c => h m (by omega) (by omega) c
      intro i j hij hj
      by_cases hjn : j = n
      · subst hjn
        by_cases hin : i = j
        · subst hin; exact Ord'.le_refl _
        · exact Ord'.le_trans (ha i (j - 1) (by omega) (by omega)) q
      · exact ha i j hij (by omega)

theorem w_ascL (hcmp : ∀ i j C, i < N → j < N → C (O.lt (key i) (key j)) s → cmp i j C s) (hN : 0 < N) {p : Array Nat} (hp : Bd N p) {Q : Nat → Shared → Prop} :
    ∀ (f n : Nat), 1 ≤ n → n + f = N → Asc O key p n → (∀ m, n ≤ m → m ≤ N → Asc O key p m → (m < N → O.lt (kk key p m) (kk key p (m - 1)) = true) → Q m s) → (kas_asc p f n).kasWp cmp Q s
  | 0, n, _, hf, ha, h => h n (Nat.le_refl _) (by omega) ha (fun q => by omega)
  | f + 1, n, h1, hf, ha, h => by
    refine hcmp _ _ _ (hp.lt hN n) (hp.lt hN (n - 1)) ?_
    cases q : O.lt (kk key p n) (kk key p (n - 1)) with
    | true =>
      dsimp only; rw [if_pos rfl]
      exact h n (Nat.le_refl _) (by omega) ha fun _ => q
    | false =>
      dsimp only; rw [if_neg Bool.false_ne_true]
      refine w_ascL hcmp hN hp f (n + 1) (by omega) (by omega) ?_ fun m a b c d => h m (by omega) (by omega) c d
      intro i j hij hj
      by_cases hjn : j = n
      · subst hjn
        by_cases hin : i = j
        · subst hin; exact Ord'.le_refl _
        · exact Ord'.le_trans (ha i (j - 1) (by omega) (by omega)) q
      · exact ha i j hij (by omega)

noncomputable def Blk (O : Ord' α) (key : Nat → α) (p : Array Nat) (n q : Nat) : Prop := q + 1 ≤ n ∧ ∀ i, n - (q + 1) ≤ i → i < n → O.le (kk key p i) (kk key p (n - 1)) ∧ O.le (kk key p (n - 1)) (kk key p i)

theorem rev_blk {p : Array Nat} {n q : Nat} (hn : n ≤ p.size) (hb : Blk O key p n q) (hd : Dsc O key p n) : Dsc O key (kas_rev p (n - (q + 1)) n) n := by
  obtain ⟨b1, b2⟩ := hb
  have same : ∀ k, k < n → O.le (kk key (kas_rev p (n - (q + 1)) n) k) (kk key p k) ∧ O.le (kk key p k) (kk key (kas_rev p (n - (q + 1)) n) k) := by
    intro k hk
    rw [kk_rev hn]
    split
    · rename_i h
      have x := b2 (n - (q + 1) + n - 1 - k) (by omega) (by omega)
      have y := b2 k h.1 hk
      exact ⟨Ord'.le_trans x.1 y.2, Ord'.le_trans y.1 x.2⟩
    · exact ⟨Ord'.le_refl _, Ord'.le_refl _⟩
  intro i j hij hj
  exact Ord'.le_trans (same j hj).1 (Ord'.le_trans (hd i j hij hj) (same i (by omega)).2)

theorem w_desc (hcmp : ∀ i j C, i < N → j < N → C (O.lt (key i) (key j)) s → cmp i j C s) (hN : 0 < N) {Q : Array Nat × Nat × Nat → Shared → Prop} :
    ∀ (f : Nat) (p : Array Nat) (n q : Nat), Bd N p → n + f ≤ N → Dsc O key p n → Blk O key p n q →
      (∀ p' m q', Bd N p' → n ≤ m → m ≤ n + f → Dsc O key p' m → Blk O key p' m q' → Q (p', m, q') s) → (kas_desc f p n q).kasWp cmp Q s
  | 0, p, n, q, hp, _, hd, hb, h => h p n q hp (Nat.le_refl _) (Nat.le_refl _) hd hb
  | f + 1, p, n, q, hp, hnf, hd, hb, h => by
    refine hcmp _ _ _ (hp.lt hN n) (hp.lt hN (n - 1)) ?_
    have hn1 : 1 ≤ n := by have := hb.1; omega
    cases c1 : O.lt (kk key p n) (kk key p (n - 1)) with
    | true =>
      dsimp only; rw [if_pos rfl]
      have ext : ∀ p', Dsc O key p' n → (∀ i, i ≤ n → (i = n → kk key p' i = kk key p n)) → (∀ i, i < n → O.le (kk key p (n - 1)) (kk key p' i)) → Dsc O key p' (n + 1) := by
        intro p' d1 e1 e2 i j hij hj
        by_cases hjn : j = n
        · subst hjn
          by_cases hin : i = j
          · subst hin; exact Ord'.le_refl _
          · rw [e1 j (Nat.le_refl _) rfl]
            exact Ord'.le_trans (Ord'.le_of_lt c1) (e2 i (by omega))
        · exact d1 i j hij (by omega)
      have blk0 : ∀ p', Blk O key p' (n + 1) 0 := fun p' => ⟨by omega, fun i h1 h2 => by
        have : i = n := by omega
        subst this
        exact ⟨Ord'.le_refl _, Ord'.le_refl _⟩⟩
      by_cases hq : q > 0
      · rw [if_pos hq]
        refine w_desc hcmp hN f _ (n + 1) 0 (hp.perm (rev_perm _ _ _)) (by omega) ?_ (blk0 _) fun p' m q' a b c d e => h p' m q' a (by omega) (by omega) d e
        have hn : n ≤ p.size := by rw [hp.1]; omega
        refine ext _ (rev_blk hn hb hd) (fun i _ e => ?_) fun i hi => ?_
        · rw [e, kk_rev hn, if_neg (by omega)]
        · rw [kk_rev hn]
          split
          · exact hd _ _ (by omega) (by omega)
          · exact hd _ _ (by omega) (by omega)
      · rw [if_neg hq]
        refine w_desc hcmp hN f _ (n + 1) 0 hp (by omega) ?_ (blk0 _) fun p' m q' a b c d e => h p' m q' a (by omega) (by omega) d e
        exact ext _ hd (fun i _ e => by rw [e]) fun i hi => hd _ _ (by omega) (by omega)
    | false =>
      dsimp only; rw [if_neg Bool.false_ne_true]
      refine hcmp _ _ _ (hp.lt hN (n - 1)) (hp.lt hN n) ?_
      cases c2 : O.lt (kk key p (n - 1)) (kk key p n) with
      | true =>
        dsimp only; rw [if_pos rfl]
        exact h p n q hp (Nat.le_refl _) (by omega) hd hb
      | false =>
        dsimp only; rw [if_neg Bool.false_ne_true]
        refine w_desc hcmp hN f p (n + 1) (q + 1) hp (by omega) ?_ ?_ fun p' m q' a b c d e => h p' m q' a (by omega) (by omega) d e
        · intro i j hij hj
          by_cases hjn : j = n
          · subst hjn
            by_cases hin : i = j
            · subst hin; exact Ord'.le_refl _
            · exact Ord'.le_trans c2 (hd i (j - 1) (by omega) (by omega))
          · exact hd i j hij (by omega)
        · refine ⟨by have := hb.1; omega, fun i h1 h2 => ?_⟩
          rw [Nat.add_sub_cancel]
          by_cases hin : i = n
          · subst hin; exact ⟨Ord'.le_refl _, Ord'.le_refl _⟩
          · have x := hb.2 i (by omega) (by omega)
            exact ⟨Ord'.le_trans x.1 c1, Ord'.le_trans c2 x.2⟩

theorem asc_rev {p : Array Nat} {n : Nat} (hn : n ≤ p.size) (hd : Dsc O key p n) : Asc O key (kas_rev p 0 n) n := by
  intro i j hij hj
  rw [kk_rev hn, kk_rev hn, if_pos (by omega), if_pos (by omega)]
  exact hd _ _ (by omega) (by omega)

theorem w_tail3 (hcmp : ∀ i j C, i < N → j < N → C (O.lt (key i) (key j)) s → cmp i j C s) (hN : 0 < N) {Q : Nat × Array Nat → Shared → Prop} {n : Nat} {p : Array Nat} (hp : Bd N p) (h1 : 1 ≤ n) (hn : n ≤ N) (hd : Dsc O key p n)
    (h : ∀ m p', Bd N p' → 1 ≤ m → m ≤ N → Asc O key p' m → Q (m, p') s) : (kas_tail3 n N p).kasWp cmp Q s := by
  unfold kas_tail3
  rw [KasT.kasWp_bind]
  refine w_asc hcmp hN (hp.perm (rev_perm _ _ _)) _ _ h1 (asc_rev (by rw [hp.1]; exact hn) hd) fun m a b c => ?_
  exact h m _ (hp.perm (rev_perm _ _ _)) (by omega) (by omega) c

theorem w_descPart (hcmp : ∀ i j C, i < N → j < N → C (O.lt (key i) (key j)) s → cmp i j C s) (hN : 0 < N) {Q : Nat × Array Nat → Shared → Prop} {n : Nat} {p : Array Nat} (hp : Bd N p) (h1 : 1 ≤ n) (hn : n + 1 ≤ N)
    (hd : Dsc O key p n) (hlt : O.lt (kk key p n) (kk key p (n - 1)) = true)
    (h : ∀ m p', Bd N p' → 1 ≤ m → m ≤ N → Asc O key p' m → Q (m, p') s) : (kas_descPart n N p).kasWp cmp Q s := by
  unfold kas_descPart
  rw [KasT.kasWp_bind]
  refine w_desc hcmp hN _ p (n + 1) 0 hp (by omega) ?_ ?_ ?_
  · intro i j hij hj
    by_cases hjn : j = n
    · subst hjn
      by_cases hin : i = j
      · subst hin; exact Ord'.le_refl _
      · exact Ord'.le_trans (Ord'.le_of_lt hlt) (hd i (j - 1) (by omega) (by omega))
    · exact hd i j hij (by omega)
  · refine ⟨by omega, fun i h1 h2 => ?_⟩
    have : i = n := by omega
    subst this
    exact ⟨Ord'.le_refl _, Ord'.le_refl _⟩
  · intro p' m q' hp' a b hd' hb'
    dsimp only
    split
    · exact w_tail3 hcmp hN (hp'.perm (rev_perm _ _ _)) (by omega) (by omega) (rev_blk (by rw [hp'.1]; omega) hb' hd') h
    · exact w_tail3 hcmp hN hp' (by omega) (by omega) hd' h

theorem w_count (hcmp : ∀ i j C, i < N → j < N → C (O.lt (key i) (key j)) s → cmp i j C s) (hN : 0 < N) {Q : Nat × Array Nat → Shared → Prop} {p : Array Nat} (hp : Bd N p)
    (h : ∀ m p', Bd N p' → 1 ≤ m → m ≤ N → Asc O key p' m → Q (m, p') s) : (kas_count N p).kasWp cmp Q s := by
  unfold kas_count
  rw [KasT.kasWp_bind]
  have asc1 : Asc O key p 1 := fun i j a b => by
    have : i = j := by omega
    subst this; exact Ord'.le_refl _
  refine w_ascL hcmp hN hp (N - 1) 1 (Nat.le_refl _) (by omega) asc1 fun n a b ha hlast => ?_
  by_cases e1 : n = N
  · rw [if_pos (beq_iff_eq.mpr e1)]
    exact h n p hp a (by omega) ha
  · rw [if_neg (fun q => e1 (beq_iff_eq.mp q))]
    have hlt : O.lt (kk key p n) (kk key p (n - 1)) = true := hlast (by omega)
    by_cases e2 : n > 1
    · rw [if_pos e2]
      refine hcmp _ _ _ (hp.lt hN 0) (hp.lt hN (n - 1)) ?_
      cases c : O.lt (kk key p 0) (kk key p (n - 1)) with
      | true =>
        dsimp only; rw [if_pos rfl]
        exact h n p hp a (by omega) ha
      | false =>
        dsimp only; rw [if_neg Bool.false_ne_true]
        have hn : n ≤ p.size := by rw [hp.1]; omega
        have all : ∀ i j, i < n → j < n → O.le (kk key p i) (kk key p j) := fun i j hi hj =>
          Ord'.le_trans (ha i (n - 1) (by omega) (by omega)) (Ord'.le_trans c (ha 0 j (Nat.zero_le _) hj))
        refine w_descPart hcmp hN (hp.perm (rev_perm _ _ _)) a (by omega) ?_ ?_ h
        · intro i j hij hj
          rw [kk_rev hn, kk_rev hn, if_pos (by omega), if_pos (by omega)]
          exact all _ _ (by omega) (by omega)
        · rw [kk_rev hn, kk_rev hn, if_neg (by omega), if_pos (by omega)]
          have : 0 + n - 1 - (n - 1) = 0 := by omega
          rw [this]
          rcases O.neg _ (kk key p 0) _ hlt with e | e
          · exact e
          · rw [all 0 (n - 1) (by omega) (by omega) |> fun _ => (all (n - 1) 0 (by omega) (by omega))] at e; cases e
    · rw [if_neg e2]
      have : n = 1 := by omega
      subst this
      refine w_descPart hcmp hN hp (Nat.le_refl _) (by omega) ?_ hlt h
      intro i j hij hj
      have : i = j := by omega
      subst this; exact Ord'.le_refl _

theorem w_place (hcmp : ∀ i j C, i < N → j < N → C (O.lt (key i) (key j)) s → cmp i j C s) (hN : 0 < N) {Q : Nat → Shared → Prop} {p : Array Nat} (hp : Bd N p) {k : Nat} (ha : Asc O key p k) :
    ∀ (f l r : Nat), l ≤ r → r ≤ k → r - l ≤ f → (∀ i, i < l → O.le (kk key p i) (kk key p k)) → (∀ i, r ≤ i → i < k → O.lt (kk key p k) (kk key p i) = true) →
      (∀ l, l ≤ k → (∀ i, i < l → O.le (kk key p i) (kk key p k)) → (∀ i, l ≤ i → i < k → O.lt (kk key p k) (kk key p i) = true) → Q l s) → (kas_place p k f l r).kasWp cmp Q s
  | 0, l, r, hlr, hrk, hf, h1, h2, h => h l (by omega) h1 fun i a b => h2 i (by omega) b
  | f + 1, l, r, hlr, hrk, hf, h1, h2, h => by
    unfold kas_place
    split
    · exact h l (by omega) h1 fun i a b => h2 i (by omega) b
    · rename_i hlt
      refine hcmp _ _ _ (hp.lt hN k) (hp.lt hN _) ?_
      cases c : O.lt (kk key p k) (kk key p ((l + r) / 2)) with
      | true =>
        dsimp only; rw [if_pos rfl]
        refine w_place hcmp hN hp ha f l _ (by omega) (by omega) (by omega) h1 (fun i a b => ?_) h
        cases d : O.lt (kk key p k) (kk key p i) with
        | true => rfl
        | false =>
          have := ha ((l + r) / 2) i a b
          rcases O.neg _ (kk key p i) _ c with e | e
          · rw [d] at e; cases e
          · rw [this] at e; cases e
      | false =>
        dsimp only; rw [if_neg Bool.false_ne_true]
        refine w_place hcmp hN hp ha f _ r (by omega) hrk (by omega) (fun i a => ?_) h2 h
        exact Ord'.le_trans (ha i ((l + r) / 2) (by omega) (by omega)) c

theorem kk_bubble {p : Array Nat} {src d : Nat} (hs : src < p.size) (hd : d ≤ src) (k : Nat) : kk key (bubble p src d) k = if k = src - d then kk key p src else if src - d < k ∧ k ≤ src then kk key p (k - 1) else kk key p k := by
  have e := getElem?_bubble hs d hd k
  split
  · rename_i h; rw [if_pos h] at e; exact congrArg key (getD_of e)
  · rename_i h; rw [if_neg h] at e
    split
    · rename_i h2; rw [if_pos h2] at e; exact congrArg key (getD_of e)
    · rename_i h2; rw [if_neg h2] at e; exact congrArg key (getD_of e)

theorem w_bin (hcmp : ∀ i j C, i < N → j < N → C (O.lt (key i) (key j)) s → cmp i j C s) (hN : 0 < N) {Q : Array Nat → Shared → Prop} :
    ∀ (f : Nat) (p : Array Nat) (k : Nat), Bd N p → k + f = N → Asc O key p k → (∀ p', Bd N p' → Asc O key p' N → Q p' s) → (kas_bin f p k).kasWp cmp Q s
  | 0, p, k, hp, hk, ha, h => h p hp (by rw [← hk]; exact ha)
  | f + 1, p, k, hp, hk, ha, h => by
    unfold kas_bin
    rw [KasT.kasWp_bind]
    refine w_place hcmp hN hp ha k 0 k (Nat.zero_le _) (Nat.le_refl _) (by omega) (fun i hi => absurd hi (Nat.not_lt_zero _)) (fun i a b => by omega) fun l hl h1 h2 => ?_
    refine w_bin hcmp hN f _ (k + 1) (hp.perm (bubble_perm _ _ _)) (by omega) ?_ h
    have hs : k < p.size := by rw [hp.1]; omega
    intro i j hij hj
    rw [kk_bubble hs (by omega), kk_bubble hs (by omega)]
    have el : k - (k - l) = l := by omega
    rw [el]
    by_cases c1 : i = l
    · rw [if_pos c1]
      by_cases c2 : j = l
      · rw [if_pos c2]; exact Ord'.le_refl _
      · rw [if_neg c2, if_pos (by omega)]
        exact Ord'.le_of_lt (h2 (j - 1) (by omega) (by omega))
    · rw [if_neg c1]
      by_cases c3 : l < i ∧ i ≤ k
      · rw [if_pos c3, if_neg (by omega), if_pos (by omega)]
        exact ha _ _ (by omega) (by omega)
      · rw [if_neg c3]
        by_cases c2 : j = l
        · rw [if_pos c2]; exact h1 i (by omega)
        · rw [if_neg c2]
          by_cases c4 : l < j ∧ j ≤ k
          · rw [if_pos c4]; exact ha _ _ (by omega) (by omega)
          · rw [if_neg c4]; exact ha _ _ (by omega) (by omega)

theorem w_sort (hcmp : ∀ i j C, i < N → j < N → C (O.lt (key i) (key j)) s → cmp i j C s) (hN : 0 < N) {Q : Array Nat → Shared → Prop} (h : ∀ p, Bd N p → Asc O key p N → Q p s) : (kas_sort N).kasWp cmp Q s := by
  unfold kas_sort
  rw [KasT.kasWp_bind]
  have h0 : Bd N (List.toArray (List.range N)) := ⟨by simp, by simp⟩
  refine w_count hcmp hN h0 fun m p hp h1 h2 ha => ?_
  dsimp only
  split
  · rw [Nat.max_eq_left h1]
    exact w_bin hcmp hN _ p m hp (by omega) ha h
  · have : m = N := by omega
    subst this
    exact h p hp ha
end
end Mine

set_option maxHeartbeats 2000000
namespace Mine

/-! # kinds of data with == and < -/
/-- in this state the comparison ends at once with b -/
noncomputable def Ends (op : CmpOp) (A : Around) (s : Shared) (u v : Value) (b : Bool) : Prop := ∀ (prog : Program) (w : World) (E Q : Value → Shared → Prop) (_ : Q (.bool b) s), wpAny (model prog w) A (richCompare op u v) Q E s
noncomputable abbrev LtAt := Ends .Lt
noncomputable def OneAt (A : Around) (s : Shared) (u v : Value) (b : Bool) : Prop := ∀ (prog : Program) (w : World) (E : Value → Shared → Prop) (Q : Bool → Shared → Prop) (o : Bool), Q b s → wpAny (model prog w) A (oneLt' o u v) Q E s

noncomputable def T1 (I : Imm) (v : Value) : Prop := (∃ i t, v = .int i t) ∨ (∃ x t, v = .str x t) ∨ ∃ a vs, v = .ref a ∧ TupI I a vs
noncomputable def T2 (I : Imm) (v : Value) : Prop := (∃ i t, v = .int i t) ∨ (∃ x t, v = .str x t) ∨ ∃ a vs, v = .ref a ∧ TupI I a vs ∧ ∀ x ∈ vs, T1 I x
theorem T2.t1 {I : Imm} {v : Value} (h : T2 I v) : T1 I v := by
  rcases h with h | h | ⟨a, vs, e, t, _⟩
  · exact .inl h
  · exact .inr (.inl h)
  · exact .inr (.inr ⟨a, vs, e, t⟩)

noncomputable abbrev InH (I : Imm) (h : Heap) : Prop := ∀ a o, I a = some o → h.get? a = some o

/-- the first places at which two tuples differ decide -/
noncomputable def LexOk (A : Around) (s : Shared) : List Value → List Value → Bool → Prop
  | x :: xs, y :: ys, b => ∃ e, EqAt A s x y e ∧ if e = true then LexOk A s xs ys b else LtAt A s x y b ∧ OneAt A s x y b
  | [], [], b => b = false
  | [], _ :: _, b => b = true
  | _ :: _, [], b => b = false
structure Ko (α : Type) [DecidableEq α] extends Kd α where
  dep : Nat
  ord : Ord' α
  tot : ∀ a b, ord.lt a b = false → ord.lt b a = false → a = b
  eq : ∀ {A : Around} {s : Shared} {I : Imm} {a b : α} {u v : Value}, A.units + dep < cLine → InH I s.heap → is I a u → is I b v → EqAt A s u v (decide (a = b))
  lt : ∀ {A : Around} {s : Shared} {I : Imm} {a b : α} {u v : Value}, A.units + dep < cLine → InH I s.heap → is I a u → is I b v → LtAt A s u v (ord.lt a b)
  one : ∀ {A : Around} {s : Shared} {I : Imm} {a b : α} {u v : Value}, A.units + dep < cLine → InH I s.heap → is I a u → is I b v → OneAt A s u v (ord.lt a b)
  t2 : ∀ {I : Imm} {a : α} {u : Value}, is I a u → T2 I u
  inj : ∀ {I : Imm} {a b : α} {u : Value}, is I a u → is I b u → a = b
  lex : ∀ {A : Around} {s : Shared} {I : Imm} {a b : α} {x y : Addr} {xs ys : List Value}, A.units + dep < cLine → InH I s.heap → is I a (.ref x) → is I b (.ref y) → TupI I x xs → TupI I y ys → LexOk A s xs ys (ord.lt a b)

/-! ints, strs -/
noncomputable def ordInt : Ord' Int where
  lt a b := decide (a < b)
  irrefl a := by simp
  neg a b c h := by
    simp only [decide_eq_true_eq] at *
    omega
  asym a b h := by
    simp only [decide_eq_true_eq, decide_eq_false_iff_not] at *
    omega
noncomputable def koInt : Ko Int where
  toKd := kInt
  dep := 0
  ord := ordInt
  tot a b h k := by
    simp only [ordInt, decide_eq_false_iff_not] at h k
    omega
  eq := by
    rintro A s I a b u v _ _ ⟨t, rfl⟩ ⟨t', rfl⟩
    have := EqAt.int_int (A := A) (s := s) a t b t'
    rwa [show (a == b) = decide (a = b) from rfl] at this
  lt := by
    rintro A s I a b u v _ _ ⟨t, rfl⟩ ⟨t', rfl⟩ prog w E Q h
    exact wpAny_lt_int h
  one := by
    rintro A s I a b u v _ _ ⟨t, rfl⟩ ⟨t', rfl⟩ prog w E Q o h
    cases o with
    | true => exact oneLt_int h
    | false =>
      rw [oneLt'_eq]
      simp only [Bool.false_eq_true, if_false]
      exact wpAny_bind (wpAny_lt_int (wpAny_truthy_bool h))
  t2 := fun ⟨t, e⟩ => .inl ⟨_, t, e⟩
  inj := fun ⟨t, e⟩ ⟨t', e'⟩ => by rw [e] at e'; injection e'
  lex := fun _ _ ⟨t, e⟩ => nomatch e

noncomputable def ordStr : Ord' Str where
  lt a b := decide (a.cps.toList < b.cps.toList)
  irrefl a := strKind.irrefl _
  neg a b c h := strKind.negTrans a.cps.toList b.cps.toList c.cps.toList h
  asym a b h := by
    have h' : strKind.blt a.cps.toList b.cps.toList = true := h
    cases q : strKind.blt b.cps.toList a.cps.toList with
    | false => exact q
    | true => have := strKind.trans _ _ _ h' q; rw [strKind.irrefl] at this; cases this
theorem rc_lt_str {prog : Program} {w : World} {A : Around} {E : Value → Shared → Prop} {s : Shared} {a b : Str} {t u : Tok} {Q : Value → Shared → Prop} (h : Q (.bool (decide (a.cps.toList < b.cps.toList))) s) :
    wpAny (model prog w) A (richCompare .Lt (.str a t) (.str b u)) Q E s :=
  wpAny_richCompare_same (op := .Lt) (T := "str") (typeIs_str s a t) (typeIs_str s b u) slot_str_lt (call_str_lt ⟨(fun x => nomatch x), h⟩)
noncomputable def koStr : Ko Str where
  toKd := kStr
  dep := 0
  ord := ordStr
  tot a b h k := by
    have := strKind.total a.cps.toList b.cps.toList h k
    cases a; cases b
    exact congrArg Str.mk (Array.toList_inj.mp this)
  eq := by
    rintro A s I a b u v _ _ ⟨t, rfl⟩ ⟨t', rfl⟩
    have := EqAt.str_str (A := A) (s := s) a t b t'
    rwa [show (a == b) = decide (a = b) from rfl] at this
  lt := by
    rintro A s I a b u v _ _ ⟨t, rfl⟩ ⟨t', rfl⟩ prog w E Q h
    exact rc_lt_str h
  one := by
    rintro A s I a b u v _ _ ⟨t, rfl⟩ ⟨t', rfl⟩ prog w E Q o h
    cases o with
    | true => exact oneLt_str h
    | false =>
      rw [oneLt'_eq]
      simp only [Bool.false_eq_true, if_false]
      exact wpAny_bind (rc_lt_str (wpAny_truthy_bool h))
  t2 := fun ⟨t, e⟩ => .inr (.inl ⟨_, t, e⟩)
  inj := fun ⟨t, e⟩ ⟨t', e'⟩ => by rw [e] at e'; injection e'
  lex := fun _ _ ⟨t, e⟩ => nomatch e

/-! tuples -/
section
variable {prog : Program} {w : World} {A : Around} {E : Value → Shared → Prop} {s : Shared}

theorem tuple_lt_tree {x y : Addr} {xs ys : List Value} {b : Bool} {P : Fin → Shared → Prop} (hx : s.heap.IsTuple x xs.toArray) (hy : s.heap.IsTuple y ys.toArray) (h : LexOk A s xs ys b) (k : P (.done (.ret (.bool b))) s) :
    wpAny (model prog w) A (Builtin.«tuple.__lt__» ⟨[.ref x, .ref y], []⟩) P E s := by
  have hTb : s.TypeIs (.ref y) "tuple" := hy.typeIs
  obtain ⟨ox, hox, _, nx, hdx⟩ := hx
  obtain ⟨oy, hoy, _, ny, hdy⟩ := hy
  show wpAny _ _ (isInstance (.ref y) (.type "tuple") >>= _) _ _ s
  refine wpAny_bind (wpAny_isInstance hTb isSubtype_tuple_tuple ?_)
  simp only [Bool.not_true, Bool.false_eq_true, if_false]
  refine wpAny_bind (wpAny_tupleItemsOf hox hdx ?_)
  refine wpAny_bind (wpAny_tupleItemsOf hoy hdy ?_)
  refine wpAny_bind ?_
  refine wpAny_forIn_list _
    (fun rest r s' => r.1 = none ∧ s' = s ∧ ∃ xs' ys', rest = List.zip xs' ys' ∧ LexOk A s xs' ys' b ∧ (xs'.length < ys'.length ↔ xs.length < ys.length))
    _ ?_ ?_ _ _ ⟨rfl, rfl, xs, ys, rfl, h, Iff.rfl⟩
  · rintro ⟨u, v⟩ rest r s' ⟨hr, rfl, xs', ys', hz, hl, hlen⟩
    cases xs' with
    | nil => simp at hz
    | cons u' xs' =>
      cases ys' with
      | nil => simp at hz
      | cons v' ys' =>
        simp only [List.zip_cons_cons, List.cons.injEq, Prod.mk.injEq] at hz
        obtain ⟨⟨rfl, rfl⟩, rfl⟩ := hz
        obtain ⟨e, he, hl⟩ := hl
        refine wpAny_bind (he prog w _ _ ?_)
        cases e with
        | true =>
          simp only [Bool.not_true, Bool.false_eq_true, if_false]
          simp only [if_true] at hl
          exact wpAny_pure ⟨rfl, rfl, xs', ys', rfl, hl, by simpa using hlen⟩
        | false =>
          simp only [Bool.not_false, if_true]
          simp only [Bool.false_eq_true, if_false] at hl
          refine wpAny_bind (wpAny_rule (wpAny_bind (hl.1 prog w _ _ ?_)))
          exact wpAny_bind (wpAny_pure (wpAny_pure (wpAny_pure k)))
  · rintro ⟨r1, r2⟩ s' ⟨hr, rfl, xs', ys', hz, hl, hlen⟩
    simp only at hr
    subst hr
    refine wpAny_pure ?_
    have : b = decide (xs.length < ys.length) := by
      cases xs' with
      | nil =>
        cases ys' with
        | nil => rw [show b = false from hl]; simp at hlen; simp [hlen]
        | cons _ _ => rw [show b = true from hl]; simp at hlen; simp [hlen]
      | cons _ _ =>
        cases ys' with
        | nil => rw [show b = false from hl]; simp at hlen; simp [hlen]
        | cons _ _ => simp at hz
    rw [this] at k
    simpa [Builtin.Tuple.tupleCompareSizes] using k

theorem call_tuple_lt {x y : Addr} {xs ys : List Value} {b : Bool} {Q : Value → Shared → Prop} (hx : s.heap.IsTuple x xs.toArray) (hy : s.heap.IsTuple y ys.toArray) (h : LexOk A.in1 s xs ys b) (k : Q (.bool b) s) :
    wpAny (model prog w) A (call (.builtin "tuple.__lt__") [.ref x, .ref y]) Q E s :=
  wpAny_call_entry F.slot_tuple_lt hx.typeIs F.entry_tuple_lt (tuple_lt_tree hx hy h ⟨_, rfl, k⟩) (F.args_tuple_lt_2 _ _)
end

theorem LtAt.tuples {A : Around} {s : Shared} {x y : Addr} {xs ys : List Value} {b : Bool} (hu : A.units < cLine) (hx : s.heap.IsTuple x xs.toArray) (hy : s.heap.IsTuple y ys.toArray) (h : LexOk A.in1 s xs ys b) : LtAt A s (.ref x) (.ref y) b :=
  fun prog w E Q k => wpAny_richCompare_same_room (op := .Lt) hx.typeIs hy.typeIs F.slot_tuple_lt (call_tuple_lt hx hy h ⟨(fun z => nomatch z), k⟩) hu
theorem OneAt.tuples {A : Around} {s : Shared} {x y : Addr} {xs ys : List Value} {b : Bool} (hu : A.units < cLine) (hx : s.heap.IsTuple x xs.toArray) (hy : s.heap.IsTuple y ys.toArray) (h : LexOk A.in1 s xs ys b) : OneAt A s (.ref x) (.ref y) b := by
  intro prog w E Q o k
  rw [oneLt'_eq]
  cases o with
  | true =>
    simp only [if_true]
    refine wpAny_bind (wpAny_cRoomFor hu ?_)
    refine wpAny_bind (wpAny_callSpecialIfBound?_slot hx.typeIs F.slot_tuple_lt (call_tuple_lt hx hy h ?_))
    exact wpAny_truthy_bool k
  | false =>
    simp only [Bool.false_eq_true, if_false]
    exact wpAny_bind (LtAt.tuples hu hx hy h prog w _ _ (wpAny_truthy_bool k))

theorem eq_tups {A : Around} {s : Shared} {x y : Addr} {xs ys : List Value} {b : Bool} (e : Nat → Bool) (hu : A.units < cLine) (hx : s.heap.IsTuple x xs.toArray) (hy : s.heap.IsTuple y ys.toArray)
    (he : ∀ j (h1 : j < xs.length) (h2 : j < ys.length), EqAt A.in1 s xs[j] ys[j] (e j)) (hb : ((List.range (min xs.length ys.length)).all e && xs.length == ys.length) = b) (hr : x = y → b = true) : EqAt A s (.ref x) (.ref y) b := by
  by_cases hxy : x = y
  · subst hxy; rw [hr rfl]; exact EqAt.same _
  · refine .of_refs hxy ?_
    have := RcAt.tuples (e := e) hx hy hu (fun j h1 h2 => by simpa using he j (by simpa using h1) (by simpa using h2))
    simp only [List.size_toArray] at this
    rwa [hb] at this

/-! pairs -/
section
variable {α β : Type} [DecidableEq α] [DecidableEq β]
noncomputable def ordPair (O : Ord' α) (P : Ord' β) (tO : ∀ a b, O.lt a b = false → O.lt b a = false → a = b) : Ord' (α × β) where
  lt a b := if a.1 = b.1 then P.lt a.2 b.2 else O.lt a.1 b.1
  irrefl a := by rw [if_pos rfl]; exact P.irrefl _
  neg a b c h := by
    by_cases h1 : a.1 = b.1
    · rw [if_pos h1]
      by_cases h2 : b.1 = c.1
      · rw [if_pos h2]
        rw [if_pos (h1.trans h2)] at h
        exact P.neg _ _ _ h
      · rw [if_neg h2]
        rw [if_neg (fun q => h2 (h1.symm.trans q))] at h
        rw [h1] at h
        exact .inr h
    · rw [if_neg h1]
      by_cases h2 : b.1 = c.1
      · rw [if_pos h2]
        rw [if_neg (fun q => h1 (q.trans h2.symm))] at h
        rw [← h2] at h
        exact .inl h
      · rw [if_neg h2]
        by_cases h3 : a.1 = c.1
        · rw [if_pos h3] at h
          cases q : O.lt a.1 b.1 with
          | true => exact .inl rfl
          | false =>
            refine .inr ?_
            cases q2 : O.lt b.1 c.1 with
            | true => rfl
            | false => rw [← h3] at q2; exact absurd (tO _ _ q q2) h1
        · rw [if_neg h3] at h
          exact O.neg _ _ _ h
  asym a b h := by
    by_cases h1 : a.1 = b.1
    · rw [if_pos h1] at h; rw [if_pos h1.symm]; exact P.asym _ _ h
    · rw [if_neg h1] at h; rw [if_neg (fun q => h1 q.symm)]; exact O.asym _ _ h
theorem totPair {O : Ord' α} {P : Ord' β} (tO : ∀ a b, O.lt a b = false → O.lt b a = false → a = b) (tP : ∀ a b, P.lt a b = false → P.lt b a = false → a = b) (a b : α × β)
    (h : (ordPair O P tO).lt a b = false) (k : (ordPair O P tO).lt b a = false) : a = b := by
  have h' : (if a.1 = b.1 then P.lt a.2 b.2 else O.lt a.1 b.1) = false := h
  have k' : (if b.1 = a.1 then P.lt b.2 a.2 else O.lt b.1 a.1) = false := k
  by_cases h1 : a.1 = b.1
  · rw [if_pos h1] at h'; rw [if_pos h1.symm] at k'
    exact Prod.ext h1 (tP _ _ h' k')
  · rw [if_neg h1] at h'; rw [if_neg (fun q => h1 q.symm)] at k'
    exact absurd (tO _ _ h' k') h1

variable (k : Ko α) (l : Ko β)
theorem in1_lt {A : Around} {d e : Nat} (h : A.units + (d + 1) < cLine) (he : e ≤ d) : A.in1.units + e < cLine := by show A.units + 1 + e < cLine; omega
theorem pair_lex {A : Around} {s : Shared} {I : Imm} {a b : α × β} {x y x' y' : Value} (u1 : A.units + k.dep < cLine) (u2 : A.units + l.dep < cLine) (hI : InH I s.heap) (hx : k.is I a.1 x) (hy : l.is I a.2 y) (hx' : k.is I b.1 x') (hy' : l.is I b.2 y') :
    LexOk A s [x, y] [x', y'] ((ordPair k.ord l.ord k.tot).lt a b) := by
  refine ⟨_, k.eq u1 hI hx hx', ?_⟩
  have e : (ordPair k.ord l.ord k.tot).lt a b = if a.1 = b.1 then l.ord.lt a.2 b.2 else k.ord.lt a.1 b.1 := rfl
  by_cases h1 : a.1 = b.1
  · rw [decide_eq_true h1, if_pos rfl, e, if_pos h1]
    refine ⟨_, l.eq u2 hI hy hy', ?_⟩
    by_cases h2 : a.2 = b.2
    · rw [decide_eq_true h2, if_pos rfl, h2]
      exact l.ord.irrefl _
    · rw [decide_eq_false h2, if_neg Bool.false_ne_true]
      exact ⟨l.lt u2 hI hy hy', l.one u2 hI hy hy'⟩
  · rw [decide_eq_false h1, if_neg Bool.false_ne_true, e, if_neg h1]
    exact ⟨k.lt u1 hI hx hx', k.one u1 hI hx hx'⟩
noncomputable def koPair : Ko (α × β) where
  toKd := kPair k.toKd l.toKd
  dep := max k.dep l.dep + 1
  ord := ordPair k.ord l.ord k.tot
  tot := totPair k.tot l.tot
  eq := by
    rintro A s I a b u v hu hI ⟨t, x, y, rfl, ht, hx, hy⟩ ⟨t', x', y', rfl, ht', hx', hy'⟩
    have u1 := in1_lt hu (Nat.le_max_left k.dep l.dep)
    have u2 := in1_lt hu (Nat.le_max_right k.dep l.dep)
    refine eq_tups (fun j => if j = 0 then decide (a.1 = b.1) else decide (a.2 = b.2)) (by omega) (ht.at' hI) (ht'.at' hI) ?_ ?_ ?_
    · intro j h1 h2
      match j, h1, h2 with
      | 0, _, _ => exact k.eq u1 hI hx hx'
      | 1, _, _ => exact l.eq u2 hI hy hy'
      | j + 2, h1, _ => exact absurd h1 (by simp)
    · show (List.all [0, 1] _ && true) = _
      simp only [List.all_cons, List.all_nil, if_pos, Nat.one_ne_zero, if_false, Bool.and_true]
      by_cases h1 : a.1 = b.1
      · by_cases h2 : a.2 = b.2
        · rw [decide_eq_true h1, decide_eq_true h2, decide_eq_true (Prod.ext h1 h2)]; rfl
        · rw [decide_eq_true h1, decide_eq_false h2, decide_eq_false (p := a = b) (fun q => h2 (by rw [q]))]; rfl
      · rw [decide_eq_false h1, decide_eq_false (p := a = b) (fun q => h1 (by rw [q]))]; rfl
    · intro e
      subst e
      have := ht.inj ht'
      injection this with e1 e2
      injection e2 with e2 _
      subst e1 e2
      exact decide_eq_true (Prod.ext (k.inj hx hx') (l.inj hy hy'))
  lt := by
    rintro A s I a b u v hu hI ⟨t, x, y, rfl, ht, hx, hy⟩ ⟨t', x', y', rfl, ht', hx', hy'⟩
    exact LtAt.tuples (by omega) (ht.at' hI) (ht'.at' hI) (pair_lex k l (in1_lt hu (Nat.le_max_left k.dep l.dep)) (in1_lt hu (Nat.le_max_right k.dep l.dep)) hI hx hy hx' hy')
  one := by
    rintro A s I a b u v hu hI ⟨t, x, y, rfl, ht, hx, hy⟩ ⟨t', x', y', rfl, ht', hx', hy'⟩
    exact OneAt.tuples (by omega) (ht.at' hI) (ht'.at' hI) (pair_lex k l (in1_lt hu (Nat.le_max_left k.dep l.dep)) (in1_lt hu (Nat.le_max_right k.dep l.dep)) hI hx hy hx' hy')
  t2 := by
    rintro I a u ⟨t, x, y, rfl, ht, hx, hy⟩
    refine .inr (.inr ⟨t, _, rfl, ht, ?_⟩)
    intro z hz
    rcases List.mem_cons.mp hz with rfl | hz
    · exact (k.t2 hx).t1
    · rw [List.mem_singleton.mp hz]; exact (l.t2 hy).t1
  inj := by
    rintro I a b u ⟨t, x, y, rfl, ht, hx, hy⟩ ⟨t', x', y', e, ht', hx', hy'⟩
    injection e with e
    subst e
    have := ht.inj ht'
    injection this with e1 e2
    injection e2 with e2 _
    subst e1 e2
    exact Prod.ext (k.inj hx hx') (l.inj hy hy')
  lex := by
    rintro A s I a b p q xs ys hu hI ⟨t, x, y, e, ht, hx, hy⟩ ⟨t', x', y', e', ht', hx', hy'⟩ h1 h2
    injection e with e
    injection e' with e'
    subst e e'
    rw [h1.inj ht, h2.inj ht']
    exact pair_lex k l (by omega) (by omega) hI hx hy hx' hy'
end

/-! lists of data as tuples -/
section
variable {α : Type} [DecidableEq α]
noncomputable def ltL (O : Ord' α) : List α → List α → Bool
  | [], [] => false
  | [], _ :: _ => true
  | _ :: _, [] => false
  | a :: l, b :: r => if a = b then ltL O l r else O.lt a b
theorem ltL_cons (O : Ord' α) (a b : α) (l r : List α) : ltL O (a :: l) (b :: r) = if a = b then ltL O l r else O.lt a b := rfl
theorem ltL_irrefl (O : Ord' α) : ∀ l, ltL O l l = false
  | [] => rfl
  | a :: l => by rw [ltL_cons, if_pos rfl]; exact ltL_irrefl O l
theorem ltL_asym (O : Ord' α) : ∀ l r, ltL O l r = true → ltL O r l = false
  | [], [], h => rfl
  | [], _ :: _, _ => rfl
  | _ :: _, [], h => by cases h
  | a :: l, b :: r, h => by
    rw [ltL_cons] at h ⊢
    by_cases e : a = b
    · rw [if_pos e] at h; rw [if_pos e.symm]; exact ltL_asym O l r h
    · rw [if_neg e] at h; rw [if_neg (fun q => e q.symm)]; exact O.asym _ _ h
theorem ltL_neg (O : Ord' α) (tO : ∀ a b, O.lt a b = false → O.lt b a = false → a = b) : ∀ l r q, ltL O l q = true → ltL O l r = true ∨ ltL O r q = true
  | [], [], q, h => .inr h
  | [], _ :: _, _, _ => .inl rfl
  | _ :: _, _, [], h => by cases h
  | _ :: _, [], _ :: _, _ => .inr rfl
  | a :: l, b :: r, c :: q, h => by
    rw [ltL_cons] at h
    rw [ltL_cons, ltL_cons]
    by_cases h1 : a = b
    · rw [if_pos h1]
      by_cases h2 : b = c
      · rw [if_pos h2]
        rw [if_pos (h1.trans h2)] at h
        exact ltL_neg O tO l r q h
      · rw [if_neg h2]
        rw [if_neg (fun z => h2 (h1.symm.trans z))] at h
        rw [h1] at h
        exact .inr h
    · rw [if_neg h1]
      by_cases h2 : b = c
      · rw [if_pos h2]
        rw [if_neg (fun z => h1 (z.trans h2.symm)), ← h2] at h
        exact .inl h
      · rw [if_neg h2]
        by_cases h3 : a = c
        · cases z : O.lt a b with
          | true => exact .inl rfl
          | false =>
            refine .inr ?_
            cases z2 : O.lt b c with
            | true => rfl
            | false => rw [← h3] at z2; exact absurd (tO _ _ z z2) h1
        · rw [if_neg h3] at h
          exact O.neg _ _ _ h
theorem ltL_tot (O : Ord' α) (tO : ∀ a b, O.lt a b = false → O.lt b a = false → a = b) : ∀ l r, ltL O l r = false → ltL O r l = false → l = r
  | [], [], _, _ => rfl
  | [], _ :: _, h, _ => by cases h
  | _ :: _, [], _, h => by cases h
  | a :: l, b :: r, h, k => by
    rw [ltL_cons] at h k
    by_cases e : a = b
    · rw [if_pos e] at h; rw [if_pos e.symm] at k; rw [e, ltL_tot O tO l r h k]
    · rw [if_neg e] at h; rw [if_neg (fun q => e q.symm)] at k
      exact absurd (tO _ _ h k) e
noncomputable def ordList (O : Ord' α) (tO : ∀ a b, O.lt a b = false → O.lt b a = false → a = b) : Ord' (List α) := ⟨ltL O, ltL_irrefl O, ltL_neg O tO, ltL_asym O⟩

variable (k : Ko α)
theorem list_lex {A : Around} {s : Shared} {I : Imm} (hu : A.units + k.dep < cLine) (hI : InH I s.heap) : ∀ {l r : List α} {xs ys : List Value}, Are k.toKd I l xs → Are k.toKd I r ys → LexOk A s xs ys (ltL k.ord l r)
  | [], [], [], [], _, _ => rfl
  | [], _ :: _, [], _ :: _, _, _ => rfl
  | _ :: _, [], _ :: _, [], _, _ => rfl
  | a :: l, b :: r, x :: xs, y :: ys, ⟨h1, h2⟩, ⟨h3, h4⟩ => by
    refine ⟨_, k.eq hu hI h1 h3, ?_⟩
    rw [ltL_cons]
    by_cases e : a = b
    · rw [decide_eq_true e, if_pos rfl, if_pos e]; exact list_lex hu hI h2 h4
    · rw [decide_eq_false e, if_neg Bool.false_ne_true, if_neg e]; exact ⟨k.lt hu hI h1 h3, k.one hu hI h1 h3⟩
theorem are_eq {A : Around} {s : Shared} {I : Imm} (hu : A.units + k.dep < cLine) (hI : InH I s.heap) : ∀ {l r : List α} {xs ys : List Value}, Are k.toKd I l xs → Are k.toKd I r ys →
    ∀ j (h1 : j < xs.length) (h2 : j < ys.length), EqAt A s xs[j] ys[j] (decide (l[j]? = r[j]?))
  | a :: l, b :: r, x :: xs, y :: ys, ⟨h1, h2⟩, ⟨h3, h4⟩, 0, _, _ => by
    have := k.eq hu hI h1 h3
    simpa using this
  | a :: l, b :: r, x :: xs, y :: ys, ⟨h1, h2⟩, ⟨h3, h4⟩, j + 1, q1, q2 => by
    have := are_eq hu hI h2 h4 j (by simpa using q1) (by simpa using q2)
    simpa using this
  | [], _, [], _, _, _, _, q1, _ => absurd q1 (by simp)
  | _ :: _, [], _ :: _, [], _, _, _, _, q2 => absurd q2 (by simp)
theorem all_eq (l r : List α) : ((List.range (min l.length r.length)).all (fun j => decide (l[j]? = r[j]?)) && l.length == r.length) = decide (l = r) := by
  rw [Bool.eq_iff_iff, Bool.and_eq_true, List.all_eq_true, decide_eq_true_eq, beq_iff_eq]
  constructor
  · rintro ⟨h, e⟩
    apply List.ext_getElem? 
    intro i
    by_cases hi : i < l.length
    · exact of_decide_eq_true (h i (List.mem_range.mpr (by omega)))
    · rw [List.getElem?_eq_none (by omega), List.getElem?_eq_none (by omega)]
  · rintro rfl
    exact ⟨fun _ _ => decide_eq_true rfl, rfl⟩
theorem Are.inj {I : Imm} : ∀ {l r : List α} {xs : List Value}, Are k.toKd I l xs → Are k.toKd I r xs → l = r
  | [], [], [], _, _ => rfl
  | [], _ :: _, [], _, h => h.elim
  | _ :: _, [], [], h, _ => h.elim
  | [], _, _ :: _, h, _ => h.elim
  | _ :: _, [], _ :: _, _, h => h.elim
  | _ :: _, _ :: _, _ :: _, ⟨h1, h2⟩, ⟨h3, h4⟩ => by rw [k.inj h1 h3, Are.inj h2 h4]
theorem Are.t1 {I : Imm} : ∀ {l : List α} {xs : List Value}, Are k.toKd I l xs → ∀ x ∈ xs, T1 I x
  | [], [], _, x, hx => nomatch hx
  | _ :: _, _ :: _, ⟨h1, h2⟩, x, hx => by
    rcases List.mem_cons.mp hx with rfl | hx
    · exact (k.t2 h1).t1
    · exact Are.t1 h2 x hx
noncomputable def koList : Ko (List α) where
  toKd := kList k.toKd
  dep := k.dep + 1
  ord := ordList k.ord k.tot
  tot := ltL_tot k.ord k.tot
  eq := by
    rintro A s I a b u v hu hI ⟨t, xs, rfl, ht, hx⟩ ⟨t', ys, rfl, ht', hy⟩
    have u1 : A.in1.units + k.dep < cLine := in1_lt hu (Nat.le_refl _)
    refine eq_tups _ (by omega) (ht.at' hI) (ht'.at' hI) (are_eq k u1 hI hx hy) ?_ ?_
    · rw [hx.length, hy.length]; exact all_eq a b
    · intro e
      subst e
      have := ht.inj ht'
      subst this
      exact decide_eq_true (Are.inj k hx hy)
  lt := by
    rintro A s I a b u v hu hI ⟨t, xs, rfl, ht, hx⟩ ⟨t', ys, rfl, ht', hy⟩
    exact LtAt.tuples (by omega) (ht.at' hI) (ht'.at' hI) (list_lex k (in1_lt hu (Nat.le_refl _)) hI hx hy)
  one := by
    rintro A s I a b u v hu hI ⟨t, xs, rfl, ht, hx⟩ ⟨t', ys, rfl, ht', hy⟩
    exact OneAt.tuples (by omega) (ht.at' hI) (ht'.at' hI) (list_lex k (in1_lt hu (Nat.le_refl _)) hI hx hy)
  t2 := by
    rintro I a u ⟨t, xs, rfl, ht, hx⟩
    exact .inr (.inr ⟨t, xs, rfl, ht, Are.t1 k hx⟩)
  inj := by
    rintro I a b u ⟨t, xs, rfl, ht, hx⟩ ⟨t', ys, e, ht', hy⟩
    injection e with e
    subst e
    have := ht.inj ht'
    subst this
    exact Are.inj k hx hy
  lex := by
    rintro A s I a b p q xs ys hu hI ⟨t, xs', e, ht, hx⟩ ⟨t', ys', e', ht', hy⟩ h1 h2
    injection e with e
    injection e' with e'
    subst e e'
    rw [h1.inj ht, h2.inj ht']
    exact list_lex k (by omega) hI hx hy
end

/-! lists compared; a datum in a list -/
section
variable {α : Type} [DecidableEq α] (k : Ko α) {prog : Program} {w : World} {A : Around} {E : Value → Shared → Prop} {s : Shared} {I : Imm} {l r : List α} {a b : Addr} {xs ys : List Value} {Q : Value → Shared → Prop}
theorem all_eq' (h : l.length = r.length) : (List.range l.length).all (fun j => decide (l[j]? = r[j]?)) = decide (l = r) := by
  have := all_eq l r
  rw [← h, Nat.min_self, beq_self_eq_true, Bool.and_true] at this
  exact this
theorem eq_lists (hu : A.units + (k.dep + 1) < cLine) (hI : InH I s.heap) (ha : s.heap.IsList a xs.toArray) (hb : s.heap.IsList b ys.toArray) (hx : Are k.toKd I l xs) (hy : Are k.toKd I r ys) (h : Q (.bool (decide (l = r))) s) :
    wpAny (model prog w) A (compareOp .Eq (.ref a) (.ref b)) Q E s := by
  have u1 : A.in1.units + k.dep < cLine := in1_lt hu (Nat.le_refl _)
  by_cases hl : l.length = r.length
  · refine eq_listAt (e := fun j => decide (l[j]? = r[j]?)) ha hb (by simp [hx.length, hy.length, hl]) (by omega) (fun j h1 h2 => by simpa using are_eq k u1 hI hx hy j (by simpa using h1) (by simpa using h2)) ?_
    rw [List.size_toArray, hx.length, all_eq' hl]; exact h
  · refine eq_list_lengthsAt ha hb (by simp [hx.length, hy.length, hl]) (by omega) ?_
    rw [decide_eq_false (fun q => hl (by rw [q]))] at h; exact h
theorem ne_lists (hu : A.units + (k.dep + 1) < cLine) (hI : InH I s.heap) (ha : s.heap.IsList a xs.toArray) (hb : s.heap.IsList b ys.toArray) (hx : Are k.toKd I l xs) (hy : Are k.toKd I r ys) (h : Q (.bool (!decide (l = r))) s) :
    wpAny (model prog w) A (compareOp .NotEq (.ref a) (.ref b)) Q E s := by
  have u1 : A.in1.units + k.dep < cLine := in1_lt hu (Nat.le_refl _)
  by_cases hl : l.length = r.length
  · refine (RcNeAt.lists (e := fun j => decide (l[j]? = r[j]?)) ha hb (by simp [hx.length, hy.length, hl]) (by omega) (fun j h1 h2 => by simpa using are_eq k u1 hI hx hy j (by simpa using h1) (by simpa using h2))) prog w E Q ?_
    rw [List.size_toArray, hx.length, all_eq' hl]; exact h
  · refine (RcNeAt.lists_lengths ha hb (by simp [hx.length, hy.length, hl]) (by omega)) prog w E Q ?_
    rw [decide_eq_false (fun q => hl (by rw [q]))] at h; exact h
noncomputable def inB (p : Prop) : Bool := @decide p (Classical.propDecidable p)
theorem inB_t {p : Prop} (h : p) : inB p = true := @decide_eq_true p (Classical.propDecidable p) h
theorem inB_f {p : Prop} (h : ¬ p) : inB p = false := @decide_eq_false p (Classical.propDecidable p) h
theorem notIn_list (hu : A.units + (k.dep + 1) < cLine) (hI : InH I s.heap) (ha : s.heap.IsList a xs.toArray) (hx : Are k.toKd I l xs) {d : α} {v : Value} (hv : k.is I d v) (h : Q (.bool (!decide (d ∈ l))) s) :
    wpAny (model prog w) A (compareOp .NotIn v (.ref a)) Q E s := by
  have u1 : A.in1.units + k.dep < cLine := in1_lt hu (Nat.le_refl _)
  have key : ∀ {l : List α} {xs : List Value}, Are k.toKd I l xs → ∃ (e : Value → Bool), (∀ y ∈ xs, EqAt A.in1 s y v (e y)) ∧ xs.any e = decide (d ∈ l) := by
    intro l xs hx
    refine ⟨fun y => inB (k.is I d y), ?_, ?_⟩
    · intro y hy
      have : ∀ {l : List α} {xs : List Value}, Are k.toKd I l xs → y ∈ xs → ∃ c, k.is I c y := by
        intro l
        induction l with
        | nil => intro xs hx hy; cases xs with
          | nil => cases hy
          | cons _ _ => exact hx.elim
        | cons c l ih => intro xs hx hy; cases xs with
          | nil => exact hx.elim
          | cons z xs =>
            rcases List.mem_cons.mp hy with rfl | hy
            · exact ⟨c, hx.1⟩
            · exact ih hx.2 hy
      obtain ⟨c, hc⟩ := this hx hy
      have e1 := k.eq u1 hI hc hv
      have : inB (k.is I d y) = decide (c = d) := by
        by_cases q : c = d
        · subst q; rw [decide_eq_true rfl]; exact inB_t hc
        · rw [decide_eq_false q]; exact inB_f (fun z => q (k.inj hc z))
      show EqAt A.in1 s y v (inB (k.is I d y))
      rw [this]; exact e1
    · induction l generalizing xs with
      | nil => cases xs with
        | nil => simp
        | cons _ _ => exact hx.elim
      | cons c l ih => cases xs with
        | nil => exact hx.elim
        | cons z xs =>
          rw [List.any_cons, ih hx.2]
          have : inB (k.is I d z) = decide (d = c) := by
            by_cases q : d = c
            · subst q; rw [decide_eq_true rfl]; exact inB_t hx.1
            · rw [decide_eq_false q]; exact inB_f (fun y => q (k.inj y hx.1))
          rw [this, Bool.eq_iff_iff]
          simp
  obtain ⟨e, h1, h2⟩ := key hx
  refine notIn_listAt e ha (fun y hy => h1 y (by simpa using hy)) ?_
  rw [show xs.toArray.any e = xs.any e by simp, h2]; exact h
end
end Mine

set_option maxHeartbeats 2000000
namespace Mine

section
variable {M : Model} {A : Around} {E : Value → Shared → Prop} {s : Shared} {I : Imm}
theorem typ1 {v : Value} (hI : InH I s.heap) (h : T1 I v) : ∃ T, s.TypeIs v T := by
  rcases h with ⟨i, t, rfl⟩ | ⟨x, t, rfl⟩ | ⟨a, vs, rfl, n, e⟩
  · exact ⟨"int", rfl⟩
  · exact ⟨"str", rfl⟩
  · exact ⟨"tuple", _, hI _ _ e, rfl⟩
theorem mapM_any {α β : Type} {f : α → Sem β} {G : α → β → Prop} : ∀ (l : List α) {Q : List β → Shared → Prop}, (∀ v ∈ l, ∀ (Q' : β → Shared → Prop), (∀ r, G v r → Q' r s) → wpAny M A (f v) Q' E s) →
    (∀ rs : List β, rs.length = l.length → (∀ r ∈ rs, ∃ v ∈ l, G v r) → (∀ v ∈ l, ∃ r ∈ rs, G v r) → Q rs s) → wpAny M A (l.mapM f) Q E s
  | [], _, _, h => by rw [List.mapM_nil]; exact wpAny_pure (h [] rfl (fun _ q => nomatch q) (fun _ q => nomatch q))
  | x :: l, Q, hf, h => by
    rw [List.mapM_cons]
    refine wpAny_bind (hf x (.head _) _ fun r hr => wpAny_bind (mapM_any l (fun v hv => hf v (.tail _ hv)) fun rs e h1 h2 => wpAny_pure (h (r :: rs) (by simp [e]) ?_ ?_)))
    · intro q hq
      rcases List.mem_cons.mp hq with rfl | hq
      · exact ⟨x, .head _, hr⟩
      · obtain ⟨v, hv, g⟩ := h1 q hq; exact ⟨v, .tail _ hv, g⟩
    · intro q hq
      rcases List.mem_cons.mp hq with rfl | hq
      · exact ⟨r, .head _, hr⟩
      · obtain ⟨v, hv, g⟩ := h2 q hq; exact ⟨v, .tail _ hv, g⟩
theorem oneTypeOnly_any {vs : List Value} {Q : Option Value → Shared → Prop} (hI : InH I s.heap) (h1 : ∀ v ∈ vs, T1 I v) (h : ∀ o, Q o s) : wpAny M A (oneTypeOnly' vs.toArray) Q E s := by
  rw [oneTypeOnly'_eq, List.mapM_toArray, map_eq_pure_bind]
  refine wpAny_bind (wpAny_bind (mapM_any (G := fun _ _ => True) vs (fun v hv Q' hq => ?_) fun rs _ _ _ => wpAny_pure ?_))
  · obtain ⟨T, hT⟩ := typ1 hI (h1 v hv)
    exact wpAny_typeOf hT (hq _ trivial)
  · split
    · exact wpAny_pure (h _)
    · exact wpAny_pure (h _)
noncomputable def FirstG (I : Imm) (v : Value) (r : Option Value) : Prop := r = none ∨ ∃ x, r = some x ∧ T1 I x ∧ ∃ a vs, v = .ref a ∧ TupI I a vs
theorem first_any {v : Value} {Q : Option Value → Shared → Prop} (hI : InH I s.heap) (h2 : T2 I v) (h : ∀ r, FirstG I v r → Q r s) : wpAny M A (firstOfTuple' v) Q E s := by
  rw [kas_first_eq]
  rcases h2 with ⟨i, t, rfl⟩ | ⟨x, t, rfl⟩ | ⟨a, vs, rfl, ⟨n, e⟩, hv⟩
  · refine wpAny_bind (wpAny_typeOf (T := "int") rfl ?_)
    rw [if_pos (by decide)]
    exact wpAny_pure (h _ (.inl rfl))
  · refine wpAny_bind (wpAny_typeOf (T := "str") rfl ?_)
    rw [if_pos (by decide)]
    exact wpAny_pure (h _ (.inl rfl))
  · refine wpAny_bind (wpAny_typeOf (T := "tuple") ⟨_, hI _ _ e, rfl⟩ ?_)
    rw [if_neg (by decide)]
    refine wpAny_bind (listItems_at (hI _ _ e) rfl (wpAny_pure ?_))
    cases q : vs.toArray[0]? with
    | none => exact h _ (.inl rfl)
    | some x => exact h _ (.inr ⟨x, rfl, hv x (by have := Array.mem_of_getElem? q; simpa using this), a, vs, rfl, n, e⟩)
/-- what the sort takes its keys for -/
theorem keyKind_any {vs : List Value} {Q : SortKind → Shared → Prop} (hI : InH I s.heap) (h2 : ∀ v ∈ vs, T2 I v) (hg : Q general' s) (ho : Q oneType' s) (ht : (∀ v ∈ vs, ∃ a xs, v = .ref a ∧ TupI I a xs) → ∀ b, Q (tuples' b) s) :
    wpAny M A (keyKind' vs.toArray) Q E s := by
  rw [kat_kind_eq, List.mapM_toArray, map_eq_pure_bind]
  refine wpAny_bind (wpAny_bind (mapM_any (G := FirstG I) vs (fun v hv Q' hq => first_any hI (h2 v hv) hq) fun rs hl h3 h4 => wpAny_pure ?_))
  by_cases hall : (rs.toArray.all fun x => x.isSome) = true
  · rw [if_pos hall]
    have hall' : ∀ r ∈ rs, r.isSome = true := by simpa using hall
    refine wpAny_bind (wpAny_rule ?_)
    have e : rs.toArray.filterMap id = (rs.filterMap id).toArray := by simp
    rw [e]
    refine wpAny_bind (oneTypeOnly_any hI ?_ fun o => wpAny_pure (ht ?_ _))
    · intro x hx
      obtain ⟨r, hr, e⟩ := List.mem_filterMap.mp hx
      obtain ⟨v, hv, g⟩ := h3 r hr
      rcases g with g | ⟨y, g, t, _⟩
      · rw [g] at e; cases e
      · rw [g] at e; cases e; exact t
    · intro v hv
      obtain ⟨r, hr, g⟩ := h4 v hv
      have := hall' r hr
      rcases g with g | ⟨y, g, t, a, xs, e, tt⟩
      · rw [g] at this; cases this
      · exact ⟨a, xs, e, tt⟩
  · rw [if_neg hall]
    split
    · exact wpAny_pure hg
    · refine wpAny_bind (oneTypeOnly_any hI (fun v hv => (h2 v hv).t1) fun o => ?_)
      split
      · exact wpAny_pure ho
      · exact wpAny_pure hg
end

section
variable {α : Type} [DecidableEq α] (k : Ko α) {prog : Program} {w : World} {A : Around} {E : Value → Shared → Prop} {s : Shared} {I : Imm}
theorem keyLt'_general (x y : Value) : keyLt' general' x y = oneLt' false x y := rfl
theorem katLex_of {b : Bool} {Q : Bool → Shared → Prop} {fin : Bool} : ∀ {xs ys : List Value} {r : Bool} {i : Nat}, LexOk A s xs ys r → (fin = decide (xs.length < ys.length)) → Q r s → KatLex prog w A b fin Q (xs.zip ys) i s
  | [], [], r, i, h, hf, hq => by rw [show r = false from h] at hq; rw [hf]; exact hq
  | [], _ :: _, r, i, h, hf, hq => by rw [show r = true from h] at hq; rw [hf]; exact hq
  | _ :: _, [], r, i, h, hf, hq => by rw [show r = false from h] at hq; rw [hf]; exact hq
  | x :: xs, y :: ys, r, i, ⟨e, he, h⟩, hf, hq => by
    rw [List.zip_cons_cons]
    refine kat_cons (he prog w _ _ ?_)
    cases e with
    | true => exact kat_yes (katLex_of (by simpa using h) (by simpa using hf) hq)
    | false =>
      simp only [Bool.false_eq_true, if_false] at h
      exact kat_no (h.2 prog w _ _ _ hq)
theorem keyLt_ok {κ : SortKind} {a b : α} {u v : Value} {Q : Bool → Shared → Prop} (hu : A.units + k.dep < cLine) (hI : InH I s.heap) (ha : k.is I a u) (hb : k.is I b v)
    (hκ : κ = general' ∨ κ = oneType' ∨ ((∃ c, κ = tuples' c) ∧ (∃ x xs, u = .ref x ∧ TupI I x xs) ∧ ∃ y ys, v = .ref y ∧ TupI I y ys)) (h : Q (k.ord.lt a b) s) : wpAny (model prog w) A (keyLt' κ u v) Q E s := by
  rcases hκ with rfl | rfl | ⟨⟨c, rfl⟩, ⟨x, xs, rfl, tx⟩, y, ys, rfl, ty⟩
  · rw [keyLt'_general]; exact k.one hu hI ha hb prog w _ _ _ h
  · rw [keyLt'_oneType]; exact k.one hu hI ha hb prog w _ _ _ h
  · have lx := k.lex hu hI ha hb tx ty
    obtain ⟨n, e1⟩ := tx
    obtain ⟨m, e2⟩ := ty
    refine kat_lt (hI _ _ e1) rfl (hI _ _ e2) rfl ?_
    exact katLex_of lx (by simp) h

noncomputable def Srt (k : Ko α) (l : List α) : Prop := l.Pairwise (fun a b => k.ord.lt b a = false)

theorem Are.at_ {k : Kd α} {I : Imm} : ∀ {l : List α} {vs : List Value} {i : Nat}, Are k I l vs → (hi : i < l.length) → (d : α) → k.is I (l.getD i d) (vs.getD i .none)
  | a :: _, v :: _, 0, h, _, _ => h.1
  | a :: l, v :: vs, i + 1, h, hi, d => by simpa using Are.at_ h.2 (by simpa using hi) d
  | _ :: _, [], _, h, _, _ => h.elim
theorem Are.ofMap {k : Kd α} {I : Imm} {f : Nat → α} {g : Nat → Value} : ∀ (is : List Nat), (∀ i ∈ is, k.is I (f i) (g i)) → Are k I (is.map f) (is.map g)
  | [], _ => trivial
  | i :: is, h => ⟨h i (.head _), Are.ofMap is fun j hj => h j (.tail _ hj)⟩

theorem list_sort_ok {a : Addr} {vs : List Value} {n : Nat} {l : List α} {P : Fin → Shared → Prop} (hu : A.units + k.dep < cLine) (hI : InH I s.heap) (ho : s.heap.get? a = some (seqObj "list" vs.toArray n)) (haI : I a = none)
    (hx : Are k.toKd I l vs) (h64 : vs.length < 64)
    (h : ∀ h' out l' c, Are k.toKd I l' out → l'.Perm l → Srt k l' → h'.get? a = some (seqObj "list" out.toArray c) → (∀ b o, b ≠ a → s.heap.get? b = some o → h'.get? b = some o) → P (.done (.ret .none)) { s with heap := h' }) :
    wpAny (model prog w) A (Builtin.«list.sort» ⟨[.ref a], []⟩) P E s := by
  have ha := Heap.lt_size ho
  have fits : vs.length ≤ sizeLine := Nat.le_trans (Nat.le_of_lt h64) (by rw [sizeLine_eq]; decide)
  obtain ⟨e1, ho1⟩ : ∃ e1, (s.heap.update a (Obj.mapSeq fun _ => (#[] : Array Value))).get? a = some (seqObj "list" #[] e1) := ⟨_, get?_update_seq ho (fun _ => #[])⟩
  rw [list_sort_plain]
  refine wpAny_bind (listItems_at ho rfl (wpAny_bind (listUpdate_at ho rfl (wpAny_bind (seqEpoch_at ho1 rfl (wpAny_bind (wpAny_newTuple (wpAny_bind (wpAny_newList (wpAny_holding ?_) (Nat.zero_le _))) fits)))) fits (Nat.zero_le _))))
  show wpAny (model prog w) A _ P E { s with heap := ((s.heap.update a (Obj.mapSeq fun _ => (#[] : Array Value))).push (seqObj "tuple" vs.toArray 0)).push (seqObj "list" #[] 0) }
  generalize hh1 : ((s.heap.update a (Obj.mapSeq fun _ => (#[] : Array Value))).push (seqObj "tuple" vs.toArray 0)).push (seqObj "list" #[] 0) = h1
  have ho6 : h1.get? a = some (seqObj "list" #[] e1) := by
    rw [← hh1]; exact Heap.get?_push_of_some _ (Heap.get?_push_of_some _ ho1)
  have keep1 : ∀ b o, b ≠ a → s.heap.get? b = some o → h1.get? b = some o := fun b o hb e => by
    rw [← hh1]; exact Heap.get?_push_of_some _ (Heap.get?_push_of_some _ ((Heap.get?_update_other _ _ (Ne.symm hb)).trans e))
  have hI1 : InH I h1 := fun b o e => keep1 b o (fun q => by rw [q, haI] at e; cases e) (hI b o e)
  dsimp only
  have fin : ∀ (st' : SortSt) (out : List Value) (l' : List α), (arrOf st').map (·.2) = out.toArray → failedOf st' = none → Are k.toKd I l' out → l'.Perm l → Srt k l' →
      wpAny (model prog w) A (do
        let sorted := (arrOf st').map (·.2)
        let touched := (← seqEpoch a) != e1
        Builtin.List.listUpdate (.ref a) fun _ => sorted
        if let some e := failedOf st' then rule "list.sort.comparison-raised"; throw e
        if touched then rule "list.sort.modified"; raiseError "ValueError" "list modified during sort"
        ret .none) P E { s with heap := h1 } := by
    intro st' out l' e2 hf hy hp hs
    dsimp only
    have hz : out.length = vs.length := by rw [hy.length, hp.length_eq, ← hx.length]
    refine wpAny_bind (seqEpoch_at (s := { s with heap := h1 }) ho6 rfl ?_)
    rw [e2]
    refine wpAny_bind (listUpdate_at (s := { s with heap := h1 }) ho6 rfl ?_ (Nat.zero_le _) (by rw [List.size_toArray, hz, sizeLine_eq]; omega))
    rw [hf]
    simp only [bne_self_eq_false, Bool.false_eq_true, if_false]
    refine wpAny_pure (h _ out l' _ hy hp hs (get?_update_seq ho6 fun _ => out.toArray) fun b o hb e => ?_)
    exact (Heap.get?_update_other _ _ (Ne.symm hb)).trans (keep1 b o hb e)
  by_cases h2 : vs.length < 2
  · have h2' : vs.toArray.size < 2 := by rw [List.size_toArray]; exact h2
    rw [if_pos h2', if_pos h2']
    refine wpAny_bind (wpAny_pure ?_)
    rw [StateT.run_pure]
    refine wpAny_bind (wpAny_pure ?_)
    refine fin _ vs l ?_ rfl hx (List.Perm.refl _) ?_
    · show (vs.toArray.zip vs.toArray).map (·.2) = vs.toArray
      apply Array.toList_inj.mp
      rw [Array.toList_map, Array.toList_zip]
      exact List.map_snd_zip (Nat.le_refl _)
    · have hl : l.length < 2 := by rw [← hx.length]; exact h2
      match l, hl with
      | [], _ => exact .nil
      | [x], _ => exact List.pairwise_singleton _ _
  · have h2' : ¬ vs.toArray.size < 2 := by rw [List.size_toArray]; exact h2
    rw [if_neg h2', if_neg h2']
    have hall : ∀ v ∈ vs, T2 I v := by
      have : ∀ {l : List α} {xs : List Value}, Are k.toKd I l xs → ∀ x ∈ xs, T2 I x := by
        intro l
        induction l with
        | nil => intro xs hx x hm; cases xs with
          | nil => cases hm
          | cons _ _ => exact hx.elim
        | cons c l ih => intro xs hx x hm; cases xs with
          | nil => exact hx.elim
          | cons z xs =>
            rcases List.mem_cons.mp hm with rfl | hm
            · exact k.t2 hx.1
            · exact ih hx.2 x hm
      exact this hx
    have go : ∀ κ, (κ = general' ∨ κ = oneType' ∨ ((∃ c, κ = tuples' c) ∧ ∀ v ∈ vs, ∃ a xs, v = .ref a ∧ TupI I a xs)) →
        wpAny (model prog w) A (sortRuns'.run (SortSt.mk' κ (vs.toArray.zip vs.toArray) #[] 7 none) >>= fun r => do
          let sorted := (arrOf r.2).map (·.2)
          let touched := (← seqEpoch a) != e1
          Builtin.List.listUpdate (.ref a) fun _ => sorted
          if let some e := failedOf r.2 then rule "list.sort.comparison-raised"; throw e
          if touched then rule "list.sort.modified"; raiseError "ValueError" "list modified during sort"
          ret .none) P E { s with heap := h1 } := by
      intro κ hκ
      obtain ⟨d, hd⟩ : ∃ d, d ∈ l := by
        cases l with
        | nil => have := hx.length; simp at this; rw [this] at h2; simp at h2
        | cons c _ => exact ⟨c, .head _⟩
      have hN : vs.length = l.length := hx.length
      refine wpAny_bind (wpAny_mono (kat_run (ks := vs) (vs := vs) (κ := κ) (Q := fun st' s' => s' = { s with heap := h1 } ∧ ∃ (p : Array Nat), An5 (p.size = vs.length) (arrOf st' = p.map (kas_item (vs.toArray.zip vs.toArray))) (failedOf st' = none) (Bd vs.length p) (Asc k.ord (fun i => l.getD i d) p vs.length))
        (G := fun p s' => s' = { s with heap := h1 } ∧ Bd vs.length p ∧ Asc k.ord (fun i => l.getD i d) p vs.length) rfl (by omega) h64 (fun p st' s' a1 a2 a3 a4 => ⟨a4.1, p, a1, a2, a3, a4.2.1, a4.2.2⟩)
        (w_sort (O := k.ord) (key := fun i => l.getD i d) (s := { s with heap := h1 }) ?_ (by omega) fun p hp ha => ⟨rfl, hp, ha⟩)) ?_ fun _ _ e => e)
      · intro i j C hi hj hC
        unfold kas_ask
        refine keyLt_ok k hu hI1 (hx.at_ (by omega) d) (hx.at_ (by omega) d) ?_ hC
        rcases hκ with h | h | ⟨h, h'⟩
        · exact .inl h
        · exact .inr (.inl h)
        · refine .inr (.inr ⟨h, h' _ ?_, h' _ ?_⟩)
          · simp [hi]
          · simp [hj]
      · rintro ⟨⟨⟩, st'⟩ s' ⟨rfl, p, hp, har, hf, hb, hs⟩
        have hlt : ∀ i ∈ p.toList, i < vs.length := fun i hi => List.mem_range.mp (hb.2.mem_iff.mp hi)
        refine fin st' (p.toList.map fun i => vs.getD i .none) (p.toList.map fun i => l.getD i d) ?_ hf ?_ ?_ ?_
        · exact kat_snds rfl har
        · exact Are.ofMap _ fun i hi => hx.at_ (by rw [← hN]; exact hlt i hi) d
        · have h1 := hb.2.map fun i => l.getD i d
          have e2 : (List.range vs.length).map (fun i => l.getD i d) = l := by
            rw [hN]
            apply List.ext_getElem?
            intro i
            by_cases hi : i < l.length
            · simp [hi]
            · simp [hi, Nat.le_of_not_lt hi]
          rwa [e2] at h1
        · unfold Srt
          rw [List.pairwise_iff_getElem]
          intro i j hi hj hij
          have hi' : i < p.size := by simpa using hi
          have hj' : j < p.size := by simpa using hj
          have := hs i j (Nat.le_of_lt hij) (by rw [← hp]; exact hj')
          simpa [kk, Ord'.le, Array.getD, hi', hj'] using this
    refine wpAny_bind (wpAny_mono (keyKind_any (I := I) (Q := fun κ s' => s' = { s with heap := h1 } ∧ (κ = general' ∨ κ = oneType' ∨ ((∃ c, κ = tuples' c) ∧ ∀ v ∈ vs, ∃ a xs, v = .ref a ∧ TupI I a xs))) hI1 hall ⟨rfl, .inl rfl⟩ ⟨rfl, .inr (.inl rfl)⟩ fun ht b => ⟨rfl, .inr (.inr ⟨⟨b, rfl⟩, ht⟩)⟩) (fun κ s' hk => ?_) fun _ _ e => e)
    obtain ⟨rfl, hκ⟩ := hk
    exact go κ hκ
end
end Mine

set_option maxHeartbeats 2000000
namespace Mine

/-! # built-ins in a frame -/
section
variable {prog : Program} {w : World} {A : Around} {s : Shared} {S₀ : Shared} {I₀ I : Imm} {X : List Addr} {L : Addr} {m : Nm} {M : List (Addr × Obj)}

/-- a list that a step has made at the heap's end is taken among the kept -/
theorem Cx.made {h' : Heap} {tk : Nat} {a : Addr} {o : Obj} (c : Cx S₀ I₀ X I L m M s) (ha : s.heap.get? a = none) (hk : ∀ b o, s.heap.get? b = some o → h'.get? b = some o) (ho : h'.get? a = some o) :
    Cx S₀ I₀ X (addI I a o) L m M { s with heap := h', toks := tk } ∧ Sub I (addI I a o) := by
  have c1 : Cx S₀ I₀ X I L m M { s with heap := h', toks := tk } := c.kept hk
  refine c1.take ho (c.fresh ha) (fun q => ?_) (fun p hp q => ?_) (c.noI ha)
  · obtain ⟨o', e⟩ := c.isL; rw [← q, ha] at e; cases e
  · have := c.mt p hp; rw [q, ha] at this; cases this

theorem lst_new {I : Imm} {a : Addr} {vs : List Value} {n : Nat} : LstI (addI I a (seqObj "list" vs.toArray n)) a vs := ⟨n, addI_self⟩
theorem tup_new {I : Imm} {a : Addr} {vs : List Value} {n : Nat} : TupI (addI I a (seqObj "tuple" vs.toArray n)) a vs := ⟨n, addI_self⟩

theorem sorted_ok {α : Type} [DecidableEq α] (k : Ko α) {r : Addr} {P : List α → Prop} {Q : Value → Shared → Prop} (hu : A.units + (k.dep + 2) < cLine)
    (hc : wpAny (model prog w) A.in1 (collect (.ref r)) (fun vs s1 => ∃ I1, Cx S₀ I₀ X I1 L m M s1 ∧ Sub I I1 ∧ vs.length < 64 ∧ ∃ l, Are k.toKd I1 l vs ∧ P l) noE s)
    (h : ∀ D I' s' l l' out, Cx S₀ I₀ X I' L m M s' → Sub I I' → LstI I' D out → Are k.toKd I' l' out → l'.Perm l → Srt k l' → P l → Q (.ref D) s') :
    wpAny (model prog w) A (call (.builtin "sorted") [.ref r]) Q noE s := by
  refine call_function_entry kind_sorted plain_sorted entry_sorted (args_sorted1 _) ?_
  unfold Builtin.«sorted»
  refine wpAny_bind (m := checkCount "sorted" 1 1 _) (wpAny_pure ?_)
  refine wpAny_bind (wpAny_mono hc (fun vs s1 h1 => ?_) fun _ _ e => e.elim)
  obtain ⟨I1, c, sub, h64, l, hl, hp⟩ := h1
  refine wpAny_bind (wpAny_newList ?_ (by rw [sizeLine_eq]; omega))
  have hD : (s1.heap.push (seqObj "list" vs.toArray 0)).get? s1.heap.objs.size = some (seqObj "list" vs.toArray 0) := Heap.get?_push_size _ rfl
  have c1 : Cx S₀ I₀ X I1 L m M { s1 with heap := s1.heap.push (seqObj "list" vs.toArray 0) } := c.push _ s1.toks
  have hno : I1 s1.heap.objs.size = none := c.noI (size_none _)
  refine wpAny_bind (wpAny_holding (wpAny_call_entry slot_list_sort ⟨_, hD, rfl⟩ entry_list_sort (list_sort_ok k (I := I1) (l := l) (s := { s1 with heap := s1.heap.push (seqObj "list" vs.toArray 0) }) ?_ c1.imm hD hno hl h64 ?_) (args_list_sort _)))
  · show A.units + 1 + 1 + k.dep < cLine
    omega
  · intro h' out l' cc ha hperm hs hget hk
    refine ⟨_, rfl, ?_⟩
    have c2 : Cx S₀ I₀ X I1 L m M { s1 with heap := h' } := c.kept' (tk := s1.toks) (wr := [s1.heap.objs.size]) (fun b o hb e => hk b o (fun q => hb (by rw [q]; exact .head _)) (Heap.get?_push_of_some _ e)) (fun b hb => by
      rw [List.mem_singleton.mp hb]
      exact ⟨c.fresh (size_none _), hno, Nat.ne_of_gt c.ltL, fun q => by
        obtain ⟨p, hp, e⟩ := List.mem_map.mp q
        exact absurd (Heap.lt_size (c.mt p hp)) (by rw [e]; exact Nat.lt_irrefl _)⟩)
    obtain ⟨c3, sub3⟩ := c2.take hget (c.fresh (size_none _)) (Nat.ne_of_gt c.ltL) (fun p hp => Nat.ne_of_lt (Heap.lt_size (c.mt p hp))) hno
    exact wpAny_pure ⟨_, rfl, h _ _ _ l l' out c3 (sub.trans sub3) ⟨_, addI_self⟩ (ha.sub sub3) hperm hs hp⟩

/-- collect of a list -/
theorem collect_lst {a : Addr} {vs : List Value} {Q : List Value → Shared → Prop} (c : Cx S₀ I₀ X I L m M s) (hl : s.heap.IsList a vs.toArray) (hsz : vs.length ≤ sizeLine) (h : ∀ s', Cx S₀ I₀ X I L m M s' → Q vs s') :
    wpAny (model prog w) A (collect (.ref a)) Q noE s := by
  refine collect_list hl (h _ ?_) hsz
  refine c.kept (tk := s.toks) fun b o e => ?_
  exact (Heap.get?_update_other _ _ (Nat.ne_of_gt (Heap.lt_size e))).trans (Heap.get?_push_of_some _ e)

theorem mut_list {a : Addr} {o : Obj} {vs : List Value} {n : Nat} (c : Cx S₀ I₀ X I L m M s) (hm : (a, o) ∈ M) (ho : o = seqObj "list" vs.toArray n) : s.heap.IsList a vs.toArray := ⟨_, c.mt _ hm, by rw [ho], n, by rw [ho]⟩

theorem sorted_lst {α : Type} [DecidableEq α] (k : Ko α) {a : Addr} {vs : List Value} {l : List α} {Q : Value → Shared → Prop} (c : Cx S₀ I₀ X I L m M s) (hu : A.units + (k.dep + 2) < cLine) (hl : s.heap.IsList a vs.toArray) (hx : Are k.toKd I l vs) (h64 : l.length < 64)
    (h : ∀ D I' s' l' out, Cx S₀ I₀ X I' L m M s' → Sub I I' → LstI I' D out → Are k.toKd I' l' out → l'.Perm l → Srt k l' → Q (.ref D) s') :
    wpAny (model prog w) A (call (.builtin "sorted") [.ref a]) Q noE s := by
  have e := hx.length
  refine sorted_ok k (I := I) (P := fun l' => l' = l) hu (collect_lst c hl (by rw [sizeLine_eq]; omega) fun s' c' => ⟨I, c', Sub.refl _, by omega, l, hx, rfl⟩) ?_
  rintro D I' s' l0 l' out c' sub hD ha hp hs rfl
  exact h D I' s' l' out c' sub hD ha hp hs

/-- tuple(a list) -/
theorem tuple_lst {a : Addr} {vs : List Value} {Q : Value → Shared → Prop} (c : Cx S₀ I₀ X I L m M s) (hl : s.heap.IsList a vs.toArray) (hsz : vs.length ≤ sizeLine)
    (h : ∀ t I' s', Cx S₀ I₀ X I' L m M s' → Sub I I' → TupI I' t vs → Q (.ref t) s') : wpAny (model prog w) A (call (.type "tuple") [.ref a]) Q noE s := by
  refine call_tuple_list hl (fun h' hk => ?_) (by rw [List.size_toArray]; exact hsz)
  have c1 : Cx S₀ I₀ X I L m M { s with heap := h' } := c.kept (tk := s.toks) hk
  obtain ⟨c2, sub⟩ := c1.alloc (o := seqObj "tuple" vs.toArray 0) s.toks rfl
  exact h _ _ _ c2 sub tup_new

/-- list(a list) -/
theorem list_lst {a : Addr} {vs : List Value} {Q : Value → Shared → Prop} (c : Cx S₀ I₀ X I L m M s) (hl : s.heap.IsList a vs.toArray) (hsz : vs.length ≤ sizeLine)
    (h : ∀ t I' s', Cx S₀ I₀ X I' L m M s' → Sub I I' → LstI I' t vs → Q (.ref t) s') : wpAny (model prog w) A (call (.type "list") [.ref a]) Q noE s := by
  obtain ⟨o, ho, hc, n, hd⟩ := hl
  refine call_list_seq a (.inl rfl) ho hc hd (fun h' c' hk hg => ?_) (by rw [List.size_toArray]; exact hsz)
  obtain ⟨c2, sub⟩ := c.made (tk := s.toks) (size_none _) hk hg
  exact h _ _ _ c2 sub ⟨c', addI_self⟩

/-- len -/
theorem len_lst {a : Addr} {vs : List Value} {Q : Value → Shared → Prop} (c : Cx S₀ I₀ X I L m M s) (hl : s.heap.IsList a vs.toArray) (hsz : vs.length < 2 ^ 63)
    (h : ∀ t s', Cx S₀ I₀ X I L m M s' → Q (.int vs.length t) s') : wpAny (model prog w) A (call (.builtin "len") [.ref a]) Q noE s :=
  call_len_list hl (by rw [List.size_toArray]; omega) (by rw [List.size_toArray]; exact h _ _ c.toks)
theorem len_tup {a : Addr} {vs : List Value} {Q : Value → Shared → Prop} (c : Cx S₀ I₀ X I L m M s) (hl : TupI I a vs) (hsz : vs.length < 2 ^ 63)
    (h : ∀ t s', Cx S₀ I₀ X I L m M s' → Q (.int vs.length t) s') : wpAny (model prog w) A (call (.builtin "len") [.ref a]) Q noE s := by
  obtain ⟨n, e⟩ := hl
  exact len_tuple ⟨_, c.imm _ _ e, rfl, n, rfl⟩ (by rw [List.size_toArray]; omega) (by rw [List.size_toArray]; exact h _ _ c.toks)

theorem max_ii {a b : Int} {t u : Tok} {Q : Value → Shared → Prop} (c : Cx S₀ I₀ X I L m M s) (hh : A.handled = none) (h : ∀ t s', Cx S₀ I₀ X I L m M s' → Q (.int (max a b) t) s') :
    wpAny (model prog w) A (call (.builtin "max") [.int a t, .int b u]) Q noE s := by
  refine max_two_ints hh fun h' tk hk => ?_
  have c' : Cx S₀ I₀ X I L m M { s with heap := h', toks := tk } := c.kept hk
  split
  · rename_i q; have := h u _ c'; rwa [Int.max_eq_right (by omega)] at this
  · rename_i q; have := h t _ c'; rwa [Int.max_eq_left (by omega)] at this
theorem min_ii {a b : Int} {t u : Tok} {Q : Value → Shared → Prop} (c : Cx S₀ I₀ X I L m M s) (hh : A.handled = none) (h : ∀ t s', Cx S₀ I₀ X I L m M s' → Q (.int (min a b) t) s') :
    wpAny (model prog w) A (call (.builtin "min") [.int a t, .int b u]) Q noE s := by
  refine min_two_ints hh fun h' tk hk => ?_
  have c' : Cx S₀ I₀ X I L m M { s with heap := h', toks := tk } := c.kept hk
  split
  · rename_i q; have := h u _ c'; rwa [Int.min_eq_right (by omega)] at this
  · rename_i q; have := h t _ c'; rwa [Int.min_eq_left (by omega)] at this
end
end Mine

set_option maxHeartbeats 2000000
namespace Mine

/-! # turning a thing of M, taking up new ones -/
section
variable {S₀ : Shared} {I₀ I : Imm} {X : List Addr} {L : Addr} {m : Nm} {M M1 M2 : List (Addr × Obj)} {s : Shared}
theorem Cx.sep {a : Addr} {o : Obj} (c : Cx S₀ I₀ X I L m (M1 ++ (a, o) :: M2) s) : ∀ p ∈ M1 ++ M2, p.1 ≠ a := by
  intro p hp e
  have h := c.nodup
  rw [List.map_append, List.map_cons, List.nodup_append] at h
  obtain ⟨h1, h2, h3⟩ := h
  rw [List.nodup_cons] at h2
  rcases List.mem_append.mp hp with q | q
  · exact h3 a (List.mem_map.mpr ⟨p, q, e⟩) a (.head _) rfl
  · exact h2.1 (List.mem_map.mpr ⟨p, q, e⟩)
theorem Cx.turn {a : Addr} {o o' : Obj} {h' : Heap} {tk : Nat} (c : Cx S₀ I₀ X I L m (M1 ++ (a, o) :: M2) s) (hs : ∀ b ob, b ≠ a → s.heap.get? b = some ob → h'.get? b = some ob) (ho : h'.get? a = some o') :
    Cx S₀ I₀ X I L m (M1 ++ (a, o') :: M2) { s with heap := h', toks := tk } := by
  have hin : (a, o) ∈ M1 ++ (a, o) :: M2 := List.mem_append_right _ (.head _)
  have g : Gr s I [a] I { s with heap := h', toks := tk } := by
    refine ⟨⟨_, _, rfl⟩, fun b ob e => ?_, fun b ob e n => hs b ob (fun q => n (by rw [q]; exact .head _)) e, Sub.refl _, fun b ob e => hs b ob (fun q => by rw [q, c.mtI _ hin] at e; cases e) (c.imm b ob e), fun _ _ e => .inl e⟩
    by_cases q : b = a
    · exact ⟨o', by rw [q]; exact ho⟩
    · exact ⟨ob, hs b ob q e⟩
  refine c.back g (fun b hb => ?_) ?_ ?_
  · rw [List.mem_singleton.mp hb]; exact List.mem_map.mpr ⟨_, hin, rfl⟩
  · simp
  · intro p hp
    have hp' : p = (a, o') ∨ p ∈ M1 ++ M2 := by
      rcases List.mem_append.mp hp with q | q
      · exact .inr (List.mem_append_left _ q)
      · rcases List.mem_cons.mp q with q | q
        · exact .inl q
        · exact .inr (List.mem_append_right _ q)
    rcases hp' with rfl | q
    · exact ho
    · have hpM : p ∈ M1 ++ (a, o) :: M2 := by
        rcases List.mem_append.mp q with q | q
        · exact List.mem_append_left _ q
        · exact List.mem_append_right _ (.tail _ q)
      exact hs p.1 p.2 (c.sep p q) (c.mt p hpM)
theorem Cx.turnSame {a : Addr} {o : Obj} {h' : Heap} {tk : Nat} (c : Cx S₀ I₀ X I L m (M1 ++ (a, o) :: M2) s) (hs : Heap.SameBut a s.heap h') {P : Obj → Prop} (ho : ∃ o', h'.get? a = some o' ∧ P o') :
    ∃ o', P o' ∧ Cx S₀ I₀ X I L m (M1 ++ (a, o') :: M2) { s with heap := h', toks := tk } :=
  let ⟨o', e, p⟩ := ho; ⟨o', p, c.turn (fun b ob hb e => (hs.2 b hb).trans e) e⟩
/-- a new thing, made by a callee, is taken up among those that may be turned -/
theorem Cx.adopt {a : Addr} {o : Obj} (c : Cx S₀ I₀ X I L m M s) (ho : s.heap.get? a = some o) (hI : I a = none) (hn : S₀.heap.get? a = none) (hL : a ≠ L) (hM : ∀ p ∈ M, p.1 ≠ a) :
    Cx S₀ I₀ X I L m ((a, o) :: M) s := by
  refine ⟨c.toGr, c.ns, c.immL, ?_, ?_, ?_, ?_, ?_⟩
  · intro p hp
    rcases List.mem_cons.mp hp with rfl | hp
    · exact ho
    · exact c.mt p hp
  · intro p hp
    rcases List.mem_cons.mp hp with rfl | hp
    · exact hI
    · exact c.mtI p hp
  · intro p hp
    rcases List.mem_cons.mp hp with rfl | hp
    · exact hL
    · exact c.mtL p hp
  · intro p hp
    rcases List.mem_cons.mp hp with rfl | hp
    · exact .inr hn
    · exact c.mtX p hp
  · rw [List.map_cons, List.nodup_cons]
    refine ⟨fun q => ?_, c.nodup⟩
    obtain ⟨p, hp, e⟩ := List.mem_map.mp q
    exact hM p hp e
theorem Cx.perm {M' : List (Addr × Obj)} (c : Cx S₀ I₀ X I L m M s) (h : M.Perm M') : Cx S₀ I₀ X I L m M' s :=
  ⟨c.toGr, c.ns, c.immL, fun p hp => c.mt p (h.mem_iff.mpr hp), fun p hp => c.mtI p (h.mem_iff.mpr hp), fun p hp => c.mtL p (h.mem_iff.mpr hp), fun p hp => c.mtX p (h.mem_iff.mpr hp), (h.map _).nodup_iff.mp c.nodup⟩
end

section
variable {prog : Program} {w : World} {A : Around} {s : Shared} {S₀ : Shared} {I₀ I : Imm} {X : List Addr} {L : Addr} {m : Nm} {M M1 M2 : List (Addr × Obj)} {env : Env} {pos : Pos} {first : List Value}

/-! # calls -/
theorem cwB {id : String} {e : Expr} {rest : List Expr} {Q : Value → Shared → Prop} (h : wpAny (model prog w) A (spliced (backTo pos (starEach (e :: rest) env))) (fun vs s1 => wpAny (model prog w) A (call (.builtin id) (first ++ vs)) Q noE s1) noE s)
    (he : autoParam (starEach (e :: rest) env = (false, eval e env) :: starEach rest env) tacRfl) (hplain : autoParam ((backTo pos (starEach rest env)).any (·.1) = false) tacRfl) :
    wpAny (model prog w) A (callWith pos (.builtin id) first (backTo pos (starEach (e :: rest) env)) []) Q noE s := callWith_method1 h he hplain
theorem cwB0 {id : String} {Q : Value → Shared → Prop} (h : wpAny (model prog w) A (call (.builtin id) (first ++ [])) Q noE s) :
    wpAny (model prog w) A (callWith pos (.builtin id) first (backTo pos (starEach [] env)) []) Q noE s :=
  callWith_builtin rfl (evalArgs_nil3 h)
theorem cwK {K : Frag} {f : Value} {e : Expr} {rest : List Expr} {Q : Value → Shared → Prop} (hk : keepIn K f = true)
    (h : wpAny (model prog w) A (spliced (backTo pos (starEach (e :: rest) env))) (fun vs s1 => K.In s1.heap ∧ wpAny (model prog w) A (call f (first ++ vs)) Q noE s1) noE s)
    (he : autoParam (starEach (e :: rest) env = (false, eval e env) :: starEach rest env) tacRfl) (hplain : autoParam ((backTo pos (starEach rest env)).any (·.1) = false) tacRfl) :
    wpAny (model prog w) A (callWith pos f first (backTo pos (starEach (e :: rest) env)) []) Q noE s := by
  generalize starEach (e :: rest) env = l at he h ⊢
  subst he
  have hb : (backTo pos ((false, eval e env) :: starEach rest env)).any (·.1) = false := hplain
  exact callWith_of (by rw [hb]; rfl) (keeps_K hk) (evalArgs_plain h)

/-! # list.append -/
theorem append_ok {a : Addr} {o : Obj} {vs : List Value} {n : Nat} {x : Value} {Q : Value → Shared → Prop} (c : Cx S₀ I₀ X I L m (M1 ++ (a, o) :: M2) s) (ho : o = seqObj "list" vs.toArray n) (hsz : vs.length ≤ sizeLine)
    (h : ∀ s' n', Cx S₀ I₀ X I L m (M1 ++ (a, seqObj "list" (vs ++ [x]).toArray n') :: M2) s' → Q .none s') :
    wpAny (model prog w) A (call (.builtin "list.append") [.ref a, x]) Q noE s := by
  subst ho
  have hg := c.mt _ (List.mem_append_right _ (.head _))
  have hT : s.TypeIs (.ref a) "list" := ⟨_, hg, rfl⟩
  refine wpAny_call_entry slot_list_append hT entry_list_append ?_ (args_list_append _ _)
  show wpAny _ _ (updateSeq a (·.push x) >>= fun _ => ret .none) _ _ s
  refine wpAny_bind ?_
  refine wpAny_updateSeq hg rfl (wpAny_pure ⟨.none, rfl, ?_⟩) (by rw [List.size_toArray]; exact hsz) (by show (vs.toArray.push x).size ≤ _; rw [Array.size_push, List.size_toArray]; omega)
  obtain ⟨n', e⟩ : ∃ n', (s.heap.update a (Obj.mapSeq (·.push x))).get? a = some (seqObj "list" (vs ++ [x]).toArray n') := by
    have := get?_update_seq (a := a) hg (·.push x)
    rw [show vs.toArray.push x = (vs ++ [x]).toArray by simp] at this
    exact ⟨_, this⟩
  exact h _ n' (c.turn (tk := s.toks) (fun b ob hb e => (Heap.get?_update_other _ _ (Ne.symm hb)).trans e) e)
end

/-! # dicts with ints as keys -/
section
variable {prog : Program} {w : World} {A : Around} {s : Shared} {S₀ : Shared} {I₀ I : Imm} {X : List Addr} {L : Addr} {m : Nm} {M M1 M2 : List (Addr × Obj)} {kvs : List (Int × Value)} {o : Obj} {d : Addr} {k : Int} {t : Tok}
noncomputable abbrev DI (prog : Program) (w : World) (o : Obj) (kvs : List (Int × Value)) : Prop := o.IsDictOf (intKind prog w) kvs

theorem at_dict (c : Cx S₀ I₀ X I L m (M1 ++ (d, o) :: M2) s) (hd : DI prog w o kvs) : s.heap.DictOf (intKind prog w) d kvs :=
  Heap.dictOf_iff.mpr ⟨o, c.mt _ (List.mem_append_right _ (.head _)), hd⟩
theorem d_get {v : Value} {Q : Value → Shared → Prop} (c : Cx S₀ I₀ X I L m M s) (hd : s.heap.DictOf (intKind prog w) d kvs) (hv : valueAt kvs k = some v) (h : ∀ s', Cx S₀ I₀ X I L m M s' → Q v s') :
    wpAny (model prog w) A (getItem (.ref d) (.int k t)) Q noE s := wpAny_getItem_of (intKind_is prog w k t) hd.mapOf hv (h _ c.toks)
theorem d_in {Q : Value → Shared → Prop} (c : Cx S₀ I₀ X I L m M s) (hs : (d == sysModules) = false) (hd : s.heap.DictOf (intKind prog w) d kvs) (h : ∀ s', Cx S₀ I₀ X I L m M s' → Q (.bool (valueAt kvs k).isSome) s') :
    wpAny (model prog w) A (compareOp .In (.int k t) (.ref d)) Q noE s := wpAny_in_of (intKind_is prog w k t) hs hd.mapOf (h _ c.toks)
theorem d_notIn {Q : Value → Shared → Prop} (c : Cx S₀ I₀ X I L m M s) (hs : (d == sysModules) = false) (hd : s.heap.DictOf (intKind prog w) d kvs) (h : ∀ s', Cx S₀ I₀ X I L m M s' → Q (.bool (!(valueAt kvs k).isSome)) s') :
    wpAny (model prog w) A (compareOp .NotIn (.int k t) (.ref d)) Q noE s := wpAny_notIn_of (intKind_is prog w k t) hs hd.mapOf (h _ c.toks)
theorem d_get2 {dflt : Value} {Q : Value → Shared → Prop} (c : Cx S₀ I₀ X I L m M s) (hs : (d == sysModules) = false) (hd : s.heap.DictOf (intKind prog w) d kvs) (h : ∀ s', Cx S₀ I₀ X I L m M s' → Q ((valueAt kvs k).getD dflt) s') :
    wpAny (model prog w) A (call (.builtin "dict.get") [.ref d, .int k t, dflt]) Q noE s :=
  call_meetsIn PySem.F.slot_dict_get hd.typeIs PySem.F.entry_dict_get (PySem.F.args_dict_get_3 _ _ _) (meets_dict_get_default (intKind prog w) d (intKind_is prog w k t) hs dflt) ⟨_, hd.mapOf, h _ c.toks⟩
theorem d_set {v : Value} {Q : Unit → Shared → Prop} (c : Cx S₀ I₀ X I L m (M1 ++ (d, o) :: M2) s) (hd : DI prog w o kvs) (hsz : kvs.length ≤ sizeLine)
    (h : ∀ s' o', DI prog w o' (stored kvs k v) → Cx S₀ I₀ X I L m (M1 ++ (d, o') :: M2) s' → Q () s') : wpAny (model prog w) A (setItem (.ref d) (.int k t) v) Q noE s :=
  wpAny_setItem_pairs (intKind_is prog w k t) (at_dict c hd) (fun h' hm hs => let ⟨o', x, y⟩ := c.turnSame hs (Heap.dictOf_iff.mp hm); h _ o' x y) hsz
theorem d_setdefault {v : Value} {Q : Value → Shared → Prop} (c : Cx S₀ I₀ X I L m (M1 ++ (d, o) :: M2) s) (hs : (d == sysModules) = false) (hd : DI prog w o kvs) (hsz : kvs.length ≤ sizeLine)
    (h1 : ∀ s' u, valueAt kvs k = some u → Cx S₀ I₀ X I L m (M1 ++ (d, o) :: M2) s' → Q u s')
    (h2 : ∀ s' o', valueAt kvs k = none → DI prog w o' (stored kvs k v) → Cx S₀ I₀ X I L m (M1 ++ (d, o') :: M2) s' → Q v s') :
    wpAny (model prog w) A (call (.builtin "dict.setdefault") [.ref d, .int k t, v]) Q noE s := by
  have hD := at_dict c hd
  refine call_meetsIn PySem.F.slot_dict_setdefault hD.typeIs PySem.F.entry_dict_setdefault (PySem.F.args_dict_setdefault_3 _ _ _) (kt_meets_setdefault (intKind prog w) d (intKind_is prog w k t) hs v)
    ⟨kvs, hD, hsz, fun u hu => h1 _ u hu c.toks, fun hu h' hm hs' => ?_⟩
  obtain ⟨o', x, y⟩ := c.turnSame (tk := s.toks + 1) hs' (Heap.dictOf_iff.mp hm)
  exact h2 _ o' hu x y
theorem d_items {Q : Value → Shared → Prop} (c : Cx S₀ I₀ X I L m M s) (hs : (d == sysModules) = false) (hd : s.heap.DictOf (intKind prog w) d kvs)
    (h : ∀ v I' s', Cx S₀ I₀ X I' L m M s' → Sub I I' → I' v = some { cls := .type "dict_items", data := .fields #[.ref d] } → Q (.ref v) s') :
    wpAny (model prog w) A (call (.builtin "dict.items") [.ref d]) Q noE s := by
  refine call_meetsIn PySem.F.slot_dict_items hd.typeIs PySem.F.entry_dict_items (PySem.F.args_dict_items_1 _) (meets_dict_items (intKind prog w) d hs) ⟨⟨kvs, hd⟩, ?_⟩
  obtain ⟨c1, sub⟩ := c.alloc (o := { cls := .type "dict_items", data := .fields #[.ref d] }) s.toks rfl
  exact h _ _ _ c1 sub addI_self
theorem d_collect {Q : List Value → Shared → Prop} (c : Cx S₀ I₀ X I L m M s) (hh : A.handled = none) (hs : (d == sysModules) = false) (hd : s.heap.DictOf (intKind prog w) d kvs) (hn : kvs.length ≤ sizeLine)
    (h : ∀ vs s', Cx S₀ I₀ X I L m M s' → Are kInt I (kvs.map (·.1)) vs → Q vs s') : wpAny (model prog w) A (collect (.ref d)) Q noE s := by
  obtain ⟨ep, hat⟩ := hd.dictAt
  refine kdu_collect (kdl_dict (knd := intKind prog w) (kvs := kvs) (ep := ep) hs) hh hat hn fun h' tk acc hk hacc => h _ _ (c.kept hk) ?_
  have : ∀ (ks : List (Int × Value)) (vs : List Value), vs.length = ks.length → (∀ (j : Nat) (v : Value), vs[j]? = some v → ∃ (k : Int) (x : Value), ks[j]? = some (k, x) ∧ (intKind prog w).is k v = true) → Are kInt I (ks.map (·.1)) vs := by
    intro ks
    induction ks with
    | nil => intro vs h1 _; cases vs with
      | nil => trivial
      | cons _ _ => cases h1
    | cons p ks ih => intro vs h1 h2; cases vs with
      | nil => cases h1
      | cons v vs =>
        refine ⟨?_, ih vs (by simpa using h1) fun j u e => ?_⟩
        · obtain ⟨k, x, e1, e2⟩ := h2 0 v rfl
          cases e1
          cases v <;> simp [intKind, Value.isInt] at e2
          exact ⟨_, by rw [e2]⟩
        · obtain ⟨k, x, e1, e2⟩ := h2 (j + 1) u (by simpa using e)
          exact ⟨k, x, by simpa using e1, e2⟩
  exact this kvs _ (by rw [Array.length_toList]; exact hacc.1) fun j v e => hacc.2 j v (by rw [← Array.getElem?_toList]; exact e)
/-- collect of dict.items() -/
theorem d_collectItems {v : Addr} {Q : List Value → Shared → Prop} (c : Cx S₀ I₀ X I L m M s) (hh : A.handled = none) (hd : s.heap.DictOf (intKind prog w) d kvs) (hv : I v = some { cls := .type "dict_items", data := .fields #[.ref d] }) (hn : kvs.length ≤ sizeLine)
    (h : ∀ vs s' I', Cx S₀ I₀ X I' L m M s' → Sub I I' → Are ⟨fun J p u => ∃ t x, u = .ref t ∧ TupI J t [x, p.2] ∧ kInt.is J p.1 x, fun hs ⟨t, x, e, a, b⟩ => ⟨t, x, e, a.sub hs, b⟩⟩ I' kvs vs → Q vs s') : wpAny (model prog w) A (collect (.ref v)) Q noE s := by
  obtain ⟨ep, hat⟩ := hd.dictAt
  refine kdx_collect hh ⟨_, c.imm _ _ hv, rfl, rfl⟩ hat hn fun h' tk as hk hl g => ?_
  have c1 : Cx S₀ I₀ X I L m M { s with heap := h', toks := tk } := c.kept hk
  -- the new pairs are taken one by one
  have key : ∀ (as : List Addr) (ks : List (Int × Value)) (I1 : Imm), Cx S₀ I₀ X I1 L m M { s with heap := h', toks := tk } → as.length = ks.length → (∀ a ∈ as, s.heap.get? a = none) →
      (∀ (j : Nat) (a : Addr), as[j]? = some a → ∃ key k x, ks[j]? = some (k, x) ∧ (intKind prog w).is k key = true ∧ h'.get? a = some { cls := .type "tuple", data := .seq #[key, x] }) →
      ∃ I', Cx S₀ I₀ X I' L m M { s with heap := h', toks := tk } ∧ Sub I1 I' ∧ Are ⟨fun J p u => ∃ t x, u = .ref t ∧ TupI J t [x, p.2] ∧ kInt.is J p.1 x, fun hs ⟨t, x, e, a, b⟩ => ⟨t, x, e, a.sub hs, b⟩⟩ I' ks (as.map Value.ref) := by
    intro as
    induction as with
    | nil => intro ks I1 c1 h1 _ _; cases ks with
      | nil => exact ⟨I1, c1, Sub.refl _, trivial⟩
      | cons _ _ => cases h1
    | cons a as ih => intro ks I1 c1 h1 hf h2; cases ks with
      | nil => cases h1
      | cons p ks =>
        obtain ⟨key, k, x, e1, e2, e3⟩ := h2 0 a rfl
        cases e1
        obtain ⟨t, rfl⟩ : ∃ t, key = .int k t := by
          cases key <;> simp [intKind, Value.isInt] at e2
          exact ⟨_, by rw [e2]⟩
        have hfa := hf a (.head _)
        have hno : I1 a = some (seqObj "tuple" #[.int k t, x] 0) ∨ I1 a = none := by
          cases q : I1 a with
          | none => exact .inr rfl
          | some ob => have := c1.imm _ _ q; rw [show h'.get? a = _ from e3] at this; cases this; exact .inl rfl
        have step : ∃ I2, Cx S₀ I₀ X I2 L m M { s with heap := h', toks := tk } ∧ Sub I1 I2 ∧ TupI I2 a [.int k t, x] := by
          rcases hno with q | q
          · exact ⟨I1, c1, Sub.refl _, ⟨0, q⟩⟩
          · obtain ⟨c2, sub⟩ := c1.take (o := seqObj "tuple" #[.int k t, x] 0) e3 (c.fresh hfa) (fun q => by obtain ⟨ob, e⟩ := c.isL; rw [← q, hfa] at e; cases e) (fun p hp q => by have := c.mt p hp; rw [q, hfa] at this; cases this) q
            exact ⟨_, c2, sub, ⟨0, addI_self⟩⟩
        obtain ⟨I2, c2, sub2, ht⟩ := step
        obtain ⟨I', c3, sub3, ha⟩ := ih ks I2 c2 (by simpa using h1) (fun b hb => hf b (.tail _ hb)) fun j b e => by
          obtain ⟨key, k, x, e1, e2, e3⟩ := h2 (j + 1) b (by simpa using e)
          exact ⟨key, k, x, by simpa using e1, e2, e3⟩
        exact ⟨I', c3, sub2.trans sub3, ⟨a, .int k t, rfl, ht.sub sub3, t, rfl⟩, ha⟩
  have hfr : ∀ a ∈ as, s.heap.get? a = none := fun a ha => not_some fun ob e => by
    exact absurd (Heap.lt_size e) (Nat.not_lt.mpr (Nat.le_of_lt (g.above a ha)))
  obtain ⟨I', c2, sub, ha⟩ := key as kvs I c1 hl hfr g.pairs
  exact h _ _ I' c2 sub ha
end
end Mine

set_option maxHeartbeats 4000000
namespace Mine

/-- a tuple's __getattribute__ does not find "keys" -/
theorem ga_keys {prog : Program} {w : World} {A : Around} {E : Value → Shared → Prop} {s : Shared} {a : Addr} {xs : Array Value} {n : Nat} {u : Tok} {Q : Value → Shared → Prop} (hx : s.heap.get? a = some (seqObj "tuple" xs n)) (hA : A.handled = none)
    (h : ∀ h' tk e, ({ s with heap := h', toks := tk } : Shared).TypeIs (.ref e) "AttributeError" → (∀ b o, s.heap.get? b = some o → h'.get? b = some o) → E (.ref e) { s with heap := h', toks := tk }) :
    wpAny (model prog w) A (call (.builtin "tuple.__getattribute__") ([.ref a] ++ [.str "keys" u])) Q E s :=
  call_meets PySem.F.slot_tuple_getattribute ⟨_, hx, rfl⟩ am_entry_tuple_getattribute (PySem.F.args_tuple_getattribute_2 _ _)
    (meets_getattribute_miss_tuple a xs n #[] "keys" u (am_miss_of_fast (by decide +kernel)) (by decide +kernel))
    ⟨hx, hA, fun h' tk e x => let ⟨_, _, he⟩ := x.there; h h' tk e ⟨_, he, rfl⟩ x.keeps⟩
theorem noKeys {prog : Program} {w : World} {A : Around} {E : Value → Shared → Prop} {s : Shared} {a : Addr} {xs : Array Value} {n : Nat} {Q : Option Value → Shared → Prop} (hx : s.heap.get? a = some (seqObj "tuple" xs n)) (hA : A.handled = none)
    (h : ∀ h' tk, (∀ b o, s.heap.get? b = some o → h'.get? b = some o) → Q none { s with heap := h', toks := tk }) : wpAny (model prog w) A (getAttr? (.ref a) "keys") Q E s := by
  have hT : ({ s with toks := s.toks + 1 } : Shared).TypeIs (.ref a) "tuple" := ⟨_, hx, rfl⟩
  have g1 := PySem.F.slot_tuple_getattribute.lookup
  have g2 := PySem.F.slot_tuple_getattribute.bind (.ref a)
  have g3 := am_tuple_getattr_none
  have g4 := sub_AttributeError
  wp_walk using ga_keys (s := { s with toks := s.toks + 1 }) hx hA
  intro h' tk e hTe hk
  wp_walk
  exact h h' tk hk

/-- the entries that a list of pairs leaves in a dict -/
noncomputable def putAll (kvs : List (Int × Value)) : List (Int × Value) → List (Int × Value)
  | [] => kvs
  | (k, v) :: r => putAll (stored kvs k v) r
theorem stored_len (kvs : List (Int × Value)) (k : Int) (v : Value) : (stored kvs k v).length ≤ kvs.length + 1 := stored_length_le kvs k v

theorem plain_update_loop : plainId "dict.update.loop" = true := by decide +kernel
theorem entry_update_loop : entryFor table "dict.update.loop" = some Builtin.«dict.update.loop» := entryFor_of_fast (by kernel_rfl)
section
variable {prog : Program} {w : World} {A : Around} {R : Result → Shared → Prop} {it d : Addr} {fp wr : List Addr} {P : Nat → Value → Prop} {St : Nat → Heap → Prop} {I : Imm} {ps : List (Int × Value)}
theorem update_loop {n : Nat} (W : Walks prog w A.in1 it fp wr n P St) (hn : n = ps.length) (hP : ∀ i v, P i v → Ex3 fun p a t => ps[i]? = some p ∧ v = .ref a ∧ TupI I a [.int p.1 t, p.2]) (hd : d ∉ fp) (hId : I d = none) (hIw : ∀ b ∈ wr, I b = none) (res : Value) :
    ∀ (k i : Nat) (s : Shared) (kvs : List (Int × Value)), n - i = k → i ≤ n → St i s.heap → InH I s.heap → s.heap.DictOf (intKind prog w) d kvs → kvs.length + k ≤ sizeLine →
      (∀ h' tk, (∀ b o, b ∉ wr → b ≠ d → s.heap.get? b = some o → h'.get? b = some o) → h'.DictOf (intKind prog w) d (putAll kvs (ps.drop i)) → R (.ok (.ret res)) { s with heap := h', toks := tk }) →
      codeAny (model prog w) A (.builtin "dict.update.loop" ⟨[.ref d, .ref it, .int i 0, res], []⟩) R s := by
  have hdw : d ∉ wr := fun h => hd (W.sub _ h)
  intro k
  induction k with
  | zero =>
    intro i s kvs hk hi hst hI hD hsz hR
    have hin : i = n := by omega
    refine codeAny_builtin entry_update_loop ?_
    rw [Around.under_plainId plain_update_loop _]
    show wpAny _ A.in1 (pyNext (.ref it) >>= _) _ _ s
    refine wpAny_bind (W.done s _ _ (hin ▸ hst) fun h' tk hk' => ?_)
    show wpAny _ A.in1 (Builtin.Dict.addKeywords d [] >>= fun _ => ret res) _ _ _
    refine wpAny_bind (wpAny_pure (wpAny_pure ?_))
    refine hR h' tk (fun b o hbw _ e => hk' b o hbw e) ?_
    rw [List.drop_eq_nil_of_le (by omega)]
    obtain ⟨o, es, ep, ho, r⟩ := hD
    exact ⟨o, es, ep, hk' d o hdw ho, r⟩
  | succ k ih =>
    intro i s kvs hk hi hst hI hD hsz hR
    have hlt : i < n := by omega
    refine codeAny_builtin entry_update_loop ?_
    rw [Around.under_plainId plain_update_loop _]
    show wpAny _ A.in1 (pyNext (.ref it) >>= _) _ _ s
    refine wpAny_bind (W.item i s _ _ hlt hst fun v h' tk hPv hst' hk' => ?_)
    obtain ⟨⟨kx, x⟩, a, t, hp, rfl, ht⟩ := hP i v hPv
    have hI' : InH I h' := fun b o e => hk' b o (fun q => by rw [hIw b q] at e; cases e) (hI b o e)
    have hD' : h'.DictOf (intKind prog w) d kvs := by
      obtain ⟨o, es, ep, ho, r⟩ := hD
      exact ⟨o, es, ep, hk' d o hdw ho, r⟩
    obtain ⟨n', e⟩ := ht
    have ho := hI' _ _ e
    show wpAny _ A.in1 (holding [.ref a] _ >>= _) _ _ _
    refine wpAny_bind (wpAny_holding (wpAny_bind (wpAny_tryCatch ?_)))
    unfold Builtin.Dict.pairItems
    refine wpAny_bind (wpAny_typeOf (T := "tuple") ⟨_, ho, rfl⟩ ?_)
    rw [if_pos (by decide)]
    refine wpAny_bind (wpAny_seqItems ho rfl (wpAny_pure ?_))
    show wpAny _ A.in1 (holding [.int kx t, x] (dictSet d (.int kx t) x)) _ _ _
    refine wpAny_holding (wpAny_dictSet_pairs (s := { s with heap := h', toks := tk }) (intKind_is prog w kx t) hD' (fun h2 hD2 hs2 => ?_) (by omega))
    refine wpAny_pure ⟨plainId_quiet plain_update_loop _, ?_⟩
    refine ih (i + 1) _ (stored kvs kx x) (by omega) hlt (W.frame _ _ _ hst' fun b hbf o e => (hs2.2 b (fun q => hd (q ▸ hbf))).trans e) (fun b o e => (hs2.2 b (fun q => by rw [q, hId] at e; cases e)).trans (hI' b o e)) hD2 (by have := stored_len kvs kx x; omega) fun h3 tk3 hk3 hD3 => ?_
    refine hR h3 tk3 (fun b o hbw hbd e => hk3 b o hbw hbd ((hs2.2 b hbd).trans (hk' b o hbw e))) ?_
    have : ps.drop i = (kx, x) :: ps.drop (i + 1) := by
      have hl : i < ps.length := by omega
      rw [List.drop_eq_getElem_cons hl]
      rw [List.getElem?_eq_getElem hl] at hp
      injection hp with hp
      rw [hp]
    rw [this]
    exact hD3
end

section
variable {prog : Program} {w : World} {A : Around} {s : Shared} {S₀ : Shared} {I₀ I : Imm} {X : List Addr} {L : Addr} {m : Nm} {M : List (Addr × Obj)}
/-- dict(a tuple of pairs) -/
theorem dict_pairs {t : Addr} {vs : List Value} {ps : List (Int × Value)} {Q : Value → Shared → Prop} (c : Cx S₀ I₀ X I L m M s) (hh : A.handled = none) (ht : TupI I t vs) (hl : vs.length = ps.length)
    (hps : ∀ (i : Nat) (v : Value), vs[i]? = some v → Ex3 fun p a t => ps[i]? = some p ∧ v = .ref a ∧ TupI I a [.int p.1 t, p.2]) (hsz : ps.length ≤ sizeLine)
    (h : ∀ d o s', Cx S₀ I₀ X I L m ((d, o) :: M) s' → DI prog w o (putAll [] ps) → (d == sysModules) = false → Q (.ref d) s') (hbig : sysModules < s.heap.objs.size) :
    wpAny (model prog w) A (call (.type "dict") [.ref t]) Q noE s := by
  refine callType_codes (Q₁ := fun obj s₁ => obj = .ref s.heap.objs.size ∧ s₁ = { s with heap := s.heap.push { cls := .type "dict", data := .dict #[] } }) PySem.F.kt_called_dict (PySem.F.kt_typeCall_dict_1 _) PySem.F.entry_dict_init (kt_code_dict_new _ ⟨rfl, rfl⟩) ?_
  rintro obj s₁ ⟨rfl, rfl⟩
  have hnew : (s.heap.push { cls := .type "dict", data := .dict #[] }).DictOf (intKind prog w) s.heap.objs.size [] := Heap.DictOf.new s.heap
  have hd0 : (s.heap.objs.size == sysModules) = false := beq_false_of_ne (Nat.ne_of_gt hbig)
  refine ⟨hnew.typeIs, PySem.F.args_dict_init_2 _ _, ?_⟩
  have c1 : Cx S₀ I₀ X I L m M { s with heap := s.heap.push { cls := .type "dict", data := .dict #[] } } := c.push _ s.toks
  obtain ⟨n, e⟩ := ht
  have hT : (⟨s.heap.push { cls := .type "dict", data := .dict #[] }, s.gens, s.drawn, s.toks, s.os⟩ : Shared).TypeIs (.ref t) "tuple" := ⟨_, c1.imm _ _ e, rfl⟩
  wp_walk using wpAny_notOrdered_dict hnew.typeIs, noKeys (A := A.in1.in1) (c1.imm _ _ e) hh
  intro h2 tk2 hk2
  rw [if_pos (by rfl)]
  refine wpAny_bind (wpAny_rule ?_)
  have c2 : Cx S₀ I₀ X I L m M { s with heap := h2, toks := tk2 } := c1.kept hk2
  have hdg : h2.get? s.heap.objs.size = some { cls := .type "dict", data := .dict #[] } := hk2 _ _ (Heap.get?_push_size _ rfl)
  have hnd : h2.DictOf (intKind prog w) s.heap.objs.size [] := ⟨_, #[], 0, hdg, ⟨rfl, rfl, rfl⟩, rfl, fun _ he => by simp at he, .nil, .nil⟩
  refine wpAny_bind (wpAny_pyIter_tuple (s := { s with heap := h2, toks := tk2 }) (items := vs.toArray) ⟨_, c2.imm _ _ e, rfl, n, rfl⟩ ?_)
  have hlt : t < h2.objs.size := Heap.lt_size (c2.imm _ _ e)
  have hdl : s.heap.objs.size < h2.objs.size := Heap.lt_size hdg
  have c3 := c2.push { cls := .type "tuple_iterator", data := .fields #[.ref t, .int 0 0] } tk2
  refine wpAny_pure ⟨plainId_quiet plain_update_loop _, ?_⟩
  refine update_loop (A := A.in1) (I := I) (ps := ps) (s := { s with heap := h2.push { cls := .type "tuple_iterator", data := .fields #[.ref t, .int 0 0] }, toks := tk2 }) (Walks.tuple (A := A.in1.in1) hh h2.objs.size t (Nat.ne_of_lt hlt) vs.toArray) (by simpa using hl) (fun i v hv => hps i v (by simpa using hv)) ?_ ?_ ?_ _ _ 0 [] rfl (Nat.zero_le _) ⟨⟨_, Heap.get?_push_size _ rfl, rfl, rfl⟩, ?_⟩ c3.imm ?_ ?_ ?_
  · intro q
    rcases List.mem_cons.mp q with q | q
    · exact absurd q (Nat.ne_of_lt hdl)
    · rw [List.mem_singleton] at q
      rw [← q] at e
      exact absurd (c.lt e) (Nat.lt_irrefl _)
  · exact c.noI (size_none _)
  · intro b hb
    rw [List.mem_singleton.mp hb]
    exact c2.noI (size_none _)
  · exact ⟨_, c3.imm _ _ e, rfl, n, rfl⟩
  · obtain ⟨o, es, ep, ho, r⟩ := hnd
    exact ⟨o, es, ep, Heap.get?_push_of_some _ ho, r⟩
  · simpa [hl] using hsz
  · intro h' tk hk hD
    rw [List.drop_zero] at hD
    obtain ⟨o, ho, hdo⟩ := Heap.dictOf_iff.mp hD
    have c4 : Cx S₀ I₀ X I L m M { s with heap := h', toks := tk } := c.kept' (wr := [h2.objs.size, s.heap.objs.size]) (fun b o hb e => hk b o (fun q => hb (by rw [List.mem_singleton.mp q]; exact .head _)) (fun q => hb (by rw [q]; exact .tail _ (.head _))) (Heap.get?_push_of_some _ (hk2 _ _ (Heap.get?_push_of_some _ e)))) (fun b hb => by
      rcases List.mem_cons.mp hb with q | q
      · rw [q]
        exact ⟨c2.fresh (size_none _), c2.noI (size_none _), Nat.ne_of_gt c2.ltL, fun q => by
          obtain ⟨p, hp, e⟩ := List.mem_map.mp q
          exact absurd (Heap.lt_size (c2.mt p hp)) (by rw [e]; exact Nat.lt_irrefl _)⟩
      · rw [List.mem_singleton.mp q]
        exact ⟨c.fresh (size_none _), c.noI (size_none _), Nat.ne_of_gt c.ltL, fun q => by
          obtain ⟨p, hp, e⟩ := List.mem_map.mp q
          exact absurd (Heap.lt_size (c.mt p hp)) (by rw [e]; exact Nat.lt_irrefl _)⟩)
    refine ⟨rfl, h _ o _ (c4.adopt ho (c.noI (size_none _)) (c.fresh (size_none _)) (Nat.ne_of_gt c.ltL) fun p hp => Nat.ne_of_lt (Heap.lt_size (c.mt p hp))) hdo hd0⟩
end
end Mine

set_option maxHeartbeats 4000000
namespace Mine

/-! # clocks as vectors of three counts -/
noncomputable abbrev Vec := Int → Nat
noncomputable def clk (v : Vec) : Clock := ([0, 1, 2] : List Int).filterMap fun g => if v g = 0 then none else some (g, (v g : Int))
noncomputable def InG (g : Int) : Prop := g = 0 ∨ g = 1 ∨ g = 2
noncomputable def vmax (u v : Vec) : Vec := fun g => max (u g) (v g)
noncomputable def vone (g : Int) (n : Nat) : Vec := fun h => if h = g then n else 0
noncomputable def vtick (v : Vec) (g : Int) : Vec := fun h => if h = g then v h + 1 else v h
noncomputable def VEq (u v : Vec) : Prop := ∀ g, InG g → u g = v g
noncomputable def VLe (u v : Vec) : Prop := ∀ g, InG g → u g ≤ v g

theorem clk_congr {u v : Vec} (h : VEq u v) : clk u = clk v := by
  unfold clk
  simp only [List.filterMap_cons, List.filterMap_nil, h 0 (.inl rfl), h 1 (.inr (.inl rfl)), h 2 (.inr (.inr rfl))]
theorem mem_clk {v : Vec} {p : Int × Int} : p ∈ clk v ↔ InG p.1 ∧ v p.1 ≠ 0 ∧ p.2 = v p.1 := by
  unfold clk
  rw [List.mem_filterMap]
  constructor
  · rintro ⟨g, hg, e⟩
    have hG : InG g := by simpa [InG] using hg
    split at e
    · cases e
    · rename_i h; cases e; exact ⟨hG, h, rfl⟩
  · rintro ⟨hg, h, e⟩
    refine ⟨p.1, by simpa [InG] using hg, ?_⟩
    rw [if_neg h, ← e]
theorem clk_len (v : Vec) : (clk v).length ≤ 3 := by
  unfold clk
  exact Nat.le_trans (List.length_filterMap_le ..) (by simp)
theorem clk_keys (v : Vec) : ((clk v).map (·.1)).Nodup := by
  have : (clk v).map (·.1) = ([0, 1, 2] : List Int).filter (fun g => v g ≠ 0) := by
    unfold clk
    simp only [List.filterMap_cons, List.filterMap_nil, List.filter_cons, List.filter_nil]
    by_cases h0 : v 0 = 0 <;> by_cases h1 : v 1 = 0 <;> by_cases h2 : v 2 = 0 <;> simp [h0, h1, h2]
  rw [this]
  exact List.filter_sublist.nodup (by decide)
theorem nodup_of_keys {α β : Type} {l : List (α × β)} (h : (l.map (·.1)).Nodup) : l.Nodup := List.Pairwise.of_map (fun p : α × β => p.1) (fun a b (h : a.1 ≠ b.1) e => h (by rw [e])) h
theorem clk_cnt {v : Vec} {g : Int} (h : InG g) : cnt (clk v) g = v g := by
  unfold clk
  simp only [List.filterMap_cons, List.filterMap_nil]
  by_cases h0 : v 0 = 0 <;> by_cases h1 : v 1 = 0 <;> by_cases h2 : v 2 = 0 <;> rcases h with rfl | rfl | rfl <;> simp [h0, h1, h2, cnt]
theorem clk_srt (v : Vec) : Srt (koPair koInt koInt) (clk v) := by
  unfold Srt clk
  simp only [List.filterMap_cons, List.filterMap_nil]
  by_cases h0 : v 0 = 0 <;> by_cases h1 : v 1 = 0 <;> by_cases h2 : v 2 = 0 <;> simp [h0, h1, h2, koPair, ordPair, koInt, ordInt]
theorem clk_one {g : Int} {n : Nat} (hg : InG g) (hn : n ≠ 0) : clk (vone g n) = [(g, (n : Int))] := by
  unfold clk vone
  rcases hg with rfl | rfl | rfl <;> simp [hn]
theorem clk_zero : clk (fun _ => 0) = [] := by simp [clk]

/-! # two sorted lists of the same things are the same -/
theorem srt_unique {α : Type} [DecidableEq α] (k : Ko α) : ∀ {l r : List α}, l.Perm r → Srt k l → Srt k r → l = r
  | [], r, p, _, _ => p.nil_eq
  | a :: l, [], p, _, _ => by have := p.length_eq; cases this
  | a :: l, b :: r, p, hl, hr => by
    have hl' := List.pairwise_cons.mp hl
    have hr' := List.pairwise_cons.mp hr
    have e : a = b := by
      by_cases q : a = b
      · exact q
      · have h1 : a ∈ r := by
          rcases List.mem_cons.mp (p.mem_iff.mp (List.mem_cons_self (a := a) (l := l))) with h | h
          · exact absurd h q
          · exact h
        have h2 : b ∈ l := by
          rcases List.mem_cons.mp (p.mem_iff.mpr (List.mem_cons_self (a := b) (l := r))) with h | h
          · exact absurd h.symm q
          · exact h
        exact k.tot _ _ (hr'.1 a h1) (hl'.1 b h2)
    subst e
    rw [srt_unique k (List.Perm.cons_inv p) hl'.2 hr'.2]

/-! # dicts from ints -/
noncomputable def look {α : Type} (ks : List (Int × α)) (g : Int) : Option α := (ks.find? fun p => decide (p.1 = g)).map (·.2)
noncomputable def put {α : Type} (ks : List (Int × α)) (g : Int) (a : α) : List (Int × α) := if ks.any (fun p => decide (p.1 = g)) then ks.map (fun p => if p.1 = g then (p.1, a) else p) else ks ++ [(g, a)]
noncomputable def KV {α : Type} (k : Kd α) (I : Imm) : List (Int × α) → List (Int × Value) → Prop
  | [], [] => True
  | p :: ks, q :: kvs => p.1 = q.1 ∧ k.is I p.2 q.2 ∧ KV k I ks kvs
  | _, _ => False
section
variable {α : Type} {k : Kd α} {I J : Imm}
theorem KV.sub (hs : Sub I J) : ∀ {ks : List (Int × α)} {kvs : List (Int × Value)}, KV k I ks kvs → KV k J ks kvs
  | [], [], _ => trivial
  | _ :: _, _ :: _, ⟨a, b, c⟩ => ⟨a, k.sub hs b, KV.sub hs c⟩
theorem KV.len : ∀ {ks : List (Int × α)} {kvs : List (Int × Value)}, KV k I ks kvs → kvs.length = ks.length
  | [], [], _ => rfl
  | _ :: _, _ :: _, ⟨_, _, c⟩ => by rw [List.length_cons, List.length_cons, KV.len c]
theorem KV.keys : ∀ {ks : List (Int × α)} {kvs : List (Int × Value)}, KV k I ks kvs → kvs.map (·.1) = ks.map (·.1)
  | [], [], _ => rfl
  | _ :: _, _ :: _, ⟨a, _, c⟩ => by rw [List.map_cons, List.map_cons, KV.keys c, a]
theorem KV.val : ∀ {ks : List (Int × α)} {kvs : List (Int × Value)} {g : Int}, KV k I ks kvs → match look ks g with
    | some a => ∃ v, valueAt kvs g = some v ∧ k.is I a v
    | none => valueAt kvs g = none
  | [], [], g, _ => rfl
  | p :: ks, q :: kvs, g, ⟨a, b, c⟩ => by
    unfold look valueAt
    rw [List.find?_cons, List.find?_cons, a]
    by_cases h : q.1 = g
    · rw [decide_eq_true h]; exact ⟨_, rfl, b⟩
    · rw [decide_eq_false h]; exact KV.val c
theorem KV.any : ∀ {ks : List (Int × α)} {kvs : List (Int × Value)} {g : Int}, KV k I ks kvs → kvs.any (fun p => decide (p.1 = g)) = ks.any (fun p => decide (p.1 = g))
  | [], [], g, _ => rfl
  | p :: ks, q :: kvs, g, ⟨a, b, c⟩ => by rw [List.any_cons, List.any_cons, KV.any c, a]
theorem KV.map {g : Int} {a : α} {v : Value} (hv : k.is I a v) : ∀ {ks : List (Int × α)} {kvs : List (Int × Value)}, KV k I ks kvs → KV k I (ks.map (fun p => if p.1 = g then (p.1, a) else p)) (kvs.map (fun p => if p.1 = g then (p.1, v) else p))
  | [], [], _ => trivial
  | p :: ks, q :: kvs, ⟨a, b, c⟩ => by
    rw [List.map_cons, List.map_cons]
    refine ⟨?_, ?_, KV.map hv c⟩
    · rw [a]; split <;> first | rfl | exact a
    · rw [a]
      split
      · exact hv
      · exact b
theorem KV.push {g : Int} {a : α} {v : Value} (hv : k.is I a v) : ∀ {ks : List (Int × α)} {kvs : List (Int × Value)}, KV k I ks kvs → KV k I (ks ++ [(g, a)]) (kvs ++ [(g, v)])
  | [], [], _ => ⟨rfl, hv, trivial⟩
  | p :: ks, q :: kvs, ⟨a, b, c⟩ => ⟨a, b, KV.push hv c⟩
theorem KV.put {g : Int} {a : α} {v : Value} {ks : List (Int × α)} {kvs : List (Int × Value)} (h : KV k I ks kvs) (hv : k.is I a v) : KV k I (put ks g a) (stored kvs g v) := by
  unfold Mine.put stored
  rw [h.any]
  split
  · exact KV.map hv h
  · exact KV.push hv h
end
theorem put_any {α : Type} {ks : List (Int × α)} {g : Int} : ks.any (fun p => decide (p.1 = g)) = true ↔ g ∈ ks.map (·.1) := by
  rw [List.any_eq_true, List.mem_map]
  constructor
  · rintro ⟨p, h, e⟩; exact ⟨p, h, of_decide_eq_true e⟩
  · rintro ⟨p, h, e⟩; exact ⟨p, h, decide_eq_true e⟩
theorem put_keys {α : Type} {ks : List (Int × α)} {g : Int} {a : α} : (put ks g a).map (·.1) = if g ∈ ks.map (·.1) then ks.map (·.1) else ks.map (·.1) ++ [g] := by
  unfold put
  by_cases h : g ∈ ks.map (·.1)
  · rw [if_pos (put_any.mpr h), if_pos h, List.map_map]
    apply List.map_congr_left
    intro p _
    dsimp only [Function.comp]
    split <;> rfl
  · rw [if_neg (fun q => h (put_any.mp q)), if_neg h, List.map_append]; rfl
theorem put_nodup {α : Type} {ks : List (Int × α)} {g : Int} {a : α} (h : (ks.map (·.1)).Nodup) : ((put ks g a).map (·.1)).Nodup := by
  rw [put_keys]
  split
  · exact h
  · rename_i q
    rw [List.nodup_append]
    refine ⟨h, by simp, ?_⟩
    intro x hx y hy
    rw [List.mem_singleton.mp hy]
    exact fun e => q (e ▸ hx)
theorem look_none {α : Type} {ks : List (Int × α)} {g : Int} : look ks g = none ↔ g ∉ ks.map (·.1) := by
  unfold look
  rw [Option.map_eq_none_iff, List.find?_eq_none, List.mem_map]
  constructor
  · rintro h ⟨p, hp, e⟩; exact h p hp (decide_eq_true e)
  · intro h p hp q; exact h ⟨p, hp, of_decide_eq_true q⟩
theorem look_map {α : Type} {g h : Int} {a : α} : ∀ (ks : List (Int × α)), look (ks.map (fun p => if p.1 = g then (p.1, a) else p)) h = if h = g ∧ g ∈ ks.map (·.1) then some a else look ks h
  | [] => by simp [look]
  | p :: ks => by
    have ih := look_map (g := g) (h := h) (a := a) ks
    unfold look at ih ⊢
    rw [List.map_cons, List.find?_cons, List.find?_cons]
    by_cases e1 : p.1 = g
    · rw [if_pos e1]
      dsimp only
      by_cases e2 : p.1 = h
      · rw [decide_eq_true e2]
        simp only [Option.map_some]
        rw [if_pos ⟨by rw [← e2, e1], by rw [← e1]; simp⟩]
      · rw [decide_eq_false e2, if_neg (fun q => e2 (by rw [e1, q.1]))]
        simp only []
        rw [ih, if_neg (fun q => e2 (by rw [e1, q.1]))]
    · rw [if_neg e1]
      by_cases e2 : p.1 = h
      · rw [decide_eq_true e2, if_neg (fun q => e1 (by rw [e2, q.1]))]
      · rw [decide_eq_false e2]
        simp only []
        rw [ih]
        have : (g ∈ List.map (fun x => x.fst) (p :: ks)) = (g ∈ List.map (fun x => x.fst) ks) := by
          rw [List.map_cons, List.mem_cons]
          exact propext ⟨fun q => q.resolve_left (fun z => e1 z.symm), .inr⟩
        simp only [this]
theorem look_put {α : Type} {ks : List (Int × α)} {g h : Int} {a : α} : look (put ks g a) h = if h = g then some a else look ks h := by
  unfold put
  by_cases hin : g ∈ ks.map (·.1)
  · rw [if_pos (put_any.mpr hin), look_map]
    by_cases e : h = g
    · rw [if_pos ⟨e, hin⟩, if_pos e]
    · rw [if_neg (fun q => e q.1), if_neg e]
  · rw [if_neg (fun q => hin (put_any.mp q))]
    unfold look
    rw [List.find?_append]
    by_cases e : h = g
    · rw [if_pos e, e]
      have : ks.find? (fun p => decide (p.1 = g)) = none := by
        have := look_none.mpr hin
        unfold look at this
        exact Option.map_eq_none_iff.mp this
      rw [this]
      simp
    · rw [if_neg e]
      have : List.find? (fun p => decide (p.1 = h)) [(g, a)] = none := by simp; exact fun q => e q.symm
      rw [this]
      simp
theorem look_mem {α : Type} {ks : List (Int × α)} (hn : (ks.map (·.1)).Nodup) {g : Int} {a : α} : look ks g = some a ↔ (g, a) ∈ ks := by
  induction ks with
  | nil => simp [look]
  | cons p ks ih =>
    rw [List.map_cons, List.nodup_cons] at hn
    unfold look at ih ⊢
    rw [List.find?_cons, List.mem_cons]
    by_cases e : p.1 = g
    · rw [decide_eq_true e]
      simp only [Option.map_some]
      constructor
      · intro q; injection q with q; exact .inl (by rw [← e, ← q])
      · rintro (q | q)
        · rw [← q]
        · exact absurd (List.mem_map.mpr ⟨_, q, rfl⟩) (by rw [← e]; exact hn.1)
    · rw [decide_eq_false e]
      simp only []
      rw [ih hn.2]
      constructor
      · exact .inr
      · rintro (q | q)
        · exact absurd (by rw [← q]) e
        · exact q

/-- a dict of counts holds a vector -/
structure Rep (ks : List (Int × Int)) (x : Vec) : Prop where
  nd : (ks.map (·.1)).Nodup
  inn : ∀ p ∈ ks, InG p.1
  val : ∀ g, InG g → look ks g = if x g = 0 then none else some (x g : Int)
theorem Rep.perm {ks : List (Int × Int)} {x : Vec} (h : Rep ks x) : ks.Perm (clk x) := by
  rw [List.perm_ext_iff_of_nodup (nodup_of_keys h.nd) (nodup_of_keys (clk_keys x))]
  rintro ⟨g, c⟩
  rw [mem_clk, ← look_mem h.nd]
  constructor
  · intro e
    have hg : InG g := h.inn _ ((look_mem h.nd).mp e)
    rw [h.val g hg] at e
    split at e
    · cases e
    · rename_i q; cases e; exact ⟨hg, q, rfl⟩
  · rintro ⟨hg, q, e⟩
    rw [h.val g hg, if_neg q, ← e]
theorem Rep.len {ks : List (Int × Int)} {x : Vec} (h : Rep ks x) : ks.length ≤ 3 := by rw [h.perm.length_eq]; exact clk_len x
theorem Rep.clk (v : Vec) : Rep (clk v) v where
  nd := clk_keys v
  inn := fun p hp => (mem_clk.mp hp).1
  val := fun g hg => by
    by_cases h : v g = 0
    · rw [if_pos h, look_none]
      intro q
      obtain ⟨p, hp, e⟩ := List.mem_map.mp q
      have := (mem_clk.mp hp).2.1
      rw [e] at this
      exact this h
    · rw [if_neg h, look_mem (clk_keys v)]
      exact mem_clk.mpr ⟨hg, h, rfl⟩
theorem Rep.put {ks : List (Int × Int)} {x : Vec} (h : Rep ks x) {g : Int} {n : Nat} (hg : InG g) (hn : n ≠ 0) : Rep (put ks g n) (fun i => if i = g then n else x i) where
  nd := put_nodup h.nd
  inn := fun p hp => by
    have hk : p.1 ∈ (Mine.put ks g (n : Int)).map (·.1) := List.mem_map.mpr ⟨p, hp, rfl⟩
    rw [put_keys] at hk
    have : p.1 ∈ ks.map (·.1) ∨ p.1 = g := by
      split at hk
      · exact .inl hk
      · rcases List.mem_append.mp hk with q | q
        · exact .inl q
        · exact .inr (List.mem_singleton.mp q)
    rcases this with q | q
    · obtain ⟨r, hr, e⟩ := List.mem_map.mp q
      rw [← e]; exact h.inn r hr
    · rw [q]; exact hg
  val := fun i hi => by
    rw [look_put]
    by_cases e : i = g
    · rw [if_pos e, if_pos e, if_neg hn]
    · rw [if_neg e, if_neg e]; exact h.val i hi
theorem Rep.congr {ks : List (Int × Int)} {x y : Vec} (h : Rep ks x) (e : VEq x y) : Rep ks y := ⟨h.nd, h.inn, fun g hg => by rw [← e g hg]; exact h.val g hg⟩

/-- the dict out of a tuple of pairs with keys of its own -/
theorem putAll_nodup : ∀ (kvs ps : List (Int × Value)), ((kvs ++ ps).map (·.1)).Nodup → putAll kvs ps = kvs ++ ps
  | kvs, [], _ => by simp [putAll]
  | kvs, (k, v) :: ps, h => by
    have hk : k ∉ kvs.map (·.1) := by
      rw [List.map_append, List.map_cons, List.nodup_append] at h
      exact fun q => h.2.2 k q k (.head _) rfl
    have e : stored kvs k v = kvs ++ [(k, v)] := by
      unfold stored
      rw [if_neg (fun q => hk (put_any.mp q))]
    rw [putAll, e, putAll_nodup (kvs ++ [(k, v)]) ps (by simpa using h)]
    simp
end Mine

set_option maxHeartbeats 4000000
namespace Mine

theorem Room.fits {A : Around} {d n : Nat} (h : Room A (d + 1)) (hn : n ≤ 9) : A.units + n < cLine := by have := h.units; omega
theorem Tp.big {K : Frag} {mb : Nm} {I : Imm} {h : Heap} (T : Tp K mb I) (e : InH I h) {a : Addr} {o : Obj} (ho : K.lookup a = some o) (ha : sysModules < a) : sysModules < h.objs.size :=
  Nat.lt_trans ha (Heap.lt_size (e _ _ (T.k _ _ ho)))

section
variable {prog : Program} {w : World} {A : Around} {s : Shared} {S₀ : Shared} {I₀ I : Imm} {X : List Addr} {L : Addr} {m : Nm} {M M1 M2 : List (Addr × Obj)} {env : Env} {pos : Pos}
theorem mcall {o : Expr} {name : Str} {apos : Pos} {args : List Expr} {pl : Sem Bool} {Q : Value → Shared → Prop}
    (h : wpAny (model prog w) A (eval o env) (fun ov s₁ => wpAny (model prog w) A (getMethod ov name pl) (fun fx s₂ => wpAny (model prog w) A (callWith pos fx.1 fx.2 (backTo pos (starEach args env)) []) Q noE s₂) noE s₁) noE s)
    (he : autoParam (eval (.Call (.Attribute o name apos) args [] pos) env = (do
      let ov ← eval o env
      standAt apos.atName
      let (f, first) ← holding [ov] (getMethod ov name pl)
      callWith pos f first (backTo pos (starEach args env)) (backToKw pos (keywordEach [] env)))) tacRfl) :
    wpAny (model prog w) A (eval (.Call (.Attribute o name apos) args [] pos) env) Q noE s := methodCall_KW h he
theorem dmeth {name : Str} {id : String} {pl : Sem Bool} {d : Addr} {kvs : List (Int × Value)} {Q : Value × List Value → Shared → Prop} (slot : Slot "dict" name id) (ty : typeOf (.builtin id) = pure (.type "method_descriptor")) (hd : s.heap.DictOf (intKind prog w) d kvs) (h : Q (.builtin id, [.ref d]) s) :
    wpAny (model prog w) A (getMethod (.ref d) name pl) Q noE s := getMethod_builtin hd.typeIs PySem.F.plainAttrs_dict slot ty hd.mapOf.noDict h
theorem lmeth {name : Str} {id : String} {pl : Sem Bool} {a : Addr} {o : Obj} {vs : List Value} {n : Nat} {Q : Value × List Value → Shared → Prop} (slot : Slot "list" name id) (ty : typeOf (.builtin id) = pure (.type "method_descriptor")) (ho : s.heap.get? a = some (seqObj "list" vs.toArray n)) (h : Q (.builtin id, [.ref a]) s) :
    wpAny (model prog w) A (getMethod (.ref a) name pl) Q noE s := getMethod_builtin (T := "list") ⟨_, ho, rfl⟩ PySem.F.plainAttrs_list slot ty (fun b e => by cases e; exact ⟨_, ho, rfl⟩) h
/-- a built-in's name, called -/
theorem gt_int {a b : Int} {t u : Tok} {Q : Value → Shared → Prop} (h : Q (.bool (decide (a > b))) s) : wpAny (model prog w) A (compareOp .Gt (.int a t) (.int b u)) Q noE s := by
  have := PyProof.Rows.gt_int (prog := prog) (w := w) (A := A) (E := noE) (s := s) (a := a) (b := b) (t := t) (u := u) (Q := Q) h
  exact this
end

noncomputable def xAt (u v : Vec) (i : Nat) : Vec := fun g => max (u g) (if ((clk v).take i).any (fun p => decide (p.1 = g)) then v g else 0)
theorem xAt_zero (u v : Vec) : VEq u (xAt u v 0) := fun g _ => by simp [xAt]
theorem xAt_end (u v : Vec) : VEq (xAt u v (clk v).length) (vmax u v) := fun g hg => by
  unfold xAt vmax
  rw [List.take_length]
  by_cases h : v g = 0
  · rw [h]; split <;> rfl
  · rw [if_pos]
    rw [List.any_eq_true]
    exact ⟨(g, v g), mem_clk.mpr ⟨hg, h, rfl⟩, decide_eq_true rfl⟩
theorem xAt_succ {u v : Vec} {i : Nat} {n c : Int} (h : (clk v)[i]? = some (n, c)) : xAt u v (i + 1) = fun g => if g = n then max (xAt u v i g) (v n) else xAt u v i g := by
  funext g
  unfold xAt
  rw [List.take_add_one, h, List.any_append]
  by_cases e : g = n
  · rw [if_pos e, e]
    simp only [Option.toList_some, List.any_cons, decide_true, List.any_nil, Bool.or_false, Bool.or_true, if_true]
    split <;> omega
  · rw [if_neg e]
    have e' : decide (n = g) = false := decide_eq_false fun q => e q.symm
    simp only [Option.toList_some, List.any_cons, List.any_nil, e', Bool.or_false]

section
variable {prog : Program} {w : World} {A : Around} {s : Shared} {mb : Nm} {I : Imm} {d : Nat}
theorem kInt_of {I : Imm} {c : Int} {v : Value} (h : kInt.is I c v) : ∃ t, v = .int c t := h

/-- the pairs of a clock, as the dict takes them -/
theorem clock_pairs {I : Imm} : ∀ {c : Clock} {vs : List Value}, Are (kPair kInt kInt) I c vs → ∃ (ps : List (Int × Value)), KV kInt I c ps ∧
    ∀ (i : Nat) (v : Value), vs[i]? = some v → Ex3 fun (p : Int × Value) (a : Addr) (t : Tok) => ps[i]? = some p ∧ v = .ref a ∧ TupI I a [.int p.1 t, p.2]
  | [], [], _ => ⟨[], trivial, fun i v e => by simp at e⟩
  | (g, c) :: l, v :: vs, ⟨⟨t, x, y, e1, e2, ⟨tg, e3⟩, e4⟩, h⟩ => by
    obtain ⟨ps, h1, h2⟩ := clock_pairs h
    dsimp only at e3 e4
    subst e1 e3
    refine ⟨(g, y) :: ps, ⟨rfl, e4, h1⟩, ?_⟩
    intro i v e
    cases i with
    | zero => simp at e; subst e; exact ⟨_, _, tg, rfl, rfl, e2⟩
    | succ i => exact h2 i v (by simpa using e)
theorem are_items {I J : Imm} (hs : Sub I J) : ∀ {ks : List (Int × Int)} {kvs : List (Int × Value)} {vs : List Value}, KV kInt I ks kvs →
    Are ⟨fun J p u => ∃ t x, u = .ref t ∧ TupI J t [x, p.2] ∧ kInt.is J p.1 x, fun hs ⟨t, x, e, a, b⟩ => ⟨t, x, e, a.sub hs, b⟩⟩ J kvs vs → Are (kPair kInt kInt) J ks vs
  | [], [], [], _, _ => trivial
  | p :: ks, q :: kvs, v :: vs, ⟨e, hv, hk⟩, ⟨⟨t, x, e1, e2, e3⟩, h⟩ => ⟨⟨t, x, q.2, e1, e2, by rw [e]; exact e3, hv⟩, are_items hs hk h⟩

theorem kv_getD {I : Imm} {ks : List (Int × Int)} {kvs : List (Int × Value)} {g : Int} {x : Nat} {t : Tok} (h : KV kInt I ks kvs) (e : look ks g = if x = 0 then none else some (x : Int)) : ∃ t', (valueAt kvs g).getD (.int 0 t) = .int x t' := by
  have := h.val (g := g)
  rw [e] at this
  by_cases h0 : x = 0
  · rw [if_pos h0] at this
    dsimp only at this
    rw [this, h0]; exact ⟨t, rfl⟩
  · rw [if_neg h0] at this
    obtain ⟨v, e1, t', e2⟩ := this
    rw [e1, e2]; exact ⟨t', rfl⟩
theorem join_ok {u v : Vec} {a b : Value} (R : Room A (d + 2)) (T : Tp (KK w.params) mb I) (hI : InH I s.heap) (ha : kClock.is I (clk u) a) (hb : kClock.is I (clk v) b) :
    wpAny (model prog w) A (call (.ref 35) [a, b]) (fun r s' => ∃ I', Gr s I [] I' s' ∧ kClock.is I' (clk (vmax u v)) r) noE s := by
  obtain ⟨ta, va, rfl, hta, hva⟩ := ha
  obtain ⟨tb, vb, rfl, htb, hvb⟩ := hb
  refine call_def (fd := fdA 35) (M := []) (X := []) (binds := [("one", _), ("other", _)]) R T hI (fun _ h => nomatch h) .nil rfl rfl rfl rfl rfl rfl ?_ rfl rfl rfl
  intro L s1 hL c1 R1
  obtain ⟨ps, hps, hpv⟩ := clock_pairs hva
  have hnd : (ps.map (·.1)).Nodup := by rw [hps.keys]; exact clk_keys u
  have hlen : ps.length ≤ 3 := by rw [hps.len]; exact clk_len u
  refine wpAny_execs_cons (wpAny_Assign_Name ?_)
  refine Call_Name rfl (nmB T c1 rfl rfl (by decide) ?_ rfl rfl rfl rfl)
  refine callWith_type1 (spliced_more (nm c1 rfl (spliced_none ?_) rfl rfl))
  refine dict_pairs c1 R1.hd hta (by rw [hva.length, hps.len]) hpv (by rw [sizeLine_eq]; omega) ?_ (T.big (a := 28) c1.imm rfl (by decide))
  intro dc o2 s2 c2 hd2 hlo
  rw [putAll_nodup [] ps (by simpa using hnd), List.nil_append] at hd2
  refine st c2 (fun s3 c3 => ?_) rfl rfl
  refine wpAny_execs_cons ?_
  refine' for_tup R1.hd (fun i I1 m1 M1 => m1 "counts" = some (.ref dc) ∧ m1 "other" = some (.ref tb) ∧ Ex3 fun o kvs ks => An4 (M1 = [(dc, o)]) (DI prog w o kvs) (KV kInt I1 ks kvs) (Rep ks (xAt u v i))) ?h
  case h =>
  refine nm c3 rfl ?_ rfl rfl
  refine ⟨rfl, _, _, _, c3, htb, ⟨rfl, rfl, o2, ps, clk u, rfl, hd2, hps, (Rep.clk u).congr (xAt_zero u v)⟩, ?_, ?_⟩
  · rintro i x I2 m2 M2 s4 hv ⟨hc, ho, o, kvs, ks, rfl, hd, hk, hr⟩ hsub hM c4 c5
    obtain ⟨⟨n, c⟩, hp, tt, y, z, rfl, htt, ⟨ty, rfl⟩, ⟨tz, rfl⟩⟩ := hvb.get hv
    obtain ⟨hn, hn0, hnc⟩ := mem_clk.mp (List.mem_of_getElem? hp)
    dsimp only at hn hn0 hnc
    refine asg2 c5 R1.hd ((htt.sub hsub).at c5.imm) (fun s6 c6 => ?_) rfl rfl rfl
    have hg := hr.val n hn
    have hD := at_dict (M1 := []) c6 hd
    refine wpAny_execs_cons (wpAny_If (wpAny_isTrue_Compare1 ?_))
    refine nm c6 rfl ?_ rfl rfl
    refine mcall ?_
    refine nm c6 hc ?_ rfl rfl
    refine dmeth PySem.F.slot_dict_get PySem.F.type_dict_get hD ?_
    refine cwB (spliced_more (nm c6 rfl (spliced_more (cint c6 fun t7 s7 c7 => spliced_none ?_)) rfl rfl))
    refine d_get2 c7 hlo (at_dict (M1 := []) c7 hd) fun s8 c8 => ?_
    obtain ⟨t8, e8⟩ := kv_getD (t := t7) hk hg
    rw [e8]
    refine Mine.gt_int (wpAny_truthy_bool ?_)
    by_cases hlt : c > (xAt u v i n : Int)
    · rw [decide_eq_true hlt, if_pos rfl]
      have hz : kvs.length ≤ sizeLine := by rw [hk.len, sizeLine_eq]; have := hr.len; omega
      refine wpAny_execs_cons (wpAny_Assign_Subscript (nm c8 rfl (nm c8 hc (nm c8 rfl ?_ rfl rfl) rfl rfl) rfl rfl))
      refine d_set (M1 := []) c8 hd hz fun s9 o9 hd9 c9 => ?_
      refine wpAny_execs_nil (wpAny_execs_nil ⟨_, _, _, c9, rfl, hc, ho, _, _, _, rfl, hd9, hk.put ⟨tz, rfl⟩, ?_⟩)
      dsimp only at hlt ⊢
      rw [hnc]
      refine (hr.put hn hn0).congr fun g hg => ?_
      rw [xAt_succ hp]
      dsimp only
      by_cases e : g = n
      · rw [if_pos e, if_pos e, e]; omega
      · rw [if_neg e, if_neg e]
    · rw [decide_eq_false hlt, if_neg Bool.false_ne_true]
      refine wpAny_execs_nil (wpAny_execs_nil ⟨_, _, _, c8, rfl, hc, ho, _, _, _, rfl, hd, hk, ?_⟩)
      refine hr.congr fun g hg => ?_
      rw [xAt_succ hp]
      dsimp only at hlt ⊢
      by_cases e : g = n
      · rw [if_pos e, e]; omega
      · rw [if_neg e]
  · rintro I2 m2 M2 s4 ⟨hc, ho, o, kvs, ks, rfl, hd, hk, hr⟩ hsub hM c4
    have hr' := hr
    rw [show vb.length = (clk v).length from hvb.length] at hr'
    have hr2 := hr'.congr (xAt_end u v)
    have hz : kvs.length ≤ sizeLine := by rw [hk.len, sizeLine_eq]; have := hr2.len; omega
    refine wpAny_execs_cons (wpAny_Return_some ?_)
    refine Call_Name rfl (nmB (T.sub hsub) c4 rfl rfl (by decide) ?_ rfl rfl rfl rfl)
    refine callWith_type1 (spliced_more ?_)
    refine Call_Name rfl (nmB (T.sub hsub) c4 rfl rfl (by decide) ?_ rfl rfl rfl rfl)
    refine cwB (spliced_more ?_)
    refine mcall ?_
    refine nm c4 hc ?_ rfl rfl
    refine dmeth PySem.F.slot_dict_items PySem.F.type_dict_items (at_dict (M1 := []) c4 hd) ?_
    refine cwB0 ?_
    refine d_items c4 hlo (at_dict (M1 := []) c4 hd) fun vw I5 s5 c5 sub5 hvw => spliced_none ?_
    refine sorted_ok (koPair koInt koInt) (P := fun l => l = ks) ?_ (d_collectItems c5 R1.hd (at_dict (M1 := []) c5 hd) hvw hz fun us s6 I6 c6 sub6 ha => ⟨I6, c6, sub6, ?_, ks, are_items (Sub.refl _) (hk.sub (sub5.trans sub6)) ha, rfl⟩) ?_
    · exact R1.fits (by decide)
    · rw [ha.length, hk.len]; have := hr2.len; omega
    · rintro D I7 s7 l l' out c7 sub7 hD hout hperm hsrt rfl
      refine spliced_none (tuple_lst c7 (hD.at c7.imm) ?_ fun t8 I8 s8 c8 sub8 ht8 => ?_)
      · rw [hout.length, hperm.length_eq, sizeLine_eq]; have := hr2.len; omega
      · refine ⟨I8, c8.leave hL, t8, out, rfl, ht8, ?_⟩
        have : l' = clk (vmax u v) := srt_unique (koPair koInt koInt) (hperm.trans hr2.perm) hsrt (clk_srt _)
        rw [← this]
        exact hout.sub sub8
end
end Mine

set_option maxHeartbeats 4000000
namespace Mine

section
variable {prog : Program} {w : World} {A : Around} {s : Shared} {S₀ : Shared} {I₀ I : Imm} {X : List Addr} {L : Addr} {m : Nm} {M M1 M2 : List (Addr × Obj)} {env : Env} {pos : Pos}
/-- a call that turns nothing -/
theorem Cx.call0 {t : Sem Value} {P : Imm → Value → Prop} {Q : Value → Shared → Prop} (c : Cx S₀ I₀ X I L m M s) (h : wpAny (model prog w) A t (fun v s' => ∃ I', Gr s I [] I' s' ∧ P I' v) noE s)
    (k : ∀ v I' s', Cx S₀ I₀ X I' L m M s' → Sub I I' → P I' v → Q v s') : wpAny (model prog w) A t Q noE s :=
  wpAny_mono h (fun v s' ⟨I', g, p⟩ => k v I' s' (c.back0 g) g.sub p) fun _ _ e => e.elim

theorem small {n : Nat} (h : n ≤ 1000) : n ≤ sizeLine := by rw [sizeLine_eq]; omega
theorem tupE (cU : Cx S₀ I₀ X I L m M s) {elts : List Expr} {k : Nat} {Q : Value → Shared → Prop}
    (h : wpAny (model prog w) A (spliced (backTo pos (starEach elts env))) (fun vs s1 => ∃ I1 M1, Cx S₀ I₀ X I1 L m M1 s1 ∧ vs.length ≤ 1000 ∧ ∀ t I' s', Cx S₀ I₀ X I' L m M1 s' → Sub I1 I' → TupI I' t vs → Q (.ref t) s') noE s) :
    wpAny (model prog w) A (eval (.Tuple elts k pos) env) Q noE s := by
  refine wpAny_Tuple (wpAny_mono h (fun vs s1 ⟨I1, M1, c, hz, h⟩ => ?_) fun _ _ e => e)
  obtain ⟨c2, sub⟩ := c.alloc (o := seqObj "tuple" vs.toArray 0) s1.toks rfl
  exact ⟨small hz, h _ _ _ c2 sub tup_new⟩
theorem lstE (cU : Cx S₀ I₀ X I L m M s) {elts : List Expr} {Q : Value → Shared → Prop}
    (h : wpAny (model prog w) A (spliced (backTo pos (starEach elts env))) (fun vs s1 => ∃ I1 M1, Cx S₀ I₀ X I1 L m M1 s1 ∧ vs.length ≤ 1000 ∧ ∀ t I' s', Cx S₀ I₀ X I' L m M1 s' → Sub I1 I' → LstI I' t vs → Q (.ref t) s') noE s) :
    wpAny (model prog w) A (eval (.List elts pos) env) Q noE s := by
  refine wpAny_List (wpAny_mono h (fun vs s1 ⟨I1, M1, c, hz, h⟩ => ?_) fun _ _ e => e)
  obtain ⟨c2, sub⟩ := c.alloc (o := seqObj "list" vs.toArray 0) s1.toks rfl
  exact ⟨small hz, h _ _ _ c2 sub lst_new⟩
theorem lstME (cU : Cx S₀ I₀ X I L m M s) {elts : List Expr} {Q : Value → Shared → Prop}
    (h : wpAny (model prog w) A (spliced (backTo pos (starEach elts env))) (fun vs s1 => ∃ I1 M1, Cx S₀ I₀ X I1 L m M1 s1 ∧ vs.length ≤ 1000 ∧ ∀ t s', Cx S₀ I₀ X I1 L m ((t, seqObj "list" vs.toArray 0) :: M1) s' → Q (.ref t) s') noE s) :
    wpAny (model prog w) A (eval (.List elts pos) env) Q noE s := by
  refine wpAny_List (wpAny_mono h (fun vs s1 ⟨I1, M1, c, hz, h⟩ => ?_) fun _ _ e => e)
  exact ⟨small hz, h _ _ (c.allocM (o := seqObj "list" vs.toArray 0) s1.toks rfl)⟩

/-! a tuple's head -/
theorem places_upto (k : Nat) : Builtin.Slice.slicePlaces 0 (k : Int) 1 = k := by
  cases k with
  | zero => rfl
  | succ k => simp [Builtin.Slice.slicePlaces]
theorem adjust_upto (a n : Nat) : Builtin.Slice.sliceAdjust none (some (a : Int)) 1 (n : Int) = ((0 : Int), ((min a n : Nat) : Int)) := by
  refine Prod.ext rfl ?_
  have h : ¬ (a : Int) < 0 := Int.not_lt.mpr (Int.natCast_nonneg a)
  simp [Builtin.Slice.sliceAdjust, h]
  omega
theorem pick_upto (vs : List Value) (k : Nat) : ((List.range k).filterMap fun (j : Nat) => vs.toArray[((0 : Int) + (j : Int) * 1).toNat]?) = vs.take k := by
  have e : (fun (j : Nat) => vs.toArray[((0 : Int) + (j : Int) * 1).toNat]?) = fun j => vs[j]? := by
    funext j
    have : ((0 : Int) + (j : Int) * 1).toNat = j := by omega
    rw [this]; simp
  rw [e]
  induction k with
  | zero => simp
  | succ k ih =>
    rw [List.range_succ, List.filterMap_append, ih, List.take_add_one]
    cases q : vs[k]? <;> simp [q]
theorem tup_upto {t sl : Addr} {vs : List Value} {a : Nat} {u : Tok} {Q : Value → Shared → Prop} (c : Cx S₀ I₀ X I L m M s) (ht : TupI I t vs) (hs : s.heap.IsSliceOf sl .none (.int a u) .none) (hz : vs.length ≤ sizeLine)
    (h : ∀ r I' s', Cx S₀ I₀ X I' L m M s' → Sub I I' → TupI I' r (vs.take a) → Q (.ref r) s') : wpAny (model prog w) A (getItem (.ref t) (.ref sl)) Q noE s := by
  obtain ⟨n, e⟩ := id ht
  have hT : s.TypeIs (.ref t) "tuple" := ⟨_, c.imm _ _ e, rfl⟩
  obtain ⟨os, hos, hcs, hds⟩ := id hs
  have hTs : s.TypeIs (.ref sl) "slice" := ⟨os, hos, hcs⟩
  unfold getItem
  refine wpAny_holding ?_
  refine wpAny_bind (wpAny_sequenceKey hT (by decide) ?_)
  refine wpAny_bind (wpAny_callSpecial?_slot (name := Str.ofString "__getitem__") hT slot_tuple_getitem
    (wpAny_call_entry slot_tuple_getitem hT entry_tuple_getitem ?_ (args_tuple_getitem _ _)))
  show wpAny _ _ (Builtin.Tuple.tupleItemsOf (.ref t) >>= _) _ _ s
  refine wpAny_bind (wpAny_tupleItemsOf (c.imm _ _ e) rfl ?_)
  refine wpAny_bind (wpAny_typeOf hTs ?_)
  rw [if_pos (by decide)]
  refine wpAny_bind ?_
  unfold Builtin.Slice.sliceApplied Builtin.Slice.sliceFields
  refine wpAny_bind (wpAny_bind (wpAny_field hos hds (x := .none) rfl (wpAny_bind (wpAny_field hos hds (x := .int a u) rfl (wpAny_bind (wpAny_field hos hds (x := .none) rfl (wpAny_pure ?_)))))))
  refine wpAny_bind (slicePart_none ?_)
  show wpAny _ _ (if ((1 : Int) == 0) = true then _ else _) _ _ s
  rw [if_neg (by decide)]
  refine wpAny_bind (slicePart_none (wpAny_bind (slicePart_int (wpAny_bind (wpAny_pure ?_)))))
  show wpAny _ _ (match Builtin.Slice.sliceAdjust none (some (a : Int)) 1 (vs.toArray.size : Int) with | (lo, hi) => pure (lo, (1 : Int), Builtin.Slice.slicePlaces lo hi 1)) _ _ s
  rw [List.size_toArray, adjust_upto]
  show wpAny _ _ (pure ((0 : Int), (1 : Int), Builtin.Slice.slicePlaces 0 ((min a vs.length : Nat) : Int) 1)) _ _ s
  rw [places_upto]
  refine wpAny_pure ?_
  show wpAny _ _ (if (((0 : Int) == 0 && (1 : Int) == 1 && min a vs.length == vs.toArray.size)) = true then _ else _) _ _ s
  have fresh : wpAny (model prog w) A.in1 (do
      let __do_lift ← Builtin.Tuple.tupleExact (List.filterMap (fun (k : Nat) => vs.toArray[((0 : Int) + (k : Int) * 1).toNat]?) (List.range (min a vs.length))).toArray
      ret __do_lift) (fun fin s' => ∃ v, fin = Fin.done (Flow.ret v) ∧ wpAny (model prog w) A (pure v) Q noE s') noE s := by
    rw [pick_upto]
    have e2 : vs.take (min a vs.length) = vs.take a := by
      rw [List.take_eq_take_iff]; omega
    rw [e2]
    obtain ⟨c2, sub⟩ := c.alloc (o := seqObj "tuple" (vs.take a).toArray 0) s.toks rfl
    refine wpAny_bind (m := Builtin.Tuple.tupleExact _) (wpAny_newObj_type (wpAny_pure ⟨_, rfl, wpAny_pure (h _ _ _ c2 sub tup_new)⟩) ?_)
    show (vs.take a).toArray.size ≤ sizeLine
    rw [List.size_toArray, List.length_take]; omega
  by_cases hw : min a vs.length = vs.length
  · rw [if_pos (by rw [List.size_toArray, hw]; simp)]
    have hsame : Q (.ref t) s := h t I s c (Sub.refl _) (by rw [List.take_of_length_le (by omega)]; exact ht)
    refine wpAny_bind (m := Builtin.Tuple.tupleIsExact _) (wpAny_bind (wpAny_typeOf hT (wpAny_pure ?_)))
    rw [if_pos (by decide)]
    exact wpAny_bind (wpAny_rule (wpAny_pure ⟨_, rfl, wpAny_pure hsame⟩))
  · rw [if_neg (by rw [List.size_toArray]; simpa using hw)]
    exact fresh
end

section
variable {prog : Program} {w : World} {A : Around} {s : Shared} {mb : Nm} {I : Imm} {d : Nat}
theorem kClock_mk {I : Imm} {c : Clock} {v : Value} {t : Addr} {vs : List Value} (h : TupI I t vs) (ha : Are (kPair kInt kInt) I c vs) : kClock.is I c (.ref t) := ⟨t, vs, rfl, h, ha⟩

theorem tick_ok {v : Vec} {g : Int} {tk : Tok} {b : Value} (R : Room A (d + 3)) (T : Tp (KK w.params) mb I) (hI : InH I s.heap) (hb : kClock.is I (clk v) b) (hg : InG g) :
    wpAny (model prog w) A (call (.ref 42) [b, .int g tk]) (fun r s' => ∃ I', Gr s I [] I' s' ∧ kClock.is I' (clk (vtick v g)) r) noE s := by
  refine call_def (fd := fdA 42) (M := []) (X := []) (binds := [("clock", _), ("goroutine", _)]) R T hI (fun _ h => nomatch h) .nil rfl rfl rfl rfl rfl rfl ?_ rfl rfl rfl
  intro L s1 hL c1 R1
  refine wpAny_execs_cons (wpAny_Return_some ?_)
  refine Call_Name rfl (nmG T c1 rfl ?_ rfl rfl rfl)
  refine cwK (K := KK w.params) rfl (spliced_more (nm c1 rfl (spliced_more (tupE c1 (spliced_more (tupE c1 (spliced_more (nm c1 rfl (spliced_more (wpAny_BinOp ?_)) rfl rfl)))))) rfl rfl))
  refine Call_Name rfl (nmG T c1 rfl ?_ rfl rfl rfl)
  refine cwK (K := KK w.params) rfl (spliced_more (nm c1 rfl (spliced_more (nm c1 rfl (spliced_none ⟨T.inn c1.imm, ?_⟩) rfl rfl)) rfl rfl))
  refine c1.call0 (P := fun _ x => ∃ t, x = .int (cnt (clk v) g) t) (count_ok (d := d) (R1.le (by omega)) T c1.imm hb) ?_
  rintro x I2 s2 c2 sub2 ⟨t2, rfl⟩
  refine cint c2 fun t3 s3 c3 => add_int ?_
  have c4 : Cx _ _ _ _ _ _ _ { s3 with toks := s3.toks + 1 } := c3.toks
  refine spliced_none ⟨_, _, c4, by simp, fun t5 I5 s5 c5 sub5 ht5 => ?_⟩
  refine spliced_none ⟨_, _, c5, by simp, fun t6 I6 s6 c6 sub6 ht6 => ?_⟩
  refine spliced_none ⟨(T.sub (sub2.trans (sub5.trans sub6))).inn c6.imm, ?_⟩
  have hk : kClock.is I6 (clk (vone g (v g + 1))) (.ref t6) := by
    rw [clk_one hg (by omega)]
    refine ⟨t6, _, rfl, ht6, ⟨⟨t5, _, _, rfl, ht5.sub sub6, ⟨_, rfl⟩, ⟨s3.toks, by rw [clk_cnt hg]; rfl⟩⟩, trivial⟩⟩
  refine c6.call0 (P := fun J r => kClock.is J (clk (vmax v (vone g (v g + 1)))) r) (join_ok (d := d) R1 (T.sub (sub2.trans (sub5.trans sub6))) c6.imm (kClock.sub (sub2.trans (sub5.trans sub6)) hb) hk) ?_
  intro r I7 s7 c7 sub7 hr
  refine ⟨I7, c7.leave hL, ?_⟩
  have e : clk (vmax v (vone g (v g + 1))) = clk (vtick v g) := clk_congr fun h hh => by
    unfold vmax vone vtick
    by_cases q : h = g
    · rw [if_pos q, if_pos q, q]; omega
    · rw [if_neg q, if_neg q]; omega
  rw [← e]; exact hr

noncomputable def vle (u v : Vec) : Bool := decide (u 0 ≤ v 0) && decide (u 1 ≤ v 1) && decide (u 2 ≤ v 2)
theorem vle_iff {u v : Vec} : vle u v = true ↔ VLe u v := by
  unfold vle VLe InG
  simp only [Bool.and_eq_true, decide_eq_true_eq]
  constructor
  · rintro ⟨⟨a, b⟩, c⟩ g (rfl | rfl | rfl) <;> assumption
  · intro h; exact ⟨⟨h 0 (.inl rfl), h 1 (.inr (.inl rfl))⟩, h 2 (.inr (.inr rfl))⟩

theorem before_ok {u v : Vec} {a b : Value} (R : Room A (d + 2)) (T : Tp (KK w.params) mb I) (hI : InH I s.heap) (ha : kClock.is I (clk u) a) (hb : kClock.is I (clk v) b) :
    wpAny (model prog w) A (call (.ref 49) [a, b]) (fun r s' => ∃ I', Gr s I [] I' s' ∧ r = .bool (vle u v)) noE s := by
  obtain ⟨ta, va, rfl, hta, hva⟩ := ha
  refine call_def (fd := fdA 49) (M := []) (X := []) (binds := [("one", _), ("other", _)]) R T hI (fun _ h => nomatch h) .nil rfl rfl rfl rfl rfl rfl ?_ rfl rfl rfl
  intro L s1 hL c1 R1
  refine wpAny_execs_cons ?_
  refine' for_tup R1.hd (fun i I1 m1 M1 => M1 = [] ∧ m1 "other" = some b ∧ ∀ j p, j < i → (clk u)[j]? = some p → u p.1 ≤ v p.1) ?h
  case h =>
  refine nm c1 rfl ?_ rfl rfl
  refine ⟨rfl, _, _, _, c1, hta, ⟨rfl, rfl, fun j p h => absurd h (Nat.not_lt_zero _)⟩, ?_, ?_⟩
  · rintro i x I2 m2 M2 s2 hv ⟨rfl, mo, hno⟩ hsub hM c2 c3
    obtain ⟨⟨n, c⟩, hp, tt, y, z, rfl, htt, ⟨ty, rfl⟩, ⟨tz, rfl⟩⟩ := hva.get hv
    obtain ⟨hn, hn0, hnc⟩ := mem_clk.mp (List.mem_of_getElem? hp)
    dsimp only at hn hn0 hnc
    refine asg2 c3 R1.hd ((htt.sub hsub).at c3.imm) (fun s3 c4 => ?_) rfl rfl rfl
    refine wpAny_execs_cons (wpAny_If (wpAny_isTrue_Compare1 ?_))
    refine nm c4 rfl ?_ rfl rfl
    refine Call_Name rfl (nmG (T.sub hsub) c4 rfl ?_ rfl rfl rfl)
    refine cwK (K := KK w.params) rfl (spliced_more (nm c4 mo (spliced_more (nm c4 rfl (spliced_none ⟨(T.sub hsub).inn c4.imm, ?_⟩) rfl rfl)) rfl rfl))
    refine c4.call0 (P := fun _ x => ∃ t, x = .int (cnt (clk v) n) t) (count_ok (d := d) R1 (T.sub hsub) c4.imm (kClock.sub hsub hb)) ?_
    rintro x I5 s5 c5 sub5 ⟨t5, rfl⟩
    refine Mine.gt_int (wpAny_truthy_bool ?_)
    rw [clk_cnt hn]
    dsimp only
    by_cases hlt : c > (v n : Int)
    · rw [decide_eq_true hlt, if_pos rfl]
      refine wpAny_execs_cons (wpAny_Return_some (cbool ?_))
      refine ⟨_, _, _, c5, fun c6 => ⟨_, c6.leave hL, ?_⟩⟩
      have : vle u v = false := by
        rw [← Bool.not_eq_true, vle_iff]
        intro h
        have := h n hn
        rw [hnc] at hlt; omega
      rw [this]
    · rw [decide_eq_false hlt, if_neg Bool.false_ne_true]
      refine wpAny_execs_nil (wpAny_execs_nil ⟨_, _, _, c5, rfl, rfl, mo, ?_⟩)
      intro j p hj e
      rcases Nat.lt_succ_iff_lt_or_eq.mp hj with q | rfl
      · exact hno j p q e
      · rw [hp] at e; cases e
        dsimp only
        rw [hnc] at hlt; omega
  · rintro I2 m2 M2 s2 ⟨rfl, mo, hno⟩ hsub hM c2
    refine wpAny_execs_cons (wpAny_Return_some (cbool ?_))
    refine ⟨_, c2.leave hL, ?_⟩
    have : vle u v = true := by
      rw [vle_iff]
      intro g hg
      by_cases h0 : u g = 0
      · rw [h0]; exact Nat.zero_le _
      · have : (g, (u g : Int)) ∈ clk u := mem_clk.mpr ⟨hg, h0, rfl⟩
        obtain ⟨j, hj⟩ := List.mem_iff_getElem?.mp this
        exact hno j _ (by rw [hva.length]; exact (List.getElem?_eq_some_iff.mp hj).1) hj
    rw [this]

theorem apart_ok {u v : Vec} {a b : Value} (R : Room A (d + 3)) (T : Tp (KK w.params) mb I) (hI : InH I s.heap) (ha : kClock.is I (clk u) a) (hb : kClock.is I (clk v) b) :
    wpAny (model prog w) A (call (.ref 56) [a, b]) (fun r s' => ∃ I', Gr s I [] I' s' ∧ r = .bool (!vle u v && !vle v u)) noE s := by
  refine call_def (fd := fdA 56) (M := []) (X := []) (binds := [("one", _), ("other", _)]) R T hI (fun _ h => nomatch h) .nil rfl rfl rfl rfl rfl rfl ?_ rfl rfl rfl
  intro L s1 hL c1 R1
  refine wpAny_execs_cons (wpAny_Return_some (BoolOp_and ?_))
  refine wpAny_UnaryOp ?_
  refine Call_Name rfl (nmG T c1 rfl ?_ rfl rfl rfl)
  refine cwK (K := KK w.params) rfl (spliced_more (nm c1 rfl (spliced_more (nm c1 rfl (spliced_none ⟨T.inn c1.imm, ?_⟩) rfl rfl)) rfl rfl))
  refine c1.call0 (P := fun _ x => x = .bool (vle u v)) (before_ok (d := d) R1 T c1.imm ha hb) ?_
  rintro x I2 s2 c2 sub2 rfl
  refine not_of (wpAny_truthy_bool (wpAny_truthy_bool ?_))
  cases h : vle u v with
  | true => exact ⟨_, c2.leave hL, rfl⟩
  | false =>
    refine BoolOp_one (wpAny_UnaryOp ?_)
    refine Call_Name rfl (nmG (T.sub sub2) c2 rfl ?_ rfl rfl rfl)
    refine cwK (K := KK w.params) rfl (spliced_more (nm c2 rfl (spliced_more (nm c2 rfl (spliced_none ⟨(T.sub sub2).inn c2.imm, ?_⟩) rfl rfl)) rfl rfl))
    refine c2.call0 (P := fun _ x => x = .bool (vle v u)) (before_ok (d := d) R1 (T.sub sub2) c2.imm (kClock.sub sub2 hb) (kClock.sub sub2 ha)) ?_
    rintro x I3 s3 c3 sub3 rfl
    refine not_of (wpAny_truthy_bool ?_)
    exact ⟨_, c3.leave hL, rfl⟩
end
end Mine

set_option maxHeartbeats 4000000
namespace Mine

noncomputable abbrev Path := List Int
noncomputable abbrev kPath : Kd Path := kList kInt
section
variable {prog : Program} {w : World} {A : Around} {s : Shared} {S₀ : Shared} {I₀ I : Imm} {X : List Addr} {L : Addr} {m : Nm} {M M1 M2 : List (Addr × Obj)} {env : Env} {pos : Pos}
theorem eq_tuples {α : Type} [DecidableEq α] (k : Ko α) {x y : Addr} {xs ys : List Value} {l r : List α} {Q : Value → Shared → Prop} (hu : A.units + (k.dep + 1) < cLine) (hI : InH I s.heap) (hx : TupI I x xs) (hy : TupI I y ys) (ax : Are k.toKd I l xs) (ay : Are k.toKd I r ys)
    (h : Q (.bool (decide (l = r))) s) : wpAny (model prog w) A (compareOp .Eq (.ref x) (.ref y)) Q noE s := by
  have u1 : A.in1.units + k.dep < cLine := in1_lt hu (Nat.le_refl _)
  have he := are_eq k u1 hI ax ay
  refine (RcAt.tuples (e := fun j => decide (l[j]? = r[j]?)) (hx.at' hI) (hy.at' hI) (by omega) (fun j h1 h2 => by simpa using he j (by simpa using h1) (by simpa using h2))) prog w noE Q ?_
  simp only [List.size_toArray]
  rw [ax.length, ay.length, all_eq]; exact h

theorem slice_head {value u : Expr} {p sp : Pos} {t : Addr} {vs : List Value} {Q : Value → Shared → Prop} (cU : Cx S₀ I₀ X I L m M s)
    (h : wpAny (model prog w) A (eval value env) (fun o s1 => wpAny (model prog w) A (eval u env) (fun i s2 => Ex5 fun I2 t vs k tk => An6 (Cx S₀ I₀ X I2 L m M s2) (o = .ref t) (TupI I2 t vs) (vs.length ≤ 1000) (i = .int ((k : Nat) : Int) tk) (∀ r I' s', Cx S₀ I₀ X I' L m M s' → Sub I2 I' → TupI I' r (vs.take k) → Q (.ref r) s')) noE s1) noE s)
    (ht : ∀ o r, letTemporaryGo value o r = pure () := by intro _ _; rfl) :
    wpAny (model prog w) A (eval (.Subscript value (.Slice none (some u) none p) sp) env) Q noE s := by
  refine wpAny_Subscript_Slice slot_tuple_getitem.lookup (wpAny_mono h (fun o s1 h1 => wpAny_Slice (wpAny_pure (wpAny_mono h1 (fun i s2 h2 => ?_) fun _ _ e => e))) fun _ _ e => e) ht
  obtain ⟨I2, t, vs, k, tk, c, rfl, ht, hz, rfl, h⟩ := h2
  refine wpAny_pure ?_
  have c1 : Cx S₀ I₀ X I2 L m M { s2 with heap := s2.heap.push { cls := .type "slice", data := .fields #[.none, .int k tk, .none] } } := c.push _ s2.toks
  refine ⟨?_, tup_upto c1 ht (Heap.IsSliceOf.new ..) (small hz) fun r I' s' c' sub ht' => h r I' s' c' sub ht'⟩
  obtain ⟨n, e⟩ := ht
  exact ⟨_, c1.imm _ _ e, rfl⟩
theorem Are.take {α : Type} {k : Kd α} {I : Imm} : ∀ {l : List α} {vs : List Value} (n : Nat), Are k I l vs → Are k I (l.take n) (vs.take n)
  | _, _, 0, _ => by simp only [List.take_zero]; trivial
  | [], [], n + 1, _ => trivial
  | _ :: _, _ :: _, n + 1, ⟨a, b⟩ => ⟨a, Are.take n b⟩
end

noncomputable def ahead (a b : Path) : Bool := decide (b.take a.length = a)
noncomputable def meet (a b : Path) : Bool := ahead a b || ahead b a
section
variable {prog : Program} {w : World} {A : Around} {s : Shared} {mb : Nm} {I : Imm} {d : Nat}
theorem ahead_ok {p q : Path} {a b : Value} (R : Room A (d + 2)) (T : Tp (KK w.params) mb I) (hI : InH I s.heap) (ha : kPath.is I p a) (hb : kPath.is I q b) (hp : p.length ≤ 1000) (hq : q.length ≤ 1000) :
    wpAny (model prog w) A (call (.ref 63) [a, b]) (fun r s' => ∃ I', Gr s I [] I' s' ∧ r = .bool (ahead p q)) noE s := by
  obtain ⟨ta, va, rfl, hta, hva⟩ := ha
  obtain ⟨tb, vb, rfl, htb, hvb⟩ := hb
  have la := hva.length
  have lb := hvb.length
  refine call_def (fd := fdA 63) (M := []) (X := []) (binds := [("one", _), ("other", _)]) R T hI (fun _ h => nomatch h) .nil rfl rfl rfl rfl rfl rfl ?_ rfl rfl rfl
  intro L s1 hL c1 R1
  refine wpAny_execs_cons (wpAny_Return_some (wpAny_Compare1 (slice_head (t := tb) (vs := vb) c1 (nm c1 rfl ?_ rfl rfl))))
  refine Call_Name rfl (nmB T c1 rfl rfl (by decide) ?_ rfl rfl rfl rfl)
  refine cwB (spliced_more (nm c1 rfl (spliced_none ?_) rfl rfl))
  refine len_tup c1 hta (by omega) fun t2 s2 c2 => ?_
  refine ⟨I, tb, vb, va.length, t2, c2, rfl, htb, by omega, rfl, fun r I3 s3 c3 sub3 ht3 => ?_⟩
  refine nm c3 rfl ?_ rfl rfl
  refine eq_tuples koInt (R1.fits (by decide)) c3.imm ht3 (hta.sub sub3) ((hvb.sub sub3).take va.length) (hva.sub sub3) ?_
  refine ⟨_, c3.leave hL, ?_⟩
  rw [la]; rfl
theorem meet_ok {p q : Path} {a b : Value} (R : Room A (d + 3)) (T : Tp (KK w.params) mb I) (hI : InH I s.heap) (ha : kPath.is I p a) (hb : kPath.is I q b) (hp : p.length ≤ 1000) (hq : q.length ≤ 1000) :
    wpAny (model prog w) A (call (.ref 70) [a, b]) (fun r s' => ∃ I', Gr s I [] I' s' ∧ r = .bool (meet p q)) noE s := by
  refine call_def (fd := fdA 70) (M := []) (X := []) (binds := [("one", _), ("other", _)]) R T hI (fun _ h => nomatch h) .nil rfl rfl rfl rfl rfl rfl ?_ rfl rfl rfl
  intro L s1 hL c1 R1
  refine wpAny_execs_cons (wpAny_Return_some (BoolOp_or ?_))
  refine Call_Name rfl (nmG T c1 rfl ?_ rfl rfl rfl)
  refine cwK (K := KK w.params) rfl (spliced_more (nm c1 rfl (spliced_more (nm c1 rfl (spliced_none ⟨T.inn c1.imm, ?_⟩) rfl rfl)) rfl rfl))
  refine c1.call0 (P := fun _ x => x = .bool (ahead p q)) (ahead_ok (d := d) R1 T c1.imm ha hb hp hq) ?_
  rintro x I2 s2 c2 sub2 rfl
  refine wpAny_truthy_bool ?_
  cases h : ahead p q with
  | true => exact ⟨_, c2.leave hL, by rw [meet, h]; rfl⟩
  | false =>
    refine BoolOp_one ?_
    refine Call_Name rfl (nmG (T.sub sub2) c2 rfl ?_ rfl rfl rfl)
    refine cwK (K := KK w.params) rfl (spliced_more (nm c2 rfl (spliced_more (nm c2 rfl (spliced_none ⟨(T.sub sub2).inn c2.imm, ?_⟩) rfl rfl)) rfl rfl))
    refine c2.call0 (P := fun _ x => x = .bool (ahead q p)) (ahead_ok (d := d) R1 (T.sub sub2) c2.imm (kPath.sub sub2 hb) (kPath.sub sub2 ha) hq hp) ?_
    rintro x I3 s3 c3 sub3 rfl
    exact ⟨_, c3.leave hL, by rw [meet, h]; rfl⟩

/-- the law's own test: the heads of the same length are the same -/
noncomputable def meets (a b : Path) : Bool := decide (a.take (min a.length b.length) = b.take (min a.length b.length))
theorem meets_eq (a b : Path) : meets a b = meet a b := by
  unfold meets meet ahead
  rw [Bool.eq_iff_iff, Bool.or_eq_true, decide_eq_true_eq, decide_eq_true_eq, decide_eq_true_eq]
  rcases Nat.le_total a.length b.length with h | h
  · rw [Nat.min_eq_left h, List.take_length]
    constructor
    · intro e; exact .inl e.symm
    · rintro (e | e)
      · exact e.symm
      · have hl := congrArg List.length e
        rw [List.length_take] at hl
        have : a.length = b.length := by omega
        rw [this, List.take_length]
        rw [← this, List.take_length] at e; exact e
  · rw [Nat.min_eq_right h, List.take_length]
    constructor
    · intro e; exact .inr e
    · rintro (e | e)
      · have hl := congrArg List.length e
        rw [List.length_take] at hl
        have : a.length = b.length := by omega
        rw [← this, List.take_length]
        rw [this, List.take_length] at e; exact e.symm
      · exact e
theorem meets_ok {p q : Path} {a b : Value} (R : Room A (d + 2)) (T : Tp (KK w.params) mb I) (hI : InH I s.heap) (ha : kPath.is I p a) (hb : kPath.is I q b) (hp : p.length ≤ 1000) (hq : q.length ≤ 1000) :
    wpAny (model prog w) A (call (.ref 288) [a, b]) (fun r s' => ∃ I', Gr s I [] I' s' ∧ r = .bool (meet p q)) noE s := by
  obtain ⟨ta, va, rfl, hta, hva⟩ := ha
  obtain ⟨tb, vb, rfl, htb, hvb⟩ := hb
  have la := hva.length
  have lb := hvb.length
  refine call_def (fd := fdA 288) (M := []) (X := []) (binds := [("one", _), ("other", _)]) R T hI (fun _ h => nomatch h) .nil rfl rfl rfl rfl rfl rfl ?_ rfl rfl rfl
  intro L s1 hL c1 R1
  refine wpAny_execs_cons (wpAny_Assign_Name ?_)
  refine Call_Name rfl (nmB T c1 rfl rfl (by decide) ?_ rfl rfl rfl rfl)
  refine cwB (spliced_more ?_)
  refine Call_Name rfl (nmB T c1 rfl rfl (by decide) ?_ rfl rfl rfl rfl)
  refine cwB (spliced_more (nm c1 rfl (spliced_none ?_) rfl rfl))
  refine len_tup c1 hta (by omega) fun t2 s2 c2 => spliced_more ?_
  refine Call_Name rfl (nmB T c2 rfl rfl (by decide) ?_ rfl rfl rfl rfl)
  refine cwB (spliced_more (nm c2 rfl (spliced_none ?_) rfl rfl))
  refine len_tup c2 htb (by omega) fun t3 s3 c3 => spliced_none ?_
  refine min_ii c3 R1.hd fun t4 s4 c4 => ?_
  refine st c4 (fun s5 c5 => ?_) rfl rfl
  refine wpAny_execs_cons (wpAny_Return_some (wpAny_Compare1 (slice_head (t := ta) (vs := va) c5 (nm c5 rfl (nm c5 rfl ?_ rfl rfl) rfl rfl))))
  refine ⟨I, ta, va, min va.length vb.length, t4, c5, rfl, hta, by omega, by rw [show ((min va.length vb.length : Nat) : Int) = min (va.length : Int) vb.length by omega], fun r I6 s6 c6 sub6 ht6 => ?_⟩
  refine slice_head (t := tb) (vs := vb) c6 (nm c6 rfl (nm c6 rfl ?_ rfl rfl) rfl rfl)
  refine ⟨I6, tb, vb, min va.length vb.length, t4, c6, rfl, htb.sub sub6, by omega, by rw [show ((min va.length vb.length : Nat) : Int) = min (va.length : Int) vb.length by omega], fun r7 I7 s7 c7 sub7 ht7 => ?_⟩
  refine eq_tuples koInt (R1.fits (by decide)) c7.imm (ht6.sub sub7) ht7 (((hva.sub sub6).sub sub7).take _) (((hvb.sub sub6).sub sub7).take _) ?_
  refine ⟨_, c7.leave hL, ?_⟩
  rw [← meets_eq, meets, la, lb]
end
end Mine

set_option maxHeartbeats 4000000
namespace Mine

/-! # new things handed out by a call -/
structure Made (s : Shared) (I' : Imm) (N : List (Addr × Obj)) (s' : Shared) : Prop where
  at_ : ∀ p ∈ N, s'.heap.get? p.1 = some p.2
  noI : ∀ p ∈ N, I' p.1 = none
  new : ∀ p ∈ N, s.heap.get? p.1 = none
  nd : (N.map (·.1)).Nodup
section
variable {S₀ : Shared} {I₀ I : Imm} {X : List Addr} {L : Addr} {m : Nm} {M N : List (Addr × Obj)} {s : Shared}
theorem Cx.adoptAll {s' : Shared} {I' : Imm} {M' : List (Addr × Obj)} (c : Cx S₀ I₀ X I L m M s) (c' : Cx S₀ I₀ X I' L m M' s') (hM : M'.map (·.1) = M.map (·.1)) (g : Made s I' N s') : Cx S₀ I₀ X I' L m (N ++ M') s' := by
  have hNL : ∀ p ∈ N, p.1 ≠ L := fun p hp q => by
    obtain ⟨o, e⟩ := c.isL
    rw [← q, g.new p hp] at e; cases e
  have hNM : ∀ p ∈ N, ∀ r ∈ M', r.1 ≠ p.1 := fun p hp r hr q => by
    have : r.1 ∈ M.map (·.1) := by rw [← hM]; exact List.mem_map.mpr ⟨r, hr, rfl⟩
    obtain ⟨t, ht, e⟩ := List.mem_map.mp this
    have := c.mt t ht
    rw [e, q, g.new p hp] at this; cases this
  refine ⟨c'.toGr, c'.ns, c'.immL, ?_, ?_, ?_, ?_, ?_⟩
  · intro p hp
    rcases List.mem_append.mp hp with h | h
    · exact g.at_ p h
    · exact c'.mt p h
  · intro p hp
    rcases List.mem_append.mp hp with h | h
    · exact g.noI p h
    · exact c'.mtI p h
  · intro p hp
    rcases List.mem_append.mp hp with h | h
    · exact hNL p h
    · exact c'.mtL p h
  · intro p hp
    rcases List.mem_append.mp hp with h | h
    · exact .inr (c.fresh (g.new p h))
    · exact c'.mtX p h
  · rw [List.map_append, List.nodup_append]
    refine ⟨g.nd, c'.nodup, ?_⟩
    intro a ha b hb
    obtain ⟨p, hp, rfl⟩ := List.mem_map.mp ha
    obtain ⟨r, hr, rfl⟩ := List.mem_map.mp hb
    exact fun q => hNM p hp r hr q.symm
theorem Cx.made' {I' : Imm} {s₁ : Shared} (c : Cx s I [] I' L m M s₁) (h : N.Sublist M) : Made s I' N s₁ :=
  ⟨fun p hp => c.mt p (h.mem hp), fun p hp => c.mtI p (h.mem hp), fun p hp => by
    rcases c.mtX p (h.mem hp) with q | q
    · cases q
    · exact q, (h.map _).nodup c.nodup⟩
end

theorem Room.in1 {A : Around} {d : Nat} (h : Room A (d + 1)) : Room A.in1 d := ⟨h.hd, by have := h.dp; show A.depth + d < _; omega, by have := h.un; show A.units + 1 + 10 * d < _; omega⟩

section
variable {prog : Program} {w : World} {A : Around} {s : Shared} {K : Frag} {mb : Nm} {I : Imm}
theorem code_def {fd : FuncData} {body : List Stmt} {f : Addr} {oc : Value} {od : Option Addr} {osl : Array (Option Value)} {args : List Value} {binds : List (Str × Value)} {d : Nat} {X : List Addr} {M : List (Addr × Obj)}
    {R' : Result → Shared → Prop} (R : Room A (d + 1)) (T : Tp K mb I) (hI : ∀ a o, I a = some o → s.heap.get? a = some o)
    (hM : ∀ p ∈ M, s.heap.get? p.1 = some p.2 ∧ I p.1 = none ∧ p.1 ∈ X) (hnd : (M.map (·.1)).Nodup)
    (ho : K.lookup f = some ⟨oc, od, .func fd, osl⟩) (hcd : codeIn K fd.code fd.qualname = true) (hbody : fd.body = .stmts body)
    (hbind : bindArgs fd ⟨args, []⟩ = pure binds) (hcell : fd.scope.names.all (fun x => x.2 != .cell) = true) (hloc : binds.all (fun x => fd.scope.names.lookup x.1 == some .local) = true)
    (h : ∀ (L : Addr) (s' : Shared), s.heap.get? L = none → Cx s I X I L (fun x => binds.reverse.lookup x) M s' → Room (A.deeper (callEnv fd L f)) d →
      wpAny (model prog w) (A.deeper (callEnv fd L f)) (execs body (callEnv fd L f)) (fun fl s' => R' (.ok (.ret (match fl with | .ret v => v | _ => .none))) s') noE s')
    (hco : fd.scope.isCoroutine = false) (hgen : fd.scope.isGenerator = false) (hk : fd.scope.kind = .function) :
    codeAny (model prog w) A (.call (.ref f) ⟨args, []⟩) R' s := by
  refine codeAny_call_def R.depth (hI _ _ (T.k _ _ ho)) rfl (T.lim hI) (codeRec_of (T.inn hI) hcd) hbody (BindsTo.of_eq hbind) ?_ ?_ (fun h₁ hns hk₁ => ?_) hco hgen hk
  · intro x hx q
    have := List.all_eq_true.mp hcell x hx
    rw [q] at this; cases this
  · intro x hx
    exact eq_of_beq (List.all_eq_true.mp hloc x hx)
  · have hL : s.heap.get? s.heap.objs.size = none := size_none _
    have c : Cx s I X I s.heap.objs.size (fun x => binds.reverse.lookup x) M { s with heap := h₁, toks := s.toks + binds.length } := by
      refine ⟨⟨⟨_, _, rfl⟩, fun a o e => ⟨o, hk₁ _ _ e⟩, fun a o e _ => hk₁ _ _ e, Sub.refl _, fun a o e => hk₁ _ _ (hI _ _ e), fun _ _ e => .inl e⟩, hns, ?_, fun p hp => hk₁ _ _ (hM p hp).1, fun p hp => (hM p hp).2.1,
        fun p hp => Nat.ne_of_lt (Heap.lt_size (hM p hp).1), fun p hp => .inl (hM p hp).2.2, hnd⟩
      · cases q : I s.heap.objs.size with
        | none => rfl
        | some x => have := hI _ _ q; rw [hL] at this; cases this
    exact wpAny_mono (h _ _ hL c (R.deeper _)) (fun fl s' q => q) fun _ _ e => e.elim
end

/-! # instances -/
section
variable {prog : Program} {w : World} {A : Around} {s : Shared} {S₀ : Shared} {I₀ I : Imm} {X : List Addr} {L : Addr} {m : Nm} {M M1 M2 : List (Addr × Obj)} {K : Frag} {mb : Nm} {C x dx : Addr} {es : List DictEntry} {n : Nat} {name : Str} {v : Value}
theorem inst_at (c : Cx S₀ I₀ X I L m M s) (hx : I x = some (instObj C dx)) (hd : s.heap.get? dx = some (dictOf es n)) : InstAt s.heap x (instObj C dx) C (some (dictOf es n)) := ⟨c.imm _ _ hx, rfl, rfl, hd⟩
theorem get_attr {expr : Bool} {Q : Value → Shared → Prop} (T : Tp K mb I) (c : Cx S₀ I₀ X I L m M s) (hx : I x = some (instObj C dx)) (hd : I dx = some (dictOf es n))
    (hga : findIn K (.ref C) "__getattribute__" = some (some (.builtin "object.__getattribute__"))) (hh : hasDictIn K C = true) (ha : findIn K (.ref C) name = some none) (hl : getL name es = some (some v)) (hv : handedIn v = true)
    (h : ∀ s', Cx S₀ I₀ X I L m M s' → Q v s') : wpAny (model prog w) A (getAttr (.ref x) name expr) Q noE s :=
  get_value (T.inn c.imm) (inst_at c hx (c.imm _ _ hd)) hga (findObj_own hh ha rfl hl) hv (h _ c.toks)
theorem get_meth {pl : Sem Bool} {f : Addr} {Q : Value × List Value → Shared → Prop} (T : Tp K mb I) (c : Cx S₀ I₀ X I L m M s) (hx : I x = some (instObj C dx)) (hd : I dx = some (dictOf es n))
    (hga : findIn K (.ref C) "__getattribute__" = some (some (.builtin "object.__getattribute__"))) (hk : findIn K (.ref C) "__getattr__" = some none) (hf : findIn K (.ref C) name = some (some (.ref f)))
    (ht : typeIn K (.ref f) = some (.type "function")) (hl : getL name es = some none) (h : Q (.ref f, [.ref x]) s) : wpAny (model prog w) A (getMethod (.ref x) name pl) Q noE s :=
  method_fn (T.inn c.imm) (inst_at c hx (c.imm _ _ hd)) hga hk hf ht (by unfold shadowIn; dsimp only; rw [lookIn_dict, hl]; rfl) h

theorem noClash {es : List DictEntry} {x : Str} (h : (getL x es).isSome = true) : (!es.toArray.any (·.key.isStr x) && es.toArray.any (·.refKey)) = false := by
  rw [List.any_toArray, List.any_toArray]
  cases p : es.any (·.key.isStr x) with
  | true => rfl
  | false =>
    cases q : es.any (·.refKey) with
    | false => rfl
    | true =>
      have hn : es.find? (·.key.isStr x) = none := List.find?_eq_none.mpr fun y hy z => by
        rw [List.any_eq_true.mpr ⟨y, hy, z⟩] at p; cases p
      rw [getL, hn] at h
      simp [q] at h
theorem set_attr {Q : Unit → Shared → Prop} (T : Tp K mb I) (c : Cx S₀ I₀ X I L m (M1 ++ (dx, dictOf es n) :: M2) s) (hx : I x = some (instObj C dx))
    (hs : findIn K (.ref C) "__setattr__" = some (some (.builtin "object.__setattr__"))) (hp : plainOver K C = true) (ht : takerIn K C name = some none) (hh : hasDictIn K C = true) (hl : (getL name es).isSome = true) (hz : Nat.ble es.length 50 = true)
    (h : ∀ s' tk, Cx S₀ I₀ X I L m (M1 ++ (dx, dictOf (putL name (PyData.keyHash w.params name) (.str name tk) v es) (putN name es n)) :: M2) s' → Q () s') :
    wpAny (model prog w) A (setAttr (.ref x) name v) Q noE s := by
  have hD : s.heap.get? dx = some (dictOf es n) := c.mt _ (List.mem_append_right _ (.head _))
  have hlen : ∀ (h : Int) (k u : Value) (es : List DictEntry), (putL name h k u es).length ≤ es.length + 1 := by
    intro h k u es
    induction es with
    | nil => exact Nat.le_refl _
    | cons e es ih => unfold putL; split
                      · simp
                      · simp [ih]
  have XK : K.In s.heap := T.inn c.imm
  refine set_plain XK (inst_at c hx hD) hs ?_
  have c1 : Cx S₀ I₀ X I L m (M1 ++ (dx, dictOf es n) :: M2) { s with toks := s.toks + 1 } := c.toks
  refine osa_open (s := { s with toks := s.toks + 1 }) XK (inst_at c1 hx hD) hp ht fun b => ?_
  obtain ⟨cd, hc, hd'⟩ := any_some hh
  have hxx := c.imm _ _ hx
  refine wpAny_bind (wpAny_pure (wpAny_bind (wpAny_bind (wpAny_loadPart hxx (wpAny_bind (looks_clsIn XK hc _ _ _ _ (fun _ _ e => e) ?_))))))
  rw [hd']
  refine wpAny_pure (a := some dx) (wpAny_bind (wpAny_pure (wpAny_bind ?_)))
  unfold nsSet
  refine wpAny_bind (wpAny_bind (wpAny_askSetting (wpAny_pure (wpAny_bind (wpAny_mkText (wpAny_bind (wpAny_loadPart hD ?_)))))))
  dsimp only
  rw [aRefKeyMayBeTheName_at, noClash hl]
  refine wpAny_updatePart hD ?_
  have D' : (s.heap.update dx (Obj.putName name (PyData.keyHash w.params name) (.str name (s.toks + 1)) v)).get? dx = some (dictOf (putL name (PyData.keyHash w.params name) (.str name (s.toks + 1)) v es) (putN name es n)) := by
    have := Heap.get?_update_self (Obj.putName name (PyData.keyHash w.params name) (.str name (s.toks + 1)) v) hD (by rw [putName_dict]; rfl)
    rw [putName_dict] at this
    exact this
  refine wpAny_bind (wpAny_lookBehind D' (pastItsLine_dict (by rw [List.size_toArray, sizeLine_eq]; have := hlen (PyData.keyHash w.params name) (.str name (s.toks + 1)) v es; have := Nat.le_of_ble_eq_true hz; omega)) ?_)
  refine wpAny_pure ?_
  exact h _ _ (c.turn (tk := s.toks + 1 + 1) (fun b ob hb e => (Heap.get?_update_other _ _ (Ne.symm hb)).trans e) D')

theorem make_inst {fI : Addr} {rest : List Value} {Q : Value → Shared → Prop} (T : Tp K mb I) (c : Cx S₀ I₀ X I L m M s) (hm : makesIn K C = true)
    (hi : findIn K (.ref C) "__init__" = some (some (.ref fI))) (hf : typeIn K (.ref fI) = some (.type "function"))
    (h : ∀ x dx s1 I1, S₀.heap.get? dx = none → Cx S₀ I₀ X I1 L m ((dx, emptyDict) :: M) s1 → I1 x = some (instObj C dx) → Sub I I1 →
      codeAny (model prog w) (A.under (.builtin "type.__call__" ⟨.ref C :: rest, []⟩)) (.call (.ref fI) ⟨.ref x :: rest, []⟩) (InitBack x (fun r s' => match r with | .ok (.ret v) => Q v s' | .ok _ => False | .error e => noE e s')) s1) :
    wpAny (model prog w) A (call (.ref C) rest) Q noE s := by
  refine wpAny_call ?_
  have XK : K.In s.heap := T.inn c.imm
  have hfr : S₀.heap.get? s.heap.objs.size = none := c.fresh (size_none _)
  have c1 := c.allocM (o := emptyDict) s.toks rfl
  obtain ⟨c2, sub⟩ := c1.alloc (o := instObj C s.heap.objs.size) s.toks rfl
  have hsz : (s.heap.push emptyDict).objs.size = s.heap.objs.size + 1 := Heap.size_push ..
  obtain ⟨hh, g, d, t, os⟩ := s
  refine make_core (makes_of XK hm) (looks_findIn XK hi) (fun self => bind_fn XK self hf) (.inl rfl) ?_
  have e : hh.objs.size + 1 = (hh.push emptyDict).objs.size := hsz.symm
  dsimp only at c2 hsz e sub hfr ⊢
  rw [e]
  exact h _ _ _ _ hfr c2 addI_self sub
end
end Mine

set_option maxHeartbeats 4000000
namespace Mine

/-! # contracts of things that turn -/
structure Own (s : Shared) (I : Imm) (M : List (Addr × Obj)) : Prop where
  at_ : ∀ p ∈ M, s.heap.get? p.1 = some p.2
  noI : ∀ p ∈ M, I p.1 = none
  nd : (M.map (·.1)).Nodup
noncomputable def Post (s : Shared) (I : Imm) (Y : List Addr) (P : Imm → List (Addr × Obj) → List (Addr × Obj) → Value → Prop) (v : Value) (s' : Shared) : Prop :=
  Ex3 fun I' Ms N => An5 (Gr s I Y I' s') (Ms.map (·.1) = Y) (∀ p ∈ Ms, s'.heap.get? p.1 = some p.2) (Made s I' N s') (P I' Ms N v)
section
variable {S₀ : Shared} {I₀ I : Imm} {X : List Addr} {L : Addr} {m : Nm} {M N Mc M1 M2 : List (Addr × Obj)} {s : Shared}
theorem Cx.own (c : Cx S₀ I₀ X I L m M s) (h : Mc.Sublist M) : Own s I Mc := ⟨fun p hp => c.mt p (h.mem hp), fun p hp => c.mtI p (h.mem hp), (h.map _).nodup c.nodup⟩
theorem Own.entry (h : Own s I M) : ∀ p ∈ M, s.heap.get? p.1 = some p.2 ∧ I p.1 = none ∧ p.1 ∈ M.map (·.1) := fun p hp => ⟨h.at_ p hp, h.noI p hp, List.mem_map.mpr ⟨p, hp, rfl⟩⟩
theorem Made.nil {s' : Shared} : Made s I [] s' := ⟨fun _ h => (nomatch h), fun _ h => (nomatch h), fun _ h => (nomatch h), .nil⟩
theorem Cx.callP {prog : Program} {w : World} {A : Around} {t : Sem Value} {P : Imm → List (Addr × Obj) → List (Addr × Obj) → Value → Prop} {Q : Value → Shared → Prop} (c : Cx S₀ I₀ X I L m (M1 ++ (Mc ++ M2)) s)
    (h : wpAny (model prog w) A t (Post s I (Mc.map (·.1)) P) noE s)
    (k : ∀ v I' s' Ms N, Cx S₀ I₀ X I' L m (N ++ (M1 ++ (Ms ++ M2))) s' → Sub I I' → P I' Ms N v → Q v s') : wpAny (model prog w) A t Q noE s := by
  refine wpAny_mono h (fun v s' ⟨I', Ms, N, g, e, hm, hN, p⟩ => ?_) fun _ _ e => e.elim
  have hmap : (M1 ++ (Ms ++ M2)).map (·.1) = (M1 ++ (Mc ++ M2)).map (·.1) := by simp only [List.map_append, e]
  have c1 : Cx S₀ I₀ X I' L m (M1 ++ (Ms ++ M2)) s' := by
    refine c.back g (fun a ha => ?_) hmap fun p hp => ?_
    · simp only [List.map_append]; exact List.mem_append_right _ (List.mem_append_left _ ha)
    · have hd := c.nodup
      simp only [List.map_append] at hd
      rcases List.mem_append.mp hp with q | q
      · refine g.keep _ _ (c.mt p (List.mem_append_left _ q)) fun z => ?_
        exact (List.nodup_append.mp hd).2.2 p.1 (List.mem_map.mpr ⟨p, q, rfl⟩) p.1 (List.mem_append_left _ z) rfl
      · rcases List.mem_append.mp q with q | q
        · exact hm p q
        · refine g.keep _ _ (c.mt p (List.mem_append_right _ (List.mem_append_right _ q))) fun z => ?_
          exact (List.nodup_append.mp (List.nodup_append.mp hd).2.1).2.2 p.1 z p.1 (List.mem_map.mpr ⟨p, q, rfl⟩) rfl
  exact k v I' s' Ms N (c.adoptAll c1 hmap hN) g.sub p
/-- the end of a contract: all of M was lent -/
theorem Cx.post {P : Imm → List (Addr × Obj) → List (Addr × Obj) → Value → Prop} {v : Value} {I' : Imm} {Ms : List (Addr × Obj)} {s' : Shared} {Y : List Addr} (c : Cx s I Y I' L m Ms s') (hL : s.heap.get? L = none) (hY : Ms.map (·.1) = Y) (p : P I' Ms [] v) : Post s I Y P v s' :=
  ⟨I', Ms, [], c.leave hL, hY, c.mt, Made.nil, p⟩
/-- the same, with new things N -/
theorem Cx.postN {P : Imm → List (Addr × Obj) → List (Addr × Obj) → Value → Prop} {v : Value} {I' : Imm} {Ms N : List (Addr × Obj)} {s' : Shared} {Y : List Addr} (c : Cx s I Y I' L m (N ++ Ms) s') (hL : s.heap.get? L = none) (hY : Ms.map (·.1) = Y) (p : P I' Ms N v) : Post s I Y P v s' := by
  refine ⟨I', Ms, N, c.leave hL, hY, fun p hp => c.mt p (List.mem_append_right _ hp), ⟨fun p hp => c.mt p (List.mem_append_left _ hp), fun p hp => c.mtI p (List.mem_append_left _ hp), fun p hp => ?_, ?_⟩, p⟩
  · rcases c.mtX p (List.mem_append_left _ hp) with h | h
    · have hd := c.nodup
      rw [List.map_append, List.nodup_append] at hd
      rw [← hY] at h
      exact absurd rfl (hd.2.2 p.1 (List.mem_map.mpr ⟨p, hp, rfl⟩) p.1 h)
    · exact h
  · have hd := c.nodup
    rw [List.map_append, List.nodup_append] at hd
    exact hd.1
end

section
variable {prog : Program} {w : World} {A : Around} {s : Shared} {K : Frag} {mb : Nm} {I : Imm}
/-- a def called, its contract opened: X and Q are names from here on -/
theorem call_defP {fd : FuncData} {body : List Stmt} {f : Addr} {oc : Value} {od : Option Addr} {osl : Array (Option Value)} {args : List Value} {binds : List (Str × Value)} {d : Nat} {M : List (Addr × Obj)} {P : Imm → List (Addr × Obj) → List (Addr × Obj) → Value → Prop}
    (R : Room A (d + 1)) (T : Tp K mb I) (hI : ∀ a o, I a = some o → s.heap.get? a = some o) (hO : Own s I M)
    (ho : K.lookup f = some ⟨oc, od, .func fd, osl⟩) (hcd : codeIn K fd.code fd.qualname = true) (hbody : fd.body = .stmts body)
    (hbind : bindArgs fd ⟨args, []⟩ = pure binds) (hcell : fd.scope.names.all (fun x => x.2 != .cell) = true) (hloc : binds.all (fun x => fd.scope.names.lookup x.1 == some .local) = true)
    (h : ∀ (X : List Addr) (Q : Value → Shared → Prop) (L : Addr) (s' : Shared), (∀ {m I' Ms v s'}, Cx s I X I' L m Ms s' → Ms.map (·.1) = M.map (·.1) → P I' Ms [] v → Q v s') → s.heap.get? L = none → Cx s I X I L (fun x => binds.reverse.lookup x) M s' → Room (A.deeper (callEnv fd L f)) d →
      wpAny (model prog w) (A.deeper (callEnv fd L f)) (execs body (callEnv fd L f)) (fun fl s' => Q (match fl with | .ret v => v | _ => .none) s') noE s')
    (hco : fd.scope.isCoroutine = false) (hgen : fd.scope.isGenerator = false) (hk : fd.scope.kind = .function) :
    wpAny (model prog w) A (call (.ref f) args) (Post s I (M.map (·.1)) P) noE s :=
  call_def R T hI hO.entry hO.nd ho hcd hbody hbind hcell hloc (fun L s' hL c R' => h _ _ L s' (fun c' e p => c'.post hL e p) hL c R') hco hgen hk
/-- the same, with new things handed out -/
theorem call_defPN {fd : FuncData} {body : List Stmt} {f : Addr} {oc : Value} {od : Option Addr} {osl : Array (Option Value)} {args : List Value} {binds : List (Str × Value)} {d : Nat} {M : List (Addr × Obj)} {P : Imm → List (Addr × Obj) → List (Addr × Obj) → Value → Prop}
    (R : Room A (d + 1)) (T : Tp K mb I) (hI : ∀ a o, I a = some o → s.heap.get? a = some o) (hO : Own s I M)
    (ho : K.lookup f = some ⟨oc, od, .func fd, osl⟩) (hcd : codeIn K fd.code fd.qualname = true) (hbody : fd.body = .stmts body)
    (hbind : bindArgs fd ⟨args, []⟩ = pure binds) (hcell : fd.scope.names.all (fun x => x.2 != .cell) = true) (hloc : binds.all (fun x => fd.scope.names.lookup x.1 == some .local) = true)
    (h : ∀ (X : List Addr) (Q : Value → Shared → Prop) (L : Addr) (s' : Shared), (∀ {m I' N Ms v s'}, Cx s I X I' L m (N ++ Ms) s' → Ms.map (·.1) = M.map (·.1) → P I' Ms N v → Q v s') → s.heap.get? L = none → Cx s I X I L (fun x => binds.reverse.lookup x) M s' → Room (A.deeper (callEnv fd L f)) d →
      wpAny (model prog w) (A.deeper (callEnv fd L f)) (execs body (callEnv fd L f)) (fun fl s' => Q (match fl with | .ret v => v | _ => .none) s') noE s')
    (hco : fd.scope.isCoroutine = false) (hgen : fd.scope.isGenerator = false) (hk : fd.scope.kind = .function) :
    wpAny (model prog w) A (call (.ref f) args) (Post s I (M.map (·.1)) P) noE s :=
  call_def R T hI hO.entry hO.nd ho hcd hbody hbind hcell hloc (fun L s' hL c R' => h _ _ L s' (fun c' e p => c'.postN hL e p) hL c R') hco hgen hk
end
/-! # dicts of ints, by what they hold -/
noncomputable abbrev DK {α : Type} (prog : Program) (w : World) (k : Kd α) (I : Imm) (o : Obj) (ks : List (Int × α)) : Prop := ∃ kvs, DI prog w o kvs ∧ KV k I ks kvs
theorem DK.sub {α : Type} {prog : Program} {w : World} {k : Kd α} {I J : Imm} {o : Obj} {ks : List (Int × α)} (h : DK prog w k I o ks) (hs : Sub I J) : DK prog w k J o ks := let ⟨kvs, a, b⟩ := h; ⟨kvs, a, b.sub hs⟩
section
variable {α : Type} {prog : Program} {w : World} {A : Around} {s : Shared} {S₀ : Shared} {I₀ I : Imm} {X : List Addr} {L : Addr} {m : Nm} {M M1 M2 : List (Addr × Obj)} {o : Obj} {d : Addr} {g : Int} {t : Tok} {k : Kd α} {ks : List (Int × α)}
theorem DK.at (c : Cx S₀ I₀ X I L m (M1 ++ (d, o) :: M2) s) (h : DK prog w k I o ks) : ∃ kvs, s.heap.DictOf (intKind prog w) d kvs ∧ KV k I ks kvs := let ⟨kvs, a, b⟩ := h; ⟨kvs, at_dict c a, b⟩
theorem dk_get {a : α} {Q : Value → Shared → Prop} {value slice : Expr} (c : Cx S₀ I₀ X I L m (M1 ++ (d, o) :: M2) s) (hd : DK prog w k I o ks) (ha : look ks g = some a) (h : ∀ s' v, Cx S₀ I₀ X I L m (M1 ++ (d, o) :: M2) s' → k.is I a v → Q v s')
    (hs : autoParam (subscripted slice false (.ref d) (.int g t) = operate [.ref d, .int g t] (getItem (.ref d) (.int g t))) tacWU) :
    wpAny (model prog w) A (subscriptTail value slice (.ref d) (.int g t)) Q noE s := by
  obtain ⟨kvs, hD, hk⟩ := hd.at c
  have := hk.val (g := g)
  rw [ha] at this
  obtain ⟨v, e1, e2⟩ := this
  exact tail_any hD.typeIs slot_dict_getitem.lookup (d_get c hD e1 fun s' c' => h s' v c' e2) hs
theorem KV.isSome {I : Imm} {ks : List (Int × α)} {kvs : List (Int × Value)} (hk : KV k I ks kvs) : (valueAt kvs g).isSome = (look ks g).isSome := by
  have := hk.val (g := g)
  cases q : look ks g with
  | none => rw [q] at this; dsimp only at this; rw [this]; rfl
  | some a => rw [q] at this; obtain ⟨v, e, _⟩ := this; rw [e]; rfl
theorem dk_notIn {Q : Value → Shared → Prop} (c : Cx S₀ I₀ X I L m (M1 ++ (d, o) :: M2) s) (hlo : (d == sysModules) = false) (hd : DK prog w k I o ks) (h : ∀ s', Cx S₀ I₀ X I L m (M1 ++ (d, o) :: M2) s' → Q (.bool (!(look ks g).isSome)) s') :
    wpAny (model prog w) A (compareOp .NotIn (.int g t) (.ref d)) Q noE s := by
  obtain ⟨kvs, hD, hk⟩ := hd.at c
  refine d_notIn c hlo hD fun s' c' => ?_
  rw [hk.isSome]; exact h s' c'
theorem dk_get2 {a : α} {dv : Value} {Q : Value → Shared → Prop} (c : Cx S₀ I₀ X I L m (M1 ++ (d, o) :: M2) s) (hlo : (d == sysModules) = false) (hd : DK prog w k I o ks) (hv : k.is I a dv)
    (h : ∀ s' v, Cx S₀ I₀ X I L m (M1 ++ (d, o) :: M2) s' → k.is I ((look ks g).getD a) v → Q v s') : wpAny (model prog w) A (call (.builtin "dict.get") [.ref d, .int g t, dv]) Q noE s := by
  obtain ⟨kvs, hD, hk⟩ := hd.at c
  refine d_get2 c hlo hD fun s' c' => h s' _ c' ?_
  have := hk.val (g := g)
  cases q : look ks g with
  | none => rw [q] at this; dsimp only at this; rw [this]; exact hv
  | some b => rw [q] at this; obtain ⟨v, e, e2⟩ := this; rw [e]; exact e2
theorem dk_set {a : α} {v : Value} {Q : Unit → Shared → Prop} (c : Cx S₀ I₀ X I L m (M1 ++ (d, o) :: M2) s) (hd : DK prog w k I o ks) (hsz : ks.length ≤ 1000) (hv : k.is I a v)
    (h : ∀ s' o', DK prog w k I o' (put ks g a) → Cx S₀ I₀ X I L m (M1 ++ (d, o') :: M2) s' → Q () s') : wpAny (model prog w) A (setItem (.ref d) (.int g t) v) Q noE s := by
  obtain ⟨kvs, hD, hk⟩ := hd
  exact d_set c hD (small (by rw [hk.len]; exact hsz)) fun s' o' h1 c' => h s' o' ⟨_, h1, hk.put hv⟩ c'
theorem DK.meth {name : Str} {id : String} {pl : Sem Bool} {Q : Value × List Value → Shared → Prop} (c : Cx S₀ I₀ X I L m (M1 ++ (d, o) :: M2) s) (hd : DK prog w k I o ks) (slot : Slot "dict" name id) (ty : typeOf (.builtin id) = pure (.type "method_descriptor")) (h : Q (.builtin id, [.ref d]) s) :
    wpAny (model prog w) A (getMethod (.ref d) name pl) Q noE s := let ⟨kvs, hD, hk⟩ := hd.at c; dmeth slot ty hD h
end

noncomputable abbrev kVec : Kd Vec := ⟨fun I v u => kClock.is I (clk v) u, fun hs h => kClock.sub hs h⟩
theorem kVec.eqv {I : Imm} {u v : Vec} {x : Value} (h : kVec.is I u x) (e : VEq u v) : kVec.is I v x := by
  show kClock.is I (clk v) x
  rw [← clk_congr e]; exact h
noncomputable def clk0 (ks : List (Int × Vec)) (g : Int) : Vec := (look ks g).getD (vone g 1)
noncomputable def clocked (ks : List (Int × Vec)) (g : Int) : List (Int × Vec) := match look ks g with | some _ => ks | none => put ks g (vone g 1)
theorem put_len {α : Type} (ks : List (Int × α)) (g : Int) (a : α) : (put ks g a).length ≤ ks.length + 1 := by
  unfold put
  split
  · rw [List.length_map]; omega
  · simp
theorem clocked_len (ks : List (Int × Vec)) (g : Int) : (clocked ks g).length ≤ ks.length + 1 := by
  unfold clocked
  split
  · omega
  · exact put_len _ _ _
theorem clocked_look (ks : List (Int × Vec)) (g : Int) : look (clocked ks g) g = some (clk0 ks g) := by
  unfold clocked clk0
  cases q : look ks g with
  | some v => dsimp only; rw [q]; rfl
  | none => dsimp only; rw [look_put, if_pos rfl]; rfl

theorem noMod {a : Addr} (h : 5 < a) : (a == sysModules) = false := by
  rw [beq_eq_false_iff_ne]
  intro e
  rw [e] at h
  exact absurd h (by decide)
noncomputable abbrev wEnts (h1 h2 h3 h4 h5 : Int) (t1 t2 t3 t4 t5 : Tok) (cd ld gd pd rl : Addr) : List DictEntry := [⟨h1, .str "clocks" t1, .ref cd⟩, ⟨h2, .str "lines" t2, .ref ld⟩, ⟨h3, .str "gates" t3, .ref gd⟩, ⟨h4, .str "places" t4, .ref pd⟩, ⟨h5, .str "races" t5, .ref rl⟩]
/-- a Watch -/
inductive WatchI (I : Imm) (x cd ld gd pd rl : Addr) : Prop
  | mk (dx : Addr) (n : Nat) (h1 h2 h3 h4 h5 : Int) (t1 t2 t3 t4 t5 : Tok) : I x = some (instObj 241 dx) → I dx = some (dictOf (wEnts h1 h2 h3 h4 h5 t1 t2 t3 t4 t5 cd ld gd pd rl) n) → (An4 (5 < cd) (5 < ld) (5 < gd) (5 < pd)) → WatchI I x cd ld gd pd rl
theorem WatchI.sub {I J : Imm} {x cd ld gd pd rl : Addr} (h : WatchI I x cd ld gd pd rl) (hs : Sub I J) : WatchI J x cd ld gd pd rl :=
  let ⟨dx, n, h1, h2, h3, h4, h5, t1, t2, t3, t4, t5, a, b, r⟩ := h; ⟨dx, n, h1, h2, h3, h4, h5, t1, t2, t3, t4, t5, hs _ _ a, hs _ _ b, r⟩
theorem WatchI.cd {I : Imm} {x cd ld gd pd rl : Addr} (h : WatchI I x cd ld gd pd rl) : (cd == sysModules) = false := let ⟨_, _, _, _, _, _, _, _, _, _, _, _, _, _, r, _, _, _⟩ := h; noMod r
theorem WatchI.ld {I : Imm} {x cd ld gd pd rl : Addr} (h : WatchI I x cd ld gd pd rl) : (ld == sysModules) = false := let ⟨_, _, _, _, _, _, _, _, _, _, _, _, _, _, _, r, _, _⟩ := h; noMod r
theorem WatchI.gd {I : Imm} {x cd ld gd pd rl : Addr} (h : WatchI I x cd ld gd pd rl) : (gd == sysModules) = false := let ⟨_, _, _, _, _, _, _, _, _, _, _, _, _, _, _, _, r, _⟩ := h; noMod r
theorem WatchI.pd {I : Imm} {x cd ld gd pd rl : Addr} (h : WatchI I x cd ld gd pd rl) : (pd == sysModules) = false := let ⟨_, _, _, _, _, _, _, _, _, _, _, _, _, _, _, _, _, r⟩ := h; noMod r

section
variable {prog : Program} {w : World} {A : Around} {s : Shared} {S₀ : Shared} {I₀ I : Imm} {X : List Addr} {L f : Addr} {m : Nm} {M M1 M2 : List (Addr × Obj)} {mb : Nm} {fd : FuncData} {x cd ld gd pd rl : Addr} {d : Nat}
theorem w_clocks {expr : Bool} {Q : Value → Shared → Prop} (T : Tp (KK w.params) mb I) (c : Cx S₀ I₀ X I L m M s) (W : WatchI I x cd ld gd pd rl) (h : ∀ s', Cx S₀ I₀ X I L m M s' → Q (.ref cd) s') : wpAny (model prog w) A (getAttr (.ref x) "clocks" expr) Q noE s := by
  obtain ⟨dx, n, h1, h2, h3, h4, h5, t1, t2, t3, t4, t5, a, b, _⟩ := W
  exact get_attr T c a b rfl rfl rfl rfl rfl h
theorem w_lines {expr : Bool} {Q : Value → Shared → Prop} (T : Tp (KK w.params) mb I) (c : Cx S₀ I₀ X I L m M s) (W : WatchI I x cd ld gd pd rl) (h : ∀ s', Cx S₀ I₀ X I L m M s' → Q (.ref ld) s') : wpAny (model prog w) A (getAttr (.ref x) "lines" expr) Q noE s := by
  obtain ⟨dx, n, h1, h2, h3, h4, h5, t1, t2, t3, t4, t5, a, b, _⟩ := W
  exact get_attr T c a b rfl rfl rfl rfl rfl h
theorem w_gates {expr : Bool} {Q : Value → Shared → Prop} (T : Tp (KK w.params) mb I) (c : Cx S₀ I₀ X I L m M s) (W : WatchI I x cd ld gd pd rl) (h : ∀ s', Cx S₀ I₀ X I L m M s' → Q (.ref gd) s') : wpAny (model prog w) A (getAttr (.ref x) "gates" expr) Q noE s := by
  obtain ⟨dx, n, h1, h2, h3, h4, h5, t1, t2, t3, t4, t5, a, b, _⟩ := W
  exact get_attr T c a b rfl rfl rfl rfl rfl h
theorem w_places {expr : Bool} {Q : Value → Shared → Prop} (T : Tp (KK w.params) mb I) (c : Cx S₀ I₀ X I L m M s) (W : WatchI I x cd ld gd pd rl) (h : ∀ s', Cx S₀ I₀ X I L m M s' → Q (.ref pd) s') : wpAny (model prog w) A (getAttr (.ref x) "places" expr) Q noE s := by
  obtain ⟨dx, n, h1, h2, h3, h4, h5, t1, t2, t3, t4, t5, a, b, _⟩ := W
  exact get_attr T c a b rfl rfl rfl rfl rfl h
theorem w_races {expr : Bool} {Q : Value → Shared → Prop} (T : Tp (KK w.params) mb I) (c : Cx S₀ I₀ X I L m M s) (W : WatchI I x cd ld gd pd rl) (h : ∀ s', Cx S₀ I₀ X I L m M s' → Q (.ref rl) s') : wpAny (model prog w) A (getAttr (.ref x) "races" expr) Q noE s := by
  obtain ⟨dx, n, h1, h2, h3, h4, h5, t1, t2, t3, t4, t5, a, b, _⟩ := W
  exact get_attr T c a b rfl rfl rfl rfl rfl h
theorem w_m {name : Str} {fa : Addr} {pl : Sem Bool} {Q : Value × List Value → Shared → Prop} (T : Tp (KK w.params) mb I) (c : Cx S₀ I₀ X I L m M s) (W : WatchI I x cd ld gd pd rl) (hf : findIn (KK w.params) (.ref 241) name = some (some (.ref fa)))
    (ht : typeIn (KK w.params) (.ref fa) = some (.type "function")) (hl : ∀ h1 h2 h3 h4 h5 t1 t2 t3 t4 t5, getL name (wEnts h1 h2 h3 h4 h5 t1 t2 t3 t4 t5 cd ld gd pd rl) = some none) (h : Q (.ref fa, [.ref x]) s) : wpAny (model prog w) A (getMethod (.ref x) name pl) Q noE s := by
  obtain ⟨dx, n, h1, h2, h3, h4, h5, t1, t2, t3, t4, t5, a, b, _⟩ := W
  exact get_meth T c a b rfl rfl hf ht (hl _ _ _ _ _ _ _ _ _ _) h
end
end Mine

set_option maxHeartbeats 4000000
namespace Mine
theorem if_join {prog : Program} {w : World} {A : Around} {s : Shared} {env : Env} {test : Expr} {body : List Stmt} {pos : Pos} {Q : Flow → Shared → Prop} (P : Shared → Prop)
    (h : wpAny (model prog w) A (isTrue test env (eval test env)) (fun b s2 => (b = true → wpAny (model prog w) A (execs body env) (fun f s' => f = .next ∧ P s') noE s2) ∧ (b = false → P s2)) noE s) (k : ∀ s', P s' → Q .next s') :
    wpAny (model prog w) A (exec (.If test body [] pos) env) Q noE s := by
  refine wpAny_If (wpAny_mono h (fun b s2 h2 => ?_) fun _ _ e => e)
  cases b with
  | true => exact wpAny_mono (h2.1 rfl) (fun f s' ⟨e, p⟩ => by rw [e]; exact k s' p) fun _ _ e => e
  | false => exact wpAny_execs_nil (k s2 (h2.2 rfl))
section
variable {prog : Program} {w : World} {A : Around} {s : Shared} {mb : Nm} {I : Imm} {d : Nat} {x cd ld gd pd rl : Addr} {o : Obj} {ks : List (Int × Vec)} {g : Int} {tk : Tok}

theorem clock_ok (R : Room A (d + 2)) (T : Tp (KK w.params) mb I) (hI : InH I s.heap) (W : WatchI I x cd ld gd pd rl) (hO : Own s I [(cd, o)]) (hk : DK prog w kVec I o ks) (hz : ks.length ≤ 900) (hg : InG g) :
    wpAny (model prog w) A (call (.ref 133) [.ref x, .int g tk]) (Post s I [cd] fun I' Ms N v => ∃ o', Ms = [(cd, o')] ∧ N = [] ∧ DK prog w kVec I' o' (clocked ks g) ∧ kVec.is I' (clk0 ks g) v) noE s := by
  refine call_def (fd := fdA 133) (M := [(cd, o)]) (X := [cd]) (binds := [("self", _), ("goroutine", _)]) R T hI hO.entry hO.nd rfl rfl rfl rfl rfl rfl ?_ rfl rfl rfl
  intro L s1 hL c1 R1
  refine wpAny_execs_cons (if_join (fun s' => ∃ I' o', Cx s I [cd] I' L (fun x_1 => List.lookup x_1 [(Str.ofString "self", Value.ref x), (Str.ofString "goroutine", Value.int g tk)].reverse) [(cd, o')] s' ∧ Sub I I' ∧ DK prog w kVec I' o' (clocked ks g)) (wpAny_isTrue_Compare1 ?_) ?_)
  · refine nm c1 rfl ?_ rfl rfl
    refine Attribute_name (nm c1 rfl ?_ rfl rfl)
    refine w_clocks T c1 W fun s2 c2 => ?_
    refine dk_notIn (M1 := []) c2 W.cd hk fun s3 c3 => wpAny_truthy_bool ⟨fun hb => ?_, fun hb => ?_⟩
    · have hn : look ks g = none := by cases q : look ks g with
        | none => rfl
        | some a => rw [q] at hb; cases hb
      refine wpAny_execs_cons (wpAny_Assign_Subscript ?_)
      refine tupE c3 (spliced_more (tupE c3 (spliced_more (nm c3 rfl (spliced_more (cint c3 fun t4 s4 c4 => spliced_none ⟨_, _, c4, by simp, fun t5 I5 s5 c5 sub5 ht5 => spliced_none ⟨_, _, c5, by simp, fun t6 I6 s6 c6 sub6 ht6 => ?_⟩⟩)) rfl rfl))))
      refine Attribute_name (nm c6 rfl ?_ rfl rfl)
      refine w_clocks (T.sub (sub5.trans sub6)) c6 (W.sub (sub5.trans sub6)) fun s7 c7 => ?_
      refine nm c7 rfl ?_ rfl rfl
      have hv : kVec.is I6 (vone g 1) (.ref t6) := by
        show kClock.is I6 (clk (vone g 1)) _
        rw [clk_one hg (by omega)]
        exact ⟨t6, _, rfl, ht6, ⟨⟨t5, _, _, rfl, ht5.sub sub6, ⟨_, rfl⟩, ⟨_, rfl⟩⟩, trivial⟩⟩
      refine dk_set (M1 := []) c7 (hk.sub (sub5.trans sub6)) (by omega) hv fun s8 o8 h8 c8 => ?_
      refine wpAny_execs_nil ⟨rfl, I6, o8, c8, sub5.trans sub6, ?_⟩
      unfold clocked; rw [hn]; exact h8
    · have hn : ∃ v, look ks g = some v := by cases q : look ks g with
        | none => rw [q] at hb; cases hb
        | some a => exact ⟨a, rfl⟩
      obtain ⟨v, hn⟩ := hn
      refine ⟨I, o, c3, Sub.refl _, ?_⟩
      unfold clocked; rw [hn]; exact hk
  · rintro s2 ⟨I2, o2, c2, sub2, hk2⟩
    refine wpAny_execs_cons (wpAny_Return_some (Subscript_ ?_))
    refine Attribute_name (nm c2 rfl ?_ rfl rfl)
    refine w_clocks (T.sub sub2) c2 (W.sub sub2) fun s3 c3 => ?_
    refine nm c3 rfl ?_ rfl rfl
    refine dk_get (M1 := []) c3 hk2 (clocked_look ks g) fun s4 v c4 hv => ?_
    exact c4.post hL rfl ⟨o2, rfl, rfl, hk2, hv⟩

theorem learn_ok {u : Vec} {ov : Value} (R : Room A (d + 3)) (T : Tp (KK w.params) mb I) (hI : InH I s.heap) (W : WatchI I x cd ld gd pd rl) (hO : Own s I [(cd, o)]) (hk : DK prog w kVec I o ks) (hz : ks.length ≤ 800) (hg : InG g) (hu : kVec.is I u ov) :
    wpAny (model prog w) A (call (.ref 140) [.ref x, .int g tk, ov]) (Post s I [cd] fun I' Ms N v => ∃ o', Ms = [(cd, o')] ∧ N = [] ∧ DK prog w kVec I' o' (put (clocked ks g) g (vmax (clk0 ks g) u)) ∧ v = .none) noE s := by
  refine call_def (fd := fdA 140) (M := [(cd, o)]) (X := [cd]) (binds := [("self", _), ("goroutine", _), ("other", _)]) R T hI hO.entry hO.nd rfl rfl rfl rfl rfl rfl ?_ rfl rfl rfl
  intro L s1 hL c1 R1
  refine wpAny_execs_cons (wpAny_Assign_Subscript ?_)
  refine Call_Name rfl (nmG T c1 rfl ?_ rfl rfl rfl)
  refine cwK (K := KK w.params) rfl (spliced_more (mcall (nm c1 rfl (w_m T c1 W rfl rfl (by intros; rfl) ?_) rfl rfl)))
  refine cwK (K := KK w.params) rfl (spliced_more (nm c1 rfl (spliced_none ⟨T.inn c1.imm, ?_⟩) rfl rfl))
  refine Cx.callP (M1 := []) (Mc := [(cd, o)]) (M2 := []) c1 (clock_ok (d := d) R1 T c1.imm W (c1.own (List.Sublist.refl _)) hk (by omega) hg) ?_
  rintro v2 I2 s2 Ms N c2 sub2 ⟨o2, rfl, rfl, hk2, hv2⟩
  refine spliced_more (nm c2 rfl (spliced_none ⟨(T.sub sub2).inn c2.imm, ?_⟩) rfl rfl)
  refine c2.call0 (P := fun J r => kClock.is J (clk (vmax (clk0 ks g) u)) r) (join_ok (d := d) R1 (T.sub sub2) c2.imm hv2 (kVec.sub sub2 hu)) ?_
  intro r I3 s3 c3 sub3 hr
  refine Attribute_name (nm c3 rfl ?_ rfl rfl)
  refine w_clocks (T.sub (sub2.trans sub3)) c3 (W.sub (sub2.trans sub3)) fun s4 c4 => ?_
  refine nm c4 rfl ?_ rfl rfl
  refine dk_set (M1 := []) c4 (hk2.sub sub3) (by have := clocked_len ks g; omega) hr fun s5 o5 h5 c5 => ?_
  exact wpAny_execs_nil (c5.post hL rfl ⟨o5, rfl, rfl, h5, rfl⟩)

theorem told_ok (R : Room A (d + 4)) (T : Tp (KK w.params) mb I) (hI : InH I s.heap) (W : WatchI I x cd ld gd pd rl) (hO : Own s I [(cd, o)]) (hk : DK prog w kVec I o ks) (hz : ks.length ≤ 800) (hg : InG g) :
    wpAny (model prog w) A (call (.ref 147) [.ref x, .int g tk]) (Post s I [cd] fun I' Ms N v => ∃ o', Ms = [(cd, o')] ∧ N = [] ∧ DK prog w kVec I' o' (put (clocked ks g) g (vtick (clk0 ks g) g)) ∧ kVec.is I' (clk0 ks g) v) noE s := by
  refine call_def (fd := fdA 147) (M := [(cd, o)]) (X := [cd]) (binds := [("self", _), ("goroutine", _)]) R T hI hO.entry hO.nd rfl rfl rfl rfl rfl rfl ?_ rfl rfl rfl
  intro L s1 hL c1 R1
  refine wpAny_execs_cons (wpAny_Assign_Name ?_)
  refine mcall ?_
  refine nm c1 rfl ?_ rfl rfl
  refine w_m T c1 W rfl rfl (by intros; rfl) ?_
  refine cwK (K := KK w.params) rfl (spliced_more (nm c1 rfl (spliced_none ⟨T.inn c1.imm, ?_⟩) rfl rfl))
  refine Cx.callP (M1 := []) (Mc := [(cd, o)]) (M2 := []) c1 (clock_ok (d := d + 1) R1 T c1.imm W (c1.own (List.Sublist.refl _)) hk (by omega) hg) ?_
  rintro v2 I2 s2 Ms N c2 sub2 ⟨o2, rfl, rfl, hk2, hv2⟩
  refine st c2 (fun s3 c3 => ?_) rfl rfl
  refine wpAny_execs_cons (wpAny_Assign_Subscript ?_)
  refine Call_Name rfl (nmG (T.sub sub2) c3 rfl ?_ rfl rfl rfl)
  refine cwK (K := KK w.params) rfl (spliced_more (nm c3 rfl (spliced_more (nm c3 rfl (spliced_none ⟨(T.sub sub2).inn c3.imm, ?_⟩) rfl rfl)) rfl rfl))
  refine c3.call0 (P := fun J r => kClock.is J (clk (vtick (clk0 ks g) g)) r) (tick_ok (d := d) R1 (T.sub sub2) c3.imm hv2 hg) ?_
  intro r I4 s4 c4 sub4 hr
  refine Attribute_name (nm c4 rfl ?_ rfl rfl)
  refine w_clocks (T.sub (sub2.trans sub4)) c4 (W.sub (sub2.trans sub4)) fun s5 c5 => ?_
  refine nm c5 rfl ?_ rfl rfl
  refine dk_set (M1 := []) c5 (hk2.sub sub4) (by have := clocked_len ks g; omega) hr fun s6 o6 h6 c6 => ?_
  refine wpAny_execs_cons (wpAny_Return_some (nm c6 rfl ?_ rfl rfl))
  exact c6.post hL rfl ⟨o6, rfl, rfl, h6, kVec.sub sub4 hv2⟩
end
end Mine

set_option maxHeartbeats 400000
namespace Mine
section
variable {prog : Program} {w : World} {A : Around} {s : Shared} {S₀ : Shared} {I₀ I : Imm} {X : List Addr} {L f : Addr} {m : Nm} {M M1 M2 : List (Addr × Obj)} {mb : Nm} {fd : FuncData} {K : Frag} {C : Addr}
/-- x, y = e1, e2 -/
theorem asgSw2 {x y : Str} {px py tp p pos : Pos} {k k' : Nat} {e1 e2 : Expr} {Q : Flow → Shared → Prop} (cU : Cx S₀ I₀ X I L m M s) (hh : A.handled = none)
    (h : wpAny (model prog w) A (spliced (backTo p (starEach [e1, e2] (callEnv fd L f)))) (fun vs s1 => Ex4 fun u v I1 M1 => vs = [u, v] ∧ Cx S₀ I₀ X I1 L m M1 s1 ∧ ∀ I' s', Cx S₀ I₀ X I' L (upd (upd m y v) x u) M1 s' → Sub I1 I' → Q .next s') noE s)
    (hk : fd.scope.kind = .function) (hx : (callEnv fd L f).kindOf x = some .local) (hy : (callEnv fd L f).kindOf y = some .local)
    (hs : autoParam (swapsWithSole [.Tuple [.Name x px, .Name y py] k tp] (.Tuple [e1, e2] k' p) pos.line (callEnv fd L f) = pure false) tacRfl)
    (hw : autoParam (swappedStores [.Tuple [.Name x px, .Name y py] k tp] (.Tuple [e1, e2] k' p) (callEnv fd L f) = pure (some [x, y])) tacRfl) :
    wpAny (model prog w) A (exec (.Assign [.Tuple [.Name x px, .Name y py] k tp] (.Tuple [e1, e2] k' p) pos) (callEnv fd L f)) Q noE s := by
  refine Assign_Tuple_swapped (names := [x, y]) (tupE cU (wpAny_mono h (fun vs s1 h1 => ?_) fun _ _ e => e)) hs hw
  obtain ⟨u, v, I1, M1, rfl, c, h⟩ := h1
  refine ⟨I1, M1, c, by simp, fun t I2 s2 c2 sub2 ht => ?_⟩
  refine unpackItems_tuple (items := #[u, v]) hh (ht.at c2.imm) fun h' he => ?_
  have c3 : Cx S₀ I₀ X I2 L m M1 { s2 with heap := h' } := c2.kept (tk := s2.toks) fun a o e => he a o (Nat.ne_of_lt (Heap.lt_size e)) e
  refine assignInOrder_cons (bindName_ (st c3 (fun s4 c4 => ?_) hk hy))
  refine assignInOrder_cons (bindName_ (st c4 (fun s5 c5 => ?_) hk hx))
  exact assignInOrder_nil (h I2 s5 c5 sub2)
/-- x, y, z = e1, e2, e3 -/
theorem asgSw3 {x y z : Str} {px py pz tp p pos : Pos} {k k' : Nat} {e1 e2 e3 : Expr} {Q : Flow → Shared → Prop} (cU : Cx S₀ I₀ X I L m M s) (hh : A.handled = none)
    (h : wpAny (model prog w) A (spliced (backTo p (starEach [e1, e2, e3] (callEnv fd L f)))) (fun vs s1 => Ex5 fun u v r I1 M1 => vs = [u, v, r] ∧ Cx S₀ I₀ X I1 L m M1 s1 ∧ ∀ I' s', Cx S₀ I₀ X I' L (upd (upd (upd m z r) y v) x u) M1 s' → Sub I1 I' → Q .next s') noE s)
    (hk : fd.scope.kind = .function) (hx : (callEnv fd L f).kindOf x = some .local) (hy : (callEnv fd L f).kindOf y = some .local) (hz : (callEnv fd L f).kindOf z = some .local)
    (hs : autoParam (swapsWithSole [.Tuple [.Name x px, .Name y py, .Name z pz] k tp] (.Tuple [e1, e2, e3] k' p) pos.line (callEnv fd L f) = pure false) tacRfl)
    (hw : autoParam (swappedStores [.Tuple [.Name x px, .Name y py, .Name z pz] k tp] (.Tuple [e1, e2, e3] k' p) (callEnv fd L f) = pure (some [x, y, z])) tacRfl) :
    wpAny (model prog w) A (exec (.Assign [.Tuple [.Name x px, .Name y py, .Name z pz] k tp] (.Tuple [e1, e2, e3] k' p) pos) (callEnv fd L f)) Q noE s := by
  refine Assign_Tuple_swapped (names := [x, y, z]) (tupE cU (wpAny_mono h (fun vs s1 h1 => ?_) fun _ _ e => e)) hs hw
  obtain ⟨u, v, r, I1, M1, rfl, c, h⟩ := h1
  refine ⟨I1, M1, c, by simp, fun t I2 s2 c2 sub2 ht => ?_⟩
  refine unpackItems_tuple (items := #[u, v, r]) hh (ht.at c2.imm) fun h' he => ?_
  have c3 : Cx S₀ I₀ X I2 L m M1 { s2 with heap := h' } := c2.kept (tk := s2.toks) fun a o e => he a o (Nat.ne_of_lt (Heap.lt_size e)) e
  refine assignInOrder_cons (bindName_ (st c3 (fun s4 c4 => ?_) hk hz))
  refine assignInOrder_cons (bindName_ (st c4 (fun s5 c5 => ?_) hk hy))
  refine assignInOrder_cons (bindName_ (st c5 (fun s6 c6 => ?_) hk hx))
  exact assignInOrder_nil (h I2 s6 c6 sub2)

/-- an object of a class is made, its __init__ run -/
theorem make_cx {fI : Addr} {rest : List Value} {Q : Value → Shared → Prop} {P : Addr → Addr → Imm → List (Addr × Obj) → List (Addr × Obj) → Value → Prop} (T : Tp K mb I) (c : Cx S₀ I₀ X I L m M s) (hm : makesIn K C = true)
    (hi : findIn K (.ref C) "__init__" = some (some (.ref fI))) (hf : typeIn K (.ref fI) = some (.type "function"))
    (hinit : ∀ (x dx : Addr) (s1 : Shared) (I1 : Imm) (R' : Result → Shared → Prop), I1 x = some (instObj C dx) → Sub I I1 → InH I1 s1.heap → Own s1 I1 [(dx, emptyDict)] →
      (∀ v s', Post s1 I1 [dx] (P x dx) v s' → R' (.ok (.ret v)) s') → codeAny (model prog w) (A.under (.builtin "type.__call__" ⟨.ref C :: rest, []⟩)) (.call (.ref fI) ⟨.ref x :: rest, []⟩) R' s1)
    (hnone : ∀ x dx I' Ms N v, P x dx I' Ms N v → v = .none)
    (k : ∀ x dx od I2 s' N, Cx S₀ I₀ X (addI I2 dx od) L m (N ++ M) s' → Sub I (addI I2 dx od) → Sub I2 (addI I2 dx od) → I2 x = some (instObj C dx) → P x dx I2 [(dx, od)] N .none → Q (.ref x) s') :
    wpAny (model prog w) A (call (.ref C) rest) Q noE s := by
  refine make_inst T c hm hi hf fun x dx s1 I1 hnew c1 hx sub1 => ?_
  refine hinit x dx s1 I1 _ hx sub1 c1.imm (c1.own (List.Sublist.cons_cons _ (List.nil_sublist _))) fun v s' hpost => ?_
  obtain ⟨I2, Ms, N, g, e, hMs, hN, p⟩ := hpost
  have hv := hnone _ _ _ _ _ _ p
  subst hv
  refine ⟨rfl, ?_⟩
  have hMs' : ∃ od, Ms = [(dx, od)] := by
    cases Ms with
    | nil => cases e
    | cons q r =>
      cases r with
      | cons _ _ => simp at e
      | nil => obtain ⟨a, o⟩ := q; simp at e; subst e; exact ⟨o, rfl⟩
  obtain ⟨od, rfl⟩ := hMs'
  have hd := hMs _ (.head _)
  have hnd := c1.nodup
  rw [List.map_cons, List.nodup_cons] at hnd
  have c2 : Cx S₀ I₀ X I2 L m ((dx, od) :: M) s' := by
    refine c1.back g (fun a ha => ?_) rfl fun q hq => ?_
    · rw [List.mem_singleton.mp ha]; exact .head _
    · rcases List.mem_cons.mp hq with rfl | hq
      · exact hd
      · refine g.keep _ _ (c1.mt q (.tail _ hq)) fun z => ?_
        rw [List.mem_singleton] at z
        exact hnd.1 (List.mem_map.mpr ⟨q, hq, z⟩)
  have c3 : Cx S₀ I₀ X I2 L m (N ++ ((dx, od) :: M)) s' := c1.adoptAll c2 rfl hN
  have hdN : ∀ q ∈ N ++ M, q.1 ≠ dx := by
    have h := c3.sep (M1 := N) (M2 := M)
    exact h
  have c4 : Cx S₀ I₀ X I2 L m (N ++ M) s' := c3.drop (List.Sublist.append (List.Sublist.refl _) (List.sublist_cons_self _ _))
  have hin : (dx, od) ∈ N ++ ((dx, od) :: M) := List.mem_append_right _ (.head _)
  obtain ⟨c5, sub5⟩ := c4.take (c3.mt _ hin) hnew (c3.mtL _ hin) hdN (c3.mtI _ hin)
  exact k x dx od I2 s' N c5 ((sub1.trans g.sub).trans sub5) sub5 (g.sub _ _ hx) p

/-! ## Line -/
noncomputable abbrev lEnts (h1 h2 h3 h4 : Int) (t1 t2 t3 t4 : Tok) (rv sv qv ev : Value) : List DictEntry := [⟨h1, .str "room" t1, rv⟩, ⟨h2, .str "sent" t2, sv⟩, ⟨h3, .str "received" t3, qv⟩, ⟨h4, .str "end" t4, ev⟩]
inductive LineI (I : Imm) (x sa ra : Addr) : Prop
  | mk (dx : Addr) (n : Nat) (h1 h2 h3 h4 : Int) (t1 t2 t3 t4 : Tok) (rv ev : Value) : I x = some (instObj 87 dx) → I dx = some (dictOf (lEnts h1 h2 h3 h4 t1 t2 t3 t4 rv (.ref sa) (.ref ra) ev) n) → LineI I x sa ra
theorem LineI.sub {I J : Imm} {x sa ra : Addr} (h : LineI I x sa ra) (hs : Sub I J) : LineI J x sa ra :=
  let ⟨dx, n, h1, h2, h3, h4, t1, t2, t3, t4, rv, ev, a, b⟩ := h; ⟨dx, n, h1, h2, h3, h4, t1, t2, t3, t4, rv, ev, hs _ _ a, hs _ _ b⟩
noncomputable def kLine : Kd (Addr × Addr) := ⟨fun I p v => ∃ x, v = .ref x ∧ LineI I x p.1 p.2, fun hs ⟨x, e, h⟩ => ⟨x, e, h.sub hs⟩⟩
noncomputable abbrev newL : Obj := seqObj "list" ([] : List Value).toArray 0
theorem line_init {d : Nat} {x dx : Addr} {r : Int} {tk : Tok} {R' : Result → Shared → Prop} (R : Room A (d + 1)) (T : Tp (KK w.params) mb I) (hI : InH I s.heap) (hx : I x = some (instObj 87 dx)) (hO : Own s I [(dx, emptyDict)])
    (h : ∀ v s', Post s I [dx] (fun I' Ms N v => v = .none ∧ Ex12 fun sa ra n h1 h2 h3 h4 t1 t2 t3 t4 ev => Ms = [(dx, dictOf (lEnts h1 h2 h3 h4 t1 t2 t3 t4 (.int r tk) (.ref sa) (.ref ra) ev) n)] ∧ N = [(ra, newL), (sa, newL)]) v s' → R' (.ok (.ret v)) s') :
    codeAny (model prog w) A (.call (.ref 84) ⟨[.ref x, .int r tk], []⟩) R' s := by
  refine code_def (fd := fdA 84) (M := [(dx, emptyDict)]) (X := [dx]) (binds := [("self", _), ("room", _)]) R T hI hO.entry hO.nd rfl rfl rfl rfl rfl rfl ?_ rfl rfl rfl
  intro L s1 hL c1 R1
  refine wpAny_execs_cons (plainObj_wpAny_Assign_Attribute ?_)
  refine nm c1 rfl (nm c1 rfl ?_ rfl rfl) rfl rfl
  refine set_attr (M1 := []) (es := []) (n := 0) T c1 hx rfl rfl rfl rfl rfl rfl fun s2 t2 c2 => ?_
  refine wpAny_execs_cons (plainObj_wpAny_Assign_Attribute ?_)
  refine lstME c2 (spliced_none ⟨_, _, c2, by simp, fun sa s3 c3 => ?_⟩)
  refine nm c3 rfl ?_ rfl rfl
  refine set_attr (M1 := [(sa, newL)]) T c3 hx rfl rfl rfl rfl rfl rfl fun s4 t4 c4 => ?_
  refine wpAny_execs_cons (plainObj_wpAny_Assign_Attribute ?_)
  refine lstME c4 (spliced_none ⟨_, _, c4, by simp, fun ra s5 c5 => ?_⟩)
  refine nm c5 rfl ?_ rfl rfl
  refine set_attr (M1 := [(ra, newL), (sa, newL)]) T c5 hx rfl rfl rfl rfl rfl rfl fun s6 t6 c6 => ?_
  refine wpAny_execs_cons (plainObj_wpAny_Assign_Attribute ?_)
  refine tupE c6 (spliced_none ⟨_, _, c6, by simp, fun t7 I7 s7 c7 sub7 ht7 => ?_⟩)
  refine nm c7 rfl ?_ rfl rfl
  refine set_attr (M1 := [(ra, newL), (sa, newL)]) (T.sub sub7) c7 (sub7 _ _ hx) rfl rfl rfl rfl rfl rfl fun s8 t8 c8 => ?_
  refine wpAny_execs_nil (h _ _ (Cx.postN (N := [(ra, newL), (sa, newL)]) c8 hL rfl ⟨rfl, sa, ra, _, _, _, _, _, _, _, _, _, _, rfl, rfl⟩))
end
end Mine

set_option maxHeartbeats 400000
namespace Mine
theorem Room.under {A : Around} {d : Nat} (h : Room A (d + 1)) (C : Addr) (vals : List Value) : Room (A.under (.builtin "type.__call__" ⟨.ref C :: vals, []⟩)) d :=
  ⟨h.hd, by rw [depth_under_make]; have := h.dp; omega, by rw [units_under_make]; have := h.un; omega⟩
section
variable {prog : Program} {w : World} {A : Around} {s : Shared} {mb : Nm} {I : Imm} {d : Nat} {x cd ld gd pd rl : Addr} {o : Obj} {ks : List (Int × Vec)} {g : Int} {tk : Tok}

theorem line_ok {lo : Obj} {ls : List (Int × (Addr × Addr))} {r : Int} {tr : Tok} (R : Room A (d + 4)) (T : Tp (KK w.params) mb I) (hI : InH I s.heap) (W : WatchI I x cd ld gd pd rl) (hO : Own s I [(ld, lo)]) (hk : DK prog w kLine I lo ls) (hz : ls.length ≤ 900) :
    wpAny (model prog w) A (call (.ref 161) [.ref x, .int g tk, .int r tr]) (Post s I [ld] fun I' Ms N v => Ex5 fun lo' l sa ra ls' => An5 (Ms = [(ld, lo')]) (v = .ref l) (LineI I' l sa ra) (DK prog w kLine I' lo' ls') ((look ls g = some (sa, ra) ∧ ls' = ls ∧ N = []) ∨ (look ls g = none ∧ ls' = put ls g (sa, ra) ∧ N = [(ra, newL), (sa, newL)]))) noE s := by
  refine call_def (fd := fdA 161) (M := [(ld, lo)]) (X := [ld]) (binds := [("self", _), ("channel", _), ("room", _)]) R T hI hO.entry hO.nd rfl rfl rfl rfl rfl rfl ?_ rfl rfl rfl
  intro L s1 hL c1 R1
  refine wpAny_execs_cons (if_join (fun s' => Ex6 fun I' N lo' sa ra ls' => An5 (Cx s I [ld] I' L (fun x_1 => List.lookup x_1 [(Str.ofString "self", Value.ref x), (Str.ofString "channel", Value.int g tk), (Str.ofString "room", Value.int r tr)].reverse) (N ++ [(ld, lo')]) s') (Sub I I') (DK prog w kLine I' lo' ls') (look ls' g = some (sa, ra)) ((look ls g = some (sa, ra) ∧ ls' = ls ∧ N = []) ∨ (look ls g = none ∧ ls' = put ls g (sa, ra) ∧ N = [(ra, newL), (sa, newL)]))) (wpAny_isTrue_Compare1 ?_) ?_)
  · refine nm c1 rfl ?_ rfl rfl
    refine Attribute_name (nm c1 rfl ?_ rfl rfl)
    refine w_lines T c1 W fun s2 c2 => ?_
    refine dk_notIn (M1 := []) c2 W.ld hk fun s3 c3 => wpAny_truthy_bool ⟨fun hb => ?_, fun hb => ?_⟩
    · have hn : look ls g = none := by cases q : look ls g with
        | none => rfl
        | some a => rw [q] at hb; cases hb
      refine wpAny_execs_cons (wpAny_Assign_Subscript ?_)
      refine Call_Name rfl (nmG T c3 rfl ?_ rfl rfl rfl)
      refine cwK (K := KK w.params) rfl (spliced_more (nm c3 rfl (spliced_none ⟨T.inn c3.imm, ?_⟩) rfl rfl))
      refine make_cx (P := fun x dx I' Ms N v => v = .none ∧ Ex12 fun sa ra n h1 h2 h3 h4 t1 t2 t3 t4 ev => Ms = [(dx, dictOf (lEnts h1 h2 h3 h4 t1 t2 t3 t4 (.int r tr) (.ref sa) (.ref ra) ev) n)] ∧ N = [(ra, newL), (sa, newL)]) T c3 rfl rfl rfl ?_ (fun _ _ _ _ _ _ h => h.1) ?_
      · intro y dy s4 I4 R' hy sub4 hI4 hO4 hR
        exact line_init (d := d + 1) ((R1.under _ _).le (by omega)) (T.sub sub4) hI4 hy hO4 hR
      · rintro y dy od I4 s4 N c4 sub4 sub4' hy ⟨_, sa, ra, n, h1, h2, h3, h4, t1, t2, t3, t4, ev, e1, rfl⟩
        injection e1 with e1 _
        injection e1 with _ e1
        subst e1
        refine Attribute_name (nm c4 rfl ?_ rfl rfl)
        refine w_lines (T.sub sub4) c4 (W.sub sub4) fun s5 c5 => ?_
        refine nm c5 rfl ?_ rfl rfl
        refine dk_set (M1 := [(ra, newL), (sa, newL)]) c5 (hk.sub sub4) (by omega) (a := (sa, ra)) ⟨y, rfl, dy, _, _, _, _, _, _, _, _, _, _, _, sub4' _ _ hy, addI_self⟩ fun s6 lo6 hk6 c6 => ?_
        refine wpAny_execs_nil ⟨rfl, _, _, lo6, sa, ra, _, c6, sub4, hk6, ?_, .inr ⟨hn, rfl, rfl⟩⟩
        rw [look_put, if_pos rfl]
    · have hn : ∃ p, look ls g = some p := by cases q : look ls g with
        | none => rw [q] at hb; cases hb
        | some a => exact ⟨a, rfl⟩
      obtain ⟨⟨sa, ra⟩, hn⟩ := hn
      exact ⟨I, [], lo, sa, ra, ls, c3, Sub.refl _, hk, hn, .inl ⟨hn, rfl, rfl⟩⟩
  · rintro s2 ⟨I2, N, lo2, sa, ra, ls2, c2, sub2, hk2, hl2, hcase⟩
    refine wpAny_execs_cons (wpAny_Return_some (Subscript_ ?_))
    refine Attribute_name (nm c2 rfl ?_ rfl rfl)
    refine w_lines (T.sub sub2) c2 (W.sub sub2) fun s3 c3 => ?_
    refine nm c3 rfl ?_ rfl rfl
    refine dk_get (M1 := N) c3 hk2 hl2 fun s4 v c4 hv => ?_
    obtain ⟨l, rfl, hl⟩ := hv
    exact Cx.postN (N := N) c4 hL rfl ⟨lo2, l, sa, ra, ls2, rfl, rfl, hl, hk2, hcase⟩

theorem go_ok {h : Int} {th : Tok} (R : Room A (d + 5)) (T : Tp (KK w.params) mb I) (hI : InH I s.heap) (W : WatchI I x cd ld gd pd rl) (hO : Own s I [(cd, o)]) (hk : DK prog w kVec I o ks) (hz : ks.length ≤ 700) (hg : InG g) (hh : InG h) :
    wpAny (model prog w) A (call (.ref 154) [.ref x, .int g tk, .int h th]) (Post s I [cd] fun I' Ms N v => Ex2 fun o' ks1 => An5 (Ms = [(cd, o')]) (N = []) (ks1 = put (clocked ks g) g (vtick (clk0 ks g) g)) (DK prog w kVec I' o' (put (clocked ks1 h) h (vmax (clk0 ks1 h) (clk0 ks g)))) (v = .none)) noE s := by
  refine call_def (fd := fdA 154) (M := [(cd, o)]) (X := [cd]) (binds := [("self", _), ("goroutine", _), ("child", _)]) R T hI hO.entry hO.nd rfl rfl rfl rfl rfl rfl ?_ rfl rfl rfl
  intro L s1 hL c1 R1
  refine wpAny_execs_cons (wpAny_Expr ?_)
  refine mcall ?_
  refine nm c1 rfl ?_ rfl rfl
  refine w_m T c1 W rfl rfl (by intros; rfl) ?_
  refine cwK (K := KK w.params) rfl (spliced_more (nm c1 rfl (spliced_more (mcall (nm c1 rfl (w_m T c1 W rfl rfl (by intros; rfl) ?_) rfl rfl))) rfl rfl))
  refine cwK (K := KK w.params) rfl (spliced_more (nm c1 rfl (spliced_none ⟨T.inn c1.imm, ?_⟩) rfl rfl))
  refine Cx.callP (M1 := []) (Mc := [(cd, o)]) (M2 := []) c1 (told_ok (d := d) R1 T c1.imm W (c1.own (List.Sublist.refl _)) hk (by omega) hg) ?_
  rintro v2 I2 s2 Ms N c2 sub2 ⟨o2, rfl, rfl, hk2, hv2⟩
  refine spliced_none ⟨(T.sub sub2).inn c2.imm, ?_⟩
  have hl : (put (clocked ks g) g (vtick (clk0 ks g) g)).length ≤ 800 := by
    have := put_len (clocked ks g) g (vtick (clk0 ks g) g)
    have := clocked_len ks g
    omega
  refine Cx.callP (M1 := []) (Mc := [(cd, o2)]) (M2 := []) c2 (learn_ok (d := d) (R1.le (by omega)) (T.sub sub2) c2.imm (W.sub sub2) (c2.own (List.Sublist.refl _)) hk2 hl hh hv2) ?_
  rintro v3 I3 s3 Ms N c3 sub3 ⟨o3, rfl, rfl, hk3, rfl⟩
  exact wpAny_execs_nil (c3.post hL rfl ⟨o3, _, rfl, rfl, rfl, hk3, rfl⟩)

theorem enter_ok {og : Obj} {gs : List (Int × Vec)} {q : Int} {tq : Tok} (R : Room A (d + 4)) (T : Tp (KK w.params) mb I) (hI : InH I s.heap) (W : WatchI I x cd ld gd pd rl) (hO : Own s I [(cd, o), (gd, og)]) (hk : DK prog w kVec I o ks) (hG : DK prog w kVec I og gs) (hz : ks.length ≤ 700) (hg : InG g) :
    wpAny (model prog w) A (call (.ref 210) [.ref x, .int g tk, .int q tq]) (Post s I [cd, gd] fun I' Ms N v => ∃ o', Ms = [(cd, o'), (gd, og)] ∧ N = [] ∧ DK prog w kVec I' o' (put (clocked ks g) g (vmax (clk0 ks g) ((look gs q).getD fun _ => 0))) ∧ v = .none) noE s := by
  refine call_def (fd := fdA 210) (M := [(cd, o), (gd, og)]) (X := [cd, gd]) (binds := [("self", _), ("goroutine", _), ("gate", _)]) R T hI hO.entry hO.nd rfl rfl rfl rfl rfl rfl ?_ rfl rfl rfl
  intro L s1 hL c1 R1
  refine wpAny_execs_cons (wpAny_Expr ?_)
  refine mcall ?_
  refine nm c1 rfl ?_ rfl rfl
  refine w_m T c1 W rfl rfl (by intros; rfl) ?_
  refine cwK (K := KK w.params) rfl (spliced_more (nm c1 rfl (spliced_more (mcall (Attribute_name (nm c1 rfl ?_ rfl rfl)))) rfl rfl))
  refine w_gates T c1 W fun s2 c2 => ?_
  refine DK.meth (M1 := [(cd, o)]) c2 hG PySem.F.slot_dict_get PySem.F.type_dict_get ?_
  refine cwB (spliced_more (nm c2 rfl (spliced_more (tupE c2 (spliced_none ⟨_, _, c2, by simp, fun t3 I3 s3 c3 sub3 ht3 => spliced_none ?_⟩))) rfl rfl))
  refine dk_get2 (M1 := [(cd, o)]) (a := fun _ => 0) c3 W.gd (hG.sub sub3) ?_ fun s4 v4 c4 hv4 => spliced_none ⟨(T.sub sub3).inn c4.imm, ?_⟩
  · show kClock.is I3 (clk fun _ => 0) _
    rw [clk_zero]
    exact ⟨t3, [], rfl, ht3, trivial⟩
  refine Cx.callP (M1 := []) (Mc := [(cd, o)]) (M2 := [(gd, og)]) c4 (learn_ok (d := d) R1 (T.sub sub3) c4.imm (W.sub sub3) (c4.own (List.Sublist.cons_cons _ (List.nil_sublist _))) (hk.sub sub3) (by omega) hg hv4) ?_
  rintro v5 I5 s5 Ms N c5 sub5 ⟨o5, rfl, rfl, hk5, rfl⟩
  exact wpAny_execs_nil (c5.post hL rfl ⟨o5, rfl, rfl, hk5, rfl⟩)

theorem leave_ok {og : Obj} {gs : List (Int × Vec)} {q : Int} {tq : Tok} (R : Room A (d + 5)) (T : Tp (KK w.params) mb I) (hI : InH I s.heap) (W : WatchI I x cd ld gd pd rl) (hO : Own s I [(cd, o), (gd, og)]) (hk : DK prog w kVec I o ks) (hG : DK prog w kVec I og gs) (hz : ks.length ≤ 700) (hzg : gs.length ≤ 700) (hg : InG g) :
    wpAny (model prog w) A (call (.ref 203) [.ref x, .int g tk, .int q tq]) (Post s I [cd, gd] fun I' Ms N v => Ex2 fun o' og' => An5 (Ms = [(cd, o'), (gd, og')]) (N = []) (DK prog w kVec I' o' (put (clocked ks g) g (vtick (clk0 ks g) g))) (DK prog w kVec I' og' (put gs q (vmax ((look gs q).getD fun _ => 0) (clk0 ks g)))) (v = .none)) noE s := by
  refine call_def (fd := fdA 203) (M := [(cd, o), (gd, og)]) (X := [cd, gd]) (binds := [("self", _), ("goroutine", _), ("gate", _)]) R T hI hO.entry hO.nd rfl rfl rfl rfl rfl rfl ?_ rfl rfl rfl
  intro L s1 hL c1 R1
  refine wpAny_execs_cons (wpAny_Assign_Subscript ?_)
  refine Call_Name rfl (nmG T c1 rfl ?_ rfl rfl rfl)
  refine cwK (K := KK w.params) rfl (spliced_more (mcall (Attribute_name (nm c1 rfl ?_ rfl rfl))))
  refine w_gates T c1 W fun s2 c2 => ?_
  refine DK.meth (M1 := [(cd, o)]) c2 hG PySem.F.slot_dict_get PySem.F.type_dict_get ?_
  refine cwB (spliced_more (nm c2 rfl (spliced_more (tupE c2 (spliced_none ⟨_, _, c2, by simp, fun t3 I3 s3 c3 sub3 ht3 => spliced_none ?_⟩))) rfl rfl))
  refine dk_get2 (M1 := [(cd, o)]) (a := fun _ => 0) c3 W.gd (hG.sub sub3) ?_ fun s4 v4 c4 hv4 => spliced_more (mcall (nm c4 rfl (w_m (T.sub sub3) c4 (W.sub sub3) rfl rfl (by intros; rfl) ?_) rfl rfl))
  · show kClock.is I3 (clk fun _ => 0) _
    rw [clk_zero]
    exact ⟨t3, [], rfl, ht3, trivial⟩
  refine cwK (K := KK w.params) rfl (spliced_more (nm c4 rfl (spliced_none ⟨(T.sub sub3).inn c4.imm, ?_⟩) rfl rfl))
  refine Cx.callP (M1 := []) (Mc := [(cd, o)]) (M2 := [(gd, og)]) c4 (told_ok (d := d) R1 (T.sub sub3) c4.imm (W.sub sub3) (c4.own (List.Sublist.cons_cons _ (List.nil_sublist _))) (hk.sub sub3) (by omega) hg) ?_
  rintro v5 I5 s5 Ms N c5 sub5 ⟨o5, rfl, rfl, hk5, hv5⟩
  refine spliced_none ⟨(T.sub (sub3.trans sub5)).inn c5.imm, ?_⟩
  refine c5.call0 (P := fun J r => kClock.is J (clk (vmax ((look gs q).getD fun _ => 0) (clk0 ks g))) r) (join_ok (d := d + 2) R1 (T.sub (sub3.trans sub5)) c5.imm (kVec.sub sub5 hv4) hv5) ?_
  intro r I6 s6 c6 sub6 hr
  have sub36 := sub3.trans (sub5.trans sub6)
  refine Attribute_name (nm c6 rfl ?_ rfl rfl)
  refine w_gates (T.sub sub36) c6 (W.sub sub36) fun s7 c7 => ?_
  refine nm c7 rfl ?_ rfl rfl
  refine dk_set (M1 := [(cd, o5)]) c7 (hG.sub sub36) (by omega) hr fun s8 og8 hG8 c8 => ?_
  exact wpAny_execs_nil (c8.post hL rfl ⟨o5, og8, rfl, rfl, hk5.sub sub6, hG8, rfl⟩)
end
end Mine

set_option maxHeartbeats 400000
namespace Mine
/-! # triples -/
section
variable {α β γ : Type} [DecidableEq α] [DecidableEq β] [DecidableEq γ]
noncomputable def kTrip (k : Kd α) (l : Kd β) (m : Kd γ) : Kd (α × β × γ) :=
  ⟨fun I p v => Ex4 fun t x y z => An5 (v = .ref t) (TupI I t [x, y, z]) (k.is I p.1 x) (l.is I p.2.1 y) (m.is I p.2.2 z), fun hs ⟨t, x, y, z, e, a, b, c, d⟩ => ⟨t, x, y, z, e, a.sub hs, k.sub hs b, l.sub hs c, m.sub hs d⟩⟩
variable (k : Ko α) (l : Ko β) (m : Ko γ)
theorem trip_lex {A : Around} {s : Shared} {I : Imm} {a b : α × β × γ} {x y z x' y' z' : Value} (u1 : A.units + k.dep < cLine) (u2 : A.units + l.dep < cLine) (u3 : A.units + m.dep < cLine) (hI : InH I s.heap)
    (hx : k.is I a.1 x) (hy : l.is I a.2.1 y) (hz : m.is I a.2.2 z) (hx' : k.is I b.1 x') (hy' : l.is I b.2.1 y') (hz' : m.is I b.2.2 z') :
    LexOk A s [x, y, z] [x', y', z'] ((ordPair k.ord (ordPair l.ord m.ord l.tot) k.tot).lt a b) := by
  refine ⟨_, k.eq u1 hI hx hx', ?_⟩
  have e : (ordPair k.ord (ordPair l.ord m.ord l.tot) k.tot).lt a b = if a.1 = b.1 then (ordPair l.ord m.ord l.tot).lt a.2 b.2 else k.ord.lt a.1 b.1 := rfl
  by_cases h1 : a.1 = b.1
  · rw [decide_eq_true h1, if_pos rfl, e, if_pos h1]
    exact pair_lex l m u2 u3 hI hy hz hy' hz'
  · rw [decide_eq_false h1, if_neg Bool.false_ne_true, e, if_neg h1]
    exact ⟨k.lt u1 hI hx hx', k.one u1 hI hx hx'⟩
noncomputable def koTrip : Ko (α × β × γ) where
  toKd := kTrip k.toKd l.toKd m.toKd
  dep := max k.dep (max l.dep m.dep) + 1
  ord := ordPair k.ord (ordPair l.ord m.ord l.tot) k.tot
  tot := totPair k.tot (totPair l.tot m.tot)
  eq := by
    rintro A s I a b u v hu hI ⟨t, x, y, z, rfl, ht, hx, hy, hz⟩ ⟨t', x', y', z', rfl, ht', hx', hy', hz'⟩
    have u1 : A.in1.units + k.dep < cLine := in1_lt hu (by omega)
    have u2 : A.in1.units + l.dep < cLine := in1_lt hu (by omega)
    have u3 : A.in1.units + m.dep < cLine := in1_lt hu (by omega)
    refine eq_tups (fun j => if j = 0 then decide (a.1 = b.1) else if j = 1 then decide (a.2.1 = b.2.1) else decide (a.2.2 = b.2.2)) (by omega) (ht.at' hI) (ht'.at' hI) ?_ ?_ ?_
    · intro j h1 h2
      match j, h1, h2 with
      | 0, _, _ => exact k.eq u1 hI hx hx'
      | 1, _, _ => exact l.eq u2 hI hy hy'
      | 2, _, _ => exact m.eq u3 hI hz hz'
      | j + 3, h1, _ => exact absurd h1 (by simp)
    · show (List.all [0, 1, 2] _ && true) = _
      simp only [List.all_cons, List.all_nil, if_pos, Nat.one_ne_zero, if_false, Bool.and_true, show ¬ ((2 : Nat) = 0) by decide, show ¬ ((2 : Nat) = 1) by decide]
      rw [Bool.eq_iff_iff]
      simp only [Bool.and_eq_true, decide_eq_true_eq]
      constructor
      · rintro ⟨h1, h2, h3⟩; exact Prod.ext h1 (Prod.ext h2 h3)
      · rintro rfl; exact ⟨rfl, rfl, rfl⟩
    · intro e
      subst e
      have := ht.inj ht'
      injection this with e1 e2
      injection e2 with e2 e3
      injection e3 with e3 _
      subst e1 e2 e3
      exact decide_eq_true (Prod.ext (k.inj hx hx') (Prod.ext (l.inj hy hy') (m.inj hz hz')))
  lt := by
    rintro A s I a b u v hu hI ⟨t, x, y, z, rfl, ht, hx, hy, hz⟩ ⟨t', x', y', z', rfl, ht', hx', hy', hz'⟩
    exact LtAt.tuples (by omega) (ht.at' hI) (ht'.at' hI) (trip_lex k l m (in1_lt hu (by omega)) (in1_lt hu (by omega)) (in1_lt hu (by omega)) hI hx hy hz hx' hy' hz')
  one := by
    rintro A s I a b u v hu hI ⟨t, x, y, z, rfl, ht, hx, hy, hz⟩ ⟨t', x', y', z', rfl, ht', hx', hy', hz'⟩
    exact OneAt.tuples (by omega) (ht.at' hI) (ht'.at' hI) (trip_lex k l m (in1_lt hu (by omega)) (in1_lt hu (by omega)) (in1_lt hu (by omega)) hI hx hy hz hx' hy' hz')
  t2 := by
    rintro I a u ⟨t, x, y, z, rfl, ht, hx, hy, hz⟩
    refine .inr (.inr ⟨t, _, rfl, ht, ?_⟩)
    intro q hq
    rcases List.mem_cons.mp hq with rfl | hq
    · exact (k.t2 hx).t1
    · rcases List.mem_cons.mp hq with rfl | hq
      · exact (l.t2 hy).t1
      · rw [List.mem_singleton.mp hq]; exact (m.t2 hz).t1
  inj := by
    rintro I a b u ⟨t, x, y, z, rfl, ht, hx, hy, hz⟩ ⟨t', x', y', z', e, ht', hx', hy', hz'⟩
    injection e with e
    subst e
    have := ht.inj ht'
    injection this with e1 e2
    injection e2 with e2 e3
    injection e3 with e3 _
    subst e1 e2 e3
    exact Prod.ext (k.inj hx hx') (Prod.ext (l.inj hy hy') (m.inj hz hz'))
  lex := by
    rintro A s I a b p q xs ys hu hI ⟨t, x, y, z, e, ht, hx, hy, hz⟩ ⟨t', x', y', z', e', ht', hx', hy', hz'⟩ h1 h2
    injection e with e
    injection e' with e'
    subst e e'
    rw [h1.inj ht, h2.inj ht']
    exact trip_lex k l m (by omega) (by omega) (by omega) hI hx hy hz hx' hy' hz'
end

/-! # the three clocks -/
noncomputable def vks (V : Int → Vec) : List (Int × Vec) := [(0, V 0), (1, V 1), (2, V 2)]
noncomputable def updV (V : Int → Vec) (g : Int) (a : Vec) : Int → Vec := fun h => if h = g then a else V h
theorem vks_look {V : Int → Vec} {g : Int} (h : InG g) : look (vks V) g = some (V g) := by rcases h with rfl | rfl | rfl <;> rfl
theorem vks_clk0 {V : Int → Vec} {g : Int} (h : InG g) : clk0 (vks V) g = V g := by unfold clk0; rw [vks_look h]; rfl
theorem vks_clocked {V : Int → Vec} {g : Int} (h : InG g) : clocked (vks V) g = vks V := by unfold clocked; rw [vks_look h]
theorem vks_put {V : Int → Vec} {g : Int} {a : Vec} (h : InG g) : put (vks V) g a = vks (updV V g a) := by
  rcases h with rfl | rfl | rfl <;> simp [put, vks, updV]

/-! # lines -/
noncomputable def LnSt (prog : Program) (w : World) (I : Imm) (lo : Obj) (Ml : List (Addr × Obj)) (k : Nat) : Prop :=
  (DK prog w kLine I lo [] ∧ Ml = []) ∨ Ex6 fun sa ra vs us n1 n2 => An4 (DK prog w kLine I lo [(8, (sa, ra))]) (Ml = [(sa, seqObj "list" (vs : List Value).toArray n1), (ra, seqObj "list" (us : List Value).toArray n2)]) (vs.length ≤ k) (us.length ≤ k)
section
variable {prog : Program} {w : World} {A : Around} {s : Shared} {S₀ : Shared} {I₀ I : Imm} {X : List Addr} {L f : Addr} {m : Nm} {M M1 M2 : List (Addr × Obj)} {mb : Nm} {fd : FuncData}
theorem LnSt.sub {J : Imm} {lo : Obj} {Ml : List (Addr × Obj)} {k : Nat} (h : LnSt prog w I lo Ml k) (hs : Sub I J) : LnSt prog w J lo Ml k := by
  rcases h with ⟨a, b⟩ | ⟨sa, ra, vs, us, n1, n2, a, b, b1, b2⟩
  · exact .inl ⟨a.sub hs, b⟩
  · exact .inr ⟨sa, ra, vs, us, n1, n2, a.sub hs, b, b1, b2⟩
theorem ln_attr {expr : Bool} {x sa ra : Addr} {Q : Value → Shared → Prop} (T : Tp (KK w.params) mb I) (c : Cx S₀ I₀ X I L m M s) (W : LineI I x sa ra) (h : ∀ s', Cx S₀ I₀ X I L m M s' → Q (.ref sa) s') : wpAny (model prog w) A (getAttr (.ref x) "sent" expr) Q noE s := by
  obtain ⟨dx, n, h1, h2, h3, h4, t1, t2, t3, t4, rv, ev, a, b⟩ := W
  exact get_attr T c a b rfl rfl rfl rfl rfl h
theorem ln_attr' {expr : Bool} {x sa ra : Addr} {Q : Value → Shared → Prop} (T : Tp (KK w.params) mb I) (c : Cx S₀ I₀ X I L m M s) (W : LineI I x sa ra) (h : ∀ s', Cx S₀ I₀ X I L m M s' → Q (.ref ra) s') : wpAny (model prog w) A (getAttr (.ref x) "received" expr) Q noE s := by
  obtain ⟨dx, n, h1, h2, h3, h4, t1, t2, t3, t4, rv, ev, a, b⟩ := W
  exact get_attr T c a b rfl rfl rfl rfl rfl h
end
section
variable {prog : Program} {w : World} {A : Around} {s : Shared} {mb : Nm} {I : Imm} {d : Nat} {x cd ld gd pd rl : Addr} {o : Obj} {g h : Int} {tk th t8 : Tok}
noncomputable def V4 (V : Int → Vec) (g h : Int) : Int → Vec :=
  let V1 := updV V g (vtick (V g) g)
  let V2 := updV V1 h (vtick (V1 h) h)
  let V3 := updV V2 g (vmax (V2 g) (V1 h))
  updV V3 h (vmax (V3 h) (V g))
theorem hand_ok {V : Int → Vec} {lo : Obj} {Ml : List (Addr × Obj)} {k : Nat} (R : Room A (d + 6)) (T : Tp (KK w.params) mb I) (hI : InH I s.heap) (W : WatchI I x cd ld gd pd rl) (hO : Own s I ((cd, o) :: (ld, lo) :: Ml)) (hk : DK prog w kVec I o (vks V)) (hl : LnSt prog w I lo Ml k) (hkk : k ≤ 900) (hg : InG g) (hh : InG h) :
    wpAny (model prog w) A (call (.ref 182) [.ref x, .int g tk, .int h th, .int 8 t8]) (Post s I (((cd, o) :: (ld, lo) :: Ml).map (·.1)) fun I' Ms N v => Ex3 fun o' lo' Ml' => An4 ((N ++ Ms).Perm ((cd, o') :: (ld, lo') :: Ml')) (DK prog w kVec I' o' (vks (V4 V g h))) (LnSt prog w I' lo' Ml' (k + 1)) (v = .none)) noE s := by
  refine call_defPN (fd := fdA 182) (binds := [("self", _), ("sender", _), ("receiver", _), ("channel", _)]) R T hI hO rfl rfl rfl rfl rfl rfl ?_ rfl rfl rfl
  intro X Q L s1 hQ hL c1 R1
  obtain ⟨ls, hls, hz, hcase0⟩ : ∃ ls, DK prog w kLine I lo ls ∧ ls.length ≤ 900 ∧ ((ls = [] ∧ Ml = []) ∨ Ex6 fun sa ra vs us n1 n2 => An4 (ls = [(8, (sa, ra))]) (Ml = [(sa, seqObj "list" (vs : List Value).toArray n1), (ra, seqObj "list" (us : List Value).toArray n2)]) (vs.length ≤ k) (us.length ≤ k)) := by
    rcases hl with ⟨a, b⟩ | ⟨sa, ra, vs, us, n1, n2, a, b, b1, b2⟩
    · exact ⟨_, a, by simp, .inl ⟨rfl, b⟩⟩
    · exact ⟨_, a, by simp, .inr ⟨sa, ra, vs, us, n1, n2, rfl, b, b1, b2⟩⟩
  refine wpAny_execs_cons (wpAny_Assign_Name ?_)
  refine mcall ?_
  refine nm c1 rfl ?_ rfl rfl
  refine w_m T c1 W rfl rfl (by intros; rfl) ?_
  refine cwK (K := KK w.params) rfl (spliced_more (nm c1 rfl (spliced_more (cint c1 fun t2 s2 c2 => spliced_none ⟨T.inn c2.imm, ?_⟩)) rfl rfl))
  refine Cx.callP (M1 := [(cd, o)]) (Mc := [(ld, lo)]) (M2 := Ml) c2 (line_ok (d := d + 1) R1 T c2.imm W (c2.own (List.Sublist.cons _ (List.Sublist.cons_cons _ (List.nil_sublist _)))) hls hz) ?_
  rintro v3 I3 s3 Ms N c3 sub3 ⟨lo3, l, sa, ra, ls3, rfl, rfl, hl3, hls3, hcase⟩
  have norm : Ex4 fun vs us n1 n2 => An5 ((N ++ ([(cd, o)] ++ ([(ld, lo3)] ++ Ml))).Perm [(cd, o), (ld, lo3), (sa, seqObj "list" (vs : List Value).toArray n1), (ra, seqObj "list" (us : List Value).toArray n2)]) (vs.length ≤ k) (us.length ≤ k) (ls3 = [(8, (sa, ra))]) (Ml = [] ∨ Ml.map (·.1) = [sa, ra]) := by
    rcases hcase0 with ⟨rfl, rfl⟩ | ⟨sa', ra', vs, us, n1, n2, rfl, rfl, h1, h2⟩
    · rcases hcase with ⟨e, _⟩ | ⟨_, rfl, rfl⟩
      · cases e
      · exact ⟨[], [], 0, 0, (List.perm_append_comm (l₁ := [(ra, newL), (sa, newL)])).trans (List.Perm.cons _ (List.Perm.cons _ (List.Perm.swap _ _ _))), Nat.zero_le _, Nat.zero_le _, rfl, .inl rfl⟩
    · rcases hcase with ⟨e, rfl, rfl⟩ | ⟨e, _⟩
      · have : sa' = sa ∧ ra' = ra := by
          have e' : some (sa', ra') = some (sa, ra) := e
          injection e' with e'
          injection e' with e1 e2
          exact ⟨e1, e2⟩
        obtain ⟨rfl, rfl⟩ := this
        exact ⟨vs, us, n1, n2, List.Perm.refl _, h1, h2, rfl, .inr rfl⟩
      · cases e
  obtain ⟨vs, us, n1, n2, hperm, hv, hu, rfl, hMl⟩ := norm
  have c4 := c3.perm hperm
  refine st c4 (fun s5 c5 => ?_) rfl rfl
  have T3 := T.sub sub3
  have W3 := W.sub sub3
  refine wpAny_execs_cons (asgSw2 c5 R1.hd ?_ rfl rfl rfl)
  refine spliced_more (mcall (nm c5 rfl (w_m T3 c5 W3 rfl rfl (by intros; rfl) ?_) rfl rfl))
  refine cwK (K := KK w.params) rfl (spliced_more (nm c5 rfl (spliced_none ⟨T3.inn c5.imm, ?_⟩) rfl rfl))
  refine Cx.callP (M1 := []) (Mc := [(cd, o)]) (M2 := [(ld, lo3), (sa, seqObj "list" vs.toArray n1), (ra, seqObj "list" us.toArray n2)]) c5 (told_ok (d := d + 1) R1 T3 c5.imm W3 (c5.own (List.Sublist.cons_cons _ (List.nil_sublist _))) (hk.sub sub3) (by simp [vks]) hg) ?_
  rintro v6 I6 s6 Ms N c6 sub6 ⟨o6, rfl, rfl, hk6, hv6⟩
  rw [vks_clocked hg, vks_clk0 hg, vks_put hg] at hk6
  rw [vks_clk0 hg] at hv6
  have sub36 := sub3.trans sub6
  refine spliced_more (mcall (nm c6 rfl (w_m (T.sub sub36) c6 (W.sub sub36) rfl rfl (by intros; rfl) ?_) rfl rfl))
  refine cwK (K := KK w.params) rfl (spliced_more (nm c6 rfl (spliced_none ⟨(T.sub sub36).inn c6.imm, ?_⟩) rfl rfl))
  refine Cx.callP (M1 := []) (Mc := [(cd, o6)]) (M2 := [(ld, lo3), (sa, seqObj "list" vs.toArray n1), (ra, seqObj "list" us.toArray n2)]) c6 (told_ok (d := d + 1) R1 (T.sub sub36) c6.imm (W.sub sub36) (c6.own (List.Sublist.cons_cons _ (List.nil_sublist _))) hk6 (by simp [vks]) hh) ?_
  rintro v7 I7 s7 Ms N c7 sub7 ⟨o7, rfl, rfl, hk7, hv7⟩
  rw [vks_clocked hh, vks_clk0 hh, vks_put hh] at hk7
  rw [vks_clk0 hh] at hv7
  refine spliced_none ⟨v6, v7, _, _, rfl, c7, fun I8 s8 c8 sub8 => ?_⟩
  have sub38 := sub36.trans (sub7.trans sub8)
  have T8 := T.sub sub38
  have W8 := W.sub sub38
  have hl8 := hl3.sub (sub6.trans (sub7.trans sub8))
  refine wpAny_execs_cons (wpAny_Expr ?_)
  refine mcall ?_
  refine Attribute_name (nm c8 rfl ?_ rfl rfl)
  refine ln_attr T8 c8 hl8 fun s9 c9 => ?_
  refine lmeth (o := newL) slot_list_append type_list_append (c9.mt (sa, seqObj "list" vs.toArray n1) (by simp)) ?_
  refine cwB (spliced_more (nm c9 rfl (spliced_none ?_) rfl rfl))
  refine append_ok (M1 := [(cd, o7), (ld, lo3)]) c9 rfl (small (by omega)) fun s10 n10 c10 => ?_
  refine wpAny_execs_cons (wpAny_Expr ?_)
  refine mcall ?_
  refine Attribute_name (nm c10 rfl ?_ rfl rfl)
  refine ln_attr' T8 c10 hl8 fun s11 c11 => ?_
  refine lmeth (o := newL) slot_list_append type_list_append (c11.mt (ra, seqObj "list" us.toArray n2) (by simp)) ?_
  refine cwB (spliced_more (nm c11 rfl (spliced_none ?_) rfl rfl))
  refine append_ok (M1 := [(cd, o7), (ld, lo3), (sa, seqObj "list" (vs ++ [v6]).toArray n10)]) c11 rfl (small (by omega)) fun s12 n12 c12 => ?_
  refine wpAny_execs_cons (wpAny_Expr ?_)
  refine mcall ?_
  refine nm c12 rfl ?_ rfl rfl
  refine w_m T8 c12 W8 rfl rfl (by intros; rfl) ?_
  refine cwK (K := KK w.params) rfl (spliced_more (nm c12 rfl (spliced_more (nm c12 rfl (spliced_none ⟨T8.inn c12.imm, ?_⟩) rfl rfl)) rfl rfl))
  refine Cx.callP (M1 := []) (Mc := [(cd, o7)]) (M2 := [(ld, lo3), (sa, seqObj "list" (vs ++ [v6]).toArray n10), (ra, seqObj "list" (us ++ [v7]).toArray n12)]) c12 (learn_ok (d := d + 2) R1 T8 c12.imm W8 (c12.own (List.Sublist.cons_cons _ (List.nil_sublist _))) (hk7.sub sub8) (by simp [vks]) hg (kVec.sub sub8 hv7)) ?_
  rintro v13 I13 s13 Ms N c13 sub13 ⟨o13, rfl, rfl, hk13, rfl⟩
  rw [vks_clocked hg, vks_clk0 hg, vks_put hg] at hk13
  have sub313 := sub38.trans sub13
  refine wpAny_execs_cons (wpAny_Expr ?_)
  refine mcall ?_
  refine nm c13 rfl ?_ rfl rfl
  refine w_m (T.sub sub313) c13 (W.sub sub313) rfl rfl (by intros; rfl) ?_
  refine cwK (K := KK w.params) rfl (spliced_more (nm c13 rfl (spliced_more (nm c13 rfl (spliced_none ⟨(T.sub sub313).inn c13.imm, ?_⟩) rfl rfl)) rfl rfl))
  refine Cx.callP (M1 := []) (Mc := [(cd, o13)]) (M2 := [(ld, lo3), (sa, seqObj "list" (vs ++ [v6]).toArray n10), (ra, seqObj "list" (us ++ [v7]).toArray n12)]) c13 (learn_ok (d := d + 2) R1 (T.sub sub313) c13.imm (W.sub sub313) (c13.own (List.Sublist.cons_cons _ (List.nil_sublist _))) hk13 (by simp [vks]) hh (kVec.sub (sub7.trans (sub8.trans sub13)) hv6)) ?_
  rintro v14 I14 s14 Ms N c14 sub14 ⟨o14, rfl, rfl, hk14, rfl⟩
  rw [vks_clocked hh, vks_clk0 hh, vks_put hh] at hk14
  refine wpAny_execs_nil ?_
  have hln : LnSt prog w I14 lo3 [(sa, seqObj "list" (vs ++ [v6]).toArray n10), (ra, seqObj "list" (us ++ [v7]).toArray n12)] (k + 1) :=
    .inr ⟨sa, ra, vs ++ [v6], us ++ [v7], n10, n12, hls3.sub (sub6.trans (sub7.trans (sub8.trans (sub13.trans sub14)))), rfl, by simp; omega, by simp; omega⟩
  rcases hMl with rfl | hMl
  · exact hQ (N := [(sa, seqObj "list" (vs ++ [v6]).toArray n10), (ra, seqObj "list" (us ++ [v7]).toArray n12)]) (Ms := [(cd, o14), (ld, lo3)]) (c14.perm (List.perm_append_comm (l₁ := [(cd, o14), (ld, lo3)]))) rfl ⟨o14, lo3, _, List.perm_append_comm, hk14, hln, rfl⟩
  · refine hQ (N := []) (Ms := [(cd, o14), (ld, lo3), (sa, seqObj "list" (vs ++ [v6]).toArray n10), (ra, seqObj "list" (us ++ [v7]).toArray n12)]) c14 ?_ ⟨o14, lo3, _, List.Perm.refl _, hk14, hln, rfl⟩
    show cd :: ld :: [sa, ra] = cd :: ld :: Ml.map (·.1)
    rw [hMl]
end
end Mine

set_option maxHeartbeats 400000
namespace Mine
noncomputable abbrev Loc := Int × Path
noncomputable abbrev Act := Int × Str
noncomputable abbrev Race := Loc × Act × Act
noncomputable abbrev koLoc : Ko Loc := koPair koInt (koList koInt)
noncomputable abbrev koAct : Ko Act := koPair koInt koStr
noncomputable abbrev koRace : Ko Race := koTrip koLoc koAct koAct
section
variable {α : Type} [DecidableEq α] (k : Ko α) {prog : Program} {w : World} {A : Around} {E : Value → Shared → Prop} {s : Shared} {I : Imm} {l r : List α} {a b : Addr} {xs ys : List Value} {Q : Value → Shared → Prop}
theorem notIn_b (hu : A.units + (k.dep + 1) < cLine) (hI : InH I s.heap) (ha : s.heap.IsList a xs.toArray) (hx : Are k.toKd I l xs) {d : α} {v : Value} (hv : k.is I d v) (h : ∀ b : Bool, (b = true ↔ d ∉ l) → Q (.bool b) s) :
    wpAny (model prog w) A (compareOp .NotIn v (.ref a)) Q E s := notIn_list k hu hI ha hx hv (h _ (by simp))
theorem eq_b (hu : A.units + (k.dep + 1) < cLine) (hI : InH I s.heap) (ha : s.heap.IsList a xs.toArray) (hb : s.heap.IsList b ys.toArray) (hx : Are k.toKd I l xs) (hy : Are k.toKd I r ys) (h : ∀ b : Bool, (b = true ↔ l = r) → Q (.bool b) s) :
    wpAny (model prog w) A (compareOp .Eq (.ref a) (.ref b)) Q E s := eq_lists k hu hI ha hb hx hy (h _ (by simp))
theorem ne_b (hu : A.units + (k.dep + 1) < cLine) (hI : InH I s.heap) (ha : s.heap.IsList a xs.toArray) (hb : s.heap.IsList b ys.toArray) (hx : Are k.toKd I l xs) (hy : Are k.toKd I r ys) (h : ∀ b : Bool, (b = true ↔ l ≠ r) → Q (.bool b) s) :
    wpAny (model prog w) A (compareOp .NotEq (.ref a) (.ref b)) Q E s := ne_lists k hu hI ha hb hx hy (h _ (by simp))
end
theorem Are.snoc {α : Type} {k : Kd α} {I : Imm} {a : α} {v : Value} (hv : k.is I a v) : ∀ {l : List α} {vs : List Value}, Are k I l vs → Are k I (l ++ [a]) (vs ++ [v])
  | [], [], _ => ⟨hv, trivial⟩
  | _ :: _, _ :: _, ⟨x, h⟩ => ⟨x, Are.snoc hv h⟩
theorem Are.append {α : Type} {k : Kd α} {I : Imm} : ∀ {l r : List α} {vs us : List Value}, Are k I l vs → Are k I r us → Are k I (l ++ r) (vs ++ us)
  | [], _, [], _, _, h => h
  | _ :: _, _, _ :: _, _, ⟨x, h⟩, g => ⟨x, Are.append h g⟩
section
variable {prog : Program} {w : World} {A : Around} {s : Shared} {S₀ : Shared} {I₀ I : Imm} {X : List Addr} {m : Nm} {M : List (Addr × Obj)} {env : Env}
/-- a for over a list that nobody turns, made by the iter expression -/
theorem for_lstE {target iter : Expr} {body : List Stmt} {pos : Pos} {Q : Flow → Shared → Prop} (cU : Cx S₀ I₀ X I env.locals m M s) (hh : A.handled = none)
    (h : wpAny (model prog w) A (eval iter env) (fun v s1 => Ex6 fun t vs (J : Nat → Imm → Nm → List (Addr × Obj) → Prop) I1 m1 M1 => An6 (v = .ref t) (Cx S₀ I₀ X I1 env.locals m1 M1 s1) (LstI I1 t vs) (J 0 I1 m1 M1) (∀ i v I2 m2 M2 s2, vs[i]? = some v → J i I2 m2 M2 → Sub I1 I2 → M2.map (·.1) = M1.map (·.1) → Cx S₀ I₀ X I2 env.locals m2 M2 s2 → Cx s2 I2 (M2.map (·.1)) I2 env.locals m2 M2 s2 →
        wpAny (model prog w) A (assign target env v) (fun _ s3 => wpAny (model prog w) A (execs body env) (Turn S₀ I₀ X env.locals Q (J (i + 1)) s2 I2 M2) noE s3) noE s2) (∀ I2 m2 M2 s2, J vs.length I2 m2 M2 → Sub I1 I2 → M2.map (·.1) = M1.map (·.1) → Cx S₀ I₀ X I2 env.locals m2 M2 s2 → Q .next s2)) noE s)
    (hs : autoParam (∀ x, foldedSetIterable iter env x = pure x) tacIR) :
    wpAny (model prog w) A (exec (.For target iter body [] pos) env) Q noE s := by
  refine wpAny_For (wpAny_mono h (fun v s1 h1 => ?_) fun _ _ e => e) hs
  obtain ⟨t, vs, J, I1, m1, M1, rfl, c, ht, h0, turn, done⟩ := h1
  refine wpAny_pyIter_list (ht.at c.imm) ?_
  have hlt : t < s1.heap.objs.size := let ⟨n, e⟩ := ht; c.lt e
  have c1 := c.push { cls := .type "list_iterator", data := .fields #[.ref t, .int 0 0] } s1.toks
  refine for_walk (Walks.list hh s1.heap.objs.size t (Nat.ne_of_lt hlt) vs.toArray) c1 ⟨⟨_, Heap.get?_push_size _ rfl, rfl, rfl⟩, ht.at c1.imm⟩ ?_ ?_ ?_ J h0 ?_ ?_ ?_
  · intro b hb
    rcases List.mem_cons.mp hb with rfl | hb
    · refine ⟨Nat.ne_of_gt c.ltL, fun q => ?_⟩
      obtain ⟨p, hp, e⟩ := List.mem_map.mp q
      exact absurd (Heap.lt_size (c.mt p hp)) (by rw [e]; exact Nat.lt_irrefl _)
    · rw [List.mem_singleton.mp hb]
      obtain ⟨n, e⟩ := ht
      refine ⟨fun q => (by rw [q, c.immL] at e; cases e), fun q => ?_⟩
      obtain ⟨p, hp, e'⟩ := List.mem_map.mp q
      have := c.mtI p hp
      rw [e', e] at this; cases this
  · intro b hb
    rw [List.mem_singleton.mp hb]
    exact ⟨c.fresh (size_none _), c.noI (size_none _)⟩
  · intro i h st b hb
    rw [List.mem_singleton.mp hb]
    obtain ⟨⟨o, e, _⟩, _⟩ := st
    exact ⟨o, e⟩
  · intro i v I2 m2 M2 s2 _ hv hJ hsub hM c2 c3
    exact turn i v I2 m2 M2 s2 (by simpa using hv) hJ hsub hM c2 c3
  · intro I2 m2 M2 s2 hJ hsub hM c2
    exact done I2 m2 M2 s2 (by simpa using hJ) hsub hM c2
  · intro i v s Q E st hq
    obtain ⟨⟨o, e, hc, hd⟩, hx⟩ := st
    exact own_plain e hc (by decide) hq
/-- a for over a kept list; a turn's end is a name (the turn keeps which things may be turned) -/
theorem for_lstEN {target iter : Expr} {body : List Stmt} {pos : Pos} {Q : Flow → Shared → Prop} (cU : Cx S₀ I₀ X I env.locals m M s) (hh : A.handled = none)
    (h : wpAny (model prog w) A (eval iter env) (fun v s1 => Ex6 fun t vs (J : Nat → Imm → Nm → List (Addr × Obj) → Prop) I1 m1 M1 => An6 (v = .ref t) (Cx S₀ I₀ X I1 env.locals m1 M1 s1) (LstI I1 t vs) (J 0 I1 m1 M1) (∀ (i : Nat) (v : Value) (I2 : Imm) (m2 : Nm) (M2 : List (Addr × Obj)) (s2 : Shared) (X' : List Addr) (Q' : Flow → Shared → Prop), vs[i]? = some v → J i I2 m2 M2 → Sub I1 I2 → (∀ {I3 m3 M3 s3}, Cx s2 I2 X' I3 env.locals m3 M3 s3 → M3.map (·.1) = M2.map (·.1) → J (i + 1) I3 m3 M3 → Q' .next s3) → Cx s2 I2 X' I2 env.locals m2 M2 s2 →
        wpAny (model prog w) A (assign target env v) (fun _ s3 => wpAny (model prog w) A (execs body env) Q' noE s3) noE s2) (∀ I2 m2 M2 s2, J vs.length I2 m2 M2 → Sub I1 I2 → M2.map (·.1) = M1.map (·.1) → Cx S₀ I₀ X I2 env.locals m2 M2 s2 → Q .next s2)) noE s)
    (hs : autoParam (∀ x, foldedSetIterable iter env x = pure x) tacIR) :
    wpAny (model prog w) A (exec (.For target iter body [] pos) env) Q noE s :=
  for_lstE cU hh (wpAny_mono h (fun v s1 ⟨t, vs, J, I1, m1, M1, e, c, ht, h0, turn, done⟩ => ⟨t, vs, J, I1, m1, M1, e, c, ht, h0, fun i v I2 m2 M2 s2 hv hJ hs _ _ c3 => turn i v I2 m2 M2 s2 _ _ hv hJ hs (fun c e h => ⟨_, _, _, c, e, h⟩) c3, done⟩) fun _ _ e => e) hs
end
section
variable {prog : Program} {w : World} {A : Around} {s : Shared} {S₀ : Shared} {I₀ I : Imm} {X : List Addr} {L f : Addr} {m : Nm} {M M1 M2 : List (Addr × Obj)} {mb : Nm} {fd : FuncData} {x cd ld gd pd rl : Addr}
theorem sorted_keys {o : Obj} {dd : Addr} {α : Type} {k : Kd α} {ks : List (Int × α)} {Q : Value → Shared → Prop} (c : Cx S₀ I₀ X I L m (M1 ++ (dd, o) :: M2) s) (hh : A.handled = none) (hu : A.units + 2 < cLine) (hlo : (dd == sysModules) = false) (hd : DK prog w k I o ks) (hz : ks.length < 64)
    (h : ∀ D I' s' l' out, Cx S₀ I₀ X I' L m (M1 ++ (dd, o) :: M2) s' → Sub I I' → LstI I' D out → Are kInt I' l' out → l'.Perm (ks.map (·.1)) → Q (.ref D) s') :
    wpAny (model prog w) A (call (.builtin "sorted") [.ref dd]) Q noE s := by
  obtain ⟨kvs, hD, hk⟩ := hd.at c
  refine sorted_ok koInt (P := fun l => l = ks.map (·.1)) hu (d_collect c hh hlo hD (small (by rw [hk.len]; omega)) fun vs s' c' ha => ⟨I, c', Sub.refl _, ?_, _, ha, hk.keys⟩) ?_
  · rw [ha.length, List.length_map, hk.len]; exact hz
  · rintro D I' s' l l' out c' sub hD ha hp hs rfl
    exact h D I' s' l' out c' sub hD ha hp
end

/-- nothing twice, and what was there stands at the head -/
noncomputable def NP (R0 R' : List Race) : Prop := R'.Nodup ∧ R0 <+: R'
theorem NP.refl {R0 : List Race} (h : R0.Nodup) : NP R0 R0 := ⟨h, List.prefix_refl _⟩
theorem NP.trans {a b c : List Race} (h : NP a b) (k : NP b c) : NP a c := ⟨k.1, h.2.trans k.2⟩
/-- the races that one table of counts gives -/
noncomputable def NewR (V : Int → Vec) (g : Int) (loc : Loc) (word earlier : Str) (cs : List (Int × Int)) (r : Race) : Prop := Ex2 fun q c => An4 (look cs q = some c) (q ≠ g) (c > (V g q : Int)) (r = (loc, (q, earlier), (g, word)))
section
variable {prog : Program} {w : World} {A : Around} {s : Shared} {mb : Nm} {I : Imm} {d : Nat} {x cd ld gd pd rl : Addr} {o : Obj} {g : Int} {tk : Tok}
theorem compare_ok {V : Int → Vec} {R0 : List Race} {rs0 : List Value} {n0 : Nat} {ct : Addr} {co : Obj} {cs : List (Int × Int)} {loc : Loc} {lv : Value} {word earlier : Str} {tw te : Tok}
    (R : Room A (d + 3)) (T : Tp (KK w.params) mb I) (hI : InH I s.heap) (W : WatchI I x cd ld gd pd rl) (hO : Own s I [(cd, o), (rl, seqObj "list" rs0.toArray n0), (ct, co)]) (hk : DK prog w kVec I o (vks V)) (hg : InG g)
    (hR : Are koRace.toKd I R0 rs0) (hnd : R0.Nodup) (hRz : R0.length ≤ 500) (hc : DK prog w kInt I co cs) (hct : 5 < ct) (hcs : ∀ p ∈ cs, InG p.1) (hcz : cs.length ≤ 3) (hcn : (cs.map (·.1)).Nodup) (hl : koLoc.is I loc lv) :
    wpAny (model prog w) A (call (.ref 238) [.ref x, .int g tk, lv, .str word tw, .ref ct, .str earlier te]) (Post s I [cd, rl, ct] fun I' Ms N v => Ex4 fun o' R' rs' n' => An8 (Ms = [(cd, o'), (rl, seqObj "list" rs'.toArray n'), (ct, co)]) (N = []) (DK prog w kVec I' o' (vks V)) (Are koRace.toKd I' R' rs') (NP R0 R') (R'.length ≤ R0.length + 3) (∀ r, r ∈ R' ↔ r ∈ R0 ∨ NewR V g loc word earlier cs r) (v = .none)) noE s := by
  refine call_defP (fd := fdA 238) (M := [(cd, o), (rl, seqObj "list" rs0.toArray n0), (ct, co)]) (binds := [("self", _), ("goroutine", _), ("location", _), ("word", _), ("counts", _), ("earlier", _)]) R T hI hO rfl rfl rfl rfl rfl rfl ?_ rfl rfl rfl
  intro X Q L s1 hQ hL c1 R1
  refine wpAny_execs_cons (wpAny_Assign_Name ?_)
  refine mcall ?_
  refine nm c1 rfl ?_ rfl rfl
  refine w_m T c1 W rfl rfl (by intros; rfl) ?_
  refine cwK (K := KK w.params) rfl (spliced_more (nm c1 rfl (spliced_none ⟨T.inn c1.imm, ?_⟩) rfl rfl))
  refine Cx.callP (M1 := []) (Mc := [(cd, o)]) (M2 := [(rl, seqObj "list" rs0.toArray n0), (ct, co)]) c1 (clock_ok (d := d) R1 T c1.imm W (c1.own (List.Sublist.cons_cons _ (List.nil_sublist _))) hk (by simp [vks]) hg) ?_
  rintro v2 I2 s2 Ms N c2 sub2 ⟨o2, rfl, rfl, hk2, hv2⟩
  rw [vks_clocked hg] at hk2
  rw [vks_clk0 hg] at hv2
  refine st c2 (fun s3 c3 => ?_) rfl rfl
  have T2 := T.sub sub2
  refine wpAny_execs_cons ?_
  refine for_lstEN c3 R1.hd ?_
  refine Call_Name rfl (nmB T2 c3 rfl rfl (by decide) ?_ rfl rfl rfl rfl)
  refine cwB (spliced_more (nm c3 rfl (spliced_none ?_) rfl rfl))
  refine sorted_keys (M1 := [(cd, o2), (rl, seqObj "list" rs0.toArray n0)]) c3 R1.hd (R1.fits (by decide)) (noMod hct) (hc.sub sub2) (by omega) fun D I4 s4 l4 out c4 sub4 hD hout hperm => ?_
  have hin : ∀ q ∈ l4, ∃ c, look cs q = some c ∧ InG q := fun q hq => by
    have hq' := hperm.mem_iff.mp hq
    obtain ⟨p, hp, rfl⟩ := List.mem_map.mp hq'
    exact ⟨p.2, (look_mem hcn).mpr hp, hcs p hp⟩
  have hlen : l4.length ≤ 3 := by rw [hperm.length_eq, List.length_map]; exact hcz
  obtain ⟨J, hJ⟩ : ∃ (J : Nat → Imm → Nm → List (Addr × Obj) → Prop), ∀ i I1 m1 M1, J i I1 m1 M1 ↔ (An8 (m1 "self" = some (.ref x)) (m1 "goroutine" = some (.int g tk)) (m1 "location" = some lv) (m1 "word" = some (.str word tw)) (m1 "counts" = some (.ref ct)) (m1 "earlier" = some (.str earlier te)) (m1 "clock" = some v2) (Ex4 fun o' R' rs' n' => An6 (M1 = [(cd, o'), (rl, seqObj "list" rs'.toArray n'), (ct, co)]) (DK prog w kVec I1 o' (vks V)) (Are koRace.toKd I1 R' rs') (NP R0 R') (R'.length ≤ R0.length + i) (∀ r, r ∈ R' ↔ r ∈ R0 ∨ Ex2 fun q c => An5 (q ∈ l4.take i) (look cs q = some c) (q ≠ g) (c > (V g q : Int)) (r = (loc, (q, earlier), (g, word)))))) := ⟨_, fun _ _ _ _ => Iff.rfl⟩
  refine ⟨D, out, J, _, _, _, rfl, c4, hD, (hJ _ _ _ _).mpr ⟨rfl, rfl, rfl, rfl, rfl, rfl, rfl, o2, R0, rs0, n0, rfl, hk2.sub sub4, hR.sub (sub2.trans sub4), NP.refl hnd, Nat.le_refl _, fun r => ⟨.inl, fun h => h.elim id fun ⟨q, c, hq, _, _, _, _⟩ => by simp at hq⟩⟩, ?_, ?_⟩
  · intro i v5 I5 m5 M5 s5 X5 Q5 hv hj5 sub5 hQ5 c6
    obtain ⟨e1, e2, e3, e4, e5, e6, e7, o5, R5, rs5, n5, rfl, hk5, hR5, hnd5, hz5, hm5⟩ := (hJ _ _ _ _).mp hj5
    obtain ⟨q, hq, tq, rfl⟩ := hout.get hv
    obtain ⟨c, hlook, hqG⟩ := hin q (List.mem_of_getElem? hq)
    have hi3 : i < l4.length := (List.getElem?_eq_some_iff.mp hq).1
    have sub25 := sub2.trans (sub4.trans sub5)
    have T5 := T.sub sub25
    have htake : l4.take (i + 1) = l4.take i ++ [q] := by rw [List.take_add_one, hq]; rfl
    refine wpAny_assign_Name (st c6 (fun s7 c7 => ?_) rfl rfl)
    obtain ⟨P1, hP1⟩ : ∃ (P1 : Shared → Prop), ∀ s', P1 s' ↔ (Ex6 fun I' o' R' rs' n' m' => An7 (Cx s5 I5 X5 I' L m' [(cd, o'), (rl, seqObj "list" rs'.toArray n'), (ct, co)] s') (An7 (m' "self" = some (.ref x)) (m' "goroutine" = some (.int g tk)) (m' "location" = some lv) (m' "word" = some (.str word tw)) (m' "counts" = some (.ref ct)) (m' "earlier" = some (.str earlier te)) (m' "clock" = some v2)) (DK prog w kVec I' o' (vks V)) (Are koRace.toKd I' R' rs') (NP R5 R') (R'.length ≤ R0.length + (i + 1)) (∀ r, r ∈ R' ↔ r ∈ R5 ∨ (q ≠ g ∧ c > (V g q : Int) ∧ r = (loc, (q, earlier), (g, word))))) := ⟨_, fun _ => Iff.rfl⟩
    refine wpAny_execs_cons (if_join P1 (isTrue_and (wpAny_isTrue_Compare1 ?_)) ?_)
    · refine nm c7 rfl (nm c7 e2 ?_ rfl rfl) rfl rfl
      refine PyProof.Rows.ne_int (wpAny_truthy_bool ?_)
      by_cases hqg : q = g
      · rw [bne_eq_false_iff_eq.mpr hqg, if_neg Bool.false_ne_true]
        refine ⟨fun h => (by cases h), fun _ => (hP1 _).mpr ⟨I5, o5, R5, rs5, n5, _, c7, ⟨e1, e2, e3, e4, e5, e6, e7⟩, hk5, hR5, NP.refl hnd5.1, by omega, fun r => ⟨.inl, fun h => h.elim id fun h => absurd hqg h.1⟩⟩⟩
      · rw [bne_iff_ne.mpr hqg, if_pos rfl]
        refine isTrue_and (wpAny_isTrue_Compare1 (Subscript_ ?_))
        refine nm c7 e5 (nm c7 rfl ?_ rfl rfl) rfl rfl
        refine dk_get (M1 := [(cd, o5), (rl, seqObj "list" rs5.toArray n5)]) c7 (hc.sub sub25) hlook fun s8 v8 c8 hv8 => ?_
        obtain ⟨t8, rfl⟩ := hv8
        refine Call_Name rfl (nmG T5 c8 rfl ?_ rfl rfl rfl)
        refine cwK (K := KK w.params) rfl (spliced_more (nm c8 e7 (spliced_more (nm c8 rfl (spliced_none ⟨T5.inn c8.imm, ?_⟩) rfl rfl)) rfl rfl))
        refine c8.call0 (P := fun _ x => ∃ t, x = .int (cnt (clk (V g)) q) t) (count_ok (d := d) (R1.le (by omega)) T5 c8.imm (kVec.sub (sub4.trans sub5) hv2)) ?_
        rintro v9 I9 s9 c9 sub9 ⟨t9, rfl⟩
        rw [clk_cnt hqG]
        refine Mine.gt_int (wpAny_truthy_bool ?_)
        by_cases hlt : c > (V g q : Int)
        · rw [decide_eq_true hlt, if_pos rfl]
          refine isTrue_and_nil ⟨fun _ => ?_, fun h => (by cases h)⟩
          have T9 := T5.sub sub9
          refine wpAny_execs_cons (wpAny_Assign_Name ?_)
          refine tupE c9 (spliced_more (nm c9 e3 (spliced_more (tupE c9 (spliced_more (nm c9 rfl (spliced_more (nm c9 e6 (spliced_none ⟨_, _, c9, by simp, fun ta Ia sa ca suba hta => ?_⟩) rfl rfl)) rfl rfl)))) rfl rfl))
          refine spliced_more (tupE ca (spliced_more (nm ca e2 (spliced_more (nm ca e4 (spliced_none ⟨_, _, ca, by simp, fun tb Ib sb cb subb htb => ?_⟩) rfl rfl)) rfl rfl)))
          refine spliced_none ⟨_, _, cb, by simp, fun tc Ic sc cc subc htc => ?_⟩
          refine st cc (fun sd cd' => ?_) rfl rfl
          have sub9c := sub9.trans (suba.trans (subb.trans subc))
          have hrow : koRace.is Ic (loc, (q, earlier), (g, word)) (.ref tc) :=
            ⟨tc, _, _, _, rfl, htc, koLoc.sub (sub25.trans sub9c) hl, ⟨ta, _, _, rfl, hta.sub (subb.trans subc), ⟨_, rfl⟩, ⟨_, rfl⟩⟩, ⟨tb, _, _, rfl, htb.sub subc, ⟨_, rfl⟩, ⟨_, rfl⟩⟩⟩
          refine wpAny_execs_cons (wpAny_If (wpAny_isTrue_Compare1 ?_))
          refine nm cd' rfl ?_ rfl rfl
          refine Attribute_name (nm cd' e1 ?_ rfl rfl)
          refine w_races (T5.sub sub9c) cd' (W.sub (sub25.trans sub9c)) fun se ce => ?_
          refine notIn_b koRace (R1.fits (by decide)) ce.imm ⟨_, ce.mt (rl, seqObj "list" rs5.toArray n5) (by simp), rfl, n5, rfl⟩ (hR5.sub sub9c) hrow fun b hb => wpAny_truthy_bool ?_
          by_cases hmem : (loc, (q, earlier), (g, word)) ∈ R5
          · have : b = false := by cases b with
              | false => rfl
              | true => exact absurd hmem (hb.mp rfl)
            subst this
            refine wpAny_execs_nil (wpAny_execs_nil ⟨rfl, (hP1 _).mpr ⟨Ic, o5, R5, rs5, n5, _, ce, ⟨e1, e2, e3, e4, e5, e6, e7⟩, hk5.sub sub9c, hR5.sub sub9c, NP.refl hnd5.1, by omega, fun r => ⟨.inl, fun h => h.elim id fun h => by rw [h.2.2]; exact hmem⟩⟩⟩)
          · have : b = true := hb.mpr hmem
            subst this
            refine wpAny_execs_cons (wpAny_Expr ?_)
            refine mcall ?_
            refine Attribute_name (nm ce e1 ?_ rfl rfl)
            refine w_races (T5.sub sub9c) ce (W.sub (sub25.trans sub9c)) fun sf cf => ?_
            refine lmeth (o := newL) slot_list_append type_list_append (cf.mt (rl, seqObj "list" rs5.toArray n5) (by simp)) ?_
            refine cwB (spliced_more (nm cf rfl (spliced_none ?_) rfl rfl))
            refine append_ok (M1 := [(cd, o5)]) cf rfl (small (by rw [hR5.length]; omega)) fun sg ng cg => ?_
            refine wpAny_execs_nil (wpAny_execs_nil ⟨rfl, (hP1 _).mpr ⟨Ic, o5, R5 ++ [(loc, (q, earlier), (g, word))], rs5 ++ [Value.ref tc], ng, _, cg, ⟨e1, e2, e3, e4, e5, e6, e7⟩, hk5.sub sub9c, (hR5.sub sub9c).snoc hrow, ⟨?_, List.prefix_append _ _⟩, ?_, fun r => ?_⟩⟩)
            · rw [List.nodup_append]
              refine ⟨hnd5.1, by simp, ?_⟩
              intro a ha b hb e
              rw [List.mem_singleton.mp hb] at e
              rw [e] at ha; exact hmem ha
            · rw [List.length_append]; simp; omega
            · rw [List.mem_append, List.mem_singleton]
              exact ⟨fun h => h.elim .inl fun h => .inr ⟨hqg, hlt, h⟩, fun h => h.elim .inl fun h => .inr h.2.2⟩
        · rw [decide_eq_false hlt, if_neg Bool.false_ne_true]
          refine ⟨fun h => (by cases h), fun _ => (hP1 _).mpr ⟨I9, o5, R5, rs5, n5, _, c9, ⟨e1, e2, e3, e4, e5, e6, e7⟩, hk5.sub sub9, hR5.sub sub9, NP.refl hnd5.1, by omega, fun r => ⟨.inl, fun h => h.elim id fun h => absurd h.2.1 hlt⟩⟩⟩
    · intro s8 h8
      obtain ⟨I8, o8, R8, rs8, n8, m8, c8, ⟨a1, a2, a3, a4, a5, a6, a7⟩, hk8, hR8, hnd8, hz8, hm8⟩ := (hP1 _).mp h8
      refine wpAny_execs_nil (hQ5 c8 rfl ((hJ _ _ _ _).mpr ⟨a1, a2, a3, a4, a5, a6, a7, o8, R8, rs8, n8, rfl, hk8, hR8, hnd5.trans hnd8, hz8, fun r => ?_⟩))
      rw [hm8 r, hm5 r, htake]
      constructor
      · rintro ((h | ⟨q', c', h1, h2, h3, h4, h5⟩) | ⟨h1, h2, h3⟩)
        · exact .inl h
        · exact .inr ⟨q', c', List.mem_append_left _ h1, h2, h3, h4, h5⟩
        · exact .inr ⟨q, c, List.mem_append_right _ (.head _), hlook, h1, h2, h3⟩
      · rintro (h | ⟨q', c', h1, h2, h3, h4, h5⟩)
        · exact .inl (.inl h)
        · rcases List.mem_append.mp h1 with h1 | h1
          · exact .inl (.inr ⟨q', c', h1, h2, h3, h4, h5⟩)
          · rw [List.mem_singleton.mp h1] at h2 h3 h4 h5
            rw [hlook] at h2
            injection h2 with h2
            subst h2
            exact .inr ⟨h3, h4, h5⟩
  · intro I5 m5 M5 s5 hj5 sub5 hM c5
    obtain ⟨e1, e2, e3, e4, e5, e6, e7, o5, R5, rs5, n5, rfl, hk5, hR5, hnd5, hz5, hm5⟩ := (hJ _ _ _ _).mp hj5
    refine wpAny_execs_nil (hQ c5 rfl ⟨o5, R5, rs5, n5, rfl, rfl, hk5, hR5, hnd5, ?_, fun r => ?_, rfl⟩)
    · have : out.length ≤ 3 := by rw [hout.length]; exact hlen
      omega
    · rw [hm5 r, hout.length, List.take_length]
      constructor
      · rintro (h | ⟨q, c, h1, h2, h3, h4, h5⟩)
        · exact .inl h
        · exact .inr ⟨q, c, h2, h3, h4, h5⟩
      · rintro (h | ⟨q, c, h1, h2, h3, h4⟩)
        · exact .inl h
        · refine .inr ⟨q, c, hperm.mem_iff.mpr ?_, h1, h2, h3, h4⟩
          exact List.mem_map.mpr ⟨(q, c), (look_mem hcn).mp h1, rfl⟩
end
end Mine

set_option maxHeartbeats 400000
namespace Mine

/-! # walking the keys of any dict -/
noncomputable def EntAt (h : Heap) (d : Addr) (es : Array DictEntry) (ep : Nat) : Prop := ∃ o, h.get? d = some o ∧ o.ExactDict ∧ o.data = .dict es ep
theorem EntAt.at {h h' : Heap} {d : Addr} {es : Array DictEntry} {ep : Nat} (x : EntAt h d es ep) (e : ∀ o, h.get? d = some o → h'.get? d = some o) : EntAt h' d es ep := let ⟨o, a, b⟩ := x; ⟨o, e _ a, b⟩
section
variable {prog : Program} {w : World} {A : Around} {E : Value → Shared → Prop} {s : Shared} {it d : Addr} {es : Array DictEntry} {i ep : Nat}
theorem ent_iter {Q : Value → Shared → Prop} (hd : (d == sysModules) = false) (hm : EntAt s.heap d es ep)
    (hQ : Q (.ref s.heap.objs.size) { s with heap := s.heap.push { cls := .type "dict_keyiterator", data := .fields #[.ref d, .int 0 0, .int es.size 0, .int ep 0] } }) : wpAny (model prog w) A (pyIter (.ref d)) Q E s := by
  obtain ⟨o, ho, hc, hdat⟩ := hm
  have hT : s.TypeIs (.ref d) "dict" := ⟨o, ho, hc.1⟩
  refine wpAny_pyIter_slot hT PySem.F.slot_dict_iter (wpAny_call_entry PySem.F.slot_dict_iter hT PySem.F.entry_dict_iter ?_ (PySem.F.args_dict_iter_1 _))
  wp_walk using wpAny_notOrdered_dict hT, wpAny_dictEntries ho hdat, wpAny_dictEpoch ho hdat
  exact ⟨_, rfl, _, _, ⟨_, Heap.get?_push_size _ rfl, rfl⟩, PySem.F.slot_dict_keyiterator_next.lookup, hQ⟩
theorem ent_next {Q : Option Value → Shared → Prop} (hh : A.handled = none) (hit : s.heap.IsKeyIter it d i es.size ep) (hm : EntAt s.heap d es ep)
    (h1 : ∀ e h', es[i]? = some e → h'.IsKeyIter it d (i + 1) es.size ep → Heap.SameBut it s.heap h' → Q (some e.key) { s with heap := h' })
    (h2 : es[i]? = none → ∀ h', Heap.ExtBut it s.heap h' → Q none { s with heap := h' }) : wpAny (model prog w) A (pyNext (.ref it)) Q E s := by
  obtain ⟨od, hod, _, hdd⟩ := id hm
  obtain ⟨oi, hoi, hci, hdi⟩ := id hit
  have hT := hit.typeIs
  have hown : Builtin.Dict_items.ownsTuple "dict_keyiterator" = false := by decide
  refine wpAny_bind (wpAny_attempt (wpAny_callSpecial?_slot hT PySem.F.slot_dict_keyiterator_next (wpAny_call_entry PySem.F.slot_dict_keyiterator_next hT PySem.F.entry_dict_keyiterator_next ?_ (PySem.F.args_dict_keyiterator_next_1 _))))
  wp_walk using wpAny_typeNameOfWhole_keyiter hT, wpAny_fieldsOf hoi hdi, wpAny_dictEntries hod hdd, wpAny_dictEpoch hod hdd
  rw [show (if (i : Int) < 0 then none else es[(i : Int).toNat]?) = es[i]? by rw [if_neg (by omega), Int.toNat_natCast]]
  cases q : es[i]? with
  | some e =>
    have hit' : (s.heap.update it (Obj.mapFields (·.setIfInBounds 1 (rawInt ((i : Int) + 1))))).IsKeyIter it d (i + 1) es.size ep :=
      ⟨_, Heap.get?_update_self _ hoi (Obj.isFreed_of_fields (Obj.data_mapFields hdi _)), (Obj.cls_mapFields ..).trans hci, by rw [Obj.data_mapFields hdi]; rfl⟩
    have hT' : ({ s with heap := s.heap.update it (Obj.mapFields (·.setIfInBounds 1 (rawInt ((i : Int) + 1)))) } : Shared).TypeIs (.ref it) "dict_keyiterator" := hit'.typeIs
    wp_walk using wpAny_typeNameOfWhole_keyiter hT, wpAny_isOneOf_keyiter hT, wpAny_setField hoi hdi
    case hi => rw [hown]; exact Nat.lt_of_sub_eq_succ rfl
    show wpAny _ _ _ _ _ { s with heap := s.heap.update it (Obj.mapFields (·.setIfInBounds 1 (rawInt ((i : Int) + 1)))) }
    wp_walk using wpAny_isOneOf_keyiter hT'
    exact ⟨_, rfl, wpAny_pure (h1 e _ q hit' (Heap.SameBut.update ..))⟩
  | none =>
    wp_walk using wpAny_typeNameOfWhole_keyiter hT, wpAny_setField hoi hdi
    case hi => rw [hown]; exact Nat.lt_of_sub_eq_succ rfl
    wp_walk
    have hA : A.in1.handled = none := hh
    unfold raiseNew
    refine wpAny_bind (wpAny_handled ?_)
    rw [hA]
    refine wpAny_bind (wpAny_pure (wpAny_throw ?_))
    exact wpAny_bind (wpAny_isInstance ⟨_, Heap.get?_push_size _ rfl, rfl⟩ isSubtype_stop (wpAny_pure (h2 q _ (((Heap.SameBut.update ..).extBut.push _).push _))))
end
section
variable {prog : Program} {w : World} {A : Around} {d : Addr} {es : Array DictEntry} {ep : Nat}
theorem ent_walks (hh : A.handled = none) (J d : Addr) (hne : d ≠ J) (es : Array DictEntry) (ep : Nat) :
    Walks prog w A J [J, d] [J] es.size (fun i v => ∃ e, es[i]? = some e ∧ v = e.key) (fun i h => h.IsKeyIter J d i es.size ep ∧ EntAt h d es ep) where
  sub := fun b hb => List.mem_cons.mpr (.inl (List.mem_singleton.mp hb))
  frame := fun _ _ _ ⟨x, y⟩ hk => ⟨x.at (hk J (.head _)), y.at (hk d (.tail _ (.head _)))⟩
  item := fun i s Q E hi ⟨x, y⟩ hQ => ent_next hh x y (fun e h' he x' hs => hQ e.key h' s.toks ⟨e, he, rfl⟩ ⟨x', y.at fun o z => (hs.2 d hne).trans z⟩ fun b o hb z => hs.extBut b o (fun q => hb (q ▸ .head _)) z)
    fun hn => absurd hi (Nat.not_lt.mpr (Array.getElem?_eq_none_iff.mp hn))
  done := fun s Q E ⟨x, y⟩ hQ => ent_next hh x y (fun e h' he _ _ => absurd (Array.getElem?_eq_some_iff.mp he).1 (Nat.lt_irrefl _)) fun _ h' he => hQ h' s.toks fun b o hb z => he b o (fun q => hb (q ▸ .head _)) z
  self := fun _ _ _ _ ⟨x, _⟩ hQ => wpAny_pyIter_keyiter x hQ
theorem EntAt.lt {h : Heap} (x : EntAt h d es ep) : d < h.objs.size := let ⟨o, ho, _⟩ := x; Heap.lt_size ho
theorem ent_src (lo : (d == sysModules) = false) : KdlSrc prog w "dict" d d es.size (fun i v => ∃ e, es[i]? = some e ∧ v = e.key) (fun h => EntAt h d es ep) where
  type := fun _ hm => let ⟨o, ho, hc, _⟩ := hm; ⟨o, ho, hc.1⟩
  there := fun _ hm => ⟨hm.lt, hm.lt⟩
  keep := fun _ _ hm hk => hm.at fun o e => hk d (.inl rfl) o e
  notList := by decide
  notTuple := by decide
  hint := fun _ _ _ _ hm hq => kdl_hint_dict (let ⟨o, ho, hc, _⟩ := hm; ⟨o, ho, hc.1⟩) hq
  iter := fun _ _ hh hm => ⟨_, _, (fun _ _ hq => ent_iter lo hm hq), ent_walks hh _ d (Nat.ne_of_lt hm.lt) es ep, ⟨⟨_, Heap.get?_push_size _ rfl, rfl, rfl⟩, hm.at fun o e => Heap.get?_push_of_some _ e⟩⟩
end

/-! # dicts with paths as keys -/
noncomputable abbrev hk (prog : Program) (w : World) : HeapKind prog w (List Int) := tupleKind (intKind prog w)
structure RowO (prog : Program) (w : World) (I : Imm) (o : Obj) (xs : List (Path × Addr × Value)) : Prop where
  obj : ∃ es ep, o.ExactDict ∧ o.data = .dict es ep ∧ es.toList = xs.map (entryOfKey (hk prog w))
  keys : ∀ x ∈ xs, kPath.is I x.1 (.ref x.2.1)
  nd : (xs.map (·.1)).Nodup
theorem RowO.sub {prog : Program} {w : World} {I J : Imm} {o : Obj} {xs : List (Path × Addr × Value)} (h : RowO prog w I o xs) (hs : Sub I J) : RowO prog w J o xs := ⟨h.obj, fun x hx => kPath.sub hs (h.keys x hx), h.nd⟩
theorem items_are {prog : Program} {w : World} {I : Imm} : ∀ {p : Path} {vs : List Value}, Are kInt I p vs → ItemsAre (intKind prog w) p vs
  | [], [], _ => .nil
  | i :: p, v :: vs, ⟨⟨t, e⟩, h⟩ => .cons (by rw [e]; exact intKind_is prog w i t) (items_are h)
theorem path_key {prog : Program} {w : World} {I : Imm} {h : Heap} {p : Path} {a : Addr} (hI : InH I h) (hp : kPath.is I p (.ref a)) : (hk prog w).is h p a := by
  obtain ⟨t, vs, e, ⟨n, ht⟩, hv⟩ := hp
  injection e with e
  subst e
  exact ⟨_, _, n, hI _ _ ht, rfl, rfl, items_are hv⟩
section
variable {prog : Program} {w : World} {A : Around} {s : Shared} {S₀ : Shared} {I₀ I : Imm} {X : List Addr} {L : Addr} {m : Nm} {M M1 M2 : List (Addr × Obj)} {o : Obj} {d : Addr} {xs : List (Path × Addr × Value)}
theorem RowO.at (c : Cx S₀ I₀ X I L m (M1 ++ (d, o) :: M2) s) (h : RowO prog w I o xs) : s.heap.DictOfH (hk prog w) d xs :=
  let ⟨es, ep, a, b, e⟩ := h.obj; ⟨o, es, ep, c.mt _ (List.mem_append_right _ (.head _)), a, b, e, fun x hx => path_key c.imm (h.keys x hx), h.nd⟩
theorem row_collect {Q : List Value → Shared → Prop} (c : Cx S₀ I₀ X I L m (M1 ++ (d, o) :: M2) s) (hh : A.handled = none) (hs : (d == sysModules) = false) (hd : RowO prog w I o xs) (hn : xs.length ≤ 1000)
    (h : ∀ vs s', Cx S₀ I₀ X I L m (M1 ++ (d, o) :: M2) s' → Are kPath I (xs.map (·.1)) vs → Q vs s') : wpAny (model prog w) A (collect (.ref d)) Q noE s := by
  obtain ⟨es, ep, h1, h2, h3⟩ := hd.obj
  have hsz : es.size = xs.length := by rw [← Array.length_toList, h3, List.length_map]
  refine kdu_collect (ent_src hs) hh (⟨o, c.mt _ (List.mem_append_right _ (.head _)), h1, h2⟩ : EntAt s.heap d es ep) (by rw [hsz]; exact small hn) fun h' tk acc hk' hacc => h _ _ (c.kept hk') ?_
  have : ∀ (ys : List (Path × Addr × Value)) (vs : List Value), vs.length = ys.length → (∀ x ∈ ys, kPath.is I x.1 (.ref x.2.1)) → (∀ (j : Nat) (v : Value), vs[j]? = some v → ∃ x, ys[j]? = some x ∧ v = .ref x.2.1) → Are kPath I (ys.map (·.1)) vs := by
    intro ys
    induction ys with
    | nil => intro vs h1 _ _; cases vs with
      | nil => trivial
      | cons _ _ => cases h1
    | cons y ys ih => intro vs h1 h2 h3; cases vs with
      | nil => cases h1
      | cons v vs =>
        refine ⟨?_, ih vs (by simpa using h1) (fun x hx => h2 x (.tail _ hx)) fun j u e => ?_⟩
        · obtain ⟨x, e1, e2⟩ := h3 0 v rfl
          cases e1
          rw [e2]; exact h2 y (.head _)
        · obtain ⟨x, e1, e2⟩ := h3 (j + 1) u (by simpa using e)
          exact ⟨x, by simpa using e1, e2⟩
  refine this xs _ (by rw [Array.length_toList, hacc.1, hsz]) hd.keys fun j v e => ?_
  obtain ⟨en, e1, e2⟩ := hacc.2 j v (by rw [← Array.getElem?_toList]; exact e)
  rw [← Array.getElem?_toList, h3, List.getElem?_map] at e1
  cases q : xs[j]? with
  | none => rw [q] at e1; cases e1
  | some x => rw [q] at e1; cases e1; exact ⟨x, rfl, e2⟩
theorem row_get {p : Path} {a : Addr} {r : Addr × Value} {value slice : Expr} {Q : Value → Shared → Prop} (c : Cx S₀ I₀ X I L m (M1 ++ (d, o) :: M2) s) (hu : A.units + 2 < cLine) (hd : RowO prog w I o xs) (hp : kPath.is I p (.ref a)) (hr : atKey xs p = some r)
    (h : ∀ s', Cx S₀ I₀ X I L m (M1 ++ (d, o) :: M2) s' → Q r.2 s') (hs : autoParam (subscripted slice false (.ref d) (.ref a) = operate [.ref d, .ref a] (getItem (.ref d) (.ref a))) tacWU) :
    wpAny (model prog w) A (subscriptTail value slice (.ref d) (.ref a)) Q noE s :=
  tail_any (hd.at c).typeIs slot_dict_getitem.lookup (wpAny_getItem_heap (knd := hk prog w) (by show A.units + 1 < cLine; omega) (path_key c.imm hp) (hd.at c) hr (h _ c.toks)) hs
theorem row_setdefault {p : Path} {a : Addr} {v : Value} {Q : Value → Shared → Prop} (c : Cx S₀ I₀ X I L m (M1 ++ (d, o) :: M2) s) (hu : A.units + 3 < cLine) (hlo : (d == sysModules) = false) (hd : RowO prog w I o xs) (hp : kPath.is I p (.ref a)) (hz : xs.length ≤ 1000)
    (h1 : ∀ r s', atKey xs p = some r → Cx S₀ I₀ X I L m (M1 ++ (d, o) :: M2) s' → Q r.2 s')
    (h2 : ∀ s' o', atKey xs p = none → RowO prog w I o' (xs ++ [(p, a, v)]) → Cx S₀ I₀ X I L m (M1 ++ (d, o') :: M2) s' → Q v s') :
    wpAny (model prog w) A (call (.builtin "dict.setdefault") [.ref d, .ref a, v]) Q noE s := by
  have hD := hd.at c
  have hkey := path_key (prog := prog) (w := w) c.imm hp
  have hin : (d, o) ∈ M1 ++ (d, o) :: M2 := List.mem_append_right _ (.head _)
  obtain ⟨es, ep, hc, hdt, he⟩ := hd.obj
  have ho := c.mt _ hin
  have his : ∀ x ∈ xs, (hk prog w).is s.heap x.1 x.2.1 := fun x hx => path_key c.imm (hd.keys x hx)
  have hu1 : (hk prog w).room A.in1 := by show A.units + 1 < cLine; omega
  refine wpAny_call_entry PySem.F.slot_dict_setdefault hD.typeIs PySem.F.entry_dict_setdefault ?_ (PySem.F.args_dict_setdefault_3 _ _ _)
  unfold Builtin.«dict.setdefault»
  refine wpAny_bind ?_
  unfold Builtin.Dict.keyAndDefault
  refine wpAny_bind (wpAny_notOrdered_dict hD.typeIs ?_)
  show wpAny _ _ (pure (d, Value.ref a, some v)) _ _ s
  refine wpAny_pure ?_
  show wpAny _ _ (if (d == sysModules) = true then _ else (dictSetDefault d (.ref a) v >>= _)) _ _ s
  rw [if_neg (by rw [hlo]; exact Bool.false_ne_true)]
  refine wpAny_bind ?_
  unfold dictSetDefault
  refine wpAny_holding ?_
  refine wpAny_bind ((hk prog w).pyHash hu1 hkey ?_)
  refine wpAny_bind (wpAny_dictFind_heap (s := { s with toks := s.toks + (hk prog w).draws p }) hu1 hkey ho hdt he his hd.nd ?_ ?_)
  · intro hno
    refine wpAny_bind (wpAny_rule (wpAny_bind (wpAny_updateDictKeys (hz := by have e := size_of_entries he; exact small (by omega)) (s := { s with toks := s.toks + (hk prog w).draws p }) ho hdt (wpAny_pure ?_))))
    have hnone := atKey_none_of_get hno
    have hnot : p ∉ xs.map (·.1) := not_mem_keys_of_get hno
    have hupd : (s.heap.update d (Obj.mapDictKeys (·.push ⟨(hk prog w).hash p, .ref a, v⟩))).get? d = some (o.mapDictKeys (·.push ⟨(hk prog w).hash p, .ref a, v⟩)) := Heap.get?_update_self _ ho (Obj.isFreed_of_dict (Obj.data_mapDictKeys hdt _))
    have c2 := c.turn (tk := s.toks + (hk prog w).draws p) (fun b ob hb e => (Heap.get?_update_other _ _ (Ne.symm hb)).trans e) hupd
    refine wpAny_pure ⟨_, rfl, h2 _ _ hnone ⟨⟨_, ep + 1, hc.mapDictKeys _, Obj.data_mapDictKeys hdt _, ?_⟩, ?_, ?_⟩ c2⟩
    · simp [he, entryOfKey]
    · intro x hx
      rcases List.mem_append.mp hx with hx | hx
      · exact hd.keys x hx
      · rw [List.mem_singleton.mp hx]; exact hp
    · rw [List.map_append, List.nodup_append]
      refine ⟨hd.nd, by simp, ?_⟩
      intro x hx y hy
      simp only [List.map_cons, List.map_nil, List.mem_singleton] at hy
      rw [hy]
      exact fun e => hnot (e ▸ hx)
  · intro j q hj
    have hat := atKey_of_get hd.nd hj
    refine wpAny_bind (wpAny_dictEntries (s := { s with toks := s.toks + (hk prog w).draws p }) ho hdt ?_)
    rw [entry_at he j, hj]
    exact wpAny_bind (wpAny_rule (wpAny_pure (wpAny_pure ⟨_, rfl, h1 q _ hat c.toks⟩)))
end
end Mine

set_option maxHeartbeats 400000
namespace Mine
theorem nodup_len {α : Type} [DecidableEq α] : ∀ {l r : List α}, l.Nodup → (∀ a ∈ l, a ∈ r) → l.length ≤ r.length
  | [], _, _, _ => Nat.zero_le _
  | a :: l, r, h, hs => by
    rw [List.nodup_cons] at h
    have ha := hs a (.head _)
    have ih := nodup_len (l := l) (r := r.erase a) h.2 fun b hb => (List.mem_erase_of_ne (fun e => h.1 (by rw [← e]; exact hb))).mpr (hs b (.tail _ hb))
    rw [List.length_erase_of_mem ha] at ih
    have : 0 < r.length := List.length_pos_of_mem ha
    rw [List.length_cons]; omega

/-! # places -/
noncomputable def PlaceI (I : Imm) (x ra wa : Addr) : Prop := Ex6 fun dx n h1 h2 t1 t2 => I x = some (instObj 108 dx) ∧ I dx = some (dictOf [⟨h1, .str "reads" t1, .ref ra⟩, ⟨h2, .str "writes" t2, .ref wa⟩] n)
theorem PlaceI.sub {I J : Imm} {x ra wa : Addr} (h : PlaceI I x ra wa) (hs : Sub I J) : PlaceI J x ra wa :=
  let ⟨dx, n, h1, h2, t1, t2, a, b⟩ := h; ⟨dx, n, h1, h2, t1, t2, hs _ _ a, hs _ _ b⟩
structure CtOk (prog : Program) (w : World) (I : Imm) (o : Obj) (cs : List (Int × Int)) : Prop where
  dk : DK prog w kInt I o cs
  inn : ∀ p ∈ cs, InG p.1
  nd : (cs.map (·.1)).Nodup
theorem CtOk.sub {prog : Program} {w : World} {I J : Imm} {o : Obj} {cs : List (Int × Int)} (h : CtOk prog w I o cs) (hs : Sub I J) : CtOk prog w J o cs := ⟨h.dk.sub hs, h.inn, h.nd⟩
theorem CtOk.len {prog : Program} {w : World} {I : Imm} {o : Obj} {cs : List (Int × Int)} (h : CtOk prog w I o cs) : cs.length ≤ 3 := by
  have := nodup_len (r := [0, 1, 2]) h.nd fun a ha => by
    obtain ⟨p, hp, rfl⟩ := List.mem_map.mp ha
    simpa [InG] using h.inn p hp
  simpa using this
structure Pl where
  path : Path
  ra : Addr
  wa : Addr
  ro : Obj
  wo : Obj
  rc : List (Int × Int)
  wc : List (Int × Int)
noncomputable def Mp : List Pl → List (Addr × Obj)
  | [] => []
  | p :: r => (p.ra, p.ro) :: (p.wa, p.wo) :: Mp r
theorem Mp_append : ∀ (a b : List Pl), Mp (a ++ b) = Mp a ++ Mp b
  | [], _ => rfl
  | p :: a, b => by rw [List.cons_append, Mp, Mp, Mp_append a b]; rfl
structure PlOk (prog : Program) (w : World) (I : Imm) (p : Pl) : Prop where
  r : CtOk prog w I p.ro p.rc
  w : CtOk prog w I p.wo p.wc
  ra : 5 < p.ra
  wa : 5 < p.wa
theorem PlOk.sub {prog : Program} {w : World} {I J : Imm} {p : Pl} (h : PlOk prog w I p) (hs : Sub I J) : PlOk prog w J p := ⟨h.r.sub hs, h.w.sub hs, h.ra, h.wa⟩
inductive XsOk (prog : Program) (w : World) (I : Imm) : List (Path × Addr × Value) → List Pl → Prop
  | nil : XsOk prog w I [] []
  | cons {x : Path × Addr × Value} {p : Pl} {xs : List (Path × Addr × Value)} {tbl : List Pl} (px : Addr) : x.1 = p.path → x.2.2 = .ref px → PlaceI I px p.ra p.wa → PlOk prog w I p → XsOk prog w I xs tbl → XsOk prog w I (x :: xs) (p :: tbl)
section
variable {prog : Program} {w : World} {I J : Imm} {xs : List (Path × Addr × Value)} {tbl : List Pl}
theorem XsOk.sub (hs : Sub I J) (h : XsOk prog w I xs tbl) : XsOk prog w J xs tbl := by
  induction h with
  | nil => exact .nil
  | cons px a b c d _ ih => exact .cons px a b (c.sub hs) (d.sub hs) ih
theorem XsOk.paths (h : XsOk prog w I xs tbl) : xs.map (·.1) = tbl.map (·.path) := by
  induction h with
  | nil => rfl
  | cons px a b c d _ ih => rw [List.map_cons, List.map_cons, a, ih]
theorem XsOk.find {p : Path} (h : XsOk prog w I xs tbl) : match tbl.find? (fun x => decide (x.path = p)) with
    | some pl => An4 (∃ ka px, atKey xs p = some (ka, .ref px) ∧ PlaceI I px pl.ra pl.wa) (PlOk prog w I pl) (pl.path = p) (∃ a b, tbl = a ++ pl :: b)
    | none => atKey xs p = none := by
  induction h with
  | nil => exact rfl
  | @cons x q xs tbl px a b c d hh ih =>
    rw [List.find?_cons]
    by_cases e : q.path = p
    · rw [decide_eq_true e]
      obtain ⟨x1, x2, x3⟩ := x
      dsimp only at a b
      subst b
      refine ⟨⟨x2, px, ?_, c⟩, d, e, [], tbl, rfl⟩
      unfold atKey
      rw [List.find?_cons, decide_eq_true (by rw [a, e])]; rfl
    · rw [decide_eq_false e]
      have hk : atKey (x :: xs) p = atKey xs p := by
        unfold atKey
        rw [List.find?_cons, decide_eq_false (by rw [a]; exact e)]
      dsimp only
      rw [hk]
      cases q' : tbl.find? (fun x => decide (x.path = p)) with
      | none => rw [q'] at ih; exact ih
      | some pl =>
        rw [q'] at ih
        obtain ⟨i1, i2, i3, a', b', e'⟩ := ih
        exact ⟨i1, i2, i3, q :: a', b', by rw [e']; rfl⟩
theorem XsOk.snoc {x : Path × Addr × Value} {p : Pl} (px : Addr) (h1 : x.1 = p.path) (h2 : x.2.2 = .ref px) (h3 : PlaceI I px p.ra p.wa) (h4 : PlOk prog w I p) (h : XsOk prog w I xs tbl) : XsOk prog w I (xs ++ [x]) (tbl ++ [p]) := by
  induction h with
  | nil => exact .cons px h1 h2 h3 h4 .nil
  | cons qx a b c d _ ih => exact .cons qx a b c d ih
theorem XsOk.swap {p p' : Pl} (h1 : p'.path = p.path) (h2 : p'.ra = p.ra) (h3 : p'.wa = p.wa) (h4 : PlOk prog w I p') : ∀ {a b : List Pl} {xs : List (Path × Addr × Value)}, XsOk prog w I xs (a ++ p :: b) → XsOk prog w I xs (a ++ p' :: b) := by
  intro a
  induction a with
  | nil =>
    intro b xs h
    cases h with
    | cons px e1 e2 e3 e4 e5 => exact .cons px (e1.trans h1.symm) e2 (by rw [h2, h3]; exact e3) h4 e5
  | cons q a ih =>
    intro b xs h
    cases h with
    | cons px e1 e2 e3 e4 e5 => exact .cons px e1 e2 e3 e4 (ih e5)
end
noncomputable def RowsSt (prog : Program) (w : World) (I : Imm) (ro : Obj) (tbl : List Pl) : Prop := ∃ xs, RowO prog w I ro xs ∧ XsOk prog w I xs tbl
theorem RowsSt.sub {prog : Program} {w : World} {I J : Imm} {ro : Obj} {tbl : List Pl} (h : RowsSt prog w I ro tbl) (hs : Sub I J) : RowsSt prog w J ro tbl := let ⟨xs, a, b⟩ := h; ⟨xs, a.sub hs, b.sub hs⟩
theorem RowsSt.nd {prog : Program} {w : World} {I : Imm} {ro : Obj} {tbl : List Pl} (h : RowsSt prog w I ro tbl) : (tbl.map (·.path)).Nodup := let ⟨xs, a, b⟩ := h; by rw [← b.paths]; exact a.nd
/-- what is told of a place, a way and a goroutine -/
noncomputable def tget (tbl : List Pl) (p : Path) (isW : Bool) (q : Int) : Option Int := (tbl.find? (fun x => decide (x.path = p))).bind fun x => look (if isW then x.wc else x.rc) q
noncomputable def wd (isW : Bool) : Str := if isW then "write" else "read"

section
variable {prog : Program} {w : World} {A : Around} {s : Shared} {S₀ : Shared} {I₀ I : Imm} {X : List Addr} {L f : Addr} {m : Nm} {M M1 M2 : List (Addr × Obj)} {mb : Nm} {fd : FuncData}
theorem dictE0 {env : Env} {pos : Pos} {Q : Value → Shared → Prop} (c : Cx S₀ I₀ X I L m M s) (h : ∀ a s', Cx S₀ I₀ X I L m ((a, emptyDict) :: M) s' → 5 < a → Q (.ref a) s') (hbig : 5 < s.heap.objs.size) : wpAny (model prog w) A (eval (.Dict [] [] pos) env) Q noE s := by
  rw [eval_Dict_empty]
  refine wpAny_bind (wpAny_standAt ?_)
  exact wpAny_newObj_type (h _ _ (c.allocM (o := emptyDict) s.toks rfl) hbig)
theorem Tp.big5 {K : Frag} {mb : Nm} {I : Imm} {h : Heap} (T : Tp K mb I) (e : InH I h) {a : Addr} {o : Obj} (ho : K.lookup a = some o) (ha : 5 < a) : 5 < h.objs.size := Nat.lt_trans ha (Heap.lt_size (e _ _ (T.k _ _ ho)))
theorem pl_reads {expr : Bool} {x ra wa : Addr} {Q : Value → Shared → Prop} (T : Tp (KK w.params) mb I) (c : Cx S₀ I₀ X I L m M s) (W : PlaceI I x ra wa) (h : ∀ s', Cx S₀ I₀ X I L m M s' → Q (.ref ra) s') : wpAny (model prog w) A (getAttr (.ref x) "reads" expr) Q noE s := by
  obtain ⟨dx, n, h1, h2, t1, t2, a, b⟩ := W
  exact get_attr T c a b rfl rfl rfl rfl rfl h
theorem pl_writes {expr : Bool} {x ra wa : Addr} {Q : Value → Shared → Prop} (T : Tp (KK w.params) mb I) (c : Cx S₀ I₀ X I L m M s) (W : PlaceI I x ra wa) (h : ∀ s', Cx S₀ I₀ X I L m M s' → Q (.ref wa) s') : wpAny (model prog w) A (getAttr (.ref x) "writes" expr) Q noE s := by
  obtain ⟨dx, n, h1, h2, t1, t2, a, b⟩ := W
  exact get_attr T c a b rfl rfl rfl rfl rfl h
theorem place_init {d : Nat} {x dx : Addr} {R' : Result → Shared → Prop} (R : Room A (d + 1)) (T : Tp (KK w.params) mb I) (hI : InH I s.heap) (hx : I x = some (instObj 108 dx)) (hO : Own s I [(dx, emptyDict)])
    (h : ∀ v s', Post s I [dx] (fun I' Ms N v => v = .none ∧ Ex7 fun ra wa n h1 h2 t1 t2 => An4 (Ms = [(dx, dictOf [⟨h1, .str "reads" t1, .ref ra⟩, ⟨h2, .str "writes" t2, .ref wa⟩] n)]) (N = [(wa, emptyDict), (ra, emptyDict)]) (5 < ra) (5 < wa)) v s' → R' (.ok (.ret v)) s') :
    codeAny (model prog w) A (.call (.ref 105) ⟨[.ref x], []⟩) R' s := by
  refine code_def (fd := fdA 105) (M := [(dx, emptyDict)]) (X := [dx]) (binds := [("self", _)]) R T hI hO.entry hO.nd rfl rfl rfl rfl rfl rfl ?_ rfl rfl rfl
  intro L s1 hL c1 R1
  refine wpAny_execs_cons (plainObj_wpAny_Assign_Attribute ?_)
  refine dictE0 c1 (fun ra s2 c2 hra => ?_) (T.big5 (a := 28) c1.imm rfl (by decide))
  refine nm c2 rfl ?_ rfl rfl
  refine set_attr (M1 := [(ra, emptyDict)]) (es := []) (n := 0) T c2 hx rfl rfl rfl rfl rfl rfl fun s3 t3 c3 => ?_
  refine wpAny_execs_cons (plainObj_wpAny_Assign_Attribute ?_)
  refine dictE0 c3 (fun wa s4 c4 hwa => ?_) (T.big5 (a := 28) c3.imm rfl (by decide))
  refine nm c4 rfl ?_ rfl rfl
  refine set_attr (M1 := [(wa, emptyDict), (ra, emptyDict)]) T c4 hx rfl rfl rfl rfl rfl rfl fun s5 t5 c5 => ?_
  exact wpAny_execs_nil (h _ _ (Cx.postN (N := [(wa, emptyDict), (ra, emptyDict)]) c5 hL rfl ⟨rfl, ra, wa, _, _, _, _, _, rfl, rfl, hra, hwa⟩))
end
end Mine

set_option maxHeartbeats 400000
namespace Mine
theorem permA {α : Type} (a b c d w : α) {R R' : List α} (h : R.Perm (w :: R')) : (a :: b :: c :: d :: R).Perm ([a, c, w] ++ (b :: d :: R')) := by
  refine List.Perm.cons _ ?_
  refine (List.Perm.swap c b _).trans (List.Perm.cons _ ?_)
  refine (List.Perm.cons _ (List.Perm.cons _ h)).trans ?_
  exact List.perm_middle (l₁ := [b, d])
theorem permB {α : Type} (a b c d w : α) {R R' : List α} (h : R.Perm (w :: R')) : ([a, c, w] ++ (b :: d :: R')).Perm (a :: b :: c :: d :: R) := (permA a b c d w h).symm
theorem Mp_w (a b : List Pl) (p : Pl) : (Mp (a ++ p :: b)).Perm ((p.wa, p.wo) :: (Mp a ++ (p.ra, p.ro) :: Mp b)) := by
  rw [Mp_append, Mp]
  have := List.perm_middle (a := (p.wa, p.wo)) (l₁ := Mp a ++ [(p.ra, p.ro)]) (l₂ := Mp b)
  simpa using this
theorem Mp_r (a b : List Pl) (p : Pl) : (Mp (a ++ p :: b)).Perm ((p.ra, p.ro) :: (Mp a ++ (p.wa, p.wo) :: Mp b)) := by
  rw [Mp_append, Mp]
  exact List.perm_middle

/-- a place's part of the new races -/
noncomputable def NewP (V : Int → Vec) (g : Int) (path : Path) (isW : Bool) (pl : Pl) (r : Race) : Prop :=
  meet pl.path path = true ∧ (NewR V g (1, path) (wd isW) "write" pl.wc r ∨ (isW = true ∧ NewR V g (1, path) (wd isW) "read" pl.rc r))
section
variable {prog : Program} {w : World} {A : Around} {s : Shared} {S₀ : Shared} {I₀ I : Imm} {X : List Addr} {L f : Addr} {m : Nm} {M M1 M2 : List (Addr × Obj)} {mb : Nm} {fd : FuncData} {x cd ld gd pd rl : Addr} {d : Nat} {o : Obj} {g : Int} {tk : Tok}
theorem compare_w {V : Int → Vec} {R0 : List Race} {rs0 : List Value} {n0 : Nat} {po ro : Obj} {rd : Addr} {a b : List Pl} {pl : Pl} {isW : Bool} {path : Path} {lv : Value} {tw te : Tok} {word earlier : Str} {isE : Bool} {Q : Value → Shared → Prop}
    (c : Cx S₀ I₀ X I L m ((cd, o) :: (pd, po) :: (rl, seqObj "list" rs0.toArray n0) :: (rd, ro) :: Mp (a ++ pl :: b)) s)
    (R : Room A (d + 3)) (T : Tp (KK w.params) mb I) (W : WatchI I x cd ld gd pd rl) (hk : DK prog w kVec I o (vks V)) (hg : InG g)
    (hR : Are koRace.toKd I R0 rs0) (hnd : R0.Nodup) (hRz : R0.length ≤ 500) (hp : PlOk prog w I pl) (hl : koLoc.is I (1, path) lv)
    (h : ∀ I' s' o' R' rs' n', Cx S₀ I₀ X I' L m ((cd, o') :: (pd, po) :: (rl, seqObj "list" rs'.toArray n') :: (rd, ro) :: Mp (a ++ pl :: b)) s' → Sub I I' → DK prog w kVec I' o' (vks V) →
      Are koRace.toKd I' R' rs' → NP R0 R' → R'.length ≤ R0.length + 3 → (∀ r, r ∈ R' ↔ r ∈ R0 ∨ NewR V g (1, path) word earlier (if isE then pl.wc else pl.rc) r) → Q .none s') :
    wpAny (model prog w) A (call (.ref 238) [.ref x, .int g tk, lv, .str word tw, .ref (if isE then pl.wa else pl.ra), .str earlier te]) Q noE s := by
  cases isE with
  | true =>
    have hperm := permA (cd, o) (pd, po) (rl, seqObj "list" rs0.toArray n0) (rd, ro) (pl.wa, pl.wo) (Mp_w a b pl)
    have c1 := c.perm hperm
    have hsub : List.Sublist [(cd, o), (rl, seqObj "list" rs0.toArray n0), (pl.wa, pl.wo)] ([(cd, o), (rl, seqObj "list" rs0.toArray n0), (pl.wa, pl.wo)] ++ ((pd, po) :: (rd, ro) :: (Mp a ++ (pl.ra, pl.ro) :: Mp b))) := List.sublist_append_left _ _
    refine Cx.callP (M1 := []) (Mc := [(cd, o), (rl, seqObj "list" rs0.toArray n0), (pl.wa, pl.wo)]) (M2 := (pd, po) :: (rd, ro) :: (Mp a ++ (pl.ra, pl.ro) :: Mp b)) c1
      (compare_ok (d := d) (word := word) (earlier := earlier) R T c1.imm W (c1.own hsub) hk hg hR hnd hRz hp.w.dk hp.wa hp.w.inn hp.w.len hp.w.nd hl) ?_
    rintro v I' s' Ms N c2 sub ⟨o', R', rs', n', rfl, rfl, h1, h2, h3, h4, h5, rfl⟩
    exact h I' s' o' R' rs' n' (c2.perm (permB (cd, o') (pd, po) (rl, seqObj "list" rs'.toArray n') (rd, ro) (pl.wa, pl.wo) (Mp_w a b pl))) sub h1 h2 h3 h4 h5
  | false =>
    have hperm := permA (cd, o) (pd, po) (rl, seqObj "list" rs0.toArray n0) (rd, ro) (pl.ra, pl.ro) (Mp_r a b pl)
    have c1 := c.perm hperm
    have hsub : List.Sublist [(cd, o), (rl, seqObj "list" rs0.toArray n0), (pl.ra, pl.ro)] ([(cd, o), (rl, seqObj "list" rs0.toArray n0), (pl.ra, pl.ro)] ++ ((pd, po) :: (rd, ro) :: (Mp a ++ (pl.wa, pl.wo) :: Mp b))) := List.sublist_append_left _ _
    refine Cx.callP (M1 := []) (Mc := [(cd, o), (rl, seqObj "list" rs0.toArray n0), (pl.ra, pl.ro)]) (M2 := (pd, po) :: (rd, ro) :: (Mp a ++ (pl.wa, pl.wo) :: Mp b)) c1
      (compare_ok (d := d) (word := word) (earlier := earlier) R T c1.imm W (c1.own hsub) hk hg hR hnd hRz hp.r.dk hp.ra hp.r.inn hp.r.len hp.r.nd hl) ?_
    rintro v I' s' Ms N c2 sub ⟨o', R', rs', n', rfl, rfl, h1, h2, h3, h4, h5, rfl⟩
    exact h I' s' o' R' rs' n' (c2.perm (permB (cd, o') (pd, po) (rl, seqObj "list" rs'.toArray n') (rd, ro) (pl.ra, pl.ro) (Mp_r a b pl))) sub h1 h2 h3 h4 h5

/-! contracts up to the order of the things -/
theorem split_own : ∀ (Y : List Addr) (Ma : List (Addr × Obj)), Y.Nodup → (∀ y ∈ Y, y ∈ Ma.map (·.1)) → ∃ (N : List (Addr × Obj)) (Ms : List (Addr × Obj)), (N ++ Ms).Perm Ma ∧ Ms.map (·.1) = Y
  | [], Ma, _, _ => ⟨Ma, [], by simp, rfl⟩
  | y :: Y, Ma, hn, hs => by
    rw [List.nodup_cons] at hn
    obtain ⟨p, hp, e⟩ := List.mem_map.mp (hs y (.head _))
    obtain ⟨A, B, rfl⟩ := List.append_of_mem hp
    obtain ⟨N, Ms, h1, h2⟩ := split_own Y (A ++ B) hn.2 fun z hz => by
      have h := hs z (.tail _ hz)
      rw [List.map_append, List.map_cons] at h
      rw [List.map_append]
      rcases List.mem_append.mp h with h | h
      · exact List.mem_append_left _ h
      · rcases List.mem_cons.mp h with h | h
        · rw [e] at h
          exact absurd (by rw [← h]; exact hz) hn.1
        · exact List.mem_append_right _ h
    refine ⟨N, p :: Ms, ?_, by rw [List.map_cons, e, h2]⟩
    exact List.perm_middle.trans ((List.Perm.cons _ h1).trans List.perm_middle.symm)
noncomputable def PostQ (s : Shared) (I : Imm) (Y : List Addr) (P : Imm → List (Addr × Obj) → Value → Prop) (v : Value) (s' : Shared) : Prop :=
  Post s I Y (fun I' Ms N v => ∃ Ma, (N ++ Ms).Perm Ma ∧ P I' Ma v) v s'
theorem Cx.postQ {P : Imm → List (Addr × Obj) → Value → Prop} {v : Value} {I' : Imm} {Ma : List (Addr × Obj)} {s' : Shared} {Y : List Addr} (c : Cx s I Y I' L m Ma s') (hL : s.heap.get? L = none) (hn : Y.Nodup) (hY : ∀ y ∈ Y, y ∈ Ma.map (·.1)) (p : P I' Ma v) : PostQ s I Y P v s' := by
  obtain ⟨N, Ms, h1, h2⟩ := split_own Y Ma hn hY
  exact Cx.postN (c.perm h1.symm) hL h2 ⟨Ma, h1, p⟩
theorem Cx.callQ {t : Sem Value} {P : Imm → List (Addr × Obj) → Value → Prop} {Q : Value → Shared → Prop} {Mc Mr : List (Addr × Obj)} (c : Cx S₀ I₀ X I L m (Mc ++ Mr) s)
    (h : wpAny (model prog w) A t (PostQ s I (Mc.map (·.1)) P) noE s)
    (k : ∀ v I' s' Ma, Cx S₀ I₀ X I' L m (Ma ++ Mr) s' → Sub I I' → P I' Ma v → Q v s') : wpAny (model prog w) A t Q noE s := by
  refine Cx.callP (M1 := []) (Mc := Mc) (M2 := Mr) c h ?_
  rintro v I' s' Ms N c' sub ⟨Ma, hp, p⟩
  refine k v I' s' Ma (c'.perm ?_) sub p
  show (N ++ (Ms ++ Mr)).Perm _
  rw [← List.append_assoc]
  exact hp.append_right _

theorem attrE {env : Env} {e : Expr} {attr : Str} {pos : Pos} {Q : Value → Shared → Prop} (h : wpAny (model prog w) A (eval e env) (fun ov s1 => wpAny (model prog w) A (getAttr ov attr true) Q noE s1) noE s)
    (hb : autoParam (attributeBase e attr env (eval e env) = eval e env) tacRfl) : wpAny (model prog w) A (eval (.Attribute e attr pos) env) Q noE s := by
  rw [arm_eval_Attribute, hb]
  exact wpAny_bind (wpAny_mono h (fun o s₁ h₁ => wpAny_bind (wpAny_standAt (wpAny_bind (wpAny_holding (wpAny_mono h₁ (fun r s₂ h₂ => wpAny_bind (wpAny_letTemporaryGo (wpAny_pure h₂))) fun _ _ y => y))))) fun _ _ y => y)
noncomputable def kRef : Kd Addr := ⟨fun _ a v => v = .ref a, fun _ h => h⟩
noncomputable def PlSt (prog : Program) (w : World) (I : Imm) (po : Obj) (Mpl : List (Addr × Obj)) (tbl : List Pl) : Prop :=
  (DK prog w kRef I po [] ∧ Mpl = [] ∧ tbl = []) ∨ Ex2 fun rd ro => An4 (DK prog w kRef I po [(1, rd)]) (Mpl = (rd, ro) :: Mp tbl) (RowsSt prog w I ro tbl) (5 < rd)
theorem PlSt.sub {J : Imm} {po : Obj} {Mpl : List (Addr × Obj)} {tbl : List Pl} (h : PlSt prog w I po Mpl tbl) (hs : Sub I J) : PlSt prog w J po Mpl tbl := by
  rcases h with ⟨a, b⟩ | ⟨rd, ro, a, b, c, e⟩
  · exact .inl ⟨a.sub hs, b⟩
  · exact .inr ⟨rd, ro, a.sub hs, b, c.sub hs, e⟩

theorem rmeth {name : Str} {id : String} {pl : Sem Bool} {dd : Addr} {oo : Obj} {xs : List (Path × Addr × Value)} {Q : Value × List Value → Shared → Prop} (c : Cx S₀ I₀ X I L m (M1 ++ (dd, oo) :: M2) s) (slot : Slot "dict" name id) (ty : typeOf (.builtin id) = pure (.type "method_descriptor")) (hd : RowO prog w I oo xs) (h : Q (.builtin id, [.ref dd]) s) :
    wpAny (model prog w) A (getMethod (.ref dd) name pl) Q noE s := by
  obtain ⟨es, ep, hc, hdt, he⟩ := hd.obj
  have ho := c.mt (dd, oo) (List.mem_append_right _ (.head _))
  exact getMethod_builtin (T := "dict") ⟨oo, ho, hc.1⟩ PySem.F.plainAttrs_dict slot ty (fun b e => by cases e; exact ⟨oo, ho, hc.2.1⟩) h
theorem tget_mid {a b : List Pl} {pl : Pl} (hn : ((a ++ pl :: b).map (·.path)).Nodup) (p : Path) (z : Bool) (q : Int) : tget (a ++ pl :: b) p z q = if p = pl.path then look (if z then pl.wc else pl.rc) q else tget (a ++ b) p z q := by
  unfold tget
  rw [List.find?_append, List.find?_append, List.find?_cons]
  by_cases e : p = pl.path
  · rw [if_pos e]
    have : a.find? (fun x => decide (x.path = p)) = none := by
      rw [List.find?_eq_none]
      intro y hy h
      rw [List.map_append, List.map_cons, List.nodup_append] at hn
      exact hn.2.2 _ (List.mem_map.mpr ⟨y, hy, rfl⟩) _ (.head _) ((of_decide_eq_true h).trans e)
    rw [this, decide_eq_true e.symm]; rfl
  · rw [if_neg e, decide_eq_false (fun h => e h.symm)]
theorem tget_snoc {tbl : List Pl} {pl : Pl} (hr : pl.rc = []) (hw : pl.wc = []) (hp : pl.path ∉ tbl.map (·.path)) (p : Path) (z : Bool) (q : Int) : tget (tbl ++ [pl]) p z q = tget tbl p z q := by
  unfold tget
  rw [List.find?_append, List.find?_cons]
  cases h : tbl.find? (fun x => decide (x.path = p)) with
  | some y => rfl
  | none =>
    by_cases e : pl.path = p
    · rw [decide_eq_true e]
      show look (if z then pl.wc else pl.rc) q = none
      rw [hr, hw]; split <;> rfl
    · rw [decide_eq_false e]; rfl
/-- what a look leaves behind -/
inductive LookP (prog : Program) (w : World) (V : Int → Vec) (g : Int) (isW : Bool) (path : Path) (R0 : List Race) (tbl : List Pl) (cd pd rl : Addr) (I' : Imm) (Ma : List (Addr × Obj)) (v : Value) : Prop
  | mk (o' po' : Obj) (rs' : List Value) (n' : Nat) (R' : List Race) (Mpl' : List (Addr × Obj)) (tbl' : List Pl) :
    Ma = (cd, o') :: (pd, po') :: (rl, seqObj "list" rs'.toArray n') :: Mpl' → DK prog w kVec I' o' (vks V) → PlSt prog w I' po' Mpl' tbl' → Are koRace.toKd I' R' rs' → NP R0 R' → (∀ r, r ∈ R' ↔ r ∈ R0 ∨ ∃ pl ∈ tbl, NewP V g path isW pl r) →
    (∀ p b q, tget tbl' p b q = if p = path ∧ b = isW ∧ q = g then some (V g g : Int) else tget tbl p b q) → (∀ pl ∈ tbl', pl.path ∈ tbl.map (·.path) ∨ pl.path = path) → v = .none → LookP prog w V g isW path R0 tbl cd pd rl I' Ma v
/-- a def called, its contract opened: X and Q are names from here on -/
theorem call_defPQ {K : Frag} {ff : Addr} {ffd : FuncData} {body : List Stmt} {oc : Value} {od : Option Addr} {osl : Array (Option Value)} {args : List Value} {binds : List (Str × Value)} {dd : Nat} {MM : List (Addr × Obj)} {P : Imm → List (Addr × Obj) → Value → Prop}
    (R : Room A (dd + 1)) (T : Tp K mb I) (hI : ∀ a o, I a = some o → s.heap.get? a = some o) (hO : Own s I MM)
    (ho : K.lookup ff = some ⟨oc, od, .func ffd, osl⟩) (hcd : codeIn K ffd.code ffd.qualname = true) (hbody : ffd.body = .stmts body)
    (hbind : bindArgs ffd ⟨args, []⟩ = pure binds) (hcell : ffd.scope.names.all (fun x => x.2 != .cell) = true) (hloc : binds.all (fun x => ffd.scope.names.lookup x.1 == some .local) = true)
    (h : ∀ (X : List Addr) (Q : Value → Shared → Prop) (L : Addr) (s' : Shared), (∀ {m I' Ma v s'}, Cx s I X I' L m Ma s' → (∀ y ∈ MM.map (·.1), y ∈ Ma.map (·.1)) → P I' Ma v → Q v s') → s.heap.get? L = none → Cx s I X I L (fun x => binds.reverse.lookup x) MM s' → Room (A.deeper (callEnv ffd L ff)) dd →
      wpAny (model prog w) (A.deeper (callEnv ffd L ff)) (execs body (callEnv ffd L ff)) (fun fl s' => Q (match fl with | .ret v => v | _ => .none) s') noE s')
    (hco : ffd.scope.isCoroutine = false) (hgen : ffd.scope.isGenerator = false) (hk : ffd.scope.kind = .function) :
    wpAny (model prog w) A (call (.ref ff) args) (PostQ s I (MM.map (·.1)) P) noE s :=
  call_def R T hI hO.entry hO.nd ho hcd hbody hbind hcell hloc (fun L s' hL c R' => h _ _ L s' (fun c' hY p => c'.postQ hL hO.nd hY p) hL c R') hco hgen hk
theorem look_ok {V : Int → Vec} {R0 : List Race} {rs0 : List Value} {n0 : Nat} {po : Obj} {Mpl : List (Addr × Obj)} {tbl : List Pl} {isW : Bool} {path : Path} {lv : Value} {tw : Tok}
    (R : Room A (d + 4)) (T : Tp (KK w.params) mb I) (hI : InH I s.heap) (W : WatchI I x cd ld gd pd rl) (hO : Own s I ((cd, o) :: (pd, po) :: (rl, seqObj "list" rs0.toArray n0) :: Mpl)) (hk : DK prog w kVec I o (vks V)) (hg : InG g)
    (hR : Are koRace.toKd I R0 rs0) (hnd : R0.Nodup) (hRz : R0.length ≤ 100) (hP : PlSt prog w I po Mpl tbl) (htz : tbl.length ≤ 20) (hl : koLoc.is I (1, path) lv) (hpz : path.length ≤ 100) (hpp : ∀ pl ∈ tbl, pl.path.length ≤ 100) :
    wpAny (model prog w) A (call (.ref 231) [.ref x, .int g tk, lv, .str (wd isW) tw]) (PostQ s I (((cd, o) :: (pd, po) :: (rl, seqObj "list" rs0.toArray n0) :: Mpl).map (·.1)) (LookP prog w V g isW path R0 tbl cd pd rl)) noE s := by
  refine call_defPQ (ffd := fdA 231) (binds := [("self", _), ("goroutine", _), ("location", _), ("word", _)]) R T hI hO rfl rfl rfl rfl rfl rfl ?_ rfl rfl rfl
  intro X Q L s1 hQ hL c1 R1
  obtain ⟨tl, nv, pv, rfl, htl, ⟨tn, hnv⟩, hpv⟩ := id hl
  dsimp only at hnv hpv
  subst hnv
  refine wpAny_execs_cons (Assign_Tuple (nm c1 rfl ?_ rfl rfl))
  refine asg2 c1 R1.hd (htl.at c1.imm) (fun s2 c2 => ?_) rfl rfl rfl
  obtain ⟨pa, pvs, rfl, hpa, hpvs⟩ := id hpv
  -- rows
  obtain ⟨Q1, hQ1⟩ : ∃ (Q1 : Flow → Shared → Prop), ∀ f s', Q1 f s' ↔ (f = .next ∧ Ex5 fun I2 rd ro po2 m' => An12 (Cx s I X I2 L m' ((cd, o) :: (pd, po2) :: (rl, seqObj "list" rs0.toArray n0) :: (rd, ro) :: Mp tbl) s') (Sub I I2) (DK prog w kRef I2 po2 [(1, rd)]) (RowsSt prog w I2 ro tbl) (5 < rd) (∀ y ∈ Mpl.map (·.1), y ∈ rd :: (Mp tbl).map (·.1)) (m' "self" = some (.ref x)) (m' "goroutine" = some (.int g tk)) (m' "location" = some (.ref tl)) (m' "word" = some (.str (wd isW) tw)) (m' "path" = some (.ref pa)) (m' "rows" = some (.ref rd))) := ⟨_, fun _ _ => Iff.rfl⟩
  refine wpAny_execs_cons (wpAny_mono (Q := Q1) (wpAny_Assign_Name ?_) ?_ fun _ _ e => e)
  · refine mcall ?_
    refine Attribute_name (nm c2 rfl ?_ rfl rfl)
    refine w_places T c2 W fun s3 c3 => ?_
    rcases hP with ⟨⟨kvs, hkvs, hkv⟩, rfl, rfl⟩ | ⟨rd, ro, ⟨kvs, hkvs, hkv⟩, rfl, hrows, hrd⟩
    · refine dmeth PySem.F.slot_dict_setdefault PySem.F.type_dict_setdefault (at_dict (M1 := [(cd, o)]) c3 hkvs) ?_
      refine cwB (spliced_more (nm c3 rfl (spliced_more (dictE0 c3 (fun nd s4 c4 hnd => spliced_none ?_) (T.big5 (a := 28) c3.imm rfl (by decide)))) rfl rfl))
      have hkvs0 : kvs = [] := by cases kvs with
        | nil => rfl
        | cons _ _ => exact hkv.elim
      subst hkvs0
      refine d_setdefault (M1 := [(nd, emptyDict), (cd, o)]) c4 W.pd hkvs (Nat.zero_le _) (fun s5 u hu c5 => by cases hu) fun s5 o5 _ ho5 c5 => ?_
      refine st c5 (fun s6 c6 => ?_) rfl rfl
      have hperm : ([(nd, emptyDict), (cd, o)] ++ (pd, o5) :: [(rl, seqObj "list" rs0.toArray n0)]).Perm [(cd, o), (pd, o5), (rl, seqObj "list" rs0.toArray n0), (nd, emptyDict)] := List.perm_append_comm (l₁ := [(nd, emptyDict)])
      exact (hQ1 _ _).mpr ⟨rfl, I, nd, emptyDict, o5, _, c6.perm hperm, Sub.refl _, ⟨_, ho5, rfl, rfl, trivial⟩, ⟨[], ⟨⟨#[], 0, ⟨rfl, rfl, rfl⟩, rfl, rfl⟩, (fun x hx => nomatch hx), .nil⟩, .nil⟩, hnd, (fun y hy => nomatch hy), rfl, rfl, rfl, rfl, rfl, rfl⟩
    · refine dmeth PySem.F.slot_dict_setdefault PySem.F.type_dict_setdefault (at_dict (M1 := [(cd, o)]) c3 hkvs) ?_
      refine cwB (spliced_more (nm c3 rfl (spliced_more (dictE0 c3 (fun nd s4 c4 hnd => spliced_none ?_) (T.big5 (a := 28) c3.imm rfl (by decide)))) rfl rfl))
      have hval : valueAt kvs 1 = some (.ref rd) := by
        have := hkv.val (g := 1)
        obtain ⟨v, e1, e2⟩ := this
        rw [e1]; rw [show v = .ref rd from e2]
      refine d_setdefault (M1 := [(nd, emptyDict), (cd, o)]) c4 W.pd hkvs (small (by rw [hkv.len]; simp)) (fun s5 u hu c5 => ?_) fun s5 o5 hn _ c5 => ?_
      · rw [hval] at hu
        cases hu
        refine st c5 (fun s6 c6 => ?_) rfl rfl
        exact (hQ1 _ _).mpr ⟨rfl, I, rd, ro, po, _, c6.drop (List.sublist_cons_self _ _), Sub.refl _, ⟨kvs, hkvs, hkv⟩, hrows, hrd, (fun y hy => hy), rfl, rfl, rfl, rfl, rfl, rfl⟩
      · rw [hval] at hn; cases hn
  · intro f s4 h4
    obtain ⟨rfl, I4, rd, ro, po2, m4, c4, sub4, hpo2, hrows, hrd, hYm, e1, e2, e3, e4, e5, e6⟩ := (hQ1 _ _).mp h4
    have T4 := T.sub sub4
    have hNd := hrows.nd
    refine wpAny_execs_cons ?_
    refine for_lstEN c4 R1.hd ?_
    refine Call_Name rfl (nmB T4 c4 rfl rfl (by decide) ?_ rfl rfl rfl rfl)
    refine cwB (spliced_more (nm c4 e6 (spliced_none ?_) rfl rfl))
    obtain ⟨xs, hxs, hxo⟩ := id hrows
    have hxl : xs.length = tbl.length := by have := congrArg List.length hxo.paths; simpa using this
    refine sorted_ok (koList koInt) (P := fun l => l = xs.map (·.1)) (R1.fits (by decide)) (row_collect (M1 := [(cd, o), (pd, po2), (rl, seqObj "list" rs0.toArray n0)]) c4 R1.hd (noMod hrd) hxs (by omega) fun vs s5 c5 ha => ⟨I4, c5, Sub.refl _, ?_, _, ha, rfl⟩) ?_
    · rw [ha.length, List.length_map]; omega
    rintro D I5 s5 l l5 out c5 sub5 hD hout hperm _ rfl
    rw [hxo.paths] at hperm
    have sub45 := sub4.trans sub5
    have hlen : l5.length ≤ 20 := by rw [hperm.length_eq, List.length_map]; exact htz
    obtain ⟨J, hJ⟩ : ∃ (J : Nat → Imm → Nm → List (Addr × Obj) → Prop), ∀ i I1 m1 M1, J i I1 m1 M1 ↔ (An7 (m1 "self" = some (.ref x)) (m1 "goroutine" = some (.int g tk)) (m1 "location" = some (.ref tl)) (m1 "word" = some (.str (wd isW) tw)) (m1 "path" = some (.ref pa)) (m1 "rows" = some (.ref rd)) (Ex4 fun o' R' rs' n' => An6 (M1 = (cd, o') :: (pd, po2) :: (rl, seqObj "list" rs'.toArray n') :: (rd, ro) :: Mp tbl) (DK prog w kVec I1 o' (vks V)) (Are koRace.toKd I1 R' rs') (NP R0 R') (R'.length ≤ R0.length + 6 * i) (∀ r, r ∈ R' ↔ r ∈ R0 ∨ ∃ pl ∈ tbl, pl.path ∈ l5.take i ∧ NewP V g path isW pl r))) := ⟨_, fun _ _ _ _ => Iff.rfl⟩
    refine ⟨D, out, J, _, _, _, rfl, c5, hD, (hJ _ _ _ _).mpr ⟨e1, e2, e3, e4, e5, e6, o, R0, rs0, n0, rfl, hk.sub sub45, hR.sub sub45, NP.refl hnd, Nat.le_refl _, fun r => ⟨.inl, fun h => h.elim id fun ⟨pl, _, hq, _⟩ => by simp at hq⟩⟩, ?_, ?_⟩
    · intro i v6 I6 m6 M6 s6 X6 Q6 hv hJ6 sub6 hQ6 c7
      obtain ⟨e1, e2, e3, e4, e5, e6, o6, R6, rs6, n6, rfl, hk6, hR6, hnd6, hz6, hm6⟩ := (hJ _ _ _ _).mp hJ6
      obtain ⟨q, hq, qa, qvs, rfl, hqa, hqvs⟩ := hout.get hv
      have hi20 : i < l5.length := (List.getElem?_eq_some_iff.mp hq).1
      have hql : q ∈ l5 := List.mem_of_getElem? hq
      have sub06 := sub45.trans sub6
      have T6 := T.sub sub06
      have hqp : kPath.is I6 q (.ref qa) := ⟨qa, qvs, rfl, hqa.sub sub6, hqvs.sub sub6⟩
      have htake : l5.take (i + 1) = l5.take i ++ [q] := by rw [List.take_add_one, hq]; rfl
      have hfind := hxo.find (p := q)
      obtain ⟨pl, hpl⟩ : ∃ pl, tbl.find? (fun x => decide (x.path = q)) = some pl := by
        obtain ⟨pl, h1, h2⟩ := List.mem_map.mp (hperm.mem_iff.mp hql)
        cases z : tbl.find? (fun x => decide (x.path = q)) with
        | some y => exact ⟨y, rfl⟩
        | none => exact absurd (decide_eq_true h2) (List.find?_eq_none.mp z pl h1)
      rw [hpl] at hfind
      obtain ⟨⟨ka, px, hat, hplI⟩, hplOk, hplq, a, b, htbl⟩ := hfind
      have hplm : pl ∈ tbl := List.mem_of_find?_eq_some hpl
      have huniq : ∀ y ∈ tbl, y.path = q → y = pl := fun y hy hyq => by
        rw [htbl] at hNd hy
        rw [List.map_append, List.map_cons, List.nodup_append] at hNd
        obtain ⟨n1, n2, n3⟩ := hNd
        rw [List.nodup_cons] at n2
        rcases List.mem_append.mp hy with h | h
        · exact absurd (hyq.trans hplq.symm) (n3 _ (List.mem_map.mpr ⟨y, h, rfl⟩) _ (.head _))
        · rcases List.mem_cons.mp h with h | h
          · exact h
          · exact absurd (List.mem_map.mpr ⟨y, h, hyq.trans hplq.symm⟩) n2.1
      have hplOk6 := hplOk.sub (sub5.trans sub6)
      refine wpAny_assign_Name (st c7 (fun s8 c8 => ?_) rfl rfl)
      obtain ⟨P1, hP1⟩ : ∃ (P1 : Shared → Prop), ∀ s', P1 s' ↔ (Ex6 fun I' o' R' rs' n' m' => An7 (Cx s6 I6 X6 I' L m' ((cd, o') :: (pd, po2) :: (rl, seqObj "list" rs'.toArray n') :: (rd, ro) :: Mp tbl) s') (An6 (m' "self" = some (.ref x)) (m' "goroutine" = some (.int g tk)) (m' "location" = some (.ref tl)) (m' "word" = some (.str (wd isW) tw)) (m' "path" = some (.ref pa)) (m' "rows" = some (.ref rd))) (DK prog w kVec I' o' (vks V)) (Are koRace.toKd I' R' rs') (NP R6 R') (R'.length ≤ R6.length + 6) (∀ r, r ∈ R' ↔ r ∈ R6 ∨ NewP V g path isW pl r)) := ⟨_, fun _ => Iff.rfl⟩
      refine wpAny_execs_cons (if_join P1 (isTrue_plain ?_) ?_)
      · refine Call_Name rfl (nmG T6 c8 rfl ?_ rfl rfl rfl)
        refine cwK (K := KK w.params) rfl (spliced_more (nm c8 rfl (spliced_more (nm c8 e5 (spliced_none ⟨T6.inn c8.imm, ?_⟩) rfl rfl)) rfl rfl))
        refine c8.call0 (P := fun _ r => r = .bool (meet q path)) (meet_ok (d := d) R1 T6 c8.imm hqp (kPath.sub (sub06) hpv) (by have := hpp pl hplm; rw [hplq] at this; omega) (by omega)) ?_
        rintro _ I9 s9 c9 sub9 rfl
        refine wpAny_truthy_bool ⟨fun hmeet => ?_, fun hmeet => ?_⟩
        · subst htbl
          have sub69 := sub6.trans sub9
          have T9 := T6.sub sub9
          have W9 := W.sub (sub06.trans sub9)
          have hl9 : koLoc.is I9 (1, path) (.ref tl) := koLoc.sub (sub06.trans sub9) hl
          refine wpAny_execs_cons (wpAny_Expr ?_)
          refine mcall ?_
          refine nm c9 e1 ?_ rfl rfl
          refine w_m T9 c9 W9 rfl rfl (by intros; rfl) ?_
          refine cwK (K := KK w.params) rfl (spliced_more (nm c9 e2 (spliced_more (nm c9 e3 (spliced_more (nm c9 e4 (spliced_more (attrE (Subscript_ (nm c9 e6 (nm c9 rfl ?_ rfl rfl) rfl rfl)))) rfl rfl)) rfl rfl)) rfl rfl))
          refine row_get (M1 := [(cd, o6), (pd, po2), (rl, seqObj "list" rs6.toArray n6)]) c9 (R1.fits (by decide)) (hxs.sub (sub5.trans sub69)) (kPath.sub sub9 hqp) hat fun s10 c10 => ?_
          refine pl_writes T9 c10 (hplI.sub (sub5.trans sub69)) fun s11 c11 => ?_
          refine spliced_more (nmG T9 c11 rfl (spliced_none ⟨T9.inn c11.imm, ?_⟩) rfl rfl rfl)
          refine compare_w (d := d) (isE := true) (isW := isW) (word := wd isW) c11 R1 T9 W9 (hk6.sub sub9) hg (hR6.sub sub9) hnd6.1 (by omega) (hplOk6.sub sub9) hl9 ?_
          intro I12 s12 o12 R12 rs12 n12 c12 sub12 hk12 hR12 hnd12 hz12 hm12
          have T12 := T9.sub sub12
          refine wpAny_execs_cons (wpAny_If (wpAny_isTrue_Compare1 ?_))
          refine nm c12 e4 ?_ rfl rfl
          refine nmG T12 c12 rfl ?_ rfl rfl rfl
          cases isW with
          | false =>
            refine P.eq_str (wpAny_truthy_bool ?_)
            refine wpAny_execs_nil (wpAny_execs_nil ⟨rfl, (hP1 _).mpr ⟨I12, o12, R12, rs12, n12, _, c12, ⟨e1, e2, e3, e4, e5, e6⟩, hk12, hR12, hnd12, by omega, fun r => ?_⟩⟩)
            rw [hm12 r]
            constructor
            · rintro (h | h)
              · exact .inl h
              · exact .inr ⟨by rw [hplq]; exact hmeet, .inl h⟩
            · rintro (h | ⟨_, h | ⟨h, _⟩⟩)
              · exact .inl h
              · exact .inr h
              · cases h
          | true =>
            refine P.eq_str (wpAny_truthy_bool ?_)
            have W12 := W9.sub sub12
            refine wpAny_execs_cons (wpAny_Expr ?_)
            refine mcall ?_
            refine nm c12 e1 ?_ rfl rfl
            refine w_m T12 c12 W12 rfl rfl (by intros; rfl) ?_
            refine cwK (K := KK w.params) rfl (spliced_more (nm c12 e2 (spliced_more (nm c12 e3 (spliced_more (nm c12 e4 (spliced_more (attrE (Subscript_ (nm c12 e6 (nm c12 rfl ?_ rfl rfl) rfl rfl)))) rfl rfl)) rfl rfl)) rfl rfl))
            refine row_get (M1 := [(cd, o12), (pd, po2), (rl, seqObj "list" rs12.toArray n12)]) c12 (R1.fits (by decide)) (hxs.sub (sub5.trans (sub69.trans sub12))) (kPath.sub (sub9.trans sub12) hqp) hat fun s13 c13 => ?_
            refine pl_reads T12 c13 (hplI.sub (sub5.trans (sub69.trans sub12))) fun s14 c14 => ?_
            refine spliced_more (nmG T12 c14 rfl (spliced_none ⟨T12.inn c14.imm, ?_⟩) rfl rfl rfl)
            refine compare_w (d := d) (isE := false) (isW := true) (word := wd true) c14 R1 T12 W12 hk12 hg hR12 hnd12.1 (by omega) (hplOk6.sub (sub9.trans sub12)) (koLoc.sub sub12 hl9) ?_
            intro I15 s15 o15 R15 rs15 n15 c15 sub15 hk15 hR15 hnd15 hz15 hm15
            refine wpAny_execs_nil (wpAny_execs_nil ⟨rfl, (hP1 _).mpr ⟨I15, o15, R15, rs15, n15, _, c15, ⟨e1, e2, e3, e4, e5, e6⟩, hk15, hR15, hnd12.trans hnd15, by omega, fun r => ?_⟩⟩)
            rw [hm15 r, hm12 r]
            constructor
            · rintro ((h | h) | h)
              · exact .inl h
              · exact .inr ⟨by rw [hplq]; exact hmeet, .inl h⟩
              · exact .inr ⟨by rw [hplq]; exact hmeet, .inr ⟨rfl, h⟩⟩
            · rintro (h | ⟨_, h | ⟨_, h⟩⟩)
              · exact .inl (.inl h)
              · exact .inl (.inr h)
              · exact .inr h
        · refine (hP1 _).mpr ⟨I9, o6, R6, rs6, n6, _, c9, ⟨e1, e2, e3, e4, e5, e6⟩, hk6.sub sub9, hR6.sub sub9, NP.refl hnd6.1, by omega, fun r => ⟨.inl, fun h => h.elim id fun h => ?_⟩⟩
          have := h.1
          rw [hplq, hmeet] at this; cases this
      · intro s9 h9
        obtain ⟨I9, o9, R9, rs9, n9, m9, c9, ⟨a1, a2, a3, a4, a5, a6⟩, hk9, hR9, hnd9, hz9, hm9⟩ := (hP1 _).mp h9
        refine wpAny_execs_nil (hQ6 c9 rfl ((hJ _ _ _ _).mpr ⟨a1, a2, a3, a4, a5, a6, o9, R9, rs9, n9, rfl, hk9, hR9, hnd6.trans hnd9, by omega, fun r => ?_⟩))
        rw [hm9 r, hm6 r, htake]
        constructor
        · rintro ((h | ⟨y, h1, h2, h3⟩) | h)
          · exact .inl h
          · exact .inr ⟨y, h1, List.mem_append_left _ h2, h3⟩
          · exact .inr ⟨pl, hplm, List.mem_append_right _ (by rw [hplq]; exact .head _), h⟩
        · rintro (h | ⟨y, h1, h2, h3⟩)
          · exact .inl (.inl h)
          · rcases List.mem_append.mp h2 with h2 | h2
            · exact .inl (.inr ⟨y, h1, h2, h3⟩)
            · rw [huniq y h1 (List.mem_singleton.mp h2)] at h3
              exact .inr h3
    · intro I6 m6 M6 s6 hJ6 sub6 hM c6
      obtain ⟨e1, e2, e3, e4, e5, e6, o6, R6, rs6, n6, rfl, hk6, hR6, hnd6, hz6, hm6⟩ := (hJ _ _ _ _).mp hJ6
      have sub06 := sub45.trans sub6
      have T6 := T.sub sub06
      have hxs6 := hxs.sub (sub5.trans sub6)
      have hxo6 := hxo.sub (sub5.trans sub6)
      have hpv6 := kPath.sub sub06 hpv
      obtain ⟨Q2, hQ2⟩ : ∃ (Q2 : Flow → Shared → Prop), ∀ f s', Q2 f s' ↔ (f = .next ∧ Ex7 fun I' ro1 a1 pl1 b1 px m' => An13 (Cx s I X I' L m' ((cd, o6) :: (pd, po2) :: (rl, seqObj "list" rs6.toArray n6) :: (rd, ro1) :: Mp (a1 ++ pl1 :: b1)) s') (Sub I6 I') (RowsSt prog w I' ro1 (a1 ++ pl1 :: b1)) (pl1.path = path) (PlOk prog w I' pl1) (∀ p b q, tget (a1 ++ pl1 :: b1) p b q = tget tbl p b q) (∀ y ∈ (Mp tbl).map (·.1), y ∈ (Mp (a1 ++ pl1 :: b1)).map (·.1)) (∀ y ∈ a1 ++ pl1 :: b1, y.path ∈ tbl.map (·.path) ∨ y.path = path) (PlaceI I' px pl1.ra pl1.wa) (m' "place" = some (.ref px)) (m' "self" = some (.ref x)) (m' "goroutine" = some (.int g tk)) (m' "word" = some (.str (wd isW) tw))) := ⟨_, fun _ _ => Iff.rfl⟩
      refine wpAny_execs_cons (wpAny_mono (Q := Q2) (wpAny_Assign_Name ?_) ?_ fun _ _ e => e)
      · refine mcall ?_
        refine nm c6 e6 ?_ rfl rfl
        refine rmeth (M1 := [(cd, o6), (pd, po2), (rl, seqObj "list" rs6.toArray n6)]) c6 PySem.F.slot_dict_setdefault PySem.F.type_dict_setdefault hxs6 ?_
        refine cwB (spliced_more (nm c6 e5 (spliced_more (Call_Name rfl (nmG T6 c6 rfl (callWith_K0 (K := KK w.params) (T6.inn c6.imm) rfl ?_) rfl rfl rfl))) rfl rfl))
        refine make_cx (P := fun y dx I' Ms N v => v = .none ∧ Ex7 fun ra wa n h1 h2 t1 t2 => An4 (Ms = [(dx, dictOf [⟨h1, .str "reads" t1, .ref ra⟩, ⟨h2, .str "writes" t2, .ref wa⟩] n)]) (N = [(wa, emptyDict), (ra, emptyDict)]) (5 < ra) (5 < wa)) T6 c6 rfl rfl rfl ?_ (fun _ _ _ _ _ _ h => h.1) ?_
        · intro y dy s7 I7 R' hy sub7 hI7 hO7 hR'
          exact place_init (d := d + 1) ((R1.under _ _).le (by omega)) (T6.sub sub7) hI7 hy hO7 hR'
        · rintro y dy od I7 s7 N c7 sub7 sub7' hy ⟨_, ra, wa, n, h1, h2, t1, t2, hMs, rfl, hra, hwa⟩
          injection hMs with hMs _
          injection hMs with _ hMs
          subst hMs
          have hplI : PlaceI (addI I7 dy (dictOf [⟨h1, .str "reads" t1, .ref ra⟩, ⟨h2, .str "writes" t2, .ref wa⟩] n)) y ra wa := ⟨dy, n, h1, h2, t1, t2, sub7' _ _ hy, addI_self⟩
          refine spliced_none ?_
          refine row_setdefault (M1 := [(wa, emptyDict), (ra, emptyDict), (cd, o6), (pd, po2), (rl, seqObj "list" rs6.toArray n6)]) c7 (R1.fits (by decide)) (noMod hrd) (hxs6.sub sub7) (kPath.sub sub7 hpv6) (by omega) (fun r s8 hat c8 => ?_) (fun s8 ro8 hat hro8 c8 => ?_)
          · have hf := (hxo6.sub sub7).find (p := path)
            cases hpl : tbl.find? (fun x => decide (x.path = path)) with
            | none => rw [hpl] at hf; rw [hf] at hat; cases hat
            | some pl =>
              rw [hpl] at hf
              obtain ⟨⟨ka, px, hat', hplI'⟩, hplOk, hplq, a, b, htbl⟩ := hf
              rw [hat'] at hat
              cases hat
              subst htbl
              refine st c8 (fun s9 c9 => ?_) rfl rfl
              exact (hQ2 _ _).mpr ⟨rfl, _, ro, a, pl, b, px, _, c9.drop (List.sublist_append_right [(wa, emptyDict), (ra, emptyDict)] _), sub7, ⟨xs, hxs6.sub sub7, hxo6.sub sub7⟩, hplq, hplOk, fun _ _ _ => rfl, fun _ h => h, fun y hy => .inl (List.mem_map.mpr ⟨y, hy, rfl⟩), hplI', rfl, e1, e2, e4⟩
          · have hf := (hxo6.sub sub7).find (p := path)
            cases hpl : tbl.find? (fun x => decide (x.path = path)) with
            | some pl =>
              rw [hpl] at hf
              obtain ⟨⟨ka, px, hat', hplI'⟩, _⟩ := hf
              rw [hat'] at hat; cases hat
            | none =>
              have hnin : path ∉ tbl.map (·.path) := fun h => by
                obtain ⟨y, hy, e⟩ := List.mem_map.mp h
                exact List.find?_eq_none.mp hpl y hy (decide_eq_true e)
              have hnew : PlOk prog w (addI I7 dy (dictOf [⟨h1, .str "reads" t1, .ref ra⟩, ⟨h2, .str "writes" t2, .ref wa⟩] n)) ⟨path, ra, wa, emptyDict, emptyDict, [], []⟩ :=
                ⟨⟨⟨[], ⟨#[], 0, ⟨rfl, rfl, rfl⟩, rfl, (fun _ he => by simp at he), .nil, .nil⟩, trivial⟩, (fun _ h => nomatch h), .nil⟩, ⟨⟨[], ⟨#[], 0, ⟨rfl, rfl, rfl⟩, rfl, (fun _ he => by simp at he), .nil, .nil⟩, trivial⟩, (fun _ h => nomatch h), .nil⟩, hra, hwa⟩
              refine st c8 (fun s9 c9 => ?_) rfl rfl
              have hperm : ([(wa, emptyDict), (ra, emptyDict), (cd, o6), (pd, po2), (rl, seqObj "list" rs6.toArray n6)] ++ (rd, ro8) :: Mp tbl).Perm ((cd, o6) :: (pd, po2) :: (rl, seqObj "list" rs6.toArray n6) :: (rd, ro8) :: Mp (tbl ++ [⟨path, ra, wa, emptyDict, emptyDict, [], []⟩])) := by
                rw [Mp_append]
                refine (List.Perm.swap _ _ _).trans ?_
                exact List.perm_append_comm (l₁ := [(ra, emptyDict), (wa, emptyDict)]) (l₂ := (cd, o6) :: (pd, po2) :: (rl, seqObj "list" rs6.toArray n6) :: (rd, ro8) :: Mp tbl)
              refine (hQ2 _ _).mpr ⟨rfl, _, ro8, tbl, ⟨path, ra, wa, emptyDict, emptyDict, [], []⟩, [], y, _, c9.perm hperm, sub7, ⟨_, hro8, (hxo6.sub sub7).snoc y rfl rfl hplI hnew⟩, rfl, hnew, tget_snoc rfl rfl hnin, fun z hz => ?_, fun z hz => ?_, hplI, rfl, e1, e2, e4⟩
              · rw [Mp_append, List.map_append]; exact List.mem_append_left _ hz
              · rcases List.mem_append.mp hz with h | h
                · exact .inl (List.mem_map.mpr ⟨z, h, rfl⟩)
                · rw [List.mem_singleton.mp h]; exact .inr rfl
      · intro f s8 h8
        obtain ⟨rfl, I8, ro8, a8, pl8, b8, px, m8, c8, sub8, hrows8, hplp, hplOk8, htg, hmem8, hpath8, hplI8, f1, f2, f3, f4⟩ := (hQ2 _ _).mp h8
        have sub08 := sub06.trans sub8
        have T8 := T.sub sub08
        have W8 := W.sub sub08
        have hnd8 := hrows8.nd
        have hvk8 : DK prog w kVec I8 o6 (vks V) := hk6.sub sub8
        -- the end, for a place pl9 in the stead of pl8
        have fin : ∀ (I9 : Imm) (s9 : Shared) (m9 : Nm) (o9 : Obj) (pl9 : Pl), Sub I8 I9 → pl9.path = pl8.path → pl9.ra = pl8.ra → pl9.wa = pl8.wa → PlOk prog w I9 pl9 → DK prog w kVec I9 o9 (vks V) →
            (∀ b q, look (if b then pl9.wc else pl9.rc) q = if b = isW ∧ q = g then some (V g g : Int) else look (if b then pl8.wc else pl8.rc) q) →
            Cx s I X I9 L m9 ((cd, o9) :: (pd, po2) :: (rl, seqObj "list" rs6.toArray n6) :: (rd, ro8) :: Mp (a8 ++ pl9 :: b8)) s9 →
            Q .none s9 := by
          intro I9 s9 m9 o9 pl9 sub9 g1 g2 g3 g4 g5 g6 c9
          obtain ⟨xs8, hxs8, hxo8⟩ := hrows8
          have hrows9 : RowsSt prog w I9 ro8 (a8 ++ pl9 :: b8) := ⟨xs8, hxs8.sub sub9, (hxo8.sub sub9).swap g1 g2 g3 g4⟩
          have hmp : (Mp (a8 ++ pl9 :: b8)).map (·.1) = (Mp (a8 ++ pl8 :: b8)).map (·.1) := by
            rw [Mp_append, Mp_append, Mp, Mp]
            simp only [List.map_append, List.map_cons, g2, g3]
          refine hQ c9 (fun y hy => ?_) ⟨o9, po2, rs6, n6, R6, (rd, ro8) :: Mp (a8 ++ pl9 :: b8), a8 ++ pl9 :: b8, rfl, g5, .inr ⟨rd, ro8, hpo2.sub (sub5.trans (sub6.trans (sub8.trans sub9))), rfl, hrows9, hrd⟩, hR6.sub (sub8.trans sub9), hnd6, fun r => ?_, fun p b q => ?_, fun z hz => ?_, rfl⟩
          · rcases List.mem_cons.mp hy with h | hy
            · rw [h]; exact .head _
            rcases List.mem_cons.mp hy with h | hy
            · rw [h]; exact .tail _ (.head _)
            rcases List.mem_cons.mp hy with h | hy
            · rw [h]; exact .tail _ (.tail _ (.head _))
            refine .tail _ (.tail _ (.tail _ ?_))
            rcases List.mem_cons.mp (hYm y hy) with h | h
            · rw [h]; exact .head _
            · refine .tail _ ?_
              have := hmem8 y h
              rw [← hmp] at this
              exact this
          · rw [hm6 r, hout.length, List.take_length]
            constructor
            · rintro (h | ⟨y, h1, _, h3⟩)
              · exact .inl h
              · exact .inr ⟨y, h1, h3⟩
            · rintro (h | ⟨y, h1, h3⟩)
              · exact .inl h
              · exact .inr ⟨y, h1, hperm.mem_iff.mpr (List.mem_map.mpr ⟨y, h1, rfl⟩), h3⟩
          · rw [← htg p b q, tget_mid hrows9.nd, tget_mid hnd8, g1, hplp]
            by_cases hp : p = path
            · rw [if_pos hp, if_pos hp, g6 b q]
              by_cases hbq : b = isW ∧ q = g
              · rw [if_pos hbq, if_pos (show p = path ∧ b = isW ∧ q = g from ⟨hp, hbq⟩)]
              · rw [if_neg hbq, if_neg (show ¬ (p = path ∧ b = isW ∧ q = g) from fun h => hbq h.2)]
            · rw [if_neg hp, if_neg hp, if_neg (show ¬ (p = path ∧ b = isW ∧ q = g) from fun h => hp h.1)]
          · rcases List.mem_append.mp hz with h | h
            · exact hpath8 z (List.mem_append_left _ h)
            · rcases List.mem_cons.mp h with h | h
              · rw [h, g1, hplp]; exact .inr rfl
              · exact hpath8 z (List.mem_append_right _ (.tail _ h))
        -- counts
        refine wpAny_execs_cons (wpAny_Assign_Name (wpAny_IfExp (wpAny_isTrue_Compare1 ?_)))
        refine nm c8 f4 ?_ rfl rfl
        refine nmG T8 c8 rfl ?_ rfl rfl rfl
        cases isW with
        | true =>
          refine P.eq_str (wpAny_truthy_bool ?_)
          refine Attribute_name (nm c8 f1 ?_ rfl rfl)
          refine pl_writes T8 c8 hplI8 fun s9 c9 => ?_
          refine st c9 (fun s10 c10 => ?_) rfl rfl
          refine wpAny_execs_cons (wpAny_Assign_Subscript ?_)
          refine Call_Name rfl (nmG T8 c10 rfl ?_ rfl rfl rfl)
          refine cwK (K := KK w.params) rfl (spliced_more (mcall (nm c10 f2 (w_m T8 c10 W8 rfl rfl (by intros; rfl) ?_) rfl rfl)))
          refine cwK (K := KK w.params) rfl (spliced_more (nm c10 f3 (spliced_none ⟨T8.inn c10.imm, ?_⟩) rfl rfl))
          refine Cx.callP (M1 := []) (Mc := [(cd, o6)]) (M2 := (pd, po2) :: (rl, seqObj "list" rs6.toArray n6) :: (rd, ro8) :: Mp (a8 ++ pl8 :: b8)) c10 (clock_ok (d := d + 1) R1 T8 c10.imm W8 (c10.own (List.Sublist.cons_cons _ (List.nil_sublist _))) hvk8 (by simp [vks]) hg) ?_
          rintro v12 I12 s12 Ms N c12 sub12 ⟨o12, rfl, rfl, hk12, hv12⟩
          rw [vks_clocked hg] at hk12
          rw [vks_clk0 hg] at hv12
          have T12 := T8.sub sub12
          refine spliced_more (nm c12 f3 (spliced_none ⟨T12.inn c12.imm, ?_⟩) rfl rfl)
          refine c12.call0 (P := fun _ x => ∃ t, x = .int (cnt (clk (V g)) g) t) (count_ok (d := d) (R1.le (by omega)) T12 c12.imm hv12) ?_
          rintro v13 I13 s13 c13 sub13 ⟨t13, rfl⟩
          rw [clk_cnt hg]
          have sub813 := sub12.trans sub13
          have hM13 : (([] : List (Addr × Obj)) ++ ([] ++ ([(cd, o12)] ++ (pd, po2) :: (rl, seqObj "list" rs6.toArray n6) :: (rd, ro8) :: Mp (a8 ++ pl8 :: b8)))) = ((cd, o12) :: (pd, po2) :: (rl, seqObj "list" rs6.toArray n6) :: (rd, ro8) :: (Mp a8 ++ [(pl8.ra, pl8.ro)])) ++ (pl8.wa, pl8.wo) :: (Mp b8) := by
            rw [Mp_append, Mp]; simp
          have c14 := c13.perm (List.Perm.of_eq hM13)
          refine nm c14 rfl (nm c14 f3 ?_ rfl rfl) rfl rfl
          refine dk_set c14 (hplOk8.w.dk.sub sub813) (by have := hplOk8.w.len; omega) (a := (V g g : Int)) ⟨t13, rfl⟩ fun s15 o15 hd15 c15 => ?_
          have hc15 : CtOk prog w I13 o15 (put pl8.wc g (V g g)) := ⟨hd15, fun p hp => by
            have hk' : p.1 ∈ (put pl8.wc g (V g g : Int)).map (·.1) := List.mem_map.mpr ⟨p, hp, rfl⟩
            rw [put_keys] at hk'
            have : p.1 ∈ pl8.wc.map (·.1) ∨ p.1 = g := by
              split at hk'
              · exact .inl hk'
              · rcases List.mem_append.mp hk' with q | q
                · exact .inl q
                · exact .inr (List.mem_singleton.mp q)
            rcases this with q | q
            · obtain ⟨y, hy, e⟩ := List.mem_map.mp q
              rw [← e]; exact hplOk8.w.inn y hy
            · rw [q]; exact hg, put_nodup hplOk8.w.nd⟩
          have sub814 := sub813
          have hM15 : ((cd, o12) :: (pd, po2) :: (rl, seqObj "list" rs6.toArray n6) :: (rd, ro8) :: (Mp a8 ++ [(pl8.ra, pl8.ro)])) ++ (pl8.wa, o15) :: (Mp b8) = (cd, o12) :: (pd, po2) :: (rl, seqObj "list" rs6.toArray n6) :: (rd, ro8) :: Mp (a8 ++ (⟨pl8.path, pl8.ra, pl8.wa, pl8.ro, o15, pl8.rc, put pl8.wc g (V g g)⟩ : Pl) :: b8) := by
            rw [Mp_append, Mp]; simp
          refine wpAny_execs_nil (fin I13 s15 _ o12 ⟨pl8.path, pl8.ra, pl8.wa, pl8.ro, o15, pl8.rc, put pl8.wc g (V g g)⟩ sub813 rfl rfl rfl ⟨hplOk8.r.sub sub814, hc15, hplOk8.ra, hplOk8.wa⟩ (hk12.sub sub13) (fun b q => ?_) (c15.perm (List.Perm.of_eq hM15)))
          cases b with
          | true =>
            simp only [if_true, true_and]
            exact look_put
          | false =>
            rw [if_neg (show ¬ (false = true ∧ q = g) from fun h => (by cases h.1))]; rfl
        | false =>
          refine P.eq_str (wpAny_truthy_bool ?_)
          refine Attribute_name (nm c8 f1 ?_ rfl rfl)
          refine pl_reads T8 c8 hplI8 fun s9 c9 => ?_
          refine st c9 (fun s10 c10 => ?_) rfl rfl
          refine wpAny_execs_cons (wpAny_Assign_Subscript ?_)
          refine Call_Name rfl (nmG T8 c10 rfl ?_ rfl rfl rfl)
          refine cwK (K := KK w.params) rfl (spliced_more (mcall (nm c10 f2 (w_m T8 c10 W8 rfl rfl (by intros; rfl) ?_) rfl rfl)))
          refine cwK (K := KK w.params) rfl (spliced_more (nm c10 f3 (spliced_none ⟨T8.inn c10.imm, ?_⟩) rfl rfl))
          refine Cx.callP (M1 := []) (Mc := [(cd, o6)]) (M2 := (pd, po2) :: (rl, seqObj "list" rs6.toArray n6) :: (rd, ro8) :: Mp (a8 ++ pl8 :: b8)) c10 (clock_ok (d := d + 1) R1 T8 c10.imm W8 (c10.own (List.Sublist.cons_cons _ (List.nil_sublist _))) hvk8 (by simp [vks]) hg) ?_
          rintro v12 I12 s12 Ms N c12 sub12 ⟨o12, rfl, rfl, hk12, hv12⟩
          rw [vks_clocked hg] at hk12
          rw [vks_clk0 hg] at hv12
          have T12 := T8.sub sub12
          refine spliced_more (nm c12 f3 (spliced_none ⟨T12.inn c12.imm, ?_⟩) rfl rfl)
          refine c12.call0 (P := fun _ x => ∃ t, x = .int (cnt (clk (V g)) g) t) (count_ok (d := d) (R1.le (by omega)) T12 c12.imm hv12) ?_
          rintro v13 I13 s13 c13 sub13 ⟨t13, rfl⟩
          rw [clk_cnt hg]
          have sub813 := sub12.trans sub13
          have hM13 : (([] : List (Addr × Obj)) ++ ([] ++ ([(cd, o12)] ++ (pd, po2) :: (rl, seqObj "list" rs6.toArray n6) :: (rd, ro8) :: Mp (a8 ++ pl8 :: b8)))) = ((cd, o12) :: (pd, po2) :: (rl, seqObj "list" rs6.toArray n6) :: (rd, ro8) :: Mp a8) ++ (pl8.ra, pl8.ro) :: ((pl8.wa, pl8.wo) :: Mp b8) := by
            rw [Mp_append, Mp]; simp
          have c14 := c13.perm (List.Perm.of_eq hM13)
          refine nm c14 rfl (nm c14 f3 ?_ rfl rfl) rfl rfl
          refine dk_set c14 (hplOk8.r.dk.sub sub813) (by have := hplOk8.r.len; omega) (a := (V g g : Int)) ⟨t13, rfl⟩ fun s15 o15 hd15 c15 => ?_
          have hc15 : CtOk prog w I13 o15 (put pl8.rc g (V g g)) := ⟨hd15, fun p hp => by
            have hk' : p.1 ∈ (put pl8.rc g (V g g : Int)).map (·.1) := List.mem_map.mpr ⟨p, hp, rfl⟩
            rw [put_keys] at hk'
            have : p.1 ∈ pl8.rc.map (·.1) ∨ p.1 = g := by
              split at hk'
              · exact .inl hk'
              · rcases List.mem_append.mp hk' with q | q
                · exact .inl q
                · exact .inr (List.mem_singleton.mp q)
            rcases this with q | q
            · obtain ⟨y, hy, e⟩ := List.mem_map.mp q
              rw [← e]; exact hplOk8.r.inn y hy
            · rw [q]; exact hg, put_nodup hplOk8.r.nd⟩
          have sub814 := sub813
          have hM15 : ((cd, o12) :: (pd, po2) :: (rl, seqObj "list" rs6.toArray n6) :: (rd, ro8) :: Mp a8) ++ (pl8.ra, o15) :: ((pl8.wa, pl8.wo) :: Mp b8) = (cd, o12) :: (pd, po2) :: (rl, seqObj "list" rs6.toArray n6) :: (rd, ro8) :: Mp (a8 ++ (⟨pl8.path, pl8.ra, pl8.wa, o15, pl8.wo, put pl8.rc g (V g g), pl8.wc⟩ : Pl) :: b8) := by
            rw [Mp_append, Mp]; simp
          refine wpAny_execs_nil (fin I13 s15 _ o12 ⟨pl8.path, pl8.ra, pl8.wa, o15, pl8.wo, put pl8.rc g (V g g), pl8.wc⟩ sub813 rfl rfl rfl ⟨hc15, hplOk8.w.sub sub814, hplOk8.ra, hplOk8.wa⟩ (hk12.sub sub13) (fun b q => ?_) (c15.perm (List.Perm.of_eq hM15)))
          cases b with
          | false =>
            simp only [Bool.false_eq_true, if_false, true_and]
            exact look_put
          | true =>
            rw [if_neg (show ¬ (true = false ∧ q = g) from fun h => (by cases h.1))]; rfl
end
end Mine

set_option maxHeartbeats 400000
namespace Mine

/-! # names in any frame -/
section
variable {prog : Program} {w : World} {A : Around} {s : Shared} {mb : Nm} {S₀ : Shared} {I₀ I : Imm} {X : List Addr} {m : Nm} {M M1 M2 : List (Addr × Obj)} {env : Env}
theorem en {x : Str} {pos : Pos} {v : Value} {Q : Value → Shared → Prop} (c : Cx S₀ I₀ X I env.locals m M s) (hv : m x = some v) (h : Q v s)
    (hk : env.scope.kind = .function) (hl : env.kindOf x = some .local) (hd : autoParam ((x == ("__debug__" : Str)) = false) tacDec) :
    wpAny (model prog w) A (eval (.Name x pos) env) Q noE s := wpAny_Name (wpAny_loadName_local hk hl c.ns hv h) hd
theorem enG {K : Frag} {x : Str} {pos : Pos} {v : Value} {Q : Value → Shared → Prop} (T : Tp K mb I) (c : Cx S₀ I₀ X I env.locals m M s) (e : nsIn K mainGlobals x = some (some v)) (h : Q v s)
    (hk : env.scope.kind = .function) (hg : env.globals = mainGlobals) (hx : env.kindOf x = some .globalImplicit) (hd : autoParam ((x == ("__debug__" : Str)) = false) tacDec) :
    wpAny (model prog w) A (eval (.Name x pos) env) Q noE s := by
  obtain ⟨ob, mg, a, b⟩ := T.g
  have hn := b s.heap (c.imm _ _ a)
  exact Name_function_global hk hx (loadGlobal_global (by rw [hg]; exact hn) (mg_of (T.inn c.imm) hn e) h) hd
theorem enB {K : Frag} {x : Str} {pos : Pos} {v : Value} {Q : Value → Shared → Prop} (T : Tp K mb I) (c : Cx S₀ I₀ X I env.locals m M s) (e : nsIn K mainGlobals x = some none) (hv : bootBuiltins x = some v) (hn : x ≠ "__name__") (h : Q v s)
    (hk : env.scope.kind = .function) (hg : env.globals = mainGlobals) (hb : env.builtins = builtinsNs) (hx : env.kindOf x = some .globalImplicit) (hd : autoParam ((x == ("__debug__" : Str)) = false) tacDec) :
    wpAny (model prog w) A (eval (.Name x pos) env) Q noE s := by
  obtain ⟨ob, mg, a, b⟩ := T.g
  obtain ⟨ob', a', b'⟩ := T.b
  have hg' := b s.heap (c.imm _ _ a)
  have hb' := b' s.heap (c.imm _ _ a')
  exact Name_function_global hk hx (loadGlobal_builtin (by rw [hg]; exact hg') (mg_none_of (T.inn c.imm) hg' e) (by rw [hb]; exact hb') ((T.bi x hn).trans hv) h) hd
theorem es {x : Str} {v : Value} {Q : Unit → Shared → Prop} (c : Cx S₀ I₀ X I env.locals m M s) (h : ∀ s', Cx S₀ I₀ X I env.locals (upd m x v) M s' → Q () s')
    (hk : env.scope.kind = .function) (hl : env.kindOf x = some .local) :
    wpAny (model prog w) A (storeName env x v) Q noE s :=
  wpAny_storeName_local hl c.ns (fun h' hn hs => h _ (c.set hn hs)) (by rw [hk]; rfl)
theorem enC {x : Str} {pos : Pos} {ca : Addr} {oc : Obj} {v : Value} {Q : Value → Shared → Prop} (c : Cx S₀ I₀ X I env.locals m M s) (hm : (ca, oc) ∈ M) (ho : oc.data = .cell (some v)) (h : Q v s)
    (hk : env.scope.kind = .function) (hl : env.kindOf x = some .cell) (hc : env.cells.lookup x = some ca) (hd : autoParam ((x == ("__debug__" : Str)) = false) tacDec) :
    wpAny (model prog w) A (eval (.Name x pos) env) Q noE s := wpAny_Name (wpAny_loadName_cell hk hl hc ⟨_, c.mt _ hm, ho⟩ h) hd
theorem esC {x : Str} {ca : Addr} {oc : Obj} {v0 : Option Value} {v : Value} {Q : Unit → Shared → Prop} (c : Cx S₀ I₀ X I env.locals m (M1 ++ (ca, oc) :: M2) s) (ho : oc.data = .cell v0) (h : ∀ s' oc', oc'.data = .cell (some v) → Cx S₀ I₀ X I env.locals m (M1 ++ (ca, oc') :: M2) s' → Q () s')
    (hk : env.scope.kind = .function) (hl : env.kindOf x = some .cell) (hc : env.cells.lookup x = some ca) : wpAny (model prog w) A (storeName env x v) Q noE s := by
  refine wpAny_storeName_cell hk hl hc ⟨_, c.mt (ca, oc) (List.mem_append_right _ (.head _)), ho⟩ fun h' hc' hs' => ?_
  obtain ⟨oc', e, hd⟩ := hc'
  exact h _ oc' hd (c.turn (tk := s.toks) (fun b ob hb x => (hs'.2 b hb).trans x) e)
theorem esgSw2 {x y : Str} {px py tp p pos : Pos} {k k' : Nat} {e1 e2 : Expr} {Q : Flow → Shared → Prop} (cU : Cx S₀ I₀ X I env.locals m M s) (hh : A.handled = none)
    (h : wpAny (model prog w) A (spliced (backTo p (starEach [e1, e2] env))) (fun vs s1 => Ex4 fun u v I1 M1 => vs = [u, v] ∧ Cx S₀ I₀ X I1 env.locals m M1 s1 ∧ ∀ I' s', Cx S₀ I₀ X I' env.locals (upd (upd m y v) x u) M1 s' → Sub I1 I' → Q .next s') noE s)
    (hk : env.scope.kind = .function) (hx : env.kindOf x = some .local) (hy : env.kindOf y = some .local)
    (hs : autoParam (swapsWithSole [.Tuple [.Name x px, .Name y py] k tp] (.Tuple [e1, e2] k' p) pos.line env = pure false) tacRfl)
    (hw : autoParam (swappedStores [.Tuple [.Name x px, .Name y py] k tp] (.Tuple [e1, e2] k' p) env = pure (some [x, y])) tacRfl) :
    wpAny (model prog w) A (exec (.Assign [.Tuple [.Name x px, .Name y py] k tp] (.Tuple [e1, e2] k' p) pos) env) Q noE s := by
  refine Assign_Tuple_swapped (names := [x, y]) (tupE cU (wpAny_mono h (fun vs s1 h1 => ?_) fun _ _ e => e)) hs hw
  obtain ⟨u, v, I1, M1, rfl, c, h⟩ := h1
  refine ⟨I1, M1, c, by simp, fun t I2 s2 c2 sub2 ht => ?_⟩
  refine unpackItems_tuple (items := #[u, v]) hh (ht.at c2.imm) fun h' he => ?_
  have c3 : Cx S₀ I₀ X I2 env.locals m M1 { s2 with heap := h' } := c2.kept (tk := s2.toks) fun a o e => he a o (Nat.ne_of_lt (Heap.lt_size e)) e
  refine assignInOrder_cons (bindName_ (es c3 (fun s4 c4 => ?_) hk hy))
  refine assignInOrder_cons (bindName_ (es c4 (fun s5 c5 => ?_) hk hx))
  exact assignInOrder_nil (h I2 s5 c5 sub2)
theorem esg2 {x y : Str} {px py p : Pos} {k : Nat} {t : Addr} {u v : Value} {Q : Unit → Shared → Prop} (c : Cx S₀ I₀ X I env.locals m M s) (hh : A.handled = none) (ht : IsTup s.heap t #[u, v])
    (h : ∀ s', Cx S₀ I₀ X I env.locals (upd (upd m x u) y v) M s' → Q () s') (hk : env.scope.kind = .function) (hx : env.kindOf x = some .local) (hy : env.kindOf y = some .local) :
    wpAny (model prog w) A (assign (.Tuple [.Name x px, .Name y py] k p) env (.ref t)) Q noE s := by
  refine assign_Tuple_tuple hh ht rfl rfl fun h' he => ?_
  have c1 : Cx S₀ I₀ X I env.locals m M { s with heap := h' } := c.kept (tk := s.toks) fun a o e => he a o (Nat.ne_of_lt (Heap.lt_size e)) e
  refine assignInOrder_cons (wpAny_assign_Name (es c1 (fun s1 c2 => ?_) hk hx))
  exact assignInOrder_cons (wpAny_assign_Name (es c2 (fun s2 c3 => assignInOrder_nil (h s2 c3)) hk hy))
theorem esg4 {x y z q : Str} {px py pz pq p : Pos} {k : Nat} {t : Addr} {u v r o : Value} {Q : Unit → Shared → Prop} (c : Cx S₀ I₀ X I env.locals m M s) (hh : A.handled = none) (ht : IsTup s.heap t #[u, v, r, o])
    (h : ∀ s', Cx S₀ I₀ X I env.locals (upd (upd (upd (upd m x u) y v) z r) q o) M s' → Q () s') (hk : env.scope.kind = .function) (hx : env.kindOf x = some .local) (hy : env.kindOf y = some .local) (hz : env.kindOf z = some .local) (hq : env.kindOf q = some .local) :
    wpAny (model prog w) A (assign (.Tuple [.Name x px, .Name y py, .Name z pz, .Name q pq] k p) env (.ref t)) Q noE s := by
  refine assign_Tuple_tuple hh ht rfl rfl fun h' he => ?_
  have c1 : Cx S₀ I₀ X I env.locals m M { s with heap := h' } := c.kept (tk := s.toks) fun a o e => he a o (Nat.ne_of_lt (Heap.lt_size e)) e
  refine assignInOrder_cons (wpAny_assign_Name (es c1 (fun s1 c2 => ?_) hk hx))
  refine assignInOrder_cons (wpAny_assign_Name (es c2 (fun s2 c3 => ?_) hk hy))
  refine assignInOrder_cons (wpAny_assign_Name (es c3 (fun s3 c4 => ?_) hk hz))
  exact assignInOrder_cons (wpAny_assign_Name (es c4 (fun s4 c5 => assignInOrder_nil (h s4 c5)) hk hq))
end

/-! # a def with cells -/
noncomputable def CellsAre (cm : Nm) : List (Str × Addr) → List (Addr × Obj) → Prop
  | [], [] => True
  | (n, c) :: cs, (a, o) :: Mc => a = c ∧ o.data = .cell (cm n) ∧ CellsAre cm cs Mc
  | _, _ => False
theorem cellsFrom_names : ∀ (names : List (Str × NameKind)) (n : Nat) (acc : List (Str × Addr)), (cellsFrom n names acc).map (·.1) = ((names.filter fun x => x.2 == .cell).map (·.1)).reverse ++ acc.map (·.1)
  | [], n, acc => by simp [cellsFrom]
  | (name, kind) :: r, n, acc => by
    unfold cellsFrom
    by_cases h : (kind == .cell) = true
    · rw [if_pos h, cellsFrom_names r, List.filter_cons, if_pos h]; simp
    · rw [if_neg h, cellsFrom_names r, List.filter_cons, if_neg h]
noncomputable def ndStr : List Str → Bool
  | [] => true
  | a :: l => !l.any (fun b => b == a) && ndStr l
theorem ndStr_ok : ∀ {l : List Str}, ndStr l = true → l.Nodup
  | [], _ => .nil
  | a :: l, h => by
    rw [ndStr, Bool.and_eq_true] at h
    rw [List.nodup_cons]
    refine ⟨fun ha => ?_, ndStr_ok h.2⟩
    have : l.any (fun b => b == a) = true := List.any_eq_true.mpr ⟨a, ha, beq_self_eq_true _⟩
    rw [this] at h; cases h.1
section
variable {prog : Program} {w : World} {A : Around} {s : Shared} {K : Frag} {mb : Nm} {I : Imm}
theorem call_defC {fd : FuncData} {body : List Stmt} {f : Addr} {oc : Value} {od : Option Addr} {osl : Array (Option Value)} {args : List Value} {binds : List (Str × Value)} {d : Nat} {X : List Addr} {M : List (Addr × Obj)}
    {Q : Value → Shared → Prop} (R : Room A (d + 1)) (T : Tp K mb I) (hI : ∀ a o, I a = some o → s.heap.get? a = some o)
    (hM : ∀ p ∈ M, s.heap.get? p.1 = some p.2 ∧ I p.1 = none ∧ p.1 ∈ X) (hnd : (M.map (·.1)).Nodup)
    (ho : K.lookup f = some ⟨oc, od, .func fd, osl⟩) (hcd : codeIn K fd.code fd.qualname = true) (hbody : fd.body = .stmts body)
    (hbind : bindArgs fd ⟨args, []⟩ = pure binds) (hclo : fd.closure = []) (hnd2 : ndStr ((fd.scope.names.filter fun x => x.2 == .cell).map (·.1)) = true)
    (hloc : binds.all (fun x => fd.scope.names.lookup x.1 == some .local || (fd.scope.names.lookup x.1 == some .cell && ((fd.scope.names.filter fun x => x.2 == .cell).map (·.1)).any (fun y => y == x.1))) = true)
    (h : ∀ (L : Addr) (s' : Shared) (Mc : List (Addr × Obj)), s.heap.get? L = none → CellsAre (bindC (callEnvC fd L f).kindOf binds fun _ => none) (cellsFrom (L + 1) fd.scope.names []) Mc →
      Cx s I X I L (bindL (callEnvC fd L f).kindOf binds fun _ => none) (Mc ++ M) s' → Room (A.deeper (callEnvC fd L f)) d →
      wpAny (model prog w) (A.deeper (callEnvC fd L f)) (execs body (callEnvC fd L f)) (fun fl s' => Q (match fl with | .ret v => v | _ => .none) s') noE s')
    (hco : fd.scope.isCoroutine = false) (hgen : fd.scope.isGenerator = false) (hk : fd.scope.kind = .function) :
    wpAny (model prog w) A (call (.ref f) args) Q noE s := by
  have hnames := ndStr_ok hnd2
  have hcsn : ∀ n, ((cellsFrom n fd.scope.names []).map (·.1)).Nodup := fun n => by
    rw [cellsFrom_names, List.map_nil, List.append_nil]; exact (List.reverse_perm _).nodup_iff.mpr hnames
  refine wpAny_call (codeAny_call_cells R.depth (hI _ _ (T.k _ _ ho)) rfl (T.lim hI) (codeRec_of (T.inn hI) hcd) hbody hbind hclo ?_ (fun s₁ x => ?_) hco hgen hk)
  · intro x hx
    have := List.all_eq_true.mp hloc x hx
    rw [Bool.or_eq_true, Bool.and_eq_true] at this
    rcases this with q | ⟨q, q2⟩
    · exact .inl (eq_of_beq q)
    · refine .inr ⟨eq_of_beq q, ?_⟩
      obtain ⟨y, hy, e⟩ := List.any_eq_true.mp q2
      rw [eq_of_beq e] at hy
      have : x.1 ∈ (cellsFrom (s.heap.objs.size + 1) fd.scope.names []).map (·.1) := by
        rw [cellsFrom_names, List.map_nil, List.append_nil]; exact List.mem_reverse.mpr hy
      obtain ⟨p, hp, e⟩ := List.mem_map.mp this
      rw [← e, lookup_of_mem_nodup (n := p.1) (c := p.2) (hcsn _) hp]; rfl
  · have hL : s.heap.get? s.heap.objs.size = none := size_none _
    obtain ⟨⟨⟨h₁, tk, rfl⟩, hns, hk₁, hfr⟩, hcell, hap, habv⟩ := x
    have mk : ∀ (cs : List (Str × Addr)), (∀ p ∈ cs, h₁.IsCell p.2 (bindC (callEnvC fd s.heap.objs.size f).kindOf binds (fun _ => none) p.1) ∧ s.heap.objs.size < p.2) → (cs.Pairwise fun x y => x.2 ≠ y.2) →
        ∃ Mc, CellsAre (bindC (callEnvC fd s.heap.objs.size f).kindOf binds fun _ => none) cs Mc ∧ (∀ p ∈ Mc, h₁.get? p.1 = some p.2 ∧ s.heap.objs.size < p.1) ∧ (Mc.map (·.1)).Nodup ∧ Mc.map (·.1) = cs.map (·.2) := by
      intro cs
      induction cs with
      | nil => intro _ _; exact ⟨[], trivial, fun _ h => (nomatch h), .nil, rfl⟩
      | cons p cs ih =>
        intro h1 h2
        obtain ⟨⟨o, e1, e2⟩, e3⟩ := h1 p (.head _)
        obtain ⟨h21, h22⟩ := List.pairwise_cons.mp h2
        obtain ⟨Mc, a1, a2, a3, a4⟩ := ih (fun q hq => h1 q (.tail _ hq)) h22
        refine ⟨(p.2, o) :: Mc, ⟨rfl, e2, a1⟩, fun q hq => ?_, ?_, by rw [List.map_cons, List.map_cons, a4]⟩
        · rcases List.mem_cons.mp hq with rfl | hq
          · exact ⟨e1, e3⟩
          · exact a2 q hq
        · rw [List.map_cons, List.nodup_cons, a4]
          refine ⟨fun z => ?_, by rw [← a4]; exact a3⟩
          obtain ⟨q, hq, e⟩ := List.mem_map.mp z
          exact h21 q hq e.symm
    obtain ⟨Mc, b1, b2, b3, b4⟩ := mk _ (fun p hp => ⟨hcell p.1 p.2 (lookup_of_mem_nodup (hcsn _) hp), habv p.1 p.2 hp⟩) hap
    have hnew : ∀ p ∈ Mc, s.heap.get? p.1 = none := fun p hp => not_some fun o q => absurd (Heap.lt_size q) (Nat.not_lt.mpr (Nat.le_of_lt (b2 p hp).2))
    have hInone : ∀ a, s.heap.get? a = none → I a = none := fun a ha => by
      cases q : I a with
      | none => rfl
      | some x => have := hI _ _ q; rw [ha] at this; cases this
    have c : Cx s I X I s.heap.objs.size (bindL (callEnvC fd s.heap.objs.size f).kindOf binds fun _ => none) (Mc ++ M) { s with heap := h₁, toks := tk } := by
      refine ⟨⟨⟨_, _, rfl⟩, fun a o e => ⟨o, hk₁ _ _ e⟩, fun a o e _ => hk₁ _ _ e, Sub.refl _, fun a o e => hk₁ _ _ (hI _ _ e), fun _ _ e => .inl e⟩, hns, hInone _ hL, ?_, ?_, ?_, ?_, ?_⟩
      · intro p hp
        rcases List.mem_append.mp hp with q | q
        · exact (b2 p q).1
        · exact hk₁ _ _ (hM p q).1
      · intro p hp
        rcases List.mem_append.mp hp with q | q
        · exact hInone _ (hnew p q)
        · exact (hM p q).2.1
      · intro p hp
        rcases List.mem_append.mp hp with q | q
        · exact Nat.ne_of_gt (b2 p q).2
        · exact Nat.ne_of_lt (Heap.lt_size (hM p q).1)
      · intro p hp
        rcases List.mem_append.mp hp with q | q
        · exact .inr (hnew p q)
        · exact .inl (hM p q).2.2
      · rw [List.map_append, List.nodup_append]
        refine ⟨b3, hnd, ?_⟩
        intro a ha b hb e
        obtain ⟨p, hp, rfl⟩ := List.mem_map.mp ha
        obtain ⟨q, hq, rfl⟩ := List.mem_map.mp hb
        have := (hM q hq).1
        rw [← e, hnew p hp] at this; cases this
    refine wpAny_mono (h _ _ Mc hL b1 c (R.deeper _)) (fun fl s' q => ?_) fun _ _ e => e.elim
    cases fl <;> exact q
/-- the same, its contract opened: X and Q are names from here on -/
theorem call_defCPQ {fd : FuncData} {body : List Stmt} {f : Addr} {oc : Value} {od : Option Addr} {osl : Array (Option Value)} {args : List Value} {binds : List (Str × Value)} {d : Nat} {M : List (Addr × Obj)} {P : Imm → List (Addr × Obj) → Value → Prop}
    (R : Room A (d + 1)) (T : Tp K mb I) (hI : ∀ a o, I a = some o → s.heap.get? a = some o) (hO : Own s I M)
    (ho : K.lookup f = some ⟨oc, od, .func fd, osl⟩) (hcd : codeIn K fd.code fd.qualname = true) (hbody : fd.body = .stmts body)
    (hbind : bindArgs fd ⟨args, []⟩ = pure binds) (hclo : fd.closure = []) (hnd2 : ndStr ((fd.scope.names.filter fun x => x.2 == .cell).map (·.1)) = true)
    (hloc : binds.all (fun x => fd.scope.names.lookup x.1 == some .local || (fd.scope.names.lookup x.1 == some .cell && ((fd.scope.names.filter fun x => x.2 == .cell).map (·.1)).any (fun y => y == x.1))) = true)
    (h : ∀ (X : List Addr) (Q : Value → Shared → Prop) (L : Addr) (s' : Shared) (Mc : List (Addr × Obj)), (∀ {m I' Ma v s'}, Cx s I X I' L m Ma s' → (∀ y ∈ M.map (·.1), y ∈ Ma.map (·.1)) → P I' Ma v → Q v s') → s.heap.get? L = none →
      CellsAre (bindC (callEnvC fd L f).kindOf binds fun _ => none) (cellsFrom (L + 1) fd.scope.names []) Mc →
      Cx s I X I L (bindL (callEnvC fd L f).kindOf binds fun _ => none) (Mc ++ M) s' → Room (A.deeper (callEnvC fd L f)) d →
      wpAny (model prog w) (A.deeper (callEnvC fd L f)) (execs body (callEnvC fd L f)) (fun fl s' => Q (match fl with | .ret v => v | _ => .none) s') noE s')
    (hco : fd.scope.isCoroutine = false) (hgen : fd.scope.isGenerator = false) (hk : fd.scope.kind = .function) :
    wpAny (model prog w) A (call (.ref f) args) (PostQ s I (M.map (·.1)) P) noE s :=
  call_defC R T hI hO.entry hO.nd ho hcd hbody hbind hclo hnd2 hloc (fun L s' Mc hL hMc c R' => h _ _ L s' Mc (fun c' hY p => c'.postQ hL hO.nd hY p) hL hMc c R') hco hgen hk
theorem call_defCP {fd : FuncData} {body : List Stmt} {f : Addr} {oc : Value} {od : Option Addr} {osl : Array (Option Value)} {args : List Value} {binds : List (Str × Value)} {d : Nat} {M : List (Addr × Obj)} {P : Imm → List (Addr × Obj) → List (Addr × Obj) → Value → Prop}
    (R : Room A (d + 1)) (T : Tp K mb I) (hI : ∀ a o, I a = some o → s.heap.get? a = some o) (hO : Own s I M)
    (ho : K.lookup f = some ⟨oc, od, .func fd, osl⟩) (hcd : codeIn K fd.code fd.qualname = true) (hbody : fd.body = .stmts body)
    (hbind : bindArgs fd ⟨args, []⟩ = pure binds) (hclo : fd.closure = []) (hnd2 : ndStr ((fd.scope.names.filter fun x => x.2 == .cell).map (·.1)) = true)
    (hloc : binds.all (fun x => fd.scope.names.lookup x.1 == some .local || (fd.scope.names.lookup x.1 == some .cell && ((fd.scope.names.filter fun x => x.2 == .cell).map (·.1)).any (fun y => y == x.1))) = true)
    (h : ∀ (X : List Addr) (Q : Value → Shared → Prop) (L : Addr) (s' : Shared) (Mc : List (Addr × Obj)), (∀ {m I' Ms v s'}, Cx s I X I' L m Ms s' → Ms.map (·.1) = M.map (·.1) → P I' Ms [] v → Q v s') → s.heap.get? L = none →
      CellsAre (bindC (callEnvC fd L f).kindOf binds fun _ => none) (cellsFrom (L + 1) fd.scope.names []) Mc →
      Cx s I X I L (bindL (callEnvC fd L f).kindOf binds fun _ => none) (Mc ++ M) s' → Room (A.deeper (callEnvC fd L f)) d →
      wpAny (model prog w) (A.deeper (callEnvC fd L f)) (execs body (callEnvC fd L f)) (fun fl s' => Q (match fl with | .ret v => v | _ => .none) s') noE s')
    (hco : fd.scope.isCoroutine = false) (hgen : fd.scope.isGenerator = false) (hk : fd.scope.kind = .function) :
    wpAny (model prog w) A (call (.ref f) args) (Post s I (M.map (·.1)) P) noE s :=
  call_defC R T hI hO.entry hO.nd ho hcd hbody hbind hclo hnd2 hloc (fun L s' Mc hL hMc c R' => h _ _ L s' Mc (fun c' e p => c'.post hL e p) hL hMc c R') hco hgen hk
end
end Mine

set_option maxHeartbeats 400000
namespace Mine
/-! # a comprehension that picks out of a list -/
section
variable {prog : Program} {w : World} {A : Around} {s : Shared} {S₀ : Shared} {I₀ I : Imm} {X : List Addr} {m : Nm} {M : List (Addr × Obj)} {env : Env}
noncomputable def pv {α : Type} (k : Kd α) (I : Imm) (p : α → Bool) (v : Value) : Bool := inB (∃ a, k.is I a v ∧ p a = true)
theorem pv_of {α : Type} [DecidableEq α] (k : Ko α) {I : Imm} {p : α → Bool} {a : α} {v : Value} (h : k.is I a v) : pv k.toKd I p v = p a := by
  unfold pv
  cases q : p a with
  | true => exact inB_t ⟨a, h, q⟩
  | false => exact inB_f fun ⟨b, h1, h2⟩ => by rw [k.inj h1 h, q] at h2; cases h2
theorem Are.filt {α : Type} [DecidableEq α] (k : Ko α) {I : Imm} {p : α → Bool} : ∀ {l : List α} {vs : List Value}, Are k.toKd I l vs → Are k.toKd I (l.filter p) (vs.filter (pv k.toKd I p))
  | [], [], _ => trivial
  | a :: l, v :: vs, ⟨h, t⟩ => by
    rw [List.filter_cons, List.filter_cons, pv_of k h]
    split
    · exact ⟨h, Are.filt k t⟩
    · exact Are.filt k t
theorem paired_eq : ∀ {l r : List Value}, Paired (fun v y => y = v) l r → r = l := by
  intro l r h
  induction h with
  | nil => rfl
  | cons h _ ih => rw [h, ih]

theorem comp_pick {α : Type} [DecidableEq α] (k : Ko α) {x : Str} {px px' : Pos} {iter test : Expr} {scope : Scope} {cl : List (Str × Addr)} {pos : Pos} {Q : Value → Shared → Prop} (p : α → Bool) (c0 : Cx S₀ I₀ X I env.locals m M s) (hh : A.handled = none)
    (hclos : closureFor scope env = pure cl) (hcell : scope.names.all (fun y => y.2 != .cell) = true) (hkind : scope.kind = .function)
    (hnames : scope.names.all (fun y => y.2 != .local || scope.names.lookup y.1 == some .local) = true) (hx : scope.names.lookup x = some .local) (hd : (x == ("__debug__" : Str)) = false)
    (h : wpAny (model prog w) A (eval iter env) (fun v s1 => Ex3 fun t l vs => An7 (v = .ref t) (Cx S₀ I₀ X I env.locals m M s1) (s1.heap.IsList t (vs : List Value).toArray) (Are k.toKd I l vs) (vs.length ≤ 1000) (∀ (C : Addr) (s3 : Shared) (m3 : Nm) (a : α) (v : Value), k.is I a v → s3.heap.Ns C m3 → m3 x = some v → InH I s3.heap → (∀ q ∈ M, s3.heap.get? q.1 = some q.2) →
        wpAny (model prog w) A (isTrue test (compEnvC scope cl C env) (eval test (compEnvC scope cl C env))) (fun ok s4 => ok = p a ∧ ∃ tk, s4 = { s3 with toks := tk }) noE s3) (∀ D I' s' out, Cx S₀ I₀ X I' env.locals m M s' → Sub I I' → LstI I' D out → Are k.toKd I' (l.filter p) out → Q (.ref D) s')) noE s)
    (hs : autoParam (∀ z, foldedSetIterable iter env z = pure z) tacIR) :
    wpAny (model prog w) A (eval (.ListComp (.Name x px') [⟨.Name x px, iter, [test], 0⟩] scope pos) env) Q noE s := by
  have hnames' : ∀ y ∈ scope.names, y.2 = .local → scope.names.lookup y.1 = some .local := fun y hy e => by
    have := List.all_eq_true.mp hnames y hy
    rw [e, Bool.or_eq_true] at this
    rcases this with h | h
    · cases h
    · exact eq_of_beq h
  have hcell' : ∀ y ∈ scope.names, y.2 ≠ .cell := fun y hy e => by
    have := List.all_eq_true.mp hcell y hy
    rw [e] at this; cases this
  refine wpAny_ListComp_free (pv k.toKd I p) (fun v y => y = v) hclos hcell' hkind hnames' hx (wpAny_mono h (fun v s1 h1 => ?_) fun _ _ e => e) hs
  obtain ⟨t, l, vs, rfl, c1, ht, hl, hz, htest, hQ⟩ := h1
  refine wpAny_pyIter_list ht ?_
  have c2 := c1.push { cls := .type "list_iterator", data := .fields #[.ref t, .int 0 0] } s1.toks
  obtain ⟨ot, hot, _⟩ := id ht
  have hlt : t < s1.heap.objs.size := Heap.lt_size hot
  have hsz : (s1.heap.push { cls := .type "list_iterator", data := .fields #[.ref t, .int 0 0] }).objs.size = s1.heap.objs.size + 1 := Heap.size_push ..
  refine ⟨_, _, _, _, _, _, rfl, Walks.list hh s1.heap.objs.size t (Nat.ne_of_lt hlt) vs.toArray, by rw [List.size_toArray]; exact small hz, ⟨⟨_, Heap.get?_push_size _ rfl, rfl, rfl⟩, ?_⟩, ?_, ⟨?_, ?_⟩, ?_⟩
  · obtain ⟨o, e, r⟩ := ht
    exact ⟨o, Heap.get?_push_of_some _ e, r⟩
  · intro b hb
    show b < (s1.heap.push _).objs.size
    rw [hsz]
    rcases List.mem_cons.mp hb with e | hb
    · rw [e]; exact Nat.lt_succ_self _
    · rw [List.mem_singleton.mp hb]; exact Nat.lt_succ_of_lt hlt
  · intro C i v s3 m3 E' _ hP hn hm hk3 htk
    obtain ⟨a, ha, hav⟩ := hl.get (i := i) (v := v) (by simpa using hP)
    have keep : ∀ b o, s1.heap.get? b = some o → s3.heap.get? b = some o := fun b o e => hk3 b o (fun q => by
      rw [List.mem_singleton.mp q] at e
      exact absurd (Heap.lt_size e) (Nat.lt_irrefl _)) (Heap.get?_push_of_some _ e)
    rw [pv_of k hav]
    rw [List.forIn_cons, if_pos rfl]
    refine wpAny_bind (wpAny_bind (wpAny_mono (htest C s3 m3 a v hav hn hm (fun b o e => keep b o (c1.imm b o e)) (fun q hq => keep _ _ (c1.mt q hq))) (fun ok s4 h4 => ?_) fun _ _ e => e.elim))
    obtain ⟨rfl, tk, rfl⟩ := h4
    refine wpAny_pure ?_
    dsimp only
    rw [List.forIn_nil]
    exact wpAny_pure ⟨rfl, s3.heap, tk, rfl, fun _ _ e => e⟩
  · intro C i v s3 m3 E' _ hP hpv hn hm hk3 htk
    refine wpAny_Name (wpAny_loadName_local (by show (relabel scope env).kind = .function; exact hkind) (lookup_relabel_local hx) hn hm ⟨rfl, s3.heap, s3.toks, rfl, fun _ _ e => e⟩) hd
  · intro D h' tk ys vs' hD hl' hpl hlen hP' hF hk'
    have hvs : vs' = vs := by
      apply List.ext_getElem?
      intro j
      cases q : vs'[j]? with
      | some v => have := hP' j v q; simpa using this.symm
      | none =>
        have : vs.length ≤ j := by
          have := List.getElem?_eq_none_iff.mp q
          rw [hlen, List.size_toArray] at this; exact this
        rw [List.getElem?_eq_none this]
    subst hvs
    have hys := paired_eq hF
    obtain ⟨n, hn⟩ := hpl
    have hD1 : s1.heap.get? D = none := not_some fun o e => by rw [show (s1.heap.push _).get? D = some o from Heap.get?_push_of_some _ e] at hD; cases hD
    have hobj : h'.get? D = some (seqObj "list" (vs'.filter (pv k.toKd I p)).toArray n) := by
      rw [hn, ← hys]
    obtain ⟨c3, sub⟩ := c1.made (tk := tk) hD1 (fun b o e => hk' b o (fun q => by
      rw [List.mem_singleton.mp q] at e
      exact absurd (Heap.lt_size e) (Nat.lt_irrefl _)) (Heap.get?_push_of_some _ e)) hobj
    exact hQ D _ _ _ c3 sub ⟨n, addI_self⟩ ((hl.filt k).sub sub)
end
end Mine

set_option maxHeartbeats 400000
namespace Mine
section
variable {prog : Program} {w : World} {A : Around} {s : Shared} {S₀ : Shared} {I₀ I : Imm} {X : List Addr} {L f : Addr} {m : Nm} {M M1 M2 : List (Addr × Obj)} {mb : Nm} {fd : FuncData} {x cd ld gd pd rl : Addr} {d : Nat} {o : Obj} {g : Int} {tk : Tok}
theorem Cx.callQ0 {t : Sem Value} {P : Imm → List (Addr × Obj) → Value → Prop} {Q : Value → Shared → Prop} (c : Cx S₀ I₀ X I L m M s)
    (h : wpAny (model prog w) A t (PostQ s I (M.map (·.1)) P) noE s)
    (k : ∀ v I' s' Ma, Cx S₀ I₀ X I' L m Ma s' → Sub I I' → (∀ y ∈ M.map (·.1), y ∈ Ma.map (·.1)) → P I' Ma v → Q v s') : wpAny (model prog w) A t Q noE s := by
  have c0 : Cx S₀ I₀ X I L m ([] ++ (M ++ [])) s := by rw [List.append_nil]; exact c
  refine Cx.callP (P := fun I' Ms N v => Ms.map (·.1) = M.map (·.1) ∧ ∃ Ma, (N ++ Ms).Perm Ma ∧ P I' Ma v) c0 (wpAny_mono h (fun v s' ⟨I', Ms, N, g, e, hm, hN, p⟩ => ⟨I', Ms, N, g, e, hm, hN, e, p⟩) fun _ _ e => e) ?_
  rintro v I' s' Ms N c' sub ⟨e, Ma, hp, p⟩
  refine k v I' s' Ma (c'.perm ?_) sub (fun y hy => ?_) p
  · show (N ++ (Ms ++ [])).Perm Ma
    rw [List.append_nil]; exact hp
  · rw [← e] at hy
    exact (hp.map (·.1)).mem_iff.mp (by rw [List.map_append]; exact List.mem_append_right _ hy)
theorem rw_ok {V : Int → Vec} {R0 : List Race} {rs0 : List Value} {n0 : Nat} {po : Obj} {Mpl : List (Addr × Obj)} {tbl : List Pl} {isW : Bool} {path : Path} {lv : Value}
    (R : Room A (d + 5)) (T : Tp (KK w.params) mb I) (hI : InH I s.heap) (W : WatchI I x cd ld gd pd rl) (hO : Own s I ((cd, o) :: (pd, po) :: (rl, seqObj "list" rs0.toArray n0) :: Mpl)) (hk : DK prog w kVec I o (vks V)) (hg : InG g)
    (hR : Are koRace.toKd I R0 rs0) (hnd : R0.Nodup) (hRz : R0.length ≤ 100) (hP : PlSt prog w I po Mpl tbl) (htz : tbl.length ≤ 20) (hl : koLoc.is I (1, path) lv) (hpz : path.length ≤ 100) (hpp : ∀ pl ∈ tbl, pl.path.length ≤ 100) :
    wpAny (model prog w) A (call (.ref (if isW then 224 else 217)) [.ref x, .int g tk, lv]) (PostQ s I (((cd, o) :: (pd, po) :: (rl, seqObj "list" rs0.toArray n0) :: Mpl).map (·.1)) (LookP prog w V g isW path R0 tbl cd pd rl)) noE s := by
  cases isW with
  | true =>
    refine call_def (fd := fdA 224) (M := (cd, o) :: (pd, po) :: (rl, seqObj "list" rs0.toArray n0) :: Mpl) (X := ((cd, o) :: (pd, po) :: (rl, seqObj "list" rs0.toArray n0) :: Mpl).map (·.1)) (binds := [("self", _), ("goroutine", _), ("location", _)]) R T hI hO.entry hO.nd rfl rfl rfl rfl rfl rfl ?_ rfl rfl rfl
    intro L s1 hL c1 R1
    refine wpAny_execs_cons (wpAny_Expr ?_)
    refine mcall ?_
    refine nm c1 rfl ?_ rfl rfl
    refine w_m T c1 W rfl rfl (by intros; rfl) ?_
    refine cwK (K := KK w.params) rfl (spliced_more (nm c1 rfl (spliced_more (nm c1 rfl (spliced_more (nmG T c1 rfl (spliced_none ⟨T.inn c1.imm, ?_⟩) rfl rfl rfl)) rfl rfl)) rfl rfl))
    refine Cx.callQ0 c1 (look_ok (d := d) (isW := true) R1 T c1.imm W (c1.own (List.Sublist.refl _)) hk hg hR hnd hRz hP htz hl hpz hpp) ?_
    rintro v I2 s2 Ma c2 sub2 hY ⟨o', po', rs', n', R', Mpl', tbl', hMa, h1, h2, h3, h4, h5, h6, h7, rfl⟩
    exact wpAny_execs_nil (c2.postQ hL hO.nd hY ⟨o', po', rs', n', R', Mpl', tbl', hMa, h1, h2, h3, h4, h5, h6, h7, rfl⟩)
  | false =>
    refine call_def (fd := fdA 217) (M := (cd, o) :: (pd, po) :: (rl, seqObj "list" rs0.toArray n0) :: Mpl) (X := ((cd, o) :: (pd, po) :: (rl, seqObj "list" rs0.toArray n0) :: Mpl).map (·.1)) (binds := [("self", _), ("goroutine", _), ("location", _)]) R T hI hO.entry hO.nd rfl rfl rfl rfl rfl rfl ?_ rfl rfl rfl
    intro L s1 hL c1 R1
    refine wpAny_execs_cons (wpAny_Expr ?_)
    refine mcall ?_
    refine nm c1 rfl ?_ rfl rfl
    refine w_m T c1 W rfl rfl (by intros; rfl) ?_
    refine cwK (K := KK w.params) rfl (spliced_more (nm c1 rfl (spliced_more (nm c1 rfl (spliced_more (nmG T c1 rfl (spliced_none ⟨T.inn c1.imm, ?_⟩) rfl rfl rfl)) rfl rfl)) rfl rfl))
    refine Cx.callQ0 c1 (look_ok (d := d) (isW := false) R1 T c1.imm W (c1.own (List.Sublist.refl _)) hk hg hR hnd hRz hP htz hl hpz hpp) ?_
    rintro v I2 s2 Ma c2 sub2 hY ⟨o', po', rs', n', R', Mpl', tbl', hMa, h1, h2, h3, h4, h5, h6, h7, rfl⟩
    exact wpAny_execs_nil (c2.postQ hL hO.nd hY ⟨o', po', rs', n', R', Mpl', tbl', hMa, h1, h2, h3, h4, h5, h6, h7, rfl⟩)

/-! Watch() -/
theorem watch_init {y dx : Addr} {R' : Result → Shared → Prop} (R : Room A (d + 1)) (T : Tp (KK w.params) mb I) (hI : InH I s.heap) (hx : I y = some (instObj 241 dx)) (hO : Own s I [(dx, emptyDict)])
    (h : ∀ v s', Post s I [dx] (fun I' Ms N v => v = .none ∧ Ex16 fun cd ld gd pd rl n h1 h2 h3 h4 h5 t1 t2 t3 t4 t5 => An6 (Ms = [(dx, dictOf (wEnts h1 h2 h3 h4 h5 t1 t2 t3 t4 t5 cd ld gd pd rl) n)]) (N = [(rl, newL), (pd, emptyDict), (gd, emptyDict), (ld, emptyDict), (cd, emptyDict)]) (5 < cd) (5 < ld) (5 < gd) (5 < pd)) v s' → R' (.ok (.ret v)) s') :
    codeAny (model prog w) A (.call (.ref 126) ⟨[.ref y], []⟩) R' s := by
  refine code_def (fd := fdA 126) (M := [(dx, emptyDict)]) (X := [dx]) (binds := [("self", _)]) R T hI hO.entry hO.nd rfl rfl rfl rfl rfl rfl ?_ rfl rfl rfl
  intro L s1 hL c1 R1
  refine wpAny_execs_cons (plainObj_wpAny_Assign_Attribute ?_)
  refine dictE0 c1 (fun cd s2 c2 hcd => ?_) (T.big5 (a := 28) c1.imm rfl (by decide))
  refine nm c2 rfl ?_ rfl rfl
  refine set_attr (M1 := [(cd, emptyDict)]) (es := []) (n := 0) T c2 hx rfl rfl rfl rfl rfl rfl fun s3 t3 c3 => ?_
  refine wpAny_execs_cons (plainObj_wpAny_Assign_Attribute ?_)
  refine dictE0 c3 (fun ld s4 c4 hld => ?_) (T.big5 (a := 28) c3.imm rfl (by decide))
  refine nm c4 rfl ?_ rfl rfl
  refine set_attr (M1 := [(ld, emptyDict), (cd, emptyDict)]) T c4 hx rfl rfl rfl rfl rfl rfl fun s5 t5 c5 => ?_
  refine wpAny_execs_cons (plainObj_wpAny_Assign_Attribute ?_)
  refine dictE0 c5 (fun gd s6 c6 hgd => ?_) (T.big5 (a := 28) c5.imm rfl (by decide))
  refine nm c6 rfl ?_ rfl rfl
  refine set_attr (M1 := [(gd, emptyDict), (ld, emptyDict), (cd, emptyDict)]) T c6 hx rfl rfl rfl rfl rfl rfl fun s7 t7 c7 => ?_
  refine wpAny_execs_cons (plainObj_wpAny_Assign_Attribute ?_)
  refine dictE0 c7 (fun pd s8 c8 hpd => ?_) (T.big5 (a := 28) c7.imm rfl (by decide))
  refine nm c8 rfl ?_ rfl rfl
  refine set_attr (M1 := [(pd, emptyDict), (gd, emptyDict), (ld, emptyDict), (cd, emptyDict)]) T c8 hx rfl rfl rfl rfl rfl rfl fun s9 t9 c9 => ?_
  refine wpAny_execs_cons (plainObj_wpAny_Assign_Attribute ?_)
  refine lstME c9 (spliced_none ⟨_, _, c9, by simp, fun rl s10 c10 => ?_⟩)
  refine nm c10 rfl ?_ rfl rfl
  refine set_attr (M1 := [(rl, newL), (pd, emptyDict), (gd, emptyDict), (ld, emptyDict), (cd, emptyDict)]) T c10 hx rfl rfl rfl rfl rfl rfl fun s11 t11 c11 => ?_
  exact wpAny_execs_nil (h _ _ (Cx.postN (N := [(rl, newL), (pd, emptyDict), (gd, emptyDict), (ld, emptyDict), (cd, emptyDict)]) c11 hL rfl ⟨rfl, cd, ld, gd, pd, rl, _, _, _, _, _, _, _, _, _, _, _, rfl, rfl, hcd, hld, hgd, hpd⟩))
end
end Mine

set_option maxHeartbeats 400000
namespace Mine
/-! # the source of draws -/
/-- a list of the call's: what is known of it -/
noncomputable def LstW (I : Imm) (a : Addr) (vs : List Value) : Prop := ∃ o, I a = some o ∧ o.cls = .type "list" ∧ ∃ n, o.data = .seq vs.toArray n
theorem LstW.sub {I J : Imm} {a : Addr} {vs : List Value} (h : LstW I a vs) (hs : Sub I J) : LstW J a vs := let ⟨o, e, r⟩ := h; ⟨o, hs _ _ e, r⟩
theorem LstW.at {I : Imm} {a : Addr} {vs : List Value} {h : Heap} (x : LstW I a vs) (hi : ∀ a o, I a = some o → h.get? a = some o) : h.IsList a vs.toArray := let ⟨o, e, r⟩ := x; ⟨o, hi _ _ e, r⟩
noncomputable def SrcOk (o : Obj) : Prop := o.cls = .type "list" ∧ Ex5 fun a b ta tb n => o.data = .seq #[.int a ta, .int b tb] n ∧ 0 ≤ b ∧ b < 2147483647
theorem bits_small {x : Int} (h : x.natAbs < 2 ^ 64) : Builtin.Int.intBits x ≤ 64 := by
  unfold Builtin.Int.intBits
  split
  · omega
  · rename_i q
    have h0 : x.natAbs ≠ 0 := fun e => q (by rw [Int.natAbs_eq_zero.mp e]; rfl)
    have := (Nat.log2_lt h0).mpr h
    omega
section
variable {prog : Program} {w : World} {A : Around} {s : Shared} {S₀ : Shared} {I₀ I : Imm} {X : List Addr} {L f : Addr} {m : Nm} {M M1 M2 : List (Addr × Obj)} {mb : Nm} {fd : FuncData} {d : Nat} {o : Obj} {sr : Addr}
theorem lst_get {a : Addr} {vs : List Value} {k : Nat} {t : Tok} {v : Value} {value slice : Expr} {Q : Value → Shared → Prop} (hl : s.heap.IsList a vs.toArray) (hk : k < 1000) (hv : vs[k]? = some v) (h : Q v s)
    (hs : autoParam (subscripted slice false (.ref a) (.int (k : Nat) t) = operate [.ref a, .int (k : Nat) t] (getItem (.ref a) (.int (k : Nat) t))) tacWU) :
    wpAny (model prog w) A (subscriptTail value slice (.ref a) (.int (k : Nat) t)) Q noE s :=
  tail_any hl.typeIs list_getitem_lookup (wpAny_getItem_list hl (by omega) (by omega) (by simpa using hv) h) hs
theorem src_set {a b i v : Int} {ta tb ti tv : Tok} {n : Nat} {Q : Unit → Shared → Prop} (c : Cx S₀ I₀ X I L m (M1 ++ (sr, o) :: M2) s) (hc : o.cls = .type "list") (hd : o.data = .seq #[.int a ta, .int b tb] n) (hi : i = 0 ∨ i = 1)
    (h : ∀ s' o', o'.cls = .type "list" → (∃ n, o'.data = .seq (if i = 0 then #[.int v tv, .int b tb] else #[.int a ta, .int v tv]) n) → Cx S₀ I₀ X I L m (M1 ++ (sr, o') :: M2) s' → Q () s') :
    wpAny (model prog w) A (setItem (.ref sr) (.int i ti) (.int v tv)) Q noE s := by
  have hl : s.heap.IsList sr #[.int a ta, .int b tb] := ⟨o, c.mt (sr, o) (List.mem_append_right _ (.head _)), hc, n, hd⟩
  refine wpAny_setItem_list hl (by omega) (by omega) (by show i < 2; omega) fun h' hl' hs' => ?_
  obtain ⟨o', e, e1, n', e2⟩ := hl'
  refine h _ o' e1 ⟨n', ?_⟩ (c.turn (tk := s.toks) (fun b ob hb x => (hs'.2 b hb).trans x) e)
  rw [e2]
  rcases hi with rfl | rfl <;> rfl
theorem take_ok {top : Int} {tt : Tok} (R : Room A (d + 2)) (T : Tp (KK w.params) mb I) (hI : InH I s.heap) (hO : Own s I [(sr, o)]) (hs : SrcOk o) (ht : 0 < top) (ht2 : top ≤ 100) :
    wpAny (model prog w) A (call (.ref 259) [.ref sr, .int top tt]) (Post s I [sr] fun I' Ms N v => Ex3 fun o' r t => An6 (Ms = [(sr, o')]) (N = []) (SrcOk o') (v = .int r t) (0 ≤ r) (r < top)) noE s := by
  refine call_def (fd := fdA 259) (M := [(sr, o)]) (X := [sr]) (binds := [("source", _), ("top", _)]) R T hI hO.entry hO.nd rfl rfl rfl rfl rfl rfl ?_ rfl rfl rfl
  intro L s1 hL c1 R1
  obtain ⟨hc, a, b, ta, tb, n, hd, hb0, hb1⟩ := hs
  have hl1 : ∀ {s' : Shared} {m' : Nm} {M' : List (Addr × Obj)}, Cx s I [sr] I L m' ((sr, o) :: M') s' → s'.heap.IsList sr [Value.int a ta, Value.int b tb].toArray := fun c => ⟨o, c.mt (sr, o) (.head _), hc, n, hd⟩
  refine wpAny_execs_cons (wpAny_If (wpAny_isTrue_Compare1 (Subscript_ ?_)))
  refine nm c1 rfl ?_ rfl rfl
  refine cint c1 fun t2 s2 c2 => ?_
  refine lst_get (k := 0) (hl1 c2) (by omega) rfl ?_
  refine cint c2 fun t3 s3 c3 => ?_
  refine Mine.gt_int (wpAny_truthy_bool ?_)
  by_cases hpos : a > 0
  · rw [decide_eq_true hpos, if_pos rfl]
    refine wpAny_execs_cons (wpAny_Assign_Name (wpAny_BinOp ?_))
    refine Call_Name rfl (nmB T c3 rfl rfl (by decide) ?_ rfl rfl rfl rfl)
    refine PyProof.Rows.callWith_type1 (spliced_more (Subscript_ (nm c3 rfl (cint c3 fun t4 s4 c4 => ?_) rfl rfl)))
    refine lst_get (k := 0) (hl1 c4) (by omega) rfl (spliced_none ?_)
    refine call_int_int ?_
    refine nm c4 rfl ?_ rfl rfl
    refine mod_int' (by omega) ?_
    have c5 : Cx _ _ _ _ _ _ _ { s4 with toks := s4.toks + 1 } := c4.toks
    refine st c5 (fun s6 c6 => ?_) rfl rfl
    refine wpAny_execs_cons (wpAny_Assign_Subscript (wpAny_BinOp (Subscript_ ?_)))
    refine nm c6 rfl (cint c6 fun t7 s7 c7 => ?_) rfl rfl
    refine lst_get (k := 0) (hl1 c7) (by omega) rfl ?_
    refine nm c7 rfl ?_ rfl rfl
    refine floordiv_int (by omega) ?_ (.inl (PyProof.noPylong_small (by omega)))
    have c8 : Cx _ _ _ _ _ _ _ { s7 with toks := s7.toks + 1 } := c7.toks
    refine nm c8 rfl (cint c8 fun t9 s9 c9 => ?_) rfl rfl
    refine src_set (M1 := []) c9 hc hd (.inl rfl) fun s10 o10 hc10 hd10 c10 => ?_
    refine wpAny_execs_cons (wpAny_Return_some (nm c10 rfl ?_ rfl rfl))
    obtain ⟨n10, hd10⟩ := hd10
    rw [if_pos rfl] at hd10
    exact c10.post hL rfl ⟨o10, _, _, rfl, rfl, ⟨hc10, _, b, _, tb, n10, hd10, hb0, hb1⟩, rfl, Int.fmod_nonneg_of_pos a ht, Int.fmod_lt_of_pos a ht⟩
  · rw [decide_eq_false hpos, if_neg Bool.false_ne_true]
    refine wpAny_execs_nil ?_
    refine wpAny_execs_cons (wpAny_Assign_Subscript (wpAny_BinOp ?_))
    refine Call_Name rfl (nmB T c3 rfl rfl (by decide) ?_ rfl rfl rfl rfl)
    refine PyProof.Rows.callWith_type1 (spliced_more (wpAny_BinOp (wpAny_BinOp (Subscript_ (nm c3 rfl (cint c3 fun t4 s4 c4 => ?_) rfl rfl)))))
    refine lst_get (k := 1) (hl1 c4) (by omega) rfl ?_
    refine cint c4 fun t5 s5 c5 => ?_
    refine mul_int ?_ (.of_right (bits_small (by decide)))
    have c6 : Cx _ _ _ _ _ _ _ { s5 with toks := s5.toks + 1 } := c5.toks
    refine cint c6 fun t7 s7 c7 => ?_
    refine add_int (spliced_none (call_int_int ?_))
    have c8 : Cx _ _ _ _ _ _ _ { s7 with toks := s7.toks + 1 } := c7.toks
    refine cint c8 fun t9 s9 c9 => ?_
    refine mod_int' (by decide) ?_
    have c10 : Cx _ _ _ _ _ _ _ { s9 with toks := s9.toks + 1 } := c9.toks
    refine nm c10 rfl (cint c10 fun t11 s11 c11 => ?_) rfl rfl
    refine src_set (M1 := []) c11 hc hd (.inr rfl) fun s12 o12 hc12 hd12 c12 => ?_
    obtain ⟨n12, hd12⟩ := hd12
    rw [if_neg (by decide)] at hd12
    generalize hb' : (b * 39373 + 7).fmod 2147483647 = b' at hd12
    have hb0' : 0 ≤ b' := by rw [← hb']; exact Int.fmod_nonneg_of_pos _ (by decide)
    have hb1' : b' < 2147483647 := by rw [← hb']; exact Int.fmod_lt_of_pos _ (by decide)
    have hl2 : ∀ {s' : Shared} {m' : Nm} {M' : List (Addr × Obj)}, Cx s I [sr] I L m' ((sr, o12) :: M') s' → s'.heap.IsList sr [Value.int a ta, Value.int b' s9.toks].toArray := fun c => ⟨o12, c.mt (sr, o12) (.head _), hc12, n12, hd12⟩
    refine wpAny_execs_cons (wpAny_Return_some (wpAny_BinOp ?_))
    refine Call_Name rfl (nmB T c12 rfl rfl (by decide) ?_ rfl rfl rfl rfl)
    refine PyProof.Rows.callWith_type1 (spliced_more (wpAny_BinOp (wpAny_BinOp ?_)))
    refine Call_Name rfl (nmB T c12 rfl rfl (by decide) ?_ rfl rfl rfl rfl)
    refine PyProof.Rows.callWith_type1 ?_
    refine spliced_more ?_
    refine wpAny_BinOp ?_
    refine Subscript_ ?_
    refine nm c12 rfl ?_ rfl rfl
    refine cint c12 fun t13 s13 c13 => ?_
    refine lst_get (k := 1) (hl2 c13) (by omega) rfl ?_
    refine Subscript_ (nm c13 rfl (cint c13 fun t14 s14 c14 => ?_) rfl rfl)
    refine lst_get (k := 1) (hl2 c14) (by omega) rfl ?_
    refine mul_int (spliced_none (call_int_int ?_)) (.of_right (bits_small (by omega)))
    have c15 : Cx _ _ _ _ _ _ _ { s14 with toks := s14.toks + 1 } := c14.toks
    refine cint c15 fun t16 s16 c16 => ?_
    refine mod_int' (by decide) ?_
    have c17 : Cx _ _ _ _ _ _ _ { s16 with toks := s16.toks + 1 } := c16.toks
    refine cint c17 fun t18 s18 c18 => ?_
    refine floordiv_int (by decide) (spliced_none (call_int_int ?_)) (.inl (PyProof.noPylong_small (by decide)))
    have c19 : Cx _ _ _ _ _ _ _ { s18 with toks := s18.toks + 1 } := c18.toks
    refine nm c19 rfl ?_ rfl rfl
    refine mod_int' (by omega) ?_
    have c20 : Cx _ _ _ _ _ _ _ { s18 with toks := s18.toks + 1 + 1 } := c19.toks
    exact c20.post hL rfl ⟨o12, _, _, rfl, rfl, ⟨hc12, a, b', ta, _, n12, hd12, hb0', hb1'⟩, rfl, Int.fmod_nonneg_of_pos _ ht, Int.fmod_lt_of_pos _ ht⟩

theorem pool_ok {sa : Addr} {vs : List Value} {ns : List Int} {t0 : Tok} (R : Room A (d + 2)) (T : Tp (KK w.params) mb I) (hI : InH I s.heap) (hl : LstW I sa vs) (hv : Are kInt I ns vs) (hz : vs.length ≤ 1000) :
    wpAny (model prog w) A (call (.ref 252) [.ref sa, .int 0 t0]) (Post s I [] fun I' Ms N v => Ex2 fun a o => An4 (Ms = []) (N = [(a, o)]) (SrcOk o) (v = .ref a)) noE s := by
  refine call_def (fd := fdA 252) (M := []) (X := []) (binds := [("script", _), ("k", _)]) R T hI (fun _ h => nomatch h) .nil rfl rfl rfl rfl rfl rfl ?_ rfl rfl rfl
  intro L s1 hL c1 R1
  refine wpAny_execs_cons (wpAny_Assign_Name (cint c1 fun t2 s2 c2 => ?_))
  refine st c2 (fun s3 c3 => ?_) rfl rfl
  refine wpAny_execs_cons (if_join (fun s' => Ex3 fun m' z t => Cx s I [] I L m' [] s' ∧ m' "cell" = some (.int z t) ∧ m' "k" = some (.int 0 t0)) (wpAny_isTrue_Compare1 ?_) ?_)
  · refine nm c3 rfl ?_ rfl rfl
    refine Call_Name rfl (nmB T c3 rfl rfl (by decide) ?_ rfl rfl rfl rfl)
    refine cwB (spliced_more (nm c3 rfl (spliced_none ?_) rfl rfl))
    refine len_lst c3 (hl.at c3.imm) (by omega) fun t4 s4 c4 => ?_
    refine wpAny_lt_int (wpAny_truthy_bool ⟨fun hb => ?_, fun hb => ⟨_, 0, t2, c4, rfl, rfl⟩⟩)
    have hpos : 0 < vs.length := by have := of_decide_eq_true hb; omega
    obtain ⟨v, hv0⟩ : ∃ v, vs[0]? = some v := ⟨vs[0], List.getElem?_eq_getElem hpos⟩
    obtain ⟨z, _, tz, rfl⟩ := hv.get hv0
    refine wpAny_execs_cons (wpAny_Assign_Name (Subscript_ (nm c4 rfl (nm c4 rfl ?_ rfl rfl) rfl rfl)))
    refine lst_get (k := 0) (hl.at c4.imm) (by omega) hv0 ?_
    refine st c4 (fun s5 c5 => ?_) rfl rfl
    exact wpAny_execs_nil ⟨rfl, _, z, tz, c5, rfl, rfl⟩
  rintro s4 ⟨m4, z, t4, c4, e1, e2⟩
  refine wpAny_execs_cons (wpAny_Assign_Name ?_)
  refine Call_Name rfl (nmB T c4 rfl rfl (by decide) ?_ rfl rfl rfl rfl)
  refine cwB (spliced_more (Call_Name rfl (nmB T c4 rfl rfl (by decide) ?_ rfl rfl rfl rfl)))
  refine PyProof.Rows.callWith_type1 (spliced_more (nm c4 e1 (spliced_none ?_) rfl rfl))
  refine call_int_int ?_
  refine spliced_more (Call_Name rfl (nmB T c4 rfl rfl (by decide) ?_ rfl rfl rfl rfl))
  refine PyProof.Rows.callWith_type1 (spliced_more (wpAny_BinOp (wpAny_UnaryOp (cint c4 fun t5 s5 c5 => ?_))))
  refine PyProof.Rows.neg_int ?_
  have c6 : Cx _ _ _ _ _ _ _ { s5 with toks := s5.toks + 1 } := c5.toks
  refine nm c6 e1 ?_ rfl rfl
  refine sub_int (spliced_none (call_int_int (spliced_none ?_)))
  have c7 : Cx _ _ _ _ _ _ _ { s5 with toks := s5.toks + 1 + 1 } := c6.toks
  refine max_ii c7 R1.hd fun t8 s8 c8 => ?_
  generalize max z (-1 - z) = big
  refine st c8 (fun s9 c9 => ?_) rfl rfl
  refine wpAny_execs_cons (wpAny_Assign_Name (wpAny_BinOp ?_))
  refine Call_Name rfl (nmB T c9 rfl rfl (by decide) ?_ rfl rfl rfl rfl)
  refine PyProof.Rows.callWith_type1 (spliced_more (wpAny_BinOp (wpAny_BinOp (wpAny_BinOp (wpAny_BinOp (wpAny_BinOp ?_))))))
  refine Call_Name rfl (nmB T c9 rfl rfl (by decide) ?_ rfl rfl rfl rfl)
  refine PyProof.Rows.callWith_type1 (spliced_more (nm c9 rfl (spliced_none (call_int_int ?_)) rfl rfl))
  refine cint c9 fun t10 s10 c10 => ?_
  refine mod_int' (by decide) ?_
  have c11 : Cx _ _ _ _ _ _ _ { s10 with toks := s10.toks + 1 } := c10.toks
  refine wpAny_BinOp (wpAny_BinOp (cint c11 fun t12 s12 c12 => ?_))
  refine nm c12 e2 ?_ rfl rfl
  refine mul_int ?_ (.of_right (bits_small (by decide)))
  have c13 : Cx _ _ _ _ _ _ _ { s12 with toks := s12.toks + 1 } := c12.toks
  refine nm c13 e2 ?_ rfl rfl
  refine mul_int ?_ (.of_right (bits_small (by decide)))
  have c14 : Cx _ _ _ _ _ _ _ { s12 with toks := s12.toks + 1 + 1 } := c13.toks
  refine add_int ?_
  have c15 : Cx _ _ _ _ _ _ _ { s12 with toks := s12.toks + 1 + 1 + 1 } := c14.toks
  refine wpAny_BinOp (cint c15 fun t16 s16 c16 => ?_)
  refine nm c16 e2 ?_ rfl rfl
  refine mul_int ?_ (.of_right (bits_small (by decide)))
  have c17 : Cx _ _ _ _ _ _ _ { s16 with toks := s16.toks + 1 } := c16.toks
  refine add_int ?_
  have c18 : Cx _ _ _ _ _ _ _ { s16 with toks := s16.toks + 1 + 1 } := c17.toks
  refine cint c18 fun t19 s19 c19 => ?_
  refine add_int ?_
  have c20 : Cx _ _ _ _ _ _ _ { s19 with toks := s19.toks + 1 } := c19.toks
  refine cint c20 fun t21 s21 c21 => ?_
  refine mul_int (spliced_none (call_int_int ?_)) (.of_right (bits_small (by decide)))
  have c22 : Cx _ _ _ _ _ _ _ { s21 with toks := s21.toks + 1 } := c21.toks
  refine cint c22 fun t23 s23 c23 => ?_
  refine mod_int' (by decide) ?_
  have c24 : Cx _ _ _ _ _ _ _ { s23 with toks := s23.toks + 1 } := c23.toks
  refine st c24 (fun s25 c25 => ?_) rfl rfl
  refine wpAny_execs_cons (wpAny_Return_some ?_)
  refine lstME c25 (spliced_more (wpAny_BinOp (nm c25 rfl ?_ rfl rfl)))
  refine Call_Name rfl (nmB T c25 rfl rfl (by decide) ?_ rfl rfl rfl rfl)
  refine PyProof.Rows.callWith_type1 (spliced_more (wpAny_Compare1 (nm c25 rfl (wpAny_BinOp (cint c25 fun t26 s26 c26 => cint c26 fun t27 s27 c27 => ?_)) rfl rfl)))
  refine pow_int_small (by decide) (by decide) (by decide) ?_
  have c28 : Cx _ _ _ _ _ _ _ { s27 with toks := s27.toks + 1 } := c27.toks
  refine ge_int (spliced_none (call_int_bool ?_))
  have c29 : Cx _ _ _ _ _ _ _ { s27 with toks := s27.toks + 1 + 1 } := c28.toks
  refine mul_int ?_ (.of_right (bits_small (by split <;> decide)))
  have c30 : Cx _ _ _ _ _ _ _ { s27 with toks := s27.toks + 1 + 1 + 1 } := c29.toks
  refine spliced_more (nm c30 rfl (spliced_none ⟨_, _, c30, by simp, fun a s31 c31 => ?_⟩) rfl rfl)
  exact Cx.postN (N := [(a, _)]) (Ms := []) c31 hL rfl ⟨a, _, rfl, rfl, ⟨rfl, _, _, _, _, 0, rfl, Int.fmod_nonneg_of_pos _ (by decide), Int.fmod_lt_of_pos _ (by decide)⟩, rfl⟩

theorem one_ok {ta : Addr} {vs : List Value} (R : Room A (d + 3)) (T : Tp (KK w.params) mb I) (hI : InH I s.heap) (hO : Own s I [(sr, o)]) (hs : SrcOk o) (hl : LstI I ta vs) (hz : vs.length ≤ 100) (hp : 0 < vs.length) :
    wpAny (model prog w) A (call (.ref 266) [.ref sr, .ref ta]) (Post s I [sr] fun I' Ms N v => ∃ o', Ms = [(sr, o')] ∧ N = [] ∧ SrcOk o' ∧ v ∈ vs) noE s := by
  refine call_def (fd := fdA 266) (M := [(sr, o)]) (X := [sr]) (binds := [("source", _), ("things", _)]) R T hI hO.entry hO.nd rfl rfl rfl rfl rfl rfl ?_ rfl rfl rfl
  intro L s1 hL c1 R1
  refine wpAny_execs_cons (wpAny_Return_some (Subscript_ ?_))
  refine nm c1 rfl ?_ rfl rfl
  refine Call_Name rfl (nmG T c1 rfl ?_ rfl rfl rfl)
  refine cwK (K := KK w.params) rfl (spliced_more (nm c1 rfl (spliced_more (Call_Name rfl (nmB T c1 rfl rfl (by decide) ?_ rfl rfl rfl rfl))) rfl rfl))
  refine cwB (spliced_more (nm c1 rfl (spliced_none ?_) rfl rfl))
  refine len_lst c1 (hl.at c1.imm) (by omega) fun t2 s2 c2 => spliced_none ⟨T.inn c2.imm, ?_⟩
  refine Cx.callP (M1 := []) (Mc := [(sr, o)]) (M2 := []) c2 (take_ok (d := d) R1 T c2.imm (c2.own (List.Sublist.refl _)) hs (by omega) (by omega)) ?_
  rintro v3 I3 s3 Ms N c3 sub3 ⟨o3, r, t3, rfl, rfl, hs3, rfl, hr0, hr1⟩
  obtain ⟨k, rfl⟩ : ∃ (k : Nat), r = k := ⟨r.toNat, by omega⟩
  have hk : k < vs.length := by omega
  refine lst_get ((hl.sub sub3).at c3.imm) (by omega) (List.getElem?_eq_getElem hk) ?_
  exact c3.post hL rfl ⟨o3, rfl, rfl, hs3, List.getElem_mem hk⟩
end
end Mine

set_option maxHeartbeats 400000
namespace Mine
theorem cells1 {cm : Nm} {n : Str} {c : Addr} {Mc : List (Addr × Obj)} {v : Option Value} (h : CellsAre cm [(n, c)] Mc) (hv : cm n = v) : ∃ o, Mc = [(c, o)] ∧ o.data = .cell v := by
  cases Mc with
  | nil => exact h.elim
  | cons p r =>
    obtain ⟨a, o⟩ := p
    obtain ⟨e1, e2, e3⟩ := h
    cases r with
    | nil => exact ⟨o, by rw [e1], by rw [← hv]; exact e2⟩
    | cons _ _ => exact e3.elim
theorem cells2 {cm : Nm} {n n' : Str} {c c' : Addr} {Mc : List (Addr × Obj)} {v v' : Option Value} (h : CellsAre cm [(n, c), (n', c')] Mc) (hv : cm n = v) (hv' : cm n' = v') : ∃ o o', Mc = [(c, o), (c', o')] ∧ o.data = .cell v ∧ o'.data = .cell v' := by
  cases Mc with
  | nil => exact h.elim
  | cons p r =>
    obtain ⟨a, o⟩ := p
    obtain ⟨e1, e2, e3⟩ := h
    obtain ⟨o', rfl, e4⟩ := cells1 e3 hv'
    exact ⟨o, o', by rw [e1], by rw [← hv]; exact e2, e4⟩
noncomputable abbrev Span := Int × Int
noncomputable abbrev koSpan : Ko Span := koPair koInt koInt
noncomputable def kSpans : Kd (List Span) := ⟨fun I l v => ∃ a vs, v = .ref a ∧ LstI I a vs ∧ Are (kPair kInt kInt) I l vs, fun hs ⟨a, vs, e, h, k⟩ => ⟨a, vs, e, h.sub hs, k.sub hs⟩⟩
noncomputable def mine (l : List Span) (g : Int) : List Span := l.filter fun p => decide (p.1 = g)
section
variable {prog : Program} {w : World} {A : Around} {s : Shared} {S₀ : Shared} {I₀ I : Imm} {X : List Addr} {m : Nm} {M M1 M2 : List (Addr × Obj)} {env : Env}
theorem add_lst {L a b : Addr} {vs us : List Value} {Q : Value → Shared → Prop} (c : Cx S₀ I₀ X I L m M s) (hl : s.heap.IsList a vs.toArray) (hb : s.heap.IsList b us.toArray) (hz : vs.length + us.length ≤ sizeLine)
    (h : ∀ t I' s', Cx S₀ I₀ X I' L m M s' → Sub I I' → LstI I' t (vs ++ us) → Q (.ref t) s') : wpAny (model prog w) A (binaryOp .Add (.ref a) (.ref b)) Q noE s := by
  obtain ⟨o1, e1, k1, n1, d1⟩ := hl
  obtain ⟨o2, e2, k2, n2, d2⟩ := hb
  rcases o1 with ⟨_, r1, _, q1⟩
  rcases o2 with ⟨_, r2, _, q2⟩
  cases k1; cases d1; cases k2; cases d2
  obtain ⟨c2, sub⟩ := c.alloc (o := seqObj "list" (vs ++ us).toArray 0) s.toks rfl
  have fin := h _ _ _ c2 sub lst_new
  rw [← List.append_toArray] at fin
  exact concat_meets ⟨_, e1, rfl⟩ ⟨_, e2, rfl⟩ noFill_list_add seq_list_add PySem.F.slot_list_add PySem.F.entry_list_add (PySem.F.args_list_add_2 _ _) (list_addW a b _ _ n1 n2 r1 r2 q1 q2 (by simpa using hz)) ⟨e1, e2, fin⟩
end
section
variable {prog : Program} {w : World} {A : Around} {s : Shared} {mb : Nm} {I : Imm} {d : Nat} {kd : Addr} {ko : Obj} {ks : List (Int × List Span)} {g : Int} {tk : Tok}
theorem ltold_ok {l : List Span} (R : Room A (d + 2)) (T : Tp (KK w.params) mb I) (hI : InH I s.heap) (hO : Own s I [(kd, ko)]) (hk : DK prog w kSpans I ko ks) (hz : ks.length ≤ 900) (hl : look ks g = some l) (hlz : l.length ≤ 900) :
    wpAny (model prog w) A (call (.ref 271) [.ref kd, .int g tk]) (Post s I [kd] fun I' Ms N v => ∃ ko', Ms = [(kd, ko')] ∧ N = [] ∧ DK prog w kSpans I' ko' (put ks g (l ++ [(g, ((mine l g).length + 1 : Int))])) ∧ kSpans.is I' l v) noE s := by
  refine call_defC (fd := fdA 271) (M := [(kd, ko)]) (X := [kd]) (binds := [("known", _), ("who", _)]) R T hI hO.entry hO.nd rfl rfl rfl rfl rfl rfl rfl ?_ rfl rfl rfl
  intro L s1 Mc hL hMc c1 R1
  obtain ⟨oc, rfl, hoc⟩ := cells1 (n := ("who" : Str)) (c := L + 1) (v := some (.int g tk)) hMc rfl
  have hgetk : ∀ {I' : Imm} {m' : Nm} {s' : Shared} {ko' : Obj} {ks' : List (Int × List Span)} {l' : List Span} {value slice : Expr} {Q : Value → Shared → Prop}, Cx s I [kd] I' L m' ([(L + 1, oc)] ++ [(kd, ko')]) s' → DK prog w kSpans I' ko' ks' → look ks' g = some l' →
      (∀ s'' v, Cx s I [kd] I' L m' ([(L + 1, oc)] ++ [(kd, ko')]) s'' → kSpans.is I' l' v → Q v s'') → (subscripted slice false (.ref kd) (.int g tk) = operate [.ref kd, .int g tk] (getItem (.ref kd) (.int g tk))) →
      wpAny (model prog w) (A.deeper (callEnvC (fdA 271) L 271)) (subscriptTail value slice (.ref kd) (.int g tk)) Q noE s' := fun c hk' hl' h hs => dk_get (M1 := [(L + 1, oc)]) c hk' hl' h hs
  refine wpAny_execs_cons (esgSw2 c1 R1.hd ?_ rfl rfl rfl)
  refine spliced_more (Call_Name rfl (enB T c1 rfl rfl (by decide) ?_ rfl rfl rfl rfl))
  refine PyProof.Rows.callWith_type1 (spliced_more (Subscript_ (en c1 rfl (enC c1 (.head _) hoc ?_ rfl rfl rfl) rfl rfl)))
  refine hgetk c1 hk hl (fun s2 v2 c2 hv2 => ?_) rfl
  obtain ⟨a, vs, rfl, ha, hvs⟩ := id hv2
  refine spliced_none (list_lst c2 (ha.at c2.imm) (small (by rw [hvs.length]; omega)) fun b I3 s3 c3 sub3 hb => ?_)
  refine spliced_more (Call_Name rfl (enB (T.sub sub3) c3 rfl rfl (by decide) ?_ rfl rfl rfl rfl))
  refine cwB (spliced_more ?_)
  refine comp_pick koSpan (fun p => decide (p.1 = g)) c3 R1.hd (cl := [(("who" : Str), L + 1)]) rfl rfl rfl rfl rfl rfl ?_
  refine Subscript_ (en c3 rfl (enC c3 (.head _) hoc ?_ rfl rfl rfl) rfl rfl)
  refine hgetk c3 (hk.sub sub3) hl (fun s4 v4 c4 hv4 => ?_) rfl
  obtain ⟨a4, vs4, rfl, ha4, hvs4⟩ := hv4
  refine ⟨a4, l, vs4, rfl, c4, ha4.at c4.imm, hvs4, by rw [hvs4.length]; omega, ?_, ?_⟩
  · rintro C s5 m5 ⟨p1, p2⟩ v ⟨t, x, y, rfl, ht, ⟨tx, rfl⟩, hy⟩ hn hm hI5 hM5
    refine wpAny_isTrue_Compare1 (Subscript_ ?_)
    refine wpAny_Name (wpAny_loadName_local rfl rfl hn hm ?_) (by decide)
    refine wpAny_Constant_int ?_
    refine item_tupleL (s := { s5 with toks := s5.toks + 1 }) (ht.at hI5) (by decide) (by decide) rfl rfl ?_
    refine wpAny_Name (wpAny_loadName_cell rfl rfl rfl ⟨oc, hM5 (L + 1, oc) (.head _), hoc⟩ ?_) (by decide)
    exact PyProof.Rows.eq_int (wpAny_truthy_bool ⟨rfl, _, rfl⟩)
  intro D I5 s5 out c5 sub5 hD hout
  refine spliced_none (len_lst c5 (hD.at c5.imm) (by rw [hout.length]; have := List.length_filter_le (fun p : Span => decide (p.1 = g)) l; omega) fun t6 s6 c6 => ?_)
  refine spliced_none ⟨_, _, I5, _, rfl, c6, fun I7 s7 c7 sub7 => ?_⟩
  have sub37 := sub3.trans (sub5.trans sub7)
  refine wpAny_execs_cons (wpAny_Assign_Subscript (wpAny_BinOp ?_))
  refine Subscript_ (en c7 rfl (enC c7 (.head _) hoc ?_ rfl rfl rfl) rfl rfl)
  refine hgetk c7 (hk.sub sub37) hl (fun s8 v8 c8 hv8 => ?_) rfl
  obtain ⟨a8, vs8, rfl, ha8, hvs8⟩ := hv8
  refine lstE c8 (spliced_more (tupE c8 (spliced_more (enC c8 (.head _) hoc (spliced_more (wpAny_BinOp (en c8 rfl (cint c8 fun t9 s9 c9 => ?_) rfl rfl))) rfl rfl rfl))))
  refine add_int ?_
  have c10 : Cx _ _ _ _ _ _ _ { s9 with toks := s9.toks + 1 } := c9.toks
  refine spliced_none ⟨_, _, c10, by simp, fun tt I11 s11 c11 sub11 htt => spliced_none ⟨_, _, c11, by simp, fun tl I12 s12 c12 sub12 htl => ?_⟩⟩
  have sub812 := sub11.trans sub12
  refine add_lst c12 ((ha8.sub sub812).at c12.imm) (htl.at c12.imm) (small (by rw [hvs8.length]; simp; omega)) fun tr I13 s13 c13 sub13 htr => ?_
  refine en c13 rfl (enC c13 (.head _) hoc ?_ rfl rfl rfl) rfl rfl
  have hnew : kSpans.is I13 (l ++ [(g, ((mine l g).length + 1 : Int))]) (.ref tr) := by
    refine ⟨tr, _, rfl, htr, Are.snoc (k := kPair kInt kInt) (a := (g, ((mine l g).length + 1 : Int))) ⟨tt, _, _, rfl, (htt.sub sub12).sub sub13, ⟨_, rfl⟩, ⟨s9.toks, ?_⟩⟩ ((hvs8.sub sub812).sub sub13)⟩
    rw [hout.length]; rfl
  refine dk_set (M1 := [(L + 1, oc)]) c13 (hk.sub (sub37.trans (sub812.trans sub13))) (by omega) hnew fun s14 ko14 hk14 c14 => ?_
  refine wpAny_execs_cons (wpAny_Return_some (en c14 rfl ?_ rfl rfl))
  exact (c14.drop (List.sublist_cons_self _ _)).post hL rfl ⟨ko14, rfl, rfl, hk14, b, vs, rfl, hb.sub (sub5.trans (sub7.trans (sub812.trans sub13))), hvs.sub (sub37.trans (sub812.trans sub13))⟩
end
end Mine

set_option maxHeartbeats 400000
namespace Mine
section
variable {prog : Program} {w : World} {A : Around} {s : Shared} {mb : Nm} {I : Imm} {d : Nat} {kd : Addr} {ko : Obj} {ks : List (Int × List Span)} {g : Int} {tk : Tok}
/-- a value of a dict of span lists, at a heap -/
theorem dq_get {l : List Span} {value slice : Expr} {Q : Value → Shared → Prop} {E : Value → Shared → Prop} (ho : s.heap.get? kd = some ko) (hk : DK prog w kSpans I ko ks) (hl : look ks g = some l)
    (h : ∀ a vs, LstI I a vs → Are (kPair kInt kInt) I l vs → Q (.ref a) { s with toks := s.toks + 1 })
    (hs : autoParam (subscripted slice false (.ref kd) (.int g tk) = operate [.ref kd, .int g tk] (getItem (.ref kd) (.int g tk))) tacWU) :
    wpAny (model prog w) A (subscriptTail value slice (.ref kd) (.int g tk)) Q noE s := by
  obtain ⟨kvs, h1, h2⟩ := hk
  have hD : s.heap.DictOf (intKind prog w) kd kvs := Heap.dictOf_iff.mpr ⟨ko, ho, h1⟩
  have := h2.val (g := g)
  rw [hl] at this
  obtain ⟨v, e1, a, vs, rfl, e2, e3⟩ := this
  exact tail_any hD.typeIs slot_dict_getitem.lookup (wpAny_getItem_of (intKind_is prog w g tk) hD.mapOf e1 (h a vs e2 e3)) hs
theorem llearn_ok {l r : List Span} {ma : Addr} {us : List Value} (R : Room A (d + 2)) (T : Tp (KK w.params) mb I) (hI : InH I s.heap) (hO : Own s I [(kd, ko)]) (hk : DK prog w kSpans I ko ks) (hz : ks.length ≤ 900) (hl : look ks g = some l) (hlz : l.length ≤ 450) (hm : LstI I ma us) (hr : Are (kPair kInt kInt) I r us) (hrz : r.length ≤ 450) :
    wpAny (model prog w) A (call (.ref 276) [.ref kd, .int g tk, .ref ma]) (Post s I [kd] fun I' Ms N v => ∃ ko', Ms = [(kd, ko')] ∧ N = [] ∧ DK prog w kSpans I' ko' (put ks g (l ++ r.filter (fun a => decide (a ∉ l)))) ∧ v = .none) noE s := by
  refine call_defC (fd := fdA 276) (M := [(kd, ko)]) (X := [kd]) (binds := [("known", _), ("who", _), ("more", _)]) R T hI hO.entry hO.nd rfl rfl rfl rfl rfl rfl rfl ?_ rfl rfl rfl
  intro L s1 Mc hL hMc c1 R1
  obtain ⟨ow, ok, rfl, how, hok⟩ := cells2 (n := ("who" : Str)) (c := L + 2) (v := some (.int g tk)) (n' := ("known" : Str)) (c' := L + 1) (v' := some (.ref kd)) hMc rfl rfl
  refine wpAny_execs_cons (wpAny_Assign_Subscript (wpAny_BinOp ?_))
  refine Subscript_ (enC c1 (.tail _ (.head _)) hok (enC c1 (.head _) how ?_ rfl rfl rfl) rfl rfl rfl)
  refine dk_get (M1 := [(L + 2, ow), (L + 1, ok)]) c1 hk hl (fun s2 v2 c2 hv2 => ?_) rfl
  obtain ⟨a, vs, rfl, ha, hvs⟩ := id hv2
  refine comp_pick koSpan (fun a => decide (a ∉ l)) c2 R1.hd (cl := [(("who" : Str), L + 2), (("known" : Str), L + 1)]) rfl rfl rfl rfl rfl rfl ?_
  refine en c2 rfl ?_ rfl rfl
  refine ⟨ma, r, us, rfl, c2, hm.at c2.imm, hr, by rw [hr.length]; omega, ?_, ?_⟩
  · rintro C s5 m5 p v hv hn hm5 hI5 hM5
    refine wpAny_isTrue_Compare1 ?_
    refine wpAny_Name (wpAny_loadName_local rfl rfl hn hm5 ?_) (by decide)
    refine Subscript_ ?_
    refine wpAny_Name (wpAny_loadName_cell rfl rfl rfl ⟨ok, hM5 (L + 1, ok) (.tail _ (.head _)), hok⟩ ?_) (by decide)
    refine wpAny_Name (wpAny_loadName_cell rfl rfl rfl ⟨ow, hM5 (L + 2, ow) (.head _), how⟩ ?_) (by decide)
    refine dq_get (E := noE) (hM5 (kd, ko) (.tail _ (.tail _ (.head _)))) hk hl (fun b ws hb hws => ?_) rfl
    refine notIn_b koSpan (s := { s5 with toks := s5.toks + 1 }) (R1.fits (by decide)) hI5 (hb.at hI5) hws hv fun bb hbb => wpAny_truthy_bool ⟨?_, _, rfl⟩
    rw [Bool.eq_iff_iff, hbb, decide_eq_true_eq]
  intro D I5 s5 out c5 sub5 hD hout
  have hfl := List.length_filter_le (fun a : Span => decide (a ∉ l)) r
  refine add_lst c5 ((ha.sub sub5).at c5.imm) (hD.at c5.imm) (small (by rw [hvs.length, hout.length]; omega)) fun tr I6 s6 c6 sub6 htr => ?_
  refine enC c6 (.tail _ (.head _)) hok (enC c6 (.head _) how ?_ rfl rfl rfl) rfl rfl rfl
  have hnew : kSpans.is I6 (l ++ r.filter (fun a => decide (a ∉ l))) (.ref tr) := ⟨tr, _, rfl, htr, ((hvs.sub sub5).sub sub6).append (hout.sub sub6)⟩
  refine dk_set (M1 := [(L + 2, ow), (L + 1, ok)]) c6 (hk.sub (sub5.trans sub6)) (by omega) hnew fun s7 ko7 hk7 c7 => ?_
  exact wpAny_execs_nil ((c7.drop (List.sublist_append_right [(L + 2, ow), (L + 1, ok)] _)).post hL rfl ⟨ko7, rfl, rfl, hk7, rfl⟩)
end
end Mine

set_option maxHeartbeats 400000
namespace Mine
/-! # a comprehension over two loops -/
section
variable {elt tgt0 tgt1 iter0 iter1 : Expr} {scope : Scope} {pos : Pos}
noncomputable abbrev comp2 (elt tgt0 tgt1 iter0 iter1 : Expr) (scope : Scope) (pos : Pos) : Expr := .ListComp elt [⟨tgt0, iter0, [], 0⟩, ⟨tgt1, iter1, [], 0⟩] scope pos
theorem turn1 (it acc : Value) (env : Env) : compTurn (comp2 elt tgt0 tgt1 iter0 iter1 scope pos) 1 it acc env = (standAt iter1.pos >>= fun _ => pyNext it >>= fun r => match r with
      | none => pure (.done .next)
      | some v => letOwnedTupleGo tgt1 it v >>= fun _ => assign tgt1 env v >>= fun _ =>
        (eval elt env >>= fun x => call (.builtin "list.append") [acc, x] >>= fun _ => pure ()) >>= fun _ => again (.compLoop (comp2 elt tgt0 tgt1 iter0 iter1 scope pos) 1 it acc env)) := by rfl
theorem turn0 (it acc : Value) (env : Env) : compTurn (comp2 elt tgt0 tgt1 iter0 iter1 scope pos) 0 it acc env = (standAt iter0.pos >>= fun _ => pyNext it >>= fun r => match r with
      | none => pure (.done .next)
      | some v => letOwnedTupleGo tgt0 it v >>= fun _ => assign tgt0 env v >>= fun _ =>
        (eval iter1 env >>= fun x => standAt iter1.pos >>= fun _ => foldedSetIterable iter1 env x >>= fun x => holding [x] (pyIter x) >>= fun it' => runOwn (.compStart (comp2 elt tgt0 tgt1 iter0 iter1 scope pos) 1 it' acc env) env >>= fun _ =>
          again (.compLoop (comp2 elt tgt0 tgt1 iter0 iter1 scope pos) 0 it acc env))) := by rfl
end
section
variable {prog : Program} {w : World} {A : Around} {s : Shared} {S₀ : Shared} {I₀ I : Imm} {X : List Addr} {m : Nm} {M1 M2 : List (Addr × Obj)} {env : Env}
noncomputable abbrev rIt (x left : Int) : Obj := { cls := .type "range_iterator", data := .fields #[rawInt x, rawInt left, rawInt 1] }
theorem rng_next {J L : Addr} {x : Int} {left : Nat} {Q : Option Value → Shared → Prop} (c : Cx S₀ I₀ X I L m (M1 ++ (J, rIt x left) :: M2) s) (hJX : J ∉ X) (hh : A.handled = none)
    (h1 : ∀ k t s', left = k + 1 → Cx S₀ I₀ X I L m (M1 ++ (J, rIt (x + 1) k) :: M2) s' → Q (some (.int x t)) s') (h2 : ∀ s', left = 0 → Cx S₀ I₀ X I L m (M1 ++ M2) s' → Q none s') :
    wpAny (model prog w) A (pyNext (.ref J)) Q noE s := by
  have hin : (J, rIt x left) ∈ M1 ++ (J, rIt x left) :: M2 := List.mem_append_right _ (.head _)
  have hJ : IsRangeIter s.heap J x left 1 := c.mt (J, rIt x left) hin
  cases left with
  | zero =>
    refine wpAny_pyNext_range_end hh hJ (by omega) fun h' he => ?_
    have hS : S₀.heap.get? J = none := by
      rcases c.mtX _ hin with q | q
      · exact absurd q hJX
      · exact q
    have hnd : J ∉ (M1 ++ M2).map (·.1) := by
      have := c.nodup
      rw [List.map_append, List.map_cons] at this
      have := (List.perm_middle.nodup_iff.mp this)
      rw [List.map_append]
      exact (List.nodup_cons.mp this).1
    refine h2 _ rfl (Cx.kept' (wr := [J]) (tk := s.toks) (c.drop (List.Sublist.append (List.Sublist.refl _) (List.sublist_cons_self _ _))) (fun b o hb e => he b o (fun q => hb (by rw [q]; exact .head _)) e) fun b hb => ?_)
    rw [List.mem_singleton.mp hb]
    exact ⟨hS, c.mtI _ hin, c.mtL _ hin, hnd⟩
  | succ k =>
    refine wpAny_pyNext_range_item hJ (by omega) fun h' hit hs => ?_
    have e : ((k + 1 : Nat) : Int) - 1 = k := by omega
    rw [e] at hit
    exact h1 k _ _ rfl (c.turn (fun b ob hb e => (hs.2 b hb).trans e) hit)
noncomputable def rs (who x : Int) : Nat → List Span
  | 0 => []
  | k + 1 => (who, x + 1) :: rs who (x + 1) k
noncomputable def spScope : Scope := { kind := .function, names := [((".0" : Str), .local), (("who" : Str), .local), (("count" : Str), .local), (("turn" : Str), .local), (("range" : Str), .globalImplicit)], isGenerator := false, isCoroutine := false }
section
variable {p1 p2 p3 p4 p5 p6 p7 p8 p9 p10 p11 p12 p13 pos : Pos}
noncomputable abbrev spElt (p1 p2 p3 p4 p5 : Pos) : Expr := .Tuple [.Name ("who" : Str) p1, .BinOp (.Name ("turn" : Str) p2) .Add (.Constant (.int 1) 0 p3) p4] 0 p5
noncomputable abbrev spT0 (p6 p7 p8 : Pos) : Expr := .Tuple [.Name ("who" : Str) p6, .Name ("count" : Str) p7] 0 p8
noncomputable abbrev spT1 (p9 : Pos) : Expr := .Name ("turn" : Str) p9
noncomputable abbrev spI1 (p10 p11 p12 : Pos) : Expr := .Call (.Name ("range" : Str) p10) [.Name ("count" : Str) p11] [] p12
theorem sp_inner {C D J1 : Addr} {I1 : Imm} {who : Int} {tw : Tok} {done : List Value} {n : Nat} {left : Nat} {iter0 : Expr} {R : Result → Shared → Prop} {s1 : Shared}
    (c : Cx S₀ I₀ [] I1 C m ((J1, rIt 0 left) :: (D, seqObj "list" done.toArray n) :: M2) s1) (hh : A.handled = none) (hw : m "who" = some (.int who tw)) (hz : done.length + left ≤ 900)
    (hR : ∀ I' m' out n' s', Cx S₀ I₀ [] I' C m' ((D, seqObj "list" (done ++ out).toArray n') :: M2) s' → Sub I1 I' → Are koSpan.toKd I' (rs who 0 left) out → R (.ok .next) s') :
    codeAny (model prog w) A (.compLoop (comp2 (spElt p1 p2 p3 p4 p5) (spT0 p6 p7 p8) (spT1 p9) iter0 (spI1 p10 p11 p12) spScope pos) 1 (.ref J1) (.ref D) (compEnvC spScope [] C env)) R s1 := by
  refine codeAny_loop rfl (fun k s => Ex7 fun x l I' m' a out n' => An7 (k = l + 1) (Cx S₀ I₀ [] I' C m' ((J1, rIt x l) :: (D, seqObj "list" (done ++ out).toArray n') :: M2) s) (Sub I1 I') (m' "who" = some (.int who tw)) (Are koSpan.toKd I' a out) (a ++ rs who x l = rs who 0 left) (out.length + l ≤ left)) ?_ (left + 1)
    ⟨0, left, I1, m, [], [], n, rfl, by rw [List.append_nil]; exact c, Sub.refl _, hw, trivial, rfl, by simp⟩
  rintro k s2 ⟨x, l, I2, m2, a, out, n2, rfl, c2, sub2, hw2, ha, he, hlen⟩
  refine wpAny_noted ?_
  rw [turn1]
  refine wpAny_bind (wpAny_standAt (wpAny_bind ?_))
  refine wpAny_mono (Q := _) (E := noE) (rng_next (M1 := []) c2 (fun q => nomatch q) hh (fun k t s3 hk c3 => ?_) fun s3 hk c3 => ?_) (fun _ _ q => q) fun _ _ e => e.elim
  · subst hk
    refine wpAny_bind (wpAny_of_eq (a := ()) rfl ?_)
    refine wpAny_bind (wpAny_mono (Q := _) (E := noE) (wpAny_assign_Name (es (env := compEnvC spScope [] C env) c3 (fun s4 c4 => ?_) rfl rfl)) (fun _ _ q => q) fun _ _ e => e.elim)
    refine wpAny_bind (wpAny_bind ?_)
    refine wpAny_mono (Q := _) (E := noE) (tupE c4 (spliced_more (en (env := compEnvC spScope [] C env) c4 (v := .int who tw) hw2 (spliced_more (wpAny_BinOp (en (env := compEnvC spScope [] C env) c4 rfl (cint c4 fun t5 s5 c5 => ?_) rfl rfl))) rfl rfl))) (fun _ _ q => q) fun _ _ e => e.elim
    refine PyProof.Rows.add_int (spliced_none ⟨_, _, c5.toks, by simp, fun tt I6 s6 c6 sub6 htt => ?_⟩)
    refine wpAny_bind (wpAny_mono (Q := _) (E := noE) (append_ok (M1 := [(J1, rIt (x + 1) k)]) c6 rfl (small (by rw [List.length_append]; omega)) fun s7 n7 c7 => ?_) (fun _ _ q => q) fun _ _ e => e.elim)
    refine wpAny_pure (wpAny_pure ⟨rfl, k + 1, by omega, x + 1, k, I6, upd m2 (("turn" : Str)) (.int x t), a ++ [(who, x + 1)], out ++ [.ref tt], n7, rfl, ?_, sub2.trans sub6, hw2, ?_, ?_, ?_⟩)
    · rw [← List.append_assoc]; exact c7
    · exact Are.snoc (k := koSpan.toKd) (a := (who, x + 1)) ⟨tt, _, _, rfl, htt, ⟨_, rfl⟩, ⟨_, rfl⟩⟩ (ha.sub sub6)
    · rw [← he, rs, List.append_assoc]; rfl
    · rw [List.length_append]; show out.length + 1 + k ≤ left; omega
  · subst hk
    dsimp only
    refine wpAny_pure ?_
    rw [rs, List.append_nil] at he
    exact hR I2 m2 out n2 s3 c3 sub2 (he ▸ ha)
noncomputable def spansOf (l : List Span) : List Span := l.flatMap fun p => rs p.1 0 p.2.toNat
theorem compStart1 {elt tgt0 tgt1 iter0 iter1 : Expr} {scope : Scope} {it acc : Value} {R : Result → Shared → Prop}
    (h0 : codeAny (model prog w) A (.compLoop (comp2 elt tgt0 tgt1 iter0 iter1 scope pos) 1 it acc env) R s)
    (h : wpAny (model prog w) A (pyIter it) (fun it' s' => codeAny (model prog w) A (.compLoop (comp2 elt tgt0 tgt1 iter0 iter1 scope pos) 1 it' acc env) R s') (notedBy (model prog w) A env fun x s' => R (.error x) s') s) :
    codeAny (model prog w) A (.compStart (comp2 elt tgt0 tgt1 iter0 iter1 scope pos) 1 it acc env) R s := by
  refine codeAny_of_tree (wpAny_notedAt (pos := theWindowsPlace) ?_)
  wp_walk using wpAny_askSetting
  split
  · exact wpAny_pure ⟨rfl, h0⟩
  · have hk : ∀ {Q' : Value → Shared → Prop} {E' : Value → Shared → Prop}, (∀ it' s', codeAny (model prog w) A (.compLoop (comp2 elt tgt0 tgt1 iter0 iter1 scope pos) 1 it' acc env) R s' → Q' it' s') → (∀ e s', notedBy (model prog w) A env (fun x s' => R (.error x) s') e s' → E' e s') →
        wpAny (model prog w) (A.under (.compStart (comp2 elt tgt0 tgt1 iter0 iter1 scope pos) 1 it acc env)) (pyIter it) Q' E' s := fun f g => wpAny_mono h f g
    wp_walk using hk
    · exact fun _ _ q => wpAny_pure ⟨rfl, q⟩
    · exact fun _ _ q => q
theorem Cx.leaveBut {C : Addr} {m : Nm} {h' : Heap} (c : Cx S₀ I₀ X I C m M s) (hC : S₀.heap.get? C = none) (hs : Heap.SameBut C s.heap h') : Gr S₀ I₀ X I { s with heap := h' } ∧ ∀ p ∈ M, h'.get? p.1 = some p.2 := by
  have old : ∀ {a : Addr} {o : Obj}, S₀.heap.get? a = some o → a ≠ C := fun e q => by rw [q, hC] at e; cases e
  refine ⟨⟨?_, fun a o e => ?_, fun a o e n => ?_, c.sub, fun a o e => ?_, c.new⟩, fun p hp => (hs.2 _ (c.mtL p hp)).trans (c.mt p hp)⟩
  · obtain ⟨h, t, rfl⟩ := c.same
    exact ⟨_, _, rfl⟩
  · obtain ⟨o', q⟩ := c.alive a o e
    exact ⟨o', (hs.2 a (old e)).trans q⟩
  · refine (hs.2 a (old e)).trans (c.keep a o e fun q => ?_)
    rcases List.mem_cons.mp q with q | q
    · exact old e q
    · exact n q
  · exact (hs.2 a (fun q => by rw [q, c.immL] at e; cases e)).trans (c.imm a o e)
theorem small_range (n : Nat) (h : n ≤ 1000) : Builtin.Range.small 0 n 1 = true := by
  have e : Builtin.Range.rangeSize 0 (n : Int) 1 = n := by
    rw [rangeSize_one]
    split <;> omega
  have f : ∀ x : Int, -2000 ≤ x → x ≤ 2000 → Builtin.Range.rangeFitsLong x = true := fun x h1 h2 => by
    unfold Builtin.Range.rangeFitsLong
    rw [Bool.and_eq_true]
    constructor <;> (rw [decide_eq_true_eq]; omega)
  unfold Builtin.Range.small
  rw [e, f 0 (by omega) (by omega), f n (by omega) (by omega), f 1 (by omega) (by omega), f (n + (1 - 1)) (by omega) (by omega)]
  simp
theorem sp_start {C D J1 : Addr} {I1 : Imm} {who : Int} {tw : Tok} {done : List Value} {n : Nat} {left : Nat} {iter0 : Expr} {R : Result → Shared → Prop} {s1 : Shared}
    (c : Cx S₀ I₀ [] I1 C m ((J1, rIt 0 left) :: (D, seqObj "list" done.toArray n) :: M2) s1) (hh : A.handled = none) (hw : m "who" = some (.int who tw)) (hz : done.length + left ≤ 900)
    (hR : ∀ I' m' out n' s', Cx S₀ I₀ [] I' C m' ((D, seqObj "list" (done ++ out).toArray n') :: M2) s' → Sub I1 I' → Are koSpan.toKd I' (rs who 0 left) out → R (.ok .next) s') :
    codeAny (model prog w) A (.compStart (comp2 (spElt p1 p2 p3 p4 p5) (spT0 p6 p7 p8) (spT1 p9) iter0 (spI1 p10 p11 p12) spScope pos) 1 (.ref J1) (.ref D) (compEnvC spScope [] C env)) R s1 :=
  have loop := sp_inner (p1 := p1) (p2 := p2) (p3 := p3) (p4 := p4) (p5 := p5) (p6 := p6) (p7 := p7) (p8 := p8) (p9 := p9) (p10 := p10) (p11 := p11) (p12 := p12) (pos := pos) (iter0 := iter0) (env := env) c hh hw hz hR
  compStart1 loop (wpAny_pyIter_rangeiter (c.mt _ (.head _)) loop)
theorem comp2_loop {C D J0 tup : Addr} {I1 : Imm} {l : List Span} {vs : List Value} {o0 : Obj} {n : Nat} {iter0 : Expr} {R : Result → Shared → Prop} {s1 : Shared} {K : Frag} {mb : Nm} (T : Tp K mb I1)
    (hrng : nsIn K mainGlobals "range" = some none) (hg : env.globals = mainGlobals) (hb : env.builtins = builtinsNs)
    (c : Cx S₀ I₀ [] I1 C m [(D, seqObj "list" ([] : List Value).toArray n), (J0, o0)] s1) (ho : o0.cls = .type "tuple_iterator" ∧ o0.data = .fields #[.ref tup, .int ((0 : Nat) : Int) 0]) (hh : A.handled = none) (htu : TupI I1 tup vs) (hl : Are koSpan.toKd I1 l vs)
    (hpos : ∀ p ∈ l, 0 ≤ p.2 ∧ p.2 ≤ 900) (hz : (spansOf l).length ≤ 900)
    (hR : ∀ I' m' out n' s' o', Cx S₀ I₀ [] I' C m' [(D, seqObj "list" out.toArray n'), (J0, o')] s' → Sub I1 I' → Are koSpan.toKd I' (spansOf l) out → ∀ h', Heap.ExtBut J0 s'.heap h' → R (.ok .next) { s' with heap := h' }) :
    codeAny (model prog w) A (.compLoop (comp2 (spElt p1 p2 p3 p4 p5) (spT0 p6 p7 p8) (spT1 p9) iter0 (spI1 p10 p11 p12) spScope pos) 0 (.ref J0) (.ref D) (compEnvC spScope [] C env)) R s1 := by
  refine codeAny_loop rfl (fun k s => Ex7 fun i I' m' o' a out n' => An8 (k = vs.length - i + 1) (i ≤ vs.length) (Cx S₀ I₀ [] I' C m' [(D, seqObj "list" out.toArray n'), (J0, o')] s) (o'.cls = .type "tuple_iterator") (o'.data = .fields #[.ref tup, .int (i : Int) 0]) (Sub I1 I') (Are koSpan.toKd I' a out) (a ++ spansOf (l.drop i) = spansOf l)) ?_ (vs.length + 1)
    ⟨0, I1, m, o0, [], [], n, rfl, Nat.zero_le _, c, ho.1, ho.2, Sub.refl _, trivial, rfl⟩
  rintro k s2 ⟨i, I2, m2, o2, a, out, n2, rfl, hi, c2, ho1, ho2, sub2, ha, he⟩
  refine wpAny_noted ?_
  rw [turn0]
  refine wpAny_bind (wpAny_standAt (wpAny_bind ?_))
  have hin : (J0, o2) ∈ [(D, seqObj "list" out.toArray n2), (J0, o2)] := .tail _ (.head _)
  have hit : s2.heap.IsTupleIter J0 tup i := ⟨o2, c2.mt _ hin, ho1, ho2⟩
  have ht2 := (htu.sub sub2).at' c2.imm
  cases q : vs[i]? with
  | none =>
    refine wpAny_pyNext_tuple_end hh hit ht2 (by simpa using q) fun h' he' => ?_
    have hlen : vs.length ≤ i := List.getElem?_eq_none_iff.mp q
    refine wpAny_pure ?_
    rw [List.drop_eq_nil_of_le (by rw [← hl.length]; exact hlen)] at he
    have he2 : a = spansOf l := by rw [← he]; exact (List.append_nil a).symm
    exact hR I2 m2 out n2 s2 o2 c2 sub2 (he2 ▸ ha) h' he'
  | some v =>
    refine wpAny_pyNext_tuple_item hit ht2 (x := v) (by simpa using q) fun h' hit' hs' => ?_
    obtain ⟨o3, e3, ho31, ho32⟩ := hit'
    have c3 : Cx S₀ I₀ [] I2 C m2 [(D, seqObj "list" out.toArray n2), (J0, o3)] { s2 with heap := h' } := Cx.turn (M1 := [(D, seqObj "list" out.toArray n2)]) (tk := s2.toks) c2 (fun b ob hb e => (hs'.2 b hb).trans e) e3
    obtain ⟨⟨g, cn⟩, hai, hav⟩ := hl.get q
    obtain ⟨pa, x, y, rfl, hpa, ⟨tx, rfl⟩, ⟨ty, rfl⟩⟩ := hav
    have hmem : (g, cn) ∈ l := List.mem_of_getElem? hai
    obtain ⟨hp0, hp1⟩ := hpos _ hmem
    simp only at hp0 hp1
    obtain ⟨cN, rfl⟩ := Int.eq_ofNat_of_zero_le hp0
    have hdrop : l.drop i = (g, (cN : Int)) :: l.drop (i + 1) := by
      obtain ⟨hlt, e⟩ := List.getElem?_eq_some_iff.mp hai
      rw [← e]; exact (List.getElem_cons_drop hlt).symm
    have hrs : spansOf (l.drop i) = rs g 0 cN ++ spansOf (l.drop (i + 1)) := by rw [hdrop]; rfl
    have hrl : ∀ x k, (rs g x k).length = k := fun x k => by
      induction k generalizing x with
      | zero => rfl
      | succ k ih => rw [rs, List.length_cons, ih]
    have hlen : out.length + cN ≤ 900 := by
      rw [← he, hrs, List.length_append, List.length_append, hrl, ← ha.length] at hz; omega
    refine wpAny_bind (own_plain e3 ho31 (by decide) ?_)
    refine wpAny_bind (wpAny_mono (Q := _) (E := noE) (esg2 (env := compEnvC spScope [] C env) c3 hh (((hpa.sub sub2)).at c3.imm) (fun s4 c4 => ?_) rfl rfl rfl) (fun _ _ q => q) fun _ _ e => e.elim)
    refine wpAny_bind ?_
    refine wpAny_mono (Q := _) (E := noE) (Call_Name rfl (enB (env := compEnvC spScope [] C env) (T.sub sub2) c4 hrng rfl (by decide) (PyProof.Rows.callWith_type1 (spliced_more (en (x := ("count" : Str)) (env := compEnvC spScope [] C env) c4 rfl (spliced_none (call_range_1 ?_)) rfl rfl))) rfl hg hb rfl)) (fun _ _ q => q) fun _ _ e => e.elim
    have c5 := c4.push { cls := .type "range", data := .fields #[.int 0 s4.toks, .int (cN : Int) ty, .int 1 (s4.toks + 1)] } (s4.toks + 1 + 1)
    refine wpAny_bind (wpAny_standAt (wpAny_bind (wpAny_of_eq (a := .ref s4.heap.objs.size) rfl (wpAny_bind (wpAny_holding ?_)))))
    refine wpAny_pyIter_range (Heap.get?_push_size _ rfl) (small_range cN (by omega)) ?_
    have c6 := c5.allocM (o := { cls := .type "range_iterator", data := .fields #[rawInt 0, rawInt (Builtin.Range.rangeSize 0 (cN : Int) 1), rawInt 1] }) (s4.toks + 1 + 1) rfl
    have e6 : Builtin.Range.rangeSize 0 (cN : Int) 1 = cN := by
      rw [rangeSize_one]
      split <;> omega
    rw [e6] at c6 ⊢
    refine wpAny_bind (wpAny_runOwn ?_)
    refine sp_start (A := (A.under _).mark none) (who := g) (tw := tx) (left := cN) c6 hh rfl hlen fun I7 m7 out7 n7 s7 c7 sub7 ha7 => ?_
    · refine wpAny_pure ⟨rfl, vs.length - (i + 1) + 1, ?_, i + 1, I7, m7, o3, a ++ rs g 0 cN, out ++ out7, n7, rfl, ?_, c7, ho31, ho32, sub2.trans sub7, (ha.sub sub7).append ha7, ?_⟩
      · have := (List.getElem?_eq_some_iff.mp q).1; omega
      · exact (List.getElem?_eq_some_iff.mp q).1
      · rw [← he, hrs, List.append_assoc]
theorem sp_list {tup : Addr} {l : List Span} {vs : List Value} {K : Frag} {mb : Nm} {Q : Value → Shared → Prop} (c0 : Cx S₀ I₀ X I env.locals m M s) (T : Tp K mb I)
    (hrng : nsIn K mainGlobals "range" = some none) (hg : env.globals = mainGlobals) (hb : env.builtins = builtinsNs) (hh : A.handled = none) (hclos : closureFor spScope env = pure []) (hd : ("clock" == ("__debug__" : Str)) = false)
    (hk : env.scope.kind = .function) (hloc : env.kindOf "clock" = some .local) (hm : m "clock" = some (.ref tup))
    (htu : TupI I tup vs) (hl : Are koSpan.toKd I l vs) (hpos : ∀ p ∈ l, 0 ≤ p.2 ∧ p.2 ≤ 900) (hz : (spansOf l).length ≤ 900)
    (h : ∀ D I' s' out, Cx S₀ I₀ X I' env.locals m M s' → Sub I I' → LstI I' D out → Are koSpan.toKd I' (spansOf l) out → Q (.ref D) s') :
    wpAny (model prog w) A (eval (comp2 (spElt p1 p2 p3 p4 p5) (spT0 p6 p7 p8) (spT1 p9) (.Name ("clock" : Str) p13) (spI1 p10 p11 p12) spScope pos) env) Q noE s := by
  rw [eval_ListComp]
  refine wpAny_comprehension_free (use := none) rfl (by intro _; rfl) hclos rfl (by decide) (en c0 hm ?_ hk hloc)
  refine wpAny_pyIter_tuple (htu.at' c0.imm) ?_
  refine wpAny_newObj_type (wpAny_newFunctionEnv (by decide) (by intro y hy; cases hy) (fun h₁ hns₁ hsb₁ => ?_))
  dsimp only at hns₁ hsb₁ ⊢
  have hJ0 : s.heap.get? s.heap.objs.size = none := size_none _
  have hlt0 : ∀ {a : Nat} {o : Obj}, s.heap.get? a = some o → a < s.heap.objs.size := fun q => Heap.lt_size q
  have hLlt := c0.ltL
  generalize hJ : s.heap.objs.size = J0 at *
  generalize hH1 : s.heap.push { cls := .type "tuple_iterator", data := .fields #[.ref tup, .int 0 0] } = H1 at *
  have hD1 : H1.objs.size = J0 + 1 := by rw [← hH1, Heap.size_push, hJ]
  generalize hDD : H1.objs.size = D at *
  generalize hH2 : H1.push { cls := .type "list", data := .seq ([] : List Value).toArray } = H2 at *
  have hC1 : H2.objs.size = J0 + 2 := by rw [← hH2, Heap.size_push, hDD, hD1]
  have hlt2 : ∀ {a : Nat} {o : Obj}, H2.get? a = some o → a < H2.objs.size := fun q => Heap.lt_size q
  generalize hCC : H2.objs.size = C at *
  have hge : ∀ {a : Addr}, J0 ≤ a → s.heap.get? a = none := fun {a} ha => not_some fun o q => by have := hlt0 q; omega
  have e2 : ∀ {a : Addr} {o : Obj}, H2.get? a = some o → h₁.get? a = some o := fun {a o} q => hsb₁.extBut _ _ (Nat.ne_of_lt (hlt2 q)) (Heap.get?_push_of_some _ q)
  have e1 : ∀ {a : Addr} {o : Obj}, H1.get? a = some o → h₁.get? a = some o := fun q => e2 (by rw [← hH2]; exact Heap.get?_push_of_some _ q)
  have e0 : ∀ {a : Addr} {o : Obj}, s.heap.get? a = some o → h₁.get? a = some o := fun q => e1 (by rw [← hH1]; exact Heap.get?_push_of_some _ q)
  have hJobj : h₁.get? J0 = some { cls := .type "tuple_iterator", data := .fields #[.ref tup, .int 0 0] } := e1 (by rw [← hH1, ← hJ]; exact Heap.get?_push_size _ rfl)
  have hDobj : h₁.get? D = some (seqObj "list" ([] : List Value).toArray 0) := e2 (by rw [← hH2, ← hDD]; exact Heap.get?_push_size _ rfl)
  have c : Cx s I [] I C (fun x => ([] : List (Str × Value)).reverse.lookup x) [(D, seqObj "list" ([] : List Value).toArray 0), (J0, { cls := .type "tuple_iterator", data := .fields #[.ref tup, .int 0 0] })] { s with heap := h₁, toks := s.toks + ([] : List (Str × Value)).length } := by
    refine ⟨⟨⟨_, _, rfl⟩, fun a o e => ⟨o, e0 e⟩, fun a o e _ => e0 e, Sub.refl _, fun a o e => e0 (c0.imm a o e), fun _ _ e => .inl e⟩, hns₁, c0.noI (hge (by omega)), ?_, ?_, ?_, ?_, ?_⟩
    · intro p hp
      rcases List.mem_cons.mp hp with rfl | hp
      · exact hDobj
      · rw [List.mem_singleton.mp hp]; exact hJobj
    · intro p hp
      rcases List.mem_cons.mp hp with rfl | hp
      · exact c0.noI (hge (by show J0 ≤ D; omega))
      · rw [List.mem_singleton.mp hp]; exact c0.noI (hge (Nat.le_refl _))
    · intro p hp
      rcases List.mem_cons.mp hp with rfl | hp
      · show D ≠ C; omega
      · rw [List.mem_singleton.mp hp]; show J0 ≠ C; omega
    · intro p hp
      rcases List.mem_cons.mp hp with rfl | hp
      · exact .inr (hge (by show J0 ≤ D; omega))
      · rw [List.mem_singleton.mp hp]; exact .inr (hge (Nat.le_refl _))
    · show [D, J0].Nodup
      rw [List.nodup_cons]
      refine ⟨fun q => ?_, by simp⟩
      rw [List.mem_singleton] at q; omega
  have hC : s.heap.get? C = none := hge (by omega)
  have loop : codeAny (model prog w) A (.compLoop (comp2 (spElt p1 p2 p3 p4 p5) (spT0 p6 p7 p8) (spT1 p9) (.Name ("clock" : Str) p13) (spI1 p10 p11 p12) spScope pos) 0 (.ref J0) (.ref D) (compEnvC spScope [] C env)) (compPost (model prog w) A noE none Q (.ref D) C) { s with heap := h₁, toks := s.toks + ([] : List (Str × Value)).length } := by
    refine comp2_loop T hrng hg hb c ⟨rfl, rfl⟩ hh htu hl hpos hz ?_
    intro I' m' out n' s' o' c' sub hout h2 he2
    have c2 : Cx s I [] I' C m' [(D, seqObj "list" out.toArray n')] { s' with heap := h2 } := by
      have hnd := c'.nodup
      refine Cx.kept' (wr := [J0]) (tk := s'.toks) (c'.drop (List.sublist_append_left [_] [_])) (fun b o hb e => he2 b o (fun q => hb (by rw [q]; exact .head _)) e) fun b hb => ?_
      rw [List.mem_singleton.mp hb]
      refine ⟨hJ0, c'.mtI _ (.tail _ (.head _)), c'.mtL _ (.tail _ (.head _)), fun q => ?_⟩
      have : J0 = D := List.mem_singleton.mp q
      omega
    refine ⟨m', c2.ns, fun h3 hs3 => ?_⟩
    obtain ⟨g, hm3⟩ := c2.leaveBut hC hs3
    have hD0 : S₀.heap.get? D = none := c0.fresh (hge (by omega))
    obtain ⟨c4, sub4⟩ := Cx.take (c0.back0 g) (hm3 _ (.head _)) hD0 (Nat.ne_of_gt (Nat.lt_trans (m := J0) hLlt (by omega))) (fun p hp => Nat.ne_of_lt (Nat.lt_trans (m := J0) (hlt0 (c0.mt p hp)) (by omega))) (c2.mtI _ (.head _))
    exact h D _ _ out c4 (sub.trans sub4) lst_new (hout.sub sub4)
  exact codeAny_compStart_list loop (wpAny_pyIter_tupleiter ⟨_, c.mt _ (.tail _ (.head _)), rfl, rfl⟩ loop)
end
end
end Mine

set_option maxHeartbeats 400000
namespace Mine
theorem rs_len : ∀ (g x : Int) (k : Nat), (rs g x k).length = k
  | _, _, 0 => rfl
  | g, x, k + 1 => by rw [rs, List.length_cons, rs_len]
theorem mem_rs {g : Int} {p : Span} : ∀ {k : Nat} {x : Int}, p ∈ rs g x k ↔ p.1 = g ∧ x < p.2 ∧ p.2 ≤ x + k
  | 0, x => by rw [rs]; simp only [List.not_mem_nil, false_iff]; omega
  | k + 1, x => by
    rw [rs, List.mem_cons, mem_rs]
    constructor
    · rintro (rfl | ⟨h1, h2, h3⟩)
      · refine ⟨rfl, ?_, ?_⟩ <;> simp only <;> omega
      · omega
    · rintro ⟨h1, h2, h3⟩
      by_cases q : p.2 = x + 1
      · left; rw [← q, ← h1]
      · right; omega
theorem rs_nodup {g : Int} : ∀ {k : Nat} {x : Int}, (rs g x k).Nodup
  | 0, _ => .nil
  | k + 1, x => by
    rw [rs, List.nodup_cons]
    refine ⟨fun h => ?_, rs_nodup⟩
    have := (mem_rs.mp h).2.1
    simp only at this; omega
theorem mem_spansOf {v : Vec} {p : Span} : p ∈ spansOf (clk v) ↔ InG p.1 ∧ 1 ≤ p.2 ∧ p.2 ≤ v p.1 := by
  unfold spansOf
  rw [List.mem_flatMap]
  constructor
  · rintro ⟨q, hq, hp⟩
    obtain ⟨h1, h2, h3⟩ := mem_clk.mp hq
    obtain ⟨h4, h5, h6⟩ := mem_rs.mp hp
    rw [h4, h3] at *
    refine ⟨h1, by omega, ?_⟩
    simp at h6; omega
  · rintro ⟨h1, h2, h3⟩
    refine ⟨(p.1, (v p.1 : Int)), mem_clk.mpr ⟨h1, by show v p.1 ≠ 0; omega, rfl⟩, mem_rs.mpr ⟨rfl, by omega, by simp; omega⟩⟩
theorem spansOf_nodup (v : Vec) : (spansOf (clk v)).Nodup := by
  have key : ∀ l : List Span, (l.map (·.1)).Nodup → (spansOf l).Nodup := by
    intro l
    induction l with
    | nil => intro _; exact .nil
    | cons a l ih =>
      intro h
      rw [List.map_cons, List.nodup_cons] at h
      show (rs a.1 0 a.2.toNat ++ spansOf l).Nodup
      rw [List.nodup_append]
      refine ⟨rs_nodup, ih h.2, fun p hp q hq e => ?_⟩
      subst e
      obtain ⟨r, hr, hpr⟩ := List.mem_flatMap.mp hq
      exact h.1 (List.mem_map.mpr ⟨r, hr, (mem_rs.mp hpr).1.symm.trans (mem_rs.mp hp).1⟩)
  exact key _ (clk_keys v)
theorem spansOf_len (v : Vec) : (spansOf (clk v)).length = v 0 + v 1 + v 2 := by
  unfold clk spansOf
  simp only [List.filterMap_cons, List.filterMap_nil]
  by_cases h0 : v 0 = 0 <;> by_cases h1 : v 1 = 0 <;> by_cases h2 : v 2 = 0 <;> simp [h0, h1, h2, rs_len] <;> omega
section
variable {prog : Program} {w : World} {A : Around} {s : Shared} {mb : Nm} {I : Imm} {d : Nat}
theorem spans_ok {v : Vec} {a : Value} (R : Room A (d + 2)) (T : Tp (KK w.params) mb I) (hI : InH I s.heap) (ha : kClock.is I (clk v) a) (hz : v 0 + v 1 + v 2 < 64) :
    wpAny (model prog w) A (call (.ref 281) [a]) (Post s I [] fun I' Ms N r => Ms = [] ∧ N = [] ∧ Ex3 fun D out l => An5 (r = .ref D) (LstI I' D out) (Are koSpan.toKd I' l out) (l.Perm (spansOf (clk v))) (Srt koSpan l)) noE s := by
  refine call_def (fd := fdA 281) (M := []) (X := []) (binds := [("clock", _)]) R T hI (fun _ h => nomatch h) .nil rfl rfl rfl rfl rfl rfl ?_ rfl rfl rfl
  intro L s1 hL c1 R1
  obtain ⟨t, vs, rfl, ht, hvs⟩ := ha
  refine wpAny_execs_cons (wpAny_Return_some ?_)
  refine Call_Name rfl (nmB T c1 rfl rfl (by decide) ?_ rfl rfl rfl rfl)
  refine cwB (spliced_more ?_)
  have hb : ∀ p ∈ clk v, 0 ≤ p.2 ∧ p.2 ≤ 900 := fun p hp => by
    obtain ⟨h1, h2, h3⟩ := mem_clk.mp hp
    rw [h3]
    rcases h1 with e | e | e <;> rw [e] <;> omega
  refine sp_list (env := callEnv (fdA 281) L 281) (l := clk v) (vs := vs) c1 T rfl rfl rfl R1.hd rfl (by decide) rfl rfl rfl ht hvs hb (by rw [spansOf_len]; omega) ?_
  intro D I2 s2 out c2 sub2 hD hout
  refine spliced_none ?_
  refine sorted_lst koSpan c2 (R1.fits (by decide)) (hD.at c2.imm) hout (by rw [spansOf_len]; exact hz) ?_
  intro D2 I3 s3 l out2 c3 sub3 hD2 hout2 hp hs
  exact c3.post hL rfl ⟨rfl, rfl, D2, out2, l, rfl, hD2, hout2, hp, hs⟩
end
end Mine

set_option maxHeartbeats 400000
namespace Mine
noncomputable abbrev GtAt := Ends .Gt
noncomputable def LexG (A : Around) (s : Shared) : List Value → List Value → Bool → Prop
  | [], [], b => b = false
  | [], _ :: _, b => b = false
  | _ :: _, [], b => b = true
  | x :: xs, y :: ys, b => ∃ e, EqAt A s x y e ∧ if e = true then LexG A s xs ys b else GtAt A s x y b
section
variable {prog : Program} {w : World} {A : Around} {E : Value → Shared → Prop} {s : Shared}
theorem tuple_gt_tree {x y : Addr} {xs ys : List Value} {b : Bool} {P : Fin → Shared → Prop} (hx : s.heap.IsTuple x xs.toArray) (hy : s.heap.IsTuple y ys.toArray) (h : LexG A s xs ys b) (k : P (.done (.ret (.bool b))) s) :
    wpAny (model prog w) A (Builtin.«tuple.__gt__» ⟨[.ref x, .ref y], []⟩) P E s := by
  have hTb : s.TypeIs (.ref y) "tuple" := hy.typeIs
  obtain ⟨ox, hox, _, nx, hdx⟩ := hx
  obtain ⟨oy, hoy, _, ny, hdy⟩ := hy
  show wpAny _ _ (isInstance (.ref y) (.type "tuple") >>= _) _ _ s
  refine wpAny_bind (wpAny_isInstance hTb isSubtype_tuple_tuple ?_)
  simp only [Bool.not_true, Bool.false_eq_true, if_false]
  refine wpAny_bind (wpAny_tupleItemsOf hox hdx ?_)
  refine wpAny_bind (wpAny_tupleItemsOf hoy hdy ?_)
  refine wpAny_bind ?_
  refine wpAny_forIn_list _
    (fun rest r s' => r.1 = none ∧ s' = s ∧ ∃ xs' ys', rest = List.zip xs' ys' ∧ LexG A s xs' ys' b ∧ (ys'.length < xs'.length ↔ ys.length < xs.length))
    _ ?_ ?_ _ _ ⟨rfl, rfl, xs, ys, rfl, h, Iff.rfl⟩
  · rintro ⟨u, v⟩ rest r s' ⟨hr, rfl, xs', ys', hz, hl, hlen⟩
    cases xs' with
    | nil => simp at hz
    | cons u' xs' =>
      cases ys' with
      | nil => simp at hz
      | cons v' ys' =>
        simp only [List.zip_cons_cons, List.cons.injEq, Prod.mk.injEq] at hz
        obtain ⟨⟨rfl, rfl⟩, rfl⟩ := hz
        obtain ⟨e, he, hl⟩ := hl
        refine wpAny_bind (he prog w _ _ ?_)
        cases e with
        | true =>
          simp only [Bool.not_true, Bool.false_eq_true, if_false]
          simp only [if_true] at hl
          exact wpAny_pure ⟨rfl, rfl, xs', ys', rfl, hl, by simpa using hlen⟩
        | false =>
          simp only [Bool.not_false, if_true]
          simp only [Bool.false_eq_true, if_false] at hl
          refine wpAny_bind (wpAny_rule (wpAny_bind (hl prog w _ _ ?_)))
          exact wpAny_bind (wpAny_pure (wpAny_pure (wpAny_pure k)))
  · rintro ⟨r1, r2⟩ s' ⟨hr, rfl, xs', ys', hz, hl, hlen⟩
    simp only at hr
    subst hr
    refine wpAny_pure ?_
    have : b = decide (ys.length < xs.length) := by
      cases xs' with
      | nil =>
        cases ys' with
        | nil => rw [show b = false from hl]; simp at hlen; simp [hlen]
        | cons _ _ => rw [show b = false from hl]; simp at hlen; simp [hlen]
      | cons _ _ =>
        cases ys' with
        | nil => rw [show b = true from hl]; simp at hlen; simp [hlen]
        | cons _ _ => simp at hz
    rw [this] at k
    simpa [Builtin.Tuple.tupleCompareSizes] using k
theorem call_tuple_gt {x y : Addr} {xs ys : List Value} {b : Bool} {Q : Value → Shared → Prop} (hx : s.heap.IsTuple x xs.toArray) (hy : s.heap.IsTuple y ys.toArray) (h : LexG A.in1 s xs ys b) (k : Q (.bool b) s) :
    wpAny (model prog w) A (call (.builtin "tuple.__gt__") [.ref x, .ref y]) Q E s :=
  wpAny_call_entry F.slot_tuple_gt hx.typeIs F.entry_tuple_gt (tuple_gt_tree hx hy h ⟨_, rfl, k⟩) (F.args_tuple_gt_2 _ _)
end
theorem GtAt.tuples {A : Around} {s : Shared} {x y : Addr} {xs ys : List Value} {b : Bool} (hu : A.units < cLine) (hx : s.heap.IsTuple x xs.toArray) (hy : s.heap.IsTuple y ys.toArray) (h : LexG A.in1 s xs ys b) : GtAt A s (.ref x) (.ref y) b :=
  fun prog w E Q k => wpAny_richCompare_same_room (op := .Gt) hx.typeIs hy.typeIs F.slot_tuple_gt (call_tuple_gt hx hy h ⟨(fun z => nomatch z), k⟩) hu
theorem GtAt.ints {A : Around} {s : Shared} {a b : Int} {t u : Tok} : GtAt A s (.int a t) (.int b u) (decide (a > b)) :=
  fun prog w E Q k => richCompare_gives (op := .Gt) (typeIs_int s _ t) (typeIs_int s _ u) F.slot_int_gt F.entry_int_gt (F.args_int_gt_2 _ _) (gives_int_gt _ _ t u) (fun x => nomatch x) k
noncomputable def spanGt (p q : Span) : Bool := if p.1 = q.1 then decide (p.2 > q.2) else decide (p.1 > q.1)
theorem GtAt.spans {A : Around} {s : Shared} {I : Imm} {p q : Span} {u v : Value} (hu : A.units < cLine) (hI : InH I s.heap) (hp : koSpan.is I p u) (hq : koSpan.is I q v) : GtAt A s u v (spanGt p q) := by
  obtain ⟨x, a, b, rfl, hx, ⟨ta, rfl⟩, ⟨tb, rfl⟩⟩ := hp
  obtain ⟨y, c, d, rfl, hy, ⟨tc, rfl⟩, ⟨td, rfl⟩⟩ := hq
  refine GtAt.tuples hu (hx.at' hI) (hy.at' hI) ⟨decide (p.1 = q.1), EqAt.int_int p.1 ta q.1 tc, ?_⟩
  unfold spanGt
  by_cases h1 : p.1 = q.1
  · rw [decide_eq_true h1, if_pos rfl, if_pos h1]
    refine ⟨decide (p.2 = q.2), EqAt.int_int p.2 tb q.2 td, ?_⟩
    by_cases h2 : p.2 = q.2
    · rw [decide_eq_true h2, if_pos rfl]
      show decide (p.2 > q.2) = false
      rw [decide_eq_false_iff_not]; omega
    · rw [decide_eq_false h2, if_neg Bool.false_ne_true]
      exact GtAt.ints
  · rw [decide_eq_false h1, if_neg Bool.false_ne_true, if_neg h1]
    exact GtAt.ints
end Mine

set_option maxHeartbeats 400000
namespace Mine
theorem spanGt_false {p q : Span} : spanGt p q = false ↔ p.1 < q.1 ∨ (p.1 = q.1 ∧ p.2 ≤ q.2) := by
  unfold spanGt
  by_cases a : p.1 = q.1
  · rw [if_pos a, decide_eq_false_iff_not]; omega
  · rw [if_neg a, decide_eq_false_iff_not]; omega
theorem spanGt_true {p q : Span} : spanGt p q = true ↔ p.1 > q.1 ∨ (p.1 = q.1 ∧ p.2 > q.2) := by
  unfold spanGt
  by_cases a : p.1 = q.1
  · rw [if_pos a, decide_eq_true_eq]; omega
  · rw [if_neg a, decide_eq_true_eq]; omega
theorem spanGt_trans' {p q r : Span} (h : spanGt p q = false) (h2 : spanGt q r = false) : spanGt p r = false := by
  rw [spanGt_false] at *; omega
theorem spanGt_asym {p q : Span} (h : spanGt p q = true) : spanGt q p = false := by
  rw [spanGt_true] at h; rw [spanGt_false]; omega
theorem spanGt_irrefl (p : Span) : spanGt p p = false := by
  unfold spanGt; rw [if_pos rfl, decide_eq_false_iff_not]; omega

section
variable {prog : Program} {w : World} {A : Around} {s : Shared} {S₀ : Shared} {I₀ I : Imm} {X : List Addr} {L a it bl : Addr} {m : Nm} {M M1 M2 : List (Addr × Obj)} {l : List Span} {vs : List Value}
/-- an iterator over the list at a, before its item j -/
noncomputable def ItAt (a : Addr) (j : Nat) (o : Obj) : Prop := o.cls = .type "list_iterator" ∧ o.data = .fields #[.ref a, .int (j : Int) 0]
theorem ml_name : (toString "max" ++ toString ".loop" : String) = "max.loop" := by decide
theorem it_next {oi : Obj} {j : Nat} {v : Value} {Q : Option Value → Shared → Prop} {E : Value → Shared → Prop} (c : Cx S₀ I₀ X I L m (M1 ++ (it, oi) :: M2) s) (hi : ItAt a j oi) (ha : LstI I a vs) (hv : vs[j]? = some v)
    (h : ∀ o' s', Cx S₀ I₀ X I L m (M1 ++ (it, o') :: M2) s' → ItAt a (j + 1) o' → Q (some v) s') : wpAny (model prog w) A (pyNext (.ref it)) Q E s :=
  wpAny_pyNext_list_item (l := a) ⟨oi, c.mt _ (List.mem_append_right _ (.head _)), hi⟩ (ha.at c.imm) (by simpa using hv) fun _ ⟨o', e, ho⟩ hs =>
    h o' _ (c.turn (tk := s.toks) (fun b _ hb q => (hs.2 b hb).trans q) e) ho
theorem it_end {oi : Obj} {j : Nat} {Q : Option Value → Shared → Prop} {E : Value → Shared → Prop} (c : Cx S₀ I₀ X I L m (M1 ++ (it, oi) :: M2) s) (hh : A.handled = none) (hf : S₀.heap.get? it = none) (hi : ItAt a j oi) (ha : LstI I a vs) (hv : vs[j]? = none)
    (h : ∀ s', Cx S₀ I₀ X I L m (M1 ++ M2) s' → Q none s') : wpAny (model prog w) A (pyNext (.ref it)) Q E s := by
  have hin : (it, oi) ∈ M1 ++ (it, oi) :: M2 := List.mem_append_right _ (.head _)
  refine wpAny_pyNext_list_end (l := a) hh ⟨oi, c.mt _ hin, hi⟩ (ha.at c.imm) (by simpa using hv) fun h' he => h _ ?_
  refine (c.drop ((List.sublist_cons_self _ _).append_left M1)).kept' (wr := [it]) (tk := s.toks) (fun b o hb q => he b o (fun z => hb (z ▸ .head _)) q) fun b hb => ?_
  obtain rfl := List.mem_singleton.mp hb
  refine ⟨hf, c.mtI _ hin, c.mtL _ hin, fun q => ?_⟩
  obtain ⟨p, hp, e⟩ := List.mem_map.mp q
  exact c.sep p hp e
theorem best_set {xs ys : Array Value} {n : Nat} (c : Cx S₀ I₀ X I L m ((bl, seqObj "list" xs n) :: M) s) : ∃ n', Cx S₀ I₀ X I L m ((bl, seqObj "list" ys n') :: M) { s with heap := s.heap.update bl (Obj.mapSeq fun _ => ys) } :=
  ⟨_, c.turn (M1 := []) (tk := s.toks) (fun b ob hne e => (Heap.get?_update_other _ _ (Ne.symm hne)).trans e) (Heap.get?_update_self _ (c.mt (bl, seqObj "list" xs n) (.head _)) rfl)⟩
/-- the search for the greatest span: what stands before j is not above the best so far -/
theorem max_go {R : Result → Shared → Prop} (hh : A.handled = none) (hu : A.units + 3 < cLine) (ha : LstI I a vs) (hl : Are koSpan.toKd I l vs) (hf : S₀.heap.get? it = none)
    (hR : ∀ p v s', Cx S₀ I₀ X I L m M s' → p ∈ l → (∀ q ∈ l, spanGt q p = false) → koSpan.is I p v → R (.ok (.ret v)) s') :
    ∀ (k j n : Nat) (oi : Obj) (p : Span) (v : Value) (s : Shared), vs.length = j + k → Cx S₀ I₀ X I L m ((bl, seqObj "list" #[v, v] n) :: (it, oi) :: M) s → ItAt a j oi → p ∈ l → (∀ q ∈ l.take j, spanGt q p = false) → koSpan.is I p v →
      codeAny (model prog w) A (.builtin "max.loop" ⟨[.ref it, .none, .ref bl], []⟩) R s
  | 0, j, n, oi, p, v, s, hz, c, hi, hp, hb, hpv => by
    refine codeAny_builtin PySem.F.entry_max_loop ?_
    rw [Around.under_plainId PySem.F.plain_max_loop]
    refine wpAny_bind (wpAny_seqItems (c.mt _ (.head _)) rfl ?_)
    refine wpAny_bind (wpAny_tryCatch (it_end (M1 := [_]) c hh hf hi ha (List.getElem?_eq_none (by omega)) fun s1 c1 => ?_))
    refine wpAny_bind (wpAny_updateSeq (c1.mt _ (.head _)) rfl (wpAny_bind (wpAny_letGo (wpAny_pure ?_))))
    obtain ⟨n2, c2⟩ := best_set (ys := #[]) c1
    refine hR p v _ (c2.drop (List.sublist_cons_self _ _)) hp ?_ hpv
    rw [List.take_of_length_le (by rw [← hl.length]; omega)] at hb
    exact hb
  | k + 1, j, n, oi, p, v, s, hz, c, hi, hp, hb, hpv => by
    obtain ⟨u, hju⟩ : ∃ u, vs[j]? = some u := ⟨_, List.getElem?_eq_getElem (by omega)⟩
    obtain ⟨q, hjq, hqu⟩ := hl.get hju
    have hstep : l.take (j + 1) = l.take j ++ [q] := by rw [List.take_add_one, hjq]; rfl
    refine codeAny_builtin PySem.F.entry_max_loop ?_
    rw [Around.under_plainId PySem.F.plain_max_loop]
    refine wpAny_bind (wpAny_seqItems (c.mt _ (.head _)) rfl ?_)
    refine wpAny_bind (wpAny_tryCatch (it_next (M1 := [_]) c hi ha hju fun o1 s1 c1 hi1 => ?_))
    refine wpAny_bind (wpAny_pure (wpAny_bind (wpAny_tryCatch (wpAny_holding (wpAny_bind (GtAt.spans (A := A.in1) (by show A.units + 1 < cLine; omega) c1.imm hqu hpv prog w _ _ ?_))))))
    refine wpAny_bind (wpAny_holding (wpAny_truthy_bool (wpAny_bind (wpAny_letGo (wpAny_pure ?_)))))
    by_cases hgt : spanGt q p = true
    · rw [hgt, if_pos rfl]
      refine wpAny_bind (wpAny_updateSeq (c1.mt _ (.head _)) rfl (wpAny_bind (wpAny_letGo (wpAny_pure ⟨plainId_quiet PySem.F.plain_max_loop _, ?_⟩))))
      obtain ⟨n2, c2⟩ := best_set (ys := #[u, u]) c1
      refine max_go hh hu ha hl hf hR k (j + 1) n2 o1 q u _ (by omega) c2 hi1 (List.mem_of_getElem? hjq) (fun r hr => ?_) hqu
      rw [hstep] at hr
      rcases List.mem_append.mp hr with hr | hr
      · exact spanGt_trans' (hb r hr) (spanGt_asym hgt)
      · rw [List.mem_singleton.mp hr]; exact spanGt_irrefl q
    · rw [if_neg hgt]
      refine wpAny_bind (wpAny_letGo (wpAny_pure ⟨plainId_quiet PySem.F.plain_max_loop _, ?_⟩))
      refine max_go hh hu ha hl hf hR k (j + 1) n o1 p v s1 (by omega) c1 hi1 hp (fun r hr => ?_) hpv
      rw [hstep] at hr
      rcases List.mem_append.mp hr with hr | hr
      · exact hb r hr
      · rw [List.mem_singleton.mp hr]; exact Bool.eq_false_iff.mpr hgt
theorem max_first {R : Result → Shared → Prop} {n : Nat} {oi : Obj} (hh : A.handled = none) (hu : A.units + 3 < cLine) (ha : LstI I a vs) (hl : Are koSpan.toKd I l vs) (hf : S₀.heap.get? it = none) (hn : 0 < l.length)
    (hR : ∀ p v s', Cx S₀ I₀ X I L m M s' → p ∈ l → (∀ q ∈ l, spanGt q p = false) → koSpan.is I p v → R (.ok (.ret v)) s')
    (c : Cx S₀ I₀ X I L m ((bl, seqObj "list" #[] n) :: (it, oi) :: M) s) (hi : ItAt a 0 oi) : codeAny (model prog w) A (.builtin "max.loop" ⟨[.ref it, .none, .ref bl], []⟩) R s := by
  have hlen := hl.length
  obtain ⟨u, hu0⟩ : ∃ u, vs[0]? = some u := ⟨_, List.getElem?_eq_getElem (by omega)⟩
  obtain ⟨q, hq0, hqu⟩ := hl.get hu0
  refine codeAny_builtin PySem.F.entry_max_loop ?_
  rw [Around.under_plainId PySem.F.plain_max_loop]
  refine wpAny_bind (wpAny_seqItems (c.mt _ (.head _)) rfl ?_)
  refine wpAny_bind (wpAny_tryCatch (it_next (M1 := [_]) c hi ha hu0 fun o1 s1 c1 hi1 => ?_))
  refine wpAny_bind (wpAny_pure (wpAny_bind (wpAny_updateSeq (c1.mt _ (.head _)) rfl (wpAny_pure ⟨plainId_quiet PySem.F.plain_max_loop _, ?_⟩))))
  obtain ⟨n2, c2⟩ := best_set (ys := #[u, u]) c1
  refine max_go hh hu ha hl hf hR (vs.length - 1) 1 n2 o1 q u _ (by omega) c2 hi1 (List.mem_of_getElem? hq0) (fun r hr => ?_) hqu
  rw [List.take_add_one, hq0] at hr
  rw [List.mem_singleton.mp hr]; exact spanGt_irrefl q
theorem max_spans {Q : Value → Shared → Prop} (c : Cx S₀ I₀ X I L m M s) (hh : A.handled = none) (hu : A.units + 3 < cLine) (hl : LstI I a vs) (hv : Are koSpan.toKd I l vs) (hn : 0 < l.length)
    (h : ∀ p v s', Cx S₀ I₀ X I L m M s' → p ∈ l → (∀ q ∈ l, spanGt q p = false) → koSpan.is I p v → Q v s') :
    wpAny (model prog w) A (call (.builtin "max") [.ref a]) Q noE s := by
  refine call_function_tree PySem.F.kind_max PySem.F.plain_max PySem.F.entry_max (PySem.F.args_max1 _) ?_
  refine wpAny_bind (wpAny_of_eq (a := [none, none]) rfl (wpAny_bind (wpAny_pure (wpAny_bind (wpAny_pyIter_list (hl.at c.imm) (wpAny_bind (wpAny_newObj_type ?_)))))))
  rw [ml_name]
  have c1 := c.allocM (o := { cls := .type "list_iterator", data := .fields #[.ref a, .int 0 0] }) s.toks rfl
  exact wpAny_pure ⟨plainId_quiet PySem.F.plain_max_loop _, max_first hh hu hl hv (c.fresh (size_none _)) hn h (c1.allocM (o := seqObj "list" #[] 0) s.toks rfl) ⟨rfl, rfl⟩⟩
end
end Mine

set_option maxHeartbeats 400000
namespace Mine
/-! # the book -/
noncomputable def BookI (prog : Program) (w : World) (I : Imm) (b kd bg sl br : Addr) : Prop :=
  (∃ o, I b = some o ∧ o.IsDictOf (strKind prog w) [(("known" : Str), .ref kd), (("gates" : Str), .ref bg), (("seen" : Str), .ref sl), (("races" : Str), .ref br)]) ∧ 5 < kd ∧ 5 < bg
theorem BookI.sub {prog : Program} {w : World} {I J : Imm} {b kd bg sl br : Addr} (h : BookI prog w I b kd bg sl br) (hs : Sub I J) : BookI prog w J b kd bg sl br := let ⟨⟨o, e, d⟩, r⟩ := h; ⟨⟨o, hs _ _ e, d⟩, r⟩
section
variable {prog : Program} {w : World} {A : Around} {s : Shared} {S₀ : Shared} {I₀ I : Imm} {X : List Addr} {m : Nm} {M M1 M2 : List (Addr × Obj)} {env : Env} {b kd bg sl br : Addr}
theorem b_get {x : Str} {t : Tok} {v : Value} {value slice : Expr} {Q : Value → Shared → Prop} (hi : InH I s.heap) (B : BookI prog w I b kd bg sl br)
    (hv : valueAt [(("known" : Str), Value.ref kd), (("gates" : Str), .ref bg), (("seen" : Str), .ref sl), (("races" : Str), .ref br)] x = some v) (h : Q v { s with toks := s.toks + 1 })
    (hs : autoParam (subscripted slice false (.ref b) (.str x t) = operate [.ref b, .str x t] (getItem (.ref b) (.str x t))) tacWU) :
    wpAny (model prog w) A (subscriptTail value slice (.ref b) (.str x t)) Q noE s := by
  obtain ⟨⟨o, e, d⟩, _⟩ := B
  have hD : s.heap.DictOf (strKind prog w) b _ := Heap.dictOf_iff.mpr ⟨o, hi _ _ e, d⟩
  exact tail_any hD.typeIs slot_dict_getitem.lookup (wpAny_getItem_of (strKind_is prog w x t) hD.mapOf hv h) hs
end
section
variable {prog : Program} {w : World} {A : Around} {s : Shared} {S₀ : Shared} {I₀ I : Imm} {X : List Addr} {m : Nm} {M : List (Addr × Obj)} {env : Env}
/-- a for over a thing that may be turned, but is not: J says that it stands -/
theorem for_walkM {target : Expr} {body : List Stmt} {it tl : Addr} {lo : Obj} {fp wr : List Addr} {n : Nat} {P : Nat → Value → Prop} {St : Nat → Heap → Prop} {Q : Flow → Shared → Prop}
    (W : Walks prog w A it fp wr n P St) (c : Cx S₀ I₀ X I env.locals m M s) (hst : St 0 s.heap)
    (hfp : ∀ b ∈ fp, b ≠ env.locals ∧ (b ∉ M.map (·.1) ∨ b = tl)) (hwr : ∀ b ∈ wr, S₀.heap.get? b = none ∧ I b = none ∧ b ∉ M.map (·.1)) (hal : ∀ i h, St i h → ∀ b ∈ wr, ∃ o, h.get? b = some o)
    (J : Nat → Imm → Nm → List (Addr × Obj) → Prop) (h0 : J 0 I m M) (hJ : ∀ i I m M, J i I m M → (tl, lo) ∈ M)
    (turn : ∀ i v I1 m1 M1 s1, i < n → P i v → J i I1 m1 M1 → Sub I I1 → M1.map (·.1) = M.map (·.1) → Cx S₀ I₀ X I1 env.locals m1 M1 s1 → Cx s1 I1 (M1.map (·.1)) I1 env.locals m1 M1 s1 →
      wpAny (model prog w) A (assign target env v) (fun _ s2 => wpAny (model prog w) A (execs body env) (Turn S₀ I₀ X env.locals Q (J (i + 1)) s1 I1 M1) noE s2) noE s1)
    (done : ∀ I1 m1 M1 s1, J n I1 m1 M1 → Sub I I1 → M1.map (·.1) = M.map (·.1) → Cx S₀ I₀ X I1 env.locals m1 M1 s1 → Q .next s1)
    (hlt : ∀ i v (s : Shared) (Q : Unit → Shared → Prop) (E : Value → Shared → Prop), St i s.heap → Q () s → wpAny (model prog w) A (letOwnedTupleGo target (.ref it) v) Q E s) :
    codeAny (model prog w) A (.forLoop target (.ref it) body [] env) (fun r s' => match r with | .ok f => Q f s' | .error e => cameBackBy (model prog w) A env noE e s') s := by
  refine codeAny_forLoop_any (fun k s' => Ex4 fun i I1 m1 M1 => An9 (Cx S₀ I₀ X I1 env.locals m1 M1 s') (Sub I I1) (∀ a o, I1 a = some o → I a = some o ∨ s.heap.get? a = none) (M1.map (·.1) = M.map (·.1)) (J i I1 m1 M1) (St i s'.heap) (i ≤ n) (k = n + 1 - i) (∀ a o, s.heap.get? a = some o → ∃ o', s'.heap.get? a = some o')) ?_ (n + 1)
    ⟨0, I, m, M, c, Sub.refl _, fun _ _ e => .inl e, rfl, h0, hst, Nat.zero_le _, rfl, fun _ o e => ⟨o, e⟩⟩
  rintro k s' ⟨i, I1, m1, M1, c1, sub1, new1, hM1, hJi, hst1, hi, rfl, hal1⟩
  have hw1 : ∀ b ∈ wr, S₀.heap.get? b = none ∧ I1 b = none ∧ b ≠ env.locals ∧ b ∉ M1.map (·.1) := fun b hb => by
    have hf := hfp b (W.sub b hb)
    obtain ⟨a1, a2, a4⟩ := hwr b hb
    obtain ⟨o, a3⟩ := hal _ _ hst b hb
    refine ⟨a1, ?_, hf.1, by rw [hM1]; exact a4⟩
    cases q : I1 b with
    | none => rfl
    | some x => rcases new1 _ _ q with e | e
                · rw [a2] at e; cases e
                · rw [a3] at e; cases e
  by_cases hlt' : i < n
  · refine W.item i _ _ _ hlt' hst1 fun v h1 tk1 hP hst2 hk1 => ?_
    have c2 : Cx S₀ I₀ X I1 env.locals m1 M1 { s' with heap := h1, toks := tk1 } := c1.kept' hk1 hw1
    refine hlt _ _ _ _ _ hst2 ?_
    refine wpAny_mono (turn i v I1 m1 M1 _ hlt' hP hJi sub1 hM1 c2 c2.here) (fun _ s2 h2 => ?_) fun _ _ e => e.elim
    refine wpAny_mono h2 (fun fl s3 h3 => ?_) fun _ _ e => e.elim
    obtain ⟨I2, m2, M2, c3, h3⟩ := h3
    have c4 := c2.then c3
    have fin : M2.map (·.1) = M1.map (·.1) ∧ J (i + 1) I2 m2 M2 → ∃ k', k' < n + 1 - i ∧ Ex4 fun i I1 m1 M1 => An9 (Cx S₀ I₀ X I1 env.locals m1 M1 s3) (Sub I I1) (∀ a o, I1 a = some o → I a = some o ∨ s.heap.get? a = none) (M1.map (·.1) = M.map (·.1)) (J i I1 m1 M1) (St i s3.heap) (i ≤ n) (k' = n + 1 - i) (∀ a o, s.heap.get? a = some o → ∃ o', s3.heap.get? a = some o') := by
      rintro ⟨e1, e2⟩
      have hkeep : ∀ b ∈ fp, ∀ o, h1.get? b = some o → s3.heap.get? b = some o := fun b hb o e => by
        have hf := hfp b hb
        by_cases q : b = tl
        · have h5 := c2.mt _ (hJ _ _ _ _ hJi)
          have h6 := c4.mt _ (hJ _ _ _ _ e2)
          rw [q] at e ⊢
          rw [show h1.get? tl = some lo from h5] at e
          rw [show s3.heap.get? tl = some lo from h6]; exact e
        · refine c3.keep b o e fun q2 => ?_
          rcases List.mem_cons.mp q2 with q2 | q2
          · exact hf.1 q2
          · rw [hM1] at q2
            rcases hf.2 with h | h
            · exact h q2
            · exact q h
      have al2 : ∀ a o, s.heap.get? a = some o → ∃ o', h1.get? a = some o' := fun a o e => by
        by_cases q : a ∈ wr
        · exact hal _ _ hst2 a q
        · obtain ⟨o', e'⟩ := hal1 a o e
          exact ⟨o', hk1 _ _ q e'⟩
      refine ⟨n + 1 - (i + 1), by omega, i + 1, I2, m2, M2, c4, sub1.trans c3.sub, ?_, e1.trans hM1, e2, W.frame _ _ _ hst2 hkeep, hlt', rfl, fun a o e => let ⟨o', e'⟩ := al2 a o e; c3.alive a o' e'⟩
      intro a o e
      rcases c3.new _ _ e with q | q
      · exact new1 _ _ q
      · refine .inr (not_some fun o' e' => ?_)
        obtain ⟨o2, e2⟩ := al2 a o' e'
        rw [show h1.get? a = none from q] at e2; cases e2
    cases fl with
    | next => exact fin h3
    | cont => exact fin h3
    | brk => exact h3 c4
    | ret v => exact h3 c4
  · have hin : i = n := by omega
    subst hin
    refine W.done _ _ _ hst1 fun h1 tk1 hk1 => wpAny_execs_nil ?_
    exact done I1 m1 M1 _ hJi sub1 hM1 (c1.kept' hk1 hw1)
theorem for_lstM {target iter : Expr} {body : List Stmt} {pos : Pos} {t : Addr} {n : Nat} {vs : List Value} {Q : Flow → Shared → Prop} (cU : Cx S₀ I₀ X I env.locals m M s) (hh : A.handled = none)
    (J : Nat → Imm → Nm → List (Addr × Obj) → Prop) (hJ : ∀ i I m M, J i I m M → (t, seqObj "list" vs.toArray n) ∈ M)
    (h : wpAny (model prog w) A (eval iter env) (fun v s1 => v = .ref t ∧ Ex3 fun I1 m1 M1 => An4 (Cx S₀ I₀ X I1 env.locals m1 M1 s1) (J 0 I1 m1 M1) (∀ i v I2 m2 M2 s2, vs[i]? = some v → J i I2 m2 M2 → Sub I1 I2 → M2.map (·.1) = M1.map (·.1) → Cx S₀ I₀ X I2 env.locals m2 M2 s2 → Cx s2 I2 (M2.map (·.1)) I2 env.locals m2 M2 s2 →
        wpAny (model prog w) A (assign target env v) (fun _ s3 => wpAny (model prog w) A (execs body env) (Turn S₀ I₀ X env.locals Q (J (i + 1)) s2 I2 M2) noE s3) noE s2) (∀ I2 m2 M2 s2, J vs.length I2 m2 M2 → Sub I1 I2 → M2.map (·.1) = M1.map (·.1) → Cx S₀ I₀ X I2 env.locals m2 M2 s2 → Q .next s2)) noE s)
    (hs : autoParam (∀ x, foldedSetIterable iter env x = pure x) tacIR) :
    wpAny (model prog w) A (exec (.For target iter body [] pos) env) Q noE s := by
  refine wpAny_For (wpAny_mono h (fun v s1 h1 => ?_) fun _ _ e => e) hs
  obtain ⟨rfl, I1, m1, M1, c, h0, turn, done⟩ := h1
  have hin := hJ _ _ _ _ h0
  have ht : s1.heap.IsList t vs.toArray := ⟨_, c.mt _ hin, rfl, n, rfl⟩
  refine wpAny_pyIter_list ht ?_
  have hlt : t < s1.heap.objs.size := Heap.lt_size (c.mt _ hin)
  have c1 := c.push { cls := .type "list_iterator", data := .fields #[.ref t, .int 0 0] } s1.toks
  refine for_walkM (tl := t) (lo := seqObj "list" vs.toArray n) (Walks.list hh s1.heap.objs.size t (Nat.ne_of_lt hlt) vs.toArray) c1 ⟨⟨_, Heap.get?_push_size _ rfl, rfl, rfl⟩, ⟨_, c1.mt _ hin, rfl, n, rfl⟩⟩ ?_ ?_ ?_ J h0 hJ ?_ ?_ ?_
  · intro b hb
    rcases List.mem_cons.mp hb with rfl | hb
    · refine ⟨Nat.ne_of_gt c.ltL, .inl fun q => ?_⟩
      obtain ⟨p, hp, e⟩ := List.mem_map.mp q
      exact absurd (Heap.lt_size (c.mt p hp)) (by rw [e]; exact Nat.lt_irrefl _)
    · rw [List.mem_singleton.mp hb]
      exact ⟨c.mtL _ hin, .inr rfl⟩
  · intro b hb
    rw [List.mem_singleton.mp hb]
    refine ⟨c.fresh (size_none _), c.noI (size_none _), fun q => ?_⟩
    obtain ⟨p, hp, e⟩ := List.mem_map.mp q
    exact absurd (Heap.lt_size (c.mt p hp)) (by rw [e]; exact Nat.lt_irrefl _)
  · intro i h st b hb
    rw [List.mem_singleton.mp hb]
    obtain ⟨⟨o, e, _⟩, _⟩ := st
    exact ⟨o, e⟩
  · intro i v I2 m2 M2 s2 _ hv hJ hsub hM c2 c3
    exact turn i v I2 m2 M2 s2 (by simpa using hv) hJ hsub hM c2 c3
  · intro I2 m2 M2 s2 hJ hsub hM c2
    exact done I2 m2 M2 s2 (by simpa using hJ) hsub hM c2
  · intro i v s Q E st hq
    obtain ⟨⟨o, e, hc, hd⟩, hx⟩ := st
    exact own_plain e hc (by decide) hq
/-- the same; a turn's end is a name -/
theorem for_lstMN {target iter : Expr} {body : List Stmt} {pos : Pos} {t : Addr} {n : Nat} {vs : List Value} {Q : Flow → Shared → Prop} (cU : Cx S₀ I₀ X I env.locals m M s) (hh : A.handled = none)
    (J : Nat → Imm → Nm → List (Addr × Obj) → Prop) (hJ : ∀ i I m M, J i I m M → (t, seqObj "list" vs.toArray n) ∈ M)
    (h : wpAny (model prog w) A (eval iter env) (fun v s1 => v = .ref t ∧ Ex3 fun I1 m1 M1 => An4 (Cx S₀ I₀ X I1 env.locals m1 M1 s1) (J 0 I1 m1 M1) (∀ (i : Nat) (v : Value) (I2 : Imm) (m2 : Nm) (M2 : List (Addr × Obj)) (s2 : Shared) (X' : List Addr) (Q' : Flow → Shared → Prop), vs[i]? = some v → J i I2 m2 M2 → Sub I1 I2 → (∀ {f I3 m3 M3 s3}, f = .next ∨ f = .cont → Cx s2 I2 X' I3 env.locals m3 M3 s3 → M3.map (·.1) = M2.map (·.1) → J (i + 1) I3 m3 M3 → Q' f s3) → Cx s2 I2 X' I2 env.locals m2 M2 s2 →
        wpAny (model prog w) A (assign target env v) (fun _ s3 => wpAny (model prog w) A (execs body env) Q' noE s3) noE s2) (∀ I2 m2 M2 s2, J vs.length I2 m2 M2 → Sub I1 I2 → M2.map (·.1) = M1.map (·.1) → Cx S₀ I₀ X I2 env.locals m2 M2 s2 → Q .next s2)) noE s)
    (hs : autoParam (∀ x, foldedSetIterable iter env x = pure x) tacIR) :
    wpAny (model prog w) A (exec (.For target iter body [] pos) env) Q noE s :=
  for_lstM cU hh J hJ (wpAny_mono h (fun v s1 ⟨e, I1, m1, M1, c, h0, turn, done⟩ => ⟨e, I1, m1, M1, c, h0, fun i v I2 m2 M2 s2 hv hJ hs _ _ c3 => turn i v I2 m2 M2 s2 _ _ hv hJ hs (fun {f I3 m3 M3 s3} hf c e h => by rcases hf with rfl | rfl <;> exact ⟨_, _, _, c, e, h⟩) c3, done⟩) fun _ _ e => e) hs
end
/-! # what the law has seen -/
structure Seen where
  who : Int
  word : Str
  path : Path
  span : Span
noncomputable def kSeen : Kd Seen := ⟨fun I e v => Ex5 fun t a b c d => An6 (v = .ref t) (TupI I t [a, b, c, d]) (kInt.is I e.who a) (kStr.is I e.word b) (kPath.is I e.path c) (koSpan.is I e.span d),
  fun hs ⟨t, a, b, c, d, e, h, h1, h2, h3, h4⟩ => ⟨t, a, b, c, d, e, h.sub hs, kInt.sub hs h1, kStr.sub hs h2, kPath.sub hs h3, koSpan.sub hs h4⟩⟩
end Mine

set_option maxHeartbeats 400000
namespace Mine
section
variable {prog : Program} {w : World} {A : Around} {s : Shared} {S₀ : Shared} {I₀ I : Imm} {X : List Addr} {L : Addr} {m : Nm} {M : List (Addr × Obj)}
theorem Cx.callQ' {t : Sem Value} {P : Imm → List (Addr × Obj) → Value → Prop} {Q : Value → Shared → Prop} {Mc Mr : List (Addr × Obj)} (c : Cx S₀ I₀ X I L m (Mr ++ Mc) s)
    (h : wpAny (model prog w) A t (PostQ s I (Mc.map (·.1)) P) noE s)
    (k : ∀ v I' s' Ma, Cx S₀ I₀ X I' L m (Mr ++ Ma) s' → Sub I I' → (∀ y ∈ Mc.map (·.1), y ∈ Ma.map (·.1)) → P I' Ma v → Q v s') : wpAny (model prog w) A t Q noE s := by
  have c0 : Cx S₀ I₀ X I L m (Mr ++ (Mc ++ [])) s := by rw [List.append_nil]; exact c
  refine Cx.callP (M1 := Mr) (Mc := Mc) (M2 := []) (P := fun I' Ms N v => Ms.map (·.1) = Mc.map (·.1) ∧ ∃ Ma, (N ++ Ms).Perm Ma ∧ P I' Ma v) c0 (wpAny_mono h (fun v s' ⟨I', Ms, N, g, e, hm, hN, p⟩ => ⟨I', Ms, N, g, e, hm, hN, e, p⟩) fun _ _ e => e) ?_
  rintro v I' s' Ms N c' sub ⟨e, Ma, hp, p⟩
  refine k v I' s' Ma (c'.perm ?_) sub (fun y hy => ?_) p
  · show (N ++ (Mr ++ (Ms ++ []))).Perm _
    rw [List.append_nil]
    have h1 : (N ++ (Mr ++ Ms)).Perm (Mr ++ (N ++ Ms)) := by
      rw [← List.append_assoc, ← List.append_assoc]
      exact List.perm_append_comm.append_right _
    exact h1.trans (hp.append_left _)
  · rw [← e] at hy
    exact (hp.map (·.1)).mem_iff.mp (by rw [List.map_append]; exact List.mem_append_right _ hy)
end
/-- a list holds just the spans that a clock knows -/
noncomputable def SpSet (l : List Span) (v : Vec) : Prop := l.Nodup ∧ ∀ p, p ∈ l ↔ InG p.1 ∧ 1 ≤ p.2 ∧ p.2 ≤ v p.1
/-- the rows that the law's own book notes -/
noncomputable def NewB (l : List Span) (g : Int) (isW : Bool) (path : Path) (e : Seen) (r : Race) : Prop :=
  e.who ≠ g ∧ (isW = true ∨ e.word = "write") ∧ meet e.path path = true ∧ e.span ∉ l ∧ r = ((1, path), (e.who, e.word), (g, wd isW))
inductive AccP (prog : Program) (w : World) (V : Int → Vec) (g : Int) (isW : Bool) (path : Path) (l : List Span) (R0 B0 : List Race) (tbl : List Pl) (seen : List Seen) (ko : Obj) (cd pd rl kd sl br : Addr) (I' : Imm) (Ma : List (Addr × Obj)) (v : Value) : Prop
  | mk (Mw : List (Addr × Obj)) (sv : List Value) (nv : Nat) (bv : List Value) (nb : Nat) (B' : List Race) : Ma = (br, seqObj "list" bv.toArray nb) :: (kd, ko) :: (sl, seqObj "list" sv.toArray nv) :: Mw → LookP prog w V g isW path R0 tbl cd pd rl I' Mw .none →
    Are koRace.toKd I' B' bv → B'.Nodup → (∀ r, r ∈ B' ↔ r ∈ B0 ∨ ∃ e ∈ seen, NewB l g isW path e r) → Are kSeen I' (seen ++ [⟨g, wd isW, path, (g, (V g g : Int))⟩]) sv → v = .none → AccP prog w V g isW path l R0 B0 tbl seen ko cd pd rl kd sl br I' Ma v
theorem max_own {l : List Span} {v : Vec} {g : Int} {p : Span} (h : SpSet l v) (hg : InG g) (h1 : 1 ≤ v g) (hp : p ∈ mine l g) (hm : ∀ q ∈ mine l g, spanGt q p = false) : p = (g, (v g : Int)) := by
  unfold mine at *
  rw [List.mem_filter] at hp
  have hpg : p.1 = g := of_decide_eq_true hp.2
  have h2 := (h.2 p).mp hp.1
  have hin : (g, (v g : Int)) ∈ l.filter fun p => decide (p.1 = g) := List.mem_filter.mpr ⟨(h.2 _).mpr ⟨hg, by show (1 : Int) ≤ v g; omega, by show (v g : Int) ≤ v g; omega⟩, decide_eq_true rfl⟩
  have h3 := spanGt_false.mp (hm _ hin)
  simp only at h3
  rw [hpg] at h2
  have : p.2 = (v g : Int) := by omega
  exact Prod.ext hpg this
end Mine

set_option maxHeartbeats 400000
namespace Mine
section
variable {prog : Program} {w : World} {A : Around} {s : Shared} {mb : Nm} {I : Imm} {d : Nat} {x cd ld gd pd rl b kd bg sl br : Addr} {o po ko : Obj} {ks : List (Int × List Span)} {g : Int} {tk : Tok}
theorem LookP.sub {V : Int → Vec} {isW : Bool} {path : Path} {R0 : List Race} {tbl : List Pl} {I J : Imm} {Ma : List (Addr × Obj)} {v : Value} (h : LookP prog w V g isW path R0 tbl cd pd rl I Ma v) (hs : Sub I J) : LookP prog w V g isW path R0 tbl cd pd rl J Ma v := by
  obtain ⟨o', po', rs', n', R', Mpl', tbl', q1, q2, q3, q4, q5, q6, q7, q8, q9⟩ := h
  exact ⟨o', po', rs', n', R', Mpl', tbl', q1, q2.sub hs, q3.sub hs, q4.sub hs, q5, q6, q7, q8, q9⟩
theorem access_ok {V : Int → Vec} {R0 B0 : List Race} {rs0 bv0 sv0 : List Value} {n0 nb0 nv0 : Nat} {Mpl : List (Addr × Obj)} {tbl : List Pl} {isW : Bool} {path : Path} {tw : Tok} {pv : Value} {l : List Span} {seen : List Seen}
    (R : Room A (d + 6)) (T : Tp (KK w.params) mb I) (hI : InH I s.heap) (W : WatchI I x cd ld gd pd rl) (B : BookI prog w I b kd bg sl br)
    (hO : Own s I ((br, seqObj "list" bv0.toArray nb0) :: (kd, ko) :: (sl, seqObj "list" sv0.toArray nv0) :: (cd, o) :: (pd, po) :: (rl, seqObj "list" rs0.toArray n0) :: Mpl)) (hk : DK prog w kVec I o (vks V)) (hg : InG g)
    (hR : Are koRace.toKd I R0 rs0) (hnd : R0.Nodup) (hRz : R0.length ≤ 100) (hB : Are koRace.toKd I B0 bv0) (hBnd : B0.Nodup) (hBz : B0.length ≤ 100) (hP : PlSt prog w I po Mpl tbl) (htz : tbl.length ≤ 20) (hl : kPath.is I path pv) (hpz : path.length ≤ 100) (hpp : ∀ pl ∈ tbl, pl.path.length ≤ 100)
    (hks : DK prog w kSpans I ko ks) (hlk : look ks g = some l) (hset : SpSet l (V g)) (hV1 : 1 ≤ V g g) (hlz : l.length ≤ 400) (hS : Are kSeen I seen sv0) (hSz : seen.length ≤ 100) (hSp : ∀ e ∈ seen, e.path.length ≤ 100) :
    wpAny (model prog w) A (call (.ref 293) [.ref x, .ref b, .int g tk, .str (wd isW) tw, pv]) (PostQ s I (((br, seqObj "list" bv0.toArray nb0) :: (kd, ko) :: (sl, seqObj "list" sv0.toArray nv0) :: (cd, o) :: (pd, po) :: (rl, seqObj "list" rs0.toArray n0) :: Mpl).map (·.1))
      (AccP prog w V g isW path l R0 B0 tbl seen ko cd pd rl kd sl br)) noE s := by
  obtain ⟨pa, pvs, rfl, hpa, hpvs⟩ := hl
  refine call_defCPQ (fd := fdA 293) (binds := [("watch", _), ("book", _), ("who", _), ("word", _), ("path", _)]) R T hI hO rfl rfl rfl rfl rfl rfl rfl ?_ rfl rfl rfl
  intro X Q L s1 Mc hQ hL hMc c1 R1
  obtain ⟨oc, rfl, hoc⟩ := cells1 (n := ("who" : Str)) (c := L + 1) (v := some (.int g tk)) hMc rfl
  obtain ⟨mL, hmL⟩ : ∃ mL, mL = bindL (callEnvC (fdA 293) L 293).kindOf [("watch", .ref x), ("book", .ref b), ("who", .int g tk), ("word", .str (wd isW) tw), ("path", .ref pa)] fun _ => none := ⟨_, rfl⟩
  have ew : mL "watch" = some (.ref x) := by rw [hmL]; rfl
  have eb : mL "book" = some (.ref b) := by rw [hmL]; rfl
  have eo : mL "word" = some (.str (wd isW) tw) := by rw [hmL]; rfl
  have ep : mL "path" = some (.ref pa) := by rw [hmL]; rfl
  replace c1 : Cx s I X I L mL ([(L + 1, oc), (br, seqObj "list" bv0.toArray nb0), (kd, ko), (sl, seqObj "list" sv0.toArray nv0)] ++ ((cd, o) :: (pd, po) :: (rl, seqObj "list" rs0.toArray n0) :: Mpl)) s1 := by rw [hmL]; exact c1
  obtain ⟨P1, hP1⟩ : ∃ (P1 : Shared → Prop), ∀ s', P1 s' ↔ (Ex2 fun I' Mw => An4 (Cx s I X I' L mL ([(L + 1, oc), (br, seqObj "list" bv0.toArray nb0), (kd, ko), (sl, seqObj "list" sv0.toArray nv0)] ++ Mw) s') (Sub I I') (∀ y ∈ ((cd, o) :: (pd, po) :: (rl, seqObj "list" rs0.toArray n0) :: Mpl).map (·.1), y ∈ Mw.map (·.1)) (LookP prog w V g isW path R0 tbl cd pd rl I' Mw .none)) := ⟨_, fun _ => Iff.rfl⟩
  refine wpAny_execs_cons (wpAny_mono (Q := fun f s' => f = .next ∧ P1 s') ?_ ?_ fun _ _ e => e)
  · refine wpAny_If (wpAny_isTrue_Compare1 (en c1 eo (cstr c1 fun t2 s2 c2 => P.eq_str (wpAny_truthy_bool ?_)) rfl rfl))
    have hcall : ∀ (tl : Addr) (I3 : Imm) (s3 : Shared), Cx s I X I3 L mL ([(L + 1, oc), (br, seqObj "list" bv0.toArray nb0), (kd, ko), (sl, seqObj "list" sv0.toArray nv0)] ++ ((cd, o) :: (pd, po) :: (rl, seqObj "list" rs0.toArray n0) :: Mpl)) s3 → Sub I I3 → koLoc.is I3 (1, path) (.ref tl) →
        wpAny (model prog w) (A.deeper (callEnvC (fdA 293) L 293)) (call (.ref (if isW then 224 else 217)) [.ref x, .int g tk, .ref tl]) (fun v s' => v = .none ∧ P1 s') noE s3 := by
      intro tl I3 s3 c3 sub3 htl
      refine Cx.callQ' c3 (rw_ok (d := d) (isW := isW) R1 (T.sub sub3) c3.imm (W.sub sub3) (c3.own (List.sublist_append_right _ _)) (hk.sub sub3) hg (hR.sub sub3) hnd hRz (hP.sub sub3) htz htl hpz hpp) ?_
      rintro v4 I4 s4 Ma c4 sub4 hY hlook
      obtain ⟨o', po', rs', n', R', Mpl', tbl', q1, q2, q3, q4, q5, q6, q7, q8, q9⟩ := hlook
      exact ⟨q9, (hP1 _).mpr ⟨I4, Ma, c4, sub3.trans sub4, hY, o', po', rs', n', R', Mpl', tbl', q1, q2, q3, q4, q5, q6, q7, q8, rfl⟩⟩
    cases isW with
    | true =>
      show wpAny _ _ (execs _ _) _ _ _
      refine wpAny_execs_cons (wpAny_Expr ?_)
      refine mcall ?_
      refine en c2 ew ?_ rfl rfl
      refine w_m T c2 W rfl rfl (by intros; rfl) ?_
      refine cwK (K := KK w.params) rfl (spliced_more (enC c2 (.head _) hoc (spliced_more (tupE c2 (spliced_more (cint c2 fun t3 s3 c3 => spliced_more (en c3 ep (spliced_none ⟨_, _, c3, by simp, fun tl I4 s4 c4 sub4 htl => ?_⟩) rfl rfl))))) rfl rfl rfl))
      refine spliced_none ⟨(T.sub sub4).inn c4.imm, ?_⟩
      refine wpAny_mono (hcall tl I4 s4 c4 sub4 ⟨tl, _, _, rfl, htl, ⟨_, rfl⟩, pa, pvs, rfl, hpa.sub sub4, hpvs.sub sub4⟩) (fun v s' h => ?_) fun _ _ e => e
      obtain ⟨rfl, h⟩ := h
      refine wpAny_execs_nil ?_
      exact ⟨rfl, h⟩
    | false =>
      show wpAny _ _ (execs _ _) _ _ _
      refine wpAny_execs_cons (wpAny_Expr ?_)
      refine mcall ?_
      refine en c2 ew ?_ rfl rfl
      refine w_m T c2 W rfl rfl (by intros; rfl) ?_
      refine cwK (K := KK w.params) rfl (spliced_more (enC c2 (.head _) hoc (spliced_more (tupE c2 (spliced_more (cint c2 fun t3 s3 c3 => spliced_more (en c3 ep (spliced_none ⟨_, _, c3, by simp, fun tl I4 s4 c4 sub4 htl => ?_⟩) rfl rfl))))) rfl rfl rfl))
      refine spliced_none ⟨(T.sub sub4).inn c4.imm, ?_⟩
      refine wpAny_mono (hcall tl I4 s4 c4 sub4 ⟨tl, _, _, rfl, htl, ⟨_, rfl⟩, pa, pvs, rfl, hpa.sub sub4, hpvs.sub sub4⟩) (fun v s' h => ?_) fun _ _ e => e
      obtain ⟨rfl, h⟩ := h
      refine wpAny_execs_nil ?_
      exact ⟨rfl, h⟩
  · rintro _ s3 ⟨rfl, h3⟩
    obtain ⟨I3, Mw, c3, sub3, hY3, hLook⟩ := (hP1 _).mp h3
    obtain ⟨J, hJ⟩ : ∃ (J : Nat → Imm → Nm → List (Addr × Obj) → Prop), ∀ i I1 m1 M1, J i I1 m1 M1 ↔ ((m1 "book" = some (.ref b) ∧ m1 "word" = some (.str (wd isW) tw) ∧ m1 "path" = some (.ref pa)) ∧ Ex3 fun B' bv nb => An5 (M1 = (L + 1, oc) :: (br, seqObj "list" (bv : List Value).toArray nb) :: (kd, ko) :: (sl, seqObj "list" sv0.toArray nv0) :: Mw) (Are koRace.toKd I1 B' bv) (NP B0 B') (B'.length ≤ B0.length + i) (∀ r, r ∈ B' ↔ r ∈ B0 ∨ ∃ e ∈ seen.take i, NewB l g isW path e r)) := ⟨_, fun _ _ _ _ => Iff.rfl⟩
    refine wpAny_execs_cons ?_
    refine for_lstMN (t := sl) (n := nv0) (vs := sv0) c3 R1.hd J ?_ ?_
    · intro i I1 m1 M1 hj
      obtain ⟨_, B', bv, nb, rfl, _⟩ := (hJ _ _ _ _).mp hj
      exact .tail _ (.tail _ (.tail _ (.head _)))
    refine Subscript_ (en c3 eb (cstr c3 fun t4 s4 c4 => b_get (s := s4) c4.imm (B.sub sub3) rfl ?_) rfl rfl)
    refine ⟨rfl, I3, _, _, c4.toks, (hJ _ _ _ _).mpr ⟨⟨eb, eo, ep⟩, B0, bv0, nb0, rfl, hB.sub sub3, NP.refl hBnd, Nat.le_refl _, fun r => ⟨.inl, fun h => h.elim id fun ⟨e, he, _⟩ => by simp at he⟩⟩, ?_, ?_⟩
    · intro i v5 I5 m5 M5 s5 X5 Q5 hv hj5 sub5 hQ5 c6
      obtain ⟨⟨e1, e2, e3⟩, B5, bv5, nb5, rfl, hB5, hnd5, hz5, hm5⟩ := (hJ _ _ _ _).mp hj5
      have sub05 := sub3.trans sub5
      obtain ⟨e, he, te, ea, eb, ec, ed, rfl, hte, ⟨ta, rfl⟩, ⟨tb, rfl⟩, hpc, hsp⟩ := (hS.sub sub05).get hv
      have hem : e ∈ seen := List.mem_of_getElem? he
      have hi : i < seen.length := (List.getElem?_eq_some_iff.mp he).1
      have T5 := T.sub sub05
      refine esg4 (env := callEnvC (fdA 293) L 293) c6 R1.hd (hte.at c6.imm) (fun s7 c7 => ?_) rfl rfl rfl rfl rfl
      refine wpAny_execs_cons (wpAny_Assign_Name ?_)
      refine tupE c7 (spliced_more (tupE c7 (spliced_more (cint c7 fun t8 s8 c8 => spliced_more (en c8 e3 (spliced_none ⟨_, _, c8, by simp, fun za Ia sa ca suba hza => ?_⟩) rfl rfl)))))
      refine spliced_more (tupE ca (spliced_more (en ca rfl (spliced_more (en ca rfl (spliced_none ⟨_, _, ca, by simp, fun zb Ib sb cb subb hzb => ?_⟩) rfl rfl)) rfl rfl)))
      refine spliced_more (tupE cb (spliced_more (enC cb (.head _) hoc (spliced_more (en cb e2 (spliced_none ⟨_, _, cb, by simp, fun zc Ic sc cc subc hzc => ?_⟩) rfl rfl)) rfl rfl rfl)))
      refine spliced_none ⟨_, _, cc, by simp, fun zd Id sd cdd subd hzd => ?_⟩
      refine es (env := callEnvC (fdA 293) L 293) cdd (fun se ce => ?_) rfl rfl
      have sub5d := suba.trans (subb.trans (subc.trans subd))
      have hrow : koRace.is Id ((1, path), (e.who, e.word), (g, wd isW)) (.ref zd) :=
        ⟨zd, _, _, _, rfl, hzd, ⟨za, _, _, rfl, hza.sub (subb.trans (subc.trans subd)), ⟨_, rfl⟩, pa, pvs, rfl, hpa.sub (sub05.trans sub5d), hpvs.sub (sub05.trans sub5d)⟩, ⟨zb, _, _, rfl, hzb.sub (subc.trans subd), ⟨_, rfl⟩, ⟨_, rfl⟩⟩, ⟨zc, _, _, rfl, hzc.sub subd, ⟨_, rfl⟩, ⟨_, rfl⟩⟩⟩
      have sub0d := sub05.trans sub5d
      have Td := T.sub sub0d
      obtain ⟨P2, hP2⟩ : ∃ (P2 : Bool → Shared → Prop), ∀ cb' s', P2 cb' s' ↔ (∃ If, Cx s5 I5 X5 If L (upd (upd (upd (upd (upd m5 "other" (.int e.who ta)) "earlier" (.str e.word tb)) "where" ec) "span" ed) "row" (.ref zd)) ((L + 1, oc) :: (br, seqObj "list" bv5.toArray nb5) :: (kd, ko) :: (sl, seqObj "list" sv0.toArray nv0) :: Mw) s' ∧ Sub Id If ∧
        (cb' = false ↔ (e.who ≠ g ∧ (isW = true ∨ e.word = "write") ∧ meet e.path path = true))) := ⟨_, fun _ _ => Iff.rfl⟩
      refine wpAny_execs_cons (wpAny_If (wpAny_mono (Q := P2) ?_ ?_ fun _ _ e => e))
      · refine isTrue_or (wpAny_isTrue_Compare1 (en ce rfl (enC ce (.head _) hoc (PyProof.Rows.eq_int (wpAny_truthy_bool ?_)) rfl rfl rfl) rfl rfl))
        by_cases h1 : e.who = g
        · rw [show (e.who == g) = true from beq_iff_eq.mpr h1, if_pos rfl]
          exact (hP2 _ _).mpr ⟨Id, ce, Sub.refl _, fun h => (by cases h), fun h => absurd h1 h.1⟩
        · rw [show (e.who == g) = false from beq_eq_false_iff_ne.mpr h1, if_neg Bool.false_ne_true]
          refine isTrue_or (wpAny_isTrue_Compare1 (cstr ce fun tq sq cq => lstE cq (spliced_more (en cq e2 (spliced_more (en cq rfl (spliced_none ⟨_, _, cq, by simp, fun zl Il sl2 cl subl hzl => ?_⟩) rfl rfl)) rfl rfl))))
          refine notIn_b koStr (l := [wd isW, e.word]) (d := ("write" : Str)) (R1.fits (by decide)) cl.imm (hzl.at cl.imm) ⟨⟨_, rfl⟩, ⟨_, rfl⟩, trivial⟩ ⟨_, rfl⟩ fun bb hbb => wpAny_truthy_bool ?_
          have hww : (("write" : Str) ∈ [wd isW, e.word]) ↔ (isW = true ∨ e.word = "write") := by
            rw [List.mem_cons, List.mem_singleton]
            constructor
            · rintro (h | h)
              · cases isW with
                | true => exact .inl rfl
                | false => exact absurd h (by decide)
              · exact .inr h.symm
            · rintro (h | h)
              · rw [h]; exact .inl rfl
              · exact .inr h.symm
          by_cases h2 : isW = true ∨ e.word = "write"
          · have hbf : bb = false := by
              cases bb with
              | false => rfl
              | true => exact absurd (hww.mpr h2) (hbb.mp rfl)
            subst hbf
            rw [if_neg Bool.false_ne_true]
            refine isTrue_or (isTrue_not (wpAny_isTrue_value ?_))
            refine Call_Name rfl (enG (Td.sub subl) cl rfl ?_ rfl rfl rfl)
            refine cwK (K := KK w.params) rfl (spliced_more (en cl rfl (spliced_more (en cl e3 (spliced_none ⟨(Td.sub subl).inn cl.imm, ?_⟩) rfl rfl)) rfl rfl))
            refine cl.call0 (P := fun _ x => x = .bool (meet e.path path)) (meets_ok (d := d) (R1.le (by omega)) (Td.sub subl) cl.imm (kPath.sub (sub5d.trans subl) hpc) ⟨pa, pvs, rfl, hpa.sub (sub0d.trans subl), hpvs.sub (sub0d.trans subl)⟩ (by have := hSp e hem; omega) (by omega)) ?_
            rintro _ Im sm cm subm rfl
            refine wpAny_truthy_bool ?_
            cases h3 : meet e.path path with
            | true =>
              refine isTrue_or_nil ?_
              exact (hP2 _ _).mpr ⟨Im, cm, subl.trans subm, fun _ => ⟨h1, h2, h3⟩, fun _ => rfl⟩
            | false =>
              exact (hP2 _ _).mpr ⟨Im, cm, subl.trans subm, fun h => (by cases h), fun h => (by have := h.2.2; rw [h3] at this; cases this)⟩
          · have hbt : bb = true := hbb.mpr fun h => h2 (hww.mp h)
            subst hbt
            exact (hP2 _ _).mpr ⟨Il, cl, subl, fun h => (by cases h), fun h => absurd h.2.1 h2⟩
      · intro cb' s8 h8
        obtain ⟨I8, c8, sub8, hcb⟩ := (hP2 _ _).mp h8
        have sub58 := sub5d.trans sub8
        have sub08 := sub05.trans sub58
        have T8 := T.sub sub08
        have htk : seen.take (i + 1) = seen.take i ++ [e] := by rw [List.take_add_one, he]; rfl
        cases cb' with
        | true =>
          refine wpAny_execs_cons (wpAny_Continue ?_)
          refine hQ5 (.inr rfl) c8 rfl ((hJ _ _ _ _).mpr ⟨⟨e1, e2, e3⟩, B5, bv5, nb5, rfl, hB5.sub sub58, hnd5, by omega, fun r => ?_⟩)
          rw [hm5 r, htk]
          constructor
          · rintro (h | ⟨y, h1, h2⟩)
            · exact .inl h
            · exact .inr ⟨y, List.mem_append_left _ h1, h2⟩
          · rintro (h | ⟨y, h1, h2⟩)
            · exact .inl h
            · rcases List.mem_append.mp h1 with h1 | h1
              · exact .inr ⟨y, h1, h2⟩
              · rw [List.mem_singleton.mp h1] at h2
                have := hcb.mpr ⟨h2.1, h2.2.1, h2.2.2.1⟩
                cases this
        | false =>
          have hcond := hcb.mp rfl
          refine wpAny_execs_nil ?_
          obtain ⟨P3, hP3⟩ : ∃ (P3 : Shared → Prop), ∀ s', P3 s' ↔ (Ex5 fun I' B' bv nb m' => An6 (Cx s5 I5 X5 I' L m' ((L + 1, oc) :: (br, seqObj "list" (bv : List Value).toArray nb) :: (kd, ko) :: (sl, seqObj "list" sv0.toArray nv0) :: Mw) s') (m' "book" = some (.ref b) ∧ m' "word" = some (.str (wd isW) tw) ∧ m' "path" = some (.ref pa)) (Are koRace.toKd I' B' bv) (NP B5 B') (B'.length ≤ B0.length + (i + 1)) (∀ r, r ∈ B' ↔ r ∈ B5 ∨ (e.span ∉ l ∧ r = ((1, path), (e.who, e.word), (g, wd isW))))) := ⟨_, fun _ => Iff.rfl⟩
          refine wpAny_execs_cons (if_join P3 (isTrue_and (wpAny_isTrue_Compare1 ?_)) ?_)
          · refine en c8 rfl ?_ rfl rfl
            refine Subscript_ (Subscript_ (en c8 e1 (cstr c8 fun t9 s9 c9 => b_get (s := s9) c9.imm (B.sub sub08) rfl (enC c9.toks (.head _) hoc ?_ rfl rfl rfl)) rfl rfl))
            refine dk_get (M1 := [(L + 1, oc), (br, seqObj "list" bv5.toArray nb5)]) c9.toks (hks.sub sub08) hlk (fun s10 v10 c10 hv10 => ?_) rfl
            obtain ⟨a10, vs10, rfl, ha10, hvs10⟩ := hv10
            refine notIn_b koSpan (R1.fits (by decide)) c10.imm (ha10.at c10.imm) hvs10 (koSpan.sub (sub58) hsp) fun bb hbb => wpAny_truthy_bool ?_
            by_cases hin : e.span ∈ l
            · have hbf : bb = false := by
                cases bb with
                | false => rfl
                | true => exact absurd hin (hbb.mp rfl)
              subst hbf
              rw [if_neg Bool.false_ne_true]
              exact ⟨fun h => (by cases h), fun _ => (hP3 _).mpr ⟨I8, B5, bv5, nb5, _, c10, ⟨e1, e2, e3⟩, hB5.sub sub58, NP.refl hnd5.1, by omega, fun r => ⟨.inl, fun h => h.elim id fun h => absurd hin h.1⟩⟩⟩
            · have hbt : bb = true := hbb.mpr hin
              subst hbt
              rw [if_pos rfl]
              refine isTrue_and (wpAny_isTrue_Compare1 (en c10 rfl ?_ rfl rfl))
              refine Subscript_ (en c10 e1 (cstr c10 fun t11 s11 c11 => b_get (s := s11) c11.imm (B.sub sub08) rfl ?_) rfl rfl)
              have c12 := c11.toks (tk := s11.toks + 1)
              refine notIn_b koRace (R1.fits (by decide)) c12.imm ⟨_, c12.mt (br, seqObj "list" bv5.toArray nb5) (.tail _ (.head _)), rfl, nb5, rfl⟩ (hB5.sub sub58) (koRace.sub sub8 hrow) fun b2 hb2 => wpAny_truthy_bool ?_
              by_cases hmem : (((1 : Int), path), (e.who, e.word), (g, wd isW)) ∈ B5
              · have hbf : b2 = false := by
                  cases b2 with
                  | false => rfl
                  | true => exact absurd hmem (hb2.mp rfl)
                subst hbf
                rw [if_neg Bool.false_ne_true]
                exact ⟨fun h => (by cases h), fun _ => (hP3 _).mpr ⟨I8, B5, bv5, nb5, _, c12, ⟨e1, e2, e3⟩, hB5.sub sub58, NP.refl hnd5.1, by omega, fun r => ⟨.inl, fun h => h.elim id fun h => by rw [h.2]; exact hmem⟩⟩⟩
              · have hbt : b2 = true := hb2.mpr hmem
                subst hbt
                rw [if_pos rfl]
                refine isTrue_and_nil ⟨fun _ => ?_, fun h => (by cases h)⟩
                refine wpAny_execs_cons (wpAny_Expr ?_)
                refine mcall ?_
                refine Subscript_ (en c12 e1 (cstr c12 fun t13 s13 c13 => b_get (s := s13) c13.imm (B.sub sub08) rfl ?_) rfl rfl)
                have c14 := c13.toks (tk := s13.toks + 1)
                refine lmeth (o := newL) slot_list_append type_list_append (c14.mt (br, seqObj "list" bv5.toArray nb5) (.tail _ (.head _))) ?_
                refine cwB (spliced_more (en c14 rfl (spliced_none ?_) rfl rfl))
                refine append_ok (M1 := [(L + 1, oc)]) c14 rfl (small (by rw [hB5.length]; omega)) fun sg ng cg => ?_
                refine wpAny_execs_nil ⟨rfl, (hP3 _).mpr ⟨I8, B5 ++ [((1, path), (e.who, e.word), (g, wd isW))], bv5 ++ [Value.ref zd], ng, _, cg, ⟨e1, e2, e3⟩, (hB5.sub sub58).snoc (koRace.sub sub8 hrow), ⟨?_, List.prefix_append _ _⟩, ?_, fun r => ?_⟩⟩
                · rw [List.nodup_append]
                  refine ⟨hnd5.1, by simp, ?_⟩
                  intro a ha b hb e
                  rw [List.mem_singleton.mp hb] at e
                  rw [e] at ha; exact hmem ha
                · rw [List.length_append]; simp; omega
                · rw [List.mem_append, List.mem_singleton]
                  exact ⟨fun h => h.elim .inl fun h => .inr ⟨hin, h⟩, fun h => h.elim .inl fun h => .inr h.2⟩
          · intro s9 h9
            obtain ⟨I9, B9, bv9, nb9, m9, c9, ⟨a1, a2, a3⟩, hB9, hnd9, hz9, hm9⟩ := (hP3 _).mp h9
            refine wpAny_execs_nil (hQ5 (.inl rfl) c9 rfl ((hJ _ _ _ _).mpr ⟨⟨a1, a2, a3⟩, B9, bv9, nb9, rfl, hB9, hnd5.trans hnd9, hz9, fun r => ?_⟩))
            rw [hm9 r, hm5 r, htk]
            constructor
            · rintro ((h | ⟨y, h1, h2⟩) | ⟨h1, h2⟩)
              · exact .inl h
              · exact .inr ⟨y, List.mem_append_left _ h1, h2⟩
              · exact .inr ⟨e, List.mem_append_right _ (.head _), hcond.1, hcond.2.1, hcond.2.2, h1, h2⟩
            · rintro (h | ⟨y, h1, h2⟩)
              · exact .inl (.inl h)
              · rcases List.mem_append.mp h1 with h1 | h1
                · exact .inl (.inr ⟨y, h1, h2⟩)
                · rw [List.mem_singleton.mp h1] at h2
                  exact .inr ⟨h2.2.2.2.1, h2.2.2.2.2⟩
    · intro I9 m9 M9 s9 hj9 sub9 hM9 c9
      obtain ⟨⟨e1, e2, e3⟩, B9, bv9, nb9, rfl, hB9, hnd9, hz9, hm9⟩ := (hJ _ _ _ _).mp hj9
      have hlenS : sv0.length = seen.length := hS.length
      rw [hlenS, List.take_length] at hm9
      have sub09 := sub3.trans sub9
      have T9 := T.sub sub09
      refine wpAny_execs_cons (wpAny_Expr ?_)
      refine mcall ?_
      refine Subscript_ (en c9 e1 (cstr c9 fun t10 s10 c10 => b_get (s := s10) c10.imm (B.sub sub09) rfl ?_) rfl rfl)
      have c11 := c10.toks (tk := s10.toks + 1)
      refine lmeth (o := newL) slot_list_append type_list_append (c11.mt (sl, seqObj "list" sv0.toArray nv0) (.tail _ (.tail _ (.tail _ (.head _))))) ?_
      refine cwB (spliced_more (tupE c11 (spliced_more (enC c11 (.head _) hoc (spliced_more (en c11 e2 (spliced_more (en c11 e3 (spliced_more ?_) rfl rfl)) rfl rfl)) rfl rfl rfl))))
      refine Call_Name rfl (enB T9 c11 rfl rfl (by decide) ?_ rfl rfl rfl rfl)
      refine cwB (spliced_more ?_)
      refine comp_pick koSpan (fun p => decide (p.1 = g)) c11 R1.hd (cl := [(("who" : Str), L + 1)]) rfl rfl rfl rfl rfl rfl ?_
      refine Subscript_ (Subscript_ (en c11 e1 (cstr c11 fun t12 s12 c12 => b_get (s := s12) c12.imm (B.sub sub09) rfl (enC c12.toks (.head _) hoc ?_ rfl rfl rfl)) rfl rfl))
      refine dk_get (M1 := [(L + 1, oc), (br, seqObj "list" bv9.toArray nb9)]) c12.toks (hks.sub sub09) hlk (fun s13 v13 c13 hv13 => ?_) rfl
      obtain ⟨a13, vs13, rfl, ha13, hvs13⟩ := hv13
      refine ⟨a13, l, vs13, rfl, c13, ha13.at c13.imm, hvs13, by rw [hvs13.length]; omega, ?_, ?_⟩
      · rintro C s5 m5 ⟨p1, p2⟩ v ⟨t, x, y, rfl, ht, ⟨tx, rfl⟩, hy⟩ hn hm hI5 hM5
        refine wpAny_isTrue_Compare1 (Subscript_ ?_)
        refine wpAny_Name (wpAny_loadName_local rfl rfl hn hm ?_) (by decide)
        refine wpAny_Constant_int ?_
        refine item_tupleL (s := { s5 with toks := s5.toks + 1 }) (ht.at hI5) (by decide) (by decide) rfl rfl ?_
        refine wpAny_Name (wpAny_loadName_cell rfl rfl rfl ⟨oc, hM5 (L + 1, oc) (.head _), hoc⟩ ?_) (by decide)
        exact PyProof.Rows.eq_int (wpAny_truthy_bool ⟨rfl, _, rfl⟩)
      intro D I14 s14 out c14 sub14 hD hout
      have hne : 0 < (l.filter fun p => decide (p.1 = g)).length := by
        refine List.length_pos_of_mem (a := (g, (V g g : Int))) (List.mem_filter.mpr ⟨(hset.2 _).mpr ⟨hg, ?_, ?_⟩, decide_eq_true rfl⟩)
        · show (1 : Int) ≤ V g g; omega
        · show (V g g : Int) ≤ V g g; omega
      refine spliced_none (max_spans c14 R1.hd (R1.fits (by decide)) hD hout hne fun p v15 s15 c15 hp hm hpv => ?_)
      have hpe : p = (g, (V g g : Int)) := max_own hset hg hV1 hp hm
      refine spliced_none ⟨_, _, c15, by simp, fun tz I16 s16 c16 sub16 htz => ?_⟩
      refine spliced_none ?_
      refine append_ok (M1 := [(L + 1, oc), (br, seqObj "list" bv9.toArray nb9), (kd, ko)]) c16 rfl (small (by rw [hlenS]; omega)) fun s17 n17 c17 => ?_
      have sub916 := sub14.trans sub16
      have hnew : kSeen.is I16 ⟨g, wd isW, path, (g, (V g g : Int))⟩ (.ref tz) :=
        ⟨tz, _, _, _, _, rfl, htz, ⟨_, rfl⟩, ⟨_, rfl⟩, ⟨pa, pvs, rfl, hpa.sub (sub09.trans sub916), hpvs.sub (sub09.trans sub916)⟩, by rw [← hpe]; exact koSpan.sub sub16 hpv⟩
      refine wpAny_execs_nil (hQ (c17.drop (List.sublist_cons_self _ _)) ?_ ⟨Mw, sv0 ++ [.ref tz], n17, bv9, nb9, B9, rfl, hLook.sub (sub9.trans sub916), hB9.sub sub916, hnd9.1, hm9, (hS.sub (sub09.trans sub916)).snoc hnew, rfl⟩)
      intro y hy
      rcases List.mem_cons.mp hy with e | hy
      · rw [e]; exact .head _
      · rcases List.mem_cons.mp hy with e | hy
        · rw [e]; exact .tail _ (.head _)
        · rcases List.mem_cons.mp hy with e | hy
          · rw [e]; exact .tail _ (.tail _ (.head _))
          · exact .tail _ (.tail _ (.tail _ (hY3 y hy)))
end
end Mine

set_option maxHeartbeats 400000
namespace Mine
/-! # the plain law: spans -/
theorem nodup_perm {α : Type} [DecidableEq α] {l r : List α} (hl : l.Nodup) (hr : r.Nodup) (h : ∀ a, a ∈ l ↔ a ∈ r) : l.Perm r := by
  rw [List.perm_iff_count]
  intro a
  have one : ∀ {l : List α}, l.Nodup → a ∈ l → l.count a = 1 := fun {l} n m => Nat.le_antisymm (List.nodup_iff_count.mp n a) (List.count_pos_iff.mpr m)
  by_cases q : a ∈ l
  · rw [one hl q, one hr ((h a).mp q)]
  · rw [List.count_eq_zero.mpr q, List.count_eq_zero.mpr fun e => q ((h a).mpr e)]
theorem SpSet.perm {l : List Span} {v : Vec} (h : SpSet l v) : l.Perm (spansOf (clk v)) :=
  nodup_perm h.1 (spansOf_nodup v) fun p => by rw [h.2 p, mem_spansOf]
theorem SpSet.len {l : List Span} {v : Vec} (h : SpSet l v) : l.length = v 0 + v 1 + v 2 := by rw [h.perm.length_eq, spansOf_len]
theorem SpSet.mine {l : List Span} {v : Vec} {g : Int} (h : SpSet l v) (hg : InG g) : (mine l g).length = v g := by
  have : (Mine.mine l g).Perm (rs g 0 (v g)) := nodup_perm (List.filter_sublist.nodup h.1) rs_nodup fun p => by
    unfold Mine.mine
    rw [List.mem_filter, h.2 p, decide_eq_true_eq, mem_rs]
    constructor
    · rintro ⟨⟨h1, h2, h3⟩, h4⟩
      rw [h4] at h3
      exact ⟨h4, by omega, by omega⟩
    · rintro ⟨h1, h2, h3⟩
      rw [h1]
      exact ⟨⟨hg, by omega, by omega⟩, rfl⟩
  rw [this.length_eq, rs_len]
theorem SpSet.tick {l : List Span} {v : Vec} {g : Int} (h : SpSet l v) (hg : InG g) : SpSet (l ++ [(g, ((Mine.mine l g).length + 1 : Int))]) (vtick v g) := by
  rw [h.mine hg]
  constructor
  · rw [List.nodup_append]
    refine ⟨h.1, by simp, fun a ha b hb e => ?_⟩
    rw [List.mem_singleton.mp hb] at e
    rw [e] at ha
    have := ((h.2 _).mp ha).2.2
    simp only at this; omega
  · intro p
    rw [List.mem_append, h.2 p, List.mem_singleton]
    constructor
    · rintro (⟨h1, h2, h3⟩ | h1)
      · refine ⟨h1, h2, ?_⟩
        unfold vtick; split <;> omega
      · rw [h1]
        refine ⟨hg, by simp only; omega, ?_⟩
        show (v g : Int) + 1 ≤ ((if g = g then v g + 1 else v g : Nat) : Int)
        rw [if_pos rfl]; omega
    · rintro ⟨h1, h2, h3⟩
      by_cases q : p.1 = g
      · by_cases q2 : p.2 ≤ v p.1
        · exact .inl ⟨h1, h2, q2⟩
        · right
          unfold vtick at h3
          rw [if_pos q] at h3
          refine Prod.ext q ?_
          show p.2 = (v g : Int) + 1
          rw [q] at q2 h3; omega
      · unfold vtick at h3
        rw [if_neg q] at h3
        exact .inl ⟨h1, h2, h3⟩
theorem SpSet.join {l r : List Span} {u v : Vec} (h : SpSet l u) (k : SpSet r v) : SpSet (l ++ r.filter (fun a => decide (a ∉ l))) (vmax u v) := by
  constructor
  · rw [List.nodup_append]
    refine ⟨h.1, List.filter_sublist.nodup k.1, fun a ha b hb e => ?_⟩
    have := of_decide_eq_true (List.mem_filter.mp hb).2
    rw [← e] at this; exact this ha
  · intro p
    rw [List.mem_append, List.mem_filter, decide_eq_true_eq, h.2 p, k.2 p]
    unfold vmax
    constructor
    · rintro (⟨h1, h2, h3⟩ | ⟨⟨h1, h2, h3⟩, _⟩)
      · exact ⟨h1, h2, by omega⟩
      · exact ⟨h1, h2, by omega⟩
    · rintro ⟨h1, h2, h3⟩
      by_cases q : p.2 ≤ u p.1
      · exact .inl ⟨h1, h2, q⟩
      · exact .inr ⟨⟨h1, h2, by omega⟩, fun e => q e.2.2⟩
/-- what is new in one, as the clocks tell it -/
theorem SpSet.new {l r : List Span} {u v : Vec} (h : SpSet l u) (k : SpSet r v) : r.filter (fun a => decide (a ∉ l)) = [] ↔ VLe v u := by
  rw [List.filter_eq_nil_iff]
  constructor
  · intro H g hg
    by_cases q : v g = 0
    · omega
    · have hm : (g, (v g : Int)) ∈ r := (k.2 _).mpr ⟨hg, by simp only; omega, by simp only; omega⟩
      have := H _ hm
      rw [decide_eq_true_eq, Classical.not_not, h.2] at this
      have := this.2.2
      simp only at this; omega
  · intro H p hp
    rw [decide_eq_true_eq, Classical.not_not, h.2]
    obtain ⟨h1, h2, h3⟩ := (k.2 p).mp hp
    exact ⟨h1, h2, by have := H p.1 h1; omega⟩
end Mine

set_option maxHeartbeats 400000
namespace Mine
/-! # the state of the law, and what holds of it -/
structure St where
  V : Int → Vec
  gs : List (Int × Vec)
  K : Int → List Span
  H : Int → List Span
  seen : List Seen
  tbl : List Pl
  RW : List Race
  RB : List Race
noncomputable def St.G (σ : St) (q : Int) : Vec := (look σ.gs q).getD fun _ => 0
noncomputable def paths : List Path := [[], [0], [1]]
noncomputable def pairsQ : List (Int × Int) := [(0, 1), (0, 2), (1, 0), (1, 2), (2, 0), (2, 1)]
noncomputable def pairsW : List (Bool × Bool) := [(true, true), (true, false), (false, true)]
noncomputable def univ : List Race := paths.flatMap fun p => pairsQ.flatMap fun q => pairsW.map fun b => ((1, p), (q.1, wd b.1), (q.2, wd b.2))
theorem univ_len : univ.length = 54 := rfl
theorem mem_univ {p : Path} {q g : Int} {b c : Bool} (hp : p ∈ paths) (hq : InG q) (hg : InG g) (hne : q ≠ g) (h : b = true ∨ c = true) : (((1 : Int), p), (q, wd b), (g, wd c)) ∈ univ := by
  unfold univ
  rw [List.mem_flatMap]
  refine ⟨p, hp, List.mem_flatMap.mpr ⟨(q, g), ?_, List.mem_map.mpr ⟨(b, c), ?_, rfl⟩⟩⟩
  · unfold pairsQ
    rcases hq with rfl | rfl | rfl <;> rcases hg with rfl | rfl | rfl <;> first | exact absurd rfl hne | simp
  · unfold pairsW
    cases b <;> cases c <;> first | (rcases h with h | h <;> cases h; done) | simp
structure Ok (t : Nat) (σ : St) : Prop where
  own : ∀ x g, InG x → InG g → σ.V x g ≤ σ.V g g
  pos : ∀ g, InG g → 1 ≤ σ.V g g
  gat : ∀ q g, InG g → σ.G q g ≤ σ.V g g
  sum : σ.V 0 0 + σ.V 1 1 + σ.V 2 2 ≤ 5 + 2 * t
  know : ∀ g, InG g → SpSet (σ.K g) (σ.V g)
  gate : ∀ q, q = 3 ∨ q = 4 → SpSet (σ.H q) (σ.G q)
  gsz : σ.gs.length ≤ t
  seen : ∀ e ∈ σ.seen, InG e.who ∧ (∃ b, e.word = wd b) ∧ e.path ∈ paths ∧ e.span.1 = e.who ∧ 1 ≤ e.span.2 ∧ e.span.2 ≤ σ.V e.who e.who
  seenz : σ.seen.length ≤ t
  t1 : ∀ p b q c, tget σ.tbl p b q = some c → ∃ e ∈ σ.seen, e.path = p ∧ e.word = wd b ∧ e.who = q ∧ e.span = (q, c)
  t2 : ∀ e ∈ σ.seen, ∀ b, e.word = wd b → ∃ c, tget σ.tbl e.path b e.who = some c ∧ e.span.2 ≤ c
  tp : ∀ pl ∈ σ.tbl, pl.path ∈ paths
  wn : σ.RW.Nodup
  bn : σ.RB.Nodup
  wb : ∀ r, r ∈ σ.RW ↔ r ∈ σ.RB
  un : ∀ r ∈ σ.RB, r ∈ univ
theorem Ok.wz {t : Nat} {σ : St} (h : Ok t σ) : σ.RW.length ≤ 54 := by rw [← univ_len]; exact nodup_len h.wn fun r hr => h.un r ((h.wb r).mp hr)
theorem Ok.bz {t : Nat} {σ : St} (h : Ok t σ) : σ.RB.length ≤ 54 := by rw [← univ_len]; exact nodup_len h.bn h.un
theorem Ok.vsum {t : Nat} {σ : St} (h : Ok t σ) {x : Int} (hx : InG x) : σ.V x 0 + σ.V x 1 + σ.V x 2 ≤ 5 + 2 * t := by
  have h0 := h.own x 0 hx (.inl rfl)
  have h1 := h.own x 1 hx (.inr (.inl rfl))
  have h2 := h.own x 2 hx (.inr (.inr rfl))
  have := h.sum; omega
theorem Ok.gsum {t : Nat} {σ : St} (h : Ok t σ) (q : Int) : σ.G q 0 + σ.G q 1 + σ.G q 2 ≤ 5 + 2 * t := by
  have h0 := h.gat q 0 (.inl rfl)
  have h1 := h.gat q 1 (.inr (.inl rfl))
  have h2 := h.gat q 2 (.inr (.inr rfl))
  have := h.sum; omega
theorem wd_inj {a b : Bool} (h : wd a = wd b) : a = b := by cases a <;> cases b <;> first | rfl | exact absurd h (by decide)
noncomputable def updL (K : Int → List Span) (g : Int) (l : List Span) : Int → List Span := fun h => if h = g then l else K h
/-- an access -/
theorem Ok.access {t : Nat} {σ : St} {g : Int} {isW : Bool} {path : Path} {RW' RB' : List Race} {tbl' : List Pl} (h : Ok t σ) (hg : InG g) (hp : path ∈ paths) (hnd : (σ.tbl.map (·.path)).Nodup) (hw : RW'.Nodup) (hb : RB'.Nodup)
    (h1 : ∀ r, r ∈ RW' ↔ r ∈ σ.RW ∨ ∃ pl ∈ σ.tbl, NewP σ.V g path isW pl r) (h2 : ∀ r, r ∈ RB' ↔ r ∈ σ.RB ∨ ∃ e ∈ σ.seen, NewB (σ.K g) g isW path e r)
    (h3 : ∀ p b q, tget tbl' p b q = if p = path ∧ b = isW ∧ q = g then some (σ.V g g : Int) else tget σ.tbl p b q) (h4 : ∀ pl ∈ tbl', pl.path ∈ σ.tbl.map (·.path) ∨ pl.path = path) :
    Ok (t + 1) { σ with seen := σ.seen ++ [⟨g, wd isW, path, (g, (σ.V g g : Int))⟩], tbl := tbl', RW := RW', RB := RB' } := by
  have key : ∀ r, (∃ pl ∈ σ.tbl, NewP σ.V g path isW pl r) ↔ ∃ e ∈ σ.seen, NewB (σ.K g) g isW path e r := by
    intro r
    have hk := h.know g hg
    constructor
    · rintro ⟨pl, hpl, hm, hr⟩
      have hfind : ∀ b q, tget σ.tbl pl.path b q = look (if b then pl.wc else pl.rc) q := fun b q => by
        unfold tget
        have : σ.tbl.find? (fun x => decide (x.path = pl.path)) = some pl := by
          obtain ⟨A, B, hAB⟩ := List.append_of_mem hpl
          rw [hAB, List.find?_append, List.find?_cons, decide_eq_true rfl]
          have : A.find? (fun x => decide (x.path = pl.path)) = none := by
            rw [List.find?_eq_none]
            intro x hx
            rw [decide_eq_true_eq]
            intro e
            rw [hAB, List.map_append, List.map_cons, List.nodup_append] at hnd
            exact hnd.2.2 x.path (List.mem_map.mpr ⟨x, hx, rfl⟩) pl.path (.head _) e
          rw [this]; rfl
        rw [this]; rfl
      have go : ∀ (b : Bool) (cs : List (Int × Int)), cs = (if b then pl.wc else pl.rc) → (isW = true ∨ b = true) → NewR σ.V g (1, path) (wd isW) (wd b) cs r → ∃ e ∈ σ.seen, NewB (σ.K g) g isW path e r := by
        rintro b cs rfl hbw ⟨q, c, hl, hq, hc, hr⟩
        rw [← hfind] at hl
        obtain ⟨e, he, e1, e2, e3, e4⟩ := h.t1 _ _ _ _ hl
        refine ⟨e, he, by rw [e3]; exact hq, ?_, by rw [e1]; exact hm, ?_, by rw [hr, e2, e3]⟩
        · rcases hbw with x | x
          · exact .inl x
          · exact .inr (by rw [e2, x]; rfl)
        · rw [hk.2, e4]
          rintro ⟨_, _, x⟩
          simp only at x; omega
      rcases hr with hr | ⟨hw, hr⟩
      · exact go true _ rfl (.inr rfl) hr
      · exact go false _ rfl (.inl hw) hr
    · rintro ⟨e, he, n1, n2, n3, n4, n5⟩
      obtain ⟨s1, ⟨b, s2⟩, s3, s4, s5, s6⟩ := h.seen e he
      obtain ⟨c, hc, hle⟩ := h.t2 e he b s2
      unfold tget at hc
      cases q : σ.tbl.find? (fun x => decide (x.path = e.path)) with
      | none => rw [q] at hc; cases hc
      | some pl =>
        rw [q] at hc
        have hpl := List.mem_of_find?_eq_some q
        have hpp : pl.path = e.path := by have := List.find?_some q; simpa using this
        have hgt : c > (σ.V g e.who : Int) := by
          rw [hk.2, s4] at n4
          have : ¬ e.span.2 ≤ (σ.V g e.who : Int) := fun x => n4 ⟨s1, s5, x⟩
          omega
        refine ⟨pl, hpl, by rw [hpp]; exact n3, ?_⟩
        cases b with
        | true => exact .inl ⟨e.who, c, hc, n1, hgt, by rw [n5, s2]; rfl⟩
        | false =>
          have hw : isW = true := by
            rcases n2 with x | x
            · exact x
            · rw [s2] at x; exact absurd x (by decide)
          exact .inr ⟨hw, e.who, c, hc, n1, hgt, by rw [n5, s2]; rfl⟩
  refine ⟨h.own, h.pos, h.gat, by have := h.sum; show σ.V 0 0 + σ.V 1 1 + σ.V 2 2 ≤ 5 + 2 * (t + 1); omega, h.know, h.gate, by have := h.gsz; show σ.gs.length ≤ t + 1; omega, ?_, by have := h.seenz; show (σ.seen ++ _).length ≤ t + 1; rw [List.length_append]; simp; omega, ?_, ?_, ?_, hw, hb, ?_, ?_⟩
  · intro e he
    rcases List.mem_append.mp he with he | he
    · exact h.seen e he
    · rw [List.mem_singleton.mp he]
      exact ⟨hg, ⟨isW, rfl⟩, hp, rfl, by show (1 : Int) ≤ σ.V g g; have := h.pos g hg; omega, by show (σ.V g g : Int) ≤ σ.V g g; omega⟩
  · intro p b q c hc
    rw [show tget tbl' p b q = _ from h3 p b q] at hc
    split at hc
    · rename_i hh
      obtain ⟨rfl, rfl, rfl⟩ := hh
      cases hc
      exact ⟨_, List.mem_append_right _ (.head _), rfl, rfl, rfl, rfl⟩
    · obtain ⟨e, he, r⟩ := h.t1 p b q c hc
      exact ⟨e, List.mem_append_left _ he, r⟩
  · intro e he b hb'
    show ∃ c, tget tbl' e.path b e.who = some c ∧ _
    rw [h3]
    rcases List.mem_append.mp he with he | he
    · split
      · rename_i hh
        obtain ⟨_, _, _, s4, _, s6⟩ := h.seen e he
        exact ⟨_, rfl, by rw [hh.2.2] at s6; exact s6⟩
      · exact h.t2 e he b hb'
    · rw [List.mem_singleton.mp he] at hb' ⊢
      rw [if_pos ⟨rfl, (wd_inj hb').symm, rfl⟩]
      exact ⟨_, rfl, by show (σ.V g g : Int) ≤ σ.V g g; omega⟩
  · intro pl hpl
    rcases h4 pl hpl with x | x
    · obtain ⟨y, hy, e⟩ := List.mem_map.mp x
      rw [← e]; exact h.tp y hy
    · rw [x]; exact hp
  · intro r
    show r ∈ RW' ↔ r ∈ RB'
    rw [h1, h2, h.wb, key]
  · intro r hr
    rcases (h2 r).mp hr with x | ⟨e, he, n1, n2, n3, n4, n5⟩
    · exact h.un r x
    · obtain ⟨s1, ⟨b, s2⟩, _⟩ := h.seen e he
      rw [n5, s2]
      refine mem_univ hp s1 hg n1 ?_
      rcases n2 with x | x
      · exact .inr x
      · rw [s2] at x
        cases b with
        | true => exact .inl rfl
        | false => exact absurd x (by decide)
end Mine

set_option maxHeartbeats 400000
namespace Mine
theorem updL_same {K : Int → List Span} {g : Int} {l : List Span} : updL K g l g = l := if_pos rfl
theorem updL_ne {K : Int → List Span} {g h : Int} {l : List Span} (e : h ≠ g) : updL K g l h = K h := if_neg e
theorem updV_same {V : Int → Vec} {g : Int} {a : Vec} : updV V g a g = a := if_pos rfl
theorem updV_ne {V : Int → Vec} {g h : Int} {a : Vec} (e : h ≠ g) : updV V g a h = V h := if_neg e
/-- what only the clocks' part needs -/
structure Clk (t : Nat) (V : Int → Vec) (K : Int → List Span) : Prop where
  own : ∀ x g, InG x → InG g → V x g ≤ V g g
  pos : ∀ g, InG g → 1 ≤ V g g
  sum : V 0 0 + V 1 1 + V 2 2 ≤ t
  know : ∀ g, InG g → SpSet (K g) (V g)
theorem Clk.tick {t : Nat} {V : Int → Vec} {K : Int → List Span} {g : Int} (h : Clk t V K) (hg : InG g) : Clk (t + 1) (updV V g (vtick (V g) g)) (updL K g (K g ++ [(g, ((mine (K g) g).length + 1 : Int))])) := by
  have e : ∀ x y, (updV V g (vtick (V g) g)) x y = if x = g ∧ y = g then V x y + 1 else V x y := fun x y => by
    unfold updV vtick
    by_cases a : x = g
    · rw [if_pos a, a]
      by_cases b : y = g
      · rw [if_pos b, if_pos ⟨rfl, b⟩]
      · rw [if_neg b, if_neg fun q => b q.2]
    · rw [if_neg a, if_neg fun q => a q.1]
  refine ⟨fun x y hx hy => ?_, fun y hy => ?_, ?_, fun y hy => ?_⟩
  · rw [e, e]
    have := h.own x y hx hy
    by_cases a : y = g
    · rw [if_pos (c := y = g ∧ y = g) ⟨a, a⟩]; split <;> omega
    · rw [if_neg (c := x = g ∧ y = g) (fun q => a q.2), if_neg (c := y = g ∧ y = g) (fun q => a q.1)]; exact this
  · rw [e]
    have := h.pos y hy
    split <;> omega
  · rw [e, e, e]
    have := h.sum
    rcases hg with rfl | rfl | rfl <;> simp <;> omega
  · by_cases a : y = g
    · rw [a, updL_same, updV_same]; exact (h.know g hg).tick hg
    · rw [updL_ne a, updV_ne a]; exact h.know y hy
theorem Clk.join {t : Nat} {V : Int → Vec} {K : Int → List Span} {g : Int} {u : Vec} {r : List Span} (h : Clk t V K) (hg : InG g) (hr : SpSet r u) (hu : ∀ y, InG y → u y ≤ V y y) :
    Clk t (updV V g (vmax (V g) u)) (updL K g (K g ++ r.filter (fun a => decide (a ∉ K g)))) := by
  have e : ∀ y, InG y → (updV V g (vmax (V g) u)) y y = V y y := fun y hy => by
    unfold updV vmax
    by_cases a : y = g
    · rw [if_pos a, a]
      have := hu g hg
      show max (V g g) (u g) = V g g
      omega
    · rw [if_neg a]
  refine ⟨fun x y hx hy => ?_, fun y hy => ?_, ?_, fun y hy => ?_⟩
  · rw [e y hy]
    unfold updV vmax
    have h1 := h.own x y hx hy
    have h2 := h.own g y hg hy
    have h3 := hu y hy
    split
    · show max (V g y) (u y) ≤ V y y; omega
    · exact h1
  · rw [e y hy]; exact h.pos y hy
  · rw [e 0 (.inl rfl), e 1 (.inr (.inl rfl)), e 2 (.inr (.inr rfl))]; exact h.sum
  · by_cases a : y = g
    · rw [a, updL_same, updV_same]; exact (h.know g hg).join hr
    · rw [updL_ne a, updV_ne a]; exact h.know y hy
theorem Ok.clk {t : Nat} {σ : St} (h : Ok t σ) : Clk (5 + 2 * t) σ.V σ.K := ⟨h.own, h.pos, h.sum, h.know⟩
theorem Clk.mono {t u : Nat} {V : Int → Vec} {K : Int → List Span} (h : Clk t V K) (e : t ≤ u) : Clk u V K := ⟨h.own, h.pos, Nat.le_trans h.sum e, h.know⟩
/-- the clocks have grown, the rest stands -/
theorem Ok.clocks {t : Nat} {σ : St} {V' : Int → Vec} {K' H' : Int → List Span} {gs' : List (Int × Vec)} (h : Ok t σ) (hc : Clk (5 + 2 * (t + 1)) V' K') (hm : ∀ y, InG y → σ.V y y ≤ V' y y)
    (hg : ∀ q g, InG g → ((look gs' q).getD fun _ => 0) g ≤ V' g g) (hH : ∀ q, q = 3 ∨ q = 4 → SpSet (H' q) ((look gs' q).getD fun _ => 0)) (hz : gs'.length ≤ t + 1) :
    Ok (t + 1) { σ with V := V', K := K', gs := gs', H := H' } := by
  refine ⟨hc.own, hc.pos, hg, hc.sum, hc.know, hH, hz, fun e he => ?_, by have := h.seenz; show σ.seen.length ≤ t + 1; omega, h.t1, h.t2, h.tp, h.wn, h.bn, h.wb, h.un⟩
  obtain ⟨s1, s2, s3, s4, s5, s6⟩ := h.seen e he
  exact ⟨s1, s2, s3, s4, s5, by have := hm _ s1; show e.span.2 ≤ (V' e.who e.who : Int); omega⟩
theorem look_put' {α : Type} {ks : List (Int × α)} {g h : Int} {a : α} : look (put ks g a) h = if h = g then some a else look ks h := look_put
theorem Ok.enter {t : Nat} {σ : St} {g q : Int} (h : Ok t σ) (hg : InG g) (hq : q = 3 ∨ q = 4) :
    Ok (t + 1) { σ with V := updV σ.V g (vmax (σ.V g) (σ.G q)), K := updL σ.K g (σ.K g ++ (σ.H q).filter (fun a => decide (a ∉ σ.K g))) } := by
  have hc := h.clk.join hg (h.gate q hq) fun y hy => h.gat q y hy
  have hm : ∀ y, InG y → σ.V y y ≤ (updV σ.V g (vmax (σ.V g) (σ.G q))) y y := fun y hy => by
    unfold updV vmax
    split
    · rename_i e; rw [e]; show _ ≤ max _ _; omega
    · exact Nat.le_refl _
  refine h.clocks (hc.mono (by omega)) hm (fun q' y hy => Nat.le_trans (h.gat q' y hy) (hm y hy)) h.gate (by have := h.gsz; omega)
theorem Ok.leave {t : Nat} {σ : St} {g q : Int} (h : Ok t σ) (hg : InG g) (hq : q = 3 ∨ q = 4) :
    Ok (t + 1) { σ with V := updV σ.V g (vtick (σ.V g) g), K := updL σ.K g (σ.K g ++ [(g, ((mine (σ.K g) g).length + 1 : Int))]), gs := put σ.gs q (vmax (σ.G q) (σ.V g)), H := updL σ.H q (σ.H q ++ (σ.K g).filter (fun a => decide (a ∉ σ.H q))) } := by
  have hc := h.clk.tick hg
  have hm : ∀ y, InG y → σ.V y y ≤ (updV σ.V g (vtick (σ.V g) g)) y y := fun y hy => by
    unfold updV vtick
    split
    · rename_i e; rw [e]; show σ.V g g ≤ (if g = g then σ.V g g + 1 else σ.V g g); rw [if_pos rfl]; omega
    · exact Nat.le_refl _
  refine h.clocks (hc.mono (by omega)) hm (fun q' y hy => ?_) (fun q' hq' => ?_) (Nat.le_trans (put_len _ _ _) (by have := h.gsz; omega))
  · refine Nat.le_trans ?_ (hm y hy)
    rw [look_put']
    split
    · show max (σ.G q y) (σ.V g y) ≤ _
      have h1 := h.gat q y hy
      have h2 := h.own g y hg hy
      omega
    · exact h.gat q' y hy
  · rw [look_put']
    by_cases e : q' = q
    · rw [if_pos e, e, updL_same]
      exact (h.gate q hq).join (h.know g hg)
    · rw [if_neg e, updL_ne e]
      exact h.gate q' hq'
end Mine

set_option maxHeartbeats 400000
namespace Mine
theorem tick_mono (V : Int → Vec) (g x y : Int) : V x y ≤ updV V g (vtick (V g) g) x y := by
  unfold updV vtick
  split
  · rename_i e; rw [e]; show V g y ≤ (if y = g then V g y + 1 else V g y); split <;> omega
  · exact Nat.le_refl _
theorem join_mono (V : Int → Vec) (g : Int) (u : Vec) (x y : Int) : V x y ≤ updV V g (vmax (V g) u) x y := by
  unfold updV vmax
  split
  · rename_i e; rw [e]; show V g y ≤ max (V g y) (u y); omega
  · exact Nat.le_refl _
noncomputable def K4 (K : Int → List Span) (g h : Int) : Int → List Span :=
  let K1 := updL K g (K g ++ [(g, ((mine (K g) g).length + 1 : Int))])
  let K2 := updL K1 h (K1 h ++ [(h, ((mine (K1 h) h).length + 1 : Int))])
  let K3 := updL K2 g (K2 g ++ (K1 h).filter (fun a => decide (a ∉ K2 g)))
  updL K3 h (K3 h ++ (K g).filter (fun a => decide (a ∉ K3 h)))
theorem Ok.hand {t : Nat} {σ : St} {g h : Int} (H : Ok t σ) (hg : InG g) (hh : InG h) : Ok (t + 1) { σ with V := V4 σ.V g h, K := K4 σ.K g h } := by
  have c1 := H.clk.tick hg
  have c2 := c1.tick hh
  have c3 := c2.join hg (c1.know h hh) fun y hy => Nat.le_trans (c1.own h y hh hy) (tick_mono _ h y y)
  have c4 := c3.join hh (H.know g hg) fun y hy => Nat.le_trans (H.own g y hg hy) (Nat.le_trans (tick_mono _ g y y) (Nat.le_trans (tick_mono _ h y y) (join_mono _ g _ y y)))
  have hm : ∀ y, InG y → σ.V y y ≤ V4 σ.V g h y y := fun y hy => Nat.le_trans (tick_mono _ g y y) (Nat.le_trans (tick_mono _ h y y) (Nat.le_trans (join_mono _ g _ y y) (join_mono _ h _ y y)))
  exact H.clocks (V' := V4 σ.V g h) (K' := K4 σ.K g h) (c4.mono (by omega)) hm (fun q y hy => Nat.le_trans (H.gat q y hy) (hm y hy)) H.gate (by have := H.gsz; omega)
end Mine

set_option maxHeartbeats 400000
namespace Mine
theorem perm_cnt {l r : List (Addr × Obj)} (h : ∀ (D : DecidableEq (Addr × Obj)) (a : Addr × Obj), @List.count _ (@instBEqOfDecidableEq _ D) a l = @List.count _ (@instBEqOfDecidableEq _ D) a r) : l.Perm r := by
  have D : DecidableEq (Addr × Obj) := Classical.typeDecidableEq _
  exact (@List.perm_iff_count _ (@instBEqOfDecidableEq _ D) _ l r).mpr fun a => h D a
noncomputable def kks (K : Int → List Span) : List (Int × List Span) := [(0, K 0), (1, K 1), (2, K 2)]
noncomputable def ggs (H : Int → List Span) : List (Int × List Span) := [(3, H 3), (4, H 4)]
theorem kks_look {K : Int → List Span} {g : Int} (h : InG g) : look (kks K) g = some (K g) := by rcases h with rfl | rfl | rfl <;> rfl
theorem kks_put {K : Int → List Span} {g : Int} {a : List Span} (h : InG g) : put (kks K) g a = kks (updL K g a) := by
  rcases h with rfl | rfl | rfl <;> simp [put, kks, updL]
theorem ggs_look {H : Int → List Span} {q : Int} (h : q = 3 ∨ q = 4) : look (ggs H) q = some (H q) := by rcases h with rfl | rfl <;> rfl
theorem ggs_put {H : Int → List Span} {q : Int} {a : List Span} (h : q = 3 ∨ q = 4) : put (ggs H) q a = ggs (updL H q a) := by
  rcases h with rfl | rfl <;> simp [put, ggs, updL]
/-- the heap's side of a state -/
inductive Con (prog : Program) (w : World) (I : Imm) (σ : St) (k : Nat) (cd pd rl ld gd kd bg sl br : Addr) (M : List (Addr × Obj)) : Prop
  | mk (o po ko go bo lo : Obj) (rs : List Value) (n : Nat) (sv : List Value) (nv : Nat) (bv : List Value) (nb : Nat) (Ml Mpl : List (Addr × Obj)) :
    M = (cd, o) :: (gd, go) :: (kd, ko) :: (bg, bo) :: (ld, lo) :: (br, seqObj "list" bv.toArray nb) :: (sl, seqObj "list" sv.toArray nv) :: (pd, po) :: (rl, seqObj "list" rs.toArray n) :: (Ml ++ Mpl) →
    DK prog w kVec I o (vks σ.V) → DK prog w kVec I go σ.gs → DK prog w kSpans I ko (kks σ.K) → DK prog w kSpans I bo (ggs σ.H) → LnSt prog w I lo Ml k → PlSt prog w I po Mpl σ.tbl → Are kSeen I σ.seen sv → Are koRace.toKd I σ.RW rs → Are koRace.toKd I σ.RB bv →
    Con prog w I σ k cd pd rl ld gd kd bg sl br M
theorem Con.sub {prog : Program} {w : World} {I J : Imm} {σ : St} {k : Nat} {cd pd rl ld gd kd bg sl br : Addr} {M : List (Addr × Obj)} (h : Con prog w I σ k cd pd rl ld gd kd bg sl br M) (hs : Sub I J) : Con prog w J σ k cd pd rl ld gd kd bg sl br M := by
  obtain ⟨o, po, ko, go, bo, lo, rs, n, sv, nv, bv, nb, Ml, Mpl, e, h1, h2, h3, h4, h5, h6, h7, h8, h9⟩ := h
  exact ⟨o, po, ko, go, bo, lo, rs, n, sv, nv, bv, nb, Ml, Mpl, e, h1.sub hs, h2.sub hs, h3.sub hs, h4.sub hs, h5.sub hs, h6.sub hs, h7.sub hs, h8.sub hs, h9.sub hs⟩
theorem PlSt.nd {prog : Program} {w : World} {I : Imm} {po : Obj} {Mpl : List (Addr × Obj)} {tbl : List Pl} (h : PlSt prog w I po Mpl tbl) : (tbl.map (·.path)).Nodup := by
  rcases h with ⟨_, _, rfl⟩ | ⟨rd, ro, _, _, h, _⟩
  · exact .nil
  · exact h.nd
end Mine

set_option maxHeartbeats 400000
namespace Mine
section
variable {prog : Program} {w : World} {A : Around} {s : Shared} {mb : Nm} {S₀ : Shared} {I₀ I : Imm} {X : List Addr} {m : Nm} {M M1 M2 : List (Addr × Obj)} {env : Env}
theorem esg3C {x y z : Str} {px py pz tp p pos : Pos} {k k' : Nat} {e1 e2 e3 : Expr} {ca : Addr} {v0 : Option Value} {Q : Flow → Shared → Prop} (cU : Cx S₀ I₀ X I env.locals m M s) (hh : A.handled = none)
    (h : wpAny (model prog w) A (spliced (backTo p (starEach [e1, e2, e3] env))) (fun vs s1 => Ex7 fun u v r I1 oc M1 M2 => An4 (vs = [u, v, r]) (oc.data = .cell v0) (Cx S₀ I₀ X I1 env.locals m (M1 ++ (ca, oc) :: M2) s1) (∀ I' s' oc', oc'.data = .cell (some r) → Cx S₀ I₀ X I' env.locals (upd (upd m x u) y v) (M1 ++ (ca, oc') :: M2) s' → Sub I1 I' → Q .next s')) noE s)
    (hk : env.scope.kind = .function) (hx : env.kindOf x = some .local) (hy : env.kindOf y = some .local) (hz : env.kindOf z = some .cell) (hc : env.cells.lookup z = some ca)
    (hs : autoParam (swapsWithSole [.Tuple [.Name x px, .Name y py, .Name z pz] k tp] (.Tuple [e1, e2, e3] k' p) pos.line env = pure false) tacRfl)
    (hw : autoParam (swappedStores [.Tuple [.Name x px, .Name y py, .Name z pz] k tp] (.Tuple [e1, e2, e3] k' p) env = pure none) tacRfl) :
    wpAny (model prog w) A (exec (.Assign [.Tuple [.Name x px, .Name y py, .Name z pz] k tp] (.Tuple [e1, e2, e3] k' p) pos) env) Q noE s := by
  refine Assign_Tuple (tupE cU (wpAny_mono h (fun vs s1 h1 => ?_) fun _ _ e => e)) hs hw
  obtain ⟨u, v, r, I1, oc, M1, M2, rfl, hoc, c, h⟩ := h1
  refine ⟨I1, _, c, by simp, fun t I2 s2 c2 sub2 ht => ?_⟩
  refine assign_Tuple_tuple (items := #[u, v, r]) hh (ht.at c2.imm) rfl rfl fun h' he => ?_
  have c3 : Cx S₀ I₀ X I2 env.locals m (M1 ++ (ca, oc) :: M2) { s2 with heap := h' } := c2.kept (tk := s2.toks) fun a o e => he a o (Nat.ne_of_lt (Heap.lt_size e)) e
  refine assignInOrder_cons (wpAny_assign_Name (es c3 (fun s4 c4 => ?_) hk hx))
  refine assignInOrder_cons (wpAny_assign_Name (es c4 (fun s5 c5 => ?_) hk hy))
  exact assignInOrder_cons (wpAny_assign_Name (esC c5 hoc (fun s6 oc6 ho6 c6 => assignInOrder_nil (h I2 s6 oc6 ho6 c6 sub2)) hk hz hc))
end
/-- a list of blocks, one behind the other -/
noncomputable def cat {α : Type} : List (List α) → List α
  | [] => []
  | [x] => x
  | x :: y :: r => x ++ cat (y :: r)
theorem cat_flat {α : Type} : ∀ l : List (List α), cat l = l.flatten
  | [] => rfl
  | [x] => by simp [cat]
  | x :: y :: r => by
    show x ++ cat (y :: r) = x ++ (y :: r).flatten
    rw [cat_flat (y :: r)]
theorem cat_perm {α : Type} (l : List (List α)) (ix : List Nat) (h : List.isPerm ix (List.range l.length) = true) {M M' : List α} (e1 : cat l = M) (e2 : cat (ix.map fun i => l.getD i []) = M') : M.Perm M' := by
  rw [← e1, ← e2, cat_flat, cat_flat]
  have h1 : (ix.map fun i => l.getD i []).Perm ((List.range l.length).map fun i => l.getD i []) := (List.isPerm_iff.mp h).map _
  have h2 : (List.range l.length).map (fun i => l.getD i []) = l := by
    apply List.ext_getElem
    · simp
    · intro i a b
      simp at a ⊢
      rw [List.getElem?_eq_getElem a]; rfl
  rw [h2] at h1
  exact h1.symm.flatten
theorem mem_mid {P A B B' C : List Addr} {y : Addr} (h : ∀ z ∈ B, z ∈ P ∨ z ∈ B') (hy : y ∈ P ++ (A ++ (B ++ C))) : y ∈ P ++ (A ++ (B' ++ C)) := by
  rcases List.mem_append.mp hy with q | q
  · exact List.mem_append_left _ q
  rcases List.mem_append.mp q with q | q
  · exact List.mem_append_right _ (List.mem_append_left _ q)
  rcases List.mem_append.mp q with q | q
  · rcases h _ q with r | r
    · exact List.mem_append_left _ r
    · exact List.mem_append_right _ (List.mem_append_right _ (List.mem_append_left _ r))
  · exact List.mem_append_right _ (List.mem_append_right _ (List.mem_append_right _ q))
theorem mem_six {a b c d e f g h i z : Addr} {T : List Addr} (q : z ∈ a :: b :: c :: d :: e :: f :: T) : z ∈ [d, g, b, h, i, a, c, e, f] ∨ z ∈ T := by
  simp only [List.mem_cons] at q ⊢
  rcases q with q | q | q | q | q | q | q <;> simp [q]
section
variable {prog : Program} {w : World} {A : Around} {s : Shared} {mb : Nm} {I : Imm} {d : Nat} {x cd ld gd pd rl b kd bg sl br sr : Addr} {so : Obj} {k t : Nat} {σ : St} {M : List (Addr × Obj)}
noncomputable def DeedP (prog : Program) (w : World) (t : Nat) (cd pd rl ld gd kd bg sl br sr : Addr) (I' : Imm) (Ma : List (Addr × Obj)) (v : Value) : Prop :=
  Ex3 fun so' σ' M' => An5 (Ma = (sr, so') :: M') (SrcOk so') (Con prog w I' σ' (t + 1) cd pd rl ld gd kd bg sl br M') (Ok (t + 1) σ') (v = .none)
theorem mid_sub (M1 Mc M2 : List (Addr × Obj)) : Mc.Sublist (M1 ++ (Mc ++ M2)) := (List.sublist_append_left _ _).trans (List.sublist_append_right _ _)
theorem LnSt.mono {lo : Obj} {Ml : List (Addr × Obj)} {k k' : Nat} (h : LnSt prog w I lo Ml k) (e : k ≤ k') : LnSt prog w I lo Ml k' := by
  rcases h with h | ⟨sa, ra, vs, us, n1, n2, a, b, c, d⟩
  · exact .inl h
  · exact .inr ⟨sa, ra, vs, us, n1, n2, a, b, Nat.le_trans c e, Nat.le_trans d e⟩
/-! # the text of the deed, by its branches -/
noncomputable def thens : List Stmt → List Stmt
  | [.If _ b _ _] => b
  | _ => []
noncomputable def elses : List Stmt → List Stmt
  | [.If _ _ b _] => b
  | _ => []
noncomputable def dBody : List Stmt := (bodyOf (fdA 298)).drop 1
noncomputable def bAcc : List Stmt := thens dBody
noncomputable def bLeave : List Stmt := thens (elses dBody)
noncomputable def bEnter : List Stmt := thens (elses (elses dBody))
noncomputable def bHand : List Stmt := elses (elses (elses dBody))
theorem Con.open4 {M : List (Addr × Obj)} (h : Con prog w I σ k cd pd rl ld gd kd bg sl br M) : Ex5 fun o go ko bo Mr => An6 (M = (cd, o) :: (gd, go) :: (kd, ko) :: (bg, bo) :: Mr) (DK prog w kVec I o (vks σ.V)) (DK prog w kVec I go σ.gs) (DK prog w kSpans I ko (kks σ.K)) (DK prog w kSpans I bo (ggs σ.H)) (∀ {J : Imm} {V' : Int → Vec} {gs' : List (Int × Vec)} {K' H' : Int → List Span} {k' : Nat} {o' go' ko' bo' : Obj}, Sub I J → k ≤ k' → DK prog w kVec J o' (vks V') → DK prog w kVec J go' gs' → DK prog w kSpans J ko' (kks K') → DK prog w kSpans J bo' (ggs H') →
      Con prog w J { σ with V := V', gs := gs', K := K', H := H' } k' cd pd rl ld gd kd bg sl br ((cd, o') :: (gd, go') :: (kd, ko') :: (bg, bo') :: Mr)) := by
  obtain ⟨o, po, ko, go, bo, lo, rs, n, sv, nv, bv, nb, Ml, Mpl, rfl, hco, hgo, hko, hbo, hlo, hpo, hsv, hrs, hbv⟩ := h
  refine ⟨o, go, ko, bo, _, rfl, hco, hgo, hko, hbo, fun {J V' gs' K' H' k' o' go' ko' bo'} hs hk h1 h2 h3 h4 => ?_⟩
  exact ⟨o', po, ko', go', bo', lo, rs, n, sv, nv, bv, nb, Ml, Mpl, rfl, h1, h2, h3, h4, (hlo.sub hs).mono hk, hpo.sub hs, hsv.sub hs, hrs.sub hs, hbv.sub hs⟩
theorem Con.open6 {M : List (Addr × Obj)} (h : Con prog w I σ k cd pd rl ld gd kd bg sl br M) : Ex8 fun o go ko bo lo Mb Ml Mp => An5 (M = (cd, o) :: (gd, go) :: (kd, ko) :: (bg, bo) :: (ld, lo) :: (Mb ++ (Ml ++ Mp))) (DK prog w kVec I o (vks σ.V)) (DK prog w kSpans I ko (kks σ.K)) (LnSt prog w I lo Ml k) (∀ {J : Imm} {V' : Int → Vec} {K' : Int → List Span} {k' : Nat} {o' ko' lo' : Obj} {Ml' : List (Addr × Obj)}, Sub I J → DK prog w kVec J o' (vks V') → DK prog w kSpans J ko' (kks K') → LnSt prog w J lo' Ml' k' →
      Con prog w J { σ with V := V', K := K' } k' cd pd rl ld gd kd bg sl br ((cd, o') :: (gd, go) :: (kd, ko') :: (bg, bo) :: (ld, lo') :: (Mb ++ (Ml' ++ Mp)))) := by
  obtain ⟨o, po, ko, go, bo, lo, rs, n, sv, nv, bv, nb, Ml, Mpl, rfl, hco, hgo, hko, hbo, hlo, hpo, hsv, hrs, hbv⟩ := h
  refine ⟨o, go, ko, bo, lo, [(br, seqObj "list" bv.toArray nb), (sl, seqObj "list" sv.toArray nv), (pd, po), (rl, seqObj "list" rs.toArray n)], Ml, Mpl, rfl, hco, hko, hlo, fun {J V' K' k' o' ko' lo' Ml'} hs h1 h2 h3 => ?_⟩
  exact ⟨o', po, ko', go, bo, lo', rs, n, sv, nv, bv, nb, Ml', Mpl, rfl, h1, hgo.sub hs, h2, hbo.sub hs, h3, hpo.sub hs, hsv.sub hs, hrs.sub hs, hbv.sub hs⟩
section
variable {S₀ : Shared} {I₀ : Imm} {X : List Addr} {L : Addr} {m : Nm} {og ob : Obj} {who q : Int} {tw tq : Tok} {Q : Flow → Shared → Prop}
theorem deed_leave (R1 : Room A (d + 6)) (T10 : Tp (KK w.params) mb I) (W : WatchI I x cd ld gd pd rl) (B : BookI prog w I b kd bg sl br) (c12 : Cx S₀ I₀ X I L m ((L + 2, og) :: (L + 1, ob) :: (sr, so) :: M) s)
    (hog' : og.data = .cell (some (.int q tq))) (hob : ob.data = .cell (some (.ref b))) (e1 : m "watch" = some (.ref x)) (e2 : m "who" = some (.int who tw)) (e3 : m "source" = some (.ref sr)) (hs9 : SrcOk so) (hC : Con prog w I σ t cd pd rl ld gd kd bg sl br M) (hOk : Ok t σ) (ht : t ≤ 20) (hg : InG who) (hq : q = 3 ∨ q = 4)
    (k : ∀ m' I' so' σ' M' s', Cx S₀ I₀ X I' L m' ((sr, so') :: M') s' → (∀ y ∈ M.map (·.1), y ∈ M'.map (·.1)) → SrcOk so' → Con prog w I' σ' (t + 1) cd pd rl ld gd kd bg sl br M' → Ok (t + 1) σ' → Q .next s') :
    wpAny (model prog w) A (execs bLeave (callEnvC (fdA 298) L 298)) Q noE s := by
  obtain ⟨o, go, ko, bo, Mr, rfl, hco, hgo, hko, hbo, hclose⟩ := hC.open4
  refine wpAny_execs_cons (wpAny_Expr ?_)
  refine mcall ?_
  refine en c12 e1 ?_ rfl rfl
  refine w_m T10 c12 W rfl rfl (by intros; rfl) ?_
  refine cwK (K := KK w.params) rfl (spliced_more (en c12 e2 (spliced_more (enC c12 (.head _) hog' (spliced_none ⟨T10.inn c12.imm, ?_⟩) rfl rfl rfl)) rfl rfl))
  refine Cx.callP (M1 := [(L + 2, og), (L + 1, ob), (sr, so)]) (Mc := [(cd, o), (gd, go)]) c12 (leave_ok (d := d) (R1.le (by omega)) T10 c12.imm W (c12.own (mid_sub [(L + 2, og), (L + 1, ob), (sr, so)] [(cd, o), (gd, go)] _)) hco hgo (by simp [vks]) (by have := hOk.gsz; omega) hg) ?_
  rintro v13 I13 s13 Ms N c13 sub13 ⟨o13, go13, rfl, rfl, hco13, hgo13, rfl⟩
  rw [vks_clk0 hg, vks_clocked hg, vks_put hg] at hco13
  rw [vks_clk0 hg] at hgo13
  have T13 := T10.sub sub13
  have sub013 := sub13
  refine wpAny_execs_cons (wpAny_Assign_Name ?_)
  refine Call_Name rfl (enG T13 c13 rfl ?_ rfl rfl rfl)
  refine cwK (K := KK w.params) rfl (spliced_more (Subscript_ (enC c13 (.tail _ (.head _)) hob (cstr c13 fun t14 s14 c14 => b_get (s := s14) c14.imm (B.sub sub013) rfl (spliced_more (en c14.toks e2 (spliced_none ⟨T13.inn c14.imm, ?_⟩) rfl rfl))) rfl rfl rfl)))
  have hlen : (σ.K who).length ≤ 45 := by rw [(hOk.know who hg).len]; have := hOk.vsum hg; omega
  have hlenH : (σ.H q).length ≤ 45 := by rw [(hOk.gate q hq).len]; have := hOk.gsum q; omega
  refine Cx.callP (M1 := [(L + 2, og), (L + 1, ob), (sr, so), (cd, o13), (gd, go13)]) (Mc := [(kd, ko)]) (M2 := (bg, bo) :: Mr) c14.toks (ltold_ok (d := d) (R1.le (by omega)) T13 c14.imm ((c14.toks (tk := s14.toks + 1)).own (mid_sub [(L + 2, og), (L + 1, ob), (sr, so), (cd, o13), (gd, go13)] [(kd, ko)] _)) (hko.sub sub13) (by simp [kks]) (kks_look hg) (by omega)) ?_
  rintro v15 I15 s15 Ms N c15 sub15 ⟨ko15, rfl, rfl, hko15, hv15⟩
  rw [kks_put hg] at hko15
  obtain ⟨a15, vs15, rfl, ha15, hvs15⟩ := hv15
  have T15 := T13.sub sub15
  have sub015 := sub013.trans sub15
  refine es (env := callEnvC (fdA 298) L 298) c15 (fun s16 c16 => ?_) rfl rfl
  refine wpAny_execs_cons (wpAny_Assign_Subscript (wpAny_BinOp ?_))
  refine Subscript_ (Subscript_ (enC c16 (.tail _ (.head _)) hob (cstr c16 fun t17 s17 c17 => b_get (s := s17) c17.imm (B.sub sub015) rfl (enC c17.toks (.head _) hog' ?_ rfl rfl rfl)) rfl rfl rfl))
  refine dk_get (M1 := [(L + 2, og), (L + 1, ob), (sr, so), (cd, o13), (gd, go13), (kd, ko15)]) c17.toks (hbo.sub (sub13.trans sub15)) (ggs_look hq) (fun s18 v18 c18 hv18 => ?_) rfl
  obtain ⟨a18, vs18, rfl, ha18, hvs18⟩ := hv18
  refine comp_pick koSpan (fun a => decide (a ∉ σ.H q)) c18 R1.hd (cl := [(("gate" : Str), L + 2), (("book" : Str), L + 1)]) rfl rfl rfl rfl rfl rfl ?_
  refine en c18 rfl ?_ rfl rfl
  refine ⟨a15, σ.K who, vs15, rfl, c18, ha15.at c18.imm, hvs15, by rw [hvs15.length]; omega, ?_, ?_⟩
  · rintro C s5 m5 p v hv hn hm5 hI5 hM5
    refine wpAny_isTrue_Compare1 ?_
    refine wpAny_Name (wpAny_loadName_local rfl rfl hn hm5 ?_) (by decide)
    refine Subscript_ (Subscript_ ?_)
    refine wpAny_Name (wpAny_loadName_cell rfl rfl rfl ⟨ob, hM5 (L + 1, ob) (.tail _ (.head _)), hob⟩ ?_) (by decide)
    refine wpAny_Constant_str ?_
    refine b_get (s := { s5 with toks := s5.toks + 1 }) hI5 (B.sub sub015) rfl ?_
    refine wpAny_Name (wpAny_loadName_cell rfl rfl rfl ⟨og, hM5 (L + 2, og) (.head _), hog'⟩ ?_) (by decide)
    refine dq_get (E := noE) (s := { s5 with toks := s5.toks + 1 + 1 }) (hM5 (bg, bo) (.tail _ (.tail _ (.tail _ (.tail _ (.tail _ (.tail _ (.head _)))))))) (hbo.sub (sub13.trans sub15)) (ggs_look hq) (fun b ws hb hws => ?_) rfl
    refine notIn_b koSpan (s := { s5 with toks := s5.toks + 1 + 1 + 1 }) (R1.fits (by decide)) hI5 (hb.at hI5) hws hv fun bb hbb => wpAny_truthy_bool ⟨?_, _, rfl⟩
    rw [Bool.eq_iff_iff, hbb, decide_eq_true_eq]
  intro D I19 s19 out c19 sub19 hD hout
  have hfl := List.length_filter_le (fun a : Span => decide (a ∉ σ.H q)) (σ.K who)
  refine add_lst c19 ((ha18.sub sub19).at c19.imm) (hD.at c19.imm) (small (by rw [hvs18.length, hout.length]; omega)) fun tr I20 s20 c20 sub20 htr => ?_
  have sub1920 := sub19.trans sub20
  have sub1520 := sub15.trans sub1920
  have sub1020 := sub13.trans sub1520
  refine Subscript_ (enC c20 (.tail _ (.head _)) hob (cstr c20 fun t21 s21 c21 => b_get (s := s21) c21.imm (B.sub (sub015.trans sub1920)) rfl (enC c21.toks (.head _) hog' ?_ rfl rfl rfl)) rfl rfl rfl)
  have hnew : kSpans.is I20 (σ.H q ++ (σ.K who).filter (fun a => decide (a ∉ σ.H q))) (.ref tr) := ⟨tr, _, rfl, htr, (hvs18.sub sub1920).append (hout.sub sub20)⟩
  refine dk_set (M1 := [(L + 2, og), (L + 1, ob), (sr, so), (cd, o13), (gd, go13), (kd, ko15)]) c21.toks (hbo.sub sub1020) (by simp [ggs]) hnew fun s22 ko22 hk22 c22 => ?_
  rw [ggs_put hq] at hk22
  have c23 := c22.drop (M' := (sr, so) :: (cd, o13) :: (gd, go13) :: (kd, ko15) :: (bg, ko22) :: Mr) (List.sublist_append_right [(L + 2, og), (L + 1, ob)] _)
  exact wpAny_execs_nil (k _ _ so _ _ _ c23 (fun y hy => hy) hs9 (hclose sub1020 (Nat.le_succ t) (hco13.sub sub1520) (hgo13.sub sub1520) (hko15.sub sub1920) hk22) (hOk.leave hg hq))
theorem deed_enter (R1 : Room A (d + 6)) (T10 : Tp (KK w.params) mb I) (W : WatchI I x cd ld gd pd rl) (B : BookI prog w I b kd bg sl br) (c12 : Cx S₀ I₀ X I L m ((L + 2, og) :: (L + 1, ob) :: (sr, so) :: M) s)
    (hog' : og.data = .cell (some (.int q tq))) (hob : ob.data = .cell (some (.ref b))) (e1 : m "watch" = some (.ref x)) (e2 : m "who" = some (.int who tw)) (e3 : m "source" = some (.ref sr)) (hs9 : SrcOk so) (hC : Con prog w I σ t cd pd rl ld gd kd bg sl br M) (hOk : Ok t σ) (ht : t ≤ 20) (hg : InG who) (hq : q = 3 ∨ q = 4)
    (k : ∀ m' I' so' σ' M' s', Cx S₀ I₀ X I' L m' ((sr, so') :: M') s' → (∀ y ∈ M.map (·.1), y ∈ M'.map (·.1)) → SrcOk so' → Con prog w I' σ' (t + 1) cd pd rl ld gd kd bg sl br M' → Ok (t + 1) σ' → Q .next s') :
    wpAny (model prog w) A (execs bEnter (callEnvC (fdA 298) L 298)) Q noE s := by
  obtain ⟨o, go, ko, bo, Mr, rfl, hco, hgo, hko, hbo, hclose⟩ := hC.open4
  refine wpAny_execs_cons (wpAny_Expr ?_)
  refine mcall ?_
  refine en c12 e1 ?_ rfl rfl
  refine w_m T10 c12 W rfl rfl (by intros; rfl) ?_
  refine cwK (K := KK w.params) rfl (spliced_more (en c12 e2 (spliced_more (enC c12 (.head _) hog' (spliced_none ⟨T10.inn c12.imm, ?_⟩) rfl rfl rfl)) rfl rfl))
  refine Cx.callP (M1 := [(L + 2, og), (L + 1, ob), (sr, so)]) (Mc := [(cd, o), (gd, go)]) c12 (enter_ok (d := d) (R1.le (by omega)) T10 c12.imm W (c12.own (mid_sub [(L + 2, og), (L + 1, ob), (sr, so)] [(cd, o), (gd, go)] _)) hco hgo (by simp [vks]) hg) ?_
  rintro v14 I14 s14 Ms N c14 sub14 ⟨o14, rfl, rfl, hco14, rfl⟩
  rw [vks_clk0 hg, vks_clocked hg, vks_put hg] at hco14
  have T14 := T10.sub sub14
  have sub014 := sub14
  have hlen : (σ.K who).length ≤ 45 := by rw [(hOk.know who hg).len]; have := hOk.vsum hg; omega
  have hlenH : (σ.H q).length ≤ 45 := by rw [(hOk.gate q hq).len]; have := hOk.gsum q; omega
  refine wpAny_execs_cons (wpAny_Expr ?_)
  refine Call_Name rfl (enG T14 c14 rfl ?_ rfl rfl rfl)
  refine cwK (K := KK w.params) rfl (spliced_more (Subscript_ (enC c14 (.tail _ (.head _)) hob (cstr c14 fun t15 s15 c15 => b_get (s := s15) c15.imm (B.sub sub014) rfl (spliced_more (en c15.toks e2 (spliced_more ?_) rfl rfl))) rfl rfl rfl)))
  refine Subscript_ (Subscript_ (enC c15.toks (.tail _ (.head _)) hob (cstr c15.toks fun t17 s17 c17 => b_get (s := s17) c17.imm (B.sub sub014) rfl (enC c17.toks (.head _) hog' ?_ rfl rfl rfl)) rfl rfl rfl))
  refine dk_get (M1 := [(L + 2, og), (L + 1, ob), (sr, so), (cd, o14), (gd, go), (kd, ko)]) c17.toks (hbo.sub sub14) (ggs_look hq) (fun s18 v18 c18 hv18 => ?_) rfl
  obtain ⟨a18, vs18, rfl, ha18, hvs18⟩ := hv18
  refine spliced_none ⟨T14.inn c18.imm, ?_⟩
  refine Cx.callP (M1 := [(L + 2, og), (L + 1, ob), (sr, so), (cd, o14), (gd, go)]) (Mc := [(kd, ko)]) (M2 := (bg, bo) :: Mr) c18 (llearn_ok (d := d) (R1.le (by omega)) T14 c18.imm (c18.own (mid_sub [(L + 2, og), (L + 1, ob), (sr, so), (cd, o14), (gd, go)] [(kd, ko)] _)) (hko.sub sub14) (by simp [kks]) (kks_look hg) (by omega) ha18 hvs18 (by omega)) ?_
  rintro v19 I19 s19 Ms N c19 sub19 ⟨ko19, rfl, rfl, hko19, rfl⟩
  rw [kks_put hg] at hko19
  have sub1019 := sub14.trans sub19
  have c20 := c19.drop (M' := (sr, so) :: (cd, o14) :: (gd, go) :: (kd, ko19) :: (bg, bo) :: Mr) (List.sublist_append_right [(L + 2, og), (L + 1, ob)] _)
  exact wpAny_execs_nil (k _ _ so _ _ _ c20 (fun y hy => hy) hs9 (hclose sub1019 (Nat.le_succ t) (hco14.sub sub19) (hgo.sub sub1019) hko19 (hbo.sub sub1019)) (hOk.enter hg hq))
theorem deed_hand (R1 : Room A (d + 6)) (T10 : Tp (KK w.params) mb I) (W : WatchI I x cd ld gd pd rl) (B : BookI prog w I b kd bg sl br) (c12 : Cx S₀ I₀ X I L m ((L + 2, og) :: (L + 1, ob) :: (sr, so) :: M) s)
    (hog' : og.data = .cell (some (.int q tq))) (hob : ob.data = .cell (some (.ref b))) (e1 : m "watch" = some (.ref x)) (e2 : m "who" = some (.int who tw)) (e3 : m "source" = some (.ref sr)) (hs9 : SrcOk so) (hC : Con prog w I σ t cd pd rl ld gd kd bg sl br M) (hOk : Ok t σ) (ht : t ≤ 20) (hg : InG who) (hq : q = 3 ∨ q = 4)
    (k : ∀ m' I' so' σ' M' s', Cx S₀ I₀ X I' L m' ((sr, so') :: M') s' → (∀ y ∈ M.map (·.1), y ∈ M'.map (·.1)) → SrcOk so' → Con prog w I' σ' (t + 1) cd pd rl ld gd kd bg sl br M' → Ok (t + 1) σ' → Q .next s') :
    wpAny (model prog w) A (execs bHand (callEnvC (fdA 298) L 298)) Q noE s := by
  obtain ⟨o, go, ko, bo, lo, Mb, Ml, Mp, rfl, hco, hko, hlo, hclose⟩ := hC.open6
  refine wpAny_execs_cons (wpAny_Assign_Name (wpAny_BinOp (wpAny_BinOp (wpAny_BinOp (en c12 e2 (cint c12 fun t14 s14 c14 => PyProof.Rows.add_int ?_) rfl rfl)))))
  have c14b := c14.toks (tk := s14.toks + 1)
  refine Call_Name rfl (enG T10 c14b rfl ?_ rfl rfl rfl)
  refine cwK (K := KK w.params) rfl (spliced_more (en c14b e3 (spliced_more (cint c14b fun t15 s15 c15 => spliced_none ⟨T10.inn c15.imm, ?_⟩)) rfl rfl))
  refine Cx.callP (M1 := [(L + 2, og), (L + 1, ob)]) (Mc := [(sr, so)]) c15 (take_ok (d := d) (R1.le (by omega)) T10 c15.imm (c15.own (mid_sub [(L + 2, og), (L + 1, ob)] [(sr, so)] _)) hs9 (by omega) (by omega)) ?_
  rintro v16 I16 s16 Ms N c16 sub16 ⟨so16, dr, t16, rfl, rfl, hs16, rfl, hd0, hd1⟩
  refine PyProof.Rows.add_int ?_
  have c16b := c16.toks (tk := s16.toks + 1)
  refine cint c16b fun t17 s17 c17 => ?_
  refine mod_int' (by decide) ?_
  have c17b := c17.toks (tk := s17.toks + 1)
  generalize hoth : (who + 1 + dr).fmod 3 = other
  have hho : InG other := by
    have h1 := Int.fmod_nonneg_of_pos (who + 1 + dr) (b := 3) (by decide)
    have h2 := Int.fmod_lt_of_pos (who + 1 + dr) (b := 3) (by decide)
    unfold InG; omega
  refine es (env := callEnvC (fdA 298) L 298) c17b (fun s18 c18 => ?_) rfl rfl
  have T16 := T10.sub sub16
  have sub016 := sub16
  have c19 := c18.perm (M' := [(L + 2, og), (L + 1, ob), (sr, so16)] ++ (((cd, o) :: (ld, lo) :: Ml) ++ ((gd, go) :: (kd, ko) :: (bg, bo) :: (Mb ++ Mp)))) (by (refine perm_cnt fun _ a => ?_; simp only [List.count_cons, List.count_append, List.count_nil]; omega))
  refine wpAny_execs_cons (wpAny_Expr ?_)
  refine mcall ?_
  refine en c19 e1 ?_ rfl rfl
  refine w_m T16 c19 (W.sub sub016) rfl rfl (by intros; rfl) ?_
  refine cwK (K := KK w.params) rfl (spliced_more (en c19 e2 (spliced_more (en c19 rfl (spliced_more (cint c19 fun t20 s20 c20 => spliced_none ⟨T16.inn c20.imm, ?_⟩)) rfl rfl)) rfl rfl))
  refine Cx.callP (P := fun I' Ms N v => Ms.map (·.1) = ((cd, o) :: (ld, lo) :: Ml).map (·.1) ∧ Ex3 fun o' lo' Ml' => An4 ((N ++ Ms).Perm ((cd, o') :: (ld, lo') :: Ml')) (DK prog w kVec I' o' (vks (V4 σ.V who other))) (LnSt prog w I' lo' Ml' (t + 1)) (v = .none)) (M1 := [(L + 2, og), (L + 1, ob), (sr, so16)]) (Mc := (cd, o) :: (ld, lo) :: Ml) c20 (wpAny_mono (hand_ok (d := d) (R1.le (by omega)) T16 c20.imm (W.sub sub016) (c20.own (mid_sub [(L + 2, og), (L + 1, ob), (sr, so16)] ((cd, o) :: (ld, lo) :: Ml) _)) (hco.sub sub16) (hlo.sub sub16) (by omega) hg hho) (fun v s' ⟨I', Ms, N, g, e, hm, hN, p⟩ => ⟨I', Ms, N, g, e, hm, hN, e, p⟩) fun _ _ e => e) ?_
  rintro v21 I21 s21 Ms N c21 sub21 ⟨hMs21, o21, lo21, Ml21, hperm, hco21, hlo21, rfl⟩
  have hY21 : ∀ y ∈ Ml.map (·.1), y = cd ∨ y = ld ∨ y ∈ Ml21.map (·.1) := fun y hy => by
    have h1 : y ∈ Ms.map (·.1) := by rw [hMs21]; exact .tail _ (.tail _ hy)
    have h2 := (hperm.map (·.1)).mem_iff.mp (by rw [List.map_append]; exact List.mem_append_right _ h1)
    simpa using h2
  have T21 := T16.sub sub21
  have sub021 := sub016.trans sub21
  have sub1021 := sub16.trans sub21
  have c22 := c21.perm (M' := [(L + 2, og), (L + 1, ob), (sr, so16), (cd, o21), (gd, go)] ++ ([(kd, ko)] ++ ((bg, bo) :: (ld, lo21) :: (Mb ++ (Ml21 ++ Mp))))) (by
    refine perm_cnt fun _ a => ?_
    have := hperm.count_eq a
    simp only [List.count_cons, List.count_append, List.count_nil] at this ⊢
    omega)
  have hlen : ∀ y, InG y → (σ.K y).length ≤ 45 := fun y hy => by rw [(hOk.know y hy).len]; have := hOk.vsum hy; omega
  refine wpAny_execs_cons (esgSw2 (env := callEnvC (fdA 298) L 298) c22 R1.hd ?_ rfl rfl rfl)
  refine spliced_more (Call_Name rfl (enG T21 c22 rfl ?_ rfl rfl rfl))
  refine cwK (K := KK w.params) rfl (spliced_more (Subscript_ (enC c22 (.tail _ (.head _)) hob (cstr c22 fun t23 s23 c23 => b_get (s := s23) c23.imm (B.sub sub021) rfl (spliced_more (en c23.toks e2 (spliced_none ⟨T21.inn c23.imm, ?_⟩) rfl rfl))) rfl rfl rfl)))
  have c23b := c23.toks (tk := s23.toks + 1)
  refine Cx.callP (M1 := [(L + 2, og), (L + 1, ob), (sr, so16), (cd, o21), (gd, go)]) (Mc := [(kd, ko)]) (M2 := (bg, bo) :: (ld, lo21) :: (Mb ++ (Ml21 ++ Mp))) c23b (ltold_ok (d := d) (R1.le (by omega)) T21 c23b.imm (c23b.own (mid_sub [(L + 2, og), (L + 1, ob), (sr, so16), (cd, o21), (gd, go)] [(kd, ko)] _)) (hko.sub sub1021) (by simp [kks]) (kks_look hg) (by have := hlen who hg; omega)) ?_
  rintro v24 I24 s24 Ms N c24 sub24 ⟨ko24, rfl, rfl, hko24, hv24⟩
  rw [kks_put hg] at hko24
  obtain ⟨K1, hK1⟩ : ∃ K1, K1 = updL σ.K who (σ.K who ++ [(who, ((mine (σ.K who) who).length + 1 : Int))]) := ⟨_, rfl⟩
  rw [← hK1] at hko24
  have hlen1 : ∀ y, InG y → (K1 y).length ≤ 46 := fun y hy => by
    rw [hK1]; unfold updL
    have := hlen y hy
    have := hlen who hg
    split <;> simp <;> omega
  have T24 := T21.sub sub24
  have sub024 := sub021.trans sub24
  refine spliced_more (Call_Name rfl (enG T24 c24 rfl ?_ rfl rfl rfl))
  refine cwK (K := KK w.params) rfl (spliced_more (Subscript_ (enC c24 (.tail _ (.head _)) hob (cstr c24 fun t25 s25 c25 => b_get (s := s25) c25.imm (B.sub sub024) rfl (spliced_more (en c25.toks rfl (spliced_none ⟨T24.inn c25.imm, ?_⟩) rfl rfl))) rfl rfl rfl)))
  have c25b := c25.toks (tk := s25.toks + 1)
  refine Cx.callP (M1 := [(L + 2, og), (L + 1, ob), (sr, so16), (cd, o21), (gd, go)]) (Mc := [(kd, ko24)]) (M2 := (bg, bo) :: (ld, lo21) :: (Mb ++ (Ml21 ++ Mp))) c25b (ltold_ok (d := d) (R1.le (by omega)) T24 c25b.imm (c25b.own (mid_sub [(L + 2, og), (L + 1, ob), (sr, so16), (cd, o21), (gd, go)] [(kd, ko24)] _)) hko24 (by simp [kks]) (kks_look hho) (by have := hlen1 other hho; omega)) ?_
  rintro v26 I26 s26 Ms N c26 sub26 ⟨ko26, rfl, rfl, hko26, hv26⟩
  rw [kks_put hho] at hko26
  obtain ⟨K2, hK2⟩ : ∃ K2, K2 = updL K1 other (K1 other ++ [(other, ((mine (K1 other) other).length + 1 : Int))]) := ⟨_, rfl⟩
  rw [← hK2] at hko26
  have hlen2 : ∀ y, InG y → (K2 y).length ≤ 47 := fun y hy => by
    rw [hK2]; unfold updL
    have := hlen1 y hy
    have := hlen1 other hho
    split <;> simp <;> omega
  refine spliced_none ⟨_, _, I26, _, rfl, c26, fun I27 s27 c27 sub27 => ?_⟩
  have T27 := T24.sub (sub26.trans sub27)
  have sub027 := sub024.trans (sub26.trans sub27)
  obtain ⟨a24, vs24, rfl, ha24, hvs24⟩ := kSpans.sub (sub26.trans sub27) hv24
  obtain ⟨a26, vs26, rfl, ha26, hvs26⟩ := kSpans.sub sub27 hv26
  refine wpAny_execs_cons (wpAny_Expr ?_)
  refine Call_Name rfl (enG T27 c27 rfl ?_ rfl rfl rfl)
  refine cwK (K := KK w.params) rfl (spliced_more (Subscript_ (enC c27 (.tail _ (.head _)) hob (cstr c27 fun t28 s28 c28 => b_get (s := s28) c28.imm (B.sub sub027) rfl (spliced_more (en c28.toks e2 (spliced_more (en c28.toks rfl (spliced_none ⟨T27.inn c28.imm, ?_⟩) rfl rfl)) rfl rfl))) rfl rfl rfl)))
  have c28b := c28.toks (tk := s28.toks + 1)
  refine Cx.callP (M1 := [(L + 2, og), (L + 1, ob), (sr, so16), (cd, o21), (gd, go)]) (Mc := [(kd, ko26)]) (M2 := (bg, bo) :: (ld, lo21) :: (Mb ++ (Ml21 ++ Mp))) c28b (llearn_ok (d := d) (R1.le (by omega)) T27 c28b.imm (c28b.own (mid_sub [(L + 2, og), (L + 1, ob), (sr, so16), (cd, o21), (gd, go)] [(kd, ko26)] _)) (hko26.sub sub27) (by simp [kks]) (kks_look hg) (by have := hlen2 who hg; omega) ha26 hvs26 (by have := hlen1 other hho; omega)) ?_
  rintro v29 I29 s29 Ms N c29 sub29 ⟨ko29, rfl, rfl, hko29, rfl⟩
  rw [kks_put hg] at hko29
  obtain ⟨K3, hK3⟩ : ∃ K3, K3 = updL K2 who (K2 who ++ (K1 other).filter (fun a => decide (a ∉ K2 who))) := ⟨_, rfl⟩
  rw [← hK3] at hko29
  have hlen3 : ∀ y, InG y → (K3 y).length ≤ 93 := fun y hy => by
    rw [hK3]; unfold updL
    have := hlen2 y hy
    have := hlen2 who hg
    have := hlen1 other hho
    have := List.length_filter_le (fun a => decide (a ∉ K2 who)) (K1 other)
    split
    · rw [List.length_append]; omega
    · omega
  have T29 := T27.sub sub29
  have sub029 := sub027.trans sub29
  refine wpAny_execs_cons (wpAny_Expr ?_)
  refine Call_Name rfl (enG T29 c29 rfl ?_ rfl rfl rfl)
  refine cwK (K := KK w.params) rfl (spliced_more (Subscript_ (enC c29 (.tail _ (.head _)) hob (cstr c29 fun t30 s30 c30 => b_get (s := s30) c30.imm (B.sub sub029) rfl (spliced_more (en c30.toks rfl (spliced_more (en c30.toks rfl (spliced_none ⟨T29.inn c30.imm, ?_⟩) rfl rfl)) rfl rfl))) rfl rfl rfl)))
  have c30b := c30.toks (tk := s30.toks + 1)
  refine Cx.callP (M1 := [(L + 2, og), (L + 1, ob), (sr, so16), (cd, o21), (gd, go)]) (Mc := [(kd, ko29)]) (M2 := (bg, bo) :: (ld, lo21) :: (Mb ++ (Ml21 ++ Mp))) c30b (llearn_ok (d := d) (R1.le (by omega)) T29 c30b.imm (c30b.own (mid_sub [(L + 2, og), (L + 1, ob), (sr, so16), (cd, o21), (gd, go)] [(kd, ko29)] _)) hko29 (by simp [kks]) (kks_look hho) (by have := hlen3 other hho; omega) (ha24.sub sub29) (hvs24.sub sub29) (by have := hlen who hg; omega)) ?_
  rintro v31 I31 s31 Ms N c31 sub31 ⟨ko31, rfl, rfl, hko31, rfl⟩
  rw [kks_put hho] at hko31
  have hK4 : updL K3 other (K3 other ++ (σ.K who).filter (fun a => decide (a ∉ K3 other))) = K4 σ.K who other := by rw [hK3, hK2, hK1]; rfl
  rw [hK4] at hko31
  have sub2131 := sub24.trans (sub26.trans (sub27.trans (sub29.trans sub31)))
  have sub1031 := sub1021.trans sub2131
  have c32 := c31.drop (M' := (sr, so16) :: (cd, o21) :: (gd, go) :: (kd, ko31) :: (bg, bo) :: (ld, lo21) :: (Mb ++ (Ml21 ++ Mp))) (List.sublist_append_right [(L + 2, og), (L + 1, ob)] _)
  refine wpAny_execs_nil (k _ _ so16 _ _ _ c32 (fun y hy => ?_) hs16 (hclose sub1031 (hco21.sub sub2131) hko31 (hlo21.sub sub2131)) (hOk.hand hg hho))
  have hy' : y ∈ cd :: gd :: kd :: bg :: ld :: (Mb ++ (Ml ++ Mp)).map (·.1) := hy
  show y ∈ cd :: gd :: kd :: bg :: ld :: (Mb ++ (Ml21 ++ Mp)).map (·.1)
  rw [List.map_append, List.map_append] at hy' ⊢
  exact mem_mid (P := [cd, gd, kd, bg, ld]) (fun z hz => (hY21 z hz).elim (fun e => .inl (by rw [e]; exact .head _)) fun h => h.elim (fun e => .inl (by rw [e]; exact .tail _ (.tail _ (.tail _ (.tail _ (.head _)))))) .inr) hy'
theorem deed_acc (R1 : Room A (d + 6)) (T10 : Tp (KK w.params) mb I) (W : WatchI I x cd ld gd pd rl) (B : BookI prog w I b kd bg sl br) (c12 : Cx S₀ I₀ X I L m ((L + 2, og) :: (L + 1, ob) :: (sr, so) :: M) s)
    (hog' : og.data = .cell (some (.int q tq))) (hob : ob.data = .cell (some (.ref b))) (e1 : m "watch" = some (.ref x)) (e2 : m "who" = some (.int who tw)) (e3 : m "source" = some (.ref sr)) (hs9 : SrcOk so) (hC : Con prog w I σ t cd pd rl ld gd kd bg sl br M) (hOk : Ok t σ) (ht : t ≤ 20) (hg : InG who) (hq : q = 3 ∨ q = 4)
    (k : ∀ m' I' so' σ' M' s', Cx S₀ I₀ X I' L m' ((sr, so') :: M') s' → (∀ y ∈ M.map (·.1), y ∈ M'.map (·.1)) → SrcOk so' → Con prog w I' σ' (t + 1) cd pd rl ld gd kd bg sl br M' → Ok (t + 1) σ' → Q .next s') :
    wpAny (model prog w) A (execs bAcc (callEnvC (fdA 298) L 298)) Q noE s := by
  refine wpAny_execs_cons (wpAny_Expr ?_)
  refine Call_Name rfl (enG T10 c12 rfl ?_ rfl rfl rfl)
  refine cwK (K := KK w.params) rfl (spliced_more (en c12 e1 (spliced_more (enC c12 (.tail _ (.head _)) hob (spliced_more (en c12 e2 (spliced_more ?_) rfl rfl)) rfl rfl rfl)) rfl rfl))
  refine Call_Name rfl (enG T10 c12 rfl ?_ rfl rfl rfl)
  refine cwK (K := KK w.params) rfl (spliced_more (en c12 e3 (spliced_more ?_) rfl rfl))
  refine lstE c12 (spliced_more (cstr c12 fun ta sa ca => spliced_more (cstr ca fun tb sb cb => spliced_none ⟨_, _, cb, by simp, fun tl I12 s12 c12b sub12 htl => ?_⟩)))
  have T12 := T10.sub sub12
  refine spliced_none ⟨T12.inn c12b.imm, ?_⟩
  refine Cx.callP (M1 := [(L + 2, og), (L + 1, ob)]) (Mc := [(sr, so)]) c12b (one_ok (d := d) (R1.le (by omega)) T12 c12b.imm (c12b.own (by simp)) hs9 htl (by simp) (by simp)) ?_
  rintro v13 I13 s13 Ms N c13 sub13 ⟨so13, rfl, rfl, hs13, hv13⟩
  obtain ⟨isW, tw, rfl⟩ : ∃ isW tw, v13 = .str (wd isW) tw := by
    rcases List.mem_cons.mp hv13 with e | e
    · exact ⟨false, _, e⟩
    · exact ⟨true, _, List.mem_singleton.mp e⟩
  have T13 := T12.sub sub13
  refine spliced_more (Call_Name rfl (enG T13 c13 rfl ?_ rfl rfl rfl))
  refine cwK (K := KK w.params) rfl (spliced_more (en c13 e3 (spliced_more ?_) rfl rfl))
  refine lstE c13 (spliced_more (tupE c13 (spliced_none ⟨_, _, c13, by simp, fun z1 I14 s14 c14 sub14 hz1 => ?_⟩)))
  refine spliced_more (tupE c14 (spliced_more (cint c14 fun t15 s15 c15 => spliced_none ⟨_, _, c15, by simp, fun z2 I16 s16 c16 sub16 hz2 => ?_⟩)))
  refine spliced_more (tupE c16 (spliced_more (cint c16 fun t17 s17 c17 => spliced_none ⟨_, _, c17, by simp, fun z3 I18 s18 c18 sub18 hz3 => ?_⟩)))
  refine spliced_none ⟨_, _, c18, by simp, fun tl2 I19 s19 c19 sub19 htl2 => ?_⟩
  have sub1319 := sub14.trans (sub16.trans (sub18.trans sub19))
  have T19 := T13.sub sub1319
  refine spliced_none ⟨T19.inn c19.imm, ?_⟩
  refine Cx.callP (M1 := [(L + 2, og), (L + 1, ob)]) (Mc := [(sr, so13)]) c19 (one_ok (d := d) (R1.le (by omega)) T19 c19.imm (c19.own (by simp)) hs13 htl2 (by simp) (by simp)) ?_
  rintro v20 I20 s20 Ms N c20 sub20 ⟨so20, rfl, rfl, hs20, hv20⟩
  obtain ⟨path, hpath, hpv⟩ : ∃ path, path ∈ paths ∧ kPath.is I19 path v20 := by
    rcases List.mem_cons.mp hv20 with e | hv20
    · exact ⟨[], by simp [paths], by rw [e]; exact ⟨z1, _, rfl, hz1.sub (sub16.trans (sub18.trans sub19)), trivial⟩⟩
    · rcases List.mem_cons.mp hv20 with e | hv20
      · exact ⟨[0], by simp [paths], by rw [e]; exact ⟨z2, _, rfl, hz2.sub (sub18.trans sub19), ⟨_, rfl⟩, trivial⟩⟩
      · exact ⟨[1], by simp [paths], by rw [List.mem_singleton.mp hv20]; exact ⟨z3, _, rfl, hz3.sub sub19, ⟨_, rfl⟩, trivial⟩⟩
  have sub1020 := sub12.trans (sub13.trans (sub1319.trans sub20))
  refine spliced_none ⟨(T19.sub sub20).inn c20.imm, ?_⟩
  have hp2 : ∀ p ∈ paths, p.length ≤ 100 := by decide
  obtain ⟨o, po, ko, go, bo, lo, rs, n, sv, nv, bv, nb, Ml, Mpl, rfl, hco, hgo, hko, hbo, hlo, hpo, hsv, hrs, hbv⟩ := hC
  have c21 := c20.perm (M' := ((L + 2, og) :: (L + 1, ob) :: (sr, so20) :: (gd, go) :: (bg, bo) :: (ld, lo) :: Ml) ++ ((br, seqObj "list" bv.toArray nb) :: (kd, ko) :: (sl, seqObj "list" sv.toArray nv) :: (cd, o) :: (pd, po) :: (rl, seqObj "list" rs.toArray n) :: Mpl))
    (cat_perm [[(L + 2, og)], [(L + 1, ob)], [(sr, so20)], [(cd, o)], [(gd, go)], [(kd, ko)], [(bg, bo)], [(ld, lo)], [(br, seqObj "list" bv.toArray nb)], [(sl, seqObj "list" sv.toArray nv)], [(pd, po)], [(rl, seqObj "list" rs.toArray n)], Ml, Mpl] [0, 1, 2, 4, 6, 7, 12, 8, 5, 9, 3, 10, 11, 13] (by kernel_rfl) (by kernel_rfl) (by kernel_rfl))
  have hlen : (σ.K who).length ≤ 45 := by rw [(hOk.know who hg).len]; have := hOk.vsum hg; omega
  have htz : σ.tbl.length ≤ 3 := by
    have := nodup_len (r := paths) hpo.nd fun a ha => by
      obtain ⟨y, hy, e⟩ := List.mem_map.mp ha
      rw [← e]; exact hOk.tp y hy
    rw [List.length_map] at this; exact this
  refine Cx.callQ' c21 (access_ok (d := d) (V := σ.V) (l := σ.K who) (tbl := σ.tbl) (seen := σ.seen) (R0 := σ.RW) (B0 := σ.RB) (isW := isW) (path := path) R1 (T19.sub sub20) c21.imm (W.sub sub1020) (B.sub (sub1020)) (c21.own (List.sublist_append_right _ _)) (hco.sub sub1020) hg
    (hrs.sub sub1020) hOk.wn (by have := hOk.wz; omega) (hbv.sub sub1020) hOk.bn (by have := hOk.bz; omega) (hpo.sub sub1020) (by omega) (kPath.sub sub20 hpv) (hp2 _ hpath) (fun pl hpl => hp2 _ (hOk.tp pl hpl)) (hko.sub sub1020) (kks_look hg) (hOk.know who hg) (hOk.pos who hg) (by omega) (hsv.sub sub1020) (by have := hOk.seenz; omega) (fun e he => hp2 _ (hOk.seen e he).2.2.1)) ?_
  rintro v22 I22 s22 Ma c22 sub22 hY22 ⟨Mw, sv', nv', bv', nb', B', rfl, ⟨o', po', rs', n', R', Mpl', tbl', rfl, hk', hP', hR', hNP, hmem, htg, htp, _⟩, hB', hBn', hBm', hS', rfl⟩
  have hOk' := hOk.access (path := path) (isW := isW) hg hpath hpo.nd hNP.1 hBn' hmem hBm' htg htp
  have sub22' := sub1020.trans sub22
  have c23 := (c22.perm (M' := [(L + 2, og), (L + 1, ob)] ++ ((sr, so20) :: (cd, o') :: (gd, go) :: (kd, ko) :: (bg, bo) :: (ld, lo) :: (br, seqObj "list" bv'.toArray nb') :: (sl, seqObj "list" sv'.toArray nv') :: (pd, po') :: (rl, seqObj "list" rs'.toArray n') :: (Ml ++ Mpl')))
    (cat_perm [[(L + 2, og)], [(L + 1, ob)], [(sr, so20)], [(gd, go)], [(bg, bo)], [(ld, lo)], Ml, [(br, seqObj "list" bv'.toArray nb')], [(kd, ko)], [(sl, seqObj "list" sv'.toArray nv')], [(cd, o')], [(pd, po')], [(rl, seqObj "list" rs'.toArray n')], Mpl'] [0, 1, 2, 10, 3, 8, 4, 5, 7, 9, 11, 12, 6, 13] (by kernel_rfl) (by kernel_rfl) (by kernel_rfl))).drop (List.sublist_append_right _ _)
  refine wpAny_execs_nil (k _ _ so20 { σ with seen := σ.seen ++ [⟨who, wd isW, path, (who, (σ.V who who : Int))⟩], tbl := tbl', RW := R', RB := B' } _ _ c23 (fun y hy => ?_) hs20 ⟨o', po', ko, go, bo, lo, rs', n', sv', nv', bv', nb', Ml, Mpl', rfl, hk', hgo.sub sub22', hko.sub sub22', hbo.sub sub22', (hlo.sub sub22').mono (Nat.le_succ t), hP', hS', hR', hB'⟩ hOk')
  have hy' : y ∈ cd :: gd :: kd :: bg :: ld :: br :: sl :: pd :: rl :: (Ml ++ Mpl).map (·.1) := hy
  show y ∈ cd :: gd :: kd :: bg :: ld :: br :: sl :: pd :: rl :: (Ml ++ Mpl').map (·.1)
  rw [List.map_append] at hy' ⊢
  refine mem_mid (P := [cd, gd, kd, bg, ld, br, sl, pd, rl]) (A := Ml.map (·.1)) (C := []) (fun z hz => ?_) (by rw [List.append_nil]; exact hy') |> fun h => by rw [List.append_nil] at h; exact h
  have h1 := hY22 z (.tail _ (.tail _ (.tail _ (.tail _ (.tail _ (.tail _ hz))))))
  exact mem_six h1
end
theorem deed_ok (R : Room A (d + 7)) (T : Tp (KK w.params) mb I) (hI : InH I s.heap) (W : WatchI I x cd ld gd pd rl) (B : BookI prog w I b kd bg sl br)
    (hO : Own s I ((sr, so) :: M)) (hs : SrcOk so) (hC : Con prog w I σ t cd pd rl ld gd kd bg sl br M) (hOk : Ok t σ) (ht : t ≤ 20) :
    wpAny (model prog w) A (call (.ref 298) [.ref sr, .ref x, .ref b]) (PostQ s I (((sr, so) :: M).map (·.1)) (DeedP prog w t cd pd rl ld gd kd bg sl br sr)) noE s := by
  refine call_defCPQ (fd := fdA 298) (binds := [("source", _), ("watch", _), ("book", _)]) R T hI hO rfl rfl rfl rfl rfl rfl rfl ?_ rfl rfl rfl
  intro X Q L s1 Mc hQ hL hMc c1 R1
  obtain ⟨og, ob, rfl, hog, hob⟩ := cells2 (n := ("gate" : Str)) (c := L + 2) (v := none) (n' := ("book" : Str)) (c' := L + 1) (v' := some (.ref b)) hMc rfl rfl
  refine wpAny_execs_cons (esg3C (env := callEnvC (fdA 298) L 298) (ca := L + 2) (v0 := none) c1 R1.hd ?_ rfl rfl rfl rfl rfl)
  refine spliced_more (Call_Name rfl (enG T c1 rfl ?_ rfl rfl rfl))
  refine cwK (K := KK w.params) rfl (spliced_more (en c1 rfl (spliced_more (cint c1 fun t2 s2 c2 => spliced_none ⟨T.inn c2.imm, ?_⟩)) rfl rfl))
  refine Cx.callP (M1 := [(L + 2, og), (L + 1, ob)]) (Mc := [(sr, so)]) (M2 := M) c2 (take_ok (d := d) (R1.le (by omega)) T c2.imm (c2.own (by simp)) hs (by omega) (by omega)) ?_
  rintro v3 I3 s3 Ms N c3 sub3 ⟨so3, who, t3, rfl, rfl, hs3, rfl, hw0, hw1⟩
  have hg : InG who := by unfold InG; omega
  have T3 := T.sub sub3
  refine spliced_more (Call_Name rfl (enG T3 c3 rfl ?_ rfl rfl rfl))
  refine cwK (K := KK w.params) rfl (spliced_more (en c3 rfl (spliced_more (cint c3 fun t4 s4 c4 => spliced_none ⟨T3.inn c4.imm, ?_⟩)) rfl rfl))
  refine Cx.callP (M1 := [(L + 2, og), (L + 1, ob)]) (Mc := [(sr, so3)]) (M2 := M) c4 (take_ok (d := d) (R1.le (by omega)) T3 c4.imm (c4.own (by simp)) hs3 (by omega) (by omega)) ?_
  rintro v5 I5 s5 Ms N c5 sub5 ⟨so5, way, t5, rfl, rfl, hs5, rfl, hy0, hy1⟩
  have T5 := T3.sub sub5
  refine spliced_more (Call_Name rfl (enG T5 c5 rfl ?_ rfl rfl rfl))
  refine cwK (K := KK w.params) rfl (spliced_more (en c5 rfl (spliced_more ?_) rfl rfl))
  refine lstE c5 (spliced_more (cint c5 fun t6 s6 c6 => spliced_more (cint c6 fun t7 s7 c7 => spliced_none ⟨_, _, c7, by simp, fun tl I8 s8 c8 sub8 htl => ?_⟩)))
  have T8 := T5.sub sub8
  refine spliced_none ⟨T8.inn c8.imm, ?_⟩
  refine Cx.callP (M1 := [(L + 2, og), (L + 1, ob)]) (Mc := [(sr, so5)]) (M2 := M) c8 (one_ok (d := d) (R1.le (by omega)) T8 c8.imm (c8.own (by simp)) hs5 htl (by simp) (by simp)) ?_
  rintro v9 I9 s9 Ms N c9 sub9 ⟨so9, rfl, rfl, hs9, hv9⟩
  obtain ⟨q, tq, hq, rfl⟩ : ∃ q tq, (q = 3 ∨ q = 4) ∧ v9 = .int q tq := by
    rcases List.mem_cons.mp hv9 with e | e
    · exact ⟨3, _, .inl rfl, e⟩
    · exact ⟨4, _, .inr rfl, List.mem_singleton.mp e⟩
  refine spliced_none ⟨_, _, _, I9, og, [], (L + 1, ob) :: (sr, so9) :: M, rfl, hog, c9, fun I10 s10 og' hog' c10 sub10 => ?_⟩
  have sub010 := sub3.trans (sub5.trans (sub8.trans (sub9.trans sub10)))
  have T10 := T.sub sub010
  have hC10 := hC.sub sub010
  refine wpAny_execs_cons ?_
  have hk : ∀ m' I' so' σ' M' s', Cx s I X I' L m' ((sr, so') :: M') s' → (∀ y ∈ M.map (·.1), y ∈ M'.map (·.1)) → SrcOk so' → Con prog w I' σ' (t + 1) cd pd rl ld gd kd bg sl br M' → Ok (t + 1) σ' → Q .none s' := fun m' I' so' σ' M' s' c hY h1 h2 h3 =>
    hQ c (fun y hy => (List.mem_cons.mp hy).elim (fun e => by rw [e]; exact .head _) fun h => .tail _ (hY y h)) ⟨so', σ', M', rfl, h1, h2, h3, rfl⟩
  have W10 := W.sub sub010
  have B10 := B.sub sub010
  refine wpAny_If (wpAny_isTrue_Compare1 (en c10 rfl (cint c10 fun t11 s11 c11 => wpAny_lt_int (wpAny_truthy_bool ?_)) rfl rfl))
  by_cases hw3 : way < 3
  · rw [decide_eq_true hw3]
    exact deed_acc (d := d) R1 T10 W10 B10 c11 hog' hob rfl rfl rfl hs9 hC10 hOk ht hg hq fun m' I' so' σ' M' s' c hY h1 h2 h3 => wpAny_execs_nil (hk m' I' so' σ' M' s' c hY h1 h2 h3)
  · rw [decide_eq_false hw3]
    show wpAny _ _ (execs _ _) _ _ _
    refine wpAny_execs_cons (wpAny_If (wpAny_isTrue_Compare1 (en c11 rfl (cint c11 fun t12 s12 c12 => PyProof.Rows.eq_int (wpAny_truthy_bool ?_)) rfl rfl)))
    by_cases hw33 : way = 3
    · rw [show (way == 3) = true from beq_iff_eq.mpr hw33]
      exact deed_leave (d := d) R1 T10 W10 B10 c12 hog' hob rfl rfl rfl hs9 hC10 hOk ht hg hq fun m' I' so' σ' M' s' c hY h1 h2 h3 => wpAny_execs_nil (wpAny_execs_nil (hk m' I' so' σ' M' s' c hY h1 h2 h3))
    · rw [show (way == 3) = false from beq_eq_false_iff_ne.mpr hw33]
      show wpAny _ _ (execs _ _) _ _ _
      refine wpAny_execs_cons (wpAny_If (wpAny_isTrue_Compare1 (en c12 rfl (cint c12 fun t13 s13 c13 => wpAny_lt_int (wpAny_truthy_bool ?_)) rfl rfl)))
      by_cases hw6 : way < 6
      · rw [decide_eq_true hw6]
        exact deed_enter (d := d) R1 T10 W10 B10 c13 hog' hob rfl rfl rfl hs9 hC10 hOk ht hg hq fun m' I' so' σ' M' s' c hY h1 h2 h3 => wpAny_execs_nil (wpAny_execs_nil (wpAny_execs_nil (hk m' I' so' σ' M' s' c hY h1 h2 h3)))
      · rw [decide_eq_false hw6]
        exact deed_hand (d := d) R1 T10 W10 B10 c13 hog' hob rfl rfl rfl hs9 hC10 hOk ht hg hq fun m' I' so' σ' M' s' c hY h1 h2 h3 => wpAny_execs_nil (wpAny_execs_nil (wpAny_execs_nil (hk m' I' so' σ' M' s' c hY h1 h2 h3)))
end
end Mine

set_option maxHeartbeats 400000
namespace Mine
section
variable {prog : Program} {w : World} {A : Around} {s : Shared} {mb : Nm} {S₀ : Shared} {I₀ I : Imm} {X : List Addr} {m : Nm} {M M1 M2 : List (Addr × Obj)} {env : Env}
/-- the end of a turn: M may have grown -/
noncomputable def TurnG (S₀ : Shared) (I₀ : Imm) (X : List Addr) (L : Addr) (Q : Flow → Shared → Prop) (J : Imm → Nm → List (Addr × Obj) → Prop) (s1 : Shared) (I1 : Imm) (M1 : List (Addr × Obj)) (fl : Flow) (s3 : Shared) : Prop :=
  ∃ I2 m2 M2, Cx s1 I1 (M1.map (·.1)) I2 L m2 M2 s3 ∧ match fl with
    | .next | .cont => J I2 m2 M2
    | .brk => Cx S₀ I₀ X I2 L m2 M2 s3 → Q .next s3
    | .ret v => Cx S₀ I₀ X I2 L m2 M2 s3 → Q (.ret v) s3
theorem for_walkG {target : Expr} {body : List Stmt} {it : Addr} {fp wr : List Addr} {n : Nat} {P : Nat → Value → Prop} {St : Nat → Heap → Prop} {Q : Flow → Shared → Prop}
    (W : Walks prog w A it fp wr n P St) (c : Cx S₀ I₀ X I env.locals m M s) (hst : St 0 s.heap)
    (hfp : ∀ b ∈ fp, b ≠ env.locals ∧ b ∉ M.map (·.1)) (hwr : ∀ b ∈ wr, S₀.heap.get? b = none ∧ I b = none) (hal : ∀ i h, St i h → ∀ b ∈ fp, ∃ o, h.get? b = some o)
    (J : Nat → Imm → Nm → List (Addr × Obj) → Prop) (h0 : J 0 I m M)
    (turn : ∀ i v I1 m1 M1 s1, i < n → P i v → J i I1 m1 M1 → Sub I I1 → Cx S₀ I₀ X I1 env.locals m1 M1 s1 → Cx s1 I1 (M1.map (·.1)) I1 env.locals m1 M1 s1 →
      wpAny (model prog w) A (assign target env v) (fun _ s2 => wpAny (model prog w) A (execs body env) (TurnG S₀ I₀ X env.locals Q (J (i + 1)) s1 I1 M1) noE s2) noE s1)
    (done : ∀ I1 m1 M1 s1, J n I1 m1 M1 → Sub I I1 → Cx S₀ I₀ X I1 env.locals m1 M1 s1 → Q .next s1)
    (hlt : ∀ i v (s : Shared) (Q : Unit → Shared → Prop) (E : Value → Shared → Prop), St i s.heap → Q () s → wpAny (model prog w) A (letOwnedTupleGo target (.ref it) v) Q E s) :
    codeAny (model prog w) A (.forLoop target (.ref it) body [] env) (fun r s' => match r with | .ok f => Q f s' | .error e => cameBackBy (model prog w) A env noE e s') s := by
  refine codeAny_forLoop_any (fun k s' => Ex4 fun i I1 m1 M1 => An9 (Cx S₀ I₀ X I1 env.locals m1 M1 s') (Sub I I1) (∀ a o, I1 a = some o → I a = some o ∨ s.heap.get? a = none) (∀ b ∈ fp, b ∉ M1.map (·.1)) (J i I1 m1 M1) (St i s'.heap) (i ≤ n) (k = n + 1 - i) (∀ a o, s.heap.get? a = some o → ∃ o', s'.heap.get? a = some o')) ?_ (n + 1)
    ⟨0, I, m, M, c, Sub.refl _, fun _ _ e => .inl e, fun b hb => (hfp b hb).2, h0, hst, Nat.zero_le _, rfl, fun _ o e => ⟨o, e⟩⟩
  rintro k s' ⟨i, I1, m1, M1, c1, sub1, new1, hM1, hJ, hst1, hi, rfl, hal1⟩
  have hw1 : ∀ b ∈ wr, S₀.heap.get? b = none ∧ I1 b = none ∧ b ≠ env.locals ∧ b ∉ M1.map (·.1) := fun b hb => by
    have hf := hfp b (W.sub b hb)
    obtain ⟨a1, a2⟩ := hwr b hb
    obtain ⟨o, a3⟩ := hal _ _ hst b (W.sub b hb)
    refine ⟨a1, ?_, hf.1, hM1 b (W.sub b hb)⟩
    cases q : I1 b with
    | none => rfl
    | some x => rcases new1 _ _ q with e | e
                · rw [a2] at e; cases e
                · rw [a3] at e; cases e
  by_cases hlt' : i < n
  · refine W.item i _ _ _ hlt' hst1 fun v h1 tk1 hP hst2 hk1 => ?_
    have c2 : Cx S₀ I₀ X I1 env.locals m1 M1 { s' with heap := h1, toks := tk1 } := c1.kept' hk1 hw1
    refine hlt _ _ _ _ _ hst2 ?_
    refine wpAny_mono (turn i v I1 m1 M1 _ hlt' hP hJ sub1 c2 c2.here) (fun _ s2 h2 => ?_) fun _ _ e => e.elim
    refine wpAny_mono h2 (fun fl s3 h3 => ?_) fun _ _ e => e.elim
    obtain ⟨I2, m2, M2, c3, h3⟩ := h3
    have c4 := c2.then c3
    have hkeep : ∀ b ∈ fp, ∀ o, h1.get? b = some o → s3.heap.get? b = some o := fun b hb o e => c3.keep b o e fun q => by
      rcases List.mem_cons.mp q with q | q
      · exact (hfp b hb).1 q
      · exact hM1 b hb q
    have fin : J (i + 1) I2 m2 M2 → ∃ k', k' < n + 1 - i ∧ Ex4 fun i I1 m1 M1 => An9 (Cx S₀ I₀ X I1 env.locals m1 M1 s3) (Sub I I1) (∀ a o, I1 a = some o → I a = some o ∨ s.heap.get? a = none) (∀ b ∈ fp, b ∉ M1.map (·.1)) (J i I1 m1 M1) (St i s3.heap) (i ≤ n) (k' = n + 1 - i) (∀ a o, s.heap.get? a = some o → ∃ o', s3.heap.get? a = some o') := by
      intro e2
      have al2 : ∀ a o, s.heap.get? a = some o → ∃ o', h1.get? a = some o' := fun a o e => by
        by_cases q : a ∈ wr
        · exact hal _ _ hst2 a (W.sub a q)
        · obtain ⟨o', e'⟩ := hal1 a o e
          exact ⟨o', hk1 _ _ q e'⟩
      refine ⟨n + 1 - (i + 1), by omega, i + 1, I2, m2, M2, c4, sub1.trans c3.sub, ?_, ?_, e2, W.frame _ _ _ hst2 hkeep, hlt', rfl, fun a o e => let ⟨o', e'⟩ := al2 a o e; c3.alive a o' e'⟩
      · intro a o e
        rcases c3.new _ _ e with q | q
        · exact new1 _ _ q
        · refine .inr (not_some fun o' e' => ?_)
          obtain ⟨o2, e2⟩ := al2 a o' e'
          rw [show h1.get? a = none from q] at e2; cases e2
      · intro b hb q
        obtain ⟨p, hp, rfl⟩ := List.mem_map.mp q
        rcases c3.mtX p hp with z | z
        · exact hM1 _ hb z
        · obtain ⟨o, e⟩ := hal _ _ hst2 _ hb
          rw [show h1.get? p.1 = none from z] at e; cases e
    cases fl with
    | next => exact fin h3
    | cont => exact fin h3
    | brk => exact h3 c4
    | ret v => exact h3 c4
  · have hin : i = n := by omega
    subst hin
    refine W.done _ _ _ hst1 fun h1 tk1 hk1 => wpAny_execs_nil ?_
    exact done I1 m1 M1 _ hJ sub1 (c1.kept' hk1 hw1)
/-- for x in range(e) -/
theorem for_rng {K : Frag} {target e : Expr} {body : List Stmt} {rp cp pos : Pos} {Q : Flow → Shared → Prop} (T : Tp K mb I) (cU : Cx S₀ I₀ X I env.locals m M s) (hh : A.handled = none)
    (J : Nat → Imm → Nm → List (Addr × Obj) → Prop)
    (h : wpAny (model prog w) A (eval e env) (fun v s1 => Ex5 fun (n : Nat) (t : Tok) (I1 : Imm) (m1 : Nm) (M1 : List (Addr × Obj)) => An6 (v = .int n t) (n ≤ 1000) (Cx S₀ I₀ X I1 env.locals m1 M1 s1) (J 0 I1 m1 M1) (∀ i t I2 m2 M2 s2, i < n → J i I2 m2 M2 → Sub I1 I2 → Cx S₀ I₀ X I2 env.locals m2 M2 s2 → Cx s2 I2 (M2.map (·.1)) I2 env.locals m2 M2 s2 →
        wpAny (model prog w) A (assign target env (.int (i : Nat) t)) (fun _ s3 => wpAny (model prog w) A (execs body env) (TurnG S₀ I₀ X env.locals Q (J (i + 1)) s2 I2 M2) noE s3) noE s2) (∀ I2 m2 M2 s2, J n I2 m2 M2 → Sub I1 I2 → Cx S₀ I₀ X I2 env.locals m2 M2 s2 → Q .next s2)) noE s)
    (hrng : nsIn K mainGlobals "range" = some none) (hk : env.scope.kind = .function) (hg : env.globals = mainGlobals) (hb : env.builtins = builtinsNs) (hx : env.kindOf "range" = some .globalImplicit)
    (hs : autoParam (∀ x, foldedSetIterable (.Call (.Name ("range" : Str) rp) [e] [] cp) env x = pure x) tacIR) (he : autoParam (starEach [e] env = (false, eval e env) :: starEach [] env) tacRfl) :
    wpAny (model prog w) A (exec (.For target (.Call (.Name ("range" : Str) rp) [e] [] cp) body [] pos) env) Q noE s := by
  refine wpAny_For ?_ hs
  refine Call_Name rfl (enB T cU hrng rfl (by decide) (PyProof.Rows.callWith_type1 (he := he) (spliced_more (he := he) (wpAny_mono h (fun v s1 h1 => ?_) fun _ _ e => e))) hk hg hb hx)
  obtain ⟨n, t, I1, m1, M1, rfl, hn, c, h0, turn, done⟩ := h1
  refine spliced_none (call_range_1 ?_)
  have c5 := c.push { cls := .type "range", data := .fields #[.int 0 s1.toks, .int (n : Int) t, .int 1 (s1.toks + 1)] } (s1.toks + 1 + 1)
  refine wpAny_pyIter_range (Heap.get?_push_size _ rfl) (small_range n hn) ?_
  have e6 : Builtin.Range.rangeSize 0 (n : Int) 1 = n := by
    rw [rangeSize_one]
    split <;> omega
  rw [e6]
  have c6 := c5.push { cls := .type "range_iterator", data := .fields #[rawInt 0, rawInt (n : Int), rawInt 1] } (s1.toks + 1 + 1)
  have hJ := size_none (s1.heap.push { cls := .type "range", data := .fields #[.int 0 s1.toks, .int (n : Int) t, .int 1 (s1.toks + 1)] })
  refine for_walkG (Walks.range hh _ 0 1 n) c6 ?_ ?_ ?_ ?_ J h0 ?_ done ?_
  · show IsRangeIter _ _ (0 + ((0 : Nat) : Int) * 1) ((n : Int) - ((0 : Nat) : Int)) 1
    rw [show (0 + ((0 : Nat) : Int) * 1) = 0 by omega, show (n : Int) - ((0 : Nat) : Int) = n by omega]
    exact Heap.get?_push_size _ rfl
  · intro b hb
    rw [List.mem_singleton.mp hb]
    refine ⟨Nat.ne_of_gt c5.ltL, fun q => ?_⟩
    obtain ⟨p, hp, e'⟩ := List.mem_map.mp q
    exact absurd (Heap.lt_size (c5.mt p hp)) (by rw [e']; exact Nat.lt_irrefl _)
  · intro b hb
    rw [List.mem_singleton.mp hb]
    exact ⟨c5.fresh hJ, c5.noI hJ⟩
  · intro i h st b hb
    rw [List.mem_singleton.mp hb]
    exact ⟨_, st⟩
  · rintro i v I2 m2 M2 s2 hi ⟨t2, rfl⟩ hJ hsub c2 c3
    have := turn i t2 I2 m2 M2 s2 hi hJ hsub c2 c3
    rw [show (0 + (i : Int) * 1) = ((i : Nat) : Int) by omega]
    exact this
  · intro i v s Q E st hq
    exact own_plain (T := "range_iterator") st rfl (by decide) hq
/-- the same; a turn's end is a name -/
theorem for_rngN {K : Frag} {target e : Expr} {body : List Stmt} {rp cp pos : Pos} {Q : Flow → Shared → Prop} (T : Tp K mb I) (cU : Cx S₀ I₀ X I env.locals m M s) (hh : A.handled = none)
    (J : Nat → Imm → Nm → List (Addr × Obj) → Prop)
    (h : wpAny (model prog w) A (eval e env) (fun v s1 => Ex5 fun (n : Nat) (t : Tok) (I1 : Imm) (m1 : Nm) (M1 : List (Addr × Obj)) => An6 (v = .int n t) (n ≤ 1000) (Cx S₀ I₀ X I1 env.locals m1 M1 s1) (J 0 I1 m1 M1) (∀ (i : Nat) (t : Tok) (I2 : Imm) (m2 : Nm) (M2 : List (Addr × Obj)) (s2 : Shared) (X' : List Addr) (Q' : Flow → Shared → Prop), i < n → J i I2 m2 M2 → Sub I1 I2 → (∀ {I3 m3 M3 s3}, Cx s2 I2 X' I3 env.locals m3 M3 s3 → J (i + 1) I3 m3 M3 → Q' .next s3) → Cx s2 I2 X' I2 env.locals m2 M2 s2 →
        wpAny (model prog w) A (assign target env (.int (i : Nat) t)) (fun _ s3 => wpAny (model prog w) A (execs body env) Q' noE s3) noE s2) (∀ I2 m2 M2 s2, J n I2 m2 M2 → Sub I1 I2 → Cx S₀ I₀ X I2 env.locals m2 M2 s2 → Q .next s2)) noE s)
    (hrng : nsIn K mainGlobals "range" = some none) (hk : env.scope.kind = .function) (hg : env.globals = mainGlobals) (hb : env.builtins = builtinsNs) (hx : env.kindOf "range" = some .globalImplicit)
    (hs : autoParam (∀ x, foldedSetIterable (.Call (.Name ("range" : Str) rp) [e] [] cp) env x = pure x) tacIR) (he : autoParam (starEach [e] env = (false, eval e env) :: starEach [] env) tacRfl) :
    wpAny (model prog w) A (exec (.For target (.Call (.Name ("range" : Str) rp) [e] [] cp) body [] pos) env) Q noE s :=
  for_rng T cU hh J (wpAny_mono h (fun v s1 ⟨n, t, I1, m1, M1, e, hn, c, h0, turn, done⟩ => ⟨n, t, I1, m1, M1, e, hn, c, h0, fun i t I2 m2 M2 s2 hi hJ hs _ c3 => turn i t I2 m2 M2 s2 _ _ hi hJ hs (fun c h => ⟨_, _, _, c, h⟩) c3, done⟩) fun _ _ e => e) hrng hk hg hb hx hs he
/-- two bools each -/
theorem ne_bools {a b : Addr} {x y x' y' : Bool} {Q : Value → Shared → Prop} (hu : A.units < cLine) (ha : s.heap.IsList a [Value.bool x, .bool y].toArray) (hb : s.heap.IsList b [Value.bool x', .bool y'].toArray) (h : Q (.bool (!(x == x' && y == y'))) s) :
    wpAny (model prog w) A (compareOp .NotEq (.ref a) (.ref b)) Q noE s := by
  refine PySem.EqBoolInt.of_rcne (RcNeAt.lists (e := fun j => if j = 0 then x == x' else y == y') ha hb rfl hu fun j h1 h2 => ?_) ?_
  · have h1' : j < 2 := h1
    rcases (by omega : j = 0 ∨ j = 1) with rfl | rfl
    · exact EqAt.bool_bool x x'
    · exact EqAt.bool_bool y y'
  · have e : (List.range ([Value.bool x, .bool y].toArray).size).all (fun j => if j = 0 then x == x' else y == y') = (x == x' && y == y') := by
      show (List.range 2).all _ = _
      simp [List.range_succ]
    rw [e]; exact h
end
end Mine

set_option maxHeartbeats 400000
namespace Mine
theorem Clk.vsum {t : Nat} {V : Int → Vec} {K : Int → List Span} (h : Clk t V K) {x : Int} (hx : InG x) : V x 0 + V x 1 + V x 2 ≤ t := by
  have h0 := h.own x 0 hx (.inl rfl)
  have h1 := h.own x 1 hx (.inr (.inl rfl))
  have h2 := h.own x 2 hx (.inr (.inr rfl))
  have := h.sum; omega
theorem vle_max (u v : Vec) : vle u (vmax u v) = true := vle_iff.mpr fun g _ => by show u g ≤ max (u g) (v g); omega
theorem vle_max' (u v : Vec) : vle (vmax u v) u = vle v u := by
  rw [Bool.eq_iff_iff, vle_iff, vle_iff]
  constructor
  · intro h g hg
    have := h g hg
    have e : vmax u v g = max (u g) (v g) := rfl
    omega
  · intro h g hg
    have := h g hg
    have e : vmax u v g = max (u g) (v g) := rfl
    omega
theorem SpSet.newB {l r : List Span} {u v : Vec} (h : SpSet l u) (k : SpSet r v) : decide (r.filter (fun a => decide (a ∉ l)) = []) = vle v u := by
  rw [Bool.eq_iff_iff, decide_eq_true_eq, vle_iff]
  exact h.new k
section
variable {prog : Program} {w : World} {A : Around} {s : Shared} {mb : Nm} {I : Imm} {d : Nat} {x cd ld gd pd rl kd : Addr} {o ko : Obj} {t : Nat} {V : Int → Vec} {K : Int → List Span}
theorem cright_ok (R : Room A (d + 4)) (T : Tp (KK w.params) mb I) (hI : InH I s.heap) (W : WatchI I x cd ld gd pd rl)
    (hO : Own s I [(cd, o), (kd, ko)]) (hco : DK prog w kVec I o (vks V)) (hko : DK prog w kSpans I ko (kks K)) (hC : Clk t V K) (ht : t < 64) :
    wpAny (model prog w) A (call (.ref 308) [.ref x, .ref kd]) (Post s I [cd, kd] fun I' Ms N v => ∃ o', Ms = [(cd, o'), (kd, ko)] ∧ N = [] ∧ DK prog w kVec I' o' (vks V) ∧ v = .bool true) noE s := by
  refine call_defCP (fd := fdA 308) (M := [(cd, o), (kd, ko)]) (binds := [("watch", _), ("known", _)]) R T hI hO rfl rfl rfl rfl rfl rfl rfl ?_ rfl rfl rfl
  intro X Q L s1 Mc hQ hL hMc c1 R1
  obtain ⟨ow, ok, rfl, how, hok⟩ := cells2 (n := ("who" : Str)) (c := L + 2) (v := none) (n' := ("known" : Str)) (c' := L + 1) (v' := some (.ref kd)) hMc rfl rfl
  obtain ⟨J, hJ⟩ : ∃ (J : Nat → Imm → Nm → List (Addr × Obj) → Prop), ∀ i I1 m1 M1, J i I1 m1 M1 ↔ (m1 "watch" = some (.ref x) ∧ Ex3 fun v0 oc o' => oc.data = .cell v0 ∧ M1 = [(L + 2, oc), (L + 1, ok), (cd, o'), (kd, ko)] ∧ DK prog w kVec I1 o' (vks V)) := ⟨_, fun _ _ _ _ => Iff.rfl⟩
  refine wpAny_execs_cons ?_
  refine for_rngN (env := callEnvC (fdA 308) L 308) T c1 R1.hd J ?_ rfl rfl rfl rfl rfl
  refine cint c1 fun t2 s2 c2 => ?_
  refine ⟨3, t2, I, _, _, rfl, by omega, c2, (hJ _ _ _ _).mpr ⟨rfl, _, _, _, how, rfl, hco⟩, ?_, ?_⟩
  · intro i ti I3 m3 M3 s3 X' Q' hi hJ3 sub3 hQ' c3
    obtain ⟨hmw, v0, oc, o3, hoc, rfl, hco3⟩ := (hJ _ _ _ _).mp hJ3
    have hg : InG ((i : Nat) : Int) := by unfold InG; omega
    generalize ((i : Nat) : Int) = g at hg
    refine wpAny_assign_Name (esC (M1 := []) c3 hoc (fun s4 oc4 hoc4 c4 => ?_) rfl rfl rfl)
    have T3 := T.sub sub3
    have W3 := W.sub sub3
    refine wpAny_execs_cons (esgSw2 (env := callEnvC (fdA 308) L 308) c4 R1.hd ?_ rfl rfl rfl)
    refine spliced_more (mcall ?_)
    refine en c4 hmw ?_ rfl rfl
    refine w_m T3 c4 W3 rfl rfl (by intros; rfl) ?_
    refine cwK (K := KK w.params) rfl (spliced_more (enC c4 (.head _) hoc4 (spliced_none ⟨T3.inn c4.imm, ?_⟩) rfl rfl rfl))
    refine Cx.callP (M1 := [(L + 2, oc4), (L + 1, ok)]) (Mc := [(cd, o3)]) (M2 := [(kd, ko)]) c4 (clock_ok (d := d) (R1.le (by omega)) T3 c4.imm W3 (c4.own (mid_sub [(L + 2, oc4), (L + 1, ok)] [(cd, o3)] _)) hco3 (by simp [vks]) hg) ?_
    rintro v5 I5 s5 Ms N c5 sub5 ⟨o5, rfl, rfl, hco5, hv5⟩
    rw [vks_clocked hg] at hco5
    rw [vks_clk0 hg] at hv5
    have T5 := T3.sub sub5
    refine spliced_more (mcall ?_)
    refine en c5 hmw ?_ rfl rfl
    refine w_m T5 c5 (W3.sub sub5) rfl rfl (by intros; rfl) ?_
    refine cwK (K := KK w.params) rfl (spliced_more (wpAny_BinOp (wpAny_BinOp (enC c5 (.head _) hoc4 (cint c5 fun t6 s6 c6 => PyProof.Rows.add_int (cint c6.toks fun t7 s7 c7 => mod_int' (by decide) (spliced_none ⟨T5.inn c7.imm, ?_⟩))) rfl rfl rfl))))
    have c8 := c7.toks (tk := s7.toks + 1)
    generalize hoth : (g + 1).fmod 3 = h
    have hh : InG h := by
      have h1 := Int.fmod_nonneg_of_pos (g + 1) (b := 3) (by decide)
      have h2 := Int.fmod_lt_of_pos (g + 1) (b := 3) (by decide)
      unfold InG; omega
    refine Cx.callP (M1 := [(L + 2, oc4), (L + 1, ok)]) (Mc := [(cd, o5)]) (M2 := [(kd, ko)]) c8 (clock_ok (d := d) (R1.le (by omega)) T5 c8.imm (W3.sub sub5) (c8.own (mid_sub [(L + 2, oc4), (L + 1, ok)] [(cd, o5)] _)) hco5 (by simp [vks]) hh) ?_
    rintro v9 I9 s9 Ms N c9 sub9 ⟨o9, rfl, rfl, hco9, hv9⟩
    rw [vks_clocked hh] at hco9
    rw [vks_clk0 hh] at hv9
    refine spliced_none ⟨_, _, I9, _, rfl, c9, fun I10 s10 c10 sub10 => ?_⟩
    have sub310 := sub5.trans (sub9.trans sub10)
    have T10 := T3.sub sub310
    have hmine := kVec.sub (sub9.trans sub10) hv5
    have hnext := kVec.sub sub10 hv9
    have hko10 := hko.sub (sub3.trans sub310)
    have hKg : (K g).length < 64 := by rw [(hC.know g hg).len]; have := hC.vsum hg; omega
    have hKh : (K h).length < 64 := by rw [(hC.know h hh).len]; have := hC.vsum hh; omega
    have hVg := hC.vsum hg
    -- the spans of mine
    refine wpAny_execs_cons (wpAny_If (wpAny_isTrue_Compare1 (Call_Name rfl (enG T10 c10 rfl ?_ rfl rfl rfl))))
    refine cwK (K := KK w.params) rfl (spliced_more (en c10 rfl (spliced_none ⟨T10.inn c10.imm, ?_⟩) rfl rfl))
    refine Cx.callP (M1 := []) (Mc := []) (M2 := [(L + 2, oc4), (L + 1, ok), (cd, o9), (kd, ko)]) c10 (spans_ok (d := d) (R1.le (by omega)) T10 c10.imm hmine (by omega)) ?_
    rintro v11 I11 s11 Ms N c11 sub11 ⟨rfl, rfl, D, out, l, rfl, hD, hl, hperm, hsrt⟩
    have T11 := T10.sub sub11
    refine Call_Name rfl (enB T11 c11 rfl rfl (by decide) ?_ rfl rfl rfl rfl)
    refine cwB (spliced_more (Subscript_ (enC c11 (.tail _ (.head _)) hok (enC c11 (.head _) hoc4 ?_ rfl rfl rfl) rfl rfl rfl)))
    refine dk_get (M1 := [(L + 2, oc4), (L + 1, ok), (cd, o9)]) c11 (hko10.sub sub11) (kks_look hg) (fun s12 v12 c12 hv12 => ?_) rfl
    obtain ⟨a12, vs12, rfl, ha12, hvs12⟩ := hv12
    refine spliced_none (sorted_lst koSpan c12 (R1.fits (by decide)) (ha12.at c12.imm) hvs12 hKg fun D2 I13 s13 l2 out2 c13 sub13 hD2 hl2 hp2 hsrt2 => ?_)
    have hll : l = l2 := srt_unique koSpan (hperm.trans ((hC.know g hg).perm.symm.trans hp2.symm)) hsrt hsrt2
    refine ne_lists koSpan (R1.fits (by decide)) c13.imm ((hD.sub sub13).at c13.imm) (hD2.at c13.imm) (hl.sub sub13) hl2 (wpAny_truthy_bool ?_)
    rw [decide_eq_true hll]
    show wpAny _ _ (execs _ _) _ _ _
    refine wpAny_execs_nil ?_
    have sub1013 := sub11.trans sub13
    have T13 := T10.sub sub1013
    -- both
    refine wpAny_execs_cons (wpAny_Assign_Name (Call_Name rfl (enG T13 c13 rfl ?_ rfl rfl rfl)))
    refine cwK (K := KK w.params) rfl (spliced_more (en c13 rfl (spliced_more (en c13 rfl (spliced_none ⟨T13.inn c13.imm, ?_⟩) rfl rfl)) rfl rfl))
    refine c13.call0 (P := fun J r => kClock.is J (clk (vmax (V g) (V h))) r) (join_ok (d := d) (R1.le (by omega)) T13 c13.imm (kVec.sub sub1013 hmine) (kVec.sub sub1013 hnext)) ?_
    intro vb I14 s14 c14 sub14 hvb
    refine es (env := callEnvC (fdA 308) L 308) c14 (fun s15 c15 => ?_) rfl rfl
    have sub1014 := sub1013.trans sub14
    have hko14 := hko10.sub sub1014
    -- is_new
    refine wpAny_execs_cons (wpAny_Assign_Name (wpAny_Compare1 ?_))
    refine comp_pick koSpan (fun a => decide (a ∉ K g)) c15 R1.hd (cl := [(("who" : Str), L + 2), (("known" : Str), L + 1)]) rfl rfl rfl rfl rfl rfl ?_
    refine Subscript_ (enC c15 (.tail _ (.head _)) hok (wpAny_BinOp (wpAny_BinOp (enC c15 (.head _) hoc4 (cint c15 fun t6 s6 c6 => PyProof.Rows.add_int (cint c6.toks fun t7 s7 c7 => mod_int' (by decide) ?_)) rfl rfl rfl))) rfl rfl rfl)
    rw [hoth]
    have c16 := c7.toks (tk := s7.toks + 1)
    refine dk_get (M1 := [(L + 2, oc4), (L + 1, ok), (cd, o9)]) c16 hko14 (kks_look hh) (fun s17 v17 c17 hv17 => ?_) rfl
    obtain ⟨a17, vs17, rfl, ha17, hvs17⟩ := hv17
    refine ⟨a17, K h, vs17, rfl, c17, ha17.at c17.imm, hvs17, by rw [hvs17.length]; omega, ?_, ?_⟩
    · rintro C s5 m5 p v hv hn hm5 hI5 hM5
      refine wpAny_isTrue_Compare1 ?_
      refine wpAny_Name (wpAny_loadName_local rfl rfl hn hm5 ?_) (by decide)
      refine Subscript_ ?_
      refine wpAny_Name (wpAny_loadName_cell rfl rfl rfl ⟨ok, hM5 (L + 1, ok) (.tail _ (.head _)), hok⟩ ?_) (by decide)
      refine wpAny_Name (wpAny_loadName_cell rfl rfl rfl ⟨oc4, hM5 (L + 2, oc4) (.head _), hoc4⟩ ?_) (by decide)
      refine dq_get (E := noE) (hM5 (kd, ko) (.tail _ (.tail _ (.tail _ (.head _))))) hko14 (kks_look hg) (fun b ws hb hws => ?_) rfl
      refine notIn_b koSpan (s := { s5 with toks := s5.toks + 1 }) (R1.fits (by decide)) hI5 (hb.at hI5) hws hv fun bb hbb => wpAny_truthy_bool ⟨?_, _, rfl⟩
      rw [Bool.eq_iff_iff, hbb, decide_eq_true_eq]
    intro D18 I18 s18 out18 c18 sub18 hD18 hout18
    refine lstE c18 (spliced_none ⟨_, _, c18, by simp, fun tl I19 s19 c19 sub19 htl => ?_⟩)
    refine ne_lists koSpan (r := []) (R1.fits (by decide)) c19.imm ((hD18.sub sub19).at c19.imm) (htl.at c19.imm) (hout18.sub sub19) trivial ?_
    rw [(hC.know g hg).newB (hC.know h hh)]
    refine es (env := callEnvC (fdA 308) L 308) c19 (fun s20 c20 => ?_) rfl rfl
    have sub1420 := sub18.trans sub19
    have hko20 := hko14.sub sub1420
    -- lacks
    refine wpAny_execs_cons (wpAny_Assign_Name (wpAny_Compare1 ?_))
    refine comp_pick koSpan (fun a => decide (a ∉ K h)) c20 R1.hd (cl := [(("who" : Str), L + 2), (("known" : Str), L + 1)]) rfl rfl rfl rfl rfl rfl ?_
    refine Subscript_ (enC c20 (.tail _ (.head _)) hok (enC c20 (.head _) hoc4 ?_ rfl rfl rfl) rfl rfl rfl)
    refine dk_get (M1 := [(L + 2, oc4), (L + 1, ok), (cd, o9)]) c20 hko20 (kks_look hg) (fun s21 v21 c21 hv21 => ?_) rfl
    obtain ⟨a21, vs21, rfl, ha21, hvs21⟩ := hv21
    refine ⟨a21, K g, vs21, rfl, c21, ha21.at c21.imm, hvs21, by rw [hvs21.length]; omega, ?_, ?_⟩
    · rintro C s5 m5 p v hv hn hm5 hI5 hM5
      refine wpAny_isTrue_Compare1 ?_
      refine wpAny_Name (wpAny_loadName_local rfl rfl hn hm5 ?_) (by decide)
      refine Subscript_ ?_
      refine wpAny_Name (wpAny_loadName_cell rfl rfl rfl ⟨ok, hM5 (L + 1, ok) (.tail _ (.head _)), hok⟩ ?_) (by decide)
      refine wpAny_BinOp (wpAny_BinOp ?_)
      refine wpAny_Name (wpAny_loadName_cell rfl rfl rfl ⟨oc4, hM5 (L + 2, oc4) (.head _), hoc4⟩ ?_) (by decide)
      refine wpAny_Constant_int (PyProof.Rows.add_int (wpAny_Constant_int (mod_int' (by decide) ?_)))
      rw [hoth]
      refine dq_get (E := noE) (s := { s5 with toks := s5.toks + 1 + 1 + 1 + 1 }) (hM5 (kd, ko) (.tail _ (.tail _ (.tail _ (.head _))))) hko20 (kks_look hh) (fun b ws hb hws => ?_) rfl
      refine notIn_b koSpan (s := { s5 with toks := s5.toks + 1 + 1 + 1 + 1 + 1 }) (R1.fits (by decide)) hI5 (hb.at hI5) hws hv fun bb hbb => wpAny_truthy_bool ⟨?_, _, rfl⟩
      rw [Bool.eq_iff_iff, hbb, decide_eq_true_eq]
    intro D22 I22 s22 out22 c22 sub22 hD22 hout22
    refine lstE c22 (spliced_none ⟨_, _, c22, by simp, fun tl I23 s23 c23 sub23 htl => ?_⟩)
    refine ne_lists koSpan (r := []) (R1.fits (by decide)) c23.imm ((hD22.sub sub23).at c23.imm) (htl.at c23.imm) (hout22.sub sub23) trivial ?_
    rw [(hC.know h hh).newB (hC.know g hg)]
    refine es (env := callEnvC (fdA 308) L 308) c23 (fun s24 c24 => ?_) rfl rfl
    have sub1024 := sub1014.trans (sub1420.trans (sub22.trans sub23))
    have sub1424 := sub1420.trans (sub22.trans sub23)
    have T24 := T10.sub sub1024
    have hm24 := kVec.sub sub1024 hmine
    have hn24 := kVec.sub sub1024 hnext
    have hb24 := kClock.sub sub1424 hvb
    -- the first pair
    refine wpAny_execs_cons (wpAny_If (wpAny_isTrue_Compare1 (lstE c24 (spliced_more (Call_Name rfl (enG T24 c24 rfl ?_ rfl rfl rfl))))))
    refine cwK (K := KK w.params) rfl (spliced_more (en c24 rfl (spliced_more (en c24 rfl (spliced_none ⟨T24.inn c24.imm, ?_⟩) rfl rfl)) rfl rfl))
    refine c24.call0 (P := fun _ r => r = .bool (vle (V g) (vmax (V g) (V h)))) (before_ok (d := d) (R1.le (by omega)) T24 c24.imm hm24 hb24) ?_
    rintro _ I25 s25 c25 sub25 rfl
    have T25 := T24.sub sub25
    refine spliced_more (Call_Name rfl (enG T25 c25 rfl ?_ rfl rfl rfl))
    refine cwK (K := KK w.params) rfl (spliced_more (en c25 rfl (spliced_more (en c25 rfl (spliced_none ⟨T25.inn c25.imm, ?_⟩) rfl rfl)) rfl rfl))
    refine c25.call0 (P := fun _ r => r = .bool (vle (vmax (V g) (V h)) (V g))) (before_ok (d := d) (R1.le (by omega)) T25 c25.imm (kClock.sub sub25 hb24) (kVec.sub sub25 hm24)) ?_
    rintro _ I26 s26 c26 sub26 rfl
    refine spliced_none ⟨_, _, c26, by simp, fun tl1 I27 s27 c27 sub27 htl1 => ?_⟩
    refine lstE c27 (spliced_more (cbool (spliced_more (wpAny_UnaryOp (en c27 rfl (not_of (wpAny_truthy_bool ?_)) rfl rfl)))))
    refine spliced_none ⟨_, _, c27, by simp, fun tl2 I28 s28 c28 sub28 htl2 => ?_⟩
    refine ne_bools (by have := R1.units; omega) ((htl1.sub sub28).at c28.imm) (htl2.at c28.imm) (wpAny_truthy_bool ?_)
    rw [vle_max, vle_max', show (!(true == true && vle (V h) (V g) == !!vle (V h) (V g))) = false by cases vle (V h) (V g) <;> rfl]
    show wpAny _ _ (execs _ _) _ _ _
    refine wpAny_execs_nil ?_
    have sub2428 := sub25.trans (sub26.trans (sub27.trans sub28))
    have T28 := T24.sub sub2428
    -- apart
    refine wpAny_execs_cons (wpAny_If (wpAny_isTrue_value (Call_Name rfl (enG T28 c28 rfl ?_ rfl rfl rfl))))
    refine cwK (K := KK w.params) rfl (spliced_more (en c28 rfl (spliced_more (en c28 rfl (spliced_none ⟨T28.inn c28.imm, ?_⟩) rfl rfl)) rfl rfl))
    refine c28.call0 (P := fun _ r => r = .bool (!vle (V g) (vmax (V g) (V h)) && !vle (vmax (V g) (V h)) (V g))) (apart_ok (d := d) (R1.le (by omega)) T28 c28.imm (kVec.sub sub2428 hm24) (kClock.sub sub2428 hb24)) ?_
    rintro _ I29 s29 c29 sub29 rfl
    rw [vle_max]
    refine wpAny_truthy_bool ?_
    show wpAny _ _ (execs _ _) _ _ _
    refine wpAny_execs_nil ?_
    have sub2429 := sub2428.trans sub29
    have T29 := T24.sub sub2429
    -- the second pair
    refine wpAny_execs_cons (wpAny_If (wpAny_isTrue_Compare1 (lstE c29 (spliced_more (Call_Name rfl (enG T29 c29 rfl ?_ rfl rfl rfl))))))
    refine cwK (K := KK w.params) rfl (spliced_more (en c29 rfl (spliced_more (en c29 rfl (spliced_none ⟨T29.inn c29.imm, ?_⟩) rfl rfl)) rfl rfl))
    refine c29.call0 (P := fun _ r => r = .bool (vle (V g) (V h))) (before_ok (d := d) (R1.le (by omega)) T29 c29.imm (kVec.sub sub2429 hm24) (kVec.sub sub2429 hn24)) ?_
    rintro _ I30 s30 c30 sub30 rfl
    have sub2430 := sub2429.trans sub30
    have T30 := T24.sub sub2430
    refine spliced_more (Call_Name rfl (enG T30 c30 rfl ?_ rfl rfl rfl))
    refine cwK (K := KK w.params) rfl (spliced_more (en c30 rfl (spliced_more (en c30 rfl (spliced_none ⟨T30.inn c30.imm, ?_⟩) rfl rfl)) rfl rfl))
    refine c30.call0 (P := fun _ r => r = .bool (!vle (V g) (V h) && !vle (V h) (V g))) (apart_ok (d := d) (R1.le (by omega)) T30 c30.imm (kVec.sub sub2430 hm24) (kVec.sub sub2430 hn24)) ?_
    rintro _ I31 s31 c31 sub31 rfl
    refine spliced_none ⟨_, _, c31, by simp, fun tl3 I32 s32 c32 sub32 htl3 => ?_⟩
    refine lstE c32 (spliced_more (wpAny_UnaryOp (en c32 rfl (not_of (wpAny_truthy_bool ?_)) rfl rfl)))
    refine spliced_more (BoolOp_and (en c32 rfl (wpAny_truthy_bool ?_) rfl rfl))
    cases hgh : vle (V g) (V h) with
    | true =>
      rw [hgh] at c32 htl3
      refine spliced_none ⟨_, _, c32, by simp, fun tl4 I33 s33 c33 sub33 htl4 => ?_⟩
      refine ne_bools (by have := R1.units; omega) ((htl3.sub sub33).at c33.imm) (htl4.at c33.imm) (wpAny_truthy_bool ?_)
      show wpAny _ _ (execs _ _) _ _ _
      refine wpAny_execs_nil (wpAny_execs_nil ?_)
      exact hQ' c33 ((hJ _ _ _ _).mpr ⟨hmw, _, _, _, hoc4, rfl, hco9.sub (sub10.trans (sub1024.trans (sub2430.trans (sub31.trans (sub32.trans sub33)))))⟩)
    | false =>
      rw [hgh] at c32 htl3
      refine BoolOp_one (en c32 rfl (spliced_none ⟨_, _, c32, by simp, fun tl4 I33 s33 c33 sub33 htl4 => ?_⟩) rfl rfl)
      refine ne_bools (by have := R1.units; omega) ((htl3.sub sub33).at c33.imm) (htl4.at c33.imm) (wpAny_truthy_bool ?_)
      rw [show (!(false == !!false && (!false && !vle (V h) (V g)) == !vle (V h) (V g))) = false by cases vle (V h) (V g) <;> rfl]
      show wpAny _ _ (execs _ _) _ _ _
      refine wpAny_execs_nil (wpAny_execs_nil ?_)
      exact hQ' c33 ((hJ _ _ _ _).mpr ⟨hmw, _, _, _, hoc4, rfl, hco9.sub (sub10.trans (sub1024.trans (sub2430.trans (sub31.trans (sub32.trans sub33)))))⟩)
  · intro I3 m3 M3 s3 hJ3 sub3 c3
    obtain ⟨hmw, v0, oc, o3, hoc, rfl, hco3⟩ := (hJ _ _ _ _).mp hJ3
    refine wpAny_execs_cons (wpAny_Return_some (cbool ?_))
    exact hQ (c3.drop (M' := [(cd, o3), (kd, ko)]) (List.sublist_append_right [(L + 2, oc), (L + 1, ok)] _)) rfl ⟨o3, rfl, rfl, hco3, rfl⟩
end
end Mine

set_option maxHeartbeats 400000
namespace Mine
theorem VLe_vle {u v : Vec} (h : VLe u v) : vle u v = true := vle_iff.mpr h
section
variable {prog : Program} {w : World} {A : Around} {s : Shared} {mb : Nm} {I : Imm} {d : Nat} {x cd ld gd pd rl b kd bg sl br : Addr} {o go ko bo : Obj} {t : Nat} {σ : St}
theorem gright_ok (R : Room A (d + 4)) (T : Tp (KK w.params) mb I) (hI : InH I s.heap) (W : WatchI I x cd ld gd pd rl) (B : BookI prog w I b kd bg sl br)
    (hO : Own s I [(cd, o), (gd, go), (kd, ko), (bg, bo)]) (hco : DK prog w kVec I o (vks σ.V)) (hgo : DK prog w kVec I go σ.gs) (hko : DK prog w kSpans I ko (kks σ.K)) (hbo : DK prog w kSpans I bo (ggs σ.H)) (hOk : Ok t σ) (ht : t ≤ 25) :
    wpAny (model prog w) A (call (.ref 303) [.ref x, .ref b]) (Post s I [cd, gd, kd, bg] fun I' Ms N v => ∃ o', Ms = [(cd, o'), (gd, go), (kd, ko), (bg, bo)] ∧ N = [] ∧ DK prog w kVec I' o' (vks σ.V) ∧ v = .bool true) noE s := by
  refine call_defCP (fd := fdA 303) (M := [(cd, o), (gd, go), (kd, ko), (bg, bo)]) (binds := [("watch", _), ("book", _)]) R T hI hO rfl rfl rfl rfl rfl rfl rfl ?_ rfl rfl rfl
  intro X Q L s1 Mc hQ hL hMc c1 R1
  obtain ⟨ow, ob, rfl, how, hob⟩ := cells2 (n := ("who" : Str)) (c := L + 2) (v := none) (n' := ("book" : Str)) (c' := L + 1) (v' := some (.ref b)) hMc rfl rfl
  obtain ⟨J, hJ⟩ : ∃ (J : Nat → Imm → Nm → List (Addr × Obj) → Prop), ∀ i I1 m1 M1, J i I1 m1 M1 ↔ (m1 "watch" = some (.ref x) ∧ Ex3 fun v0 oc o' => oc.data = .cell v0 ∧ M1 = [(L + 2, oc), (L + 1, ob), (cd, o'), (gd, go), (kd, ko), (bg, bo)] ∧ DK prog w kVec I1 o' (vks σ.V)) := ⟨_, fun _ _ _ _ => Iff.rfl⟩
  refine wpAny_execs_cons ?_
  refine for_rngN (env := callEnvC (fdA 303) L 303) T c1 R1.hd J ?_ rfl rfl rfl rfl rfl
  refine cint c1 fun t2 s2 c2 => ?_
  refine ⟨3, t2, I, _, _, rfl, by omega, c2, (hJ _ _ _ _).mpr ⟨rfl, _, _, _, how, rfl, hco⟩, ?_, ?_⟩
  · intro i ti I3 m3 M3 s3 X' Q' hi hJ3 sub3 hQ' c3
    obtain ⟨hmw, v0, oc, o3, hoc, rfl, hco3⟩ := (hJ _ _ _ _).mp hJ3
    have hg : InG ((i : Nat) : Int) := by unfold InG; omega
    generalize ((i : Nat) : Int) = g at hg
    refine wpAny_assign_Name (esC (M1 := []) c3 hoc (fun s4 oc4 hoc4 c4 => ?_) rfl rfl rfl)
    obtain ⟨J2, hJ2⟩ : ∃ (J2 : Nat → Imm → Nm → List (Addr × Obj) → Prop), ∀ j I1 m1 M1, J2 j I1 m1 M1 ↔ (m1 "watch" = some (.ref x) ∧ ∃ o', M1 = [(L + 2, oc4), (L + 1, ob), (cd, o'), (gd, go), (kd, ko), (bg, bo)] ∧ DK prog w kVec I1 o' (vks σ.V)) := ⟨_, fun _ _ _ _ => Iff.rfl⟩
    refine wpAny_execs_cons ?_
    refine for_lstEN (env := callEnvC (fdA 303) L 303) c4 R1.hd ?_
    refine lstE c4 (spliced_more (cint c4 fun t5 s5 c5 => spliced_more (cint c5 fun t6 s6 c6 => spliced_none ⟨_, _, c6, by simp, fun tl I7 s7 c7 sub7 htl => ?_⟩)))
    refine ⟨tl, _, J2, _, _, _, rfl, c7, htl, (hJ2 _ _ _ _).mpr ⟨hmw, _, rfl, hco3.sub sub7⟩, ?_, ?_⟩
    · intro j vj I8 m8 M8 s8 X8 Q8 hvj hJ8 sub8 hQ8 c8
      obtain ⟨hmw8, o8, rfl, hco8⟩ := (hJ2 _ _ _ _).mp hJ8
      obtain ⟨q, tq, hq, rfl⟩ : ∃ q tq, (q = 3 ∨ q = 4) ∧ vj = .int q tq := by
        match j, hvj with
        | 0, h => exact ⟨3, t5, .inl rfl, (Option.some.inj h).symm⟩
        | 1, h => exact ⟨4, t6, .inr rfl, (Option.some.inj h).symm⟩
        | j + 2, h => cases h
      refine wpAny_assign_Name (es (env := callEnvC (fdA 303) L 303) c8 (fun s9 c9 => ?_) rfl rfl)
      have sub08 := sub3.trans (sub7.trans sub8)
      have T8 := T.sub sub08
      have W8 := W.sub sub08
      have B8 := B.sub sub08
      refine wpAny_execs_cons (esgSw2 (env := callEnvC (fdA 303) L 303) c9 R1.hd ?_ rfl rfl rfl)
      refine spliced_more (mcall ?_)
      refine en c9 hmw8 ?_ rfl rfl
      refine w_m T8 c9 W8 rfl rfl (by intros; rfl) ?_
      refine cwK (K := KK w.params) rfl (spliced_more (enC c9 (.head _) hoc4 (spliced_none ⟨T8.inn c9.imm, ?_⟩) rfl rfl rfl))
      refine Cx.callP (M1 := [(L + 2, oc4), (L + 1, ob)]) (Mc := [(cd, o8)]) (M2 := [(gd, go), (kd, ko), (bg, bo)]) c9 (clock_ok (d := d) (R1.le (by omega)) T8 c9.imm W8 (c9.own (mid_sub [(L + 2, oc4), (L + 1, ob)] [(cd, o8)] _)) hco8 (by simp [vks]) hg) ?_
      rintro v10 I10 s10 Ms N c10 sub10 ⟨o10, rfl, rfl, hco10, hv10⟩
      rw [vks_clocked hg] at hco10
      rw [vks_clk0 hg] at hv10
      have T10 := T8.sub sub10
      have sub010 := sub08.trans sub10
      refine spliced_more (mcall (Attribute_name (en c10 hmw8 ?_ rfl rfl)))
      refine w_gates T10 c10 (W8.sub sub10) fun s11 c11 => ?_
      refine DK.meth (M1 := [(L + 2, oc4), (L + 1, ob), (cd, o10)]) c11 (hgo.sub sub010) PySem.F.slot_dict_get PySem.F.type_dict_get ?_
      refine cwB (spliced_more (en c11 rfl (spliced_more (tupE c11 (spliced_none ⟨_, _, c11, by simp, fun t12 I12 s12 c12 sub12 ht12 => spliced_none ?_⟩))) rfl rfl))
      refine dk_get2 (M1 := [(L + 2, oc4), (L + 1, ob), (cd, o10)]) (a := fun _ => 0) c12 W.gd (hgo.sub (sub010.trans sub12)) ?_ fun s13 v13 c13 hv13 => ?_
      · show kClock.is I12 (clk fun _ => 0) _
        rw [clk_zero]
        exact ⟨t12, [], rfl, ht12, trivial⟩
      refine spliced_none ⟨_, _, I12, _, rfl, c13, fun I14 s14 c14 sub14 => ?_⟩
      have sub1014 := sub12.trans sub14
      have sub014 := sub010.trans sub1014
      have T14 := T.sub sub014
      have hmine := kVec.sub sub1014 hv10
      have htold : kVec.is I14 (σ.G q) v13 := kVec.sub sub14 hv13
      have hK := hOk.know g hg
      have hH := hOk.gate q hq
      have hVs := hOk.vsum hg
      have hGs := hOk.gsum q
      have hKz : (σ.K g).length < 64 := by rw [hK.len]; omega
      have hHz : (σ.H q).length < 64 := by rw [hH.len]; omega
      have hko14 := hko.sub sub014
      have hbo14 := hbo.sub sub014
      have B14 := B.sub sub014
      -- both
      refine wpAny_execs_cons (wpAny_Assign_Name (Call_Name rfl (enG T14 c14 rfl ?_ rfl rfl rfl)))
      refine cwK (K := KK w.params) rfl (spliced_more (en c14 rfl (spliced_more (en c14 rfl (spliced_none ⟨T14.inn c14.imm, ?_⟩) rfl rfl)) rfl rfl))
      refine c14.call0 (P := fun J r => kClock.is J (clk (vmax (σ.V g) (σ.G q))) r) (join_ok (d := d) (R1.le (by omega)) T14 c14.imm hmine htold) ?_
      intro vb I15 s15 c15 sub15 hvb
      refine es (env := callEnvC (fdA 303) L 303) c15 (fun s16 c16 => ?_) rfl rfl
      have hko15 := hko14.sub sub15
      have hbo15 := hbo14.sub sub15
      have B15 := B14.sub sub15
      -- is_new
      refine wpAny_execs_cons (wpAny_Assign_Name (wpAny_Compare1 ?_))
      refine comp_pick koSpan (fun a => decide (a ∉ σ.K g)) c16 R1.hd (cl := [(("who" : Str), L + 2), (("book" : Str), L + 1)]) rfl rfl rfl rfl rfl rfl ?_
      refine Subscript_ (Subscript_ (enC c16 (.tail _ (.head _)) hob (cstr c16 fun t17 s17 c17 => b_get (s := s17) c17.imm B15 rfl (en c17.toks rfl ?_ rfl rfl)) rfl rfl rfl))
      refine dk_get (M1 := [(L + 2, oc4), (L + 1, ob), (cd, o10), (gd, go), (kd, ko)]) c17.toks hbo15 (ggs_look hq) (fun s18 v18 c18 hv18 => ?_) rfl
      obtain ⟨a18, vs18, rfl, ha18, hvs18⟩ := hv18
      refine ⟨a18, σ.H q, vs18, rfl, c18, ha18.at c18.imm, hvs18, by rw [hvs18.length]; omega, ?_, ?_⟩
      · rintro C s5 m5 p v hv hn hm5 hI5 hM5
        refine wpAny_isTrue_Compare1 ?_
        refine wpAny_Name (wpAny_loadName_local rfl rfl hn hm5 ?_) (by decide)
        refine Subscript_ (Subscript_ ?_)
        refine wpAny_Name (wpAny_loadName_cell rfl rfl rfl ⟨ob, hM5 (L + 1, ob) (.tail _ (.head _)), hob⟩ ?_) (by decide)
        refine wpAny_Constant_str ?_
        refine b_get (s := { s5 with toks := s5.toks + 1 }) hI5 B15 rfl ?_
        refine wpAny_Name (wpAny_loadName_cell rfl rfl rfl ⟨oc4, hM5 (L + 2, oc4) (.head _), hoc4⟩ ?_) (by decide)
        refine dq_get (E := noE) (s := { s5 with toks := s5.toks + 1 + 1 }) (hM5 (kd, ko) (.tail _ (.tail _ (.tail _ (.tail _ (.head _)))))) hko15 (kks_look hg) (fun b ws hb hws => ?_) rfl
        refine notIn_b koSpan (s := { s5 with toks := s5.toks + 1 + 1 + 1 }) (R1.fits (by decide)) hI5 (hb.at hI5) hws hv fun bb hbb => wpAny_truthy_bool ⟨?_, _, rfl⟩
        rw [Bool.eq_iff_iff, hbb, decide_eq_true_eq]
      intro D19 I19 s19 out19 c19 sub19 hD19 hout19
      refine lstE c19 (spliced_none ⟨_, _, c19, by simp, fun tl I20 s20 c20 sub20 htl => ?_⟩)
      refine ne_lists koSpan (r := []) (R1.fits (by decide)) c20.imm ((hD19.sub sub20).at c20.imm) (htl.at c20.imm) (hout19.sub sub20) trivial ?_
      rw [hK.newB hH]
      refine es (env := callEnvC (fdA 303) L 303) c20 (fun s21 c21 => ?_) rfl rfl
      have sub1521 := sub19.trans sub20
      have sub1421 := sub15.trans sub1521
      have T21 := T14.sub sub1421
      have B21 := B14.sub sub1421
      -- the spans of told
      refine wpAny_execs_cons (wpAny_If (isTrue_or (wpAny_isTrue_Compare1 (Call_Name rfl (enG T21 c21 rfl ?_ rfl rfl rfl)))))
      refine cwK (K := KK w.params) rfl (spliced_more (en c21 rfl (spliced_none ⟨T21.inn c21.imm, ?_⟩) rfl rfl))
      refine Cx.callP (M1 := []) (Mc := []) (M2 := [(L + 2, oc4), (L + 1, ob), (cd, o10), (gd, go), (kd, ko), (bg, bo)]) c21 (spans_ok (d := d) (v := σ.G q) (R1.le (by omega)) T21 c21.imm (kVec.sub sub1421 htold) (by omega)) ?_
      rintro v22 I22 s22 Ms N c22 sub22 ⟨rfl, rfl, D, out, l, rfl, hD, hl, hperm, hsrt⟩
      have T22 := T21.sub sub22
      refine Call_Name rfl (enB T22 c22 rfl rfl (by decide) ?_ rfl rfl rfl rfl)
      refine cwB (spliced_more (Subscript_ (Subscript_ (enC c22 (.tail _ (.head _)) hob (cstr c22 fun t23 s23 c23 => b_get (s := s23) c23.imm (B21.sub sub22) rfl (en c23.toks rfl ?_ rfl rfl)) rfl rfl rfl))))
      refine dk_get (M1 := [(L + 2, oc4), (L + 1, ob), (cd, o10), (gd, go), (kd, ko)]) c23.toks (hbo14.sub (sub1421.trans sub22)) (ggs_look hq) (fun s24 v24 c24 hv24 => ?_) rfl
      obtain ⟨a24, vs24, rfl, ha24, hvs24⟩ := hv24
      refine spliced_none (sorted_lst koSpan c24 (R1.fits (by decide)) (ha24.at c24.imm) hvs24 hHz fun D2 I25 s25 l2 out2 c25 sub25 hD2 hl2 hp2 hsrt2 => ?_)
      have hll : l = l2 := srt_unique koSpan (hperm.trans (hH.perm.symm.trans hp2.symm)) hsrt hsrt2
      refine ne_lists koSpan (R1.fits (by decide)) c25.imm ((hD.sub sub25).at c25.imm) (hD2.at c25.imm) (hl.sub sub25) hl2 (wpAny_truthy_bool ?_)
      rw [decide_eq_true hll]
      rw [Bool.not_true, if_neg Bool.false_ne_true]
      have sub1425 := sub1421.trans (sub22.trans sub25)
      have T25 := T14.sub sub1425
      have hm25 := kVec.sub sub1425 hmine
      have ht25 := kVec.sub sub1425 htold
      have hb25 := kClock.sub (sub1521.trans (sub22.trans sub25)) hvb
      refine isTrue_or (isTrue_not (wpAny_isTrue_value (Call_Name rfl (enG T25 c25 rfl ?_ rfl rfl rfl))))
      refine cwK (K := KK w.params) rfl (spliced_more (en c25 rfl (spliced_more (en c25 rfl (spliced_none ⟨T25.inn c25.imm, ?_⟩) rfl rfl)) rfl rfl))
      refine c25.call0 (P := fun _ r => r = .bool (vle (σ.V g) (vmax (σ.V g) (σ.G q)))) (before_ok (d := d) (R1.le (by omega)) T25 c25.imm hm25 hb25) ?_
      rintro _ I26 s26 c26 sub26 rfl
      rw [vle_max]
      refine wpAny_truthy_bool ?_
      rw [Bool.not_true, if_neg Bool.false_ne_true]
      refine isTrue_or_nil ?_
      show wpAny _ _ (execs _ _) _ _ _
      refine wpAny_execs_nil ?_
      have T26 := T25.sub sub26
      have hm26 := kVec.sub sub26 hm25
      have ht26 := kVec.sub sub26 ht25
      have hb26 := kClock.sub sub26 hb25
      -- the pair
      refine wpAny_execs_cons (wpAny_If (wpAny_isTrue_Compare1 (lstE c26 (spliced_more (Call_Name rfl (enG T26 c26 rfl ?_ rfl rfl rfl))))))
      refine cwK (K := KK w.params) rfl (spliced_more (en c26 rfl (spliced_more (en c26 rfl (spliced_none ⟨T26.inn c26.imm, ?_⟩) rfl rfl)) rfl rfl))
      refine c26.call0 (P := fun _ r => r = .bool (vle (vmax (σ.V g) (σ.G q)) (σ.V g))) (before_ok (d := d) (R1.le (by omega)) T26 c26.imm hb26 hm26) ?_
      rintro _ I27 s27 c27 sub27 rfl
      have T27 := T26.sub sub27
      refine spliced_more (Call_Name rfl (enG T27 c27 rfl ?_ rfl rfl rfl))
      refine cwK (K := KK w.params) rfl (spliced_more (en c27 rfl (spliced_more (en c27 rfl (spliced_none ⟨T27.inn c27.imm, ?_⟩) rfl rfl)) rfl rfl))
      refine c27.call0 (P := fun _ r => r = .bool (vle (σ.G q) (σ.V g))) (before_ok (d := d) (R1.le (by omega)) T27 c27.imm (kVec.sub sub27 ht26) (kVec.sub sub27 hm26)) ?_
      rintro _ I28 s28 c28 sub28 rfl
      refine spliced_none ⟨_, _, c28, by simp, fun tl1 I29 s29 c29 sub29 htl1 => ?_⟩
      refine lstE c29 (spliced_more (wpAny_UnaryOp (en c29 rfl (not_of (wpAny_truthy_bool ?_)) rfl rfl)))
      refine spliced_more (wpAny_UnaryOp (en c29 rfl (not_of (wpAny_truthy_bool ?_)) rfl rfl))
      refine spliced_none ⟨_, _, c29, by simp, fun tl2 I30 s30 c30 sub30 htl2 => ?_⟩
      refine ne_bools (by have := R1.units; omega) ((htl1.sub sub30).at c30.imm) (htl2.at c30.imm) (wpAny_truthy_bool ?_)
      rw [vle_max', show (!(vle (σ.G q) (σ.V g) == !!vle (σ.G q) (σ.V g) && vle (σ.G q) (σ.V g) == !!vle (σ.G q) (σ.V g))) = false by cases vle (σ.G q) (σ.V g) <;> rfl]
      show wpAny _ _ (execs _ _) _ _ _
      refine wpAny_execs_nil (wpAny_execs_nil ?_)
      exact hQ8 c30 rfl ((hJ2 _ _ _ _).mpr ⟨hmw8, _, rfl, hco10.sub (sub1014.trans (sub1425.trans (sub26.trans (sub27.trans (sub28.trans (sub29.trans sub30))))))⟩)
    · intro I8 m8 M8 s8 hJ8 sub8 _ c8
      obtain ⟨hmw8, o8, rfl, hco8⟩ := (hJ2 _ _ _ _).mp hJ8
      exact wpAny_execs_nil (hQ' c8 ((hJ _ _ _ _).mpr ⟨hmw8, _, _, _, hoc4, rfl, hco8⟩))
  · intro I3 m3 M3 s3 hJ3 sub3 c3
    obtain ⟨hmw, v0, oc, o3, hoc, rfl, hco3⟩ := (hJ _ _ _ _).mp hJ3
    refine wpAny_execs_cons (wpAny_Return_some (cbool ?_))
    exact hQ (c3.drop (M' := [(cd, o3), (gd, go), (kd, ko), (bg, bo)]) (List.sublist_append_right [(L + 2, oc), (L + 1, ob)] _)) rfl ⟨o3, rfl, rfl, hco3, rfl⟩
end
end Mine

set_option maxHeartbeats 400000
namespace Mine
theorem emptyDict_is {prog : Program} {w : World} {K : Type} [DecidableEq K] {knd : KeyKind prog w K} : (emptyDict : Obj).IsDictOf knd [] := by
  obtain ⟨o, e, h⟩ := Heap.dictOf_iff.mp (Heap.DictOf.new (knd := knd) ({ objs := #[] } : Heap))
  rw [Heap.get?_push_size _ rfl] at e
  cases e
  exact h
section
variable {prog : Program} {w : World} {A : Around} {s : Shared} {mb : Nm} {S₀ : Shared} {I₀ I : Imm} {X : List Addr} {L : Addr} {m : Nm} {M M1 M2 : List (Addr × Obj)} {env : Env}
theorem Cx.freeze {a : Addr} {o : Obj} (c : Cx S₀ I₀ [] I L m ((a, o) :: M) s) : Cx S₀ I₀ [] (addI I a o) L m M s ∧ Sub I (addI I a o) := by
  have hin : (a, o) ∈ (a, o) :: M := .head _
  refine (c.drop (List.sublist_cons_self _ _)).take (c.mt _ hin) ?_ (c.mtL _ hin) (fun p hp e => ?_) (c.mtI _ hin)
  · rcases c.mtX _ hin with q | q
    · cases q
    · exact q
  · have := c.nodup
    rw [List.map_cons, List.nodup_cons] at this
    exact this.1 (List.mem_map.mpr ⟨p, hp, e⟩)
theorem dictE {K : Type} [DecidableEq K] {knd : KeyKind prog w K} {keys : List (Option Expr)} {values : List Expr} {pos : Pos} {Q : Value → Shared → Prop} (c : Cx S₀ I₀ X I L m M s)
    (hall : keys.all (·.isSome) = true) (hl : keys.length = values.length) (h0 : keys ≠ []) (hlen : keys.length ≤ 15) (hbig : 5 < s.heap.objs.size)
    (h : ∀ d s1, 5 < d → Cx S₀ I₀ X I L m ((d, emptyDict) :: M) s1 → wpAny (model prog w) A (evalPairs (pairTrees keys values env pos)) (fun vs s2 => Ex3 fun kvs I2 M2 => Carries knd vs kvs ∧ Cx S₀ I₀ X I2 L m ((d, emptyDict) :: M2) s2 ∧
      ∀ s3 o', o'.IsDictOf knd (merged [] kvs) → Cx S₀ I₀ X I2 L m ((d, o') :: M2) s3 → Q (.ref d) s3) noE s1) :
    wpAny (model prog w) A (eval (.Dict keys values pos) env) Q noE s := by
  refine wpAny_Dict_walk (knd := knd) hall hl h0 hlen ?_
  have c1 := c.allocM (o := emptyDict) s.toks rfl
  refine wpAny_mono (h s.heap.objs.size _ hbig c1) (fun vs s2 h2 => ?_) fun _ _ e => e
  obtain ⟨kvs, I2, M2, hc, c2, k⟩ := h2
  refine ⟨kvs, hc, Heap.dictOf_iff.mpr ⟨_, c2.mt _ (.head _), emptyDict_is⟩, fun h' hd hs => ?_⟩
  obtain ⟨o', ho', hi⟩ := Heap.dictOf_iff.mp hd
  exact k _ o' hi (c2.turn (M1 := []) (fun b ob hb e => (hs.2 b hb).trans e) ho')
theorem pairE {i j : Int} {k1 k2 : Nat} {p1 p2 p : Pos} {k : Nat} {Q : Value → Shared → Prop} (c : Cx S₀ I₀ X I L m M s) (h : ∀ t I' s', Cx S₀ I₀ X I' L m M s' → Sub I I' → koSpan.is I' (i, j) (.ref t) → Q (.ref t) s') :
    wpAny (model prog w) A (eval (.Tuple [.Constant (.int i) k1 p1, .Constant (.int j) k2 p2] k p) env) Q noE s :=
  tupE c (spliced_more (cint c fun t2 s2 c2 => spliced_more (cint c2 fun t3 s3 c3 => spliced_none ⟨_, _, c3, by simp, fun t I4 s4 c4 sub4 ht => h t I4 s4 c4 sub4 ⟨t, _, _, rfl, ht, ⟨_, rfl⟩, ⟨_, rfl⟩⟩⟩)))
end
/-! # the beginning -/
noncomputable def V0 : Int → Vec := fun g => if g = 0 then vtick (vtick (vone 0 1) 0) 0 else if g = 1 then vmax (vone 1 1) (vone 0 1) else vmax (vone 2 1) (vtick (vone 0 1) 0)
noncomputable def K0 : Int → List Span := fun g => if g = 0 then [(0, 1), (0, 2), (0, 3)] else if g = 1 then [(0, 1), (1, 1)] else [(0, 1), (0, 2), (2, 1)]
noncomputable def st0 : St := ⟨V0, [], K0, fun _ => [], [], [], [], []⟩
theorem V0_e (g h : Int) (hg : InG g) (hh : InG h) : V0 g h = if g = 0 then (if h = 0 then 3 else 0) else if g = 1 then (if h = 0 then 1 else if h = 1 then 1 else 0) else (if h = 0 then 2 else if h = 2 then 1 else 0) := by
  rcases hg with rfl | rfl | rfl <;> rcases hh with rfl | rfl | rfl <;> rfl
theorem ok0 : Ok 0 st0 := by
  refine ⟨?_, ?_, fun _ _ _ => Nat.zero_le _, by decide, ?_, fun q _ => ⟨.nil, fun p => ?_⟩, by decide, (fun e h => nomatch h), by decide, (fun p b q c h => nomatch h), (fun e h => nomatch h), (fun e h => nomatch h), .nil, .nil, fun r => Iff.rfl, (fun e h => nomatch h)⟩
  · rintro x g (rfl | rfl | rfl) (rfl | rfl | rfl) <;> decide
  · rintro g (rfl | rfl | rfl) <;> decide
  · rintro g (rfl | rfl | rfl)
    · refine ⟨by decide, fun ⟨a, b⟩ => ?_⟩
      show (a, b) ∈ [((0 : Int), (1 : Int)), (0, 2), (0, 3)] ↔ InG a ∧ 1 ≤ b ∧ b ≤ (V0 0 a : Int)
      constructor
      · intro h
        simp at h
        rcases h with ⟨rfl, rfl⟩ | ⟨rfl, rfl⟩ | ⟨rfl, rfl⟩ <;> exact ⟨.inl rfl, by decide, by decide⟩
      · rintro ⟨h1, h2, h3⟩
        rw [V0_e 0 a (.inl rfl) h1] at h3
        simp
        rcases h1 with rfl | rfl | rfl <;> simp at h3 ⊢ <;> omega
    · refine ⟨by decide, fun ⟨a, b⟩ => ?_⟩
      show (a, b) ∈ [((0 : Int), (1 : Int)), (1, 1)] ↔ InG a ∧ 1 ≤ b ∧ b ≤ (V0 1 a : Int)
      constructor
      · intro h
        simp at h
        rcases h with ⟨rfl, rfl⟩ | ⟨rfl, rfl⟩
        · exact ⟨.inl rfl, by decide, by decide⟩
        · exact ⟨.inr (.inl rfl), by decide, by decide⟩
      · rintro ⟨h1, h2, h3⟩
        rw [V0_e 1 a (.inr (.inl rfl)) h1] at h3
        simp
        rcases h1 with rfl | rfl | rfl <;> simp at h3 ⊢ <;> omega
    · refine ⟨by decide, fun ⟨a, b⟩ => ?_⟩
      show (a, b) ∈ [((0 : Int), (1 : Int)), (0, 2), (2, 1)] ↔ InG a ∧ 1 ≤ b ∧ b ≤ (V0 2 a : Int)
      constructor
      · intro h
        simp at h
        rcases h with ⟨rfl, rfl⟩ | ⟨rfl, rfl⟩ | ⟨rfl, rfl⟩
        · exact ⟨.inl rfl, by decide, by decide⟩
        · exact ⟨.inl rfl, by decide, by decide⟩
        · exact ⟨.inr (.inr rfl), by decide, by decide⟩
      · rintro ⟨h1, h2, h3⟩
        rw [V0_e 2 a (.inr (.inr rfl)) h1] at h3
        simp
        rcases h1 with rfl | rfl | rfl <;> simp at h3 ⊢ <;> omega
  · constructor
    · intro h; cases h
    · rintro ⟨_, h2, h3⟩
      have : (((look st0.gs q).getD fun _ => 0) p.1 : Int) = 0 := rfl
      have h4 : p.2 ≤ (0 : Int) := h3
      omega
end Mine

set_option maxHeartbeats 400000
namespace Mine
section
variable {prog : Program} {w : World} {A : Around} {s : Shared} {mb : Nm} {S₀ : Shared} {I₀ I : Imm} {X : List Addr} {L : Addr} {m : Nm} {M : List (Addr × Obj)} {env : Env}
/-- e is a display that makes the list l, kept -/
structure Shows (prog : Program) (w : World) (A : Around) (env : Env) (e : Expr) (l : List Span) : Prop where
  run : ∀ {S₀ : Shared} {I₀ I : Imm} {X : List Addr} {L : Addr} {m : Nm} {M : List (Addr × Obj)} {s : Shared} (Q : Value → Shared → Prop), Cx S₀ I₀ X I L m M s →
    (∀ t I' s', Cx S₀ I₀ X I' L m M s' → Sub I I' → kSpans.is I' l (.ref t) → Q (.ref t) s') → wpAny (model prog w) A (eval e env) Q noE s
theorem shows0 {p : Pos} : Shows prog w A env (.List [] p) [] := ⟨fun Q c h =>
  lstE c (spliced_none ⟨_, _, c, by simp, fun tl I s c sub htl => h _ _ _ c sub ⟨tl, _, rfl, htl, trivial⟩⟩)⟩
structure ShowsP (prog : Program) (w : World) (A : Around) (env : Env) (e : Expr) (p : Span) : Prop where
  run : ∀ {S₀ : Shared} {I₀ I : Imm} {X : List Addr} {L : Addr} {m : Nm} {M : List (Addr × Obj)} {s : Shared} (Q : Value → Shared → Prop), Cx S₀ I₀ X I L m M s →
    (∀ t I' s', Cx S₀ I₀ X I' L m M s' → Sub I I' → koSpan.is I' p (.ref t) → Q (.ref t) s') → wpAny (model prog w) A (eval e env) Q noE s
theorem showsP {i j : Int} {k1 k2 k : Nat} {p1 p2 p : Pos} : ShowsP prog w A env (.Tuple [.Constant (.int i) k1 p1, .Constant (.int j) k2 p2] k p) (i, j) := ⟨fun Q c h => pairE c h⟩
theorem shows2 {x1 x2 : List Expr} {k1 k2 : Nat} {q1 q2 p : Pos} {a1 a2 : Span} (g1 : ShowsP prog w A env (.Tuple x1 k1 q1) a1) (g2 : ShowsP prog w A env (.Tuple x2 k2 q2) a2) : Shows prog w A env (.List [.Tuple x1 k1 q1, .Tuple x2 k2 q2] p) [a1, a2] := by
  refine ⟨?_⟩
  intro S₀ I₀ I X L m M s Q c h
  refine lstE c (spliced_more (g1.run _ c fun t1 I1 s1 c1 sub1 h1 => ?_))
  refine spliced_more (g2.run _ c1 fun t2 I2 s2 c2 sub2 h2 => ?_)
  refine spliced_none ⟨_, _, c2, by simp, fun tl I4 s4 c4 sub4 htl => h _ _ _ c4 (sub1.trans (sub2.trans sub4)) ⟨tl, _, rfl, htl, koSpan.sub (sub2.trans sub4) h1, koSpan.sub sub4 h2, trivial⟩⟩
theorem shows3 {x1 x2 x3 : List Expr} {k1 k2 k3 : Nat} {q1 q2 q3 p : Pos} {a1 a2 a3 : Span} (g1 : ShowsP prog w A env (.Tuple x1 k1 q1) a1) (g2 : ShowsP prog w A env (.Tuple x2 k2 q2) a2) (g3 : ShowsP prog w A env (.Tuple x3 k3 q3) a3) :
    Shows prog w A env (.List [.Tuple x1 k1 q1, .Tuple x2 k2 q2, .Tuple x3 k3 q3] p) [a1, a2, a3] := by
  refine ⟨?_⟩
  intro S₀ I₀ I X L m M s Q c h
  refine lstE c (spliced_more (g1.run _ c fun t1 I1 s1 c1 sub1 h1 => ?_))
  refine spliced_more (g2.run _ c1 fun t2 I2 s2 c2 sub2 h2 => ?_)
  refine spliced_more (g3.run _ c2 fun t3 I3 s3 c3 sub3 h3 => ?_)
  refine spliced_none ⟨_, _, c3, by simp, fun tl I4 s4 c4 sub4 htl => h _ _ _ c4 (sub1.trans (sub2.trans (sub3.trans sub4))) ⟨tl, _, rfl, htl, koSpan.sub (sub2.trans (sub3.trans sub4)) h1, koSpan.sub (sub3.trans sub4) h2, koSpan.sub sub4 h3, trivial⟩⟩
theorem dict3 {e1 e2 e3 : Expr} {i1 i2 i3 : Int} {l1 l2 l3 : List Span} {p1 p2 p3 p : Pos} {Q : Value → Shared → Prop} (c : Cx S₀ I₀ X I L m M s) (hbig : 5 < s.heap.objs.size)
    (h1 : Shows prog w A env e1 l1) (h2 : Shows prog w A env e2 l2) (h3 : Shows prog w A env e3 l3) (hne : i1 ≠ i2 ∧ i1 ≠ i3 ∧ i2 ≠ i3)
    (k : ∀ d o I' s', 5 < d → Cx S₀ I₀ X I' L m ((d, o) :: M) s' → Sub I I' → DK prog w kSpans I' o [(i1, l1), (i2, l2), (i3, l3)] → Q (.ref d) s') :
    wpAny (model prog w) A (eval (.Dict [some (.Constant (.int i1) 0 p1), some (.Constant (.int i2) 0 p2), some (.Constant (.int i3) 0 p3)] [e1, e2, e3] p) env) Q noE s := by
  refine @dictE prog w _ _ _ _ _ _ _ _ _ _ Int _ (intKind prog w) _ _ _ _ c rfl rfl (by simp) (by simp) hbig fun d s1 hd c1 => ?_
  refine pairTrees_cons_walk (cint c1 fun t1 s2 c2 => h1.run _ c2 fun a1 I3 s3 c3 sub3 ha1 => ?_)
  refine pairTrees_cons_walk (cint c3 fun t2 s4 c4 => h2.run _ c4 fun a2 I5 s5 c5 sub5 ha2 => ?_)
  refine pairTrees_cons_walk (cint c5 fun t3 s6 c6 => h3.run _ c6 fun a3 I7 s7 c7 sub7 ha3 => ?_)
  refine pairTrees_nil_walk ⟨[(i1, .ref a1), (i2, .ref a2), (i3, .ref a3)], I7, _, ⟨intKind_is prog w i1 t1, rfl, intKind_is prog w i2 t2, rfl, intKind_is prog w i3 t3, rfl, trivial⟩, c7, fun s8 o' ho' c8 => ?_⟩
  have e : merged [] [(i1, Value.ref a1), (i2, .ref a2), (i3, .ref a3)] = [(i1, Value.ref a1), (i2, .ref a2), (i3, .ref a3)] := by
    simp [merged, stored, hne.1, hne.2.1, hne.2.2]
  rw [e] at ho'
  exact k d o' I7 s8 hd c8 (sub3.trans (sub5.trans sub7)) ⟨_, ho', rfl, kSpans.sub (sub5.trans sub7) ha1, rfl, kSpans.sub sub7 ha2, rfl, ha3, trivial⟩
theorem dict2 {e1 e2 : Expr} {i1 i2 : Int} {l1 l2 : List Span} {p1 p2 p : Pos} {Q : Value → Shared → Prop} (c : Cx S₀ I₀ X I L m M s) (hbig : 5 < s.heap.objs.size)
    (h1 : Shows prog w A env e1 l1) (h2 : Shows prog w A env e2 l2) (hne : i1 ≠ i2)
    (k : ∀ d o I' s', 5 < d → Cx S₀ I₀ X I' L m ((d, o) :: M) s' → Sub I I' → DK prog w kSpans I' o [(i1, l1), (i2, l2)] → Q (.ref d) s') :
    wpAny (model prog w) A (eval (.Dict [some (.Constant (.int i1) 0 p1), some (.Constant (.int i2) 0 p2)] [e1, e2] p) env) Q noE s := by
  refine @dictE prog w _ _ _ _ _ _ _ _ _ _ Int _ (intKind prog w) _ _ _ _ c rfl rfl (by simp) (by simp) hbig fun d s1 hd c1 => ?_
  refine pairTrees_cons_walk (cint c1 fun t1 s2 c2 => h1.run _ c2 fun a1 I3 s3 c3 sub3 ha1 => ?_)
  refine pairTrees_cons_walk (cint c3 fun t2 s4 c4 => h2.run _ c4 fun a2 I5 s5 c5 sub5 ha2 => ?_)
  refine pairTrees_nil_walk ⟨[(i1, .ref a1), (i2, .ref a2)], I5, _, ⟨intKind_is prog w i1 t1, rfl, intKind_is prog w i2 t2, rfl, trivial⟩, c5, fun s8 o' ho' c8 => ?_⟩
  have e : merged [] [(i1, Value.ref a1), (i2, .ref a2)] = [(i1, Value.ref a1), (i2, .ref a2)] := by
    simp [merged, stored, hne]
  rw [e] at ho'
  exact k d o' I5 s8 hd c8 (sub3.trans sub5) ⟨_, ho', rfl, kSpans.sub sub5 ha1, rfl, ha2, trivial⟩
theorem book_dict {e1 e2 : Expr} {kd : Addr} {p1 p2 p3 p4 p5 p6 p : Pos} {Q : Value → Shared → Prop} {l : List (Int × List Span)} (c : Cx S₀ I₀ [] I L m M s) (hbig : 5 < s.heap.objs.size) (hkd : 5 < kd)
    (h1 : ∀ (M' : List (Addr × Obj)) (s' : Shared) (Q' : Value → Shared → Prop), Cx S₀ I₀ [] I L m M' s' → Q' (.ref kd) s' → wpAny (model prog w) A (eval e1 env) Q' noE s')
    (h2 : ∀ (M' : List (Addr × Obj)) (s' : Shared) (Q' : Value → Shared → Prop), 5 < s'.heap.objs.size → Cx S₀ I₀ [] I L m M' s' → (∀ d o I' s'', 5 < d → Cx S₀ I₀ [] I' L m ((d, o) :: M') s'' → Sub I I' → DK prog w kSpans I' o l → Q' (.ref d) s'') → wpAny (model prog w) A (eval e2 env) Q' noE s')
    (k : ∀ b bg bo sl br I' s', Cx S₀ I₀ [] I' L m ((br, newL) :: (sl, newL) :: (bg, bo) :: M) s' → Sub I I' → DK prog w kSpans I' bo l → BookI prog w I' b kd bg sl br → Q (.ref b) s') :
    wpAny (model prog w) A (eval (.Dict [some (.Constant (.str "known") 0 p1), some (.Constant (.str "gates") 0 p2), some (.Constant (.str "seen") 0 p3), some (.Constant (.str "races") 0 p4)] [e1, e2, .List [] p5, .List [] p6] p) env) Q noE s := by
  refine @dictE prog w _ _ _ _ _ _ _ _ _ _ Str _ (strKind prog w) _ _ _ _ c rfl rfl (by simp) (by simp) hbig fun b s1 hb c1 => ?_
  refine pairTrees_cons_walk (cstr c1 fun t1 s2 c2 => h1 _ _ _ c2 ?_)
  refine pairTrees_cons_walk (cstr c2 fun t2 s3 c3 => h2 _ _ _ (Nat.lt_trans hb (Heap.lt_size (c3.mt _ (.head _)))) c3 fun bg bo I4 s4 hbg c4 sub4 hbo => ?_)
  refine pairTrees_cons_walk (cstr c4 fun t3 s5 c5 => lstME c5 (spliced_none ⟨_, _, c5, by simp, fun sl s6 c6 => ?_⟩))
  refine pairTrees_cons_walk (cstr c6 fun t4 s7 c7 => lstME c7 (spliced_none ⟨_, _, c7, by simp, fun br s8 c8 => ?_⟩))
  have c8' : Cx S₀ I₀ [] I4 L m ((br, newL) :: (sl, newL) :: (bg, bo) :: (b, emptyDict) :: M) s8 := c8
  refine pairTrees_nil_walk ⟨[("known", .ref kd), ("gates", .ref bg), ("seen", .ref sl), ("races", .ref br)], I4, [(br, newL), (sl, newL), (bg, bo)] ++ M, ⟨strKind_is prog w _ t1, rfl, strKind_is prog w _ t2, rfl, strKind_is prog w _ t3, rfl, strKind_is prog w _ t4, rfl, trivial⟩, c8'.perm (by (refine perm_cnt fun _ a => ?_; simp only [List.count_cons, List.count_append, List.count_nil]; omega)), fun s9 ob hob c9 => ?_⟩
  have e : merged [] [(("known" : Str), Value.ref kd), (("gates" : Str), .ref bg), (("seen" : Str), .ref sl), (("races" : Str), .ref br)] = [(("known" : Str), Value.ref kd), (("gates" : Str), .ref bg), (("seen" : Str), .ref sl), (("races" : Str), .ref br)] := rfl
  rw [e] at hob
  obtain ⟨c10, sub10⟩ := c9.freeze
  exact k b bg bo sl br _ s9 c10 (sub4.trans sub10) (hbo.sub sub10) ⟨⟨ob, addI_self, hob⟩, hkd, hbg⟩
end
end Mine

set_option maxHeartbeats 400000
namespace Mine
section
variable {prog : Program} {w : World} {A : Around} {s : Shared} {mb : Nm} {I : Imm} {d : Nat}
/-- what the beginning hands out -/
noncomputable def BegP (prog : Program) (w : World) (I' : Imm) (Ma : List (Addr × Obj)) (v : Value) : Prop :=
  Ex12 fun t x b cd pd rl ld gd kd bg sl br => An5 (v = .ref t) (TupI I' t [.ref x, .ref b]) (WatchI I' x cd ld gd pd rl) (BookI prog w I' b kd bg sl br) (Con prog w I' st0 0 cd pd rl ld gd kd bg sl br Ma)
theorem begun_ok (R : Room A (d + 6)) (T : Tp (KK w.params) mb I) (hI : InH I s.heap) :
    wpAny (model prog w) A (call (.ref 315) []) (PostQ s I [] (BegP prog w)) noE s := by
  refine call_def (fd := fdA 315) (M := []) (X := []) (binds := []) R T hI (fun _ h => nomatch h) .nil rfl rfl rfl rfl rfl rfl ?_ rfl rfl rfl
  intro L s1 hL c1 R1
  refine wpAny_execs_cons (wpAny_Assign_Name ?_)
  refine Call_Name rfl (nmG T c1 rfl (callWith_K0 (K := KK w.params) (T.inn c1.imm) rfl ?_) rfl rfl rfl)
  refine make_cx (P := fun y dx I' Ms N v => v = .none ∧ Ex16 fun cd ld gd pd rl n h1 h2 h3 h4 h5 t1 t2 t3 t4 t5 => An6 (Ms = [(dx, dictOf (wEnts h1 h2 h3 h4 h5 t1 t2 t3 t4 t5 cd ld gd pd rl) n)]) (N = [(rl, newL), (pd, emptyDict), (gd, emptyDict), (ld, emptyDict), (cd, emptyDict)]) (5 < cd) (5 < ld) (5 < gd) (5 < pd)) T c1 rfl rfl rfl ?_ (fun _ _ _ _ _ _ h => h.1) ?_
  · intro y dy s2 I2 R' hy sub2 hI2 hO2 hR'
    exact watch_init (d := d + 3) ((R1.under _ _).le (by omega)) (T.sub sub2) hI2 hy hO2 hR'
  rintro x dx od I2 s2 N c2 sub2 sub2' hy ⟨_, cd, ld, gd, pd, rl, n, h1, h2, h3, h4, h5, t1, t2, t3, t4, t5, hMs, rfl, hcd, hld, hgd, hpd⟩
  injection hMs with hMs _
  injection hMs with _ hMs
  subst hMs
  have W : WatchI _ x cd ld gd pd rl := ⟨dx, n, h1, h2, h3, h4, h5, t1, t2, t3, t4, t5, sub2' _ _ hy, addI_self, hcd, hld, hgd, hpd⟩
  have T2 := T.sub sub2
  refine st c2 (fun s3 c3' => ?_) rfl rfl
  have c3 := c3'.perm (M' := [(rl, newL), (pd, emptyDict), (gd, emptyDict), (ld, emptyDict), (cd, emptyDict)]) (List.Perm.of_eq rfl)
  -- the two begun
  refine wpAny_execs_cons (wpAny_Expr ?_)
  refine mcall ?_
  refine nm c3 rfl ?_ rfl rfl
  refine w_m T2 c3 W rfl rfl (by intros; rfl) ?_
  refine cwK (K := KK w.params) rfl (spliced_more (cint c3 fun t4 s4 c4 => spliced_more (cint c4 fun t5 s5 c5 => spliced_none ⟨T2.inn c5.imm, ?_⟩)))
  refine Cx.callP (M1 := [(rl, newL), (pd, emptyDict), (gd, emptyDict), (ld, emptyDict)]) (Mc := [(cd, emptyDict)]) (M2 := []) c5 (go_ok (d := d) (ks := []) (g := 0) (h := 1) R1 T2 c5.imm W (c5.own (mid_sub [(rl, newL), (pd, emptyDict), (gd, emptyDict), (ld, emptyDict)] [(cd, emptyDict)] [])) ⟨[], emptyDict_is, trivial⟩ (by simp) (.inl rfl) (.inr (.inl rfl))) ?_
  rintro v6 I6 s6 Ms N c6 sub6 ⟨o6, ks6, rfl, rfl, rfl, hk6, rfl⟩
  have T6 := T2.sub sub6
  refine wpAny_execs_cons (wpAny_Expr ?_)
  refine mcall ?_
  refine nm c6 rfl ?_ rfl rfl
  refine w_m T6 c6 (W.sub sub6) rfl rfl (by intros; rfl) ?_
  refine cwK (K := KK w.params) rfl (spliced_more (cint c6 fun t7 s7 c7 => spliced_more (cint c7 fun t8 s8 c8 => spliced_none ⟨T6.inn c8.imm, ?_⟩)))
  refine Cx.callP (M1 := [(rl, newL), (pd, emptyDict), (gd, emptyDict), (ld, emptyDict)]) (Mc := [(cd, o6)]) (M2 := []) c8 (go_ok (d := d) (g := 0) (h := 2) R1 T6 c8.imm (W.sub sub6) (c8.own (mid_sub [(rl, newL), (pd, emptyDict), (gd, emptyDict), (ld, emptyDict)] [(cd, o6)] [])) hk6 (by decide) (.inl rfl) (.inr (.inr rfl))) ?_
  rintro v9 I9 s9 Ms N c9 sub9 ⟨o9, ks9, rfl, rfl, rfl, hk9, rfl⟩
  have hk9' : DK prog w kVec I9 o9 (vks V0) := hk9
  have T9 := T6.sub sub9
  have W9 := (W.sub sub6).sub sub9
  have c10 := c9.perm (M' := [(rl, newL), (pd, emptyDict), (gd, emptyDict), (ld, emptyDict), (cd, o9)]) (List.Perm.of_eq rfl)
  -- known
  refine wpAny_execs_cons ?_
  refine wpAny_Assign_Name ?_
  refine' dict3 ?c ?hb ?g1 ?g2 ?g3 ?hn ?_
  case hb => exact T9.big5 (a := 28) c10.imm rfl (by decide)
  case hn => decide
  case c => exact c10
  case g1 => exact shows3 showsP showsP showsP
  case g2 => exact shows2 showsP showsP
  case g3 => exact shows3 showsP showsP showsP
  intro kd ko I11 s11 hkd c11 sub11 hko
  have hko' : DK prog w kSpans I11 ko (kks K0) := hko
  refine st c11 (fun s12 c12 => ?_) rfl rfl
  have T12 := T9.sub sub11
  refine wpAny_execs_cons ?_
  refine wpAny_Return_some ?_
  refine tupE c12 (spliced_more (nm c12 rfl (spliced_more ?_) rfl rfl))
  refine' book_dict ?c ?hb ?hk ?g1 ?g2 ?_
  case hb => exact T12.big5 (a := 28) c12.imm rfl (by decide)
  case hk => exact hkd
  case c => exact c12
  case g1 => exact fun M' s' Q' c h => nm c rfl h rfl rfl
  case g2 =>
    intro M' s' Q' hb c h
    refine' dict2 ?c ?hb ?g1 ?g2 ?hn ?k
    case c => exact c
    case hb => exact hb
    case g1 => exact shows0
    case g2 => exact shows0
    case hn => decide
    case k => exact h
  intro b bg bo sl br I13 s13 c13 sub13 hbo hB
  refine spliced_none ⟨_, _, c13, by simp, fun tp I14 s14 c14 sub14 htp => ?_⟩
  have sub914 := sub11.trans (sub13.trans sub14)
  have hL2 : DK prog w kLine I14 emptyDict [] := ⟨[], emptyDict_is, trivial⟩
  refine (c14.perm (M' := (cd, o9) :: (gd, emptyDict) :: (kd, ko) :: (bg, bo) :: (ld, emptyDict) :: (br, newL) :: (sl, newL) :: (pd, emptyDict) :: (rl, newL) :: ([] ++ [])) (by (refine perm_cnt fun _ a => ?_; simp only [List.count_cons, List.count_append, List.count_nil]; omega))).postQ hL .nil (fun y hy => nomatch hy) ⟨tp, x, b, cd, pd, rl, ld, gd, kd, bg, sl, br, rfl, htp, W9.sub sub914, hB.sub sub14, ?_⟩
  exact ⟨o9, emptyDict, ko, emptyDict, bo, emptyDict, [], 0, [], 0, [], 0, [], [], rfl, hk9'.sub sub914, ⟨[], emptyDict_is, trivial⟩, hko'.sub (sub13.trans sub14), hbo.sub sub14, .inl ⟨hL2, rfl⟩, .inl ⟨⟨[], emptyDict_is, trivial⟩, rfl, rfl⟩, trivial, trivial, trivial⟩
end
end Mine

set_option maxHeartbeats 400000
namespace Mine
section
variable {prog : Program} {w : World} {A : Around} {env : Env} {α β γ : Type}
/-- e shows a value of a kind; it is no starred one -/
structure ShowsV (prog : Program) (w : World) (A : Around) (env : Env) (k : Kd α) (e : Expr) (a : α) : Prop where
  run : ∀ {S₀ : Shared} {I₀ I : Imm} {X : List Addr} {L : Addr} {m : Nm} {M : List (Addr × Obj)} {s : Shared} (Q : Value → Shared → Prop), Cx S₀ I₀ X I L m M s →
    (∀ v I' s', Cx S₀ I₀ X I' L m M s' → Sub I I' → k.is I' a v → Q v s') → wpAny (model prog w) A (eval e env) Q noE s
  plain : ∀ rest, starEach (e :: rest) env = (false, eval e env) :: starEach rest env
theorem vInt {i : Int} {n : Nat} {p : Pos} : ShowsV prog w A env kInt (.Constant (.int i) n p) i := ⟨fun Q c h => cint c fun t s' c' => h _ _ _ c' (Sub.refl _) ⟨t, rfl⟩, fun _ => rfl⟩
theorem vStr {x : Str} {n : Nat} {p : Pos} : ShowsV prog w A env kStr (.Constant (.str x) n p) x := ⟨fun Q c h => cstr c fun t s' c' => h _ _ _ c' (Sub.refl _) ⟨t, rfl⟩, fun _ => rfl⟩
theorem vPair {k : Kd α} {l : Kd β} {e1 e2 : Expr} {a : α} {b : β} {n : Nat} {p : Pos} (g1 : ShowsV prog w A env k e1 a) (g2 : ShowsV prog w A env l e2 b) : ShowsV prog w A env (kPair k l) (.Tuple [e1, e2] n p) (a, b) := by
  refine ⟨?_, fun _ => rfl⟩
  intro S₀ I₀ I X L m M s Q c h
  refine tupE c (spliced_more (he := g1.plain _) (g1.run _ c fun v1 I1 s1 c1 sub1 h1 => ?_))
  refine spliced_more (he := g2.plain _) (g2.run _ c1 fun v2 I2 s2 c2 sub2 h2 => ?_)
  refine spliced_none ⟨_, _, c2, by simp, fun t I4 s4 c4 sub4 ht => h _ _ _ c4 (sub1.trans (sub2.trans sub4)) ⟨t, _, _, rfl, ht, k.sub (sub2.trans sub4) h1, l.sub sub4 h2⟩⟩
theorem vTrip [DecidableEq α] [DecidableEq β] [DecidableEq γ] {k : Kd α} {l : Kd β} {o : Kd γ} {e1 e2 e3 : Expr} {a : α} {b : β} {d : γ} {n : Nat} {p : Pos} (g1 : ShowsV prog w A env k e1 a) (g2 : ShowsV prog w A env l e2 b) (g3 : ShowsV prog w A env o e3 d) :
    ShowsV prog w A env (kTrip k l o) (.Tuple [e1, e2, e3] n p) (a, b, d) := by
  refine ⟨?_, fun _ => rfl⟩
  intro S₀ I₀ I X L m M s Q c h
  refine tupE c (spliced_more (he := g1.plain _) (g1.run _ c fun v1 I1 s1 c1 sub1 h1 => ?_))
  refine spliced_more (he := g2.plain _) (g2.run _ c1 fun v2 I2 s2 c2 sub2 h2 => ?_)
  refine spliced_more (he := g3.plain _) (g3.run _ c2 fun v3 I3 s3 c3 sub3 h3 => ?_)
  refine spliced_none ⟨_, _, c3, by simp, fun t I4 s4 c4 sub4 ht => h _ _ _ c4 (sub1.trans (sub2.trans (sub3.trans sub4))) ⟨t, _, _, _, rfl, ht, k.sub (sub2.trans (sub3.trans sub4)) h1, l.sub (sub3.trans sub4) h2, o.sub sub4 h3⟩⟩
theorem vNil {k : Kd α} {n : Nat} {p : Pos} : ShowsV prog w A env (kList k) (.Tuple [] n p) [] := by
  refine ⟨?_, fun _ => rfl⟩
  intro S₀ I₀ I X L m M s Q c h
  refine tupE c (spliced_none ⟨_, _, c, by simp, fun t I4 s4 c4 sub4 ht => h _ _ _ c4 sub4 ⟨t, _, rfl, ht, trivial⟩⟩)
theorem vOne {k : Kd α} {e1 : Expr} {a : α} {n : Nat} {p : Pos} (g1 : ShowsV prog w A env k e1 a) : ShowsV prog w A env (kList k) (.Tuple [e1] n p) [a] := by
  refine ⟨?_, fun _ => rfl⟩
  intro S₀ I₀ I X L m M s Q c h
  refine tupE c (spliced_more (he := g1.plain _) (g1.run _ c fun v1 I1 s1 c1 sub1 h1 => ?_))
  refine spliced_none ⟨_, _, c1, by simp, fun t I4 s4 c4 sub4 ht => h _ _ _ c4 (sub1.trans sub4) ⟨t, _, rfl, ht, k.sub sub4 h1, trivial⟩⟩
/-- a list of two, kept -/
theorem vLst2 {k : Kd α} {e1 e2 : Expr} {a b : α} {p : Pos} {S₀ : Shared} {I₀ I : Imm} {X : List Addr} {L : Addr} {m : Nm} {M : List (Addr × Obj)} {s : Shared} {Q : Value → Shared → Prop} (c : Cx S₀ I₀ X I L m M s) (g1 : ShowsV prog w A env k e1 a) (g2 : ShowsV prog w A env k e2 b)
    (h : ∀ t vs I' s', Cx S₀ I₀ X I' L m M s' → Sub I I' → LstI I' t vs → Are k I' [a, b] vs → Q (.ref t) s') : wpAny (model prog w) A (eval (.List [e1, e2] p) env) Q noE s := by
  refine lstE c (spliced_more (he := g1.plain _) (g1.run _ c fun v1 I1 s1 c1 sub1 h1 => ?_))
  refine spliced_more (he := g2.plain _) (g2.run _ c1 fun v2 I2 s2 c2 sub2 h2 => ?_)
  refine spliced_none ⟨_, _, c2, by simp, fun t I4 s4 c4 sub4 ht => h _ _ _ _ c4 (sub1.trans (sub2.trans sub4)) ht ⟨k.sub (sub2.trans sub4) h1, k.sub sub4 h2, trivial⟩⟩
/-- a def called with an int and a shown value -/
theorem call2 {K : Frag} {mb : Nm} {f : Value} {first : List Value} {e1 e2 : Expr} {k : Kd α} {i : Int} {a : α} {pos : Pos} {S₀ : Shared} {I₀ I : Imm} {X : List Addr} {L : Addr} {m : Nm} {M : List (Addr × Obj)} {s : Shared} {Q : Value → Shared → Prop} (c : Cx S₀ I₀ X I L m M s) (T : Tp K mb I) (hk : keepIn K f = true)
    (g1 : ShowsV prog w A env kInt e1 i) (g2 : ShowsV prog w A env k e2 a) (h : ∀ t v I' s', Cx S₀ I₀ X I' L m M s' → Sub I I' → k.is I' a v → wpAny (model prog w) A (call f (first ++ [.int i t, v])) Q noE s') :
    wpAny (model prog w) A (callWith pos f first (backTo pos (starEach [e1, e2] env)) []) Q noE s := by
  refine cwK hk (spliced_more (he := g1.plain _) (g1.run _ c fun v1 I1 s1 c1 sub1 h1 => ?_)) (g1.plain _) (by rw [g2.plain]; rfl)
  refine spliced_more (he := g2.plain _) (g2.run _ c1 fun v2 I2 s2 c2 sub2 h2 => ?_)
  obtain ⟨t, rfl⟩ := h1
  exact spliced_none ⟨(T.sub (sub1.trans sub2)).inn c2.imm, h t v2 I2 s2 c2 (sub1.trans sub2) h2⟩
end
/-! # the new races, told by the table -/
theorem tget_of {tbl : List Pl} {pl : Pl} (hnd : (tbl.map (·.path)).Nodup) (hpl : pl ∈ tbl) (b : Bool) (q : Int) : tget tbl pl.path b q = look (if b then pl.wc else pl.rc) q := by
  unfold tget
  have : tbl.find? (fun x => decide (x.path = pl.path)) = some pl := by
    obtain ⟨A, B, hAB⟩ := List.append_of_mem hpl
    rw [hAB, List.find?_append, List.find?_cons, decide_eq_true rfl]
    have : A.find? (fun x => decide (x.path = pl.path)) = none := by
      rw [List.find?_eq_none]
      intro x hx
      rw [decide_eq_true_eq]
      intro e
      rw [hAB, List.map_append, List.map_cons, List.nodup_append] at hnd
      exact hnd.2.2 x.path (List.mem_map.mpr ⟨x, hx, rfl⟩) pl.path (.head _) e
    rw [this]; rfl
  rw [this]; rfl
theorem newP_iff {V : Int → Vec} {g : Int} {path : Path} {isW : Bool} {tbl : List Pl} {r : Race} (hnd : (tbl.map (·.path)).Nodup) :
    (∃ pl ∈ tbl, NewP V g path isW pl r) ↔ Ex4 fun p b q c => An6 (tget tbl p b q = some c) (meet p path = true) (b = true ∨ isW = true) (q ≠ g) (c > (V g q : Int)) (r = ((1, path), (q, wd b), (g, wd isW))) := by
  constructor
  · rintro ⟨pl, hpl, hm, ⟨q, c, h1, h2, h3, h4⟩ | ⟨hw, q, c, h1, h2, h3, h4⟩⟩
    · exact ⟨pl.path, true, q, c, by rw [tget_of hnd hpl]; exact h1, hm, .inl rfl, h2, h3, h4⟩
    · exact ⟨pl.path, false, q, c, by rw [tget_of hnd hpl]; exact h1, hm, .inr hw, h2, h3, h4⟩
  · rintro ⟨p, b, q, c, h1, h2, h3, h4, h5, h6⟩
    unfold tget at h1
    cases e : tbl.find? (fun x => decide (x.path = p)) with
    | none => rw [e] at h1; cases h1
    | some pl =>
      rw [e] at h1
      have hp : pl.path = p := by have := List.find?_some e; simpa using this
      refine ⟨pl, List.mem_of_find?_eq_some e, by rw [hp]; exact h2, ?_⟩
      cases b with
      | true => exact .inl ⟨q, c, h1, h4, h5, h6⟩
      | false =>
        rcases h3 with h3 | h3
        · cases h3
        · exact .inr ⟨h3, q, c, h1, h4, h5, h6⟩
/-- a longer list with just one more -/
theorem np_snoc {R R' : List Race} {x : Race} (h : NP R R') (hx : x ∉ R) (hm : ∀ r, r ∈ R' ↔ r ∈ R ∨ r = x) : R' = R ++ [x] := by
  obtain ⟨hn, t, rfl⟩ := h
  rw [List.nodup_append] at hn
  obtain ⟨_, ht, hd⟩ := hn
  have h1 : ∀ r, r ∈ t ↔ r = x := fun r => by
    constructor
    · intro hr
      rcases (hm r).mp (List.mem_append_right _ hr) with q | q
      · exact absurd rfl (hd r q r hr)
      · exact q
    · rintro rfl
      rcases List.mem_append.mp ((hm r).mpr (.inr rfl)) with q | q
      · exact absurd q hx
      · exact q
  congr 1
  cases t with
  | nil => exact absurd ((h1 x).mpr rfl) (fun h => nomatch h)
  | cons a t =>
    have ha := (h1 a).mp (.head _)
    subst ha
    cases t with
    | nil => rfl
    | cons b t =>
      rw [List.nodup_cons] at ht
      have := (h1 b).mp (.tail _ (.head _))
      subst this
      exact absurd (.head _) ht.1
theorem np_same {R R' : List Race} (h : NP R R') (hm : ∀ r, r ∈ R' → r ∈ R) : R' = R := by
  obtain ⟨hn, t, rfl⟩ := h
  rw [List.nodup_append] at hn
  cases t with
  | nil => rw [List.append_nil]
  | cons a t => exact absurd rfl (hn.2.2 a (hm a (List.mem_append_right _ (.head _))) a (.head _))
end Mine

set_option maxHeartbeats 400000
namespace Mine
/-! # the fixed history -/
noncomputable def fV1 : Int → Vec := updV V0 1 (vtick (V0 1) 1)
noncomputable def fG : List (Int × Vec) := put [] 3 (vmax ((look ([] : List (Int × Vec)) 3).getD fun _ => 0) (V0 1))
noncomputable def fV2 : Int → Vec := updV fV1 2 (vmax (fV1 2) ((look fG 4).getD fun _ => 0))
noncomputable def fV3 : Int → Vec := updV fV2 0 (vmax (fV2 0) ((look fG 3).getD fun _ => 0))
noncomputable def fX1 : Race := ((1, []), (1, wd true), (2, wd false))
noncomputable def fX2 : Race := ((1, [0]), (2, wd false), (0, wd true))
theorem fx1 {tb : List Pl} (h : ∀ p b q, tget tb p b q = if p = [0] ∧ b = true ∧ q = 1 then some ((V0 1 1 : Nat) : Int) else none) (r : Race) :
    (Ex4 fun p b q c => An6 (tget tb p b q = some c) (meet p [] = true) (b = true ∨ false = true) (q ≠ 2) (c > (fV2 2 q : Int)) (r = ((1, []), (q, wd b), (2, wd false)))) ↔ r = fX1 := by
  constructor
  · rintro ⟨p, b, q, c, h1, h2, h3, h4, h5, h6⟩
    rw [h] at h1
    split at h1
    · rename_i e
      obtain ⟨rfl, rfl, rfl⟩ := e
      exact h6
    · cases h1
  · rintro rfl
    exact ⟨[0], true, 1, _, by rw [h]; exact if_pos ⟨rfl, rfl, rfl⟩, by decide, .inl rfl, by decide, by decide, rfl⟩
theorem fx2 {tb tb' : List Pl} (h : ∀ p b q, tget tb p b q = if p = [0] ∧ b = true ∧ q = 1 then some ((V0 1 1 : Nat) : Int) else none)
    (h' : ∀ p b q, tget tb' p b q = if p = [] ∧ b = false ∧ q = 2 then some ((fV2 2 2 : Nat) : Int) else tget tb p b q) (r : Race) :
    (Ex4 fun p b q c => An6 (tget tb' p b q = some c) (meet p [0] = true) (b = true ∨ true = true) (q ≠ 0) (c > (fV3 0 q : Int)) (r = ((1, [0]), (q, wd b), (0, wd true)))) ↔ r = fX2 := by
  constructor
  · rintro ⟨p, b, q, c, h1, h2, h3, h4, h5, h6⟩
    rw [h', h] at h1
    split at h1
    · rename_i e
      obtain ⟨rfl, rfl, rfl⟩ := e
      exact h6
    · split at h1
      · rename_i e
        obtain ⟨rfl, rfl, rfl⟩ := e
        cases h1
        exact absurd h5 (by decide)
      · cases h1
  · rintro rfl
    exact ⟨[], false, 2, _, by rw [h']; exact if_pos ⟨rfl, rfl, rfl⟩, by decide, .inr rfl, by decide, by decide, rfl⟩
section
variable {prog : Program} {w : World} {A : Around} {s : Shared} {mb : Nm} {I : Imm} {d : Nat}
theorem fixed_ok (R : Room A (d + 7)) (T : Tp (KK w.params) mb I) (hI : InH I s.heap) :
    wpAny (model prog w) A (call (.ref 322) []) (fun v s' => ∃ I', Gr s I [] I' s' ∧ v = .bool true) noE s := by
  refine call_def (fd := fdA 322) (M := []) (X := []) (binds := []) R T hI (fun _ h => nomatch h) .nil rfl rfl rfl rfl rfl rfl ?_ rfl rfl rfl
  intro L s1 hL c1 R1
  refine wpAny_execs_cons (Assign_Tuple ?_)
  refine Call_Name rfl (nmG T c1 rfl (callWith_K0 (K := KK w.params) (T.inn c1.imm) rfl ?_) rfl rfl rfl)
  refine Cx.callQ (Mc := []) (Mr := []) c1 (begun_ok (d := d) R1 T c1.imm) ?_
  rintro v2 I2 s2 Ma c2 sub2 ⟨t, x, b, cd, pd, rl, ld, gd, kd, bg, sl, br, rfl, ht, W2, B2, hC⟩
  obtain ⟨o, po, ko, go, bo, lo, rs, n, sv, nv, bv, nb, Ml, Mpl, rfl, hco, hgo, hko, hbo, hlo, hpo, hsv, hrs, hbv⟩ := hC
  refine asg2 c2 R1.hd (ht.at c2.imm) (fun s3 c3' => ?_) rfl rfl rfl
  have c3 := (c3'.perm (M' := (((cd, o) :: (pd, po) :: (rl, seqObj "list" rs.toArray n) :: Mpl) ++ [(gd, go)]) ++ ((kd, ko) :: (bg, bo) :: (ld, lo) :: (br, seqObj "list" bv.toArray nb) :: (sl, seqObj "list" sv.toArray nv) :: Ml)) (by (refine perm_cnt fun _ a => ?_; simp only [List.count_cons, List.count_append, List.count_nil]; omega))).drop (List.sublist_append_left _ _)
  have T2 := T.sub sub2
  -- write 1
  refine wpAny_execs_cons (wpAny_Expr ?_)
  refine mcall ?_
  refine nm c3 rfl ?_ rfl rfl
  refine w_m T2 c3 W2 rfl rfl (by intros; rfl) ?_
  refine' call2 ?c ?T ?hk ?g1 ?g2 ?_
  case c => exact c3
  case T => exact T2
  case hk => exact rfl
  case g1 => exact vInt
  case g2 => exact vPair vInt (vOne vInt)
  intro t4 lv5 I5 s5 c5 sub5 hl5
  refine Cx.callQ c5 (rw_ok (d := d) (isW := true) (V := V0) (g := 1) (path := [0]) (R0 := []) (tbl := []) (R1.le (by omega)) (T2.sub sub5) c5.imm (W2.sub sub5) (c5.own (List.sublist_append_left _ _)) (hco.sub sub5) (.inr (.inl rfl)) (hrs.sub sub5) .nil (by simp) (hpo.sub sub5) (by simp) hl5 (by simp) (fun _ h => nomatch h)) ?_
  rintro v6 I6 s6 Ma c6 sub6 ⟨o6, po6, rs6, n6, R6, Mpl6, tbl6, rfl, hk6, hP6, hR6, hNP6, hm6, htg6, htp6, rfl⟩
  have hR6e : R6 = [] := np_same hNP6 fun r hr => ((hm6 r).mp hr).elim id fun ⟨_, h, _⟩ => nomatch h
  subst hR6e
  have htg6' : ∀ p b q, tget tbl6 p b q = if p = [0] ∧ b = true ∧ q = 1 then some ((V0 1 1 : Nat) : Int) else none := fun p b q => htg6 p b q
  have sub06 := sub5.trans sub6
  have T6 := T2.sub sub06
  have W6 := W2.sub sub06
  -- leave 1 3
  have c7 := c6.perm (M' := [] ++ ([(cd, o6), (gd, go)] ++ ((pd, po6) :: (rl, seqObj "list" rs6.toArray n6) :: Mpl6))) (by (refine perm_cnt fun _ a => ?_; simp only [List.count_cons, List.count_append, List.count_nil]; omega))
  refine wpAny_execs_cons (wpAny_Expr ?_)
  refine mcall ?_
  refine nm c7 rfl ?_ rfl rfl
  refine w_m T6 c7 W6 rfl rfl (by intros; rfl) ?_
  refine' call2 ?c ?T ?hk ?g1 ?g2 ?_
  case c => exact c7
  case T => exact T6
  case hk => exact rfl
  case g1 => exact vInt
  case g2 => exact vInt
  rintro t8 _ I8 s8 c8 sub8 ⟨t8', rfl⟩
  refine Cx.callP (M1 := []) (Mc := [(cd, o6), (gd, go)]) c8 (leave_ok (d := d) (g := 1) (q := 3) (gs := []) (R1.le (by omega)) (T6.sub sub8) c8.imm (W6.sub sub8) (c8.own (mid_sub [] [(cd, o6), (gd, go)] _)) (hk6.sub sub8) (hgo.sub (sub06.trans sub8)) (by simp [vks]) (by simp) (.inr (.inl rfl))) ?_
  rintro v9 I9 s9 Ms N c9 sub9 ⟨o9, go9, rfl, rfl, hk9, hg9, rfl⟩
  rw [vks_clk0 (.inr (.inl rfl)), vks_clocked (.inr (.inl rfl)), vks_put (.inr (.inl rfl))] at hk9
  rw [vks_clk0 (.inr (.inl rfl))] at hg9
  have sub69 := sub8.trans sub9
  have T9 := T6.sub sub69
  have W9 := W6.sub sub69
  -- enter 2 4
  refine wpAny_execs_cons (wpAny_Expr ?_)
  refine mcall ?_
  refine nm c9 rfl ?_ rfl rfl
  refine w_m T9 c9 W9 rfl rfl (by intros; rfl) ?_
  refine' call2 ?c ?T ?hk ?g1 ?g2 ?_
  case c => exact c9
  case T => exact T9
  case hk => exact rfl
  case g1 => exact vInt
  case g2 => exact vInt
  rintro t10 _ I10 s10 c10 sub10 ⟨t10', rfl⟩
  refine Cx.callP (M1 := []) (Mc := [(cd, o9), (gd, go9)]) c10 (enter_ok (d := d) (g := 2) (q := 4) (R1.le (by omega)) (T9.sub sub10) c10.imm (W9.sub sub10) (c10.own (mid_sub [] [(cd, o9), (gd, go9)] _)) (hk9.sub sub10) (hg9.sub sub10) (by simp [vks]) (.inr (.inr rfl))) ?_
  rintro v11 I11 s11 Ms N c11 sub11 ⟨o11, rfl, rfl, hk11, rfl⟩
  rw [vks_clk0 (.inr (.inr rfl)), vks_clocked (.inr (.inr rfl)), vks_put (.inr (.inr rfl))] at hk11
  have hk11' : DK prog w kVec I11 o11 (vks fV2) := hk11
  have sub911 := sub10.trans sub11
  have sub611 := sub69.trans sub911
  have T11 := T9.sub sub911
  have W11 := W9.sub sub911
  -- read 2
  have c12 := c11.perm (M' := ((cd, o11) :: (pd, po6) :: (rl, seqObj "list" rs6.toArray n6) :: Mpl6) ++ [(gd, go9)]) (by (refine perm_cnt fun _ a => ?_; simp only [List.count_cons, List.count_append, List.count_nil]; omega))
  refine wpAny_execs_cons (wpAny_Expr ?_)
  refine mcall ?_
  refine nm c12 rfl ?_ rfl rfl
  refine w_m T11 c12 W11 rfl rfl (by intros; rfl) ?_
  refine' call2 ?c ?T ?hk ?g1 ?g2 ?_
  case c => exact c12
  case T => exact T11
  case hk => exact rfl
  case g1 => exact vInt
  case g2 => exact vPair vInt (vNil (k := kInt))
  intro t13 lv13 I13 s13 c13 sub13 hl13
  have hpp6 : ∀ pl ∈ tbl6, pl.path.length ≤ 100 := fun pl hpl => by
    rcases htp6 pl hpl with h | h
    · cases h
    · rw [h]; simp
  have htz6 : tbl6.length ≤ 20 := by
    have := nodup_len (r := [[0]]) hP6.nd fun a ha => by
      obtain ⟨y, hy, e⟩ := List.mem_map.mp ha
      rcases htp6 y hy with h | h
      · cases h
      · rw [← e, h]; exact .head _
    rw [List.length_map] at this
    exact Nat.le_trans this (by decide)
  refine Cx.callQ c13 (rw_ok (d := d) (isW := false) (V := fV2) (g := 2) (path := []) (R0 := []) (tbl := tbl6) (R1.le (by omega)) (T11.sub sub13) c13.imm (W11.sub sub13) (c13.own (List.sublist_append_left _ _)) (hk11'.sub sub13) (.inr (.inr rfl)) (hR6.sub (sub611.trans sub13)) .nil (by simp) (hP6.sub (sub611.trans sub13)) htz6 hl13 (by simp) hpp6) ?_
  rintro v14 I14 s14 Ma c14 sub14 ⟨o14, po14, rs14, n14, R14, Mpl14, tbl14, rfl, hk14, hP14, hR14, hNP14, hm14, htg14, htp14, rfl⟩
  have hR14e : R14 = [] ++ [fX1] := np_snoc hNP14 (fun h => nomatch h) fun r => by rw [hm14 r, newP_iff hP6.nd, fx1 htg6' r]
  rw [List.nil_append] at hR14e
  subst hR14e
  have sub1114 := sub13.trans sub14
  have T14 := T11.sub sub1114
  have W14 := W11.sub sub1114
  -- enter 0 3
  have c15 := c14.perm (M' := [] ++ ([(cd, o14), (gd, go9)] ++ ((pd, po14) :: (rl, seqObj "list" rs14.toArray n14) :: Mpl14))) (by (refine perm_cnt fun _ a => ?_; simp only [List.count_cons, List.count_append, List.count_nil]; omega))
  refine wpAny_execs_cons (wpAny_Expr ?_)
  refine mcall ?_
  refine nm c15 rfl ?_ rfl rfl
  refine w_m T14 c15 W14 rfl rfl (by intros; rfl) ?_
  refine' call2 ?c ?T ?hk ?g1 ?g2 ?_
  case c => exact c15
  case T => exact T14
  case hk => exact rfl
  case g1 => exact vInt
  case g2 => exact vInt
  rintro t16 _ I16 s16 c16 sub16 ⟨t16', rfl⟩
  refine Cx.callP (M1 := []) (Mc := [(cd, o14), (gd, go9)]) c16 (enter_ok (d := d) (g := 0) (q := 3) (R1.le (by omega)) (T14.sub sub16) c16.imm (W14.sub sub16) (c16.own (mid_sub [] [(cd, o14), (gd, go9)] _)) (hk14.sub sub16) (hg9.sub (sub911.trans (sub1114.trans sub16))) (by simp [vks]) (.inl rfl)) ?_
  rintro v17 I17 s17 Ms N c17 sub17 ⟨o17, rfl, rfl, hk17, rfl⟩
  rw [vks_clk0 (.inl rfl), vks_clocked (.inl rfl), vks_put (.inl rfl)] at hk17
  have hk17' : DK prog w kVec I17 o17 (vks fV3) := hk17
  have sub1417 := sub16.trans sub17
  have T17 := T14.sub sub1417
  have W17 := W14.sub sub1417
  -- write 0
  have c18 := c17.perm (M' := ((cd, o17) :: (pd, po14) :: (rl, seqObj "list" rs14.toArray n14) :: Mpl14) ++ [(gd, go9)]) (by (refine perm_cnt fun _ a => ?_; simp only [List.count_cons, List.count_append, List.count_nil]; omega))
  refine wpAny_execs_cons (wpAny_Expr ?_)
  refine mcall ?_
  refine nm c18 rfl ?_ rfl rfl
  refine w_m T17 c18 W17 rfl rfl (by intros; rfl) ?_
  refine' call2 ?c ?T ?hk ?g1 ?g2 ?_
  case c => exact c18
  case T => exact T17
  case hk => exact rfl
  case g1 => exact vInt
  case g2 => exact vPair vInt (vOne vInt)
  intro t19 lv19 I19 s19 c19 sub19 hl19
  have hps14 : ∀ pl ∈ tbl14, pl.path = [0] ∨ pl.path = [] := fun pl hpl => by
    rcases htp14 pl hpl with h | h
    · obtain ⟨y, hy, e⟩ := List.mem_map.mp h
      rcases htp6 y hy with h | h
      · cases h
      · rw [← e, h]; exact .inl rfl
    · exact .inr h
  have hpp14 : ∀ pl ∈ tbl14, pl.path.length ≤ 100 := fun pl hpl => by
    rcases hps14 pl hpl with h | h
    · rw [h]; simp
    · rw [h]; simp
  have htz14 : tbl14.length ≤ 20 := by
    have := nodup_len (r := [[0], []]) hP14.nd fun a ha => by
      obtain ⟨y, hy, e⟩ := List.mem_map.mp ha
      rcases hps14 y hy with h | h
      · rw [← e, h]; exact .head _
      · rw [← e, h]; exact .tail _ (.head _)
    rw [List.length_map] at this
    exact Nat.le_trans this (by decide)
  refine Cx.callQ c19 (rw_ok (d := d) (isW := true) (V := fV3) (g := 0) (path := [0]) (R0 := [fX1]) (tbl := tbl14) (R1.le (by omega)) (T17.sub sub19) c19.imm (W17.sub sub19) (c19.own (List.sublist_append_left _ _)) (hk17'.sub sub19) (.inl rfl) (hR14.sub (sub1417.trans sub19)) hNP14.1 (by simp) (hP14.sub (sub1417.trans sub19)) htz14 hl19 (by simp) hpp14) ?_
  rintro v20 I20 s20 Ma c20 sub20 ⟨o20, po20, rs20, n20, R20, Mpl20, tbl20, rfl, hk20, hP20, hR20, hNP20, hm20, htg20, htp20, rfl⟩
  have hR20e : R20 = [fX1] ++ [fX2] := np_snoc hNP20 (by decide) fun r => by rw [hm20 r, newP_iff hP14.nd, fx2 htg6' htg14 r]
  subst hR20e
  have sub1720 := sub19.trans sub20
  have T20 := T17.sub sub1720
  have W20 := W17.sub sub1720
  -- due
  refine wpAny_execs_cons ?_
  refine wpAny_Assign_Name ?_
  refine' vLst2 ?c ?g1 ?g2 ?_
  case c => exact c20
  case g1 => exact vTrip (vPair vInt (vNil (k := kInt))) (vPair vInt vStr) (vPair vInt vStr)
  case g2 => exact vTrip (vPair vInt (vOne vInt)) (vPair vInt vStr) (vPair vInt vStr)
  intro t21 vs21 I21 s21 c21 sub21 hl21 hv21
  refine st c21 (fun s22 c22 => ?_) rfl rfl
  refine wpAny_execs_cons (wpAny_Return_some (wpAny_Compare1 ?_))
  refine Attribute_name (nm c22 rfl ?_ rfl rfl)
  refine w_races (T20.sub sub21) c22 (W20.sub sub21) fun s23 c23 => ?_
  refine nm c23 rfl ?_ rfl rfl
  have hrl : s23.heap.IsList rl rs20.toArray := ⟨_, c23.mt (rl, seqObj "list" rs20.toArray n20) (by simp), rfl, n20, rfl⟩
  refine eq_lists koRace (l := [fX1, fX2]) (r := [fX1, fX2]) (R1.fits (by decide)) c23.imm hrl (hl21.at c23.imm) (hR20.sub sub21) hv21 ?_
  exact ⟨_, c23.leave hL, by rw [decide_eq_true rfl]⟩
end
end Mine

set_option maxHeartbeats 400000
namespace Mine
section
variable {prog : Program} {w : World} {A : Around} {s : Shared} {mb : Nm} {I : Imm} {d : Nat}
theorem Con.openR {σ : St} {k : Nat} {cd pd rl ld gd kd bg sl br : Addr} {M : List (Addr × Obj)} (h : Con prog w I σ k cd pd rl ld gd kd bg sl br M) : Ex9 fun o go ko bo rs n bv nb Mr => An10 (M = (cd, o) :: (gd, go) :: (kd, ko) :: (bg, bo) :: Mr) ((rl, seqObj "list" (rs : List Value).toArray n) ∈ Mr) ((br, seqObj "list" (bv : List Value).toArray nb) ∈ Mr) (DK prog w kVec I o (vks σ.V)) (DK prog w kVec I go σ.gs) (DK prog w kSpans I ko (kks σ.K)) (DK prog w kSpans I bo (ggs σ.H)) (Are koRace.toKd I σ.RW rs) (Are koRace.toKd I σ.RB bv) (∀ {J : Imm} {o' : Obj}, Sub I J → DK prog w kVec J o' (vks σ.V) → Con prog w J σ k cd pd rl ld gd kd bg sl br ((cd, o') :: (gd, go) :: (kd, ko) :: (bg, bo) :: Mr)) := by
  obtain ⟨o, po, ko, go, bo, lo, rs, n, sv, nv, bv, nb, Ml, Mpl, rfl, hco, hgo, hko, hbo, hlo, hpo, hsv, hrs, hbv⟩ := h
  refine ⟨o, go, ko, bo, rs, n, bv, nb, _, rfl, by simp, by simp, hco, hgo, hko, hbo, hrs, hbv, fun {J o'} hs h1 => ?_⟩
  exact ⟨o', po, ko, go, bo, lo, rs, n, sv, nv, bv, nb, Ml, Mpl, rfl, h1, hgo.sub hs, hko.sub hs, hbo.sub hs, hlo.sub hs, hpo.sub hs, hsv.sub hs, hrs.sub hs, hbv.sub hs⟩
theorem law_ok {sa : Addr} {vs : List Value} {ns : List Int} (R : Room A (d + 8)) (T : Tp (KK w.params) mb I) (hI : InH I s.heap) (hl : LstW I sa vs) (hv : Are kInt I ns vs) (hz : vs.length ≤ 1000) :
    wpAny (model prog w) A (call (.ref 329) [.ref sa]) (fun v s' => ∃ I', Gr s I [] I' s' ∧ v = .bool true) noE s := by
  refine call_def (fd := fdA 329) (M := []) (X := []) (binds := [("script", _)]) R T hI (fun _ h => nomatch h) .nil rfl rfl rfl rfl rfl rfl ?_ rfl rfl rfl
  intro L s1 hL c1 R1
  -- the fixed one
  refine wpAny_execs_cons (wpAny_If (isTrue_not (wpAny_isTrue_value (Call_Name rfl (nmG T c1 rfl (callWith_K0 (K := KK w.params) (T.inn c1.imm) rfl ?_) rfl rfl rfl)))))
  refine c1.call0 (P := fun _ r => r = .bool true) (fixed_ok (d := d) R1 T c1.imm) ?_
  rintro _ I2 s2 c2 sub2 rfl
  refine wpAny_truthy_bool ?_
  show wpAny _ _ (execs _ _) _ _ _
  refine wpAny_execs_nil ?_
  have T2 := T.sub sub2
  -- the source
  refine wpAny_execs_cons (wpAny_Assign_Name (Call_Name rfl (nmG T2 c2 rfl ?_ rfl rfl rfl)))
  refine cwK (K := KK w.params) rfl (spliced_more (nm c2 rfl (spliced_more (cint c2 fun t3 s3 c3 => spliced_none ⟨T2.inn c3.imm, ?_⟩)) rfl rfl))
  refine Cx.callP (M1 := []) (Mc := []) (M2 := []) c3 (pool_ok (d := d) (R1.le (by omega)) T2 c3.imm (hl.sub sub2) (hv.sub sub2) hz) ?_
  rintro v4 I4 s4 Ms N c4 sub4 ⟨sr, so, rfl, rfl, hso, rfl⟩
  refine st c4 (fun s5 c5 => ?_) rfl rfl
  have T4 := T2.sub sub4
  -- the beginning
  refine wpAny_execs_cons (Assign_Tuple ?_)
  refine Call_Name rfl (nmG T4 c5 rfl (callWith_K0 (K := KK w.params) (T4.inn c5.imm) rfl ?_) rfl rfl rfl)
  refine Cx.callQ (Mc := []) (Mr := [(sr, so)]) c5 (begun_ok (d := d + 1) R1 T4 c5.imm) ?_
  rintro v6 I6 s6 Ma c6 sub6 ⟨t, x, b, cd, pd, rl, ld, gd, kd, bg, sl, br, rfl, ht, W6, B6, hC⟩
  refine asg2 c6 R1.hd (ht.at c6.imm) (fun s7 c7' => ?_) rfl rfl rfl
  have c7 := c7'.perm (M' := (sr, so) :: Ma) (by (refine perm_cnt fun _ a => ?_; simp only [List.count_cons, List.count_append, List.count_nil]; omega))
  have T6 := T4.sub sub6
  -- the turns
  obtain ⟨J, hJ⟩ : ∃ (J : Nat → Imm → Nm → List (Addr × Obj) → Prop), ∀ i I1 m1 M1, J i I1 m1 M1 ↔ ((m1 "source" = some (.ref sr) ∧ m1 "watch" = some (.ref x) ∧ m1 "book" = some (.ref b)) ∧ Ex3 fun so' σ M' => An4 (M1 = (sr, so') :: M') (SrcOk so') (Con prog w I1 σ i cd pd rl ld gd kd bg sl br M') (Ok i σ)) := ⟨_, fun _ _ _ _ => Iff.rfl⟩
  refine wpAny_execs_cons ?_
  refine for_rngN (env := callEnv (fdA 329) L 329) T6 c7 R1.hd J ?_ rfl rfl rfl rfl rfl
  refine wpAny_BinOp (cint c7 fun t8 s8 c8 => ?_)
  refine Call_Name rfl (nmG T6 c8 rfl ?_ rfl rfl rfl)
  refine cwK (K := KK w.params) rfl (spliced_more (nm c8 rfl (spliced_more (cint c8 fun t9 s9 c9 => spliced_none ⟨T6.inn c9.imm, ?_⟩)) rfl rfl))
  refine Cx.callP (M1 := []) (Mc := [(sr, so)]) (M2 := Ma) c9 (take_ok (d := d) (R1.le (by omega)) T6 c9.imm (c9.own (mid_sub [] [(sr, so)] Ma)) hso (by omega) (by omega)) ?_
  rintro v10 I10 s10 Ms N c10 sub10 ⟨so10, r, t10, rfl, rfl, hso10, rfl, hr0, hr1⟩
  obtain ⟨k, rfl⟩ : ∃ (k : Nat), r = k := ⟨r.toNat, by omega⟩
  refine PyProof.Rows.add_int ?_
  refine ⟨6 + k, s10.toks, I10, _, _, by rw [Int.natCast_add]; rfl, by omega, c10.toks, (hJ _ _ _ _).mpr ⟨⟨rfl, rfl, rfl⟩, so10, st0, Ma, rfl, hso10, hC.sub sub10, ok0⟩, ?_, ?_⟩
  · intro i ti I11 m11 M11 s11 X11 Q11 hi hj11 sub11 hQ11 c11
    obtain ⟨⟨e1, e2, e3⟩, so11, σ, M, rfl, hso11, hC11, hOk⟩ := (hJ _ _ _ _).mp hj11
    have W11 := W6.sub (sub10.trans sub11)
    have B11 := B6.sub (sub10.trans sub11)
    have T11 := T6.sub (sub10.trans sub11)
    refine wpAny_assign_Name (es (env := callEnv (fdA 329) L 329) c11 (fun s12 c12 => ?_) rfl rfl)
    refine wpAny_execs_cons (wpAny_Expr ?_)
    refine Call_Name rfl (nmG T11 c12 rfl ?_ rfl rfl rfl)
    refine cwK (K := KK w.params) rfl (spliced_more (nm c12 e1 (spliced_more (nm c12 e2 (spliced_more (nm c12 e3 (spliced_none ⟨T11.inn c12.imm, ?_⟩) rfl rfl)) rfl rfl)) rfl rfl))
    refine Cx.callQ0 c12 (deed_ok (d := d) R1 T11 c12.imm W11 B11 (c12.own (List.Sublist.refl _)) hso11 hC11 hOk (by omega)) ?_
    rintro v13 I13 s13 Ma13 c13 sub13 _ ⟨so13, σ', M', rfl, hso13, hC13, hOk13, rfl⟩
    have W13 := W11.sub sub13
    have B13 := B11.sub sub13
    have T13 := T11.sub sub13
    obtain ⟨o, go, ko, bo, rs, n, bv, nb, Mr, rfl, hrm, hbm, hco, hgo, hko, hbo, hrs, hbv, hclose⟩ := hC13.openR
    -- the clocks
    have c14 := c13.perm (M' := [(sr, so13)] ++ ([(cd, o), (kd, ko)] ++ ((gd, go) :: (bg, bo) :: Mr))) (cat_perm [[(sr, so13)], [(cd, o)], [(gd, go)], [(kd, ko)], [(bg, bo)], Mr] [0, 1, 3, 2, 4, 5] (by kernel_rfl) (by kernel_rfl) (by kernel_rfl))
    refine wpAny_execs_cons (wpAny_If (isTrue_or (isTrue_not (wpAny_isTrue_value (Call_Name rfl (nmG T13 c14 rfl ?_ rfl rfl rfl))))))
    refine cwK (K := KK w.params) rfl (spliced_more (nm c14 e2 (spliced_more (Subscript_ (nm c14 e3 (cstr c14 fun t15 s15 c15 => b_get (s := s15) c15.imm B13 rfl (spliced_none ⟨T13.inn c15.imm, ?_⟩)) rfl rfl))) rfl rfl))
    have c16 := c15.toks (tk := s15.toks + 1)
    refine Cx.callP (M1 := [(sr, so13)]) (Mc := [(cd, o), (kd, ko)]) c16 (cright_ok (d := d + 3) R1 T13 c16.imm W13 (c16.own (mid_sub [(sr, so13)] [(cd, o), (kd, ko)] _)) hco hko hOk13.clk (by omega)) ?_
    rintro v17 I17 s17 Ms N c17 sub17 ⟨o17, rfl, rfl, hco17, rfl⟩
    refine wpAny_truthy_bool ?_
    rw [Bool.not_true, if_neg Bool.false_ne_true]
    have W17 := W13.sub sub17
    have B17 := B13.sub sub17
    have T17 := T13.sub sub17
    -- the gates
    have c18 := c17.perm (M' := [(sr, so13)] ++ ([(cd, o17), (gd, go), (kd, ko), (bg, bo)] ++ Mr)) (cat_perm [[(sr, so13)], [(cd, o17)], [(kd, ko)], [(gd, go)], [(bg, bo)], Mr] [0, 1, 3, 2, 4, 5] (by kernel_rfl) (by kernel_rfl) (by kernel_rfl))
    refine isTrue_or (isTrue_not (wpAny_isTrue_value (Call_Name rfl (nmG T17 c18 rfl ?_ rfl rfl rfl))))
    refine cwK (K := KK w.params) rfl (spliced_more (nm c18 e2 (spliced_more (nm c18 e3 (spliced_none ⟨T17.inn c18.imm, ?_⟩) rfl rfl)) rfl rfl))
    refine Cx.callP (M1 := [(sr, so13)]) (Mc := [(cd, o17), (gd, go), (kd, ko), (bg, bo)]) c18 (gright_ok (d := d + 3) R1 T17 c18.imm W17 B17 (c18.own (mid_sub [(sr, so13)] [(cd, o17), (gd, go), (kd, ko), (bg, bo)] _)) hco17 (hgo.sub sub17) (hko.sub sub17) (hbo.sub sub17) hOk13 (by omega)) ?_
    rintro v19 I19 s19 Ms N c19 sub19 ⟨o19, rfl, rfl, hco19, rfl⟩
    refine wpAny_truthy_bool ?_
    rw [Bool.not_true, if_neg Bool.false_ne_true]
    refine isTrue_or_nil ?_
    show wpAny _ _ (execs _ _) _ _ _
    refine wpAny_execs_nil ?_
    have sub1319 := sub17.trans sub19
    have W19 := W17.sub sub19
    have B19 := B17.sub sub19
    have T19 := T17.sub sub19
    -- the races
    have hR19 := hrs.sub sub1319
    have hB19 := hbv.sub sub1319
    refine wpAny_execs_cons (wpAny_If (wpAny_isTrue_Compare1 (Call_Name rfl (nmB T19 c19 rfl rfl (by decide) ?_ rfl rfl rfl rfl))))
    refine cwB (spliced_more (Attribute_name (nm c19 e2 ?_ rfl rfl)))
    refine w_races T19 c19 W19 fun s20 c20 => spliced_none ?_
    have hrl : s20.heap.IsList rl rs.toArray := ⟨_, c20.mt (rl, seqObj "list" rs.toArray n) (.tail _ (.tail _ (.tail _ (.tail _ (.tail _ hrm))))), rfl, n, rfl⟩
    refine sorted_lst koRace c20 (R1.fits (by decide)) hrl hR19 (by have := hOk13.wz; omega) fun D1 I21 s21 l1 out1 c21 sub21 hD1 hl1 hp1 hsrt1 => ?_
    have T21 := T19.sub sub21
    refine Call_Name rfl (nmB T21 c21 rfl rfl (by decide) ?_ rfl rfl rfl rfl)
    refine cwB (spliced_more (Subscript_ (nm c21 e3 (cstr c21 fun t22 s22 c22 => b_get (s := s22) c22.imm (B19.sub sub21) rfl (spliced_none ?_)) rfl rfl)))
    have c23 := c22.toks (tk := s22.toks + 1)
    have hbl : s22.heap.IsList br bv.toArray := ⟨_, c22.mt (br, seqObj "list" bv.toArray nb) (.tail _ (.tail _ (.tail _ (.tail _ (.tail _ hbm))))), rfl, nb, rfl⟩
    refine sorted_lst koRace c23 (R1.fits (by decide)) hbl (hB19.sub sub21) (by have := hOk13.bz; omega) fun D2 I24 s24 l2 out2 c24 sub24 hD2 hl2 hp2 hsrt2 => ?_
    have hll : l1 = l2 := srt_unique koRace (hp1.trans ((nodup_perm hOk13.wn hOk13.bn hOk13.wb).trans hp2.symm)) hsrt1 hsrt2
    refine ne_lists koRace (R1.fits (by decide)) c24.imm ((hD1.sub sub24).at c24.imm) (hD2.at c24.imm) (hl1.sub sub24) hl2 (wpAny_truthy_bool ?_)
    rw [decide_eq_true hll]
    show wpAny _ _ (execs _ _) _ _ _
    refine wpAny_execs_nil (wpAny_execs_nil ?_)
    have sub1924 := sub21.trans sub24
    have sub1324 := sub1319.trans sub1924
    exact hQ11 (c24.perm (M' := (sr, so13) :: (cd, o19) :: (gd, go) :: (kd, ko) :: (bg, bo) :: Mr) (List.Perm.of_eq rfl)) ((hJ _ _ _ _).mpr ⟨⟨e1, e2, e3⟩, so13, σ', _, rfl, hso13, hclose sub1324 (hco19.sub sub1924), hOk13⟩)
  · rintro I11 m11 M11 s11 _ _ c11
    refine wpAny_execs_cons (wpAny_Return_some (cbool ?_))
    exact ⟨_, c11.leave hL, rfl⟩
end
end Mine

set_option maxHeartbeats 400000
namespace Mine
theorem ints_are {I : Imm} : ∀ {vs : List Value} {ns : List Int}, IntsAre vs ns → Are kInt I ns vs
  | _, _, .nil => trivial
  | _, _, .cons n t h => ⟨⟨t, rfl⟩, ints_are h⟩
theorem room0 : Room callerA 8 := ⟨rfl, by decide, by decide⟩
theorem tp_of {K : Frag} {h : Heap} {mg mb : Nm} (X : K.In h) (hg : h.Ns mainGlobals mg) (hb : h.Ns builtinsNs mb) (hl : h.NoLimit) (hbi : ∀ x : Str, x ≠ "__name__" → mb x = bootBuiltins x) : Tp K mb h.get? := by
  refine ⟨X, ?_, ?_, ?_, hbi⟩
  · obtain ⟨o, es, ep, e, r⟩ := hb
    exact ⟨o, e, fun h' e' => ⟨o, es, ep, e', r⟩⟩
  · obtain ⟨o, es, ep, e, r⟩ := hg
    exact ⟨o, mg, e, fun h' e' => ⟨o, es, ep, e', r⟩⟩
  · obtain ⟨mc, ⟨o, es, ep, e, r⟩, q⟩ := hl
    exact ⟨o, mc, e, q, fun h' e' => ⟨o, es, ep, e', r⟩⟩
theorem law_call {prog : Program} {w : World} {s : Shared} {mg mb : Nm} {fa a : Addr} {vs : List Value} {ns : List Int} (X : (KK w.params).In s.heap) (hg : s.heap.Ns mainGlobals mg) (hb : s.heap.Ns builtinsNs mb) (hl : s.heap.NoLimit) (hbi : ∀ x : Str, x ≠ "__name__" → mb x = bootBuiltins x)
    (hf : mg "law" = some (.ref fa)) (ha : s.heap.IsList a vs.toArray) (hi : IntsAre vs ns) (hz : ns.length ≤ 63) :
    wpAny (model prog w) callerA (call (.ref fa) [.ref a]) (fun v s' => An4 (v = .bool true) (∀ b o, s.heap.get? b = some o → s'.heap.get? b = some o) (s'.os = s.os) (s'.gens = s.gens)) noE s := by
  have e : mg "law" = some (.ref 329) := mg_of X hg rfl
  rw [e] at hf
  injection hf with hf
  injection hf with hf
  subst hf
  refine wpAny_mono (law_ok (d := 0) (I := s.heap.get?) room0 (tp_of X hg hb hl hbi) (fun _ _ e => e) ?_ (ints_are hi) (by rw [IntsAre.length hi]; omega)) (fun v s' h => ?_) fun _ _ e => e
  · obtain ⟨o, e, r⟩ := ha
    exact ⟨o, e, r⟩
  · obtain ⟨I', g, rfl⟩ := h
    obtain ⟨h', tk, rfl⟩ := g.same
    exact ⟨rfl, fun b o e => g.keep b o e (fun q => nomatch q), rfl, rfl⟩
end Mine

set_option maxHeartbeats 8000000 in
theorem PySem.Challenge.cw_pf0072_01_holds : PySem.Challenge.rw_pf0072_01.Holds := by
  refine Mine.hd ?_
  w_strict (
  k_fill
  intro w _ _ _ _ gr held _ _ _ _ _ _ _ _ _ _ _ glob gens _ _ _ r1 r2 r3 r4 r5
  have frag := kIn_of held
  refine Ground.open gr fun top _ _ _ _ => ?_
  wrow_args r1 r2 r3 r4 r5
  all_goals (
    rename_i ns _ _ _ _ _ _ _ sa vs _ hL _ _ _ hI _ hc _
    refine wpAny_mono (Mine.law_call frag top.g top.b top.nolimit top.builtins glob hL hI (by omega)) (fun v s' h => ?_) (fun _ _ e => e.elim)
    obtain ⟨rfl, hk, ho', hg'⟩ := h
    refine GoodW.toG ⟨.inl ⟨.bool true, .bool true, [], rfl, ?_, .bool true, ?_, ?_⟩, hk, ho', hg'.trans gens⟩
    · intro cls
      rfl
    · wrow_post
    · exact fun _ => ⟨.nil, fun _ h => nomatch h⟩))

