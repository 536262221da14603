import PyProof.Rows.All
import Wide.All
import OpenK.AllK
import PyProof.ExcInit
import PyProof.ExcClass3
import Wide.FinOn
import Lean
import PySem.Challenge.RW_qz0063_01
set_option Elab.async false
set_option maxRecDepth 100000
set_option linter.unusedVariables false
section
open PySem PySem.W PyProof.Rows
set_option maxHeartbeats 0
namespace Mine
/-- the top's run over the tree of objects -/
noncomputable def topRunT (tb : String → Option Builtin) (p : Program) (w : World) (n₀ : Nat) (ann : Option Value) : Nat → SharedT → Thread → Option SharedT
  | 0, _, _ => none
  | n + 1, s, t => match through t with
    | true => some s
    | false => match stepOk n₀ ann t with
      | false => none
      | true => match stepT (denote tb) p w s t with
        | some (s', t') => topRunT tb p w n₀ ann n s' t'
        | none => none
theorem topRun_of {tb : String → Option Builtin} {p : Program} {w : World} {n₀ : Nat} {ann : Option Value} : ∀ {n : Nat} {s s' : SharedT} {t : Thread}, topRunT tb p w n₀ ann n s t = some s' → topRun tb p w n₀ ann n s.abs t = some s'.abs
  | 0, _, _, _, h => by cases h
  | n + 1, s, s', t, h => by
    unfold topRunT at h
    unfold topRun
    cases he : through t with
    | true => rw [he] at h; cases h; rfl
    | false =>
      rw [he] at h
      cases hk : stepOk n₀ ann t with
      | false => rw [hk] at h; cases h
      | true =>
        rw [hk] at h
        cases hs : stepT (denote tb) p w s t with
        | none => rw [hs] at h; cases h
        | some r => obtain ⟨s₂, t₂⟩ := r; rw [hs] at h; rw [stepT_spec hs]; exact topRun_of h
/-- the objects at the start, as a tree -/
noncomputable def T0 (P : Params) : BT := (((((((((((BT.nil.ins 0 (boot_o_0 P)).ins 1 (boot_o_1 P)).ins 2 (boot_o_2 P)).ins 3 (boot_o_3 P)).ins 4 (boot_o_4 P)).ins 5 (boot_o_5 P)).ins 6 (boot_o_6 P)).ins 7 (boot_o_7 P)).ins 8 (boot_o_8 P)).ins 9 (boot_o_9 P)).ins 10 (boot_o_10 P))
noncomputable abbrev S0 (P : Params) (os : OsState) : SharedT := ⟨T0 P, 11, default, Array.mk [], boot_drawn, boot_toks, os⟩
theorem T0_abs (P : Params) : absHeap (T0 P) 11 default = boot_heap P := by kernel_rfl
theorem left_of {p q : Program} {loose : List Str} {Xt : Shared → Bool} {α : Type} {Yf : Shared → α} {Ya : World → α} {N M : Nat} {g0 : Bool}
    (e : opening p = plainProg p.main.scope.names) (hN : Nat.ble 600 N = true) (f : ∀ s, fenceModules? p s = some s) (le : Nat.ble M N = true)
    (size : ∀ P : Params, ((boot_heap P).isNs mainGlobals && (#[] : Array GenState).size == 0, (boot_heap P).objs.size, (boot_heap P).nsMap mainGlobals "__annotations__") = (true, 11, some (.ref 6)))
    (h1 : ∀ (w : World) (os : OsState), (topRunT treeTable p w 11 (some (.ref 6)) M (S0 w.params os) (topStub p)).map (fun s => ((staticsOk (importedModules p.main.body) (boot_heap w.params) s.abs.heap && namesBound p s.abs.heap && gensDone s.abs && laidKept (boot_heap w.params) s.abs.heap), openSeen q loose (importedModules p.main.body) Xt g0 s.abs)) = some (true, openGood q loose))
    (h2 : ∀ (w : World) (os : OsState), (topRunT treeTable p w 11 (some (.ref 6)) M (S0 w.params os) (topStub p)).map (fun s => Yf s.abs) = some (Ya w)) : LeftO p q loose Xt Yf Ya N g0 := fun w => by
  obtain ⟨⟨h, gs, d, k, os⟩, eo, e'⟩ := Option.map_eq_some_iff.mp (boot_open e hN f w)
  obtain ⟨rfl, rfl, rfl, rfl⟩ : h = boot_heap w.params ∧ gs = Array.mk [] ∧ d = boot_drawn ∧ k = boot_toks := by simpa using e'
  obtain ⟨z1, z2, z3⟩ : _ ∧ _ ∧ _ := by simpa only [Prod.mk.injEq] using size w.params
  obtain ⟨s1, r1, l1⟩ := Option.map_eq_some_iff.mp (h1 w os)
  obtain ⟨s2, r2, l2⟩ := Option.map_eq_some_iff.mp (h2 w os)
  obtain rfl : s1 = s2 := Option.some.inj (r1.symm.trans r2)
  obtain ⟨l3, l4⟩ := Prod.mk.inj l1
  have hr := topRun_of r1
  have hs : (S0 w.params os).abs = ⟨boot_heap w.params, Array.mk [], boot_drawn, boot_toks, os⟩ := by
    show (⟨absHeap (T0 w.params) 11 default, _, _, _, _⟩ : Shared) = _
    rw [T0_abs]
  rw [hs] at hr
  have r := topRun_mono (N - M) _ _ _ _ hr
  rw [show M + (N - M) = N by have := Nat.le_of_ble_eq_true le; omega] at r
  have t : topFrom treeTable p w N ⟨boot_heap w.params, Array.mk [], boot_drawn, boot_toks, os⟩ = some s1.abs := by
    unfold topFrom
    dsimp only
    rw [z1, z2, z3, r]
    show (match staticsOk (importedModules p.main.body) (boot_heap w.params) s1.abs.heap && namesBound p s1.abs.heap && gensDone s1.abs && laidKept (boot_heap w.params) s1.abs.heap with | true => _ | false => _) = _
    rw [l3]
  unfold openEnds
  rw [eo]
  show (topFrom treeTable p w N _).map _ = _
  rw [t]
  exact congrArg some (Prod.ext l4 l2)
/-- the text without the statements that the law does not ask -/
noncomputable def look : Program := PySem.W.view PySem.Challenge.pw_qz0063_01 [0, 2, 3, 4, 5, 6, 8, 9, 11, 12, 13, 15, 16, 17, 19, 20, 21, 22, 24, 26, 27, 29, 30, 32, 33, 35, 36, 37, 38, 39, 40, 41, 42, 43]
noncomputable abbrev lose : List Str := [Str.ofString "HintWork", Str.ofString "Zone"]
theorem seen_ok : ∀ (w : World) (os : OsState), (topRunT treeTable PySem.Challenge.pw_qz0063_01 w 11 (some (.ref 6)) 6270 (S0 w.params os) (topStub PySem.Challenge.pw_qz0063_01)).map (fun s => ((staticsOk (importedModules PySem.Challenge.pw_qz0063_01.main.body) (boot_heap w.params) s.abs.heap && namesBound PySem.Challenge.pw_qz0063_01 s.abs.heap && gensDone s.abs && laidKept (boot_heap w.params) s.abs.heap),
   openSeen look lose (importedModules PySem.Challenge.pw_qz0063_01.main.body) (fun s => xlAt look [] s && recOk PySem.Challenge.rw_qz0063_01.row.toRowW.records s) true s.abs)) = some (true, openGood look lose) := by
  intro w os
  kernel_rfl
end Mine
section
theorem Mine.said : OpenLaw.wellSaid PySem.Challenge.rw_qz0063_01 = true := by kernel_rfl
theorem Mine.oh (H : Hook) {d : DefRec} {kwd : List (Str × PySem.Expr)}
    (h2 : ∀ (w : World) (os : OsState), (topRunT treeTable PySem.Challenge.pw_qz0063_01 w 11 (some (.ref 6)) 6270 (S0 w.params os) (topStub PySem.Challenge.pw_qz0063_01)).map (fun s => H.obs s.abs) = some (H.val w))
    (k1 : PySem.Challenge.rw_qz0063_01.row.wellSaid = true) (hdef : defOf look PySem.Challenge.rw_qz0063_01.row.name = some (d, kwd)) (hp : PySem.Challenge.rw_qz0063_01.row.prog.theDef PySem.Challenge.rw_qz0063_01.row.name = some (d.params, d.body, d.scope)) (hk : kwWritten? d.params.kwonlyargs d.params.kw_defaults = some kwd)
    (hw : PySem.Challenge.rw_qz0063_01.row.toRowW.promised) (call : WalkO look lose (XL look []) H.says PySem.Challenge.rw_qz0063_01.row.toRowW d kwd fun f vs => PySem.call f vs) : PySem.Challenge.rw_qz0063_01.row.Holds := by
  refine holds_open (q := Mine.look) (loose := Mine.lose) (Xt := fun s => xlAt Mine.look [] s && recOk PySem.Challenge.rw_qz0063_01.row.toRowW.records s) (XP := XL Mine.look []) (Yf := Hook.obs H) (Ya := Hook.val H) (YP := Hook.says H) (N := 6270) ?hl (Hook.of H) (Hook.keeps H) (fun s e => xl_of s (Bool.and_eq_true_iff.mp e).1) XL.keeps hdef hp hk (fun s e => recFacts_of (Bool.and_eq_true_iff.mp e).2) (by rfl) k1 (by decide +kernel) ⟨rfl, rfl, rfl, rfl, rfl, by decide +kernel⟩ hw call
  exact Mine.left_of (M := 6270) (by kernel_rfl) (by decide) (fun s => rfl) (by decide) (fun P => by kernel_rfl) Mine.seen_ok h2
local macro_rules | `(tactic| o_law) => `(tactic| refine holds_law Mine.said fun said => ?_)
local macro_rules | `(tactic| o_head $H) => `(tactic| refine Mine.oh $H (fun w os => by kernel_rfl) (by assumption) (by rfl) (by rfl) (by rfl) ?hw ?hc)
namespace Mine
open_top hd for PySem.Challenge.rw_qz0063_01
end Mine
end
end

section
open PySem PySem.W PyProof.Rows
namespace Mine
noncomputable abbrev PG : Program := PySem.Challenge.rw_qz0063_01.row.prog
theorem gen_tok {α : Type} {M : Model} {A : Around} {t : Sem α} {Q : α → Shared → Prop} {E : Value → Shared → Prop} {h : Heap} {g : Array GenState} {d : Drawn} {X Y : Nat} {os : OsState}
    (H : ∀ tk, wpAny M A t Q E ⟨h, g, d, tk, os⟩) : wpAny M A t Q E ⟨h, g, d, X + Y, os⟩ := H _
theorem st_norm {α : Type} {M : Model} {A : Around} {t : Sem α} {Q : α → Shared → Prop} {E : Value → Shared → Prop} {S S' : Shared}
    (e : S = S') (H : wpAny M A t Q E S') : wpAny M A t Q E S := e ▸ H
noncomputable abbrev ent (w : World) (name : Str) (t : Tok) (v : Value) : DictEntry := ⟨PyData.keyHash w.params name, .str name t, v⟩
/-- the six roundings by name -/
noncomputable def Row (wd : Str) (P H T : Int) : Prop :=
  (wd = Str.ofString "grid" ∧ P = 64 ∧ H = 0 ∧ T = 32) ∨ (wd = Str.ofString "half grid" ∧ P = 64 ∧ H = 32 ∧ T = 32) ∨
  (wd = Str.ofString "double grid" ∧ P = 32 ∧ H = 0 ∧ T = 16) ∨ (wd = Str.ofString "down" ∧ P = 64 ∧ H = 0 ∧ T = 0) ∨
  (wd = Str.ofString "up" ∧ P = 64 ∧ H = 0 ∧ T = 63) ∨ (wd = Str.ofString "off" ∧ P = 0 ∧ H = 0 ∧ T = 0)
theorem mem_hd {α : Type} {a b : α} {l : List α} (e : a = b) : a ∈ b :: l := e ▸ List.mem_cons_self
theorem conj8 {a b c d e f g h i : Addr} (q : a < b ∧ b < c ∧ c < d ∧ d < e ∧ e < f ∧ f < g ∧ g < h ∧ h < i) : @LT.lt Nat _ a b ∧ @LT.lt Nat _ b c ∧ @LT.lt Nat _ c d ∧ @LT.lt Nat _ d e ∧ @LT.lt Nat _ e f ∧ @LT.lt Nat _ f g ∧ @LT.lt Nat _ g h ∧ @LT.lt Nat _ h i := q
/-- an order of two addresses, hidden from the arithmetic -/
noncomputable def HL (a b : Nat) : Prop := a < b
/-- two addresses that differ, hidden from the arithmetic -/
noncomputable def HN (a b : Nat) : Prop := a ≠ b
theorem HL.mk {a b : Addr} (q : a < b) : HL a b := q
theorem HL.out {a b : Addr} (q : HL a b) : a < b := q
theorem HL.ne {a b : Nat} (q : HL a b) : a ≠ b := Nat.ne_of_lt q
theorem HL.ne' {a b : Nat} (q : HL a b) : b ≠ a := Nat.ne_of_gt q
theorem HL.ne_add {a b k : Nat} (q : HL a b) : a ≠ b + k := Nat.ne_of_lt (Nat.lt_of_lt_of_le q (Nat.le_add_right _ _))
theorem HL.ne_add' {a b k : Nat} (q : HL a b) : b + k ≠ a := Nat.ne_of_gt (Nat.lt_of_lt_of_le q (Nat.le_add_right _ _))
theorem HL.ne_add2 {a b k j : Nat} (q : HL a b) : a ≠ b + k + j := Nat.ne_of_lt (Nat.lt_of_lt_of_le q (by omega))
theorem HL.ne_add2' {a b k j : Nat} (q : HL a b) : b + k + j ≠ a := Nat.ne_of_gt (Nat.lt_of_lt_of_le q (by omega))
theorem HL.ne_add3 {a b k j i : Nat} (q : HL a b) : a ≠ b + k + j + i := Nat.ne_of_lt (Nat.lt_of_lt_of_le q (by omega))
theorem HL.ne_add3' {a b k j i : Nat} (q : HL a b) : b + k + j + i ≠ a := Nat.ne_of_gt (Nat.lt_of_lt_of_le q (by omega))
theorem HN.out {a b : Nat} (q : HN a b) : a ≠ b := q
theorem HN.out' {a b : Nat} (q : HN a b) : b ≠ a := Ne.symm q
/-- an item of a written list of addresses -/
noncomputable def nth : List Addr → Nat → Option Addr
  | [], _ => none
  | a :: _, 0 => some a
  | _ :: l, n + 1 => nth l n
theorem nth_mem : ∀ {l : List (Addr × Obj)} {i : Nat} {a : Addr}, nth (l.map (·.1)) i = some a → ∃ o, (a, o) ∈ l
  | p :: _, 0, a, e => by
    cases e
    exact ⟨p.2, .head _⟩
  | p :: l, n + 1, a, e => by
    obtain ⟨o, ho⟩ := nth_mem (l := l) e
    exact ⟨o, .tail _ ho⟩
theorem nth1 {P : Addr → Prop} {a : Addr} (ha : P a) : ∀ (i : Nat) (x : Addr), nth [a] i = some x → P x
  | 0, _, e => by cases e; exact ha
  | _ + 1, _, e => by cases e
theorem nthc {P : Addr → Prop} {a : Addr} {l : List Addr} (ha : P a) (hl : ∀ (i : Nat) (x : Addr), nth l i = some x → P x) : ∀ (i : Nat) (x : Addr), nth (a :: l) i = some x → P x
  | 0, _, e => by cases e; exact ha
  | n + 1, x, e => hl n x e
theorem nth0 {P : Addr → Prop} : ∀ (i : Nat) (x : Addr), nth [] i = some x → P x := fun _ _ e => by cases e
theorem nth2 {P : Addr → Prop} {a b : Addr} (ha : P a) (hb : P b) : ∀ (i : Nat) (x : Addr), nth [a, b] i = some x → P x := nthc ha (nth1 hb)
/-- every listed address is below d -/
noncomputable abbrev Bel (d : Addr) (as : List Addr) : Prop := ∀ (i : Nat) (a : Addr), nth as i = some a → HL a d
theorem bel_of {d : Addr} {l : List (Addr × Obj)} (h : ∀ p ∈ l, p.1 < d) : Bel d (l.map (·.1)) := fun i a e => by
  obtain ⟨o, ho⟩ := nth_mem (i := i) e
  exact h _ ho
/-- every listed address differs from d -/
noncomputable abbrev Offs (d : Addr) (as : List Addr) : Prop := ∀ (i : Nat) (a : Addr), nth as i = some a → HN a d
theorem offs_of {d : Addr} {l : List (Addr × Obj)} (h : ∀ p ∈ l, p.1 ≠ d) : Offs d (l.map (·.1)) := fun i a e => by
  obtain ⟨o, ho⟩ := nth_mem (i := i) e
  exact h _ ho
noncomputable def AllHL (d : Addr) : List (Addr × Obj) → Prop
  | [] => True
  | p :: r => HL p.1 d ∧ AllHL d r
theorem allHL {d : Addr} : ∀ {l : List (Addr × Obj)}, (∀ p ∈ l, p.1 < d) → AllHL d l
  | [], _ => trivial
  | p :: _, h => ⟨h p (.head _), allHL fun q hq => h q (.tail _ hq)⟩
theorem AllHL.out {d : Addr} : ∀ {l : List (Addr × Obj)}, AllHL d l → ∀ p ∈ l, p.1 < d
  | [], _, _, h => nomatch h
  | _ :: _, x, p, h => by
    rcases List.mem_cons.mp h with rfl | h
    · exact x.1
    · exact AllHL.out x.2 p h
theorem AllHL.ne {d : Addr} {l : List (Addr × Obj)} (x : AllHL d l) : ∀ p ∈ l, p.1 ≠ d := fun p h => Nat.ne_of_lt (x.out p h)
noncomputable def AllHN3 (I C D : Addr) : List (Addr × Obj) → Prop
  | [] => True
  | p :: r => HN p.1 I ∧ HN p.1 C ∧ HN p.1 D ∧ AllHN3 I C D r
theorem allHN3 {I C D : Addr} : ∀ {l : List (Addr × Obj)}, LCg.Off3 I C D l → AllHN3 I C D l
  | [], _ => trivial
  | _ :: _, x => ⟨x.1.1, x.1.2.1, x.1.2.2, allHN3 x.2⟩
noncomputable def AllHN (D : Addr) : List (Addr × Obj) → Prop
  | [] => True
  | p :: r => HN p.1 D ∧ AllHN D r
theorem allHN {D : Addr} : ∀ {l : List (Addr × Obj)}, LCg.Off1 D l → AllHN D l
  | [], _ => trivial
  | _ :: _, x => ⟨x.1, allHN x.2⟩
theorem offs_ofA {d : Addr} : ∀ {l : List (Addr × Obj)}, AllHN d l → Offs d (l.map (·.1)) := fun {l} h => by
  refine offs_of ?_
  induction l with
  | nil => exact fun _ h => nomatch h
  | cons p r ih =>
    intro q hq
    rcases List.mem_cons.mp hq with rfl | hq
    · exact h.1
    · exact ih h.2 q hq
theorem off3_1 {I C D : Addr} {l : List (Addr × Obj)} (h : LCg.Off3 I C D l) : Offs I (l.map (·.1)) := offs_of fun p hp => (LCg.Off3.mem h p hp).1
theorem off3_2 {I C D : Addr} {l : List (Addr × Obj)} (h : LCg.Off3 I C D l) : Offs C (l.map (·.1)) := offs_of fun p hp => (LCg.Off3.mem h p hp).2.1
theorem off3_3 {I C D : Addr} {l : List (Addr × Obj)} (h : LCg.Off3 I C D l) : Offs D (l.map (·.1)) := offs_of fun p hp => (LCg.Off3.mem h p hp).2.2
theorem off1_of {D : Addr} {l : List (Addr × Obj)} (h : LCg.Off1 D l) : Offs D (l.map (·.1)) := offs_ofA (allHN h)
theorem hn3 {I C D : Nat} (q : (@Ne Nat I C) ∧ (@Ne Nat I D) ∧ (@Ne Nat C D)) : HN I C ∧ HN I D ∧ HN C D := q
theorem conjH {a b c d e f g h i : Addr} (q : a < b ∧ b < c ∧ c < d ∧ d < e ∧ e < f ∧ f < g ∧ g < h ∧ h < i) : HL a b ∧ HL b c ∧ HL c d ∧ HL d e ∧ HL e f ∧ HL f g ∧ HL g h ∧ HL h i := q
theorem lt_both {l : List (Addr × Obj)} {d x : Addr} (r : ∀ p ∈ l, p.1 < d) (q : d < x) : ∀ p ∈ l, p.1 < x := fun p m => Nat.lt_trans (r p m) q
theorem orders9 {l : List (Addr × Obj)} {a0 a1 a2 a3 a4 a5 a6 a7 a8 : Addr} (r : ∀ p ∈ l, p.1 < a0) (q : a0 < a1 ∧ a1 < a2 ∧ a2 < a3 ∧ a3 < a4 ∧ a4 < a5 ∧ a5 < a6 ∧ a6 < a7 ∧ a7 < a8) :
    AllHL a0 l ∧ AllHL a1 l ∧ AllHL a2 l ∧ AllHL a3 l ∧ AllHL a4 l ∧ AllHL a5 l ∧ AllHL a6 l ∧ AllHL a7 l ∧ AllHL a8 l ∧ HL a0 a1 ∧ HL a0 a2 ∧ HL a0 a3 ∧ HL a0 a4 ∧ HL a0 a5 ∧ HL a0 a6 ∧ HL a0 a7 ∧ HL a0 a8 ∧ HL a1 a2 ∧ HL a1 a3 ∧ HL a1 a4 ∧ HL a1 a5 ∧ HL a1 a6 ∧ HL a1 a7 ∧ HL a1 a8 ∧ HL a2 a3 ∧ HL a2 a4 ∧ HL a2 a5 ∧ HL a2 a6 ∧ HL a2 a7 ∧ HL a2 a8 ∧ HL a3 a4 ∧ HL a3 a5 ∧ HL a3 a6 ∧ HL a3 a7 ∧ HL a3 a8 ∧ HL a4 a5 ∧ HL a4 a6 ∧ HL a4 a7 ∧ HL a4 a8 ∧ HL a5 a6 ∧ HL a5 a7 ∧ HL a5 a8 ∧ HL a6 a7 ∧ HL a6 a8 ∧ HL a7 a8 := by
  obtain ⟨h0, h1, h2, h3, h4, h5, h6, h7⟩ := q
  have t : ∀ {a b c : Nat}, a < b → b < c → a < c := fun x y => Nat.lt_trans x y
  have p01 : a0 < a1 := h0
  have p12 : a1 < a2 := h1
  have p23 : a2 < a3 := h2
  have p34 : a3 < a4 := h3
  have p45 : a4 < a5 := h4
  have p56 : a5 < a6 := h5
  have p67 : a6 < a7 := h6
  have p78 : a7 < a8 := h7
  have p02 : a0 < a2 := t p01 p12
  have p13 : a1 < a3 := t p12 p23
  have p24 : a2 < a4 := t p23 p34
  have p35 : a3 < a5 := t p34 p45
  have p46 : a4 < a6 := t p45 p56
  have p57 : a5 < a7 := t p56 p67
  have p68 : a6 < a8 := t p67 p78
  have p03 : a0 < a3 := t p02 p23
  have p14 : a1 < a4 := t p13 p34
  have p25 : a2 < a5 := t p24 p45
  have p36 : a3 < a6 := t p35 p56
  have p47 : a4 < a7 := t p46 p67
  have p58 : a5 < a8 := t p57 p78
  have p04 : a0 < a4 := t p03 p34
  have p15 : a1 < a5 := t p14 p45
  have p26 : a2 < a6 := t p25 p56
  have p37 : a3 < a7 := t p36 p67
  have p48 : a4 < a8 := t p47 p78
  have p05 : a0 < a5 := t p04 p45
  have p16 : a1 < a6 := t p15 p56
  have p27 : a2 < a7 := t p26 p67
  have p38 : a3 < a8 := t p37 p78
  have p06 : a0 < a6 := t p05 p56
  have p17 : a1 < a7 := t p16 p67
  have p28 : a2 < a8 := t p27 p78
  have p07 : a0 < a7 := t p06 p67
  have p18 : a1 < a8 := t p17 p78
  have p08 : a0 < a8 := t p07 p78
  refine ⟨allHL r, allHL fun p m => t (r p m) p01, allHL fun p m => t (r p m) p02, allHL fun p m => t (r p m) p03, allHL fun p m => t (r p m) p04, allHL fun p m => t (r p m) p05, allHL fun p m => t (r p m) p06, allHL fun p m => t (r p m) p07, allHL fun p m => t (r p m) p08, p01, p02, p03, p04, p05, p06, p07, p08, p12, p13, p14, p15, p16, p17, p18, p23, p24, p25, p26, p27, p28, p34, p35, p36, p37, p38, p45, p46, p47, p48, p56, p57, p58, p67, p68, p78⟩
theorem mem_keep {α : Type} {p : α} {l l' : List α} (h : p ∈ l → p ∈ l') : p ∈ l → p ∈ l' := h
end Mine
end

section
open PySem PySem.W PyProof.Rows
namespace Mine
section
variable {α : Type} {M : Model} {A : Around} {t : Sem α} {Q : α → Shared → Prop} {E : Value → Shared → Prop} {s : Shared} {h₀ : Heap} {L : Addr} {m : Str → Option Value} {news : List (Addr × Obj)} {e : Env} {body : List Stmt} {Qf : Flow → Shared → Prop}
theorem wp_letq (h : let qk := Q; wpAny M A t qk E s) : wpAny M A t Q E s := h
theorem wp_letqe (h : let qk := Q; let ek := E; wpAny M A t qk ek s) : wpAny M A t Q E s := h
theorem wp_letS {h : Heap} {g : Array GenState} {d : Drawn} {tk : Nat} {os : OsState} (H : let sk : Shared := ⟨h, g, d, tk, os⟩; wpAny M A t Q E sk) : wpAny M A t Q E ⟨h, g, d, tk, os⟩ := H
/-- at a function's entry -/
theorem wp_enter (h : let ev := e; let Aw := A.deeper ev; let qk := Qf; let ek := E; wpAny M Aw (execs body ev) qk ek s) : wpAny M (A.deeper e) (execs body e) Qf E s := h
/-- at the head of a rest of a frame -/
theorem wp_top (h : let ev := e; let Aw := A; wpAny M Aw (execs body ev) Qf E s) : wpAny M A (execs body e) Qf E s := h
/-- at a statement: the frame's map, the ledger and what comes after get names -/
theorem wp_stmt (F : Fr h₀ L s.heap m) (N : News h₀ L s.heap news)
    (h : let mk := m; let nk := news; let qk := Q; Fr h₀ L s.heap mk → News h₀ L s.heap nk → wpAny M A t qk E s) : wpAny M A t Q E s := h F N
/-- the n-th entry -/
noncomputable def at? {α : Type} : List α → Nat → Option α
  | [], _ => none
  | a :: _, 0 => some a
  | _ :: l, n + 1 => at? l n
theorem mem_at {α : Type} : ∀ {l : List α} {x : α} (n : Nat), at? l n = some x → x ∈ l
  | [], _, _, e => by cases e
  | a :: l, x, 0, e => by cases e; exact List.mem_cons_self
  | a :: l, x, n + 1, e => List.mem_cons_of_mem _ (mem_at (l := l) n e)
/-- the n-th entry's address -/
noncomputable def nthA : List (Addr × Obj) → Nat → Option Addr
  | [], _ => none
  | (a, _) :: _, 0 => some a
  | _ :: l, n + 1 => nthA l n
theorem nthA_mem : ∀ {l : List (Addr × Obj)} {i : Nat} {a : Addr}, nthA l i = some a → ∃ o, (a, o) ∈ l
  | p :: _, 0, a, e => by
    cases e
    exact ⟨p.2, .head _⟩
  | p :: l, n + 1, a, e => by
    obtain ⟨o, ho⟩ := nthA_mem (l := l) e
    exact ⟨o, .tail _ ho⟩
theorem ixA {l : List (Addr × Obj)} {a : Addr} (n : Nat) (e : nthA l n = some a) : nthA l n = some a := e
theorem lt_ne {l : List (Addr × Obj)} {d a : Addr} {i : Nat} (h : ∀ p ∈ l, p.1 < d) (e : nthA l i = some a) : @Ne Nat a d := by
  obtain ⟨o, ho⟩ := nthA_mem e
  exact Nat.ne_of_lt (h _ ho)
theorem lt_ne' {l : List (Addr × Obj)} {d a : Addr} {i : Nat} (h : ∀ p ∈ l, p.1 < d) (e : nthA l i = some a) : @Ne Nat d a := (lt_ne h e).symm
theorem off_ne {l : List (Addr × Obj)} {d a : Addr} {i : Nat} (h : ∀ p ∈ l, p.1 ≠ d) (e : nthA l i = some a) : @Ne Nat a d := by
  obtain ⟨o, ho⟩ := nthA_mem e
  exact h _ ho
theorem off_ne' {l : List (Addr × Obj)} {d a : Addr} {i : Nat} (h : ∀ p ∈ l, p.1 ≠ d) (e : nthA l i = some a) : @Ne Nat d a := (off_ne h e).symm
theorem rawA {d : Addr} {l : List (Addr × Obj)} (h : AllHN d l) : ∀ p ∈ l, p.1 ≠ d := by
  induction l with
  | nil => exact fun _ h => nomatch h
  | cons p r ih =>
    intro q hq
    rcases List.mem_cons.mp hq with rfl | hq
    · exact h.1
    · exact ih h.2 q hq
theorem raw1 {d : Addr} {l : List (Addr × Obj)} (h : LCg.Off1 d l) : ∀ p ∈ l, p.1 ≠ d := rawA (allHN h)
theorem rawL {d : Addr} {l : List (Addr × Obj)} (h : AllHL d l) : ∀ p ∈ l, p.1 < d := AllHL.out h
theorem raw3_1 {I C D : Addr} {l : List (Addr × Obj)} (h : LCg.Off3 I C D l) : ∀ p ∈ l, p.1 ≠ I := fun p hp => (LCg.Off3.mem h p hp).1
theorem raw3_2 {I C D : Addr} {l : List (Addr × Obj)} (h : LCg.Off3 I C D l) : ∀ p ∈ l, p.1 ≠ C := fun p hp => (LCg.Off3.mem h p hp).2.1
theorem raw3_3 {I C D : Addr} {l : List (Addr × Obj)} (h : LCg.Off3 I C D l) : ∀ p ∈ l, p.1 ≠ D := fun p hp => (LCg.Off3.mem h p hp).2.2
theorem all_ne {d : Addr} {l : List (Addr × Obj)} (h : ∀ p ∈ l, p.1 < d) : ∀ p ∈ l, p.1 ≠ d := fun p hp => Nat.ne_of_lt (h p hp)
theorem HN.mk {a b : Nat} (h : a ≠ b) : HN a b := h
theorem fa_cons {α : Type} {P : α → Prop} {a : α} {l : List α} (h : P a) (t : ∀ x ∈ l, P x) : ∀ x ∈ a :: l, P x := List.forall_mem_cons.mpr ⟨h, t⟩
theorem lt_add1 {l : List (Addr × Obj)} {d a : Nat} {i : Nat} {k : Nat} (h : ∀ p ∈ l, p.1 < d) (e : nthA l i = some a) : @Ne Nat a (d + k) := by
  obtain ⟨o, ho⟩ := nthA_mem e
  have q : @LT.lt Nat _ a d := h _ ho
  have z : @Ne Nat a (d + k) := Nat.ne_of_lt (Nat.lt_of_lt_of_le q (by exact Nat.le_add_right _ _))
  exact z
theorem lt_add1' {l : List (Addr × Obj)} {d a : Nat} {i : Nat} {k : Nat} (h : ∀ p ∈ l, p.1 < d) (e : nthA l i = some a) : @Ne Nat (d + k) a := (lt_add1 h e).symm
theorem lt_add2 {l : List (Addr × Obj)} {d a : Nat} {i : Nat} {k j : Nat} (h : ∀ p ∈ l, p.1 < d) (e : nthA l i = some a) : @Ne Nat a (d + k + j) := by
  obtain ⟨o, ho⟩ := nthA_mem e
  have q : @LT.lt Nat _ a d := h _ ho
  have z : @Ne Nat a (d + k + j) := Nat.ne_of_lt (Nat.lt_of_lt_of_le q (by omega))
  exact z
theorem lt_add2' {l : List (Addr × Obj)} {d a : Nat} {i : Nat} {k j : Nat} (h : ∀ p ∈ l, p.1 < d) (e : nthA l i = some a) : @Ne Nat (d + k + j) a := (lt_add2 h e).symm
theorem lt_add3 {l : List (Addr × Obj)} {d a : Nat} {i : Nat} {k j i2 : Nat} (h : ∀ p ∈ l, p.1 < d) (e : nthA l i = some a) : @Ne Nat a (d + k + j + i2) := by
  obtain ⟨o, ho⟩ := nthA_mem e
  have q : @LT.lt Nat _ a d := h _ ho
  have z : @Ne Nat a (d + k + j + i2) := Nat.ne_of_lt (Nat.lt_of_lt_of_le q (by omega))
  exact z
theorem lt_add3' {l : List (Addr × Obj)} {d a : Nat} {i : Nat} {k j i2 : Nat} (h : ∀ p ∈ l, p.1 < d) (e : nthA l i = some a) : @Ne Nat (d + k + j + i2) a := (lt_add3 h e).symm
theorem rawG {d : Addr} {l : List (Addr × Obj)} (h : GnNe d l) : ∀ p ∈ l, p.1 ≠ d := by
  induction l with
  | nil => exact fun _ h => nomatch h
  | cons p r ih =>
    intro q hq
    rcases List.mem_cons.mp hq with rfl | hq
    · exact h.1
    · exact ih h.2 q hq
theorem gn_ne {l : List (Addr × Obj)} {d a : Addr} {i : Nat} (h : GnNe d l) (e : nthA l i = some a) : @Ne Nat a d := off_ne (rawG h) e
theorem gn_ne' {l : List (Addr × Obj)} {d a : Addr} {i : Nat} (h : GnNe d l) (e : nthA l i = some a) : @Ne Nat d a := (gn_ne h e).symm
theorem ix {l : List (Addr × Obj)} {a : Addr} (n : Nat) (e : nthA l n = some a) : nthA l n = some a := e
theorem fst_ne {a d : Addr} {o : Obj} (h : @Ne Nat a d) : @Ne Nat ((a, o) : Addr × Obj).1 d := h
theorem ne_fst {a d : Addr} {o : Obj} (h : @Ne Nat d a) : @Ne Nat d ((a, o) : Addr × Obj).1 := h
theorem fa_ne {a d : Addr} {o : Obj} {l : List (Addr × Obj)} (h : @Ne Nat a d) (t : ∀ p ∈ l, p.1 ≠ d) : ∀ p ∈ (a, o) :: l, p.1 ≠ d := List.forall_mem_cons.mpr ⟨h, t⟩
theorem upd_tl {d a : Addr} {o o' x : Obj} {r r' : List (Addr × Obj)} (h : @Ne Nat a d) (t : Upd d o o' r r') : Upd d o o' ((a, x) :: r) ((a, x) :: r') := .tail h t
theorem updF_tl {d a : Addr} {o x : Obj} {r : List (Addr × Obj)} {g : Obj → List (Addr × Obj)} (h : @Ne Nat a d) (t : UpdF d o r g) : UpdF d o ((a, x) :: r) (fun o' => (a, x) :: g o') := .tail h t
noncomputable abbrev endo (G : Prop) : Prop := G → G
theorem fi0 {a : Addr} {o : Obj} {l : List (Addr × Obj)} : nthA ((a, o) :: l) 0 = some a := rfl
theorem fis {a : Addr} {p : Addr × Obj} {l : List (Addr × Obj)} {i : Nat} (h : nthA l i = some a) : nthA (p :: l) (Nat.succ i) = some a := h
theorem fm0 {α : Type} {a : α} {l : List α} : at? (a :: l) 0 = some a := rfl
theorem fms {α : Type} {a p : α} {l : List α} {i : Nat} (h : at? l i = some a) : at? (p :: l) (Nat.succ i) = some a := h
theorem imx {α : Type} {l : List α} {x : α} {n : Nat} (e : at? l n = some x) : x ∈ l := mem_at n e
theorem im {α : Type} {l : List α} {x : α} (n : Nat) (e : at? l n = some x) : x ∈ l := mem_at n e
theorem room_of {a b : Nat} (h : Nat.ble (a + 1) b = true) : a < b := Nat.le_of_ble_eq_true h
theorem news_tl {h h' : Heap} {L : Addr} {p : Addr × Obj} {l : List (Addr × Obj)} (N : News h L h' (p :: l)) : News h L h' l := fun q hq => N q (List.mem_cons_of_mem _ hq)
theorem news_sd {h h' : Heap} {L : Addr} {p r : Addr × Obj} {l : List (Addr × Obj)} (N : News h L h' (p :: r :: l)) : News h L h' (p :: l) := fun q hq => N q (by
  rcases List.mem_cons.mp hq with e | hq
  · exact List.mem_cons.mpr (.inl e)
  · exact List.mem_cons_of_mem _ (List.mem_cons_of_mem _ hq))
theorem news_kd {h h' : Heap} {L : Addr} {p r s : Addr × Obj} {l : List (Addr × Obj)} (N : News h L h' (p :: r :: s :: l)) : News h L h' (p :: l) := news_sd (news_sd N)
end
end Mine
end

section
open PySem PySem.W PyProof.Rows
namespace Mine
open PySem.Calls PySem.Spec
theorem at_room {α : Type} {M : Model} {A : Around} {t : Sem α} {Q : α → Shared → Prop} {E : Value → Shared → Prop} {s : Shared} {dp un : Nat} {cn : Str} {cs : Scope} {L a : Addr} {ccd : Value} {cl : List (Str × Addr)} {outer : List Env}
    (h1 : A.handled = none) (h2 : A.depth ≤ dp) (h3 : A.frames = some (envX cn cs L a ccd cl :: outer)) (h5 : A.units ≤ un) (H : wpAny M (ktrTop dp un A.guards cn cs L a ccd cl outer) t Q E s) : wpAny M A t Q E s :=
  fun Γ q hΓ => H Γ q ⟨hΓ.1.trans h1, Nat.le_trans hΓ.2.1 h2, fun l hl => hΓ.2.2.1 l (h3.trans hl), hΓ.2.2.2.1, Nat.le_trans hΓ.2.2.2.2 h5⟩
/-- all that stood at h and is none of l stands at h' -/
noncomputable def Kept (l : List (Addr × Obj)) (h h' : Heap) : Prop := ∀ b o, h.get? b = some o → b ∉ l.map (·.1) → h'.get? b = some o
section
variable {prog : Program} {w : World} {A₀ A : Around} {s : Shared} {base h₀ : Heap} {outer : List Env} {L : Addr} {m : Str → Option Value} {env : Env} {news : List (Addr × Obj)} {K : Frag}
  {p : Program} {loose : List Str} {mean : ExcName → Option Value} {mg mb : Str → Option Value}
  {R : Result → Shared → Prop} {name qual : Str} {params : Arguments} {body : List Stmt} {scope : Scope} {dV kV doc pm cdv ct oc : Value} {an od : Option Addr} {osl : Array (Option Value)} {f : Addr} {args : Args} {binds : List (Str × Value)}
theorem leave_kept {v : Value} {s' : Shared} (lv : LeaveK h₀ L m (hideAll s.heap (news.map (·.1))) (fun r s'' => Kept news s.heap s''.heap → R r s'') v s' → Kept news s.heap s'.heap → R (.ok (.ret v)) s')
    (hl : LeaveK h₀ L m (hideAll s.heap (news.map (·.1))) (fun r s'' => Kept news s.heap s''.heap → R r s'') v s') : R (.ok (.ret v)) s' := by
  obtain ⟨L', m', news', F', N', k⟩ := id hl
  exact lv hl fun b o e nb => F'.keep b o (hideAll_get _ e nb)
theorem enter2 (B : Below A₀ base outer h₀) (F : Fr h₀ L s.heap m) (X₀ : K.In h₀) (N : News h₀ L s.heap news) (T : Top p loose mean mg mb h₀) (hA : A.frames = some (env :: outer)) (hf : env.frame = some L) (hke : env.scope.kind = .function)
    (ho : K.lookup f = some ⟨oc, od, .func (fnOf name qual params body scope dV kV doc pm an cdv ct), osl⟩) (hcd : codeIn K cdv qual = true) (hroom : A.depth < recursionLimit)
    (hbind : BindsTo s (fnOf name qual params body scope dV kV doc pm an cdv ct) args binds) (hloc : ∀ y ∈ binds, scope.names.lookup y.1 = some .local)
    (h : ∀ g L' h₁, Fr h₀ L g m → Fr g L' h₁ (fun y => binds.reverse.lookup y) → News g L' h₁ news → Below A base (env :: outer) g → K.In g → Top p loose mean mg mb g → (∀ q ∈ news, q.1 < L') → s.heap.objs.size ≤ L' →
      wpAny (model prog w) (A.deeper (envOf qual scope L' f cdv)) (execs body (envOf qual scope L' f cdv))
        (fun fl s' => LeaveK h₀ L m g (fun r s'' => Kept news s.heap s''.heap → R r s'') (match fl with | .ret v => v | _ => .none) s')
        (fun e s' => wpAny (model prog w) (A.deeper (envOf qual scope L' f cdv)) (leaving (envOf qual scope L' f cdv) e) (fun _ s'' => R (.error e) s'') (fun e' s'' => R (.error e') s'') s')
        { s with heap := h₁, toks := s.toks + binds.length })
    (hco : scope.isCoroutine = false) (hgen : scope.isGenerator = false) (hk : scope.kind = .function)
    (hcell : ∀ x ∈ scope.names, x.2 ≠ .cell) : codeAny (model prog w) A (.call (.ref f) args) R s := by
  obtain ⟨FG, BG, st, lv⟩ := groundX (R := fun r s'' => Kept news s.heap s''.heap → R r s'') B F N hA hf hke
  have X := X₀.keeps F.keep
  refine codeAny_call_def (fd := fnX name qual params body scope [] dV kV doc pm an cdv ct) (body := body) (binds := binds) hroom (X _ _ ho) rfl ((T.nolimit).keeps F.keep) (codeRec_of X hcd) rfl hbind hcell hloc (fun h₁ hns hk₁ => ?_) hco hgen hk
  exact wpAny_mono (h _ s.heap.objs.size h₁ FG ⟨hns, fun b o e => hk₁ b o (of_hideAll _ e), Nat.le_of_eq (hideAll_size _ _)⟩
    (fun q hq => ⟨hk₁ _ _ (N q hq).1, Nat.ne_of_lt (Heap.lt_size (N q hq).1), hideAll_none _ (List.mem_map_of_mem hq)⟩) BG (X₀.keeps st) (T.keeps st) (fun q hq => Heap.lt_size (N q hq).1) (Nat.le_refl _)) (fun fl s' hl => leave_kept (lv _ _) hl) fun _ _ y => y
theorem enter2C (B : Below A₀ base outer h₀) (F : Fr h₀ L s.heap m) (X₀ : K.In h₀) (N : News h₀ L s.heap news) (T : Top p loose mean mg mb h₀) (hA : A.frames = some (env :: outer)) (hf : env.frame = some L) (hke : env.scope.kind = .function)
    (ho : K.lookup f = some ⟨oc, od, .func (fnOf name qual params body scope dV kV doc pm an cdv ct), osl⟩) (hcd : codeIn K cdv qual = true) (hroom : A.depth < recursionLimit)
    (hbind : BindsTo s (fnOf name qual params body scope dV kV doc pm an cdv ct) args binds) (hkind : (binds.all fun y => scope.names.lookup y.1 == some .local || scope.names.lookup y.1 == some .cell) = true)
    (hnd : ((cellsFrom 0 scope.names []).map (·.1)).Nodup)
    (h : ∀ g L' h₁ tk cells, Fr h₀ L g m → Fr g L' h₁ (bindL (envOfC qual scope L' f cdv).kindOf binds fun _ => none) → News g L' h₁ (cells ++ news) →
      CellsAre (bindC (envOfC qual scope L' f cdv).kindOf binds fun _ => none) (cellsFrom (L' + 1) scope.names []) cells → Below A base (env :: outer) g → K.In g → Top p loose mean mg mb g → (∀ q ∈ news, q.1 < L') → s.heap.objs.size ≤ L' →
      wpAny (model prog w) (A.deeper (envOfC qual scope L' f cdv)) (execs body (envOfC qual scope L' f cdv))
        (fun fl s' => LeaveK h₀ L m g (fun r s'' => Kept news s.heap s''.heap → R r s'') (match fl with | .ret v => v | _ => .none) s')
        (fun e s' => wpAny (model prog w) (A.deeper (envOfC qual scope L' f cdv)) (leaving (envOfC qual scope L' f cdv) e) (fun _ s'' => R (.error e) s'') (fun e' s'' => R (.error e') s'') s')
        { s with heap := h₁, toks := tk })
    (hco : scope.isCoroutine = false) (hgen : scope.isGenerator = false) (hk : scope.kind = .function) : codeAny (model prog w) A (.call (.ref f) args) R s := by
  obtain ⟨FG, BG, st, lv⟩ := groundX (R := fun r s'' => Kept news s.heap s''.heap → R r s'') B F N hA hf hke
  have X := X₀.keeps F.keep
  refine codeAny_call_function hroom (X _ _ ho) rfl hco hgen rfl (codeRec_of X hcd) (hbind _ _ _ _ ?_)
  refine wpAny_newFunctionEnv_cells hk (kindsX hkind _) fun env' he s' x => ?_
  subst he
  refine ⟨((T.nolimit).keeps F.keep).keeps x.toInCall.keep, codeAny_func ?_⟩
  obtain ⟨h₁, tk, rfl, _⟩ := x.done
  have hk₁ := x.toInCall.keep
  obtain ⟨cells, NC, Y⟩ := Cl.news (h₀ := s.heap) (Nat.le_refl _) fun n c hm => ⟨x.cell n c (lookup_of_mem_nodup (cellsFrom_names scope.names 0 (s.heap.objs.size + 1) [] [] rfl ▸ hnd) hm), x.above n c hm⟩
  refine wpAny_mono (h _ s.heap.objs.size h₁ tk cells FG ⟨x.toInCall.ns, fun b o e => hk₁ b o (of_hideAll _ e), Nat.le_of_eq (hideAll_size _ _)⟩ (fun q hq => ?_) Y BG (X₀.keeps st) (T.keeps st) (fun q hq => Heap.lt_size (N q hq).1) (Nat.le_refl _)) (fun fl s' hl => leave_kept (lv _ _) hl) fun _ _ y => y
  rcases List.mem_append.mp hq with hq | hq
  · refine ⟨(NC q hq).1, (NC q hq).2.1, ?_⟩
    cases e : (hideAll s.heap (news.map (·.1))).get? q.1 with
    | none => rfl
    | some o => have := of_hideAll _ e; rw [(NC q hq).2.2] at this; cases this
  · exact ⟨hk₁ _ _ (N q hq).1, Nat.ne_of_lt (Heap.lt_size (N q hq).1), hideAll_none _ (List.mem_map_of_mem hq)⟩
theorem list_top {E : Value → Shared → Prop} {b : Addr} {its : Array Value} {n : Nat} {dd : Option Addr} {sl : Array (Option Value)} {Q : Value → Shared → Prop} (F : Fr h₀ L s.heap m) (N : News h₀ L s.heap news) (X : K.In h₀) (e : K.lookup b = some ⟨.type "tuple", dd, .seq its n, sl⟩)
    (h : ∀ D c h', Fr h₀ L h' m → News h₀ L h' ((D, listOf its c) :: news) → (∀ q ∈ news, q.1 < D) → Q (.ref D) { s with heap := h' }) (hz : its.size ≤ sizeLine) : wpAny (model prog w) A (call (.type "list") [.ref b]) Q E s :=
  list_copyKT F N ⟨_, (X.keeps F.keep) _ _ e, rfl, _, rfl⟩ h hz
theorem news_back {h h' : Heap} {small : List (Addr × Obj)} (N : News h₀ L h news) (k : Kept small h h') (hs : ∀ q ∈ small, (∀ x ∈ news, x.1 ≠ q.1) ∨ (h.get? q.1 = some q.2 ∧ h'.get? q.1 = some q.2)) : News h₀ L h' news := by
  intro x hx
  refine ⟨?_, (N x hx).2⟩
  by_cases hm : x.1 ∈ small.map (·.1)
  · obtain ⟨q, hq, e⟩ := List.mem_map.mp hm
    rcases hs q hq with c | ⟨c1, c2⟩
    · exact absurd e.symm (c x hx)
    · rw [← e, c2, ← c1, e]
      exact (N x hx).1
  · exact k _ _ (N x hx).1 hm
end
end Mine
end

section
open PySem PySem.W PyProof.Rows
namespace Mine
theorem news_upd3 {h₀ h h' : Heap} {L d : Addr} {news news' : List (Addr × Obj)} {o o' : Obj} (N : News h₀ L h news) (U : Upd d o o' news news') (k : Kept [(d, o)] h h') (e : h'.get? d = some o') : News h₀ L h' news' := by
  obtain ⟨pre, post, rfl, rfl, a, b⟩ := U.split
  have z := N (d, o) (List.mem_append.mpr (.inr (.head _)))
  have nd : ∀ p : Addr × Obj, p.1 ≠ d → p.1 ∉ [(d, o)].map (·.1) := fun p hp hm => by
    rcases List.mem_cons.mp hm with q | q
    · exact hp q
    · cases q
  intro p hp
  rcases List.mem_append.mp hp with hp | hp
  · have y := N p (List.mem_append.mpr (.inl hp))
    exact ⟨k _ _ y.1 (nd p (a p hp)), y.2⟩
  · rcases List.mem_cons.mp hp with rfl | hp
    · exact ⟨e, z.2⟩
    · have y := N p (List.mem_append.mpr (.inr (.tail _ hp)))
      exact ⟨k _ _ y.1 (nd p (b p hp)), y.2⟩
theorem kept3 {h h' : Heap} {a b c : Addr} {oa ob oc : Obj} (k : Kept [(a, oa), (b, ob), (c, oc)] h h') (e1 : h.get? a = some oa) (e1' : h'.get? a = some oa) (e2 : h.get? b = some ob) (e2' : h'.get? b = some ob) : Kept [(c, oc)] h h' := by
  intro x o e nx
  by_cases ha : x = a
  · subst ha; rw [e1'] ; rw [e1] at e; exact e
  · by_cases hb : x = b
    · subst hb; rw [e2']; rw [e2] at e; exact e
    · refine k x o e fun hm => ?_
      rcases List.mem_cons.mp hm with q | hm
      · exact ha q
      · rcases List.mem_cons.mp hm with q | hm
        · exact hb q
        · exact nx hm
section
variable {prog : Program} {w : World} {A : Around} {E : Value → Shared → Prop} {s : Shared} {h₀ : Heap} {L D : Addr} {m : Str → Option Value} {news news' : List (Addr × Obj)}
theorem len_L {l : Addr} {us : List Value} {Q : Value → Shared → Prop} (hl : s.heap.IsList l us.toArray) (hz : us.length ≤ 16384) (h : Q (.int (us.length : Int) (s.toks + 1)) { s with toks := s.toks + 1 + 1 }) :
    wpAny (model prog w) A (call (.builtin "len") [.ref l]) Q E s := kun_lenL hl (by rw [List.size_toArray]) (by omega) h
theorem append_L {us : List Value} {n : Nat} {x : Value} {Q : Value → Shared → Prop} (F : Fr h₀ L s.heap m) (N : News h₀ L s.heap news) (U : Upd D (listOf us.toArray n) (listOf (us ++ [x]).toArray (n + 1)) news news')
    (h : ∀ h', Fr h₀ L h' m → News h₀ L h' news' → Q .none { s with heap := h' }) (hsz : us.length ≤ 16384) : wpAny (model prog w) A (call (.builtin "list.append") [.ref D, x]) Q E s :=
  append_K F N (by rw [List.push_toArray]; exact U) h (by rw [List.size_toArray, sizeLine_eq]; omega)
end
/-- a written list, what stands ahead of its last int, and that int -/
inductive Ends : List Value → List Value → Int → Prop
  | one {v : Int} {t : Nat} : Ends [Value.int v t] [] v
  | cons {a : Value} {us ws : List Value} {v : Int} : Ends us ws v → Ends (a :: us) (a :: ws) v
theorem Ends.pos {us ws : List Value} {v : Int} (h : Ends us ws v) : 0 < us.length := by
  cases h <;> exact Nat.succ_pos _
theorem Ends.drop {us ws : List Value} {v : Int} (h : Ends us ws v) : us.dropLast = ws := by
  induction h with
  | one => rfl
  | cons h ih =>
    rename_i a us ws v
    cases h with
    | one => rfl
    | cons h' => rw [List.dropLast_cons_cons]; exact congrArg _ ih
theorem Ends.last {us ws : List Value} {v : Int} (h : Ends us ws v) : ∀ {l : List Int}, IntsAre us l → l.getLastD 0 = v := by
  induction h with
  | one => intro l hi; cases hi with | cons k t r => cases r; rfl
  | cons h ih =>
    intro l hi
    cases hi with
    | cons k t r =>
      have := ih r
      rename_i ks
      cases ks with
      | nil => have e := r.length; have p := h.pos; rw [e] at p; exact absurd p (Nat.lt_irrefl 0)
      | cons y ys => exact this
theorem fm_b (x : Int) {k : Int} (hk : 0 < k) : 0 ≤ Int.fmod x k ∧ Int.fmod x k < k := ⟨Int.fmod_nonneg_of_pos x hk, Int.fmod_lt_of_pos x hk⟩
section
variable {prog : Program} {w : World} {A : Around} {E : Value → Shared → Prop} {s : Shared}
theorem mul_fm {x b : Int} {t u : Nat} {Q : Value → Shared → Prop} (h : Q (.int (Int.fmod x 2147483647 * b) s.toks) { s with toks := s.toks + 1 }) : wpAny (model prog w) A (binaryOp .Mult (.int (Int.fmod x 2147483647) t) (.int b u)) Q E s :=
  PyProof.Rows.mul_int h (IntMulOk.of_left (intBits_le_64 (by have := fm_b x (k := 2147483647) (by decide); omega) (by have := fm_b x (k := 2147483647) (by decide); omega)))
end
section
variable {prog : Program} {w : World} {A : Around} {E : Value → Shared → Prop} {s : Shared}
theorem item_any {value slice : PySem.Expr} {l : Addr} {vs : List Value} {k : Int} {u : Tok} {Q : Value → Shared → Prop} (hl : s.heap.IsList l vs.toArray) (h0 : 0 ≤ k) (hhi : k < (vs.length : Int)) (hz : vs.length ≤ 64) (h : ∀ v ∈ vs, Q v s)
    (hs : subscripted slice false (.ref l) (.int k u) = operate [.ref l, .int k u] (getItem (.ref l) (.int k u)) := by with_unfolding_all rfl) :
    wpAny (model prog w) A (subscriptTail value slice (.ref l) (.int k u)) Q E s := by
  have hk : k.toNat < vs.length := by omega
  exact item_litK hl h0 (by omega) (List.getElem?_eq_getElem hk) (h _ (List.getElem_mem hk)) hs
end
theorem kept2 {h h' : Heap} {a b : Addr} {oa ob : Obj} (k : Kept [(a, oa), (b, ob)] h h') (e1 : h.get? b = some ob) (e1' : h'.get? b = some ob) : Kept [(a, oa)] h h' := by
  intro x o e nx
  by_cases hb : x = b
  · subst hb; rw [e1']; rw [e1] at e; exact e
  · refine k x o e fun hm => ?_
    rcases List.mem_cons.mp hm with q | hm
    · exact nx (by rw [q]; exact List.mem_cons_self)
    · rcases List.mem_cons.mp hm with q | hm
      · exact hb q
      · cases hm
theorem news_same {h₀ h h' : Heap} {L : Addr} {news small : List (Addr × Obj)} (N : News h₀ L h news) (hs : ∀ p ∈ small, p ∈ news) (kN : News h₀ L h' small) (k : Kept small h h') : News h₀ L h' news :=
  news_back N k fun q hq => .inr ⟨(N q (hs q hq)).1, (kN q hq).1⟩
/-- a ledger whose named objects have changed -/
noncomputable def Chg (ch : List (Addr × Obj)) (news news' : List (Addr × Obj)) : Prop :=
  ∀ p ∈ news', (p ∈ ch ∧ ∃ q ∈ news, q.1 = p.1) ∨ (p ∈ news ∧ ∀ c ∈ ch, p.1 ≠ c.1)
theorem Chg.one {a : Addr} {o o' : Obj} {news news' : List (Addr × Obj)} (U : Upd a o o' news news') : Chg [(a, o')] news news' := by
  obtain ⟨pre, post, rfl, rfl, h1, h2⟩ := U.split
  intro p hp
  have one : p.1 ≠ a → ∀ c ∈ [(a, o')], p.1 ≠ c.1 := fun n c hc => by
    rcases List.mem_cons.mp hc with rfl | q
    · exact n
    · cases q
  rcases List.mem_append.mp hp with hp | hp
  · exact .inr ⟨List.mem_append.mpr (.inl hp), one (h1 p hp)⟩
  · rcases List.mem_cons.mp hp with rfl | hp
    · exact .inl ⟨List.mem_cons_self, (a, o), List.mem_append.mpr (.inr List.mem_cons_self), rfl⟩
    · exact .inr ⟨List.mem_append.mpr (.inr (List.mem_cons_of_mem _ hp)), one (h2 p hp)⟩
theorem Chg.step {a : Addr} {o o' : Obj} {ch news newsA news' : List (Addr × Obj)} (U : Upd a o o' news newsA) (c : Chg ch newsA news') : Chg (ch ++ [(a, o')]) news news' := by
  have one := Chg.one U
  intro p hp
  rcases c p hp with ⟨h1, q, hq, e⟩ | ⟨h1, h2⟩
  · refine .inl ⟨List.mem_append.mpr (.inl h1), ?_⟩
    rcases one q hq with ⟨_, q', hq', e'⟩ | ⟨h3, _⟩
    · exact ⟨q', hq', e'.trans e⟩
    · exact ⟨q, h3, e⟩
  · rcases one p h1 with ⟨h3, q', hq', e'⟩ | ⟨h3, h4⟩
    · exact .inl ⟨List.mem_append.mpr (.inr h3), q', hq', e'⟩
    · refine .inr ⟨h3, fun x hx => ?_⟩
      rcases List.mem_append.mp hx with hx | hx
      · exact h2 x hx
      · exact h4 x hx
theorem news_chg {h₀ h h' : Heap} {L : Addr} {ch news news' small : List (Addr × Obj)} (N : News h₀ L h news) (c : Chg ch news news') (k : Kept small h h')
    (hs : ∀ q ∈ small, (∃ x ∈ ch, x.1 = q.1) ∨ (h.get? q.1 = some q.2 ∧ h'.get? q.1 = some q.2)) (he : ∀ x ∈ ch, h'.get? x.1 = some x.2) : News h₀ L h' news' := by
  intro p hp
  rcases c p hp with ⟨h1, q, hq, e⟩ | ⟨h1, h2⟩
  · exact ⟨he p h1, e ▸ (N q hq).2⟩
  · refine ⟨?_, (N p h1).2⟩
    by_cases hm : p.1 ∈ small.map (·.1)
    · obtain ⟨q, hq, e⟩ := List.mem_map.mp hm
      rcases hs q hq with ⟨x, hx, ex⟩ | ⟨e1, e2⟩
      · exact absurd (ex.trans e).symm (h2 x hx)
      · rw [e] at e1 e2
        have z := (N p h1).1
        rw [e1] at z
        rw [e2, z]
    · exact k _ _ (N p h1).1 hm
theorem kget {h₀ h' : Heap} {L : Addr} {l : List (Addr × Obj)} (kN : News h₀ L h' l) {x : Addr × Obj} (hm : x ∈ l) : h'.get? x.1 = some x.2 := (kN x hm).1
theorem w8 (k : Int) (h : k = 0 ∨ k = 8 ∨ k = 5) : (k + 8 + 2147483648).fmod 4294967296 - 2147483648 = k + 8 := by
  rcases h with rfl | rfl | rfl <;> decide
theorem w8a : ((0 : Int) + 8 + 2147483648).fmod 4294967296 - 2147483648 = 8 := by decide
theorem w8b : ((8 : Int) + 8 + 2147483648).fmod 4294967296 - 2147483648 = 16 := by decide
theorem allHN' {D : Addr} : ∀ {l : List (Addr × Obj)}, (∀ p ∈ l, p.1 ≠ D) → AllHN D l
  | [], _ => trivial
  | p :: _, h => ⟨h p (.head _), allHN' fun q hq => h q (.tail _ hq)⟩
/-- the codes that move points, with their bases -/
noncomputable def CBp (c b : Int) : Prop := (c = 93 ∧ b = 0) ∨ (c = 113 ∧ b = 16) ∨ (c = 114 ∧ b = 32)
/-- the codes that move control values, with their bases -/
noncomputable def CBc (c b : Int) : Prop := (c = 115 ∧ b = 0) ∨ (c = 116 ∧ b = 16) ∨ (c = 117 ∧ b = 32)
theorem cut_code {M : Model} {A : Around} {E Q : Value → Shared → Prop} {s : Shared} {P : Int → Int → Prop} {c b : Int} {u : Nat} {d : Addr} {value slice : PySem.Expr} (hb : P c b)
    (h1 : ∀ c b, P c b → wpAny M A (subscriptTail value slice (.ref d) (.int c u)) (fun v s' => ∃ t tk, v = Value.int b t ∧ s' = { s with toks := tk }) E s)
    (h2 : ∀ t tk, Q (.int b t) { s with toks := tk }) : wpAny M A (subscriptTail value slice (.ref d) (.int c u)) Q E s :=
  wpAny_mono (h1 c b hb) (fun v s' h => by obtain ⟨t, tk, rfl, rfl⟩ := h; exact h2 t tk) fun _ _ z => z
theorem add_ne {a i j : Nat} (h : (i == j) = false) : a + i ≠ a + j := fun e => by
  have := Nat.add_left_cancel e
  subst this
  simp at h
end Mine
end

section
open PySem PySem.W PyProof.Rows
set_option maxHeartbeats 4000000
namespace Mine
open PySem.Calls PySem.Spec
/-- a class list that says of every built-in class what the built-in one says -/
noncomputable def HasT (bmB bm : List Value) : Prop := ∀ (X : String) (b : Bool), bmB.contains (.type X) = b → bm.contains (.type X) = b
section
variable {prog : Program} {w : World} {A : Around} {h : Heap} {g : Array GenState} {d : Drawn} {t : Nat} {os : OsState}
variable {nm q : Str} {C N : Addr} {bs bm bmB : List Value} {hdct : Bool} {sn : List Str} {sub : List Value} {ab : Bool} {col : Option Bool} {dd : Option Addr} {k0 k1 k2 k3 k5 : Option Value} {B newId initId : String}
theorem ex_check (F : ExcBaseFacts B newId initId bmB) (T : HasT bmB bm) {M : Model} {E : Value → Shared → Prop} {rest : List Value} {Q : Unit → Shared → Prop} (hC : h.get? C = some (excClassObj nm q C N bs bm hdct sn sub ab col dd k0 k1 k2 k3 k5 newId))
    (hq : Q () ⟨h, g, d, t, os⟩) : wpAny M A (checkBuiltinCall newId ⟨.ref C :: rest, []⟩) Q E ⟨h, g, d, t, os⟩ := by
  have hcont : (Value.ref C :: bm).contains (.type B) = true := by rw [List.contains_cons, T B true F.hasB, Bool.or_true]
  have hstar := F.noStar
  simp only [checkBuiltinCall, F.newKind, F.newSplit, F.newRow]
  repeat (first | refine wpAny_loadPart_at hC ?_ | (refine wpAny_isSubtype_exc hC ?_; rw [hcont]) | refine wpAny_staticBase_exc hC ?_ | refine wpAny_madeBy_exc hC ?_ | simp only [bne_self_eq_false, Bool.false_eq_true, if_false] | wp_step)
  exact hq
theorem ex_new (F : ExcBaseFacts B newId initId bmB) (T : HasT bmB bm) {R : Result → Shared → Prop} {rest : List Value} (hC : h.get? C = some (excClassObj nm q C N bs bm hdct sn sub ab col dd k0 k1 k2 k3 k5 newId))
    (hq : R (.ok (.ret (.ref (h.objs.size + 1)))) ⟨(h.push { cls := .type "tuple", data := .seq rest.toArray }).push
      { cls := .ref C, data := .fields #[.ref h.objs.size, .none, .none, .none, .bool false, .none] }, g, d, t, os⟩) (hrest : rest.length ≤ sizeLine) :
    codeAny (model prog w) A (.builtin newId ⟨.ref C :: rest, []⟩) R ⟨h, g, d, t, os⟩ := by
  have hends := F.ends
  have c1 : (Value.ref C :: bm).contains (.type B) = true := by rw [List.contains_cons, T B true F.hasB, Bool.or_true]
  have c2 : (Value.ref C :: bm).contains (.type "AttributeError") = false := by rw [List.contains_cons, T _ false F.noAttr]; rfl
  have c3 : (Value.ref C :: bm).contains (.type "NameError") = false := by rw [List.contains_cons, T _ false F.noName]; rfl
  refine codeAny_builtinAt F.entry ?_
  unfold Builtin.«BaseException.__new__»
  refine PySem.wpAt_bind ?_
  show PySem.wpAt _ _ _ (stack >>= _) _ _ _
  refine PySem.wpAt_bind (PySem.wpAt_stack fun p below => PySem.wpAt_of_wpAny ?_)
  wp_walk
  refine PySem.wpAt_of_wpAny ?_
  rw [F.owner]
  repeat (first | with_reducible refine wpAny_madeHere_exc F.canon hC ?_ | with_reducible refine wpAny_loadPart_at hC ?_ | (with_reducible refine wpAny_isSubtype_exc hC ?_; first | rw [c1] | rw [c2] | rw [c3]) | wp_step)
  show R _ _
  rw [Heap.size_push]
  exact hq
/-- the object of an exception at its making: its args tuple, no trace yet -/
noncomputable abbrev excO (C t : Addr) : Obj := { cls := .ref C, data := .fields #[.ref t, .none, .none, .none, .bool false, .none] }
noncomputable abbrev tupO (vs : List Value) : Obj := { cls := .type "tuple", data := .seq vs.toArray }
theorem ex_tcall (F : ExcBaseFacts B newId initId bmB) (T : HasT bmB bm) {E : Value → Shared → Prop} {rest : List Value} {fI : Addr} {Q : Fin → Shared → Prop} {K : Frag} (X : K.In h)
    (hC : h.get? C = some (excClassObj nm q C N bs bm hdct sn sub ab col dd k0 k1 k2 k3 k5 newId)) (hs : findIn K (.ref C) "__init__" = some (some (.ref fI))) (hf : typeIn K (.ref fI) = some (.type "function"))
    (hq : wpAny (model prog w) A (call (.ref fI) (.ref (h.objs.size + 1) :: rest)) (fun r s' => r = .none ∧ Q (.done (.ret (.ref (h.objs.size + 1)))) s') E ⟨(h.push (tupO rest)).push (excO C h.objs.size), g, d, t, os⟩) (hrest : rest.length ≤ sizeLine) :
    wpAny (model prog w) A (Builtin.«type.__call__» ⟨.ref C :: rest, []⟩) Q E ⟨h, g, d, t, os⟩ := by
  repeat (first | with_reducible refine wpAny_loadPart_at hC ?_ | with_reducible refine wpAny_madeBy_exc hC ?_ | wp_step)
  refine codeAny_call_builtin_code (Code.quiet_builtin _ F.quiet) (ex_check F T hC ?_)
  refine ex_new F T hC ?_ hrest
  show wpAny _ _ _ _ _ _
  have kp : ∀ b o, h.get? b = some o → ((h.push (tupO rest)).push (excO C h.objs.size)).get? b = some o := fun b o e => Heap.get?_push_of_some _ (Heap.get?_push_of_some _ e)
  have hC₁ := kp _ _ hC
  have X₁ := X.keeps kp
  have hget : ((h.push (tupO rest)).push (excO C h.objs.size)).get? (h.objs.size + 1) = some (excO C h.objs.size) := by heap_get
  have hcC : (Value.ref C :: bm).contains (.ref C) = true := by simp
  unfold isInstance
  repeat (first | with_reducible refine wpAny_loadPart_at hget ?_ | (with_reducible refine wpAny_isSubtype_exc hC₁ ?_; rw [hcC]) | wp_step)
  show wpAny _ _ (typeLookup (.ref C) _) _ _ _
  refine (looks_findIn X₁ hs).here ?_
  refine wpAny_holding (wpAny_bind ((bind_fn X₁ _ hf).here ?_))
  refine wpAny_bind (wpAny_mono hq (fun r s' hr => ?_) fun _ _ x => x)
  obtain ⟨rfl, hQ⟩ := hr
  wp_walk
  exact hQ
theorem ex_call (F : ExcBaseFacts B newId initId bmB) (T : HasT bmB bm) {E : Value → Shared → Prop} {rest : List Value} {fI : Addr} {Q : Value → Shared → Prop} {K : Frag} (X : K.In h)
    (hC : h.get? C = some (excClassObj nm q C N bs bm hdct sn sub ab col dd k0 k1 k2 k3 k5 newId)) (hs : findIn K (.ref C) "__init__" = some (some (.ref fI))) (hf : typeIn K (.ref fI) = some (.type "function"))
    (hq : wpAny (model prog w) (A.under (.builtin "type.__call__" ⟨.ref C :: rest, []⟩)) (call (.ref fI) (.ref (h.objs.size + 1) :: rest)) (fun r s' => r = .none ∧ Q (.ref (h.objs.size + 1)) s') E ⟨(h.push (tupO rest)).push (excO C h.objs.size), g, d, t, os⟩) (hrest : rest.length ≤ sizeLine) :
    wpAny (model prog w) A (call (.ref C) rest) Q E ⟨h, g, d, t, os⟩ := by
  have f1 := tc_lookup
  have f2 := tc_bind (.ref C)
  have hT : (⟨h, g, d, t, os⟩ : Shared).TypeIs (.ref C) "type" := ⟨_, hC, rfl⟩
  refine wpAny_call (codeAny_of_tree ?_)
  show wpAny _ _ (callAny (.ref C) _) _ _ _
  repeat (any_goals (first | assumption | with_reducible refine wpAny_loadPart_at hC ?_ | wp_step))
  refine ⟨rfl, ?_⟩
  exact codeAny_call_builtin_at (Code.quiet_builtin _ (by decide +kernel)) entry_typeCall (wpAny_check_type_call_sub hC (ex_tcall F T X hC hs hf hq hrest))
end
end Mine
end

section
open PySem PySem.W PyProof.Rows
set_option maxHeartbeats 4000000
namespace Mine
open PySem.Calls PySem.Spec PySem.Builtin PySem.Builtin.ObjectAttr
/-- an exception of an own class made anew, its dict made by its own __init__ -/
structure MadeX (h h' : Heap) (e t : Addr) (C : Addr) (vs : List Value) : Prop where
  keeps : ∀ b o, h.get? b = some o → h'.get? b = some o
  new : h.get? e = none
  newT : h.get? t = none
  there : ∃ D, h'.get? e = some { cls := .ref C, dict := some D, data := .fields #[.ref t, .none, .none, .none, .bool false, .none] }
  tup : h'.get? t = some (tupO vs)
section
variable {prog : Program} {w : World} {A : Around} {E : Value → Shared → Prop} {s : Shared} {K : Frag} {x t C C2 : Addr} {name : Str} {v : Value} {h₀ h' : Heap} {L : Addr} {m : Str → Option Value} {cd : ClassData} {tk : Tok}
/-- the object of an exception that has a dict -/
noncomputable abbrev excD (C t D : Addr) : Obj := { cls := .ref C, dict := some D, data := .fields #[.ref t, .none, .none, .none, .bool false, .none] }
theorem osa_exc {R : Result → Shared → Prop} (X : K.In s.heap) (he : s.heap.get? x = some (excO C t)) (hc : clsIn K C = some cd) (hd : cd.hasDict = true) (hmro : cd.mro = [.ref C, .ref C2, .type "Exception", .type "BaseException", .type "object"]) (ht : takerIn K C name = some none)
    (h : ∀ h' tk' D, (∀ b o, b ≠ x → s.heap.get? b = some o → h'.get? b = some o) → h'.get? x = some (excD C t D) → R (.ok (.ret .none)) { s with heap := h', toks := tk' }) :
    codeAny (model prog w) A (.call (.builtin "object.__setattr__") ⟨[.ref x, .str name tk, v], []⟩) R s := by
  have I : InstAt s.heap x (excO C t) C none := ⟨he, rfl, rfl, trivial⟩
  have SF := PySem.F.store_object
  have sub : Looks (model prog w) s.heap (isInstance (.ref x) (.type "object")) true := I.type.andThen (looks_mroIn X (by unfold mroIn; rw [hc, Option.bind_some, hmro, if_neg (by simp)]; rfl))
  refine codeAny_call_builtin SF.slot.plain SF.entry (@check_slot (model prog w) _ _ _ "object.__setattr__" "object" "__setattr__" (.ref x) [.str name tk, v] [] _ SF.kind SF.split sub (SF.args (.ref x) (.str name tk) v) ?_)
  obtain ⟨attr, ha, hr⟩ := Option.bind_eq_some_iff.mp ht
  have hml : Looks (model prog w) s.heap (mroOf (.ref C)) cd.mro := (looks_clsIn X hc).andThen .now
  have L3 : Looks (model prog w) s.heap (storeTaker? attr) none := by
    cases attr with
    | none => exact .now
    | some a =>
      obtain ⟨b, hb, e⟩ := Option.map_eq_some_iff.mp hr
      refine (looks_takesIn X hb).andThen ?_
      cases b with
      | true => cases e
      | false => exact .now
  rw [osa_eq, refuse_eq]
  refine wpAny_bind (wpAny_bind (I.type.here (wpAny_bind (hml.here ?_))))
  rw [hmro, refuseLoop_ref, refuseLoop_ref, PySem.F.store_Exception.passes]
  refine wpAny_pure (wpAny_bind (I.type.here (wpAny_bind ((looks_findIn X ha).here (wpAny_bind (L3.here ?_))))))
  refine wpAny_bind (wpAny_pure (wpAny_bind (wpAny_bind (wpAny_loadPart he (wpAny_bind ((looks_clsIn X hc).here ?_))))))
  rw [hd]
  have he₁ : (s.heap.push { cls := .type "dict", data := .dict #[] }).get? x = some (excO C t) := Heap.get?_push_of_some _ he
  have hxs : x ≠ s.heap.objs.size := Nat.ne_of_lt (Heap.lt_size he)
  refine wpAny_bind (wpAny_alloc ?_)
  refine wpAny_bind (wpAny_updatePart he₁ ?_)
  refine wpAny_pure ?_
  have hgd : ((s.heap.push { cls := .type "dict", data := .dict #[] }).update x fun o => { o with dict := some s.heap.objs.size }).get? s.heap.objs.size
      = some { cls := .type "dict", data := .dict #[] } :=
    (Heap.get?_update_ne _ _ _ _ hxs.symm).trans (Heap.get?_push_at rfl rfl)
  have hnd : ((s.heap.push { cls := .type "dict", data := .dict #[] }).update x fun o => { o with dict := some s.heap.objs.size }).Ns s.heap.objs.size (fun _ => none) :=
    ⟨_, #[], _, hgd, rfl, fun e he => absurd he (by simp), fun _ => rfl⟩
  show wpAny _ _ (storeInDict s.heap.objs.size (.str name tk) name v) _ _ _
  unfold storeInDict newKeyGuard
  refine wpAny_bind (wpAny_pure (wpAny_bind (wpAny_nsSet1 (Heap.Ns1.of_empty hnd) fun h' hn' hs => ?_)))
  obtain ⟨oD, esD, epD, hoD, hdD, hcD⟩ := hn'.count (Within.cons name v Within.nil)
  refine wpAny_bind (wpAny_lookBehind hoD (by rw [hdD]; exact pastItsLine_dict (Nat.le_trans hcD (by rw [List.length_cons, List.length_nil, sizeLine_eq]; omega))) ?_)
  refine wpAny_pure (h _ _ s.heap.objs.size (fun b o hb e => ?_) ?_)
  · exact (hs.2 b (Nat.ne_of_lt (Heap.lt_size e))).trans ((Heap.get?_update_ne _ _ _ _ hb).trans (Heap.get?_push_of_some _ e))
  · exact (hs.2 x hxs).trans (Heap.get?_update_self _ he₁ rfl)
theorem set_exc {Q : Unit → Shared → Prop} (X : K.In s.heap) (he : s.heap.get? x = some (excO C t)) (hc : clsIn K C = some cd) (hd : cd.hasDict = true) (hmro : cd.mro = [.ref C, .ref C2, .type "Exception", .type "BaseException", .type "object"])
    (hs : findIn K (.ref C) "__setattr__" = some (some (.builtin "object.__setattr__"))) (ht : takerIn K C name = some none)
    (h : ∀ h' tk' D, (∀ b o, b ≠ x → s.heap.get? b = some o → h'.get? b = some o) → h'.get? x = some (excD C t D) → Q () { s with heap := h', toks := tk' }) :
    wpAny (model prog w) A (setAttr (.ref x) name v) Q E s :=
  set_plain (ox := excO C t) (od := none) X ⟨he, rfl, rfl, trivial⟩ hs (osa_exc (s := { s with toks := s.toks + 1 }) X he hc hd hmro ht fun h' tk' D k e => h h' tk' D k e)
theorem set_excN {Q : Unit → Shared → Prop} {news : List (Addr × Obj)} {news' : Addr → List (Addr × Obj)} (F : Fr h₀ L s.heap m) (N : News h₀ L s.heap news) (X₀ : K.In h₀) (he : (x, excO C t) ∈ news) (hc : clsIn K C = some cd) (hd : cd.hasDict = true) (hmro : cd.mro = [.ref C, .ref C2, .type "Exception", .type "BaseException", .type "object"])
    (hs : findIn K (.ref C) "__setattr__" = some (some (.builtin "object.__setattr__"))) (ht : takerIn K C name = some none) (U : ∀ D, Upd x (excO C t) (excD C t D) news (news' D))
    (h : ∀ h' tk' D, Fr h₀ L h' m → News h₀ L h' (news' D) → Q () { s with heap := h', toks := tk' }) :
    wpAny (model prog w) A (setAttr (.ref x) name v) Q E s := by
  have z := N _ he
  refine set_exc (X₀.keeps F.keep) z.1 hc hd hmro hs ht fun h' tk' D k e => h h' tk' D ?_ (news_upd3 N (U D) (fun b o e nb => k b o (fun q => nb (by rw [q]; exact List.mem_cons_self)) e) e)
  obtain ⟨oL, es, ep, hL, r⟩ := F.ns
  exact ⟨⟨oL, es, ep, k L oL (Ne.symm z.2.1) hL, r⟩, fun b o q => k b o (fun y => by have := z.2.2; rw [← y, q] at this; cases this) (F.keep b o q), F.above⟩
end
end Mine
end

section
open PySem PySem.W PyProof.Rows
set_option maxHeartbeats 4000000
namespace Mine
open PySem.Calls PySem.Spec
theorem memX {env : Env} {L b : Addr} {outer : List Env} (hf : env.frame = some L) (hm : b ∈ (env :: outer).filterMap (·.frame)) : b = L ∨ b ∈ outer.filterMap (·.frame) := by
  obtain ⟨env', he, hf'⟩ := List.mem_filterMap.mp hm
  rcases List.mem_cons.mp he with rfl | he
  · exact .inl (Option.some.inj (hf'.symm.trans hf))
  · exact .inr (List.mem_filterMap.mpr ⟨env', he, hf'⟩)
section
variable {M : Model} {A : Around} {E : Value → Shared → Prop} {s' : Shared} {base g g₂ h : Heap} {outer : List Env} {L e t C : Addr} {m : Str → Option Value} {env : Env} {Q : Unit → Shared → Prop} {news : List (Addr × Obj)} {vs : List Value}
theorem leave_firstX (hf : env.frame = some L) (hke : env.scope.kind = .function) (K : Below A base outer g) (hx : MadeX h s'.heap e t C vs) (F : Fr g L h m) (N : News g L h news)
    (hQ : ∀ h', RaisedS base g outer e (.ref C) t vs news h' → g.UpToSlots h' → Q () { s' with heap := h' }) : wpAny M (A.deeper env) (leaving env (.ref e)) Q E s' := by
  have K' := pushX K F hf hke
  have hin : ∀ env' ∈ (env :: outer), ∀ b, env'.frame = some b → b ∈ (env :: outer).filterMap (·.frame) := fun env' he b hb => List.mem_filterMap.mpr ⟨env', he, hb⟩
  have st : base.StaysIn (hideAll h ((env :: outer).filterMap (·.frame))) := fun b o q => hideAll_get _ (K'.stays b o q) fun hm => by
    rw [(K'.frames.mem hm).1] at q; cases q
  have sg : ∀ b o, g.get? b = some o → b ∉ outer.filterMap (·.frame) → (hideAll h ((env :: outer).filterMap (·.frame))).get? b = some o := fun b o q nm => hideAll_get _ (F.keep b o q) fun hm => by
    rcases memX hf hm with z | z
    · rw [z, kts_self F] at q
      cases q
    · exact nm z
  have hl : ∀ q ∈ news, (hideAll h ((env :: outer).filterMap (·.frame))).get? q.1 = some q.2 ∧ g.get? q.1 = none ∧ base.get? q.1 = none := fun q hq => by
    refine ⟨hideAll_get _ (N q hq).1 fun hm => ?_, (N q hq).2.2, fresh_of_stays K.stays (N q hq).2.2⟩
    rcases memX hf hm with z | z
    · exact (N q hq).2.1 z
    · obtain ⟨o, ho, _⟩ := (K.frames.mem z).2
      rw [(N q hq).2.2] at ho; cases ho
  obtain ⟨D, he⟩ := hx.there
  have hB := funFrames_hide K'.frames hin
  have kp : ∀ b o, (hideAll h ((env :: outer).filterMap (·.frame))).get? b = some o → h.get? b = some o := fun b o q => of_hideAll _ q
  have fresh : ∀ b, h.get? b = none → (hideAll h ((env :: outer).filterMap (·.frame))).get? b = none := fun b hb => by
    cases hq : (hideAll h ((env :: outer).filterMap (·.frame))).get? b with
    | none => rfl
    | some o' => have := kp b o' hq; rw [hb] at this; cases this
  refine wpAny_leaving_firstW (a0 := .ref t) K'.stack (hB.of_keeps fun b o hb _ => ⟨o, hx.keeps b o hb, rfl⟩) hf he (fun b o hb => hx.keeps b o (kp b o hb)) (fresh e hx.new) rfl rfl rfl fun h' hL => ?_
  obtain ⟨k1, ⟨_, _, k2⟩, k3, k4⟩ := hL
  exact hQ h' ⟨⟨_, st, sg, hl, ⟨k1, fresh e hx.new, k2, k3⟩, fresh t hx.newT⟩, Heap.TupAt.of_slots ⟨_, _, hx.tup, rfl, rfl⟩ k4⟩ (((Heap.UpToSlots.of_keeps F.keep).trans (Heap.UpToSlots.of_keeps hx.keeps)).trans k4)
theorem leave_onX {cls : Value} (hf : env.frame = some L) (K : Below A base outer g) (F : Fr g L g₂ m) (R : RaisedS base g₂ (env :: outer) e cls t vs news s'.heap) (hsm : g₂.UpToSlots s'.heap)
    (hQ : ∀ h', RaisedS base g outer e cls t vs news h' → g.UpToSlots h' → Q () { s' with heap := h' }) :
    wpAny M (A.deeper env) (leaving env (.ref e)) Q E s' := by
  obtain ⟨⟨B, hB, hBG, hl, hfl, hnew⟩, htup⟩ := R
  exact wpAny_leaves_onW (Around.frames_deeper K.stack) hf hfl fun h' x1 x2 =>
    hQ h' ⟨⟨B, hB, fun b o q nm => hBG b o (F.keep b o q) (fun hm => by
      rcases memX hf hm with z | z
      · rw [z, kts_self F] at q
        cases q
      · exact nm z), fun q hq => ⟨(hl q hq).1, kts_none F.keep (hl q hq).2.1, (hl q hq).2.2⟩, x1, hnew⟩, htup.of_slots x2⟩ ((Heap.UpToSlots.of_keeps F.keep).trans (hsm.trans x2))
end
/-- all that stood at h, save the frame's own table and what l names, stands at h' -/
noncomputable def KeptL (L : Addr) (l : List (Addr × Obj)) (h h' : Heap) : Prop := ∀ b o, h.get? b = some o → b ∉ l.map (·.1) → b ≠ L → h'.get? b = some o
section
variable {prog : Program} {w : World} {A₀ A : Around} {s : Shared} {base h₀ g₀ : Heap} {outer : List Env} {L a : Addr} {m : Str → Option Value} {env : Env} {news : List (Addr × Obj)} {K : Frag} {p : Program} {loose : List Str} {mean : ExcName → Option Value} {mg mb : Str → Option Value}
    {R : Result → Shared → Prop} {name qual : Str} {params : Arguments} {body : List Stmt} {scope : Scope} {dV kV doc pm cdv ct oc : Value} {an od : Option Addr} {osl : Array (Option Value)} {f : Addr} {args : Args} {binds : List (Str × Value)}
theorem groundS (B : Below A₀ base outer h₀) (F : Fr h₀ L s.heap m) (N : News h₀ L s.heap news) (hA : A.frames = some (env :: outer)) (hf : env.frame = some L) (hke : env.scope.kind = .function) :
    ∃ oL es ep, (hideAll s.heap (news.map (·.1))).get? L = some oL ∧ oL.data = .dict es ep ∧ (∀ (sl : Array (Option Value)) h', h'.get? L = some { oL with slots := sl } → Heap.Ns h' L m) := by
  obtain ⟨oL, es, ep, hL, hLd, hLk, hLf⟩ := F.ns
  have nL : L ∉ news.map (·.1) := fun q => by
    obtain ⟨p, hp, e⟩ := List.mem_map.mp q
    exact (N p hp).2.1 e
  exact ⟨oL, es, ep, hideAll_get _ hL nL, hLd, fun sl h' e => ⟨_, es, ep, e, hLd, hLk, hLf⟩⟩
theorem fs1 (hf : env.frame = some L) : [env].filterMap (·.frame) = [L] := by
  simp only [List.filterMap_cons, List.filterMap_nil, hf]
theorem enterS0C (B : Below A₀ base [] h₀) (F : Fr h₀ L s.heap m) (X₀ : K.In h₀) (N : News h₀ L s.heap news) (T : Top p loose mean mg mb h₀) (hA : A.frames = some [env]) (hf : env.frame = some L) (hke : env.scope.kind = .function)
    (ho : K.lookup f = some ⟨oc, od, .func (fnOf name qual params body scope dV kV doc pm an cdv ct), osl⟩) (hcd : codeIn K cdv qual = true) (hroom : A.depth < recursionLimit)
    (hbind : BindsTo s (fnOf name qual params body scope dV kV doc pm an cdv ct) args binds) (hkind : (binds.all fun y => scope.names.lookup y.1 == some .local || scope.names.lookup y.1 == some .cell) = true)
    (hnd : ((cellsFrom 0 scope.names []).map (·.1)).Nodup)
    (h : ∀ g L' h₁ tk cells, Fr h₀ L g m → Fr g L' h₁ (bindL (envOfC qual scope L' f cdv).kindOf binds fun _ => none) → News g L' h₁ (cells ++ news) →
      CellsAre (bindC (envOfC qual scope L' f cdv).kindOf binds fun _ => none) (cellsFrom (L' + 1) scope.names []) cells → Below A base [env] g → K.In g → Top p loose mean mg mb g → KtsDicts ([env].filterMap (·.frame)) g → (∀ q ∈ news, q.1 < L') → s.heap.objs.size ≤ L' → (∀ b o, s.heap.get? b = some o → b ∉ news.map (·.1) → g.get? b = some o) →
      wpAny (model prog w) (A.deeper (envOfC qual scope L' f cdv)) (execs body (envOfC qual scope L' f cdv))
        (fun fl s' => LeaveS0 ([env].filterMap (·.frame)) h₀ L m g (fun r s'' => KeptL L news s.heap s''.heap → R r s'') (match fl with | .ret v => v | _ => .none) s')
        (fun e s' => wpAny (model prog w) (A.deeper (envOfC qual scope L' f cdv)) (leaving (envOfC qual scope L' f cdv) e) (fun _ s'' => R (.error e) s'') (fun e' s'' => R (.error e') s'') s')
        { s with heap := h₁, toks := tk })
    (hco : scope.isCoroutine = false) (hgen : scope.isGenerator = false) (hk : scope.kind = .function) : codeAny (model prog w) A (.call (.ref f) args) R s := by
  obtain ⟨FG, BG, st, _⟩ := groundX (R := R) B F N hA hf hke
  obtain ⟨oL, es, ep, hLg, hLd, hNs⟩ := groundS B F N hA hf hke
  have X := X₀.keeps F.keep
  refine codeAny_call_function hroom (X _ _ ho) rfl hco hgen rfl (codeRec_of X hcd) (hbind _ _ _ _ ?_)
  refine wpAny_newFunctionEnv_cells hk (kindsX hkind _) fun env' he s' x => ?_
  subst he
  refine ⟨((T.nolimit).keeps F.keep).keeps x.toInCall.keep, codeAny_func ?_⟩
  obtain ⟨h₁, tk, rfl, _⟩ := x.done
  have hk₁ := x.toInCall.keep
  obtain ⟨cells, NC, Y⟩ := Cl.news (h₀ := s.heap) (Nat.le_refl _) fun n c hm => ⟨x.cell n c (lookup_of_mem_nodup (cellsFrom_names scope.names 0 (s.heap.objs.size + 1) [] [] rfl ▸ hnd) hm), x.above n c hm⟩
  refine wpAny_mono (h _ s.heap.objs.size h₁ tk cells FG ⟨x.toInCall.ns, fun b o e => hk₁ b o (of_hideAll _ e), Nat.le_of_eq (hideAll_size _ _)⟩ (fun q hq => ?_) Y BG (X₀.keeps st) (T.keeps st) (fun b hb => ?_) (fun q hq => Heap.lt_size (N q hq).1) (Nat.le_refl _) (fun b o e nb => hideAll_get _ e nb)) (fun fl s' hl => ?_) fun _ _ y => y
  · rcases List.mem_append.mp hq with hq | hq
    · refine ⟨(NC q hq).1, (NC q hq).2.1, ?_⟩
      cases e : (hideAll s.heap (news.map (·.1))).get? q.1 with
      | none => rfl
      | some o => have := of_hideAll _ e; rw [(NC q hq).2.2] at this; cases this
    · exact ⟨hk₁ _ _ (N q hq).1, Nat.ne_of_lt (Heap.lt_size (N q hq).1), hideAll_none _ (List.mem_map_of_mem hq)⟩
  · rw [fs1 hf] at hb
    rcases List.mem_cons.mp hb with rfl | z
    · exact ⟨oL, es, ep, hLg, hLd⟩
    · cases z
  · obtain ⟨g', L', m', news', T', F', N', k⟩ := hl
    rw [fs1 hf] at T'
    have nL₀ : h₀.get? L = none := kts_self F
    obtain ⟨sl, hs⟩ := T'.up hLg
    refine k ⟨hNs sl _ (F'.keep _ _ hs), fun b o e => F'.keep b o (T'.other b o (st b o e) (fun q => ?_)), F.above⟩ (fun p hp => ⟨(N' p hp).1, fun q => ?_, ?_⟩) (fun b o e nb nL => F'.keep b o (T'.other b o (hideAll_get _ e nb) (fun q => ?_)))
    · rcases List.mem_cons.mp q with z | z
      · rw [z, nL₀] at e; cases e
      · cases z
    · have := (N' p hp).2.2; rw [q, hs] at this; cases this
    · cases q : h₀.get? p.1 with
      | none => rfl
      | some o =>
        obtain ⟨sl', hs'⟩ := T'.up (st _ _ q)
        have := (N' p hp).2.2
        rw [hs'] at this
        cases this
    · rcases List.mem_cons.mp q with z | z
      · exact nL z
      · cases z
theorem enterSX (B : Below A₀ base outer h₀) (F : Fr h₀ L s.heap m) (X₀ : K.In h₀) (N : News h₀ L s.heap news) (T : Top p loose mean mg mb h₀) (XB : K.In base) (TB : Top p loose mean mg mb base) (D : KtsDicts (outer.filterMap (·.frame)) h₀)
    (T0 : KtsTurn (outer.filterMap (·.frame)) g₀ h₀) (hA : A.frames = some (env :: outer)) (hf : env.frame = some L) (hke : env.scope.kind = .function)
    (ho : K.lookup f = some ⟨oc, od, .func (fnOf name qual params body scope dV kV doc pm an cdv ct), osl⟩) (hcd : codeIn K cdv qual = true) (hroom : A.depth < recursionLimit)
    (hbind : BindsTo s (fnOf name qual params body scope dV kV doc pm an cdv ct) args binds) (hloc : ∀ y ∈ binds, scope.names.lookup y.1 = some .local)
    (h : ∀ g L' h₁, Fr h₀ L g m → Fr g L' h₁ (fun y => binds.reverse.lookup y) → News g L' h₁ news → Below A base (env :: outer) g → K.In g → Top p loose mean mg mb g → KtsDicts ((env :: outer).filterMap (·.frame)) g → (∀ q ∈ news, q.1 < L') →
      wpAny (model prog w) (A.deeper (envOf qual scope L' f cdv)) (execs body (envOf qual scope L' f cdv))
        (fun fl s' => LeaveS ((env :: outer).filterMap (·.frame)) A₀ base outer K p loose mean mg mb g₀ h₀ L m g R (match fl with | .ret v => v | _ => .none) s')
        (fun e s' => wpAny (model prog w) (A.deeper (envOf qual scope L' f cdv)) (leaving (envOf qual scope L' f cdv) e) (fun _ s'' => R (.error e) s'') (fun e' s'' => R (.error e') s'') s')
        { s with heap := h₁, toks := s.toks + binds.length })
    (hco : scope.isCoroutine = false) (hgen : scope.isGenerator = false) (hk : scope.kind = .function)
    (hcell : ∀ x ∈ scope.names, x.2 ≠ .cell) : codeAny (model prog w) A (.call (.ref f) args) R s := by
  obtain ⟨FG, BG, st, _⟩ := groundX (R := R) B F N hA hf hke
  obtain ⟨oL, es, ep, hLg, hLd, hNs⟩ := groundS B F N hA hf hke
  have X := X₀.keeps F.keep
  refine codeAny_call_def (fd := fnOf name qual params body scope dV kV doc pm an cdv ct) (body := body) (binds := binds) hroom (X _ _ ho) rfl (T.nolimit.keeps F.keep) (codeRec_of X hcd) rfl hbind hcell hloc (fun h₁ hns hk₁ => ?_) hco hgen hk
  refine wpAny_mono (h _ s.heap.objs.size h₁ FG ⟨hns, fun b o e => hk₁ b o (of_hideAll _ e), Nat.le_of_eq (hideAll_size _ _)⟩
    (fun q hq => ⟨hk₁ _ _ (N q hq).1, Nat.ne_of_lt (Heap.lt_size (N q hq).1), hideAll_none _ (List.mem_map_of_mem hq)⟩) BG (X₀.keeps st) (T.keeps st) (fun b hb => ?_) (fun q hq => Heap.lt_size (N q hq).1)) (fun fl s' hl => ?_) fun _ _ y => y
  · rcases memX hf hb with rfl | hb
    · exact ⟨oL, es, ep, hLg, hLd⟩
    · obtain ⟨o, es', n', ho', hd'⟩ := D b hb
      exact ⟨o, es', n', st b o ho', hd'⟩
  have nL₀ : h₀.get? L = none := kts_self F
  rcases hl with ⟨L', m', news', F', N', k⟩ | ⟨g', L', m', news', T', F', N', k⟩
  · refine k ⟨hNs oL.slots _ (F'.keep _ _ hLg), fun b o e => F'.keep b o (st b o e), F.above⟩ fun p hp => ⟨(N' p hp).1, fun q => ?_, ?_⟩
    · have := (N' p hp).2.2; rw [q, hLg] at this; cases this
    · cases q : h₀.get? p.1 with
      | none => rfl
      | some o => have := (N' p hp).2.2; rw [st _ _ q] at this; cases this
  obtain ⟨sl, hs⟩ := T'.up hLg
  have away : ∀ b o, h₀.get? b = some o → b ∉ outer.filterMap (·.frame) → s'.heap.get? b = some o := fun b o e nm => F'.keep b o (T'.other b o (st b o e) fun q => by
    rcases memX hf q with z | z
    · rw [z, nL₀] at e; cases e
    · exact nm z)
  obtain ⟨T₁, S₁⟩ := kts_turn_at (h := s'.heap) (fs := outer.filterMap (·.frame)) (g := h₀)
    (fun b hb => (B.frames.mem hb).2.elim fun o ho' => ⟨o, ho'.1⟩) away
    (fun b o e _ => (T'.up (st b o e)).elim fun sl' hs' => ⟨sl', F'.keep _ _ hs'⟩)
  have B₃ : Below A₀ base outer (ktsHeap s'.heap (outer.filterMap (·.frame)) h₀) := ⟨B.stack, fun b o e => T₁.other b o (B.stays b o e) (fun hm => by
    rw [(B.frames.mem hm).1] at e
    cases e), B.frames.of_keeps fun b o e _ => (T₁.up e).elim fun sl' hs' => ⟨_, hs', rfl⟩⟩
  refine k _ (T0.trans T₁) ⟨hNs sl _ (F'.keep _ _ hs), S₁, by rw [T₁.size]; exact F.above⟩ (fun p hp => ⟨(N' p hp).1, fun q => ?_, T₁.none_ _ ?_⟩) B₃ (XB.keeps B₃.stays) (TB.keeps B₃.stays) (D.turn T₁)
  · have := (N' p hp).2.2; rw [q, hs] at this; cases this
  · cases q : h₀.get? p.1 with
    | none => rfl
    | some o =>
      obtain ⟨sl', hs'⟩ := T'.up (st _ _ q)
      have := (N' p hp).2.2
      rw [hs'] at this
      cases this
end
end Mine
end

section
open PySem PySem.W PyProof.Rows
set_option maxHeartbeats 4000000
namespace Mine
open PySem.Calls PySem.Spec
section
variable {prog : Program} {w : World} {A : Around} {E : Value → Shared → Prop} {s : Shared} {env : Env} {K : Frag} {h₀ h : Heap} {L : Addr} {m : Str → Option Value} {C e t : Addr} {vs : List Value}
/-- what the raised call must hand over -/
noncomputable def RaiseEnd (C : Addr) (E : Value → Shared → Prop) (v : Value) (s₁ : Shared) : Prop :=
  ∃ e t D, v = .ref e ∧ (∃ nm qn N bs bm hdct sn sub ab col dd k0 k1 k2 k3 k5 newId, s₁.heap.get? C = some (excClassObj nm qn C N bs bm hdct sn sub ab col dd k0 k1 k2 k3 k5 newId) ∧ bm.contains (.type "BaseException") = true) ∧
    s₁.heap.get? e = some { cls := .ref C, dict := some D, data := .fields #[.ref t, .none, .none, .none, .bool false, .none] } ∧ E (.ref e) s₁
theorem RaiseEnd.intro (F : Fr h₀ L s.heap m) (X₀ : K.In h₀) (q : ktsIn K C "BaseException" = true) (x : MadeX h s.heap e t C vs) (k : E (.ref e) s) : RaiseEnd C E (.ref e) s := by
  obtain ⟨nm, q', N, bs, bm, hdct, sn, sub, ab, col, dd, k0, k1, k2, k3, k5, newId, hC, hb, _⟩ := kts_cls (X₀.keeps F.keep) q
  obtain ⟨D, hD⟩ := x.there
  exact ⟨e, t, D, rfl, ⟨_, _, _, _, _, _, _, _, _, _, _, _, _, _, _, _, _, hC, hb⟩, hD, k⟩
theorem raise_stmt {x : Sem Value} {Q : Flow → Shared → Prop} (hh : A.handled = none) (hx : wpAny (model prog w) A x (RaiseEnd C E) E s) : wpAny (model prog w) A (raiseStmt env (some x) none) Q E s := by
  unfold raiseStmt
  refine wpAny_bind (wpAny_mono hx (fun v s₁ h₁ => ?_) fun _ _ z => z)
  obtain ⟨e, t, D, rfl, ⟨nm, qn, N, bs, bm, hdct, sn, sub, ab, col, dd, k0, k1, k2, k3, k5, newId, hC, hb⟩, he, hE⟩ := h₁
  have hcB : (Value.ref C :: bm).contains (.type "BaseException") = true := by rw [List.contains_cons, hb, Bool.or_true]
  obtain ⟨hp, g, d, tk, os⟩ := s₁
  repeat (first | with_reducible refine wpAny_loadPart_at he ?_ | with_reducible refine wpAny_loadPart_at hC ?_ | (with_reducible refine wpAny_isSubtype_exc hC ?_; rw [hcB]) | wp_step)
  exact wpAny_raiseNew_none hh hE
theorem raise_by {c : Expr} {pos : Pos} {Q : Flow → Shared → Prop} (hh : A.handled = none) (hx : wpAny (model prog w) A (eval c env) (RaiseEnd C E) E s) : wpAny (model prog w) A (exec (.Raise (some c) none pos) env) Q E s := by
  rw [arm_exec_Raise]
  first
    | exact wpAny_bind (wpAny_standAt (raise_stmt (C := C) hh (wpAny_bind (wpAny_mono hx (fun v s₃ h₃ => wpAny_bind (wpAny_standAt (wpAny_pure h₃))) fun _ _ x => x))))
    | (simp only [evalOpt, Option.map]; exact wpAny_bind (wpAny_standAt (raise_stmt (C := C) hh (wpAny_bind (wpAny_mono hx (fun v s₃ h₃ => wpAny_bind (wpAny_standAt (wpAny_pure h₃))) fun _ _ x => x)))))
    | exact wpAny_bind (wpAny_standAt (raise_stmt (C := C) hh hx))
    | fail
end
end Mine
end

section
open PySem PySem.W PyProof.Rows
set_option maxHeartbeats 4000000
namespace Mine
open PySem.Calls PySem.Spec
section
variable {prog : Program} {w : World} {A₀ A : Around} {s : Shared} {base h₀ : Heap} {outer : List Env} {L : Addr} {m : Str → Option Value} {env : Env} {news : List (Addr × Obj)} {K : Frag}
  {p : Program} {loose : List Str} {mean : ExcName → Option Value} {mg mb : Str → Option Value}
  {R : Result → Shared → Prop} {name qual : Str} {params : Arguments} {body : List Stmt} {scope : Scope} {dV kV doc pm cdv ct oc : Value} {an od : Option Addr} {osl : Array (Option Value)} {f : Addr} {args : Args} {binds : List (Str × Value)}
/-- the ground g of a callee keeps what stood at h, save what l names -/
noncomputable def GKeep (l : List (Addr × Obj)) (h g : Heap) : Prop := ∀ b o, h.get? b = some o → b ∉ l.map (·.1) → g.get? b = some o
theorem enter2E (B : Below A₀ base outer h₀) (F : Fr h₀ L s.heap m) (X₀ : K.In h₀) (N : News h₀ L s.heap news) (T : Top p loose mean mg mb h₀) (hA : A.frames = some (env :: outer)) (hf : env.frame = some L) (hke : env.scope.kind = .function)
    (ho : K.lookup f = some ⟨oc, od, .func (fnOf name qual params body scope dV kV doc pm an cdv ct), osl⟩) (hcd : codeIn K cdv qual = true) (hroom : A.depth < recursionLimit)
    (hbind : BindsTo s (fnOf name qual params body scope dV kV doc pm an cdv ct) args binds) (hloc : ∀ y ∈ binds, scope.names.lookup y.1 = some .local)
    (h : ∀ g L' h₁, Fr h₀ L g m → Fr g L' h₁ (fun y => binds.reverse.lookup y) → News g L' h₁ news → Below A base (env :: outer) g → K.In g → Top p loose mean mg mb g → (∀ q ∈ news, q.1 < L') → s.heap.objs.size ≤ L' → GKeep news s.heap g →
      wpAny (model prog w) (A.deeper (envOf qual scope L' f cdv)) (execs body (envOf qual scope L' f cdv))
        (fun fl s' => LeaveK h₀ L m g (fun r s'' => Kept news s.heap s''.heap → R r s'') (match fl with | .ret v => v | _ => .none) s')
        (fun e s' => wpAny (model prog w) (A.deeper (envOf qual scope L' f cdv)) (leaving (envOf qual scope L' f cdv) e) (fun _ s'' => R (.error e) s'') (fun e' s'' => R (.error e') s'') s')
        { s with heap := h₁, toks := s.toks + binds.length })
    (hco : scope.isCoroutine = false) (hgen : scope.isGenerator = false) (hk : scope.kind = .function)
    (hcell : ∀ x ∈ scope.names, x.2 ≠ .cell) : codeAny (model prog w) A (.call (.ref f) args) R s := by
  obtain ⟨FG, BG, st, lv⟩ := groundX (R := fun r s'' => Kept news s.heap s''.heap → R r s'') B F N hA hf hke
  have X := X₀.keeps F.keep
  refine codeAny_call_def (fd := fnX name qual params body scope [] dV kV doc pm an cdv ct) (body := body) (binds := binds) hroom (X _ _ ho) rfl ((T.nolimit).keeps F.keep) (codeRec_of X hcd) rfl hbind hcell hloc (fun h₁ hns hk₁ => ?_) hco hgen hk
  exact wpAny_mono (h _ s.heap.objs.size h₁ FG ⟨hns, fun b o e => hk₁ b o (of_hideAll _ e), Nat.le_of_eq (hideAll_size _ _)⟩
    (fun q hq => ⟨hk₁ _ _ (N q hq).1, Nat.ne_of_lt (Heap.lt_size (N q hq).1), hideAll_none _ (List.mem_map_of_mem hq)⟩) BG (X₀.keeps st) (T.keeps st) (fun q hq => Heap.lt_size (N q hq).1) (Nat.le_refl _) (fun b o e nb => hideAll_get _ e nb)) (fun fl s' hl => leave_kept (lv _ _) hl) fun _ _ y => y
theorem enter2CE (B : Below A₀ base outer h₀) (F : Fr h₀ L s.heap m) (X₀ : K.In h₀) (N : News h₀ L s.heap news) (T : Top p loose mean mg mb h₀) (hA : A.frames = some (env :: outer)) (hf : env.frame = some L) (hke : env.scope.kind = .function)
    (ho : K.lookup f = some ⟨oc, od, .func (fnOf name qual params body scope dV kV doc pm an cdv ct), osl⟩) (hcd : codeIn K cdv qual = true) (hroom : A.depth < recursionLimit)
    (hbind : BindsTo s (fnOf name qual params body scope dV kV doc pm an cdv ct) args binds) (hkind : (binds.all fun y => scope.names.lookup y.1 == some .local || scope.names.lookup y.1 == some .cell) = true)
    (hnd : ((cellsFrom 0 scope.names []).map (·.1)).Nodup)
    (h : ∀ g L' h₁ tk cells, Fr h₀ L g m → Fr g L' h₁ (bindL (envOfC qual scope L' f cdv).kindOf binds fun _ => none) → News g L' h₁ (cells ++ news) →
      CellsAre (bindC (envOfC qual scope L' f cdv).kindOf binds fun _ => none) (cellsFrom (L' + 1) scope.names []) cells → Below A base (env :: outer) g → K.In g → Top p loose mean mg mb g → (∀ q ∈ news, q.1 < L') → s.heap.objs.size ≤ L' → GKeep news s.heap g →
      wpAny (model prog w) (A.deeper (envOfC qual scope L' f cdv)) (execs body (envOfC qual scope L' f cdv))
        (fun fl s' => LeaveK h₀ L m g (fun r s'' => Kept news s.heap s''.heap → R r s'') (match fl with | .ret v => v | _ => .none) s')
        (fun e s' => wpAny (model prog w) (A.deeper (envOfC qual scope L' f cdv)) (leaving (envOfC qual scope L' f cdv) e) (fun _ s'' => R (.error e) s'') (fun e' s'' => R (.error e') s'') s')
        { s with heap := h₁, toks := tk })
    (hco : scope.isCoroutine = false) (hgen : scope.isGenerator = false) (hk : scope.kind = .function) : codeAny (model prog w) A (.call (.ref f) args) R s := by
  obtain ⟨FG, BG, st, lv⟩ := groundX (R := fun r s'' => Kept news s.heap s''.heap → R r s'') B F N hA hf hke
  have X := X₀.keeps F.keep
  refine codeAny_call_function hroom (X _ _ ho) rfl hco hgen rfl (codeRec_of X hcd) (hbind _ _ _ _ ?_)
  refine wpAny_newFunctionEnv_cells hk (kindsX hkind _) fun env' he s' x => ?_
  subst he
  refine ⟨((T.nolimit).keeps F.keep).keeps x.toInCall.keep, codeAny_func ?_⟩
  obtain ⟨h₁, tk, rfl, _⟩ := x.done
  have hk₁ := x.toInCall.keep
  obtain ⟨cells, NC, Y⟩ := Cl.news (h₀ := s.heap) (Nat.le_refl _) fun n c hm => ⟨x.cell n c (lookup_of_mem_nodup (cellsFrom_names scope.names 0 (s.heap.objs.size + 1) [] [] rfl ▸ hnd) hm), x.above n c hm⟩
  refine wpAny_mono (h _ s.heap.objs.size h₁ tk cells FG ⟨x.toInCall.ns, fun b o e => hk₁ b o (of_hideAll _ e), Nat.le_of_eq (hideAll_size _ _)⟩ (fun q hq => ?_) Y BG (X₀.keeps st) (T.keeps st) (fun q hq => Heap.lt_size (N q hq).1) (Nat.le_refl _) (fun b o e nb => hideAll_get _ e nb)) (fun fl s' hl => leave_kept (lv _ _) hl) fun _ _ y => y
  rcases List.mem_append.mp hq with hq | hq
  · refine ⟨(NC q hq).1, (NC q hq).2.1, ?_⟩
    cases e : (hideAll s.heap (news.map (·.1))).get? q.1 with
    | none => rfl
    | some o => have := of_hideAll _ e; rw [(NC q hq).2.2] at this; cases this
  · exact ⟨hk₁ _ _ (N q hq).1, Nat.ne_of_lt (Heap.lt_size (N q hq).1), hideAll_none _ (List.mem_map_of_mem hq)⟩
end
section
variable {A₀ : Around} {base h₀ h h' g' : Heap} {outer : List Env} {L e t : Addr} {m : Str → Option Value} {env : Env} {cls : Value} {vs : List Value} {news news' small sm ch : List (Addr × Obj)}
theorem raised_up (B : Below A₀ base outer h₀) (F : Fr h₀ L h m) (N : News h₀ L h news) (hf : env.frame = some L)
    (R : RaisedS base g' (env :: outer) e cls t vs sm h') (U : g'.UpToSlots h') (hg : GKeep small h g') (c : Chg ch news news') (hin : ∀ q ∈ small, q ∈ news)
    (hs : ∀ q ∈ small, (∃ x ∈ ch, x.1 = q.1) ∨ q ∈ sm) (he : ∀ x ∈ ch, x ∈ sm) :
    Fr h₀ L (hideAll h (news.map (·.1))) m ∧ RaisedS base (hideAll h (news.map (·.1))) (env :: outer) e cls t vs news' h' ∧ (hideAll h (news.map (·.1))).UpToSlots h' := by
  obtain ⟨⟨Bh, hB, hBG, hl, hfl, hnew⟩, htup⟩ := R
  have sub2 : ∀ b o, (hideAll h (news.map (·.1))).get? b = some o → g'.get? b = some o := fun b o q => hg b o (of_hideAll _ q) fun hm => by
    obtain ⟨x, hx, ex⟩ := List.mem_map.mp hm
    have z := hideAll_none (news.map (·.1)) (h := h) (List.mem_map_of_mem (f := (·.1)) (hin x hx))
    rw [ex, q] at z
    cases z
  have nf : ∀ p ∈ news, p.1 ∉ (env :: outer).filterMap (·.frame) := fun p hp hm => by
    rcases memX hf hm with z | z
    · exact (N p hp).2.1 z
    · obtain ⟨o, ho, _⟩ := (B.frames.mem z).2
      rw [(N p hp).2.2] at ho; cases ho
  obtain ⟨oL, es, ep, hL, r⟩ := F.ns
  refine ⟨⟨⟨oL, es, ep, hideAll_get _ hL (fun q => ?_), r⟩, fun b o q => hideAll_get _ (F.keep b o q) (fun hm => ?_), F.above⟩, ⟨⟨Bh, hB, fun b o q nm => hBG b o (sub2 b o q) nm, fun p hp => ?_, hfl, hnew⟩, htup⟩, fun b o q nq => U b o (sub2 b o q) nq⟩
  · obtain ⟨x, hx, ex⟩ := List.mem_map.mp q
    exact (N x hx).2.1 ex
  · obtain ⟨x, hx, ex⟩ := List.mem_map.mp hm
    have z := (N x hx).2.2
    rw [ex, q] at z
    cases z
  · rcases c p hp with ⟨h1, q, hq, ex⟩ | ⟨h1, h2⟩
    · have z := hl p (he p h1)
      exact ⟨z.1, hideAll_none _ (ex ▸ List.mem_map_of_mem (f := (·.1)) hq), z.2.2⟩
    · refine ⟨?_, hideAll_none _ (List.mem_map_of_mem h1), fresh_of_stays B.stays (N p h1).2.2⟩
      by_cases hm : p.1 ∈ small.map (·.1)
      · obtain ⟨q, hq, ex⟩ := List.mem_map.mp hm
        rcases hs q hq with ⟨x, hx, e2⟩ | hsm
        · exact absurd (e2.trans ex).symm (h2 x hx)
        · have z := (hl q hsm).1
          have y := (N q (hin q hq)).1
          rw [ex] at y z
          rw [(N p h1).1] at y
          rw [z, y]
      · exact hBG _ _ (hg _ _ (N p h1).1 hm) (nf p h1)
end
end Mine
namespace Mine
open PySem PySem.W PyProof.Rows
theorem fresh_all {h₀ h g' : Heap} {L D : Addr} {small news : List (Addr × Obj)} (N : News h₀ L h news) (hGK : GKeep small h g') (z : g'.get? D = none) (hs : ∀ p ∈ small, p.1 ≠ D) : ∀ p ∈ news, p.1 ≠ D := by
  intro p hp e
  by_cases hm : p.1 ∈ small.map (·.1)
  · obtain ⟨q, hq, ex⟩ := List.mem_map.mp hm
    exact hs q hq (ex.trans e)
  · have y := hGK _ _ (N p hp).1 hm
    rw [e, z] at y
    cases y
theorem news_cons {h₀ h : Heap} {L : Addr} {x : Addr × Obj} {l : List (Addr × Obj)} (a : h.get? x.1 = some x.2 ∧ x.1 ≠ L ∧ h₀.get? x.1 = none) (N : News h₀ L h l) : News h₀ L h (x :: l) := fun p hp => by
  rcases List.mem_cons.mp hp with rfl | hp
  · exact a
  · exact N p hp
theorem nn_none {h₀ h : Heap} {L : Addr} {l : List (Addr × Obj)} (N : News h₀ L h l) {x : Addr} {o : Obj} (hm : (x, o) ∈ l) : h₀.get? x = none := (N _ hm).2.2
theorem mv1 : Int.fdiv ((2 : Int) * (8 * 16384) + Int.fdiv (2 * ((16384 * 16384 + 0 * 0) * 1) + 16384) (2 * 16384)) (2 * Int.fdiv (2 * ((16384 * 16384 + 0 * 0) * 1) + 16384) (2 * 16384)) = 8 := by decide
theorem mv2 {x0 : Int} (h : 0 ≤ x0 ∧ x0 ≤ 100) : (x0 + 8 + 2147483648).fmod 4294967296 - 2147483648 = x0 + 8 := by
  rw [Int.fmod_eq_emod_of_nonneg _ (by decide)]
  omega
theorem mv3 : ((0 : Int) + 2147483648).fmod 4294967296 - 2147483648 = 0 := by decide
end Mine
end

section
open PySem PySem.W PyProof.Rows
set_option maxHeartbeats 4000000
namespace Mine
open PySem.Calls PySem.Spec
/-- a def's table of code objects: nothing yet (z is any object), or the lambda's code object z -/
noncomputable def LSt (qual : Str) (pos : Pos) (oP : Obj) (z : Addr) (oz : Obj) : Prop :=
  oP = tabObj #[] ∨ (oP = tabObj #[rawInt pos.line, rawInt pos.col, .ref z] ∧ ∃ vs t, oz.data = .fields vs ∧ vs[1]? = some (.str qual t))
section
variable {M : Model} {A : Around} {E : Value → Shared → Prop} {s : Shared} {h₀ : Heap} {L a c P z : Addr} {m mg mb : Str → Option Value} {cn : Str} {cs : Scope} {ccd : Value} {cl : List (Str × Addr)} {news : List (Addr × Obj)} {p : Program} {loose : List Str} {mean : ExcName → Option Value}
  {name qual : Str} {params : Arguments} {body : Expr} {scope : Scope} {pos : Pos} {firstLine : Nat} {clos : List (Str × Addr)} {oP oz : Obj} {g : Obj → List (Addr × Obj)}
theorem lam_any {prog : Program} {w : World} {Q : Value → Shared → Prop} (F : Fr h₀ L s.heap m) (N : News h₀ L s.heap news) (T : Top p loose mean mg mb h₀) (C : CodeHd h₀ c P) (hcd : ccd = .ref c) (U : UpdF P oP news g) (hz : (z, oz) ∈ news) (st : LSt qual pos oP z oz)
    (hcl : closureFor scope (envX cn cs L a ccd cl) = pure clos)
    (h : ∀ f c' oc ctv h' tk vs t, Fr h₀ L h' m → News h₀ L h' ((f, kla_obj name qual params body scope clos ((mg "__name__").getD .none) c' ctv) :: (c', oc) :: g (tabObj #[rawInt pos.line, rawInt pos.col, .ref c'])) →
      oc.data = .fields vs → vs[1]? = some (.str qual t) → (∀ q ∈ news, q.1 < f) → (∀ q ∈ news, q.1 ≠ z → q.1 ≠ c') → ((oP = tabObj #[] → ∀ q ∈ news, q.1 ≠ c') ∧ (oP ≠ tabObj #[] → c' = z ∧ oc = oz)) → Q (.ref f) { s with heap := h', toks := tk }) :
    wpAny (model prog w) A (makeFunction name qual params (.expr body) scope (envX cn cs L a ccd cl) [] [] [] pos firstLine) Q E s := by
  rcases st with rfl | ⟨rfl, vs, t, hd, hv⟩
  · refine kla_nest F N T C hcd U trivial rfl hcl fun f c' oc vs t ctv h' tk F' N' d1 d2 l1 l2 => ?_
    exact h f c' oc ctv h' tk vs t F' N' d1 d2 (fun q hq => Nat.lt_trans (l1 q hq) l2) (fun q hq _ => Nat.ne_of_lt (l1 q hq)) ⟨fun _ q hq => Nat.ne_of_lt (l1 q hq), fun n => absurd rfl n⟩
  · obtain ⟨own, rest, e, hg, h1, h2⟩ := U.split
    have hP : (P, tabObj #[rawInt pos.line, rawInt pos.col, .ref z]) ∈ news := by rw [e]; exact List.mem_append_right _ (.head _)
    refine kla_hit (c' := z) F N T C hcd hP (by simp [TriplesOk, rawInt]) (by simp [codeAmong, rawInt]) hcl fun f ctv h' tk F' N' l1 => ?_
    refine h f z oz ctv h' tk vs t F' (fun q hq => ?_) hd hv l1 (fun q _ n => n) ⟨fun e => absurd e (by simp [tabObj]), fun _ => ⟨rfl, rfl⟩⟩
    rcases List.mem_cons.mp hq with rfl | hq
    · exact N' _ List.mem_cons_self
    rcases List.mem_cons.mp hq with rfl | hq
    · exact N' _ (List.mem_cons_of_mem _ hz)
    · refine N' _ (List.mem_cons_of_mem _ ?_)
      rw [hg] at hq
      rw [e]
      exact hq
end
section
variable {prog : Program} {w : World} {A : Around} {E : Value → Shared → Prop} {s : Shared} {h₀ : Heap} {L : Addr} {m : Str → Option Value} {news : List (Addr × Obj)}
theorem max_to {a b k : Int} {t u : Tok} {Q : Value → Shared → Prop} (hh : A.handled = none) (F : Fr h₀ L s.heap m) (N : News h₀ L s.heap news) (e : (if b > a then b else a) = k)
    (h : ∀ t' h' tk, Fr h₀ L h' m → News h₀ L h' news → Q (.int k t') { s with heap := h', toks := tk }) :
    wpAny (model prog w) A (call (.builtin "max") [.int a t, .int b u]) Q E s := by
  refine max_two_N hh F N fun h' tk F' N' => ?_
  rw [e]
  exact h _ h' tk F' N'
theorem max_ge {a b : Int} (h : b ≤ a) : (if b > a then b else a) = a := if_neg (by omega)
theorem max_le {a b : Int} (h : a ≤ b) : (if b > a then b else a) = b := by
  split <;> omega
theorem AllHNz {c z : Addr} : ∀ {l : List (Addr × Obj)}, (∀ q ∈ l, q.1 ≠ z → q.1 ≠ c) → (∀ q ∈ l, HN q.1 z) → AllHN c l
  | [], _, _ => trivial
  | _ :: _, h, k => ⟨h _ (.head _) (k _ (.head _)), AllHNz (fun q hq => h q (.tail _ hq)) fun q hq => k q (.tail _ hq)⟩
end
end Mine
namespace Mine
open PySem PySem.W PyProof.Rows
/-- the qualified name and the place of the lambda of _law_count_right -/
noncomputable abbrev LQ : Str := Str.ofString "_law_count_right" ++ ".<locals>." ++ "<lambda>"
noncomputable abbrev LP : Pos := ⟨259, 23, 259, 47⟩
end Mine
namespace Mine
open PySem PySem.W PyProof.Rows PySem.Calls PySem.Spec
section
variable {M : Model} {A : Around} {E : Value → Shared → Prop} {s : Shared} {h₀ : Heap} {L a c P z : Addr} {m mg mb : Str → Option Value} {cn : Str} {cs : Scope} {ccd : Value} {cl : List (Str × Addr)} {nz : List (Addr × Obj)} {p : Program} {loose : List Str} {mean : ExcName → Option Value}
  {name qual : Str} {params : Arguments} {body : Expr} {scope : Scope} {pos : Pos} {firstLine : Nat} {clos : List (Str × Addr)} {oP oz : Obj} {g : Obj → List (Addr × Obj)}
theorem hl_of : ∀ {l : List (Addr × Obj)} {d : Addr}, (∀ p ∈ l, p.1 < d) → AllHL d l := allHL
theorem lam_any2 {prog : Program} {w : World} {Q : Value → Shared → Prop} (F : Fr h₀ L s.heap m) (N : News h₀ L s.heap ((z, oz) :: nz)) (T : Top p loose mean mg mb h₀) (C : CodeHd h₀ c P) (hcd : ccd = .ref c) (U : UpdF P oP ((z, oz) :: nz) g) (hnz : AllHN z nz) (st : LSt qual pos oP z oz)
    (hcl : closureFor scope (envX cn cs L a ccd cl) = pure clos)
    (h : ∀ f c' oc ctv h' tk vs t, Fr h₀ L h' m → News h₀ L h' ((f, kla_obj name qual params body scope clos ((mg "__name__").getD .none) c' ctv) :: (c', oc) :: g (tabObj #[rawInt pos.line, rawInt pos.col, .ref c'])) →
      oc.data = .fields vs → vs[1]? = some (.str qual t) → AllHL f nz → AllHN c' nz → ((oP = tabObj #[] → HN z c') ∧ (oP ≠ tabObj #[] → c' = z ∧ oc = oz)) → Q (.ref f) { s with heap := h', toks := tk }) :
    wpAny (model prog w) A (makeFunction name qual params (.expr body) scope (envX cn cs L a ccd cl) [] [] [] pos firstLine) Q E s := by
  refine lam_any F N T C hcd U (List.mem_cons_self) st hcl fun f c' oc ctv h' tk vs t F' N' d1 d2 l1 lz hcz => ?_
  refine h f c' oc ctv h' tk vs t F' N' d1 d2 (allHL fun q hq => l1 q (List.mem_cons_of_mem _ hq)) (AllHNz (z := z) (fun q hq => lz q (List.mem_cons_of_mem _ hq)) ?_) ⟨fun e => hcz.1 e _ List.mem_cons_self, hcz.2⟩
  have : ∀ {l : List (Addr × Obj)}, AllHN z l → ∀ q ∈ l, HN q.1 z := by
    intro l
    induction l with
    | nil => exact fun _ _ h => nomatch h
    | cons p r ih =>
      intro x q hq
      rcases List.mem_cons.mp hq with rfl | hq
      · exact x.1
      · exact ih x.2 q hq
  exact this hnz
/-- what stands of a def's record in the heap as it was written decides its parts -/
theorem fn_inj {oc oc2 : Value} {od od2 : Option Addr} {osl osl2 : Array (Option Value)} {n n2 q q2 : Str} {pr pr2 : Arguments} {b1 b2 b3 b4 b5 c1 c2 c3 c4 c5 : Stmt} {r r2 : List Stmt} {sc sc2 : Scope} {dV dV2 kV kV2 doc doc2 pm pm2 cdv cdv2 ct ct2 : Value} {an an2 : Option Addr}
    (e : (some ⟨oc, od, .func (fnOf n q pr (b1 :: b2 :: b3 :: b4 :: b5 :: r) sc dV kV doc pm an cdv ct), osl⟩ : Option Obj) = some ⟨oc2, od2, .func (fnOf n2 q2 pr2 (c1 :: c2 :: c3 :: c4 :: c5 :: r2) sc2 dV2 kV2 doc2 pm2 an2 cdv2 ct2), osl2⟩) :
    q = q2 ∧ sc = sc2 ∧ r = r2 ∧ cdv = cdv2 := by
  simp only [Option.some.injEq, Obj.mk.injEq, Data.func.injEq, FuncData.mk.injEq] at e
  obtain ⟨_, _, ⟨_, h1, _, h2, h3, _⟩, _⟩ := e
  simp_all
theorem fr_at {h : Heap} {x : Str} {v : Value} (F : Fr h₀ L h m) (e : m x = some v) : Fr h₀ L h (fun y => if y = x then some v else m y) := by
  have : (fun y => if y = x then some v else m y) = m := by
    funext y
    split
    · next h => rw [h, e]
    · rfl
  rw [this]
  exact F
end
end Mine
namespace Mine
open PySem PySem.W PyProof.Rows PySem.SeqAt
section
variable {prog : Program} {w : World} {A : Around} {E : Value → Shared → Prop} {s : Shared} {h₀ : Heap} {L : Addr} {m : Str → Option Value} {news : List (Addr × Obj)}
/-- a tuple of two ints -/
noncomputable abbrev pt (i : Int) (t : Nat) (j : Int) (u : Nat) : Obj := { cls := .type "tuple", data := .seq #[.int i t, .int j u] }
theorem reads_pt {h : Heap} {a : Addr} {i j : Int} {t u : Nat} (e : h.get? a = some (pt i t j u)) : Reads h (.ref a) (.tuple [.int i, .int j]) [] :=
  reads_tuple_at e rfl rfl (.cons (.int _ _) (.cons (.int _ _) .nil))
/-- two lists of two points that are the same numbers -/
theorem eq_pts2 {Q : Value → Shared → Prop} {l1 l2 a0 a1 b0 b1 : Addr} {n1 n2 : Nat} {i j k l i' j' k' l' : Int} {t0 t1 t2 t3 t4 t5 t6 t7 : Nat} (N : News h₀ L s.heap news) (m1 : (l1, listOf #[.ref a0, .ref a1] n1) ∈ news) (m2 : (l2, listOf #[.ref b0, .ref b1] n2) ∈ news)
    (m3 : (a0, pt i t0 j t1) ∈ news) (m4 : (a1, pt k t2 l t3) ∈ news) (m5 : (b0, pt i' t4 j' t5) ∈ news) (m6 : (b1, pt k' t6 l' t7) ∈ news) (e1 : i = i') (e2 : j = j') (e3 : k = k') (e4 : l = l') (hu : A.units + 64 < cLine) (h : Q (.bool true) s) :
    wpAny (model prog w) A (compareOp .Eq (.ref l1) (.ref l2)) Q E s := by
  subst e1
  subst e2
  subst e3
  subst e4
  have ra : Reads s.heap (.ref l1) (.list [.tuple [.int i, .int j], .tuple [.int k, .int l]]) (l1 :: ([] ++ ([] ++ []))) :=
    reads_list_at (N _ m1).1 rfl rfl (.cons (reads_pt (N _ m3).1) (.cons (reads_pt (N _ m4).1) .nil))
  have rb : Reads s.heap (.ref l2) (.list [.tuple [.int i, .int j], .tuple [.int k, .int l]]) (l2 :: ([] ++ ([] ++ []))) :=
    reads_list_at (N _ m2).1 rfl rfl (.cons (reads_pt (N _ m5).1) (.cons (reads_pt (N _ m6).1) .nil))
  refine eq_dataH ra rb rfl rfl hu ?_
  have : PyData.eqv (.list [.tuple [.int i, .int j], .tuple [.int k, .int l]]) (.list [.tuple [.int i, .int j], .tuple [.int k, .int l]]) = true := by
    simp [PyData.eqv, PyData.eqvAll]
  rw [this]
  exact h
end
end Mine
end

section
open PySem PySem.W PyProof.Rows PySem.Calls PySem.Spec
namespace Mine
theorem HN_symm {a b : Nat} (h : a ≠ b) : HN b a := fun e => h e.symm
/-- the attributes of a GraphicsState as its __init__ leaves them -/
noncomputable def GsOk (w : World) (o : Obj) (f1 f2 rd : Addr) : Prop := ∃ (f3 : Addr) (k : Nat → Tok), o = dictOf [ent w "freedom" (k 0) (.ref f1), ent w "projection" (k 1) (.ref f2), ent w "dual" (k 2) (.ref f3), ent w "rp0" (k 3) (.int 0 (k 18)), ent w "rp1" (k 4) (.int 0 (k 19)), ent w "rp2" (k 5) (.int 0 (k 20)), ent w "zp0" (k 6) (.int 1 (k 21)), ent w "zp1" (k 7) (.int 1 (k 22)), ent w "zp2" (k 8) (.int 1 (k 23)), ent w "loop" (k 9) (.int 1 (k 24)), ent w "minimum" (k 10) (.int 64 (k 25)), ent w "cut_in" (k 11) (.int 68 (k 26)), ent w "single_cut_in" (k 12) (.int 0 (k 27)), ent w "single_width" (k 13) (.int 0 (k 28)), ent w "delta_base" (k 14) (.int 9 (k 29)), ent w "delta_shift" (k 15) (.int 3 (k 30)), ent w "auto_flip" (k 16) (.bool true), ent w "rounding" (k 17) (.ref rd)] 18
noncomputable def WkOk (w : World) (o : Obj) (gs st e c : Addr) (pp : Int) : Prop := ∃ (sd sc : Addr) (k : Nat → Tok), o = dictOf [ent w "state" (k 0) (.ref gs), ent w "stack" (k 1) (.ref st), ent w "zones" (k 2) (.ref e), ent w "cvt" (k 3) (.ref c), ent w "storage" (k 4) (.ref sd), ent w "ppem" (k 5) (.int pp (k 8)), ent w "point_size" (k 6) (.int 768 (k 9)), ent w "scale" (k 7) (.ref sc)] 8
noncomputable def StOk (w : World) (o : Obj) (nl : Addr) : Prop := ∃ (i0 i1 u0 : Tok), o = dictOf [ent w "most" i0 (.int 64 u0), ent w "numbers" i1 (.ref nl)] 2
noncomputable def ZnOk (w : World) (o : Obj) (org cu to en oc : Addr) : Prop := ∃ (k : Nat → Tok), o = dictOf [ent w "original" (k 0) (.ref org), ent w "current" (k 1) (.ref cu), ent w "touched" (k 2) (.ref to), ent w "ends" (k 3) (.ref en), ent w "on_curve" (k 4) (.ref oc)] 5
/-- a tuple of two ints -/
noncomputable def Pr (o : Obj) (a b : Int) : Prop := ∃ (t u : Tok), o = { cls := .type "tuple", data := .seq #[.int a t, .int b u] }
noncomputable def RdOk (w : World) (o : Obj) (P H R : Int) : Prop := ∃ (t1 t2 t3 tp th tt : Tok), o = dictOf [ent w "period" t1 (.int P tp), ent w "phase" t2 (.int H th), ent w "threshold" t3 (.int R tt)] 3
theorem GsOk.mk {w : World} {f1 f2 rd : Addr} {f3 : Addr} {k0 k1 k2 k3 k4 k5 k6 k7 k8 k9 k10 k11 k12 k13 k14 k15 k16 k17 v0 v1 v2 v3 v4 v5 v6 v7 v8 v9 v10 v11 v12 : Tok} : GsOk w (dictOf [ent w "freedom" k0 (.ref f1), ent w "projection" k1 (.ref f2), ent w "dual" k2 (.ref f3), ent w "rp0" k3 (.int 0 v0), ent w "rp1" k4 (.int 0 v1), ent w "rp2" k5 (.int 0 v2), ent w "zp0" k6 (.int 1 v3), ent w "zp1" k7 (.int 1 v4), ent w "zp2" k8 (.int 1 v5), ent w "loop" k9 (.int 1 v6), ent w "minimum" k10 (.int 64 v7), ent w "cut_in" k11 (.int 68 v8), ent w "single_cut_in" k12 (.int 0 v9), ent w "single_width" k13 (.int 0 v10), ent w "delta_base" k14 (.int 9 v11), ent w "delta_shift" k15 (.int 3 v12), ent w "auto_flip" k16 (.bool true), ent w "rounding" k17 (.ref rd)] 18) f1 f2 rd :=
  ⟨f3, (fun i => (([k0, k1, k2, k3, k4, k5, k6, k7, k8, k9, k10, k11, k12, k13, k14, k15, k16, k17, v0, v1, v2, v3, v4, v5, v6, v7, v8, v9, v10, v11, v12] : List Tok).getD i 0)), rfl⟩
theorem GsOk.el {w : World} {o : Obj} {f1 f2 rd : Addr} (h : GsOk w o f1 f2 rd) : ∃ (f3 : Addr) (k : Nat → Tok), o = dictOf [ent w "freedom" (k 0) (.ref f1), ent w "projection" (k 1) (.ref f2), ent w "dual" (k 2) (.ref f3), ent w "rp0" (k 3) (.int 0 (k 18)), ent w "rp1" (k 4) (.int 0 (k 19)), ent w "rp2" (k 5) (.int 0 (k 20)), ent w "zp0" (k 6) (.int 1 (k 21)), ent w "zp1" (k 7) (.int 1 (k 22)), ent w "zp2" (k 8) (.int 1 (k 23)), ent w "loop" (k 9) (.int 1 (k 24)), ent w "minimum" (k 10) (.int 64 (k 25)), ent w "cut_in" (k 11) (.int 68 (k 26)), ent w "single_cut_in" (k 12) (.int 0 (k 27)), ent w "single_width" (k 13) (.int 0 (k 28)), ent w "delta_base" (k 14) (.int 9 (k 29)), ent w "delta_shift" (k 15) (.int 3 (k 30)), ent w "auto_flip" (k 16) (.bool true), ent w "rounding" (k 17) (.ref rd)] 18 := h
theorem WkOk.mk {w : World} {gs st e c : Addr} {pp : Int} {sd sc : Addr} {j0 j1 j2 j3 j4 j5 j6 j7 u3 u4 : Tok} : WkOk w (dictOf [ent w "state" j0 (.ref gs), ent w "stack" j1 (.ref st), ent w "zones" j2 (.ref e), ent w "cvt" j3 (.ref c), ent w "storage" j4 (.ref sd), ent w "ppem" j5 (.int pp u3), ent w "point_size" j6 (.int 768 u4), ent w "scale" j7 (.ref sc)] 8) gs st e c pp :=
  ⟨sd, sc, (fun i => (([j0, j1, j2, j3, j4, j5, j6, j7, u3, u4] : List Tok).getD i 0)), rfl⟩
theorem WkOk.el {w : World} {o : Obj} {gs st e c : Addr} {pp : Int} (h : WkOk w o gs st e c pp) : ∃ (sd sc : Addr) (k : Nat → Tok), o = dictOf [ent w "state" (k 0) (.ref gs), ent w "stack" (k 1) (.ref st), ent w "zones" (k 2) (.ref e), ent w "cvt" (k 3) (.ref c), ent w "storage" (k 4) (.ref sd), ent w "ppem" (k 5) (.int pp (k 8)), ent w "point_size" (k 6) (.int 768 (k 9)), ent w "scale" (k 7) (.ref sc)] 8 := h
theorem ZnOk.mk {w : World} {org cu to en oc : Addr} {g0 g1 g2 g3 g4 : Tok} : ZnOk w (dictOf [ent w "original" g0 (.ref org), ent w "current" g1 (.ref cu), ent w "touched" g2 (.ref to), ent w "ends" g3 (.ref en), ent w "on_curve" g4 (.ref oc)] 5) org cu to en oc :=
  ⟨(fun i => (([g0, g1, g2, g3, g4] : List Tok).getD i 0)), rfl⟩
theorem ZnOk.el {w : World} {o : Obj} {org cu to en oc : Addr} (h : ZnOk w o org cu to en oc) : ∃ (k : Nat → Tok), o = dictOf [ent w "original" (k 0) (.ref org), ent w "current" (k 1) (.ref cu), ent w "touched" (k 2) (.ref to), ent w "ends" (k 3) (.ref en), ent w "on_curve" (k 4) (.ref oc)] 5 := h
theorem row_grid : Row (Str.ofString "grid") 64 0 32 := .inl ⟨rfl, rfl, rfl, rfl⟩
theorem row_half : Row (Str.ofString "half grid") 64 32 32 := .inr (.inl ⟨rfl, rfl, rfl, rfl⟩)
theorem row_double : Row (Str.ofString "double grid") 32 0 16 := .inr (.inr (.inl ⟨rfl, rfl, rfl, rfl⟩))
theorem row_down : Row (Str.ofString "down") 64 0 0 := .inr (.inr (.inr (.inl ⟨rfl, rfl, rfl, rfl⟩)))
theorem row_up : Row (Str.ofString "up") 64 0 63 := .inr (.inr (.inr (.inr (.inl ⟨rfl, rfl, rfl, rfl⟩))))
theorem row_off : Row (Str.ofString "off") 0 0 0 := .inr (.inr (.inr (.inr (.inr ⟨rfl, rfl, rfl, rfl⟩))))
noncomputable abbrev tri (P : Int) (x : Tok) (H : Int) (y : Tok) (R : Int) (z : Tok) : Obj := { cls := .type "tuple", data := .seq #[.int P x, .int H y, .int R z] }
/-- the law's own reading of the six roundings, of a number not below nought -/
noncomputable def lawr (n P H R : Int) : Int := if P = 0 then n else Int.fdiv (n - H + R) P * P + H
theorem cut_val {M : Model} {A : Around} {E Q : Value → Shared → Prop} {s : Shared} {wd : Str} {P H R n : Int} {u : Tok} {d : Addr} {value slice : PySem.Expr} (hb : Row wd P H R)
    (h1 : ∀ wd P H R, Row wd P H R → wpAny M A (subscriptTail value slice (.ref d) (.str wd u)) (fun v s' => ∃ t tk, v = Value.int (lawr n P H R) t ∧ s' = { s with toks := tk }) E s)
    (h2 : ∀ t tk, Q (.int (lawr n P H R) t) { s with toks := tk }) : wpAny M A (subscriptTail value slice (.ref d) (.str wd u)) Q E s :=
  wpAny_mono (h1 _ _ _ _ hb) (fun v s' h => by obtain ⟨t, tk, rfl, rfl⟩ := h; exact h2 t tk) fun _ _ z => z
section
variable {M : Model} {A : Around} {E Q : Value → Shared → Prop} {s : Shared} {news : List (Addr × Obj)}
theorem cut_row {wd : Str} {P H R : Int} {u : Tok} {d : Addr} {value slice : PySem.Expr} {h₀ : Heap} {L : Addr} (hb : Row wd P H R) (_N : News h₀ L s.heap news)
    (h1 : ∀ wd P H R, Row wd P H R → wpAny M A (subscriptTail value slice (.ref d) (.str wd u)) (fun v s' => ∃ a x y z tk, v = Value.ref a ∧ (a, tri P x H y R z) ∈ news ∧ s' = { s with toks := tk }) E s)
    (h2 : ∀ a x y z tk, (a, tri P x H y R z) ∈ news → Q (.ref a) { s with toks := tk }) : wpAny M A (subscriptTail value slice (.ref d) (.str wd u)) Q E s :=
  wpAny_mono (h1 _ _ _ _ hb) (fun v s' h => by obtain ⟨a, x, y, z, tk, rfl, m, rfl⟩ := h; exact h2 a x y z tk m) fun _ _ z => z
theorem cut_notin {wd : Str} {P H R : Int} {t : Tok} {d : Addr} (hb : Row wd P H R)
    (h1 : ∀ wd P H R, Row wd P H R → wpAny M A (compareOp .NotIn (.str wd t) (.ref d)) (fun v s' => ∃ tk, v = Value.bool false ∧ s' = { s with toks := tk }) E s)
    (h2 : ∀ tk, Q (.bool false) { s with toks := tk }) : wpAny M A (compareOp .NotIn (.str wd t) (.ref d)) Q E s :=
  wpAny_mono (h1 _ _ _ _ hb) (fun v s' h => by obtain ⟨tk, rfl, rfl⟩ := h; exact h2 tk) fun _ _ z => z
end
end Mine
end

section
open PySem PySem.W PyProof.Rows
namespace Mine
/-- the first and the last entry of a ledger -/
noncomputable def ends2 (l : List (Addr × Obj)) : List (Addr × Obj) := l.take 1 ++ l.drop (l.length - 1)
theorem keep2 {h₀ h : Heap} {L : Addr} {l : List (Addr × Obj)} (N : News h₀ L h l) : News h₀ L h (ends2 l) := fun p hp => N p ((List.mem_append.mp hp).elim List.mem_of_mem_take List.mem_of_mem_drop)
end Mine
end

open PySem PySem.W PyProof.Rows
section
local macro_rules | `(tactic| walk_at $s:str) => do let t := Lean.Syntax.mkStrLit ("m " ++ s.getString); `(tactic| k_extra $t)
local macro_rules | `(tactic| kby_size) => `(tactic| k_extra "kby_size")
local macro_rules | `(tactic| kxi_size) => `(tactic| k_extra "kxi_size")
local macro_rules | `(tactic| news_mem) => `(tactic| k_mem)
local macro_rules | `(tactic| k_upd) => `(tactic| k_extra "k_upd")
local macro_rules | `(tactic| k_updF) => `(tactic| k_extra "k_updF")
local macro_rules | `(tactic| k_room) => `(tactic| k_extra "k_room")
local macro_rules | `(tactic| k_gentoks) => `(tactic| k_extra "k_gentoks")
local macro_rules | `(tactic| k_steps) => `(tactic| k_extra "k_steps")
local macro_rules | `(tactic| k_mem) => `(tactic| k_extra "k_mem")
local macro_rules | `(tactic| k_in) => `(tactic| k_extra "k_in")
local macro_rules | `(tactic| lcg_src) => `(tactic| k_extra "lcg_src")
local macro_rules | `(tactic| lcg_sub) => `(tactic| k_extra "lcg_sub")
local macro_rules | `(tactic| lcg_off) => `(tactic| k_extra "lcg_off")
local macro_rules | `(tactic| k_enter) => `(tactic| k_extra "k_enter")
local macro_rules | `(tactic| k_lt $h:ident) => do let n := Lean.mkIdent `hLtQZ; `(tactic| first | (revert $h; intro $n:ident; k_extra "k_lt") | skip)
local macro_rules | `(tactic| k_lt2 $h:ident) => `(tactic| (replace $h := Mine.HL.mk $h))
local macro_rules | `(tactic| k_ne) => `(tactic| k_extra "k_ne")
local macro_rules | `(tactic| k_all) => `(tactic| k_extra "k_all")
theorem Mine.reg_base : True := by
  k_with_none
  (k_with "kby_size" => ((first | (refine' (?fY1 : Mine.endo _) ?sY1; (case sY1 => with_reducible ((repeat (first | exact Mine.fi0 | apply Mine.fis)); done)); (case fY1 => (intro _; exact rfl))) | fail "no place")))
  (k_with "kxi_size" => ((first | (refine' Mine.imx ?eY2; (case eY2 => (refine' (?fY2 : Mine.endo _) ?sY2; (case sY2 => with_reducible ((repeat (first | exact Mine.fm0 | apply Mine.fms)); done)); (case fY2 => (intro _; exact rfl))))) | fail "no place")))
  (k_with "k_upd" => (first | (refine' Upd.head ?aY3; (case aY3 => k_all)) | (refine' Mine.upd_tl ?aY3 ?bY3; (case aY3 => k_ne); (case bY3 => k_upd))))
  (k_with "k_updF" => (first | (refine' UpdF.head ?aY4; (case aY4 => k_all)) | (refine' Mine.updF_tl ?aY4 ?bY4; (case aY4 => k_ne); (case bY4 => k_updF))))
  (k_with "k_room" => ((k_dflt (exact Mine.room_of rfl))))
  (k_with "k_gentoks" => ((with_reducible refine Mine.gen_tok ?_; intro tkZ)))
  (k_with "k_steps" => (repeat' (first | ((fail_if_success (goal_lacks PySem.Shared.mk)); (with_reducible refine Mine.wp_letS ?_); intro skZ; (try ((fail_if_success (fail_if_success k_fold)); with_reducible refine Mine.wp_letq ?_; intro qkZ))) | ((fail_if_success (fail_if_success k_unfold)); (with_reducible refine (?_ : wpAny _ _ _ _ _ _))) | (k_unfold; (try dsimp only)) | (k_end; wrow_close) | walk1 | (dsimp only; walk1) | (leave1; walk_say "STEP leave1"; try dsimp only) | fail "no step")))
  (k_with "k_mem" => (((repeat (refine List.mem_cons_of_mem _ ?_)); ktr_member)))
  (k_with "k_in" => (first | with_reducible assumption | (refine' Frag.In.keeps ?xXY9 (Fr.keep ?xFY9); (case xFY9 => with_reducible assumption); (case xXY9 => with_reducible assumption))))
  (k_with "lcg_src" => (first | exact True.intro | exact Or.inr ⟨_, by k_mem, rfl, _, rfl⟩ | exact Or.inl (Or.inl (by with_reducible assumption)) | exact Or.inl (by with_reducible assumption)))
  (k_with "lcg_sub" => ((repeat' (first | exact List.forall_mem_nil _ | (refine Mine.fa_cons ?_ ?_) | k_mem))))
  (k_with "lcg_off" => ((repeat' (first | exact True.intro | (refine And.intro ⟨?_, ?_, ?_⟩ ?_) | k_ne))))
  (k_with "k_enter" => ((refine' code_def ?k1Y13 ?k2Y13 ?k3Y13 ?k4Y13 ?k5Y13 ?kAY13 ?kFY13 ?kKY13 ?k6Y13 ?k7Y13 ?k8Y13 ?k9Y13 ?kBY13 ?_ ?c2Y13 ?c3Y13 ?c4Y13 ?c5Y13; (case kAY13 => exact rfl); (case kFY13 => exact rfl); (case kKY13 => assumption); (case k1Y13 => k_asm); (case k2Y13 => k_asm); (case k3Y13 => k_asm); (case k4Y13 => k_asm); (case k5Y13 => k_asm); (case k6Y13 => k_is); (case k7Y13 => k_is); (case k8Y13 => k_room); (case k9Y13 => first | exact BindsTo.of_eq rfl | exact binds_K (by k_in) rfl (by k_is) rfl rfl rfl | fail "k_enter: no rule for these arguments"); (case c5Y13 => decide); (case kBY13 => exact locs rfl); (case c2Y13 => exact rfl); (case c3Y13 => exact rfl); (case c4Y13 => exact rfl); k_whole; intro g'Z L'Z h'Z FG'Z F'Z N'Z B'Z X'Z T'Z; (try dsimp only); (try k_lift B'Z); first | (refine Mine.wp_enter ?_; intro evZ AwZ qkZ ekZ) | k_fold | skip)))
  (k_with "k_enter" => ((refine' code_defC ?k1Y14 ?k2Y14 ?k3Y14 ?k4Y14 ?k5Y14 ?kAY14 ?kFY14 ?kKY14 ?k6Y14 ?k7Y14 ?k8Y14 ?k9Y14 ?kBY14 ?kDY14 ?_ ?c2Y14 ?c3Y14 ?c4Y14; (case kAY14 => exact rfl); (case kFY14 => exact rfl); (case kKY14 => assumption); (case k1Y14 => k_asm); (case k2Y14 => k_asm); (case k3Y14 => k_asm); (case k4Y14 => k_asm); (case k5Y14 => k_asm); (case k6Y14 => k_is); (case k7Y14 => k_is); (case k8Y14 => k_room); (case k9Y14 => first | exact BindsTo.of_eq rfl | exact binds_K (by k_in) rfl (by k_is) rfl rfl rfl | fail "k_enter: no rule for these arguments"); (case kBY14 => exact rfl); (case kDY14 => decide +kernel); (case c2Y14 => exact rfl); (case c3Y14 => exact rfl); (case c4Y14 => exact rfl); k_whole; intro g'Z L'Z h'Z tk'Z cells'Z FG'Z F'Z N'Z Y'Z B'Z X'Z T'Z l1Z; (try k_lt l1Z); k_cells Y'Z; (try simp only [List.cons_append, List.nil_append] at N'Z); (try dsimp only); (try k_lift B'Z); first | (refine Mine.wp_enter ?_; intro evZ AwZ qkZ ekZ) | k_fold | skip)))
  (k_with "k_lt" => ((first | replace hLtQZ := Mine.rawA hLtQZ | replace hLtQZ := Mine.raw1 hLtQZ | replace hLtQZ := Mine.rawL hLtQZ | ((have _ := hLtQZ 0 _ (by with_unfolding_all exact Eq.refl (some _)); (try (have _ := hLtQZ 1 _ (by with_unfolding_all exact Eq.refl (some _)); (try (have _ := hLtQZ 2 _ (by with_unfolding_all exact Eq.refl (some _)); (try (have _ := hLtQZ 3 _ (by with_unfolding_all exact Eq.refl (some _)); (try (have _ := hLtQZ 4 _ (by with_unfolding_all exact Eq.refl (some _)); (try (have _ := hLtQZ 5 _ (by with_unfolding_all exact Eq.refl (some _)); (try (have _ := hLtQZ 6 _ (by with_unfolding_all exact Eq.refl (some _)); (try (have _ := hLtQZ 7 _ (by with_unfolding_all exact Eq.refl (some _)); (try (have _ := hLtQZ 8 _ (by with_unfolding_all exact Eq.refl (some _)); (try (have _ := hLtQZ 9 _ (by with_unfolding_all exact Eq.refl (some _)); (try (have _ := hLtQZ 10 _ (by with_unfolding_all exact Eq.refl (some _)); (try (have _ := hLtQZ 11 _ (by with_unfolding_all exact Eq.refl (some _)); (try (have _ := hLtQZ 12 _ (by with_unfolding_all exact Eq.refl (some _)); (try (have _ := hLtQZ 13 _ (by with_unfolding_all exact Eq.refl (some _)); (try (have _ := hLtQZ 14 _ (by with_unfolding_all exact Eq.refl (some _))))))))))))))))))))))))))))))); clear hLtQZ))))
  (k_with "k_ne" => (((first | refine neN ?_ | refine Mine.HN.mk ?_); (try dsimp only); first | (apply Mine.HN.out; with_reducible assumption) | (k_dflt (refine' Mine.off_ne ?hY16 ?eY16; (case hY16 => with_reducible assumption); (case eY16 => kby_size))) | (k_dflt (refine' Mine.off_ne' ?hY16 ?eY16; (case hY16 => with_reducible assumption); (case eY16 => kby_size))) | (k_dflt (refine' Mine.lt_ne ?hY16 ?eY16; (case hY16 => with_reducible assumption); (case eY16 => kby_size))) | (k_dflt (refine' Mine.lt_ne' ?hY16 ?eY16; (case hY16 => with_reducible assumption); (case eY16 => kby_size))) | (apply Mine.HN.out'; with_reducible assumption) | (apply Mine.HL.ne; with_reducible assumption) | (apply Mine.HL.ne'; with_reducible assumption) | (k_dflt (refine' Mine.lt_add1 ?hY16 ?eY16; (case hY16 => with_reducible assumption); (case eY16 => kby_size))) | (k_dflt (refine' Mine.lt_add1' ?hY16 ?eY16; (case hY16 => with_reducible assumption); (case eY16 => kby_size))) | (k_dflt (refine' Mine.lt_add2 ?hY16 ?eY16; (case hY16 => with_reducible assumption); (case eY16 => kby_size))) | (k_dflt (refine' Mine.lt_add2' ?hY16 ?eY16; (case hY16 => with_reducible assumption); (case eY16 => kby_size))) | (k_dflt (refine' Mine.lt_add3 ?hY16 ?eY16; (case hY16 => with_reducible assumption); (case eY16 => kby_size))) | (k_dflt (refine' Mine.lt_add3' ?hY16 ?eY16; (case hY16 => with_reducible assumption); (case eY16 => kby_size))) | (k_dflt (refine' Mine.gn_ne ?hY16 ?eY16; (case hY16 => with_reducible assumption); (case eY16 => kby_size))) | (k_dflt (refine' Mine.gn_ne' ?hY16 ?eY16; (case hY16 => with_reducible assumption); (case eY16 => kby_size))) | (apply Mine.HL.ne_add; with_reducible assumption) | (apply Mine.HL.ne_add'; with_reducible assumption) | (apply Mine.HL.ne_add2; with_reducible assumption) | (apply Mine.HL.ne_add2'; with_reducible assumption) | (apply Mine.HL.ne_add3; with_reducible assumption) | (apply Mine.HL.ne_add3'; with_reducible assumption) | with_reducible assumption | (apply Ne.symm; with_reducible assumption) | exact Mine.add_ne rfl | omega)))
  (k_with "k_all" => (first | (apply Mine.AllHL.ne; with_reducible assumption) | (refine Mine.all_ne ?_; with_reducible assumption) | with_reducible assumption | (repeat' (first | exact List.forall_mem_nil _ | (refine Mine.fa_ne ?_ ?_) | (refine Mine.fa_cons ?_ ?_) | k_ne))))
  (k_with "k_mem" => ((k_dflt kxi_size)))
  (k_with "m subscriptTail" => (k_here; (with_reducible show wpAny _ _ (subscriptTail _ _ (Value.ref _) (Value.int _ _)) _ _ _); (first | (with_unfolding_all refine' item_litK ?k1Y19 ?k2Y19 ?k3Y19 ?k4Y19 ?_ ?k6Y19; (case k1Y19 => (k_dflt (refine' News.isList ?N9Y19 ?m9Y19; (case N9Y19 => k_asm); (case m9Y19 => k_mem)))); (case k2Y19 => decide); (case k3Y19 => decide); (case k4Y19 => rfl); (case k6Y19 => with_unfolding_all rfl); k_whole) | k_dflt (refine' item_tupleT ?tY19 ?aY19 ?bY19 ?cY19 ?dY19 ?_; (case tY19 => exact News.isTup (by k_asm) (by k_mem)); (case aY19 => decide); (case bY19 => decide); (case cY19 => rfl); (case dY19 => rfl); k_whole))))
  (k_with "m getMethod ref" => (k_here; k_dflt (refine' method_inst ?k1Y20 ?k2Y20 ?k3Y20 ?k4Y20 ?k5Y20 ?k6Y20 ?k7Y20 ?_; (case k1Y20 => k_asm); (case k2Y20 => k_asm); (case k3Y20 => k_inst); (case k4Y20 => k_is); (case k5Y20 => k_is); (case k6Y20 => k_is); (case k7Y20 => k_get); k_whole)))
  (k_with "m setAttr ref" => (k_here; k_dflt (refine' set_dict ?k1Y21 ?k2Y21 ?k3Y21 ?k4Y21 ?k5Y21 ?k6Y21 ?k7Y21 ?k8Y21 ?k9Y21 ?k10Y21 ?k11Y21 ?k12Y21 ?k13Y21 ?_; (case k1Y21 => k_asm); (case k2Y21 => k_asm); (case k3Y21 => k_asm); (case k4Y21 => k_inst); (case k5Y21 => exact rfl); (case k6Y21 => k_is); (case k7Y21 => k_is); (case k8Y21 => k_is); (case k9Y21 => k_is); (case k10Y21 => k_get); (case k11Y21 => k_put); (case k12Y21 => k_upd); (case k13Y21 => exact Nat.le_of_ble_eq_true rfl); k_whole; intro h'Z F'Z N'Z; (try k_sweep))))
  (k_with "m getAttr ref" => (k_here; k_dflt (refine' get_own ?k1Y22 ?k2Y22 ?k3Y22 ?k4Y22 ?k5Y22 ?k6Y22 ?k7Y22 ?k8Y22 ?k9Y22 ?_; (case k1Y22 => k_asm); (case k2Y22 => k_asm); (case k3Y22 => k_inst); (case k4Y22 => k_is); (case k5Y22 => k_is); (case k6Y22 => k_is); (case k7Y22 => k_is); (case k8Y22 => k_get); (case k9Y22 => k_handed); k_whole)))
  (k_with "m eval Name" => (k_here; k_dflt (first | (name_kind "local"; (refine' nameX_L ?FY23 ?vY23 ?_ ?aY23 ?bY23; (case aY23 => rfl); (case bY23 => rfl); (case FY23 => with_reducible assumption); (case vY23 => rfl); k_whole)) | (name_kind "cell"; (refine' nameX_C ?NY23 ?cY23 ?mY23 ?dY23 ?_ ?aY23 ?bY23; (case aY23 => rfl); (case bY23 => rfl); (case NY23 => k_asm); (case cY23 => rfl); (case mY23 => k_mem); (case dY23 => k_asm); k_whole)) | (name_kind "free"; (kn_here; refine' nameX_F ?NY23 ?cY23 ?mY23 ?dY23 ?_ ?aY23 ?bY23; (case aY23 => rfl); (case bY23 => rfl); (case NY23 => k_asm); (case cY23 => rfl); (case mY23 => k_mem); (case dY23 => k_asm); k_whole)) | (refine' nameX_K ?FY23 ?XY23 ?TY23 ?eY23 ?_ ?aY23 ?bY23; (case aY23 => rfl); (case bY23 => rfl); (case FY23 => k_asm); (case XY23 => k_asm); (case TY23 => k_asm); (case eY23 => k_is); k_whole))))
  (k_with "m exec Assign cons ListComp" => (k_here; with_reducible refine plainObj_wpAny_Assign_Attribute ?_ ?_; rotate_left; with_unfolding_all rfl))
  (k_with "m subscriptTail Attribute Name Constant ref int" => (k_here; (with_reducible show wpAny _ _ (subscriptTail _ _ (Value.ref _) (Value.int _ _)) _ _ _); (first | (with_unfolding_all refine' item_litK ?k1Y25 ?k2Y25 ?k3Y25 ?k4Y25 ?_ ?k6Y25; (case k1Y25 => (k_dflt (refine' News.isList ?N9Y25 ?m9Y25; (case N9Y25 => k_asm); (case m9Y25 => k_mem)))); (case k2Y25 => decide); (case k3Y25 => decide); (case k4Y25 => rfl); (case k6Y25 => with_unfolding_all rfl); k_whole) | k_dflt (refine' item_tupleT ?tY25 ?aY25 ?bY25 ?cY25 ?dY25 ?_; (case tY25 => exact News.isTup (by k_asm) (by k_mem)); (case aY25 => decide); (case bY25 => decide); (case cY25 => rfl); (case dY25 => rfl); k_whole))))
  (k_with "m subscriptTail Name Constant ref int" => (k_here; (with_reducible show wpAny _ _ (subscriptTail _ _ (Value.ref _) (Value.int _ _)) _ _ _); (first | (with_unfolding_all refine' item_litK ?k1Y26 ?k2Y26 ?k3Y26 ?k4Y26 ?_ ?k6Y26; (case k1Y26 => (k_dflt (refine' News.isList ?N9Y26 ?m9Y26; (case N9Y26 => k_asm); (case m9Y26 => k_mem)))); (case k2Y26 => decide); (case k3Y26 => decide); (case k4Y26 => rfl); (case k6Y26 => with_unfolding_all rfl); k_whole) | k_dflt (refine' item_tupleT ?tY26 ?aY26 ?bY26 ?cY26 ?dY26 ?_; (case tY26 => exact News.isTup (by k_asm) (by k_mem)); (case aY26 => decide); (case bY26 => decide); (case cY26 => rfl); (case dY26 => rfl); k_whole))))
  (k_with "m subscriptTail Attribute Name Name ref int" => (k_here; (with_reducible show wpAny _ _ (subscriptTail _ _ (Value.ref _) (Value.int _ _)) _ _ _); (first | (with_unfolding_all refine' item_litK ?k1Y27 ?k2Y27 ?k3Y27 ?k4Y27 ?_ ?k6Y27; (case k1Y27 => (k_dflt (refine' News.isList ?N9Y27 ?m9Y27; (case N9Y27 => k_asm); (case m9Y27 => k_mem)))); (case k2Y27 => decide); (case k3Y27 => decide); (case k4Y27 => rfl); (case k6Y27 => with_unfolding_all rfl); k_whole) | k_dflt (refine' item_tupleT ?tY27 ?aY27 ?bY27 ?cY27 ?dY27 ?_; (case tY27 => exact News.isTup (by k_asm) (by k_mem)); (case aY27 => decide); (case bY27 => decide); (case cY27 => rfl); (case dY27 => rfl); k_whole))))
  (k_with "m subscriptTail Attribute Name Call ref int" => (k_here; (with_reducible show wpAny _ _ (subscriptTail _ _ (Value.ref _) (Value.int _ _)) _ _ _); (first | (with_unfolding_all refine' item_litK ?k1Y28 ?k2Y28 ?k3Y28 ?k4Y28 ?_ ?k6Y28; (case k1Y28 => (k_dflt (refine' News.isList ?N9Y28 ?m9Y28; (case N9Y28 => k_asm); (case m9Y28 => k_mem)))); (case k2Y28 => decide); (case k3Y28 => decide); (case k4Y28 => rfl); (case k6Y28 => with_unfolding_all rfl); k_whole) | k_dflt (refine' item_tupleT ?tY28 ?aY28 ?bY28 ?cY28 ?dY28 ?_; (case tY28 => exact News.isTup (by k_asm) (by k_mem)); (case aY28 => decide); (case bY28 => decide); (case cY28 => rfl); (case dY28 => rfl); k_whole))))
  (k_with "m eval Dict" => (k_here; (with_reducible show wpAny _ _ (eval (Expr.Dict _ (Expr.Tuple _ _ _ :: _) _) _) _ _ _); k_dflt (refine' kdn_str ?qY29 ?FY29 ?NY29 ?bY29 ?aY29 ?lY29 ?eY29 ?nY29 ?_; (case qY29 => rfl); (case FY29 => k_asm); (case NY29 => first | k_asm | exact News.nil); (case bY29 => exact Top.nolimit (by k_asm)); (case aY29 => rfl); (case lY29 => rfl); (case eY29 => exact List.cons_ne_nil _ _); (case nY29 => exact Nat.le_of_ble_eq_true rfl)); intro d'Z h'Z o'Z F'Z N'Z l1Z lo'Z hd'Z; (try k_lt l1Z)))
  (k_with "m call type:list" => (k_here; (with_reducible show wpAny _ _ (call (Value.type _) [Value.ref _]) _ _ _); k_dflt (refine' Mine.list_top ?FY30 ?NY30 ?XY30 ?eY30 ?_ ?zY30; (case FY30 => k_asm); (case NY30 => first | k_asm | exact News.nil); (case XY30 => k_asm); (case eY30 => k_is); (case zY30 => exact Nat.le_of_ble_eq_true rfl)); intro D'Z c'Z h'Z F'Z N'Z l1Z; (try k_lt l1Z); (try k_sweep)))
  (k_with "m CompSrc" => (k_here; k_dflt (refine LCg.CompSrc.ledger (by rfl) (by k_asm) (by k_asm) (by k_mem) (by first | size_fits | exact Nat.le_of_ble_eq_true rfl) ?_; intro g'Z; lcg_lit)))
  (k_with "m call type:tuple" => (k_here; (with_reducible show wpAny _ _ (call (Value.type _) [Value.ref _]) _ _ _); k_dflt (refine' call_tuple_tup ?tY32 ?_; (case tY32 => (refine' News.isTup ?NY32 ?mY32; (case NY32 => k_asm); (case mY32 => k_mem))); k_whole)))
  (k_with "m eval Name" => (k_here; k_dflt (first | (refine' nameX_L ?FY33 ?vY33 ?_ ?aY33 ?bY33; (case aY33 => rfl); (case bY33 => rfl); (case FY33 => with_reducible assumption); (case vY33 => rfl); k_whole) | (refine' nameX_K ?FY33 ?XY33 ?TY33 ?eY33 ?_ ?aY33 ?bY33; (case aY33 => rfl); (case bY33 => rfl); (case FY33 => k_asm); (case XY33 => k_asm); (case TY33 => k_asm); (case eY33 => k_is); k_whole) | (refine' nameX_B ?FY33 ?XY33 ?TY33 ?eY33 ?vY33 ?nY33 ?_ ?aY33 ?bY33; (case FY33 => k_asm); (case XY33 => k_asm); (case TY33 => k_asm); (case aY33 => rfl); (case bY33 => rfl); (case eY33 => k_is); (case vY33 => boot_fast); (case nY33 => decide); k_whole))))
  (k_with "m compareOp Eq ref ref" => (k_here; (with_reducible show wpAny _ _ (compareOp CmpOp.Eq (Value.ref _) (Value.ref _)) _ _ _); k_dflt (refine' eq_intsK ?k1Y34 ?k2Y34 ?k3Y34 ?k4Y34 ?k5Y34 ?_; (case k1Y34 => (refine' News.isList ?NY34 ?mY34; (case NY34 => k_asm); (case mY34 => k_mem))); (case k3Y34 => (refine' News.isList ?NY34 ?mY34; (case NY34 => k_asm); (case mY34 => k_mem))); (case k2Y34 => repeat (first | exact IntsAre.nil | apply IntsAre.cons)); (case k4Y34 => repeat (first | exact IntsAre.nil | apply IntsAre.cons)); (case k5Y34 => exact Nat.le_of_ble_eq_true rfl); k_whole); (try simp only [reduceCtorEq, decide_false, Bool.not_false])))
  (k_with "m compareOp NotEq ref ref" => (k_here; (with_reducible show wpAny _ _ (compareOp CmpOp.NotEq (Value.ref _) (Value.ref _)) _ _ _); k_dflt (refine' ne_intsK ?k1Y35 ?k2Y35 ?k3Y35 ?k4Y35 ?k5Y35 ?_; (case k1Y35 => (refine' News.isList ?NY35 ?mY35; (case NY35 => k_asm); (case mY35 => k_mem))); (case k3Y35 => (refine' News.isList ?NY35 ?mY35; (case NY35 => k_asm); (case mY35 => k_mem))); (case k2Y35 => repeat (first | exact IntsAre.nil | apply IntsAre.cons)); (case k4Y35 => repeat (first | exact IntsAre.nil | apply IntsAre.cons)); (case k5Y35 => exact Nat.le_of_ble_eq_true rfl); k_whole); (try simp only [reduceCtorEq, decide_false, Bool.not_false])))
  (k_with "m CompRest" => (with_unfolding_all (refine LCg.CompRest.succ ?_; intro v'Z I'Z oI'Z C'Z oC'Z D'Z m'Z h'Z tk'Z E'Z hv'Z hC'Z hx'Z F'Z N'Z off'Z ne'Z; (first | lcg_open hv'Z | (obtain ⟨t9'Z, hv9'Z⟩ := hv'Z; subst hv9'Z)); (have of1'Z := Mine.raw3_1 off'Z; have of2'Z := Mine.raw3_2 off'Z; have of3'Z := Mine.raw3_3 off'Z; (k_lt of1'Z); (k_lt of2'Z); (k_lt of3'Z); clear off'Z); (replace ne'Z := Mine.hn3 ne'Z); (obtain ⟨_, _, _⟩ := ne'Z))))
  (k_with "m CompRestT" => (with_unfolding_all (refine LCt.CompRestT.succ ?_; intro v'Z I'Z oI'Z C'Z oC'Z D'Z m'Z h'Z tk'Z E'Z hv'Z hC'Z hx'Z F'Z N'Z off'Z ne'Z; (first | lcg_open hv'Z | (obtain ⟨t9'Z, hv9'Z⟩ := hv'Z; subst hv9'Z)); (have of1'Z := Mine.raw3_1 off'Z; have of2'Z := Mine.raw3_2 off'Z; have of3'Z := Mine.raw3_3 off'Z; (k_lt of1'Z); (k_lt of2'Z); (k_lt of3'Z); clear off'Z); (replace ne'Z := Mine.hn3 ne'Z); (obtain ⟨_, _, _⟩ := ne'Z))))
  (k_with "m FinE" => ((unfold LCg.FinE); intro D'Z h'Z tk'Z F'Z N'Z o1'Z; (k_lt o1'Z); (try simp only [List.nil_append, List.cons_append] at N'Z); (try dsimp only)))
  (k_with "m FinA" => ((unfold LCg.FinA); intro D'Z h'Z tk'Z F'Z N'Z o1'Z; (k_lt o1'Z); (try simp only [List.nil_append, List.cons_append] at N'Z); (try dsimp only)))
  (k_with "m call ref" => (k_here; k_dflt (refine' call_cls ?k1Y40 ?k2Y40 ?k3Y40 ?k4Y40 ?k5Y40 ?k6Y40 ?_; (case k1Y40 => k_asm); (case k2Y40 => k_asm); (case k3Y40 => k_asm); (case k4Y40 => k_is); (case k5Y40 => k_is); (case k6Y40 => k_is); k_whole; intro x'Z d'Z h'Z F'Z N'Z l1Z l2Z; (have l3Z := Mine.lt_both l1Z l2Z); (try k_lt l1Z); (try k_lt l3Z); (try k_lt2 l2Z); (try k_sweep); k_enter)))
  (k_with "m call builtin:len" => (k_here; (with_reducible show wpAny _ _ (call (Value.builtin "len") [Value.ref _]) _ _ _); k_dflt (refine' kun_lenL ?k1Y41 ?k2Y41 ?k3Y41 ?_; (case k1Y41 => (refine' News.isList ?NY41 ?mY41; (case NY41 => k_asm); (case mY41 => k_mem))); (case k2Y41 => kun_count); (case k3Y41 => decide); k_whole)))
  (k_with "m callWith ref cons nil" => (k_here; (try dsimp only); (with_reducible show wpAny _ _ (callWith _ (Value.ref _) _ (backTo _ (starEach [] _)) []) _ _ _); k_dflt (refine' callWith_K0 ?k1Y42 ?k2Y42 ?_; (case k1Y42 => k_in); (case k2Y42 => k_is); k_whole); (try dsimp only [List.nil_append, List.cons_append, List.append_nil])))
  (k_with "m callWith ref nil nil" => (k_here; (try dsimp only); (with_reducible show wpAny _ _ (callWith _ (Value.ref _) _ (backTo _ (starEach [] _)) []) _ _ _); k_dflt (refine' callWith_K0 ?k1Y43 ?k2Y43 ?_; (case k1Y43 => k_in); (case k2Y43 => k_is); k_whole); (try dsimp only [List.nil_append, List.cons_append, List.append_nil])))
  (k_with "m callWith ref nil nil" => (k_here; (with_reducible show wpAny _ _ (callWith _ (Value.ref _) _ (backTo _ (starEach (_ :: _) _)) []) _ _ _); k_dflt (refine' callWith_K ?k1Y44 ?k2Y44 ?_; (case k1Y44 => k_asm); (case k2Y44 => k_is); k_whole)))
  (k_with "m callWith ref cons nil" => (k_here; (with_reducible show wpAny _ _ (callWith _ (Value.ref _) _ (backTo _ (starEach (_ :: _) _)) []) _ _ _); k_dflt (refine' callWith_K ?k1Y45 ?k2Y45 ?_; (case k1Y45 => k_asm); (case k2Y45 => k_is); k_whole)))
  (k_with "m callWith ref nil" => (k_here; (with_reducible show wpAny _ _ (callWith _ (Value.ref _) _ (backTo _ (starEach (_ :: _) _)) []) _ _ _); k_dflt (refine' callWith_K ?k1Y46 ?k2Y46 ?_; (case k1Y46 => k_asm); (case k2Y46 => k_is); k_whole)))
  (k_with "m callWith ref" => (k_here; (with_reducible show wpAny _ _ (callWith _ (Value.ref _) _ (backTo _ (starEach (_ :: _) _)) []) _ _ _); k_dflt (refine' callWith_K ?k1Y47 ?k2Y47 ?_; (case k1Y47 => k_asm); (case k2Y47 => k_is); k_whole)))
  (k_with "m callWith ref nil" => (k_here; (with_reducible show wpAny _ _ (callWith _ (Value.ref _) _ (backTo _ (starEach (_ :: _) _)) (backToKw _ _)) _ _ _); k_dflt (refine' callWith_KW ?k1Y48 ?k2Y48 ?k3Y48 ?_; (case k1Y48 => k_asm); (case k2Y48 => k_is); (case k3Y48 => exact rfl); k_whole)))
  (k_with "m newTuple" => (k_here; k_dflt (refine' kup_newTuple ?FY49 ?NY49 ?_ ?zY49; (case FY49 => k_asm); (case NY49 => k_asm); (case zY49 => kmk_size)); intro D'Z h'Z F'Z N'Z l1Z; (try k_lt l1Z); (try k_sweep)))
  (k_with "m execs cons" => ((with_reducible refine wpAny_execs_cons ?_); (try dsimp only); first | ((refine' Mine.wp_stmt ?FY50 ?NY50 ?_; (case FY50 => with_reducible assumption); (case NY50 => with_reducible assumption)); intro mkZ nkZ qkZ FkZ NkZ) | ((with_reducible refine Mine.wp_letq ?_); intro qkZ)))
  trivial

theorem Mine.reg_x1 : True := by
  (k_with "x1 subscriptTail Name Constant ref int" => (k_here; (with_reducible show wpAny _ _ (subscriptTail _ _ (Value.ref _) (Value.int _ _)) _ _ _); (with_unfolding_all refine' item_litK ?k1Y51 ?k2Y51 ?k3Y51 ?k4Y51 ?_ ?k6Y51; (case k1Y51 => (refine' News.isList ?NY51 ?mY51; (case NY51 => k_asm); (case mY51 => k_mem))); (case k2Y51 => decide); (case k3Y51 => decide); (case k4Y51 => rfl); (case k6Y51 => with_unfolding_all rfl); k_whole)))
  (k_with "x1 binaryOp Mult int int" => (k_here; with_reducible refine Mine.mul_fm ?_))
  trivial
section
local macro_rules | `(tactic| walk_at $s:str) => do let t := Lean.Syntax.mkStrLit ("x1 " ++ s.getString); `(tactic| k_extra $t)
local macro_rules | `(tactic| walk_at $s:str) => do let t := Lean.Syntax.mkStrLit ("x1 " ++ s.getString); `(tactic| k_extra $t)

section
open PySem PySem.W PyProof.Rows
set_option maxHeartbeats 8000000
namespace Mine
section
variable {w : World} {p : Program} {loose : List Str} {mean : ExcName → Option Value} {mg mb : Str → Option Value}
    {gd : Option (List Code)} {cn : Str} {cs : Scope} {a : Addr} {ccd : Value} {cl : List (Str × Addr)} {outer : List Env} {A₀ : Around} {base h₀ : Heap} {L : Addr} {m : Str → Option Value} {news : List (Addr × Obj)} {s : Shared} {Q E : Value → Shared → Prop}
    (B : Below A₀ base outer h₀) (F : Fr h₀ L s.heap m) (X : (Mine.hd.heap_1 w.params).In h₀) (N : News h₀ L s.heap news) (T : Top p loose mean mg mb h₀) (hk : cs.kind = .function)
include B F X N T hk
theorem take_c {src : Addr} {a0 b0 top : Int} {ta tb tt n : Nat} {news' : Int → Tok → Int → Tok → Nat → List (Addr × Obj)} (hs : (src, listOf #[.int a0 ta, .int b0 tb] n) ∈ news) (ha : 0 ≤ a0) (hb : 0 ≤ b0 ∧ b0 < 2147483647) (ht : 1 ≤ top ∧ top ≤ 16)
    (U : ∀ a1 ta1 b1 tb1 n1, Upd src (listOf #[.int a0 ta, .int b0 tb] n) (listOf #[Value.int a1 ta1, Value.int b1 tb1] n1) news (news' a1 ta1 b1 tb1 n1))
    (hret : ∀ r t a1 ta1 b1 tb1 n1 h' tk', 0 ≤ r → r < top → 0 ≤ a1 → (0 ≤ b1 ∧ b1 < 2147483647) → Fr h₀ L h' m → News h₀ L h' (news' a1 ta1 b1 tb1 n1) → Q (.int r t) { s with heap := h', toks := tk' }) :
    wpAny (model PG w) (ktrTop 900 9000 gd cn cs L a ccd cl outer) (call (.ref 405) [.ref src, .int top tt]) Q E s := by
  have hX : Mine.hd.heap_1 = Mine.hd.heap_1 ∧ PySem.Challenge.rw_qz0063_01 = PySem.Challenge.rw_qz0063_01 := by
    k_fill
    exact ⟨rfl, rfl⟩
  clear hX
  have N2 : News h₀ L s.heap [(src, listOf #[.int a0 ta, .int b0 tb] n)] := by
    refine cb_drop N ?_
    repeat' (first | exact List.forall_mem_nil _ | (refine Mine.fa_cons ?_ ?_) | assumption)
  refine wpAny_call ?_
  k_dflt (refine' enter2 ?k1 ?k2 ?k3 ?k4 ?k5 ?kA ?kF ?kK ?k6 ?k7 ?k8 ?k9 ?kB ?_ ?c2 ?c3 ?c4 ?c5; (case kA => exact rfl); (case kF => exact rfl); (case kK => assumption); (case k1 => k_asm); (case k2 => k_asm); (case k3 => k_asm); (case k4 => exact N2); (case k5 => k_asm); (case k6 => k_is); (case k7 => k_is); (case k8 => k_room); (case k9 => exact BindsTo.of_eq rfl); (case c5 => decide); (case kB => exact locs rfl); (case c2 => exact rfl); (case c3 => exact rfl); (case c4 => exact rfl); k_whole; intro g' L' h' FG' F' N' B' X' T' l1' l4'; (try dsimp only); (refine Mine.wp_enter ?_; intro ev Aw qk ek))
  clear F
  k_steps
  all_goals
    (rename Kept _ _ _ => hK)
    (rename News h₀ L _ _ => kN)
    have hsr := (kN _ List.mem_cons_self).1
    refine' hret _ _ _ _ _ _ _ _ _ ?e1 ?e2 ?e3 ?e4 ?e5 (news_upd3 N (U _ _ _ _ _) hK hsr)
    case e5 => assumption
    case e1 => exact (fm_b _ (by omega)).1
    case e2 => exact (fm_b _ (by omega)).2
    case e3 => first | assumption | (rw [Int.fdiv_eq_ediv_of_nonneg _ (by omega)]; exact Int.ediv_nonneg ha (by omega))
    case e4 => first | assumption | exact fm_b _ (by decide)
end
end Mine
end

end

section
open PySem PySem.W PyProof.Rows
set_option maxHeartbeats 8000000
namespace Mine
section
variable {w : World} {p : Program} {loose : List Str} {mean : ExcName → Option Value} {mg mb : Str → Option Value}
    {gd : Option (List Code)} {cn : Str} {cs : Scope} {a : Addr} {ccd : Value} {cl : List (Str × Addr)} {outer : List Env} {A₀ : Around} {base h₀ : Heap} {L : Addr} {m : Str → Option Value} {news : List (Addr × Obj)} {s : Shared} {Q E : Value → Shared → Prop}
    (B : Below A₀ base outer h₀) (F : Fr h₀ L s.heap m) (X : (Mine.hd.heap_1 w.params).In h₀) (N : News h₀ L s.heap news) (T : Top p loose mean mg mb h₀) (hk : cs.kind = .function)
include B F X N T hk
theorem pop_c {st dst nl : Addr} {us : List Value} {l : List Int} {ost : Obj} {n : Nat} {news' : List (Addr × Obj)}
    (hst : (st, instObj 280 dst) ∈ news) (hok : StOk w ost nl) (hds : (dst, ost) ∈ news) (hn : (nl, listOf us.toArray n) ∈ news) (o1 : HN st nl) (o2 : HN dst nl)
    (U : Upd nl (listOf us.toArray n) (listOf us.dropLast.toArray (n + 1)) news news') (hi : IntsAre us l) (hne : 0 < us.length) (hz : us.length ≤ 64)
    (hret : ∀ t h' tk', Fr h₀ L h' m → News h₀ L h' news' → IntsAre us.dropLast l.dropLast → Q (.int (l.getLastD 0) t) { s with heap := h', toks := tk' }) :
    wpAny (model PG w) (ktrTop 900 9000 gd cn cs L a ccd cl outer) (call (.ref 249) [.ref st]) Q E s := by
  have hX : Mine.hd.heap_1 = Mine.hd.heap_1 ∧ PySem.Challenge.rw_qz0063_01 = PySem.Challenge.rw_qz0063_01 := by
    k_fill
    exact ⟨rfl, rfl⟩
  clear hX
  obtain ⟨i0, i1, u0, rfl⟩ := hok
  have N2 : News h₀ L s.heap [(st, instObj 280 dst), (dst, dictOf [ent w "most" i0 (.int 64 u0), ent w "numbers" i1 (.ref nl)] 2), (nl, listOf us.toArray n)] := by
    refine cb_drop N ?_
    repeat' (first | exact List.forall_mem_nil _ | (refine Mine.fa_cons ?_ ?_) | assumption)
  refine wpAny_call ?_
  k_dflt (refine' enter2 ?k1 ?k2 ?k3 ?k4 ?k5 ?kA ?kF ?kK ?k6 ?k7 ?k8 ?k9 ?kB ?_ ?c2 ?c3 ?c4 ?c5; (case kA => exact rfl); (case kF => exact rfl); (case kK => assumption); (case k1 => k_asm); (case k2 => k_asm); (case k3 => k_asm); (case k4 => exact N2); (case k5 => k_asm); (case k6 => k_is); (case k7 => k_is); (case k8 => k_room); (case k9 => exact BindsTo.of_eq rfl); (case c5 => decide); (case kB => exact locs rfl); (case c2 => exact rfl); (case c3 => exact rfl); (case c4 => exact rfl); k_whole; intro g' L' h' FG' F' N' B' X' T' l1' l4'; (try dsimp only); (refine Mine.wp_enter ?_; intro ev Aw qk ek))
  clear F
  k_steps
  · exfalso
    have q : decide (l = []) = true := by assumption
    have q2 := of_decide_eq_true q
    subst q2
    have e := hi.length
    simp only [List.length_nil] at e
    omega
  · (rename Kept _ _ _ => hK)
    (rename News h₀ L _ _ => kN)
    refine hret _ _ _ (by assumption) (news_upd3 N U ?_ (kN (nl, listOf us.dropLast.toArray (n + 1)) (by k_mem)).1) (by assumption)
    have hst2 := (kN (st, instObj 280 dst) (by k_mem)).1
    have hds2 := (kN (dst, dictOf [ent w "most" i0 (.int 64 u0), ent w "numbers" i1 (.ref nl)] 2) (by k_mem)).1
    exact kept3 hK (N _ hst).1 hst2 (N _ hds).1 hds2
theorem pop_e {st dst nl : Addr} {us ws : List Value} {l : List Int} {v : Int} {ost : Obj} {n : Nat} {news' : List (Addr × Obj)}
    (hst : (st, instObj 280 dst) ∈ news) (hok : StOk w ost nl) (hds : (dst, ost) ∈ news) (hn : (nl, listOf us.toArray n) ∈ news) (o1 : HN st nl) (o2 : HN dst nl)
    (he : Ends us ws v) (U : Upd nl (listOf us.toArray n) (listOf ws.toArray (n + 1)) news news') (hi : IntsAre us l) (hz : us.length ≤ 64)
    (hret : ∀ t h' tk', Fr h₀ L h' m → News h₀ L h' news' → Q (.int v t) { s with heap := h', toks := tk' }) :
    wpAny (model PG w) (ktrTop 900 9000 gd cn cs L a ccd cl outer) (call (.ref 249) [.ref st]) Q E s := by
  refine pop_c B F X N T hk hst hok hds hn o1 o2 (by rw [he.drop]; exact U) hi he.pos hz fun t h' tk' F' N' _ => ?_
  rw [he.last hi]
  exact hret t h' tk' F' N'
end
end Mine
end

theorem Mine.reg_x2 : True := by
  (k_with "x2 compareOp NotIn" => (k_here; (with_reducible show wpAny _ _ (compareOp CmpOp.NotIn (Value.str _ _) (Value.ref _)) _ _ _); k_dflt (refine' Mine.cut_notin ?hbY53 ?h1Y53 ?_; (case hbY53 => with_reducible assumption); (case h1Y53 => (intro wd9Z P9Z H9Z R9Z hr9Z; (unfold Mine.Row at hr9Z; rcases hr9Z with ⟨e1Z, e2Z, e3Z, e4Z⟩ | ⟨e1Z, e2Z, e3Z, e4Z⟩ | ⟨e1Z, e2Z, e3Z, e4Z⟩ | ⟨e1Z, e2Z, e3Z, e4Z⟩ | ⟨e1Z, e2Z, e3Z, e4Z⟩ | ⟨e1Z, e2Z, e3Z, e4Z⟩ <;> (subst e1Z e2Z e3Z e4Z; (repeat (first | exact ⟨_, rfl, rfl⟩ | walk1)); done)))); intro tk9Z; (try dsimp only))))
  (k_with "x2 subscriptTail" => (k_here; (with_reducible show wpAny _ _ (subscriptTail _ _ (Value.ref _) (Value.str _ _)) _ _ _); k_dflt (refine' Mine.cut_row ?hbY54 ?NY54 ?h1Y54 ?_; (case hbY54 => with_reducible assumption); (case NY54 => k_asm); (case h1Y54 => (intro wd9Z P9Z H9Z R9Z hr9Z; (unfold Mine.Row at hr9Z; rcases hr9Z with ⟨e1Z, e2Z, e3Z, e4Z⟩ | ⟨e1Z, e2Z, e3Z, e4Z⟩ | ⟨e1Z, e2Z, e3Z, e4Z⟩ | ⟨e1Z, e2Z, e3Z, e4Z⟩ | ⟨e1Z, e2Z, e3Z, e4Z⟩ | ⟨e1Z, e2Z, e3Z, e4Z⟩ <;> (subst e1Z e2Z e3Z e4Z; (repeat (first | exact ⟨_, _, _, _, _, rfl, (by k_mem), rfl⟩ | walk1)); done)))); intro a9Z x9Z y9Z z9Z tk9Z m9Z; (try dsimp only))))
  trivial
section
local macro_rules | `(tactic| walk_at $s:str) => do let t := Lean.Syntax.mkStrLit ("x2 " ++ s.getString); `(tactic| k_extra $t)

section
local macro_rules | `(tactic| k_mem) => `(tactic| with_reducible assumption)
open PySem PySem.W PyProof.Rows
set_option maxHeartbeats 8000000
namespace Mine
section
variable {w : World} {p : Program} {loose : List Str} {mean : ExcName → Option Value} {mg mb : Str → Option Value}
    {gd : Option (List Code)} {cn : Str} {cs : Scope} {a : Addr} {ccd : Value} {cl : List (Str × Addr)} {outer : List Env} {A₀ : Around} {base h₀ : Heap} {L : Addr} {m : Str → Option Value} {news : List (Addr × Obj)} {s : Shared} {Q E : Value → Shared → Prop}
    (B : Below A₀ base outer h₀) (F : Fr h₀ L s.heap m) (X : (Mine.hd.heap_1 w.params).In h₀) (N : News h₀ L s.heap news) (T : Top p loose mean mg mb h₀) (hk : cs.kind = .function)
include B F X N T hk
theorem named_c {wd : Str} {P H R : Int} (hrow : Row wd P H R) (t : Nat)
    (hret : ∀ x dx o h' tk', Fr h₀ L h' m → RdOk w o P H R → (∀ (i : Nat) (a : Addr), nth [x, dx] i = some a → ∀ p ∈ news, p.1 ≠ a) → News h₀ L h' ((x, instObj 98 dx) :: (dx, o) :: news) → Q (.ref x) { s with heap := h', toks := tk' }) :
    wpAny (model PG w) (ktrTop 940 8800 gd cn cs L a ccd cl outer) (call (.ref 109) [.str wd t]) Q E s := by
  have hX : Mine.hd.heap_1 = Mine.hd.heap_1 ∧ PySem.Challenge.rw_qz0063_01 = PySem.Challenge.rw_qz0063_01 := by
    k_fill
    exact ⟨rfl, rfl⟩
  clear hX
  have N2 : News h₀ L s.heap [] := News.nil
  refine wpAny_call ?_
  k_dflt (refine' enter2E ?k1 ?k2 ?k3 ?k4 ?k5 ?kA ?kF ?kK ?k6 ?k7 ?k8 ?k9 ?kB ?_ ?c2 ?c3 ?c4 ?c5; (case kA => exact rfl); (case kF => exact rfl); (case kK => assumption); (case k1 => k_asm); (case k2 => k_asm); (case k3 => k_asm); (case k4 => exact N2); (case k5 => k_asm); (case k6 => k_is); (case k7 => k_is); (case k8 => k_room); (case k9 => first | exact BindsTo.of_eq rfl | exact binds_K (by k_in) rfl (by k_is) rfl rfl rfl | fail "k_enter: no rule for these arguments"); (case c5 => decide); (case kB => exact locs rfl); (case c2 => exact rfl); (case c3 => exact rfl); (case c4 => exact rfl); k_whole; intro g' L' h' FG' F' N' B' X' T' l1' l4' hGK; (try k_lt l1'); (try dsimp only); (refine Mine.wp_enter ?_; intro ev Aw qk ek))
  clear N2 F
  k_steps
  (rename Kept _ _ _ => hK)
  (rename News h₀ L _ _ => kN)
  (rename News g' _ _ _ => nN)
  apply hret
  rotate_left 3
  · apply news_cons
    · apply kN
      k_mem
    apply news_cons
    · apply kN
      k_mem
    exact news_back N hK (List.forall_mem_nil _)
  · assumption
  · exact ⟨_, _, _, _, _, _, rfl⟩
  · refine nth2 (fresh_all N hGK ?_ (List.forall_mem_nil _)) (fresh_all N hGK ?_ (List.forall_mem_nil _))
    · apply nn_none nN
      k_mem
    · apply nn_none nN
      k_mem
end
end Mine
end

end

section
open PySem PySem.W PyProof.Rows
set_option maxHeartbeats 8000000
namespace Mine
section
variable {w : World} {p : Program} {loose : List Str} {mean : ExcName → Option Value} {mg mb : Str → Option Value}
    {gd : Option (List Code)} {cn : Str} {cs : Scope} {a : Addr} {ccd : Value} {cl : List (Str × Addr)} {outer : List Env} {A₀ : Around} {base h₀ : Heap} {L : Addr} {m : Str → Option Value} {news : List (Addr × Obj)} {s : Shared} {Q E : Value → Shared → Prop}
    (B : Below A₀ base outer h₀) (F : Fr h₀ L s.heap m) (X : (Mine.hd.heap_1 w.params).In h₀) (N : News h₀ L s.heap news) (T : Top p loose mean mg mb h₀) (hk : cs.kind = .function)
include B F X N T hk
/-- what rounded gives back -/
noncomputable def rndf (z P H R : Int) : Int := Int.fdiv (z - H + R) P * P + H
noncomputable def rnd (d P H R : Int) : Int :=
  if P = 0 then d else if 0 ≤ d then (if rndf d P H R < 0 then H else rndf d P H R) else 0 - (if rndf (0 - d) P H R < 0 then H else rndf (0 - d) P H R)
theorem rounded_c {d P H R : Int} {x dx : Addr} {t0 : Nat} {o : Obj} (hP : 0 ≤ P ∧ P ≤ 64)
    (hx : (x, instObj 98 dx) ∈ news) (hok : RdOk w o P H R) (hdx : (dx, o) ∈ news)
    (hret : ∀ t h' tk', Fr h₀ L h' m → News h₀ L h' news → Q (.int (rnd d P H R) t) { s with heap := h', toks := tk' }) :
    wpAny (model PG w) (ktrTop 900 8000 gd cn cs L a ccd cl outer) (call (.ref 116) [.int d t0, .ref x]) Q E s := by
  have hX : Mine.hd.heap_1 = Mine.hd.heap_1 ∧ PySem.Challenge.rw_qz0063_01 = PySem.Challenge.rw_qz0063_01 := by
    k_fill
    exact ⟨rfl, rfl⟩
  clear hX
  obtain ⟨t1, t2, t3, tp, th, tt, rfl⟩ := hok
  refine wpAny_call ?_
  k_dflt cell_enter
  k_steps
  all_goals
    refine' cb_retI (Q := Q) hret ?e ?f ?g
    case f => assumption
    case g => exact cb_drop (by assumption) (fun p hp => by repeat (first | exact hp | refine List.mem_cons_of_mem _ ?_))
    case e =>
      unfold rnd rndf
      (repeat' split) <;> first | rfl | omega
end
end Mine
end

theorem Mine.reg_x3 : True := by
  (k_with "x3 subscriptTail" => (k_here; (with_reducible show wpAny _ _ (subscriptTail _ _ (Value.ref _) (Value.str _ _)) _ _ _); k_dflt (refine' Mine.cut_val ?hbY55 ?h1Y55 ?_; (case hbY55 => with_reducible assumption); (case h1Y55 => (intro wd9Z P9Z H9Z R9Z hr9Z; (unfold Mine.Row at hr9Z; rcases hr9Z with ⟨e1Z, e2Z, e3Z, e4Z⟩ | ⟨e1Z, e2Z, e3Z, e4Z⟩ | ⟨e1Z, e2Z, e3Z, e4Z⟩ | ⟨e1Z, e2Z, e3Z, e4Z⟩ | ⟨e1Z, e2Z, e3Z, e4Z⟩ | ⟨e1Z, e2Z, e3Z, e4Z⟩ <;> (subst e1Z e2Z e3Z e4Z; (repeat (first | exact ⟨_, _, congrArg (fun zZ => Value.int zZ _) (by unfold Mine.lawr; (try simp only [Int.sub_zero, Int.add_zero, Int.sub_add_cancel]); rfl), rfl⟩ | walk1)); done)))); intro t9Z tk9Z; (try dsimp only))))
  trivial
section
local macro_rules | `(tactic| walk_at $s:str) => do let t := Lean.Syntax.mkStrLit ("x3 " ++ s.getString); `(tactic| k_extra $t)
local macro_rules | `(tactic| walk_at $s:str) => do let t := Lean.Syntax.mkStrLit ("x3 " ++ s.getString); `(tactic| k_extra $t)

section
open PySem PySem.W PyProof.Rows
set_option maxHeartbeats 8000000
namespace Mine
section
variable {w : World} {p : Program} {loose : List Str} {mean : ExcName → Option Value} {mg mb : Str → Option Value}
    {gd : Option (List Code)} {cn : Str} {cs : Scope} {a : Addr} {ccd : Value} {cl : List (Str × Addr)} {outer : List Env} {A₀ : Around} {base h₀ : Heap} {L : Addr} {m : Str → Option Value} {news : List (Addr × Obj)} {s : Shared} {Q E : Value → Shared → Prop}
    (B : Below A₀ base outer h₀) (F : Fr h₀ L s.heap m) (X : (Mine.hd.heap_1 w.params).In h₀) (N : News h₀ L s.heap news) (T : Top p loose mean mg mb h₀) (hk : cs.kind = .function)
include B F X N T hk
theorem lawr_c {wd : Str} {P H R n : Int} {t0 t1 : Nat} (hrow : Row wd P H R) (hn : 0 ≤ n ∧ n ≤ 2147483648)
    (hret : ∀ t h' tk', Fr h₀ L h' m → News h₀ L h' news → Q (.int (lawr n P H R) t) { s with heap := h', toks := tk' }) :
    wpAny (model PG w) (ktrTop 900 8000 gd cn cs L a ccd cl outer) (call (.ref 426) [.str wd t0, .int n t1]) Q E s := by
  have hX : Mine.hd.heap_1 = Mine.hd.heap_1 ∧ PySem.Challenge.rw_qz0063_01 = PySem.Challenge.rw_qz0063_01 := by
    k_fill
    exact ⟨rfl, rfl⟩
  clear hX
  have N2 : News h₀ L s.heap [] := News.nil
  refine wpAny_call ?_
  k_dflt (refine' enter2E ?k1 ?k2 ?k3 ?k4 ?k5 ?kA ?kF ?kK ?k6 ?k7 ?k8 ?k9 ?kB ?_ ?c2 ?c3 ?c4 ?c5; (case kA => exact rfl); (case kF => exact rfl); (case kK => assumption); (case k1 => k_asm); (case k2 => k_asm); (case k3 => k_asm); (case k4 => exact N2); (case k5 => k_asm); (case k6 => k_is); (case k7 => k_is); (case k8 => k_room); (case k9 => first | exact BindsTo.of_eq rfl | exact binds_K (by k_in) rfl (by k_is) rfl rfl rfl | fail "k_enter: no rule for these arguments"); (case c5 => decide); (case kB => exact locs rfl); (case c2 => exact rfl); (case c3 => exact rfl); (case c4 => exact rfl); k_whole; intro g' L' h' FG' F' N' B' X' T' l1' l4' hGK; (try k_lt l1'); (try dsimp only); (refine Mine.wp_enter ?_; intro ev Aw qk ek))
  clear N2 F
  k_steps
  (rename Kept _ _ _ => hK)
  exact hret _ _ _ (by assumption) (news_back N hK (List.forall_mem_nil _))
end
end Mine
end

end

section
open PySem PySem.W PyProof.Rows
namespace Mine
theorem wrap_id {n : Int} (hn : -2147483648 < n ∧ n < 2147483648) : (n + 2147483648).fmod 4294967296 - 2147483648 = n := by
  rw [Int.fmod_eq_emod_of_nonneg _ (by decide)]
  omega
theorem row_nums {wd : Str} {P H R : Int} (h : Row wd P H R) : (P = 64 ∨ P = 32 ∨ P = 0) ∧ 0 ≤ H ∧ H ≤ R ∧ R ≤ 64 := by
  rcases h with ⟨-, rfl, rfl, rfl⟩ | ⟨-, rfl, rfl, rfl⟩ | ⟨-, rfl, rfl, rfl⟩ | ⟨-, rfl, rfl, rfl⟩ | ⟨-, rfl, rfl, rfl⟩ | ⟨-, rfl, rfl, rfl⟩ <;> decide
theorem lawr_pos {P H R z : Int} (hP : P = 64 ∨ P = 32 ∨ P = 0) (hH : 0 ≤ H) (hHR : H ≤ R) (hz : 0 ≤ z) : 0 ≤ lawr z P H R := by
  unfold lawr
  rcases hP with rfl | rfl | rfl
  · rw [if_neg (by decide), Int.fdiv_eq_ediv_of_nonneg _ (by decide)]
    omega
  · rw [if_neg (by decide), Int.fdiv_eq_ediv_of_nonneg _ (by decide)]
    omega
  · rw [if_pos rfl]; exact hz
theorem rnd_abs {P H R n : Int} (hP : P = 64 ∨ P = 32 ∨ P = 0) (hH : 0 ≤ H) (hHR : H ≤ R) :
    (if rnd n P H R < 0 then -rnd n P H R else rnd n P H R) = lawr (if 0 - n > n then 0 - n else n) P H R := by
  have key : ∀ z, 0 ≤ z → P ≠ 0 → rndf z P H R = lawr z P H R := fun z _ h => by unfold rndf lawr; rw [if_neg h]
  by_cases h0 : P = 0
  · unfold rnd lawr
    simp only [h0, if_true]
    split <;> split <;> omega
  · unfold rnd
    simp only [if_neg h0]
    by_cases hn : 0 ≤ n
    · have p := lawr_pos (R := R) hP hH hHR hn
      have q := key n hn h0
      have e : (if 0 - n > n then 0 - n else n) = n := by split <;> omega
      rw [e]
      simp only [if_pos hn, q]
      rw [if_neg (Int.not_lt.mpr p), if_neg (Int.not_lt.mpr p)]
    · have hn' : 0 ≤ 0 - n := by omega
      have p := lawr_pos (R := R) hP hH hHR hn'
      have q := key (0 - n) hn' h0
      have e : (if 0 - n > n then 0 - n else n) = 0 - n := by split <;> omega
      rw [e]
      simp only [if_neg hn, q]
      rw [if_neg (Int.not_lt.mpr p)]
      split <;> omega
theorem bit_wrap {v : Int} (h : v = 0 ∨ v = 1) : (v + 2147483648).fmod 4294967296 - 2147483648 = v := by
  rcases h with rfl | rfl <;> rfl
theorem mod2 (x : Int) : x.fmod 2 = 0 ∨ x.fmod 2 = 1 := by
  rw [Int.fmod_eq_emod_of_nonneg _ (by decide)]
  omega
theorem odd_eq {wd : Str} {P H R n : Int} (hrow : Row wd P H R) (hn : -2147483648 < n ∧ n < 2147483648) :
    [((if ((((if rnd ((n + 2147483648).fmod 4294967296 - 2147483648) P H R < 0 then -rnd ((n + 2147483648).fmod 4294967296 - 2147483648) P H R else rnd ((n + 2147483648).fmod 4294967296 - 2147483648) P H R).fdiv 64).fmod 2 == 1) == true) = true then (1 : Int) else 0) + 2147483648).fmod 4294967296 - 2147483648] =
      [((lawr (if 0 - n > n then 0 - n else n) P H R).fdiv 64).fmod 2] := by
  obtain ⟨hP, hH, hHR, -⟩ := row_nums hrow
  rw [wrap_id hn, rnd_abs hP hH hHR]
  rcases mod2 ((lawr (if 0 - n > n then 0 - n else n) P H R).fdiv 64) with e | e <;> rw [e] <;> rfl
theorem odd_eq' {wd : Str} {P H R n : Int} (hrow : Row wd P H R) (hn : -2147483648 < n ∧ n < 2147483648) :
    [((if ((((if rnd ((n + 2147483648).fmod 4294967296 - 2147483648) P H R < 0 then -rnd ((n + 2147483648).fmod 4294967296 - 2147483648) P H R else rnd ((n + 2147483648).fmod 4294967296 - 2147483648) P H R).fdiv 64).fmod 2 == 1) == false) = true then (1 : Int) else 0) + 2147483648).fmod 4294967296 - 2147483648] =
      [1 - ((lawr (if 0 - n > n then 0 - n else n) P H R).fdiv 64).fmod 2] := by
  obtain ⟨hP, hH, hHR, -⟩ := row_nums hrow
  rw [wrap_id hn, rnd_abs hP hH hHR]
  rcases mod2 ((lawr (if 0 - n > n then 0 - n else n) P H R).fdiv 64) with e | e <;> rw [e] <;> rfl
theorem truthy_no {M : Model} {A : Around} {Q : Bool → Shared → Prop} {E : Value → Shared → Prop} {s : Shared} {C : Prop} [i : Decidable C] (h : C) (H : wpAny M A (truthy (.bool false)) Q E s) : wpAny M A (truthy (.bool (!decide C))) Q E s := by
  rw [decide_eq_true h]
  exact H
end Mine
end

section
open PySem PySem.W PyProof.Rows
set_option maxHeartbeats 8000000
namespace Mine
section
variable {w : World} {p : Program} {loose : List Str} {mean : ExcName → Option Value} {mg mb : Str → Option Value}
    {gd : Option (List Code)} {cn : Str} {cs : Scope} {a : Addr} {ccd : Value} {cl : List (Str × Addr)} {outer : List Env} {A₀ : Around} {base h₀ : Heap} {L : Addr} {m : Str → Option Value} {news : List (Addr × Obj)} {s : Shared} {Q E : Value → Shared → Prop}
    (B : Below A₀ base outer h₀) (F : Fr h₀ L s.heap m) (X : (Mine.hd.heap_1 w.params).In h₀) (N : News h₀ L s.heap news) (T : Top p loose mean mg mb h₀) (hk : cs.kind = .function)
include B F X N T hk
theorem zone0_c {e : Addr} {n0 : Nat} (he : (e, listOf #[] n0) ∈ news)
    (hret : ∀ x h' tk', Fr h₀ L h' m → News h₀ L h' news → Q (.ref x) { s with heap := h', toks := tk' }) :
    wpAny (model PG w) (ktrTop 900 8000 gd cn cs L a ccd cl outer) (call (.ref 387) [.ref e]) Q E s := by
  have hX : Mine.hd.heap_1 = Mine.hd.heap_1 ∧ PySem.Challenge.rw_qz0063_01 = PySem.Challenge.rw_qz0063_01 := by
    k_fill
    exact ⟨rfl, rfl⟩
  clear hX
  k_dflt (refine' call_cls ?k1 ?k2 ?k3 ?k4 ?k5 ?k6 ?_; (case k1 => k_asm); (case k2 => k_asm); (case k3 => k_asm); (case k4 => k_is); (case k5 => k_is); (case k6 => k_is); k_whole)
  intro x dx h1 F1 N1 l1 l2
  have N2 := cb_drop (news := [(x, instObj 387 dx), (dx, dictOf [] 0), (e, listOf #[] n0)]) N1 (List.forall_mem_cons.mpr ⟨by k_mem, List.forall_mem_cons.mpr ⟨by k_mem, List.forall_mem_cons.mpr ⟨by k_mem, List.forall_mem_nil _⟩⟩⟩)
  have l3 := l1 _ he
  dsimp only at l3
  replace l2 := HL.mk l2
  replace l3 := HL.mk l3
  k_dflt (refine' enter2C ?k1 ?k2 ?k3 ?k4 ?k5 ?kA ?kF ?kK ?k6 ?k7 ?k8 ?k9 ?kB ?kD ?_ ?c2 ?c3 ?c4; (case kA => exact rfl); (case kF => exact rfl); (case kK => assumption); (case k1 => k_asm); (case k2 => k_asm); (case k3 => k_asm); (case k4 => exact N2); (case k5 => k_asm); (case k6 => k_is); (case k7 => k_is); (case k8 => k_room); (case k9 => first | exact BindsTo.of_eq rfl | exact binds_K (by k_in) rfl (by k_is) rfl rfl rfl | fail "k_enter: no rule for these arguments"); (case kB => exact rfl); (case kD => decide +kernel); (case c2 => exact rfl); (case c3 => exact rfl); (case c4 => exact rfl); k_whole; intro g' L' h' tk' cells' FG' F' N' Y' B' X' T' l1' l4'; (try k_lt l1'); k_cells Y'; (try simp only [List.cons_append, List.nil_append] at N'); (try dsimp only); (try k_lift B'); first | (refine Mine.wp_enter ?_; intro ev Aw qk ek) | k_fold | skip)
  have hN2 := (N2 (e, listOf #[] n0) (by k_mem)).1
  clear N2 N F
  k_steps
  (rename Kept _ _ _ => hK)
  (rename News h₀ L _ _ => kN)
  refine hret x _ _ (by assumption) (news_back (cb_drop N1 (fun p hp => List.mem_cons_of_mem _ (List.mem_cons_of_mem _ hp))) hK ?_)
  refine List.forall_mem_cons.mpr ⟨.inl (fun p hp => ?_), List.forall_mem_cons.mpr ⟨.inl (fun p hp => ?_), List.forall_mem_cons.mpr ⟨.inr ⟨hN2, (kN (e, listOf #[] n0) (by k_mem)).1⟩, List.forall_mem_nil _⟩⟩⟩
  · have q := ltN (l1 p hp)
    have q2 := ltN (HL.out l2)
    refine neN ?_
    dsimp only
    omega
  · have q := ltN (l1 p hp)
    have q2 := ltN (HL.out l2)
    refine neN ?_
    dsimp only
    omega
end
end Mine
end

section
theorem Mine.reg_u1 : True := by
  (k_with "m call ref cons nil" => (k_here; (with_reducible show wpAny _ _ (call (Value.ref 109) _ _) _ _ _); k_dflt (refine' Mine.at_room ?h1Y56 ?h2Y56 ?h3Y56 ?h5Y56 (Mine.named_c ?BY56 ?FY56 ?XY56 ?NY56 ?TY56 ?hkY56 ?rowY56 _ ?_); (case h1Y56 => exact rfl); (case h3Y56 => exact rfl); (case h2Y56 => exact Nat.le_of_ble_eq_true rfl); (case h5Y56 => exact Nat.le_of_ble_eq_true rfl); (case BY56 => k_asm); (case FY56 => k_asm); (case XY56 => k_asm); (case NY56 => first | k_asm | exact News.nil); (case TY56 => k_asm); (case hkY56 => first | exact rfl | assumption); (case rowY56 => first | assumption | exact Mine.row_grid | exact Mine.row_half | exact Mine.row_double | exact Mine.row_down | exact Mine.row_up | exact Mine.row_off); ); intro x'Z dx'Z o'Z h'Z tk'Z F'Z r'Z q'Z N'Z; (have q0'Z := q'Z 0 _ (by with_unfolding_all exact Eq.refl (some _))); (have q1'Z := q'Z 1 _ (by with_unfolding_all exact Eq.refl (some _))); (clear q'Z); (k_lt q0'Z); (k_lt q1'Z); (try dsimp only); (try k_fold)))
  trivial
open PySem PySem.W PyProof.Rows
set_option maxHeartbeats 8000000
namespace Mine
section
variable {w : World} {p : Program} {loose : List Str} {mean : ExcName → Option Value} {mg mb : Str → Option Value}
    {gd : Option (List Code)} {cn : Str} {cs : Scope} {a : Addr} {ccd : Value} {cl : List (Str × Addr)} {outer : List Env} {A₀ : Around} {base h₀ : Heap} {L : Addr} {m : Str → Option Value} {news : List (Addr × Obj)} {s : Shared} {Q E : Value → Shared → Prop}
    (B : Below A₀ base outer h₀) (F : Fr h₀ L s.heap m) (X : (Mine.hd.heap_1 w.params).In h₀) (N : News h₀ L s.heap news) (T : Top p loose mean mg mb h₀) (hk : cs.kind = .function)
include B F X N T hk
theorem gs_c
    (hret : ∀ x dx f1 f2 rd o o1 o2 h' tk', Fr h₀ L h' m → GsOk w o f1 f2 rd → Pr o1 16384 0 → Pr o2 16384 0 → News h₀ L h' ((x, instObj 217 dx) :: (dx, o) :: (f1, o1) :: (f2, o2) :: news) → (∀ (i : Nat) (a : Addr), nth [x, dx, f1, f2] i = some a → ∀ p ∈ news, p.1 ≠ a) → Offs dx [x, f1, f2] → Q (.ref x) { s with heap := h', toks := tk' }) :
    wpAny (model PG w) (ktrTop 920 8200 gd cn cs L a ccd cl outer) (call (.ref 217) []) Q E s := by
  have hX : Mine.hd.heap_1 = Mine.hd.heap_1 ∧ PySem.Challenge.rw_qz0063_01 = PySem.Challenge.rw_qz0063_01 := by
    k_fill
    exact ⟨rfl, rfl⟩
  clear hX
  k_dflt (refine' call_cls ?k1 ?k2 ?k3 ?k4 ?k5 ?k6 ?_; (case k1 => k_asm); (case k2 => k_asm); (case k3 => k_asm); (case k4 => k_is); (case k5 => k_is); (case k6 => k_is); k_whole)
  intro x dx h1 F1 N1 l1 l2
  replace l2 := HL.mk l2
  have N2 : News h₀ L h1 [(x, instObj 217 dx), (dx, dictOf [] 0)] := cb_drop N1 (List.forall_mem_cons.mpr ⟨by k_mem, List.forall_mem_cons.mpr ⟨by k_mem, List.forall_mem_nil _⟩⟩)
  k_dflt (refine' enter2E ?k1 ?k2 ?k3 ?k4 ?k5 ?kA ?kF ?kK ?k6 ?k7 ?k8 ?k9 ?kB ?_ ?c2 ?c3 ?c4 ?c5; (case kA => exact rfl); (case kF => exact rfl); (case kK => assumption); (case k1 => k_asm); (case k2 => k_asm); (case k3 => k_asm); (case k4 => exact N2); (case k5 => k_asm); (case k6 => k_is); (case k7 => k_is); (case k8 => k_room); (case k9 => first | exact BindsTo.of_eq rfl | exact binds_K (by k_in) rfl (by k_is) rfl rfl rfl | fail "k_enter: no rule for these arguments"); (case c5 => decide); (case kB => exact locs rfl); (case c2 => exact rfl); (case c3 => exact rfl); (case c4 => exact rfl); k_whole; intro g' L' h' FG' F' N' B' X' T' l1' l4' hGK; (try k_lt l1'); (try dsimp only); (refine Mine.wp_enter ?_; intro ev Aw qk ek))
  clear N2 N F
  k_steps
  (rename Kept _ _ _ => hK)
  (rename News h₀ L _ _ => kN)
  (rename News g' _ _ _ => nN)
  have lt : ∀ p ∈ news, p.1 ≠ dx := fun p hp => Nat.ne_of_lt (l1 p hp)
  have lx : ∀ p ∈ news, p.1 ≠ x := fun p hp => Nat.ne_of_lt (Nat.lt_trans (l1 p hp) (HL.out l2))
  have frs : ∀ D, g'.get? D = none → HN x D → HN dx D → ∀ p ∈ news, p.1 ≠ D :=
    fun D z h1 h2 p hp => fresh_all N1 hGK z (List.forall_mem_cons.mpr ⟨h1, List.forall_mem_cons.mpr ⟨h2, List.forall_mem_nil _⟩⟩) p (List.mem_cons_of_mem _ (List.mem_cons_of_mem _ hp))
  have tl : News h₀ L _ news := news_back (cb_drop N1 (fun p hp => List.mem_cons_of_mem _ (List.mem_cons_of_mem _ hp))) hK (List.forall_mem_cons.mpr ⟨.inl lx, List.forall_mem_cons.mpr ⟨.inl lt, List.forall_mem_nil _⟩⟩)
  exact hret x dx _ _ _ _ _ _ _ _ (by assumption) GsOk.mk ⟨_, _, rfl⟩ ⟨_, _, rfl⟩
    (news_cons (kN _ (by k_mem)) (news_cons (kN _ (by k_mem)) (news_cons (kN _ (by k_mem)) (news_cons (kN _ (by k_mem)) tl))))
    (nthc (P := fun a => ∀ p ∈ news, p.1 ≠ a) lx (nthc lt (nth2 (frs _ (by apply nn_none nN; k_mem) (by k_ne) (by k_ne)) (frs _ (by apply nn_none nN; k_mem) (by k_ne) (by k_ne)))))
    (nthc (P := fun a => HN a dx) (HN_symm (HL.ne l2)) (nth2 (HN_symm (by k_ne)) (HN_symm (by k_ne))))
end
end Mine
end

theorem Mine.reg_x4 : True := by
  (k_with "x4 call ref" => (k_here; k_dflt (refine' Mine.at_room ?h1Y57 ?h2Y57 ?h3Y57 ?h5Y57 (Mine.gs_c ?BY57 ?FY57 ?XY57 ?NY57 ?TY57 ?hkY57  ?_); (case h1Y57 => exact rfl); (case h3Y57 => exact rfl); (case h2Y57 => exact Nat.le_of_ble_eq_true rfl); (case h5Y57 => exact Nat.le_of_ble_eq_true rfl); (case BY57 => k_asm); (case FY57 => k_asm); (case XY57 => k_asm); (case NY57 => first | k_asm | exact News.nil); (case TY57 => k_asm); (case hkY57 => first | exact rfl | assumption); ); intro x'Z dx'Z f1'Z f2'Z rd'Z o'Z o1'Z o2'Z h'Z tk'Z F'Z gk'Z p1'Z p2'Z N'Z q'Z of1'Z; (have q0'Z := q'Z 0 _ (by with_unfolding_all exact Eq.refl (some _))); (have q1'Z := q'Z 1 _ (by with_unfolding_all exact Eq.refl (some _))); (have q2'Z := q'Z 2 _ (by with_unfolding_all exact Eq.refl (some _))); (have q3'Z := q'Z 3 _ (by with_unfolding_all exact Eq.refl (some _))); (clear q'Z); (k_lt q0'Z); (k_lt q1'Z); (k_lt q2'Z); (k_lt q3'Z); (k_lt of1'Z); (try dsimp only); (try k_fold)))
  trivial
section
local macro_rules | `(tactic| walk_at $s:str) => do let t := Lean.Syntax.mkStrLit ("x4 " ++ s.getString); `(tactic| k_extra $t)

section
open PySem PySem.W PyProof.Rows
set_option maxHeartbeats 8000000
namespace Mine
section
variable {w : World} {p : Program} {loose : List Str} {mean : ExcName → Option Value} {mg mb : Str → Option Value}
    {gd : Option (List Code)} {cn : Str} {cs : Scope} {a : Addr} {ccd : Value} {cl : List (Str × Addr)} {outer : List Env} {A₀ : Around} {base h₀ : Heap} {L : Addr} {m : Str → Option Value} {news : List (Addr × Obj)} {s : Shared} {Q E : Value → Shared → Prop}
    (B : Below A₀ base outer h₀) (F : Fr h₀ L s.heap m) (X : (Mine.hd.heap_1 w.params).In h₀) (N : News h₀ L s.heap news) (T : Top p loose mean mg mb h₀) (hk : cs.kind = .function)
include B F X N T hk
theorem work_c {e c : Addr}
    (hret : ∀ x dx gs dgs st dst nl f1 f2 rd ox ogs ost o1 o2 h' tk', Fr h₀ L h' m → WkOk w ox gs st e c 12 → GsOk w ogs f1 f2 rd → StOk w ost nl → News h₀ L h' ((x, instObj 331 dx) :: (dx, ox) :: (gs, instObj 217 dgs) :: (dgs, ogs) :: (st, instObj 280 dst) :: (dst, ost) :: (nl, listOf #[] 0) :: (f1, o1) :: (f2, o2) :: news) → Pr o1 16384 0 → Pr o2 16384 0 →
      (∀ (i : Nat) (a : Addr), nth [x, dx, gs, dgs, st, dst, nl, f1, f2] i = some a → ∀ p ∈ news, p.1 ≠ a) → Offs nl [x, dx, gs, dgs, st, dst, f1, f2] → Offs dgs [x, dx, gs, st, dst, nl, f1, f2] → Offs dx [x, gs, dgs, st, dst, nl, f1, f2] → Q (.ref x) { s with heap := h', toks := tk' }) :
    wpAny (model PG w) (ktrTop 900 8000 gd cn cs L a ccd cl outer) (call (.ref 331) [.ref e, .ref c]) Q E s := by
  have hX : Mine.hd.heap_1 = Mine.hd.heap_1 ∧ PySem.Challenge.rw_qz0063_01 = PySem.Challenge.rw_qz0063_01 := by
    k_fill
    exact ⟨rfl, rfl⟩
  clear hX
  k_dflt (refine' call_cls ?k1 ?k2 ?k3 ?k4 ?k5 ?k6 ?_; (case k1 => k_asm); (case k2 => k_asm); (case k3 => k_asm); (case k4 => k_is); (case k5 => k_is); (case k6 => k_is); k_whole)
  intro x dx h1 F1 N1 l1 l2
  replace l2 := HL.mk l2
  have N2 : News h₀ L h1 [(x, instObj 331 dx), (dx, dictOf [] 0)] := cb_drop N1 (List.forall_mem_cons.mpr ⟨by k_mem, List.forall_mem_cons.mpr ⟨by k_mem, List.forall_mem_nil _⟩⟩)
  k_dflt (refine' enter2E ?k1 ?k2 ?k3 ?k4 ?k5 ?kA ?kF ?kK ?k6 ?k7 ?k8 ?k9 ?kB ?_ ?c2 ?c3 ?c4 ?c5; (case kA => exact rfl); (case kF => exact rfl); (case kK => assumption); (case k1 => k_asm); (case k2 => k_asm); (case k3 => k_asm); (case k4 => exact N2); (case k5 => k_asm); (case k6 => k_is); (case k7 => k_is); (case k8 => k_room); (case k9 => first | exact BindsTo.of_eq rfl | exact binds_K (by k_in) rfl (by k_is) rfl rfl rfl | fail "k_enter: no rule for these arguments"); (case c5 => decide); (case kB => exact locs rfl); (case c2 => exact rfl); (case c3 => exact rfl); (case c4 => exact rfl); k_whole; intro g' L' h' FG' F' N' B' X' T' l1' l4' hGK; (try k_lt l1'); (try dsimp only); (refine Mine.wp_enter ?_; intro ev Aw qk ek))
  clear N2 N F
  k_steps
  (rename Kept _ _ _ => hK)
  (rename News h₀ L _ _ => kN)
  (rename News g' _ _ _ => nN)
  have lt : ∀ p ∈ news, p.1 ≠ dx := fun p hp => Nat.ne_of_lt (l1 p hp)
  have lx : ∀ p ∈ news, p.1 ≠ x := fun p hp => Nat.ne_of_lt (Nat.lt_trans (l1 p hp) (HL.out l2))
  have frs : ∀ D, g'.get? D = none → HN x D → HN dx D → ∀ p ∈ news, p.1 ≠ D :=
    fun D z h1 h2 p hp => fresh_all N1 hGK z (List.forall_mem_cons.mpr ⟨h1, List.forall_mem_cons.mpr ⟨h2, List.forall_mem_nil _⟩⟩) p (List.mem_cons_of_mem _ (List.mem_cons_of_mem _ hp))
  have tl : News h₀ L _ news := news_back (cb_drop N1 (fun p hp => List.mem_cons_of_mem _ (List.mem_cons_of_mem _ hp))) hK (List.forall_mem_cons.mpr ⟨.inl lx, List.forall_mem_cons.mpr ⟨.inl lt, List.forall_mem_nil _⟩⟩)
  exact hret x dx _ _ _ _ _ _ _ _ _ _ _ _ _ _ _ (by assumption) WkOk.mk (by assumption) ⟨_, _, _, rfl⟩
    (news_cons (kN _ (by k_mem)) (news_cons (kN _ (by k_mem)) (news_cons (kN _ (by k_mem)) (news_cons (kN _ (by k_mem)) (news_cons (kN _ (by k_mem)) (news_cons (kN _ (by k_mem)) (news_cons (kN _ (by k_mem)) (news_cons (kN _ (by k_mem)) (news_cons (kN _ (by k_mem)) tl)))))))))
    (by assumption) (by assumption) (nthc (P := fun a => ∀ p ∈ news, p.1 ≠ a) (lx) (nthc (lt) (nthc (frs _ (by apply nn_none nN; k_mem) (by first | with_reducible assumption | k_ne) (by first | with_reducible assumption | k_ne)) (nthc (frs _ (by apply nn_none nN; k_mem) (by first | with_reducible assumption | k_ne) (by first | with_reducible assumption | k_ne)) (nthc (frs _ (by apply nn_none nN; k_mem) (by first | with_reducible assumption | k_ne) (by first | with_reducible assumption | k_ne)) (nthc (frs _ (by apply nn_none nN; k_mem) (by first | with_reducible assumption | k_ne) (by first | with_reducible assumption | k_ne)) (nthc (frs _ (by apply nn_none nN; k_mem) (by first | with_reducible assumption | k_ne) (by first | with_reducible assumption | k_ne)) (nthc (frs _ (by apply nn_none nN; k_mem) (by first | with_reducible assumption | k_ne) (by first | with_reducible assumption | k_ne)) (nth1 (frs _ (by apply nn_none nN; k_mem) (by first | with_reducible assumption | k_ne) (by first | with_reducible assumption | k_ne)))))))))))
    (nthc (P := fun a => HN a _) (by first | with_reducible assumption | k_ne) (nthc (by first | with_reducible assumption | k_ne) (nthc (by first | with_reducible assumption | k_ne) (nthc (by first | with_reducible assumption | k_ne) (nthc (by first | with_reducible assumption | k_ne) (nthc (by first | with_reducible assumption | k_ne) (nthc (by first | with_reducible assumption | k_ne) (nth1 (by first | with_reducible assumption | k_ne)))))))))
    (nthc (P := fun a => HN a _) (by first | with_reducible assumption | k_ne) (nthc (by first | with_reducible assumption | k_ne) (nthc (by first | with_reducible assumption | k_ne) (nthc (by first | with_reducible assumption | k_ne) (nthc (by first | with_reducible assumption | k_ne) (nthc (by first | with_reducible assumption | k_ne) (nthc (by first | with_reducible assumption | k_ne) (nth1 (by first | with_reducible assumption | k_ne)))))))))
    (nthc (P := fun a => HN a _) (by first | with_reducible assumption | k_ne) (nthc (by first | with_reducible assumption | k_ne) (nthc (by first | with_reducible assumption | k_ne) (nthc (by first | with_reducible assumption | k_ne) (nthc (by first | with_reducible assumption | k_ne) (nthc (by first | with_reducible assumption | k_ne) (nthc (by first | with_reducible assumption | k_ne) (nth1 (by first | with_reducible assumption | k_ne)))))))))
end
end Mine
end

section
open PySem PySem.W PyProof.Rows
set_option maxHeartbeats 8000000
namespace Mine
section
variable {w : World} {p : Program} {loose : List Str} {mean : ExcName → Option Value} {mg mb : Str → Option Value}
    {gd : Option (List Code)} {cn : Str} {cs : Scope} {a : Addr} {ccd : Value} {cl : List (Str × Addr)} {outer : List Env} {A₀ : Around} {base h₀ : Heap} {L : Addr} {m : Str → Option Value} {news : List (Addr × Obj)} {s : Shared} {Q E : Value → Shared → Prop}
    (B : Below A₀ base outer h₀) (F : Fr h₀ L s.heap m) (X : (Mine.hd.heap_1 w.params).In h₀) (N : News h₀ L s.heap news) (T : Top p loose mean mg mb h₀) (hk : cs.kind = .function)
include B F X N T hk
theorem work9_c {e c : Addr} {t9 : Nat}
    (hret : ∀ x dx gs dgs st dst nl f1 f2 rd ox ogs ost o1 o2 h' tk', Fr h₀ L h' m → WkOk w ox gs st e c 9 → GsOk w ogs f1 f2 rd → StOk w ost nl → News h₀ L h' ((x, instObj 331 dx) :: (dx, ox) :: (gs, instObj 217 dgs) :: (dgs, ogs) :: (st, instObj 280 dst) :: (dst, ost) :: (nl, listOf #[] 0) :: (f1, o1) :: (f2, o2) :: news) → Pr o1 16384 0 → Pr o2 16384 0 →
      (∀ (i : Nat) (a : Addr), nth [x, dx, gs, dgs, st, dst, nl, f1, f2] i = some a → ∀ p ∈ news, p.1 ≠ a) → Offs nl [x, dx, gs, dgs, st, dst, f1, f2] → Offs dgs [x, dx, gs, st, dst, nl, f1, f2] → Offs dx [x, gs, dgs, st, dst, nl, f1, f2] → Q (.ref x) { s with heap := h', toks := tk' }) :
    wpAny (model PG w) (ktrTop 900 8000 gd cn cs L a ccd cl outer) (call (.ref 331) [.ref e, .ref c] [(Str.ofString "ppem", .int 9 t9)]) Q E s := by
  have hX : Mine.hd.heap_1 = Mine.hd.heap_1 ∧ PySem.Challenge.rw_qz0063_01 = PySem.Challenge.rw_qz0063_01 := by
    k_fill
    exact ⟨rfl, rfl⟩
  clear hX
  k_dflt (refine' call_cls ?k1 ?k2 ?k3 ?k4 ?k5 ?k6 ?_; (case k1 => k_asm); (case k2 => k_asm); (case k3 => k_asm); (case k4 => k_is); (case k5 => k_is); (case k6 => k_is); k_whole)
  intro x dx h1 F1 N1 l1 l2
  replace l2 := HL.mk l2
  have N2 : News h₀ L h1 [(x, instObj 331 dx), (dx, dictOf [] 0)] := cb_drop N1 (List.forall_mem_cons.mpr ⟨by k_mem, List.forall_mem_cons.mpr ⟨by k_mem, List.forall_mem_nil _⟩⟩)
  k_dflt (refine' enter2E ?k1 ?k2 ?k3 ?k4 ?k5 ?kA ?kF ?kK ?k6 ?k7 ?k8 ?k9 ?kB ?_ ?c2 ?c3 ?c4 ?c5; (case kA => exact rfl); (case kF => exact rfl); (case kK => assumption); (case k1 => k_asm); (case k2 => k_asm); (case k3 => k_asm); (case k4 => exact N2); (case k5 => k_asm); (case k6 => k_is); (case k7 => k_is); (case k8 => k_room); (case k9 => first | exact BindsTo.of_eq rfl | exact binds_K (by k_in) rfl (by k_is) rfl rfl rfl | fail "k_enter: no rule for these arguments"); (case c5 => decide); (case kB => exact locs rfl); (case c2 => exact rfl); (case c3 => exact rfl); (case c4 => exact rfl); k_whole; intro g' L' h' FG' F' N' B' X' T' l1' l4' hGK; (try k_lt l1'); (try dsimp only); (refine Mine.wp_enter ?_; intro ev Aw qk ek))
  clear N2 N F
  k_steps
  (rename Kept _ _ _ => hK)
  (rename News h₀ L _ _ => kN)
  (rename News g' _ _ _ => nN)
  have lt : ∀ p ∈ news, p.1 ≠ dx := fun p hp => Nat.ne_of_lt (l1 p hp)
  have lx : ∀ p ∈ news, p.1 ≠ x := fun p hp => Nat.ne_of_lt (Nat.lt_trans (l1 p hp) (HL.out l2))
  have frs : ∀ D, g'.get? D = none → HN x D → HN dx D → ∀ p ∈ news, p.1 ≠ D :=
    fun D z h1 h2 p hp => fresh_all N1 hGK z (List.forall_mem_cons.mpr ⟨h1, List.forall_mem_cons.mpr ⟨h2, List.forall_mem_nil _⟩⟩) p (List.mem_cons_of_mem _ (List.mem_cons_of_mem _ hp))
  have tl : News h₀ L _ news := news_back (cb_drop N1 (fun p hp => List.mem_cons_of_mem _ (List.mem_cons_of_mem _ hp))) hK (List.forall_mem_cons.mpr ⟨.inl lx, List.forall_mem_cons.mpr ⟨.inl lt, List.forall_mem_nil _⟩⟩)
  exact hret x dx _ _ _ _ _ _ _ _ _ _ _ _ _ _ _ (by assumption) WkOk.mk (by assumption) ⟨_, _, _, rfl⟩
    (news_cons (kN _ (by k_mem)) (news_cons (kN _ (by k_mem)) (news_cons (kN _ (by k_mem)) (news_cons (kN _ (by k_mem)) (news_cons (kN _ (by k_mem)) (news_cons (kN _ (by k_mem)) (news_cons (kN _ (by k_mem)) (news_cons (kN _ (by k_mem)) (news_cons (kN _ (by k_mem)) tl)))))))))
    (by assumption) (by assumption) (nthc (P := fun a => ∀ p ∈ news, p.1 ≠ a) (lx) (nthc (lt) (nthc (frs _ (by apply nn_none nN; k_mem) (by first | with_reducible assumption | k_ne) (by first | with_reducible assumption | k_ne)) (nthc (frs _ (by apply nn_none nN; k_mem) (by first | with_reducible assumption | k_ne) (by first | with_reducible assumption | k_ne)) (nthc (frs _ (by apply nn_none nN; k_mem) (by first | with_reducible assumption | k_ne) (by first | with_reducible assumption | k_ne)) (nthc (frs _ (by apply nn_none nN; k_mem) (by first | with_reducible assumption | k_ne) (by first | with_reducible assumption | k_ne)) (nthc (frs _ (by apply nn_none nN; k_mem) (by first | with_reducible assumption | k_ne) (by first | with_reducible assumption | k_ne)) (nthc (frs _ (by apply nn_none nN; k_mem) (by first | with_reducible assumption | k_ne) (by first | with_reducible assumption | k_ne)) (nth1 (frs _ (by apply nn_none nN; k_mem) (by first | with_reducible assumption | k_ne) (by first | with_reducible assumption | k_ne)))))))))))
    (nthc (P := fun a => HN a _) (by first | with_reducible assumption | k_ne) (nthc (by first | with_reducible assumption | k_ne) (nthc (by first | with_reducible assumption | k_ne) (nthc (by first | with_reducible assumption | k_ne) (nthc (by first | with_reducible assumption | k_ne) (nthc (by first | with_reducible assumption | k_ne) (nthc (by first | with_reducible assumption | k_ne) (nth1 (by first | with_reducible assumption | k_ne)))))))))
    (nthc (P := fun a => HN a _) (by first | with_reducible assumption | k_ne) (nthc (by first | with_reducible assumption | k_ne) (nthc (by first | with_reducible assumption | k_ne) (nthc (by first | with_reducible assumption | k_ne) (nthc (by first | with_reducible assumption | k_ne) (nthc (by first | with_reducible assumption | k_ne) (nthc (by first | with_reducible assumption | k_ne) (nth1 (by first | with_reducible assumption | k_ne)))))))))
    (nthc (P := fun a => HN a _) (by first | with_reducible assumption | k_ne) (nthc (by first | with_reducible assumption | k_ne) (nthc (by first | with_reducible assumption | k_ne) (nthc (by first | with_reducible assumption | k_ne) (nthc (by first | with_reducible assumption | k_ne) (nthc (by first | with_reducible assumption | k_ne) (nthc (by first | with_reducible assumption | k_ne) (nth1 (by first | with_reducible assumption | k_ne)))))))))
end
end Mine
end

end

section
open PySem PySem.W PyProof.Rows
set_option maxHeartbeats 8000000
namespace Mine
section
variable {w : World} {p : Program} {loose : List Str} {mean : ExcName → Option Value} {mg mb : Str → Option Value}
    {gd : Option (List Code)} {cn : Str} {cs : Scope} {a : Addr} {ccd : Value} {cl : List (Str × Addr)} {outer : List Env} {A₀ : Around} {base h₀ : Heap} {L : Addr} {m : Str → Option Value} {news : List (Addr × Obj)} {s : Shared} {Q E : Value → Shared → Prop}
    (B : Below A₀ base outer h₀) (F : Fr h₀ L s.heap m) (X : (Mine.hd.heap_1 w.params).In h₀) (N : News h₀ L s.heap news) (T : Top p loose mean mg mb h₀) (hk : cs.kind = .function)
include B F X N T hk
theorem zn_current {z dz org cu to en oc : Addr} {oz9 : Obj} (hx : (z, instObj 387 dz) ∈ news) (hd : (dz, oz9) ∈ news) (ok : ZnOk w oz9 org cu to en oc)
    (hret : ∀ tk, Q (.ref cu) { s with toks := tk }) : wpAny (model PG w) (ktrTop 950 9500 gd cn cs L a ccd cl outer) (getAttr (.ref z) (Str.ofString "current") true) Q E s := by
  have hX : Mine.hd.heap_1 = Mine.hd.heap_1 ∧ PySem.Challenge.rw_qz0063_01 = PySem.Challenge.rw_qz0063_01 := by
    k_fill
    exact ⟨rfl, rfl⟩
  clear hX
  obtain ⟨g, rfl⟩ := ok.el
  k_steps
  exact hret _
theorem wk_state {x dx gs st e c : Addr} {ox : Obj} {pp : Int} (hx : (x, instObj 331 dx) ∈ news) (hd : (dx, ox) ∈ news) (ok : WkOk w ox gs st e c pp)
    (hret : ∀ tk, Q (.ref gs) { s with toks := tk }) : wpAny (model PG w) (ktrTop 950 9500 gd cn cs L a ccd cl outer) (getAttr (.ref x) (Str.ofString "state") true) Q E s := by
  have hX : Mine.hd.heap_1 = Mine.hd.heap_1 ∧ PySem.Challenge.rw_qz0063_01 = PySem.Challenge.rw_qz0063_01 := by
    k_fill
    exact ⟨rfl, rfl⟩
  clear hX
  obtain ⟨sd, sc, j, rfl⟩ := ok.el
  k_steps
  exact hret _
theorem wk_stack {x dx gs st e c : Addr} {ox : Obj} {pp : Int} (hx : (x, instObj 331 dx) ∈ news) (hd : (dx, ox) ∈ news) (ok : WkOk w ox gs st e c pp)
    (hret : ∀ tk, Q (.ref st) { s with toks := tk }) : wpAny (model PG w) (ktrTop 950 9500 gd cn cs L a ccd cl outer) (getAttr (.ref x) (Str.ofString "stack") true) Q E s := by
  have hX : Mine.hd.heap_1 = Mine.hd.heap_1 ∧ PySem.Challenge.rw_qz0063_01 = PySem.Challenge.rw_qz0063_01 := by
    k_fill
    exact ⟨rfl, rfl⟩
  clear hX
  obtain ⟨sd, sc, j, rfl⟩ := ok.el
  k_steps
  exact hret _
theorem wk_zones {x dx gs st e c : Addr} {ox : Obj} {pp : Int} (hx : (x, instObj 331 dx) ∈ news) (hd : (dx, ox) ∈ news) (ok : WkOk w ox gs st e c pp)
    (hret : ∀ tk, Q (.ref e) { s with toks := tk }) : wpAny (model PG w) (ktrTop 950 9500 gd cn cs L a ccd cl outer) (getAttr (.ref x) (Str.ofString "zones") true) Q E s := by
  have hX : Mine.hd.heap_1 = Mine.hd.heap_1 ∧ PySem.Challenge.rw_qz0063_01 = PySem.Challenge.rw_qz0063_01 := by
    k_fill
    exact ⟨rfl, rfl⟩
  clear hX
  obtain ⟨sd, sc, j, rfl⟩ := ok.el
  k_steps
  exact hret _
theorem wk_cvt {x dx gs st e c : Addr} {ox : Obj} {pp : Int} (hx : (x, instObj 331 dx) ∈ news) (hd : (dx, ox) ∈ news) (ok : WkOk w ox gs st e c pp)
    (hret : ∀ tk, Q (.ref c) { s with toks := tk }) : wpAny (model PG w) (ktrTop 950 9500 gd cn cs L a ccd cl outer) (getAttr (.ref x) (Str.ofString "cvt") true) Q E s := by
  have hX : Mine.hd.heap_1 = Mine.hd.heap_1 ∧ PySem.Challenge.rw_qz0063_01 = PySem.Challenge.rw_qz0063_01 := by
    k_fill
    exact ⟨rfl, rfl⟩
  clear hX
  obtain ⟨sd, sc, j, rfl⟩ := ok.el
  k_steps
  exact hret _
theorem st_numbers {st dst nl : Addr} {os : Obj} (hx : (st, instObj 280 dst) ∈ news) (hd : (dst, os) ∈ news) (ok : StOk w os nl)
    (hret : ∀ tk, Q (.ref nl) { s with toks := tk }) : wpAny (model PG w) (ktrTop 950 9500 gd cn cs L a ccd cl outer) (getAttr (.ref st) (Str.ofString "numbers") true) Q E s := by
  have hX : Mine.hd.heap_1 = Mine.hd.heap_1 ∧ PySem.Challenge.rw_qz0063_01 = PySem.Challenge.rw_qz0063_01 := by
    k_fill
    exact ⟨rfl, rfl⟩
  clear hX
  obtain ⟨i0, i1, u0, rfl⟩ := ok
  k_steps
  exact hret _
theorem gs_rounding {gs dgs f1 f2 rd : Addr} {og : Obj} (hx : (gs, instObj 217 dgs) ∈ news) (hd : (dgs, og) ∈ news) (ok : GsOk w og f1 f2 rd)
    (hret : ∀ tk, Q (.ref rd) { s with toks := tk }) : wpAny (model PG w) (ktrTop 950 9500 gd cn cs L a ccd cl outer) (getAttr (.ref gs) (Str.ofString "rounding") true) Q E s := by
  have hX : Mine.hd.heap_1 = Mine.hd.heap_1 ∧ PySem.Challenge.rw_qz0063_01 = PySem.Challenge.rw_qz0063_01 := by
    k_fill
    exact ⟨rfl, rfl⟩
  clear hX
  obtain ⟨f3, k, rfl⟩ := ok.el
  k_steps
  exact hret _
theorem gs_setr {gs dgs f1 f2 rd : Addr} {og : Obj} {r : Addr} {Qu : Unit → Shared → Prop} {g9 : Obj → List (Addr × Obj)} (hx : (gs, instObj 217 dgs) ∈ news) (hd : (dgs, og) ∈ news) (ok : GsOk w og f1 f2 rd) (U : ∀ o', Upd dgs og o' news (g9 o'))
    (hret : ∀ o' h' tk', Fr h₀ L h' m → GsOk w o' f1 f2 r → News h₀ L h' (g9 o') → Qu () { s with heap := h', toks := tk' }) : wpAny (model PG w) (ktrTop 950 9500 gd cn cs L a ccd cl outer) (setAttr (.ref gs) (Str.ofString "rounding") (.ref r)) Qu E s := by
  have hX : Mine.hd.heap_1 = Mine.hd.heap_1 ∧ PySem.Challenge.rw_qz0063_01 = PySem.Challenge.rw_qz0063_01 := by
    k_fill
    exact ⟨rfl, rfl⟩
  clear hX
  obtain ⟨f3, k, rfl⟩ := ok.el
  refine' set_dict ?k1 ?k2 ?k3 ?k4 ?k5 ?k6 ?k7 ?k8 ?k9 ?k10 ?k11 ?k12 ?k13 ?_
  case k1 => k_asm
  case k2 => k_asm
  case k3 => k_asm
  case k4 => exact InstAt.of_news N hx hd
  case k5 => exact rfl
  case k6 => k_is
  case k7 => k_is
  case k8 => k_is
  case k9 => k_is
  case k10 => k_get
  case k11 => k_put
  case k12 => exact U _
  case k13 => exact Nat.le_of_ble_eq_true rfl
  intro h' F' N'
  exact hret _ _ _ F' GsOk.mk N'
theorem wk_setp {x dx gs st e c : Addr} {ox : Obj} {pp : Int} {k : Int} {tv : Tok} {Qu : Unit → Shared → Prop} {g9 : Obj → List (Addr × Obj)} (hx : (x, instObj 331 dx) ∈ news) (hd : (dx, ox) ∈ news) (ok : WkOk w ox gs st e c pp) (U : ∀ o', Upd dx ox o' news (g9 o'))
    (hret : ∀ o' h' tk', Fr h₀ L h' m → WkOk w o' gs st e c k → News h₀ L h' (g9 o') → Qu () { s with heap := h', toks := tk' }) : wpAny (model PG w) (ktrTop 950 9500 gd cn cs L a ccd cl outer) (setAttr (.ref x) (Str.ofString "ppem") (.int k tv)) Qu E s := by
  have hX : Mine.hd.heap_1 = Mine.hd.heap_1 ∧ PySem.Challenge.rw_qz0063_01 = PySem.Challenge.rw_qz0063_01 := by
    k_fill
    exact ⟨rfl, rfl⟩
  clear hX
  obtain ⟨sd, sc, j, rfl⟩ := ok.el
  refine' set_dict ?k1 ?k2 ?k3 ?k4 ?k5 ?k6 ?k7 ?k8 ?k9 ?k10 ?k11 ?k12 ?k13 ?_
  case k1 => k_asm
  case k2 => k_asm
  case k3 => k_asm
  case k4 => exact InstAt.of_news N hx hd
  case k5 => exact rfl
  case k6 => k_is
  case k7 => k_is
  case k8 => k_is
  case k9 => k_is
  case k10 => k_get
  case k11 => k_put
  case k12 => exact U _
  case k13 => exact Nat.le_of_ble_eq_true rfl
  intro h' F' N'
  exact hret _ _ _ F' WkOk.mk N'
theorem st_m_push {st dst nl : Addr} {os : Obj} {pl : Sem Bool} {Qp : Value × List Value → Shared → Prop} (hx : (st, instObj 280 dst) ∈ news) (hd : (dst, os) ∈ news) (ok : StOk w os nl)
    (hret : Qp (.ref 242, [.ref st]) s) : wpAny (model PG w) (ktrTop 950 9500 gd cn cs L a ccd cl outer) (getMethod (.ref st) (Str.ofString "push") pl) Qp E s := by
  have hX : Mine.hd.heap_1 = Mine.hd.heap_1 ∧ PySem.Challenge.rw_qz0063_01 = PySem.Challenge.rw_qz0063_01 := by
    k_fill
    exact ⟨rfl, rfl⟩
  clear hX
  obtain ⟨i0, i1, u0, rfl⟩ := ok
  exact method_inst F X (InstAt.of_news N hx hd) (by k_is) (by k_is) (by k_is) rfl hret
theorem st_m_pop {st dst nl : Addr} {os : Obj} {pl : Sem Bool} {Qp : Value × List Value → Shared → Prop} (hx : (st, instObj 280 dst) ∈ news) (hd : (dst, os) ∈ news) (ok : StOk w os nl)
    (hret : Qp (.ref 249, [.ref st]) s) : wpAny (model PG w) (ktrTop 950 9500 gd cn cs L a ccd cl outer) (getMethod (.ref st) (Str.ofString "pop") pl) Qp E s := by
  have hX : Mine.hd.heap_1 = Mine.hd.heap_1 ∧ PySem.Challenge.rw_qz0063_01 = PySem.Challenge.rw_qz0063_01 := by
    k_fill
    exact ⟨rfl, rfl⟩
  clear hX
  obtain ⟨i0, i1, u0, rfl⟩ := ok
  exact method_inst F X (InstAt.of_news N hx hd) (by k_is) (by k_is) (by k_is) rfl hret
end
end Mine
end

theorem Mine.reg_x5 : True := by
  (k_with "x5 call builtin:len" => (k_here; (with_reducible show wpAny _ _ (call (Value.builtin "len") [Value.ref _]) _ _ _); k_dflt (refine' Mine.len_L ?k1Y58 ?k2Y58 ?_; (case k1Y58 => (refine' News.isList ?NY58 ?mY58; (case NY58 => k_asm); (case mY58 => k_mem))); (case k2Y58 => omega); k_whole)))
  (k_with "x5 call builtin:list.append" => (k_here; (with_reducible show wpAny _ _ (call (Value.builtin _) [Value.ref _, _]) _ _ _); k_dflt (refine' Mine.append_L ?k1Y59 ?k2Y59 ?k3Y59 ?_ ?zY59; (case k1Y59 => k_asm); (case k2Y59 => k_asm); (case k3Y59 => k_upd); (case zY59 => omega); k_whole); intro h'Z F'Z N'Z; (try k_sweep)))
  trivial
section
local macro_rules | `(tactic| walk_at $s:str) => do let t := Lean.Syntax.mkStrLit ("x5 " ++ s.getString); `(tactic| k_extra $t)
local macro_rules | `(tactic| walk_at $s:str) => do let t := Lean.Syntax.mkStrLit ("x5 " ++ s.getString); `(tactic| k_extra $t)

section
open PySem PySem.W PyProof.Rows
set_option maxHeartbeats 8000000
namespace Mine
section
variable {w : World} {p : Program} {loose : List Str} {mean : ExcName → Option Value} {mg mb : Str → Option Value}
    {gd : Option (List Code)} {cn : Str} {cs : Scope} {a : Addr} {ccd : Value} {cl : List (Str × Addr)} {outer : List Env} {A₀ : Around} {base h₀ : Heap} {L : Addr} {m : Str → Option Value} {news : List (Addr × Obj)} {s : Shared} {Q E : Value → Shared → Prop}
    (B : Below A₀ base outer h₀) (F : Fr h₀ L s.heap m) (X : (Mine.hd.heap_1 w.params).In h₀) (N : News h₀ L s.heap news) (T : Top p loose mean mg mb h₀) (hk : cs.kind = .function)
include B F X N T hk
noncomputable def wrapv (v : Int) : Int := Int.fmod (v + 2147483648) 4294967296 - 2147483648
theorem push_c {st dst nl : Addr} {us : List Value} {ost : Obj} {n : Nat} {news' : Tok → List (Addr × Obj)} {v : Int} {tv : Tok}
    (hst : (st, instObj 280 dst) ∈ news) (hok : StOk w ost nl) (hds : (dst, ost) ∈ news) (hn : (nl, listOf us.toArray n) ∈ news) (o1 : HN st nl) (o2 : HN dst nl)
    (U : ∀ t, Upd nl (listOf us.toArray n) (listOf (us ++ [Value.int (wrapv v) t]).toArray (n + 1)) news (news' t)) (hz : us.length < 64)
    (hret : ∀ t h' tk', Fr h₀ L h' m → News h₀ L h' (news' t) → Q .none { s with heap := h', toks := tk' }) :
    wpAny (model PG w) (ktrTop 900 9000 gd cn cs L a ccd cl outer) (call (.ref 242) [.ref st, .int v tv]) Q E s := by
  have hX : Mine.hd.heap_1 = Mine.hd.heap_1 ∧ PySem.Challenge.rw_qz0063_01 = PySem.Challenge.rw_qz0063_01 := by
    k_fill
    exact ⟨rfl, rfl⟩
  clear hX
  obtain ⟨i0, i1, u0, rfl⟩ := hok
  have N2 : News h₀ L s.heap [(st, instObj 280 dst), (dst, dictOf [ent w "most" i0 (.int 64 u0), ent w "numbers" i1 (.ref nl)] 2), (nl, listOf us.toArray n)] := by
    refine cb_drop N ?_
    repeat' (first | exact List.forall_mem_nil _ | (refine Mine.fa_cons ?_ ?_) | assumption)
  refine wpAny_call ?_
  k_dflt (refine' enter2 ?k1 ?k2 ?k3 ?k4 ?k5 ?kA ?kF ?kK ?k6 ?k7 ?k8 ?k9 ?kB ?_ ?c2 ?c3 ?c4 ?c5; (case kA => exact rfl); (case kF => exact rfl); (case kK => assumption); (case k1 => k_asm); (case k2 => k_asm); (case k3 => k_asm); (case k4 => exact N2); (case k5 => k_asm); (case k6 => k_is); (case k7 => k_is); (case k8 => k_room); (case k9 => exact BindsTo.of_eq rfl); (case c5 => decide); (case kB => exact locs rfl); (case c2 => exact rfl); (case c3 => exact rfl); (case c4 => exact rfl); k_whole; intro g' L' h' FG' F' N' B' X' T' l1' l4'; (try dsimp only); (refine Mine.wp_enter ?_; intro ev Aw qk ek))
  clear F
  k_steps
  · (rename Kept _ _ _ => hK)
    (rename News h₀ L _ _ => kN)
    have hnl := (kN _ (List.mem_cons_of_mem _ (List.mem_cons_of_mem _ List.mem_cons_self))).1
    have hst2 := (kN (st, instObj 280 dst) (by k_mem)).1
    have hds2 := (kN (dst, dictOf [ent w "most" i0 (.int 64 u0), ent w "numbers" i1 (.ref nl)] 2) (by k_mem)).1
    exact hret _ _ _ (by assumption) (news_upd3 N (U _) (kept3 hK (N _ hst).1 hst2 (N _ hds).1 hds2) hnl)
end
end Mine
end

end

section
theorem Mine.reg_u2 : True := by
  (k_with "m call ref cons nil" => (k_here; (with_reducible show wpAny _ _ (call (Value.ref 242) _ _) _ _ _); k_dflt (refine' Mine.at_room ?h1Y60 ?h2Y60 ?h3Y60 ?h5Y60 (Mine.push_c ?BY60 ?FY60 ?XY60 ?NY60 ?TY60 ?hkY60 ?hstY60 ?hokY60 ?hdsY60 ?hnY60 ?o1Y60 ?o2Y60 ?UY60 ?hzY60 ?_); (case h1Y60 => exact rfl); (case h3Y60 => exact rfl); (case h2Y60 => exact Nat.le_of_ble_eq_true rfl); (case h5Y60 => exact Nat.le_of_ble_eq_true rfl); (case BY60 => k_asm); (case FY60 => k_asm); (case XY60 => k_asm); (case NY60 => first | k_asm | exact News.nil); (case TY60 => k_asm); (case hkY60 => first | exact rfl | assumption); (case hstY60 => k_mem); (case hdsY60 => k_mem); (case hokY60 => first | with_reducible assumption | exact ⟨_, _, _, rfl⟩); (case hnY60 => k_mem); (case o1Y60 => first | with_reducible assumption | k_ne); (case o2Y60 => first | with_reducible assumption | k_ne); (case hzY60 => exact Nat.le_of_ble_eq_true rfl); (case UY60 => (intro t'Z; k_upd))); intro t'Z h'Z tk'Z F'Z N'Z; (try dsimp only [List.nil_append, List.cons_append] at N'Z); (try dsimp only); (try k_fold)))
  trivial
open PySem PySem.W PyProof.Rows
set_option maxHeartbeats 8000000
namespace Mine
section
variable {w : World} {p : Program} {loose : List Str} {mean : ExcName → Option Value} {mg mb : Str → Option Value}
    {gd : Option (List Code)} {cn : Str} {cs : Scope} {a : Addr} {ccd : Value} {cl : List (Str × Addr)} {outer : List Env} {A₀ : Around} {base h₀ : Heap} {L : Addr} {m : Str → Option Value} {news : List (Addr × Obj)} {s : Shared} {Q E : Value → Shared → Prop}
    (B : Below A₀ base outer h₀) (F : Fr h₀ L s.heap m) (X : (Mine.hd.heap_1 w.params).In h₀) (N : News h₀ L s.heap news) (T : Top p loose mean mg mb h₀) (hk : cs.kind = .function)
include B F X N T hk
theorem push_r {st dst nl : Addr} {us : List Value} {ost : Obj} {n : Nat} {news' : Tok → List (Addr × Obj)} {v : Int} {tv : Tok}
    (hst : (st, instObj 280 dst) ∈ news) (hok : StOk w ost nl) (hds : (dst, ost) ∈ news) (hn : (nl, listOf us.toArray n) ∈ news) (o1 : HN st nl) (o2 : HN dst nl) (hv : -2147483648 ≤ v ∧ v < 2147483648)
    (U : ∀ t, Upd nl (listOf us.toArray n) (listOf (us ++ [Value.int v t]).toArray (n + 1)) news (news' t)) (hz : us.length < 64)
    (hret : ∀ t h' tk', Fr h₀ L h' m → News h₀ L h' (news' t) → Q .none { s with heap := h', toks := tk' }) :
    wpAny (model PG w) (ktrTop 900 9000 gd cn cs L a ccd cl outer) (call (.ref 242) [.ref st, .int v tv]) Q E s := by
  have e : wrapv v = v := by
    unfold wrapv
    rw [Int.fmod_eq_emod_of_nonneg _ (by decide)]
    omega
  exact push_c B F X N T hk hst hok hds hn o1 o2 (by rw [e]; exact U) hz hret
end
end Mine
end

theorem Mine.reg_x6 : True := by
  (k_with "x6 call builtin:len" => (k_here; (with_reducible show wpAny _ _ (call (Value.builtin "len") [Value.ref _]) _ _ _); k_dflt (refine' Mine.len_L ?k1Y58 ?k2Y58 ?_; (case k1Y58 => (refine' News.isList ?NY58 ?mY58; (case NY58 => k_asm); (case mY58 => k_mem))); (case k2Y58 => omega); k_whole)))
  (k_with "x6 subscriptTail" => (k_here; (with_reducible show wpAny _ _ (subscriptTail _ _ (Value.ref _) (Value.int _ _)) _ _ _); (with_unfolding_all refine' Mine.item_any ?k1Y61 ?k2Y61 ?k3Y61 ?k4Y61 ?_ ?k6Y61; (case k1Y61 => (refine' News.isList ?NY61 ?mY61; (case NY61 => k_asm); (case mY61 => k_mem))); (case k2Y61 => assumption); (case k3Y61 => assumption); (case k4Y61 => omega); (case k6Y61 => with_unfolding_all rfl); k_whole); intro v'Z hv'Z; (try dsimp only)))
  trivial
section
local macro_rules | `(tactic| walk_at $s:str) => do let t := Lean.Syntax.mkStrLit ("x6 " ++ s.getString); `(tactic| k_extra $t)

section
theorem Mine.reg_u3 : True := by
  (k_with "m call ref cons nil" => (k_here; (with_reducible show wpAny _ _ (call (Value.ref 405) _ _) _ _ _); k_dflt (refine' Mine.at_room ?h1Y62 ?h2Y62 ?h3Y62 ?h5Y62 (Mine.take_c ?BY62 ?FY62 ?XY62 ?NY62 ?TY62 ?hkY62 ?hsY62 ?haY62 ?hbY62 ?htY62 ?UY62 ?_); (case h1Y62 => exact rfl); (case h3Y62 => exact rfl); (case h2Y62 => exact Nat.le_of_ble_eq_true rfl); (case h5Y62 => exact Nat.le_of_ble_eq_true rfl); (case BY62 => k_asm); (case FY62 => k_asm); (case XY62 => k_asm); (case NY62 => first | k_asm | exact News.nil); (case TY62 => k_asm); (case hkY62 => first | exact rfl | assumption); (case hsY62 => k_mem); (case haY62 => with_reducible assumption); (case hbY62 => with_reducible assumption); (case htY62 => omega); (case UY62 => (intro a1'Z ta1'Z b1'Z tb1'Z n1'Z; k_upd))); intro r'Z t'Z a1'Z ta1'Z b1'Z tb1'Z n1'Z h'Z tk'Z hr0'Z hr1'Z ha1'Z hb1'Z F'Z N'Z; (try dsimp only at N'Z); (try dsimp only); (try k_fold)))
  trivial
open PySem PySem.W PyProof.Rows
set_option maxHeartbeats 8000000
namespace Mine
section
variable {w : World} {p : Program} {loose : List Str} {mean : ExcName → Option Value} {mg mb : Str → Option Value}
    {gd : Option (List Code)} {cn : Str} {cs : Scope} {a : Addr} {ccd : Value} {cl : List (Str × Addr)} {outer : List Env} {A₀ : Around} {base h₀ : Heap} {L : Addr} {m : Str → Option Value} {news : List (Addr × Obj)} {s : Shared} {Q E : Value → Shared → Prop}
    (B : Below A₀ base outer h₀) (F : Fr h₀ L s.heap m) (X : (Mine.hd.heap_1 w.params).In h₀) (N : News h₀ L s.heap news) (T : Top p loose mean mg mb h₀) (hk : cs.kind = .function)
include B F X N T hk
theorem one_c {src th : Addr} {a0 b0 : Int} {ta tb n k : Nat} {vs : List Value} {news' : Int → Tok → Int → Tok → Nat → List (Addr × Obj)} (hs : (src, listOf #[.int a0 ta, .int b0 tb] n) ∈ news) (hth : (th, listOf vs.toArray k) ∈ news) (ho : HN src th) (ha : 0 ≤ a0) (hb : 0 ≤ b0 ∧ b0 < 2147483647) (ht : 1 ≤ vs.length ∧ vs.length ≤ 16)
    (U : ∀ a1 ta1 b1 tb1 n1, Upd src (listOf #[.int a0 ta, .int b0 tb] n) (listOf #[Value.int a1 ta1, Value.int b1 tb1] n1) news (news' a1 ta1 b1 tb1 n1))
    (hret : ∀ v a1 ta1 b1 tb1 n1 h' tk', v ∈ vs → 0 ≤ a1 → (0 ≤ b1 ∧ b1 < 2147483647) → Fr h₀ L h' m → News h₀ L h' (news' a1 ta1 b1 tb1 n1) → Q v { s with heap := h', toks := tk' }) :
    wpAny (model PG w) (ktrTop 880 8000 gd cn cs L a ccd cl outer) (call (.ref 412) [.ref src, .ref th]) Q E s := by
  have hX : Mine.hd.heap_1 = Mine.hd.heap_1 ∧ PySem.Challenge.rw_qz0063_01 = PySem.Challenge.rw_qz0063_01 := by
    k_fill
    exact ⟨rfl, rfl⟩
  clear hX
  have N2 : News h₀ L s.heap [(src, listOf #[.int a0 ta, .int b0 tb] n), (th, listOf vs.toArray k)] := by
    refine cb_drop N ?_
    repeat' (first | exact List.forall_mem_nil _ | (refine Mine.fa_cons ?_ ?_) | assumption)
  refine wpAny_call ?_
  k_dflt (refine' enter2 ?k1 ?k2 ?k3 ?k4 ?k5 ?kA ?kF ?kK ?k6 ?k7 ?k8 ?k9 ?kB ?_ ?c2 ?c3 ?c4 ?c5; (case kA => exact rfl); (case kF => exact rfl); (case kK => assumption); (case k1 => k_asm); (case k2 => k_asm); (case k3 => k_asm); (case k4 => exact N2); (case k5 => k_asm); (case k6 => k_is); (case k7 => k_is); (case k8 => k_room); (case k9 => exact BindsTo.of_eq rfl); (case c5 => decide); (case kB => exact locs rfl); (case c2 => exact rfl); (case c3 => exact rfl); (case c4 => exact rfl); k_whole; intro g' L' h' FG' F' N' B' X' T' l1' l4'; (try dsimp only); (refine Mine.wp_enter ?_; intro ev Aw qk ek))
  clear F
  k_steps
  · (rename Kept _ _ _ => hK)
    (rename News h₀ L _ _ => kN)
    have hsr := (kN _ List.mem_cons_self).1
    have hth2 := (kN _ (List.mem_cons_of_mem _ List.mem_cons_self)).1
    refine' hret _ _ _ _ _ _ _ _ ?e1 ?e3 ?e4 ?e5 (news_upd3 N (U _ _ _ _ _) (kept2 hK (N _ hth).1 hth2) hsr)
    case e5 => assumption
    case e1 => assumption
    case e3 => assumption
    case e4 => assumption
theorem one_num {src th : Addr} {a0 b0 : Int} {ta tb n k : Nat} {vs : List Value} {news' : Int → Tok → Int → Tok → Nat → List (Addr × Obj)} (hs : (src, listOf #[.int a0 ta, .int b0 tb] n) ∈ news) (hth : (th, listOf vs.toArray k) ∈ news) (ho : HN src th) (ha : 0 ≤ a0) (hb : 0 ≤ b0 ∧ b0 < 2147483647) (ht : 1 ≤ vs.length ∧ vs.length ≤ 16)
    (hv : ∀ v ∈ vs, ∃ z t, v = Value.int z t ∧ 0 ≤ z ∧ z ≤ 1073741829)
    (U : ∀ a1 ta1 b1 tb1 n1, Upd src (listOf #[.int a0 ta, .int b0 tb] n) (listOf #[Value.int a1 ta1, Value.int b1 tb1] n1) news (news' a1 ta1 b1 tb1 n1))
    (hret : ∀ z t a1 ta1 b1 tb1 n1 h' tk', 0 ≤ z ∧ z ≤ 1073741829 → 0 ≤ a1 → (0 ≤ b1 ∧ b1 < 2147483647) → Fr h₀ L h' m → News h₀ L h' (news' a1 ta1 b1 tb1 n1) → Q (.int z t) { s with heap := h', toks := tk' }) :
    wpAny (model PG w) (ktrTop 880 8000 gd cn cs L a ccd cl outer) (call (.ref 412) [.ref src, .ref th]) Q E s := by
  refine one_c B F X N T hk hs hth ho ha hb ht U fun v a1 ta1 b1 tb1 n1 h' tk' hm h1 h2 F' N' => ?_
  obtain ⟨z, t, rfl, hz⟩ := hv v hm
  exact hret z t a1 ta1 b1 tb1 n1 h' tk' hz h1 h2 F' N'
theorem one_word {src th : Addr} {a0 b0 : Int} {ta tb n k : Nat} {vs : List Value} {news' : Int → Tok → Int → Tok → Nat → List (Addr × Obj)} (hs : (src, listOf #[.int a0 ta, .int b0 tb] n) ∈ news) (hth : (th, listOf vs.toArray k) ∈ news) (ho : HN src th) (ha : 0 ≤ a0) (hb : 0 ≤ b0 ∧ b0 < 2147483647) (ht : 1 ≤ vs.length ∧ vs.length ≤ 16)
    (hv : ∀ v ∈ vs, ∃ wd t P H R, v = Value.str wd t ∧ Row wd P H R)
    (U : ∀ a1 ta1 b1 tb1 n1, Upd src (listOf #[.int a0 ta, .int b0 tb] n) (listOf #[Value.int a1 ta1, Value.int b1 tb1] n1) news (news' a1 ta1 b1 tb1 n1))
    (hret : ∀ wd t P H R a1 ta1 b1 tb1 n1 h' tk', Row wd P H R → 0 ≤ a1 → (0 ≤ b1 ∧ b1 < 2147483647) → Fr h₀ L h' m → News h₀ L h' (news' a1 ta1 b1 tb1 n1) → Q (.str wd t) { s with heap := h', toks := tk' }) :
    wpAny (model PG w) (ktrTop 880 8000 gd cn cs L a ccd cl outer) (call (.ref 412) [.ref src, .ref th]) Q E s := by
  refine one_c B F X N T hk hs hth ho ha hb ht U fun v a1 ta1 b1 tb1 n1 h' tk' hm h1 h2 F' N' => ?_
  obtain ⟨wd, t, P, H, R, rfl, hz⟩ := hv v hm
  exact hret wd t P H R a1 ta1 b1 tb1 n1 h' tk' hz h1 h2 F' N'
end
end Mine
end

end

theorem Mine.reg_x7 : True := by
  (k_with "x7 setAttr ref str" => (k_here; k_dflt (refine' Mine.set_excN (C2 := 59) ?FY63 ?NY63 ?XY63 ?heY63 ?hcY63 ?hdY63 ?hmroY63 ?hsY63 ?htY63 ?UY63 ?_; (case FY63 => k_asm); (case NY63 => k_asm); (case XY63 => k_asm); (case heY63 => k_mem); (case hcY63 => k_is); (case hdY63 => rfl); (case hmroY63 => rfl); (case hsY63 => k_is); (case htY63 => k_is); (case UY63 => (intro DZ; k_upd))); intro h'Z tk'Z D'Z F'Z N'Z; (try dsimp only at N'Z)))
  trivial
section
local macro_rules | `(tactic| walk_at $s:str) => do let t := Lean.Syntax.mkStrLit ("x7 " ++ s.getString); `(tactic| k_extra $t)
local macro_rules | `(tactic| walk_at $s:str) => do let t := Lean.Syntax.mkStrLit ("x7 " ++ s.getString); `(tactic| k_extra $t)

section
open PySem PySem.W PyProof.Rows
set_option maxHeartbeats 8000000
namespace Mine
section
variable {w : World} {p : Program} {loose : List Str} {mean : ExcName → Option Value} {mg mb : Str → Option Value}
    {gd : Option (List Code)} {cn : Str} {cs : Scope} {a : Addr} {ccd : Value} {cl : List (Str × Addr)} {outer : List Env} {A₀ : Around} {base h₀ : Heap} {L : Addr} {m : Str → Option Value} {news : List (Addr × Obj)} {s : Shared} {Q E : Value → Shared → Prop}
    (B : Below A₀ base outer h₀) (F : Fr h₀ L s.heap m) (X : (Mine.hd.heap_1 w.params).In h₀) (N : News h₀ L s.heap news) (T : Top p loose mean mg mb h₀) (hk : cs.kind = .function)
include B F X N T hk
theorem init_c {e t : Addr} {msg : Str} {tm : Tok} (he : (e, excO 72 t) ∈ news)
    (hret : ∀ h' tk' D, Fr h₀ L h' m → (∀ b o, b ≠ e → s.heap.get? b = some o → h'.get? b = some o) → h'.get? e = some (excD 72 t D) → Q .none { s with heap := h', toks := tk' }) :
    wpAny (model PG w) (ktrTop 950 9500 gd cn cs L a ccd cl outer) (call (.ref 56) [.ref e, .str msg tm]) Q E s := by
  have hX : Mine.hd.heap_1 = Mine.hd.heap_1 ∧ PySem.Challenge.rw_qz0063_01 = PySem.Challenge.rw_qz0063_01 := by
    k_fill
    exact ⟨rfl, rfl⟩
  clear hX
  have N2 : News h₀ L s.heap [(e, excO 72 t)] := by
    refine cb_drop N ?_
    repeat' (first | exact List.forall_mem_nil _ | (refine Mine.fa_cons ?_ ?_) | assumption)
  refine wpAny_call ?_
  k_dflt (refine' enter2 ?k1 ?k2 ?k3 ?k4 ?k5 ?kA ?kF ?kK ?k6 ?k7 ?k8 ?k9 ?kB ?_ ?c2 ?c3 ?c4 ?c5; (case kA => exact rfl); (case kF => exact rfl); (case kK => assumption); (case k1 => k_asm); (case k2 => k_asm); (case k3 => k_asm); (case k4 => exact N2); (case k5 => k_asm); (case k6 => k_is); (case k7 => k_is); (case k8 => k_room); (case k9 => exact BindsTo.of_eq rfl); (case c5 => decide); (case kB => exact locs rfl); (case c2 => exact rfl); (case c3 => exact rfl); (case c4 => exact rfl); k_whole; intro g' L' h' FG' F' N' B' X' T' l1' l4'; (try dsimp only); (refine Mine.wp_enter ?_; intro ev Aw qk ek))
  clear F
  k_steps
  · (rename Kept _ _ _ => hK)
    (rename News h₀ L _ _ => kN)
    refine hret _ _ _ (by assumption) (fun b o hb eb => hK b o eb (fun hm => ?_)) (kN _ List.mem_cons_self).1
    rcases List.mem_cons.mp hm with q | q
    · exact hb q
    · cases q
end
end Mine
end

end

section
open PySem PySem.W PyProof.Rows
set_option maxHeartbeats 8000000
namespace Mine
section
variable {w : World} {p : Program} {loose : List Str} {mean : ExcName → Option Value} {mg mb : Str → Option Value}
    {gd : Option (List Code)} {cn : Str} {cs : Scope} {a : Addr} {ccd : Value} {cl : List (Str × Addr)} {outer : List Env} {A₀ : Around} {base h₀ : Heap} {L : Addr} {m : Str → Option Value} {news : List (Addr × Obj)} {s : Shared} {Q E : Value → Shared → Prop}
    (B : Below A₀ base outer h₀) (F : Fr h₀ L s.heap m) (X : (Mine.hd.heap_1 w.params).In h₀) (N : News h₀ L s.heap news) (T : Top p loose mean mg mb h₀) (hk : cs.kind = .function)
include B F X N T hk
theorem call_HF {msg : Str} {tm : Tok}
    (hret : ∀ e t h' tk', Fr h₀ L h' m → MadeX s.heap h' e t 72 [.str msg tm] → Q (.ref e) { s with heap := h', toks := tk' }) :
    wpAny (model PG w) (ktrTop 940 9400 gd cn cs L a ccd cl outer) (call (.ref 72) [.str msg tm]) Q E s := by
  have hX : Mine.hd.heap_1 = Mine.hd.heap_1 ∧ PySem.Challenge.rw_qz0063_01 = PySem.Challenge.rw_qz0063_01 := by
    k_fill
    exact ⟨rfl, rfl⟩
  clear hX
  obtain ⟨hp, g, d, tk, os⟩ := s
  have XH := X.keeps F.keep
  have hC := XH 72 _ (by k_is)
  have F1 := (F.push (tupO [Value.str msg tm])).push (excO 72 hp.objs.size)
  have N1 : News h₀ L ((hp.push (tupO [Value.str msg tm])).push (excO 72 hp.objs.size)) [(hp.objs.size + 1, excO 72 hp.objs.size), (hp.objs.size, tupO [Value.str msg tm])] := by
    have n1 := (News.nil (h₀ := h₀) (L := L) (h := hp)).push F (tupO [Value.str msg tm]) rfl
    have n2 := n1.push (F.push _) (excO 72 hp.objs.size) rfl
    rw [Heap.size_push] at n2
    exact n2
  refine ex_call (bmB := [.type "Exception", .type "BaseException", .type "object"]) PySem.F.excBase_Exception ?T XH hC (fI := 56) (by k_is) (by k_is) ?_ (Nat.le_of_ble_eq_true rfl)
  case T =>
    intro X b hb
    rw [List.contains_cons]
    rw [hb]
    rfl
  refine' Mine.at_room ?h1 ?h2 ?h3 ?h5 (Mine.init_c (news := [(hp.objs.size + 1, excO 72 hp.objs.size), (hp.objs.size, tupO [Value.str msg tm])]) B F1 X N1 T hk (t := hp.objs.size) ?he ?_)
  case h1 => exact rfl
  case h3 => exact rfl
  case h2 => exact Nat.le_of_ble_eq_true rfl
  case h5 => exact Nat.le_of_ble_eq_true rfl
  case he => exact List.mem_cons_self
  intro h' tk' D F' k e
  have ne : hp.objs.size ≠ hp.objs.size + 1 := by omega
  refine ⟨rfl, hret _ hp.objs.size h' tk' F' ⟨fun b o q => k b o (Nat.ne_of_lt (Nat.lt_succ_of_lt (Heap.lt_size q))) (Heap.get?_push_of_some _ (Heap.get?_push_of_some _ q)), Heap.get?_none_of_le (Nat.le_succ _), Heap.get?_none_of_le (Nat.le_refl _), ⟨D, e⟩, ?_⟩⟩
  exact k _ _ ne (N1 _ (List.mem_cons_of_mem _ List.mem_cons_self)).1
end
end Mine
end

section
open PySem PySem.W PyProof.Rows
set_option maxHeartbeats 8000000
namespace Mine
section
variable {w : World} {p : Program} {loose : List Str} {mean : ExcName → Option Value} {mg mb : Str → Option Value}
    {gd : Option (List Code)} {cn : Str} {cs : Scope} {a : Addr} {ccd : Value} {cl : List (Str × Addr)} {outer : List Env} {A₀ : Around} {base h₀ : Heap} {L : Addr} {m : Str → Option Value} {news : List (Addr × Obj)} {s : Shared} {Q E : Value → Shared → Prop}
    (B : Below A₀ base outer h₀) (F : Fr h₀ L s.heap m) (X : (Mine.hd.heap_1 w.params).In h₀) (N : News h₀ L s.heap news) (T : Top p loose mean mg mb h₀) (hk : cs.kind = .function)
include B F X N T hk
theorem delta_c {x dx gs dgs st f1 f2 f3 rd sd sc e c : Addr} {k0 k1 k2 k3 k4 k5 k6 k7 k8 k9 k10 k11 k12 k13 k14 k15 k16 k17 j0 j1 j2 j3 j4 j5 j6 j7 : Tok} {v0 v1 v2 v3 v4 v5 v6 v7 v8 v9 v10 v11 v12 u3 u4 ta tb : Nat} {pp b : Int}
    (h_x : (x, instObj 331 dx) ∈ news) (h_dx : (dx, dictOf [ent w "state" j0 (.ref gs), ent w "stack" j1 (.ref st), ent w "zones" j2 (.ref e), ent w "cvt" j3 (.ref c), ent w "storage" j4 (.ref sd), ent w "ppem" j5 (.int pp u3), ent w "point_size" j6 (.int 768 u4), ent w "scale" j7 (.ref sc)] 8) ∈ news) (h_gs : (gs, instObj 217 dgs) ∈ news) (h_dgs : (dgs, dictOf [ent w "freedom" k0 (.ref f1), ent w "projection" k1 (.ref f2), ent w "dual" k2 (.ref f3), ent w "rp0" k3 (.int 0 v0), ent w "rp1" k4 (.int 0 v1), ent w "rp2" k5 (.int 0 v2), ent w "zp0" k6 (.int 1 v3), ent w "zp1" k7 (.int 1 v4), ent w "zp2" k8 (.int 1 v5), ent w "loop" k9 (.int 1 v6), ent w "minimum" k10 (.int 64 v7), ent w "cut_in" k11 (.int 68 v8), ent w "single_cut_in" k12 (.int 0 v9), ent w "single_width" k13 (.int 0 v10), ent w "delta_base" k14 (.int 9 v11), ent w "delta_shift" k15 (.int 3 v12), ent w "auto_flip" k16 (.bool true), ent w "rounding" k17 (.ref rd)] 18) ∈ news)
    (hpp : pp = 9 + b)
    (hret : ∀ t h' tk', Fr h₀ L h' m → News h₀ L h' news → Q (.int 8 t) { s with heap := h', toks := tk' }) :
    wpAny (model PG w) (ktrTop 900 9000 gd cn cs L a ccd cl outer) (call (.ref 130) [.ref x, .int 8 ta, .int b tb]) Q E s := by
  have hX : Mine.hd.heap_1 = Mine.hd.heap_1 ∧ PySem.Challenge.rw_qz0063_01 = PySem.Challenge.rw_qz0063_01 := by
    k_fill
    exact ⟨rfl, rfl⟩
  clear hX
  let o_x : Obj := instObj 331 dx
  let o_dx : Obj := dictOf [ent w "state" j0 (.ref gs), ent w "stack" j1 (.ref st), ent w "zones" j2 (.ref e), ent w "cvt" j3 (.ref c), ent w "storage" j4 (.ref sd), ent w "ppem" j5 (.int pp u3), ent w "point_size" j6 (.int 768 u4), ent w "scale" j7 (.ref sc)] 8
  let o_gs : Obj := instObj 217 dgs
  let o_dgs : Obj := dictOf [ent w "freedom" k0 (.ref f1), ent w "projection" k1 (.ref f2), ent w "dual" k2 (.ref f3), ent w "rp0" k3 (.int 0 v0), ent w "rp1" k4 (.int 0 v1), ent w "rp2" k5 (.int 0 v2), ent w "zp0" k6 (.int 1 v3), ent w "zp1" k7 (.int 1 v4), ent w "zp2" k8 (.int 1 v5), ent w "loop" k9 (.int 1 v6), ent w "minimum" k10 (.int 64 v7), ent w "cut_in" k11 (.int 68 v8), ent w "single_cut_in" k12 (.int 0 v9), ent w "single_width" k13 (.int 0 v10), ent w "delta_base" k14 (.int 9 v11), ent w "delta_shift" k15 (.int 3 v12), ent w "auto_flip" k16 (.bool true), ent w "rounding" k17 (.ref rd)] 18
  have N2 : News h₀ L s.heap [(x, o_x), (dx, o_dx), (gs, o_gs), (dgs, o_dgs)] := by
    refine cb_drop N ?_
    repeat' (first | exact List.forall_mem_nil _ | (refine Mine.fa_cons ?_ ?_) | assumption)
  refine wpAny_call ?_
  k_dflt (refine' enter2 ?k1 ?k2 ?k3 ?k4 ?k5 ?kA ?kF ?kK ?k6 ?k7 ?k8 ?k9 ?kB ?_ ?c2 ?c3 ?c4 ?c5; (case kA => exact rfl); (case kF => exact rfl); (case kK => assumption); (case k1 => k_asm); (case k2 => k_asm); (case k3 => k_asm); (case k4 => exact N2); (case k5 => k_asm); (case k6 => k_is); (case k7 => k_is); (case k8 => k_room); (case k9 => exact BindsTo.of_eq rfl); (case c5 => decide); (case kB => exact locs rfl); (case c2 => exact rfl); (case c3 => exact rfl); (case c4 => exact rfl); k_whole; intro g' L' h' FG' F' N' B' X' T' l1' l4'; (try k_lt l1'); (try dsimp only); (refine Mine.wp_enter ?_; intro ev Aw qk ek))
  clear F
  k_steps
  · exfalso
    have z : Int.fmod (Int.fdiv 8 16) 16 = 0 := by decide
    simp only [z] at *
    omega
  · (rename Kept _ _ _ => hK)
    (rename News h₀ L _ _ => kN)
    refine' cb_retI (Q := Q) hret ?e ?f ?g
    case e => rfl
    case f => assumption
    case g => exact news_same N (by repeat' (first | exact List.forall_mem_nil _ | (refine Mine.fa_cons ?_ ?_) | assumption)) kN hK
end
end Mine
end

section
open PySem PySem.W PyProof.Rows
set_option maxHeartbeats 8000000
namespace Mine
section
variable {w : World} {p : Program} {loose : List Str} {mean : ExcName → Option Value} {mg mb : Str → Option Value}
    {gd : Option (List Code)} {cn : Str} {cs : Scope} {a : Addr} {ccd : Value} {cl : List (Str × Addr)} {outer : List Env} {A₀ : Around} {base h₀ : Heap} {L : Addr} {m : Str → Option Value} {news : List (Addr × Obj)} {s : Shared} {Q E : Value → Shared → Prop}
    (B : Below A₀ base outer h₀) (F : Fr h₀ L s.heap m) (X : (Mine.hd.heap_1 w.params).In h₀) (N : News h₀ L s.heap news) (T : Top p loose mean mg mb h₀) (hk : cs.kind = .function)
include B F X N T hk
theorem wrap_c {v : Int} {tv : Nat}
    (hret : ∀ t h' tk', Fr h₀ L h' m → News h₀ L h' news → Q (.int (Int.fmod (v + 2147483648) 4294967296 - 2147483648) t) { s with heap := h', toks := tk' }) :
    wpAny (model PG w) (ktrTop 950 9500 gd cn cs L a ccd cl outer) (call (.ref 42) [.int v tv]) Q E s := by
  have hX : Mine.hd.heap_1 = Mine.hd.heap_1 ∧ PySem.Challenge.rw_qz0063_01 = PySem.Challenge.rw_qz0063_01 := by
    k_fill
    exact ⟨rfl, rfl⟩
  clear hX
  refine wpAny_call ?_
  k_dflt cell_enter
  k_steps
  all_goals
    refine' cb_retI (Q := Q) hret ?e ?f ?g
    case f => assumption
    case g => exact cb_drop (by assumption) (fun p hp => by repeat (first | exact hp | refine List.mem_cons_of_mem _ ?_))
    case e => rfl
end
end Mine
end

section
open PySem PySem.W PyProof.Rows
set_option maxHeartbeats 8000000
namespace Mine
section
variable {w : World} {p : Program} {loose : List Str} {mean : ExcName → Option Value} {mg mb : Str → Option Value}
    {gd : Option (List Code)} {cn : Str} {cs : Scope} {a : Addr} {ccd : Value} {cl : List (Str × Addr)} {outer : List Env} {A₀ : Around} {base h₀ : Heap} {L : Addr} {m : Str → Option Value} {news : List (Addr × Obj)} {s : Shared} {Q E : Value → Shared → Prop}
    (B : Below A₀ base outer h₀) (F : Fr h₀ L s.heap m) (X : (Mine.hd.heap_1 w.params).In h₀) (N : News h₀ L s.heap news) (T : Top p loose mean mg mb h₀) (hk : cs.kind = .function)
include B F X N T hk
theorem cvtv_c {x dx gs st e c : Addr} {ox : Obj} {pp v0 : Int} {z0 z1 n : Nat} {ti : Tok}
    (hx : (x, instObj 331 dx) ∈ news) (hok : WkOk w ox gs st e c pp) (hdx : (dx, ox) ∈ news) (hc : (c, listOf #[.int v0 z0, .int 5 z1] n) ∈ news)
    (hret : ∀ h' tk', Fr h₀ L h' m → News h₀ L h' news → Q (.int v0 z0) { s with heap := h', toks := tk' }) :
    wpAny (model PG w) (ktrTop 920 9200 gd cn cs L a ccd cl outer) (call (.ref 314) [.ref x, .int 0 ti]) Q E s := by
  have hX : Mine.hd.heap_1 = Mine.hd.heap_1 ∧ PySem.Challenge.rw_qz0063_01 = PySem.Challenge.rw_qz0063_01 := by
    k_fill
    exact ⟨rfl, rfl⟩
  clear hX
  obtain ⟨sd, sc, k, rfl⟩ := hok
  let o_dx : Obj := dictOf [ent w "state" (k 0) (.ref gs), ent w "stack" (k 1) (.ref st), ent w "zones" (k 2) (.ref e), ent w "cvt" (k 3) (.ref c), ent w "storage" (k 4) (.ref sd), ent w "ppem" (k 5) (.int pp (k 8)), ent w "point_size" (k 6) (.int 768 (k 9)), ent w "scale" (k 7) (.ref sc)] 8
  let o_c : Obj := listOf #[.int v0 z0, .int 5 z1] n
  have N2 : News h₀ L s.heap [(x, instObj 331 dx), (dx, o_dx), (c, o_c)] := by
    refine cb_drop N ?_
    repeat' (first | exact List.forall_mem_nil _ | (refine Mine.fa_cons ?_ ?_) | assumption)
  refine wpAny_call ?_
  k_dflt (refine' enter2 ?k1 ?k2 ?k3 ?k4 ?k5 ?kA ?kF ?kK ?k6 ?k7 ?k8 ?k9 ?kB ?_ ?c2 ?c3 ?c4 ?c5; (case kA => exact rfl); (case kF => exact rfl); (case kK => assumption); (case k1 => k_asm); (case k2 => k_asm); (case k3 => k_asm); (case k4 => exact N2); (case k5 => k_asm); (case k6 => k_is); (case k7 => k_is); (case k8 => k_room); (case k9 => exact BindsTo.of_eq rfl); (case c5 => decide); (case kB => exact locs rfl); (case c2 => exact rfl); (case c3 => exact rfl); (case c4 => exact rfl); k_whole; intro g' L' h' FG' F' N' B' X' T' l1' l4'; (try dsimp only); (refine Mine.wp_enter ?_; intro ev Aw qk ek))
  clear F
  k_steps
  · (rename Kept _ _ _ => hK)
    (rename News h₀ L _ _ => kN)
    refine hret _ _ (by assumption) (news_back N hK ?_)
    intro p hp
    exact .inr ⟨(N2 p hp).1, (kN p hp).1⟩
end
end Mine
end

section
theorem Mine.reg_u4 : True := by
  (k_with "m call ref cons nil" => (k_here; (with_reducible show wpAny _ _ (call (Value.ref 314) _ _) _ _ _); k_dflt (refine' Mine.at_room ?h1Y64 ?h2Y64 ?h3Y64 ?h5Y64 (Mine.cvtv_c ?BY64 ?FY64 ?XY64 ?NY64 ?TY64 ?hkY64 ?hxY64 ?hokY64 ?hdxY64 ?hcY64 ?_); (case h1Y64 => exact rfl); (case h3Y64 => exact rfl); (case h2Y64 => exact Nat.le_of_ble_eq_true rfl); (case h5Y64 => exact Nat.le_of_ble_eq_true rfl); (case BY64 => k_asm); (case FY64 => k_asm); (case XY64 => k_asm); (case NY64 => k_asm); (case TY64 => k_asm); (case hkY64 => first | exact rfl | assumption); (case hxY64 => k_mem); (case hdxY64 => k_mem); (case hokY64 => first | with_reducible assumption | exact Mine.WkOk.mk); (case hcY64 => k_mem)); intro h'Z tk'Z F'Z N'Z; (try dsimp only); (try k_fold)))
  (k_with "m call ref cons nil" => (k_here; (with_reducible show wpAny _ _ (call (Value.ref 42) _ _) _ _ _); k_dflt (refine' Mine.at_room ?h1Y65 ?h2Y65 ?h3Y65 ?h5Y65 (Mine.wrap_c ?BY65 ?FY65 ?XY65 ?NY65 ?TY65 ?hkY65 ?_); (case h1Y65 => exact rfl); (case h3Y65 => exact rfl); (case h2Y65 => exact Nat.le_of_ble_eq_true rfl); (case h5Y65 => exact Nat.le_of_ble_eq_true rfl); (case BY65 => k_asm); (case FY65 => k_asm); (case XY65 => k_asm); (case NY65 => k_asm); (case TY65 => k_asm); (case hkY65 => first | exact rfl | assumption)); intro t'Z h'Z tk'Z F'Z N'Z; (try dsimp only); (try k_fold)))
  trivial
open PySem PySem.W PyProof.Rows
set_option maxHeartbeats 8000000
namespace Mine
section
variable {w : World} {p : Program} {loose : List Str} {mean : ExcName → Option Value} {mg mb : Str → Option Value}
    {gd : Option (List Code)} {cn : Str} {cs : Scope} {a : Addr} {ccd : Value} {cl : List (Str × Addr)} {outer : List Env} {A₀ : Around} {base h₀ : Heap} {L : Addr} {m : Str → Option Value} {news : List (Addr × Obj)} {s : Shared} {Q E : Value → Shared → Prop}
    (B : Below A₀ base outer h₀) (F : Fr h₀ L s.heap m) (X : (Mine.hd.heap_1 w.params).In h₀) (N : News h₀ L s.heap news) (T : Top p loose mean mg mb h₀) (hk : cs.kind = .function)
include B F X N T hk
theorem putc_c {x dx gs st e c : Addr} {ox : Obj} {pp v0 v r : Int} {z0 z1 n : Nat} {ti tv : Tok} {news' : Nat → Nat → List (Addr × Obj)}
    (hx : (x, instObj 331 dx) ∈ news) (hok : WkOk w ox gs st e c pp) (hdx : (dx, ox) ∈ news) (hc : (c, listOf #[.int v0 z0, .int 5 z1] n) ∈ news)
    (hr : Int.fmod (v + 2147483648) 4294967296 - 2147483648 = r) (o1 : HN x c) (o2 : HN dx c) (U : ∀ n' t', Upd c (listOf #[.int v0 z0, .int 5 z1] n) (listOf #[.int r t', .int 5 z1] n') news (news' n' t'))
    (hret : ∀ n' t' h' tk', Fr h₀ L h' m → News h₀ L h' (news' n' t') → Q .none { s with heap := h', toks := tk' }) :
    wpAny (model PG w) (ktrTop 900 9000 gd cn cs L a ccd cl outer) (call (.ref 321) [.ref x, .int 0 ti, .int v tv]) Q E s := by
  have hX : Mine.hd.heap_1 = Mine.hd.heap_1 ∧ PySem.Challenge.rw_qz0063_01 = PySem.Challenge.rw_qz0063_01 := by
    k_fill
    exact ⟨rfl, rfl⟩
  clear hX
  subst hr
  obtain ⟨sd, sc, k, rfl⟩ := hok
  let o_dx : Obj := dictOf [ent w "state" (k 0) (.ref gs), ent w "stack" (k 1) (.ref st), ent w "zones" (k 2) (.ref e), ent w "cvt" (k 3) (.ref c), ent w "storage" (k 4) (.ref sd), ent w "ppem" (k 5) (.int pp (k 8)), ent w "point_size" (k 6) (.int 768 (k 9)), ent w "scale" (k 7) (.ref sc)] 8
  let o_c : Obj := listOf #[.int v0 z0, .int 5 z1] n
  have N2 : News h₀ L s.heap [(x, instObj 331 dx), (dx, o_dx), (c, o_c)] := by
    refine cb_drop N ?_
    repeat' (first | exact List.forall_mem_nil _ | (refine Mine.fa_cons ?_ ?_) | assumption)
  refine wpAny_call ?_
  k_dflt (refine' enter2 ?k1 ?k2 ?k3 ?k4 ?k5 ?kA ?kF ?kK ?k6 ?k7 ?k8 ?k9 ?kB ?_ ?c2 ?c3 ?c4 ?c5; (case kA => exact rfl); (case kF => exact rfl); (case kK => assumption); (case k1 => k_asm); (case k2 => k_asm); (case k3 => k_asm); (case k4 => exact N2); (case k5 => k_asm); (case k6 => k_is); (case k7 => k_is); (case k8 => k_room); (case k9 => exact BindsTo.of_eq rfl); (case c5 => decide); (case kB => exact locs rfl); (case c2 => exact rfl); (case c3 => exact rfl); (case c4 => exact rfl); k_whole; intro g' L' h' FG' F' N' B' X' T' l1' l4'; (try dsimp only); (refine Mine.wp_enter ?_; intro ev Aw qk ek))
  clear F
  k_steps
  · (rename Kept _ _ _ => hK)
    (rename News h₀ L _ _ => kN)
    apply hret
    · assumption
    · apply news_chg N (Chg.one (U _ _)) hK
      · repeat' (first | exact List.forall_mem_nil _ | (refine Mine.fa_cons ?_ ?_) | exact .inl ⟨_, List.mem_cons_self, rfl⟩ | exact .inr ⟨(N _ (by assumption)).1, (kN _ (by k_mem)).1⟩)
      · repeat' (first | exact List.forall_mem_nil _ | (refine Mine.fa_cons ?_ ?_) | (refine Mine.kget kN ?_; k_mem; done))
end
end Mine
end

section
open PySem PySem.W PyProof.Rows
set_option maxHeartbeats 8000000
namespace Mine
section
variable {w : World} {p : Program} {loose : List Str} {mean : ExcName → Option Value} {mg mb : Str → Option Value}
    {gd : Option (List Code)} {cn : Str} {cs : Scope} {a : Addr} {ccd : Value} {cl : List (Str × Addr)} {outer : List Env} {A₀ : Around} {base h₀ : Heap} {L : Addr} {m : Str → Option Value} {news : List (Addr × Obj)} {s : Shared} {Q E : Value → Shared → Prop}
    (B : Below A₀ base outer h₀) (F : Fr h₀ L s.heap m) (X : (Mine.hd.heap_1 w.params).In h₀) (N : News h₀ L s.heap news) (T : Top p loose mean mg mb h₀) (hk : cs.kind = .function)
include B F X N T hk
theorem chk_c {z dz org cu to en oc p0 p1 : Addr} {oz : Obj} {n : Nat} {ti : Tok}
    (hz : (z, instObj 387 dz) ∈ news) (hok : ZnOk w oz org cu to en oc) (hdz : (dz, oz) ∈ news) (hcu : (cu, listOf #[.ref p0, .ref p1] n) ∈ news)
    (hret : ∀ h' tk', Fr h₀ L h' m → News h₀ L h' news → Q (.int 0 ti) { s with heap := h', toks := tk' }) :
    wpAny (model PG w) (ktrTop 920 9200 gd cn cs L a ccd cl outer) (call (.ref 370) [.ref z, .int 0 ti]) Q E s := by
  have hX : Mine.hd.heap_1 = Mine.hd.heap_1 ∧ PySem.Challenge.rw_qz0063_01 = PySem.Challenge.rw_qz0063_01 := by
    k_fill
    exact ⟨rfl, rfl⟩
  clear hX
  obtain ⟨k, rfl⟩ := hok
  let o_dz : Obj := dictOf [ent w "original" (k 0) (.ref org), ent w "current" (k 1) (.ref cu), ent w "touched" (k 2) (.ref to), ent w "ends" (k 3) (.ref en), ent w "on_curve" (k 4) (.ref oc)] 5
  let o_cu : Obj := listOf #[.ref p0, .ref p1] n
  have N2 : News h₀ L s.heap [(z, instObj 387 dz), (dz, o_dz), (cu, o_cu)] := by
    refine cb_drop N ?_
    repeat' (first | exact List.forall_mem_nil _ | (refine Mine.fa_cons ?_ ?_) | assumption)
  refine wpAny_call ?_
  k_dflt (refine' enter2 ?k1 ?k2 ?k3 ?k4 ?k5 ?kA ?kF ?kK ?k6 ?k7 ?k8 ?k9 ?kB ?_ ?c2 ?c3 ?c4 ?c5; (case kA => exact rfl); (case kF => exact rfl); (case kK => assumption); (case k1 => k_asm); (case k2 => k_asm); (case k3 => k_asm); (case k4 => exact N2); (case k5 => k_asm); (case k6 => k_is); (case k7 => k_is); (case k8 => k_room); (case k9 => exact BindsTo.of_eq rfl); (case c5 => decide); (case kB => exact locs rfl); (case c2 => exact rfl); (case c3 => exact rfl); (case c4 => exact rfl); k_whole; intro g' L' h' FG' F' N' B' X' T' l1' l4'; (try dsimp only); (refine Mine.wp_enter ?_; intro ev Aw qk ek))
  clear F
  k_steps
  · (rename Kept _ _ _ => hK)
    (rename News h₀ L _ _ => kN)
    refine hret _ _ (by assumption) (news_back N hK ?_)
    intro p hp
    exact .inr ⟨(N2 p hp).1, (kN p hp).1⟩
end
end Mine
end

section
open PySem PySem.W PyProof.Rows
set_option maxHeartbeats 8000000
namespace Mine
section
variable {w : World} {p : Program} {loose : List Str} {mean : ExcName → Option Value} {mg mb : Str → Option Value}
    {gd : Option (List Code)} {cn : Str} {cs : Scope} {a : Addr} {ccd : Value} {cl : List (Str × Addr)} {outer : List Env} {A₀ : Around} {base h₀ : Heap} {L : Addr} {m : Str → Option Value} {news : List (Addr × Obj)} {s : Shared} {Q E : Value → Shared → Prop}
    (B : Below A₀ base outer h₀) (F : Fr h₀ L s.heap m) (X : (Mine.hd.heap_1 w.params).In h₀) (N : News h₀ L s.heap news) (T : Top p loose mean mg mb h₀) (hk : cs.kind = .function)
include B F X N T hk
theorem wz_c {x dx gs st e c zo z : Addr} {ox : Obj} {pp : Int} {n : Nat} {ti : Tok}
    (hx : (x, instObj 331 dx) ∈ news) (hok : WkOk w ox gs st e c pp) (hdx : (dx, ox) ∈ news) (he : (e, listOf #[.ref zo, .ref z] n) ∈ news)
    (hret : ∀ h' tk', Fr h₀ L h' m → News h₀ L h' news → Q (.ref z) { s with heap := h', toks := tk' }) :
    wpAny (model PG w) (ktrTop 920 9200 gd cn cs L a ccd cl outer) (call (.ref 307) [.ref x, .int 1 ti]) Q E s := by
  have hX : Mine.hd.heap_1 = Mine.hd.heap_1 ∧ PySem.Challenge.rw_qz0063_01 = PySem.Challenge.rw_qz0063_01 := by
    k_fill
    exact ⟨rfl, rfl⟩
  clear hX
  obtain ⟨sd, sc, k, rfl⟩ := hok
  let o_dx : Obj := dictOf [ent w "state" (k 0) (.ref gs), ent w "stack" (k 1) (.ref st), ent w "zones" (k 2) (.ref e), ent w "cvt" (k 3) (.ref c), ent w "storage" (k 4) (.ref sd), ent w "ppem" (k 5) (.int pp (k 8)), ent w "point_size" (k 6) (.int 768 (k 9)), ent w "scale" (k 7) (.ref sc)] 8
  let o_e : Obj := listOf #[.ref zo, .ref z] n
  have N2 : News h₀ L s.heap [(x, instObj 331 dx), (dx, o_dx), (e, o_e)] := by
    refine cb_drop N ?_
    repeat' (first | exact List.forall_mem_nil _ | (refine Mine.fa_cons ?_ ?_) | assumption)
  refine wpAny_call ?_
  k_dflt (refine' enter2 ?k1 ?k2 ?k3 ?k4 ?k5 ?kA ?kF ?kK ?k6 ?k7 ?k8 ?k9 ?kB ?_ ?c2 ?c3 ?c4 ?c5; (case kA => exact rfl); (case kF => exact rfl); (case kK => assumption); (case k1 => k_asm); (case k2 => k_asm); (case k3 => k_asm); (case k4 => exact N2); (case k5 => k_asm); (case k6 => k_is); (case k7 => k_is); (case k8 => k_room); (case k9 => exact BindsTo.of_eq rfl); (case c5 => decide); (case kB => exact locs rfl); (case c2 => exact rfl); (case c3 => exact rfl); (case c4 => exact rfl); k_whole; intro g' L' h' FG' F' N' B' X' T' l1' l4'; (try dsimp only); (refine Mine.wp_enter ?_; intro ev Aw qk ek))
  clear F
  k_steps
  · (rename Kept _ _ _ => hK)
    (rename News h₀ L _ _ => kN)
    refine hret _ _ (by assumption) (news_back N hK ?_)
    repeat' (first | exact List.forall_mem_nil _ | (refine Mine.fa_cons ?_ ?_) | exact .inr ⟨(N2 _ (by k_mem)).1, (kN _ (by k_mem)).1⟩)
end
end Mine
end

section
theorem Mine.reg_u5 : True := by
  (k_with "m call ref cons nil" => (k_here; (with_reducible show wpAny _ _ (call (Value.ref 249) _ _) _ _ _); k_dflt (refine' Mine.at_room ?h1Y66 ?h2Y66 ?h3Y66 ?h5Y66 (Mine.pop_e ?BY66 ?FY66 ?XY66 ?NY66 ?TY66 ?hkY66 ?hstY66 ?hokY66 ?hdsY66 ?hnY66 ?o1Y66 ?o2Y66 ?heY66 ?UY66 ?hiY66 ?hzY66 ?_); (case h1Y66 => exact rfl); (case h3Y66 => exact rfl); (case h2Y66 => exact Nat.le_of_ble_eq_true rfl); (case h5Y66 => exact Nat.le_of_ble_eq_true rfl); (case BY66 => k_asm); (case FY66 => k_asm); (case XY66 => k_asm); (case NY66 => first | k_asm | exact News.nil); (case TY66 => k_asm); (case hkY66 => first | exact rfl | assumption); (case hstY66 => k_mem); (case hdsY66 => k_mem); (case hokY66 => first | with_reducible assumption | exact ⟨_, _, _, rfl⟩); (case hnY66 => k_mem); (case o1Y66 => first | with_reducible assumption | k_ne); (case o2Y66 => first | with_reducible assumption | k_ne); (case heY66 => repeat (first | exact Mine.Ends.one | apply Mine.Ends.cons)); (case hiY66 => repeat (first | exact IntsAre.nil | apply IntsAre.cons)); (case hzY66 => exact Nat.le_of_ble_eq_true rfl); (case UY66 => k_upd)); intro t'Z h'Z tk'Z F'Z N'Z; (try dsimp only [List.nil_append, List.cons_append] at N'Z); (try dsimp only); (try k_fold)))
  (k_with "m call ref cons nil" => (k_here; (with_reducible show wpAny _ _ (call (Value.ref 249) _ _) _ _ _); k_dflt (refine' Mine.at_room ?h1Y67 ?h2Y67 ?h3Y67 ?h5Y67 (Mine.pop_e ?BY67 ?FY67 ?XY67 ?NY67 ?TY67 ?hkY67 ?hstY67 ?hokY67 ?hdsY67 ?hnY67 ?o1Y67 ?o2Y67 ?heY67 ?UY67 ?hiY67 ?hzY67 ?_); (case h1Y67 => exact rfl); (case h3Y67 => exact rfl); (case h2Y67 => exact Nat.le_of_ble_eq_true rfl); (case h5Y67 => exact Nat.le_of_ble_eq_true rfl); (case BY67 => k_asm); (case FY67 => k_asm); (case XY67 => k_asm); (case NY67 => first | k_asm | exact News.nil); (case TY67 => k_asm); (case hkY67 => first | exact rfl | assumption); (case hstY67 => k_mem); (case hdsY67 => k_mem); (case hokY67 => first | with_reducible assumption | exact ⟨_, _, _, rfl⟩); (case hnY67 => k_mem); (case o1Y67 => first | with_reducible assumption | k_ne); (case o2Y67 => first | with_reducible assumption | k_ne); (case heY67 => assumption); (case hiY67 => assumption); (case hzY67 => assumption); (case UY67 => k_upd)); intro t'Z h'Z tk'Z F'Z N'Z; (try dsimp only [List.nil_append, List.cons_append] at N'Z); (try dsimp only); (try k_fold)))
  trivial
open PySem PySem.W PyProof.Rows
set_option maxHeartbeats 8000000
namespace Mine
section
variable {w : World} {p : Program} {loose : List Str} {mean : ExcName → Option Value} {mg mb : Str → Option Value}
    {gd : Option (List Code)} {cn : Str} {cs : Scope} {a : Addr} {ccd : Value} {cl : List (Str × Addr)} {outer : List Env} {A₀ : Around} {base h₀ : Heap} {L : Addr} {m : Str → Option Value} {news : List (Addr × Obj)} {s : Shared} {Q E : Value → Shared → Prop}
    (B : Below A₀ base outer h₀) (F : Fr h₀ L s.heap m) (X : (Mine.hd.heap_1 w.params).In h₀) (N : News h₀ L s.heap news) (T : Top p loose mean mg mb h₀) (hk : cs.kind = .function)
include B F X N T hk
theorem popn_c {st dst nl : Addr} {us ws : List Value} {l : List Int} {v : Int} {ost : Obj} {n : Nat} {news' : List (Addr × Obj)}
    (hst : (st, instObj 280 dst) ∈ news) (hok : StOk w ost nl) (hds : (dst, ost) ∈ news) (hn : (nl, listOf us.toArray n) ∈ news) (o1 : HN st nl) (o2 : HN dst nl)
    (he : Ends us ws v) (U : Upd nl (listOf us.toArray n) (listOf ws.toArray (n + 1)) news news') (hi : IntsAre us l) (hz : us.length ≤ 64) (hv : 0 ≤ v)
    (hret : ∀ t h' tk', Fr h₀ L h' m → News h₀ L h' news' → Q (.int v t) { s with heap := h', toks := tk' }) :
    wpAny (model PG w) (ktrTop 890 8900 gd cn cs L a ccd cl outer) (call (.ref 256) [.ref st]) Q E s := by
  have hX : Mine.hd.heap_1 = Mine.hd.heap_1 ∧ PySem.Challenge.rw_qz0063_01 = PySem.Challenge.rw_qz0063_01 := by
    k_fill
    exact ⟨rfl, rfl⟩
  clear hX
  obtain ⟨i0, i1, u0, rfl⟩ := hok
  have N2 : News h₀ L s.heap [(st, instObj 280 dst), (dst, dictOf [ent w "most" i0 (.int 64 u0), ent w "numbers" i1 (.ref nl)] 2), (nl, listOf us.toArray n)] := by
    refine cb_drop N ?_
    repeat' (first | exact List.forall_mem_nil _ | (refine Mine.fa_cons ?_ ?_) | assumption)
  refine wpAny_call ?_
  k_dflt (refine' enter2 ?k1 ?k2 ?k3 ?k4 ?k5 ?kA ?kF ?kK ?k6 ?k7 ?k8 ?k9 ?kB ?_ ?c2 ?c3 ?c4 ?c5; (case kA => exact rfl); (case kF => exact rfl); (case kK => assumption); (case k1 => k_asm); (case k2 => k_asm); (case k3 => k_asm); (case k4 => exact N2); (case k5 => k_asm); (case k6 => k_is); (case k7 => k_is); (case k8 => k_room); (case k9 => exact BindsTo.of_eq rfl); (case c5 => decide); (case kB => exact locs rfl); (case c2 => exact rfl); (case c3 => exact rfl); (case c4 => exact rfl); k_whole; intro g' L' h' FG' F' N' B' X' T' l1' l4'; (try dsimp only); (refine Mine.wp_enter ?_; intro ev Aw qk ek))
  clear F
  k_steps
  all_goals (try (exfalso; omega))
  · (rename Kept _ _ _ => hK)
    (rename News h₀ L _ _ => kN)
    refine hret _ _ _ (by assumption) (news_chg N (Chg.one U) hK ?_ ?_)
    · repeat' (first | exact List.forall_mem_nil _ | (refine Mine.fa_cons ?_ ?_) | exact .inl ⟨_, List.mem_cons_self, rfl⟩ | exact .inr ⟨(N _ (by assumption)).1, (kN _ (by k_mem)).1⟩)
    · repeat' (first | exact List.forall_mem_nil _ | (refine Mine.fa_cons ?_ ?_) | (refine Mine.kget kN ?_; k_mem; done))
end
end Mine
end

theorem Mine.reg_x8 : True := by
  (k_with "x8 binaryOp Mult int int" => (refine mul_int ?_ (by with_reducible assumption)))
  (k_with "x8 binaryOp FloorDiv int int" => (refine' floordiv_int ?hb9Y69 ?_ (Or.inl ?hp9Y69); (case hb9Y69 => omega); (case hp9Y69 => with_reducible assumption)))
  trivial
section
local macro_rules | `(tactic| walk_at $s:str) => do let t := Lean.Syntax.mkStrLit ("x8 " ++ s.getString); `(tactic| k_extra $t)

section
open PySem PySem.W PyProof.Rows
set_option maxHeartbeats 8000000
namespace Mine
section
variable {w : World} {p : Program} {loose : List Str} {mean : ExcName → Option Value} {mg mb : Str → Option Value}
    {gd : Option (List Code)} {cn : Str} {cs : Scope} {a : Addr} {ccd : Value} {cl : List (Str × Addr)} {outer : List Env} {A₀ : Around} {base h₀ : Heap} {L : Addr} {m : Str → Option Value} {news : List (Addr × Obj)} {s : Shared} {Q E : Value → Shared → Prop}
    (B : Below A₀ base outer h₀) (F : Fr h₀ L s.heap m) (X : (Mine.hd.heap_1 w.params).In h₀) (N : News h₀ L s.heap news) (T : Top p loose mean mg mb h₀) (hk : cs.kind = .function)
include B F X N T hk
theorem muld_c {x y c : Int} {tx ty tc : Nat} (hc : 0 < c) (ht : 0 ≤ x * y) (hm1 : IntMulOk x y) (hm2 : IntMulOk 2 (x * y)) (hm3 : IntMulOk 2 c) (hpy : Builtin.divisionGoesByPylong (2 * (x * y) + c) (2 * c) = false)
    (hret : ∀ t h' tk', Fr h₀ L h' m → News h₀ L h' news → Q (.int (Int.fdiv (2 * (x * y) + c) (2 * c)) t) { s with heap := h', toks := tk' }) :
    wpAny (model PG w) (ktrTop 950 9500 gd cn cs L a ccd cl outer) (call (.ref 28) [.int x tx, .int y ty, .int c tc]) Q E s := by
  have hX : Mine.hd.heap_1 = Mine.hd.heap_1 ∧ PySem.Challenge.rw_qz0063_01 = PySem.Challenge.rw_qz0063_01 := by
    k_fill
    exact ⟨rfl, rfl⟩
  clear hX
  refine wpAny_call ?_
  k_dflt cell_enter
  k_steps
  all_goals
    refine' cb_retI (Q := Q) hret ?e ?f ?g
    case f => assumption
    case g => exact cb_drop (by assumption) (fun p hp => by repeat (first | exact hp | refine List.mem_cons_of_mem _ ?_))
    case e => rfl
end
end Mine
end

end

section
theorem Mine.reg_u6 : True := by
  (k_with "m call ref cons nil" => (k_here; (with_reducible show wpAny _ _ (call (Value.ref 28) _ _) _ _ _); k_dflt (refine' Mine.at_room ?h1Y70 ?h2Y70 ?h3Y70 ?h5Y70 (Mine.muld_c ?BY70 ?FY70 ?XY70 ?NY70 ?TY70 ?hkY70 ?hcY70 ?htY70 ?m1Y70 ?m2Y70 ?m3Y70 ?hpyY70 ?_); (case h1Y70 => exact rfl); (case h3Y70 => exact rfl); (case h2Y70 => exact Nat.le_of_ble_eq_true rfl); (case h5Y70 => exact Nat.le_of_ble_eq_true rfl); (case BY70 => k_asm); (case FY70 => k_asm); (case XY70 => k_asm); (case NY70 => first | k_asm | exact News.nil); (case TY70 => k_asm); (case hkY70 => first | exact rfl | assumption); (case hcY70 => first | decide | omega); (case htY70 => first | decide | omega); (case m1Y70 => mul_fits); (case m2Y70 => mul_fits); (case m3Y70 => mul_fits); (case hpyY70 => exact PyProof.noPylong_of_log2 (by decide +kernel))); intro t'Z h'Z tk'Z F'Z N'Z; (try dsimp only)))
  (k_with "m call ref cons nil" => (k_here; (with_reducible show wpAny _ _ (call (Value.ref 370) _ _) _ _ _); k_dflt (refine' Mine.at_room ?h1Y71 ?h2Y71 ?h3Y71 ?h5Y71 (Mine.chk_c ?BY71 ?FY71 ?XY71 ?NY71 ?TY71 ?hkY71 ?hzY71 ?hokY71 ?hdzY71 ?hcuY71 ?_); (case h1Y71 => exact rfl); (case h3Y71 => exact rfl); (case h2Y71 => exact Nat.le_of_ble_eq_true rfl); (case h5Y71 => exact Nat.le_of_ble_eq_true rfl); (case BY71 => k_asm); (case FY71 => k_asm); (case XY71 => k_asm); (case NY71 => k_asm); (case TY71 => k_asm); (case hkY71 => first | exact rfl | assumption); (case hzY71 => k_mem); (case hdzY71 => k_mem); (case hokY71 => first | with_reducible assumption | exact Mine.ZnOk.mk); (case hcuY71 => k_mem)); intro h'Z tk'Z F'Z N'Z; (try dsimp only); (try k_fold)))
  trivial
open PySem PySem.W PyProof.Rows
set_option maxHeartbeats 8000000
namespace Mine
section
variable {w : World} {p : Program} {loose : List Str} {mean : ExcName → Option Value} {mg mb : Str → Option Value}
    {gd : Option (List Code)} {cn : Str} {cs : Scope} {a : Addr} {ccd : Value} {cl : List (Str × Addr)} {outer : List Env} {A₀ : Around} {base h₀ : Heap} {L : Addr} {m : Str → Option Value} {news : List (Addr × Obj)} {s : Shared} {Q E : Value → Shared → Prop}
    (B : Below A₀ base outer h₀) (F : Fr h₀ L s.heap m) (X : (Mine.hd.heap_1 w.params).In h₀) (N : News h₀ L s.heap news) (T : Top p loose mean mg mb h₀) (hk : cs.kind = .function)
include B F X N T hk
theorem move_c {x dx gs dgs st f1 f2 f3 rd sd sc e c z dz org cu to en oc p0 p1 t0 t1 : Addr} {k0 k1 k2 k3 k4 k5 k6 k7 k8 k9 k10 k11 k12 k13 k14 k15 k16 k17 j0 j1 j2 j3 j4 j5 j6 j7 g0 g1 g2 g3 g4 : Tok} {v0 v1 v2 v3 v4 v5 v6 v7 v8 v9 v10 v11 v12 u3 u4 y0 y1 y2 y3 ti td b0 b1 ncu nto nt : Nat} {pp x0 : Int} {tv : Value} {newsA : Addr → Nat → List (Addr × Obj)} {news' : Addr → Nat → Nat → List (Addr × Obj)}
    (h_x : (x, instObj 331 dx) ∈ news) (h_dx : (dx, dictOf [ent w "state" j0 (.ref gs), ent w "stack" j1 (.ref st), ent w "zones" j2 (.ref e), ent w "cvt" j3 (.ref c), ent w "storage" j4 (.ref sd), ent w "ppem" j5 (.int pp u3), ent w "point_size" j6 (.int 768 u4), ent w "scale" j7 (.ref sc)] 8) ∈ news) (h_gs : (gs, instObj 217 dgs) ∈ news) (h_dgs : (dgs, dictOf [ent w "freedom" k0 (.ref f1), ent w "projection" k1 (.ref f2), ent w "dual" k2 (.ref f3), ent w "rp0" k3 (.int 0 v0), ent w "rp1" k4 (.int 0 v1), ent w "rp2" k5 (.int 0 v2), ent w "zp0" k6 (.int 1 v3), ent w "zp1" k7 (.int 1 v4), ent w "zp2" k8 (.int 1 v5), ent w "loop" k9 (.int 1 v6), ent w "minimum" k10 (.int 64 v7), ent w "cut_in" k11 (.int 68 v8), ent w "single_cut_in" k12 (.int 0 v9), ent w "single_width" k13 (.int 0 v10), ent w "delta_base" k14 (.int 9 v11), ent w "delta_shift" k15 (.int 3 v12), ent w "auto_flip" k16 (.bool true), ent w "rounding" k17 (.ref rd)] 18) ∈ news) (h_f1 : (f1, ({ cls := .type "tuple", data := .seq #[.int 16384 y0, .int 0 y1] } : Obj)) ∈ news) (h_f2 : (f2, ({ cls := .type "tuple", data := .seq #[.int 16384 y2, .int 0 y3] } : Obj)) ∈ news) (h_z : (z, instObj 387 dz) ∈ news) (h_dz : (dz, dictOf [ent w "original" g0 (.ref org), ent w "current" g1 (.ref cu), ent w "touched" g2 (.ref to), ent w "ends" g3 (.ref en), ent w "on_curve" g4 (.ref oc)] 5) ∈ news) (h_cu : (cu, listOf #[.ref p0, .ref p1] ncu) ∈ news) (h_p0 : (p0, ({ cls := .type "tuple", data := .seq #[.int x0 b0, .int 0 b1] } : Obj)) ∈ news) (h_to : (to, listOf #[.ref t0, .ref t1] nto) ∈ news) (h_t0 : (t0, listOf #[tv, .bool false] nt) ∈ news)
    (hx0 : 0 ≤ x0 ∧ x0 ≤ 100) (oc_x : HN x cu) (oc_dx : HN dx cu) (oc_gs : HN gs cu) (oc_dgs : HN dgs cu) (oc_f1 : HN f1 cu) (oc_f2 : HN f2 cu) (oc_z : HN z cu) (oc_dz : HN dz cu) (oc_p0 : HN p0 cu) (oc_to : HN to cu) (oc_t0 : HN t0 cu) (ot_x : HN x t0) (ot_dx : HN dx t0) (ot_gs : HN gs t0) (ot_dgs : HN dgs t0) (ot_f1 : HN f1 t0) (ot_f2 : HN f2 t0) (ot_z : HN z t0) (ot_dz : HN dz t0) (ot_p0 : HN p0 t0) (ot_to : HN to t0) (U : ∀ q n', Upd cu (listOf #[.ref p0, .ref p1] ncu) (listOf #[Value.ref q, Value.ref p1] n') news (newsA q n')) (U2 : ∀ q n' n2, Upd t0 (listOf #[tv, .bool false] nt) (listOf #[Value.bool true, Value.bool false] n2) (newsA q n') (news' q n' n2))
    (hret : ∀ q n' n2 t1' t2' h' tk', Fr h₀ L h' m → (∀ p ∈ news, p.1 ≠ q) → News h₀ L h' ((q, ({ cls := .type "tuple", data := .seq #[Value.int (x0 + 8) t1', Value.int 0 t2'] } : Obj)) :: news' q n' n2) → Q .none { s with heap := h', toks := tk' }) :
    wpAny (model PG w) (ktrTop 870 8700 gd cn cs L a ccd cl outer) (call (.ref 165) [.ref x, .ref z, .int 0 ti, .int 8 td]) Q E s := by
  have hX : Mine.hd.heap_1 = Mine.hd.heap_1 ∧ PySem.Challenge.rw_qz0063_01 = PySem.Challenge.rw_qz0063_01 := by
    k_fill
    exact ⟨rfl, rfl⟩
  clear hX
  let o_x : Obj := instObj 331 dx
  let o_dx : Obj := dictOf [ent w "state" j0 (.ref gs), ent w "stack" j1 (.ref st), ent w "zones" j2 (.ref e), ent w "cvt" j3 (.ref c), ent w "storage" j4 (.ref sd), ent w "ppem" j5 (.int pp u3), ent w "point_size" j6 (.int 768 u4), ent w "scale" j7 (.ref sc)] 8
  let o_gs : Obj := instObj 217 dgs
  let o_dgs : Obj := dictOf [ent w "freedom" k0 (.ref f1), ent w "projection" k1 (.ref f2), ent w "dual" k2 (.ref f3), ent w "rp0" k3 (.int 0 v0), ent w "rp1" k4 (.int 0 v1), ent w "rp2" k5 (.int 0 v2), ent w "zp0" k6 (.int 1 v3), ent w "zp1" k7 (.int 1 v4), ent w "zp2" k8 (.int 1 v5), ent w "loop" k9 (.int 1 v6), ent w "minimum" k10 (.int 64 v7), ent w "cut_in" k11 (.int 68 v8), ent w "single_cut_in" k12 (.int 0 v9), ent w "single_width" k13 (.int 0 v10), ent w "delta_base" k14 (.int 9 v11), ent w "delta_shift" k15 (.int 3 v12), ent w "auto_flip" k16 (.bool true), ent w "rounding" k17 (.ref rd)] 18
  let o_f1 : Obj := ({ cls := .type "tuple", data := .seq #[.int 16384 y0, .int 0 y1] } : Obj)
  let o_f2 : Obj := ({ cls := .type "tuple", data := .seq #[.int 16384 y2, .int 0 y3] } : Obj)
  let o_z : Obj := instObj 387 dz
  let o_dz : Obj := dictOf [ent w "original" g0 (.ref org), ent w "current" g1 (.ref cu), ent w "touched" g2 (.ref to), ent w "ends" g3 (.ref en), ent w "on_curve" g4 (.ref oc)] 5
  let o_cu : Obj := listOf #[.ref p0, .ref p1] ncu
  let o_p0 : Obj := ({ cls := .type "tuple", data := .seq #[.int x0 b0, .int 0 b1] } : Obj)
  let o_to : Obj := listOf #[.ref t0, .ref t1] nto
  let o_t0 : Obj := listOf #[tv, .bool false] nt
  have N2 : News h₀ L s.heap [(x, o_x), (dx, o_dx), (gs, o_gs), (dgs, o_dgs), (f1, o_f1), (f2, o_f2), (z, o_z), (dz, o_dz), (cu, o_cu), (p0, o_p0), (to, o_to), (t0, o_t0)] := by
    refine cb_drop N ?_
    repeat' (first | exact List.forall_mem_nil _ | (refine Mine.fa_cons ?_ ?_) | assumption)
  refine wpAny_call ?_
  k_dflt (refine' enter2E ?k1 ?k2 ?k3 ?k4 ?k5 ?kA ?kF ?kK ?k6 ?k7 ?k8 ?k9 ?kB ?_ ?c2 ?c3 ?c4 ?c5; (case kA => exact rfl); (case kF => exact rfl); (case kK => assumption); (case k1 => k_asm); (case k2 => k_asm); (case k3 => k_asm); (case k4 => exact N2); (case k5 => k_asm); (case k6 => k_is); (case k7 => k_is); (case k8 => k_room); (case k9 => exact BindsTo.of_eq rfl); (case c5 => decide); (case kB => exact locs rfl); (case c2 => exact rfl); (case c3 => exact rfl); (case c4 => exact rfl); k_whole; intro g' L' h' FG' F' N' B' X' T' l1' l4' hGK; (try k_lt l1'); (try dsimp only); (refine Mine.wp_enter ?_; intro ev Aw qk ek))
  clear F
  k_steps
  · (rename Kept _ _ _ => hK)
    (rename News h₀ L _ _ => kN)
    (rename News g' _ _ _ => nN)
    simp (config := {zetaDelta := true}) only [mv1, mv3, mv2 hx0] at kN
    have hz := (nN _ List.mem_cons_self).2.2
    apply hret
    rotate_left 2
    · apply news_cons (kN _ List.mem_cons_self)
      apply news_chg N (Chg.step (U _ _) (Chg.one (U2 _ _ _))) hK
      · repeat' (first | exact List.forall_mem_nil _ | (refine Mine.fa_cons ?_ ?_) | exact .inl ⟨_, List.mem_cons_self, rfl⟩ | exact .inl ⟨_, List.mem_cons_of_mem _ List.mem_cons_self, rfl⟩ | exact .inl ⟨_, List.mem_cons_of_mem _ (List.mem_cons_of_mem _ List.mem_cons_self), rfl⟩ | exact .inr ⟨(N _ (by assumption)).1, (kN _ (by k_mem)).1⟩)
      · repeat' (first | exact List.forall_mem_nil _ | (refine Mine.fa_cons ?_ ?_) | (refine Mine.kget kN ?_; k_mem; done))
    · assumption
    · exact fresh_all N hGK hz (by repeat' (first | exact List.forall_mem_nil _ | (refine Mine.fa_cons ?_ ?_) | k_ne))
end
end Mine
end

section
open PySem PySem.W PyProof.Rows
set_option maxHeartbeats 8000000
namespace Mine
section
variable {w : World} {p : Program} {loose : List Str} {mean : ExcName → Option Value} {mg mb : Str → Option Value}
    {gd : Option (List Code)} {cn : Str} {cs : Scope} {a : Addr} {ccd : Value} {cl : List (Str × Addr)} {outer : List Env} {A₀ : Around} {base h₀ : Heap} {L : Addr} {m : Str → Option Value} {news : List (Addr × Obj)} {s : Shared} {Q E : Value → Shared → Prop}
    (B : Below A₀ base outer h₀) (F : Fr h₀ L s.heap m) (X : (Mine.hd.heap_1 w.params).In h₀) (N : News h₀ L s.heap news) (T : Top p loose mean mg mb h₀) (hk : cs.kind = .function)
include B F X N T hk
theorem zone2_c {pl el p0 p1 : Addr} {n0 n1 : Nat} {a0 a1 a2 a3 a4 : Nat} (hpl : (pl, listOf #[.ref p0, .ref p1] n0) ∈ news) (hel : (el, listOf #[.int 1 a4] n1) ∈ news)
    (hp0 : (p0, ({ cls := .type "tuple", data := .seq #[.int 0 a0, .int 0 a1] } : Obj)) ∈ news) (hp1 : (p1, ({ cls := .type "tuple", data := .seq #[.int 5 a2, .int 5 a3] } : Obj)) ∈ news)
    (hret : ∀ (x dx org cu to en oc t0 t1 : Addr) (oz : Obj) (y0 y1 y2 : Nat) h' tk', Fr h₀ L h' m → ZnOk w oz org cu to en oc → News h₀ L h' ((x, instObj 387 dx) :: (dx, oz) ::
      (cu, listOf #[.ref p0, .ref p1] y0) :: (to, listOf #[.ref t0, .ref t1] y1) :: (t0, listOf #[.bool false, .bool false] y2) :: news) →
      (∀ (i : Nat) (a : Addr), nth [x, dx, cu, to, t0] i = some a → ∀ p ∈ news, p.1 ≠ a) → Offs cu [x, dx, to, t0] → Offs t0 [x, dx, cu, to] → Q (.ref x) { s with heap := h', toks := tk' }) :
    wpAny (model PG w) (ktrTop 900 8000 gd cn cs L a ccd cl outer) (call (.ref 387) [.ref pl, .ref el]) Q E s := by
  have hX : Mine.hd.heap_1 = Mine.hd.heap_1 ∧ PySem.Challenge.rw_qz0063_01 = PySem.Challenge.rw_qz0063_01 := by
    k_fill
    exact ⟨rfl, rfl⟩
  clear hX
  k_dflt (refine' call_cls ?k1 ?k2 ?k3 ?k4 ?k5 ?k6 ?_; (case k1 => k_asm); (case k2 => k_asm); (case k3 => k_asm); (case k4 => k_is); (case k5 => k_is); (case k6 => k_is); k_whole)
  intro x dx h1 F1 N1 l1 l2
  have l3 := HL.mk (l1 _ hpl)
  have l4 := HL.mk (l1 _ hel)
  have l5 := HL.mk (l1 _ hp0)
  have l6 := HL.mk (l1 _ hp1)
  dsimp only at l3 l4 l5 l6
  replace l2 := HL.mk l2
  let o_x : Obj := instObj 387 dx
  let o_pl : Obj := listOf #[.ref p0, .ref p1] n0
  let o_el : Obj := listOf #[.int 1 a4] n1
  let o_p0 : Obj := { cls := .type "tuple", data := .seq #[.int 0 a0, .int 0 a1] }
  let o_p1 : Obj := { cls := .type "tuple", data := .seq #[.int 5 a2, .int 5 a3] }
  have N2 : News h₀ L h1 [(x, o_x), (dx, dictOf [] 0), (pl, o_pl), (el, o_el), (p0, o_p0), (p1, o_p1)] := by
    refine cb_drop N1 ?_
    repeat' (first | exact List.forall_mem_nil _ | (refine Mine.fa_cons ?_ ?_) | k_mem)
  k_dflt (refine' enter2CE ?k1 ?k2 ?k3 ?k4 ?k5 ?kA ?kF ?kK ?k6 ?k7 ?k8 ?k9 ?kB ?kD ?_ ?c2 ?c3 ?c4; (case kA => exact rfl); (case kF => exact rfl); (case kK => assumption); (case k1 => k_asm); (case k2 => k_asm); (case k3 => k_asm); (case k4 => exact N2); (case k5 => k_asm); (case k6 => k_is); (case k7 => k_is); (case k8 => k_room); (case k9 => first | exact BindsTo.of_eq rfl | exact binds_K (by k_in) rfl (by k_is) rfl rfl rfl | fail "k_enter: no rule for these arguments"); (case kB => exact rfl); (case kD => decide +kernel); (case c2 => exact rfl); (case c3 => exact rfl); (case c4 => exact rfl); k_whole; intro g' L' h' tk' cells' FG' F' N' Y' B' X' T' l1' l4' hGK; (try k_lt l1'); k_cells Y'; (try simp only [List.cons_append, List.nil_append] at N'); (try dsimp only); (try k_lift B'); first | (refine Mine.wp_enter ?_; intro ev Aw qk ek) | k_fold | skip)
  clear N2 N F
  k_steps
  (rename Kept _ _ _ => hK)
  (rename News h₀ L _ _ => kN)
  (rename News g' _ _ _ => nN)
  have lt : ∀ p ∈ news, p.1 ≠ dx := fun p hp => Nat.ne_of_lt (l1 p hp)
  have lx : ∀ p ∈ news, p.1 ≠ x := fun p hp => Nat.ne_of_lt (Nat.lt_trans (l1 p hp) (HL.out l2))
  have frs : ∀ D, g'.get? D = none → (∀ p ∈ [(x, instObj 387 dx), (dx, dictOf [] 0), (pl, listOf #[.ref p0, .ref p1] n0), (el, listOf #[.int 1 a4] n1), (p0, ({ cls := .type "tuple", data := .seq #[.int 0 a0, .int 0 a1] } : Obj)), (p1, ({ cls := .type "tuple", data := .seq #[.int 5 a2, .int 5 a3] } : Obj))], p.1 ≠ D) → ∀ p ∈ news, p.1 ≠ D :=
    fun D z hs p hp => fresh_all N1 hGK z hs p (List.mem_cons_of_mem _ (List.mem_cons_of_mem _ hp))
  have tl := news_back (cb_drop (news := news) N1 (fun p hp => List.mem_cons_of_mem _ (List.mem_cons_of_mem _ hp))) hK (by
    refine List.forall_mem_cons.mpr ⟨.inl lx, List.forall_mem_cons.mpr ⟨.inl lt, ?_⟩⟩
    repeat' (first | exact List.forall_mem_nil _ | (refine Mine.fa_cons ?_ ?_) | exact .inr ⟨(N1 _ (List.mem_cons_of_mem _ (List.mem_cons_of_mem _ (by assumption)))).1, (kN _ (by k_mem)).1⟩))
  exact hret x dx _ _ _ _ _ _ _ _ _ _ _ _ _ (by assumption) ZnOk.mk
    (news_cons (kN _ (by k_mem)) (news_cons (kN _ (by k_mem)) (news_cons (kN _ (by k_mem)) (news_cons (kN _ (by k_mem)) (news_cons (kN _ (by k_mem)) tl)))))
    (nthc (P := fun a => ∀ p ∈ news, p.1 ≠ a) lx (nthc lt (nthc (frs _ (by apply nn_none nN; k_mem) (by repeat' (first | exact List.forall_mem_nil _ | (refine Mine.fa_cons ?_ ?_) | k_ne | (apply Mine.HN.out; with_reducible assumption)))) (nthc (frs _ (by apply nn_none nN; k_mem) (by repeat' (first | exact List.forall_mem_nil _ | (refine Mine.fa_cons ?_ ?_) | k_ne | (apply Mine.HN.out; with_reducible assumption)))) (nth1 (frs _ (by apply nn_none nN; k_mem) (by repeat' (first | exact List.forall_mem_nil _ | (refine Mine.fa_cons ?_ ?_) | k_ne | (apply Mine.HN.out; with_reducible assumption)))))))))
    (nthc (P := fun a => HN a _) (by first | with_reducible assumption | k_ne) (nthc (by first | with_reducible assumption | k_ne) (nthc (by first | with_reducible assumption | k_ne) (nth1 (by first | with_reducible assumption | k_ne)))))
    (nthc (P := fun a => HN a _) (by first | with_reducible assumption | k_ne) (nthc (by first | with_reducible assumption | k_ne) (nthc (by first | with_reducible assumption | k_ne) (nth1 (by first | with_reducible assumption | k_ne)))))
end
end Mine
end

theorem Mine.reg_x9 : True := by
  (k_with "x9 truthy bool" => (k_here; k_dflt (refine' Mine.truthy_no ?eY72 ?_; (case eY72 => first | exact Mine.odd_eq (by assumption) (by assumption) | exact Mine.odd_eq' (by assumption) (by assumption)))))
  (k_with "x9 getAttr ref" => (k_here; (with_reducible show wpAny _ _ (getAttr (Value.ref _) (Str.ofString "current") true) _ _ _); k_dflt (refine' Mine.at_room ?h1Y73 ?h2Y73 ?h3Y73 ?h5Y73 (Mine.zn_current ?BY73 ?FY73 ?XY73 ?NY73 ?TY73 ?hkY73 ?hxY73 ?hdY73 ?okY73 ?_); (case h1Y73 => exact rfl); (case h3Y73 => exact rfl); (case h2Y73 => exact Nat.le_of_ble_eq_true rfl); (case h5Y73 => exact Nat.le_of_ble_eq_true rfl); (case BY73 => k_asm); (case FY73 => k_asm); (case XY73 => k_asm); (case NY73 => k_asm); (case TY73 => k_asm); (case hkY73 => first | exact rfl | assumption); (case hxY73 => k_mem); (case hdY73 => k_mem); (case okY73 => with_reducible assumption)); intro tk'Z; (try dsimp only)))
  (k_with "x9 getAttr ref" => (k_here; (with_reducible show wpAny _ _ (getAttr (Value.ref _) (Str.ofString "state") true) _ _ _); k_dflt (refine' Mine.at_room ?h1Y74 ?h2Y74 ?h3Y74 ?h5Y74 (Mine.wk_state ?BY74 ?FY74 ?XY74 ?NY74 ?TY74 ?hkY74 ?hxY74 ?hdY74 ?okY74 ?_); (case h1Y74 => exact rfl); (case h3Y74 => exact rfl); (case h2Y74 => exact Nat.le_of_ble_eq_true rfl); (case h5Y74 => exact Nat.le_of_ble_eq_true rfl); (case BY74 => k_asm); (case FY74 => k_asm); (case XY74 => k_asm); (case NY74 => k_asm); (case TY74 => k_asm); (case hkY74 => first | exact rfl | assumption); (case hxY74 => k_mem); (case hdY74 => k_mem); (case okY74 => with_reducible assumption)); intro tk'Z; (try dsimp only)))
  (k_with "x9 getAttr ref" => (k_here; (with_reducible show wpAny _ _ (getAttr (Value.ref _) (Str.ofString "stack") true) _ _ _); k_dflt (refine' Mine.at_room ?h1Y75 ?h2Y75 ?h3Y75 ?h5Y75 (Mine.wk_stack ?BY75 ?FY75 ?XY75 ?NY75 ?TY75 ?hkY75 ?hxY75 ?hdY75 ?okY75 ?_); (case h1Y75 => exact rfl); (case h3Y75 => exact rfl); (case h2Y75 => exact Nat.le_of_ble_eq_true rfl); (case h5Y75 => exact Nat.le_of_ble_eq_true rfl); (case BY75 => k_asm); (case FY75 => k_asm); (case XY75 => k_asm); (case NY75 => k_asm); (case TY75 => k_asm); (case hkY75 => first | exact rfl | assumption); (case hxY75 => k_mem); (case hdY75 => k_mem); (case okY75 => with_reducible assumption)); intro tk'Z; (try dsimp only)))
  (k_with "x9 getAttr ref" => (k_here; (with_reducible show wpAny _ _ (getAttr (Value.ref _) (Str.ofString "zones") true) _ _ _); k_dflt (refine' Mine.at_room ?h1Y76 ?h2Y76 ?h3Y76 ?h5Y76 (Mine.wk_zones ?BY76 ?FY76 ?XY76 ?NY76 ?TY76 ?hkY76 ?hxY76 ?hdY76 ?okY76 ?_); (case h1Y76 => exact rfl); (case h3Y76 => exact rfl); (case h2Y76 => exact Nat.le_of_ble_eq_true rfl); (case h5Y76 => exact Nat.le_of_ble_eq_true rfl); (case BY76 => k_asm); (case FY76 => k_asm); (case XY76 => k_asm); (case NY76 => k_asm); (case TY76 => k_asm); (case hkY76 => first | exact rfl | assumption); (case hxY76 => k_mem); (case hdY76 => k_mem); (case okY76 => with_reducible assumption)); intro tk'Z; (try dsimp only)))
  (k_with "x9 getAttr ref" => (k_here; (with_reducible show wpAny _ _ (getAttr (Value.ref _) (Str.ofString "cvt") true) _ _ _); k_dflt (refine' Mine.at_room ?h1Y77 ?h2Y77 ?h3Y77 ?h5Y77 (Mine.wk_cvt ?BY77 ?FY77 ?XY77 ?NY77 ?TY77 ?hkY77 ?hxY77 ?hdY77 ?okY77 ?_); (case h1Y77 => exact rfl); (case h3Y77 => exact rfl); (case h2Y77 => exact Nat.le_of_ble_eq_true rfl); (case h5Y77 => exact Nat.le_of_ble_eq_true rfl); (case BY77 => k_asm); (case FY77 => k_asm); (case XY77 => k_asm); (case NY77 => k_asm); (case TY77 => k_asm); (case hkY77 => first | exact rfl | assumption); (case hxY77 => k_mem); (case hdY77 => k_mem); (case okY77 => with_reducible assumption)); intro tk'Z; (try dsimp only)))
  (k_with "x9 getAttr ref" => (k_here; (with_reducible show wpAny _ _ (getAttr (Value.ref _) (Str.ofString "numbers") true) _ _ _); k_dflt (refine' Mine.at_room ?h1Y78 ?h2Y78 ?h3Y78 ?h5Y78 (Mine.st_numbers ?BY78 ?FY78 ?XY78 ?NY78 ?TY78 ?hkY78 ?hxY78 ?hdY78 ?okY78 ?_); (case h1Y78 => exact rfl); (case h3Y78 => exact rfl); (case h2Y78 => exact Nat.le_of_ble_eq_true rfl); (case h5Y78 => exact Nat.le_of_ble_eq_true rfl); (case BY78 => k_asm); (case FY78 => k_asm); (case XY78 => k_asm); (case NY78 => k_asm); (case TY78 => k_asm); (case hkY78 => first | exact rfl | assumption); (case hxY78 => k_mem); (case hdY78 => k_mem); (case okY78 => with_reducible assumption)); intro tk'Z; (try dsimp only)))
  (k_with "x9 getAttr ref" => (k_here; (with_reducible show wpAny _ _ (getAttr (Value.ref _) (Str.ofString "rounding") true) _ _ _); k_dflt (refine' Mine.at_room ?h1Y79 ?h2Y79 ?h3Y79 ?h5Y79 (Mine.gs_rounding ?BY79 ?FY79 ?XY79 ?NY79 ?TY79 ?hkY79 ?hxY79 ?hdY79 ?okY79 ?_); (case h1Y79 => exact rfl); (case h3Y79 => exact rfl); (case h2Y79 => exact Nat.le_of_ble_eq_true rfl); (case h5Y79 => exact Nat.le_of_ble_eq_true rfl); (case BY79 => k_asm); (case FY79 => k_asm); (case XY79 => k_asm); (case NY79 => k_asm); (case TY79 => k_asm); (case hkY79 => first | exact rfl | assumption); (case hxY79 => k_mem); (case hdY79 => k_mem); (case okY79 => with_reducible assumption)); intro tk'Z; (try dsimp only)))
  (k_with "x9 setAttr ref" => (k_here; (with_reducible show wpAny _ _ (setAttr (Value.ref _) (Str.ofString "rounding") (Value.ref _)) _ _ _); k_dflt (refine' Mine.at_room ?h1Y80 ?h2Y80 ?h3Y80 ?h5Y80 (Mine.gs_setr ?BY80 ?FY80 ?XY80 ?NY80 ?TY80 ?hkY80 ?hxY80 ?hdY80 ?okY80 ?UY80 ?_); (case h1Y80 => exact rfl); (case h3Y80 => exact rfl); (case h2Y80 => exact Nat.le_of_ble_eq_true rfl); (case h5Y80 => exact Nat.le_of_ble_eq_true rfl); (case BY80 => k_asm); (case FY80 => k_asm); (case XY80 => k_asm); (case NY80 => k_asm); (case TY80 => k_asm); (case hkY80 => first | exact rfl | assumption); (case hxY80 => k_mem); (case hdY80 => k_mem); (case okY80 => with_reducible assumption); (case UY80 => (intro oo9Z; k_upd))); intro o'Z h'Z tk'Z F'Z g1'Z N'Z; (try dsimp only at N'Z); (try dsimp only)))
  (k_with "x9 setAttr ref" => (k_here; (with_reducible show wpAny _ _ (setAttr (Value.ref _) (Str.ofString "ppem") (Value.int _ _)) _ _ _); k_dflt (refine' Mine.at_room ?h1Y81 ?h2Y81 ?h3Y81 ?h5Y81 (Mine.wk_setp ?BY81 ?FY81 ?XY81 ?NY81 ?TY81 ?hkY81 ?hxY81 ?hdY81 ?okY81 ?UY81 ?_); (case h1Y81 => exact rfl); (case h3Y81 => exact rfl); (case h2Y81 => exact Nat.le_of_ble_eq_true rfl); (case h5Y81 => exact Nat.le_of_ble_eq_true rfl); (case BY81 => k_asm); (case FY81 => k_asm); (case XY81 => k_asm); (case NY81 => k_asm); (case TY81 => k_asm); (case hkY81 => first | exact rfl | assumption); (case hxY81 => k_mem); (case hdY81 => k_mem); (case okY81 => with_reducible assumption); (case UY81 => (intro oo9Z; k_upd))); intro o'Z h'Z tk'Z F'Z wk9'Z N'Z; (try dsimp only at N'Z); (try dsimp only)))
  (k_with "x9 getMethod ref" => (k_here; (with_reducible show wpAny _ _ (getMethod (Value.ref _) (Str.ofString "push") _) _ _ _); k_dflt (refine' Mine.at_room ?h1Y82 ?h2Y82 ?h3Y82 ?h5Y82 (Mine.st_m_push ?BY82 ?FY82 ?XY82 ?NY82 ?TY82 ?hkY82 ?hxY82 ?hdY82 ?okY82 ?_); (case h1Y82 => exact rfl); (case h3Y82 => exact rfl); (case h2Y82 => exact Nat.le_of_ble_eq_true rfl); (case h5Y82 => exact Nat.le_of_ble_eq_true rfl); (case BY82 => k_asm); (case FY82 => k_asm); (case XY82 => k_asm); (case NY82 => k_asm); (case TY82 => k_asm); (case hkY82 => first | exact rfl | assumption); (case hxY82 => k_mem); (case hdY82 => k_mem); (case okY82 => with_reducible assumption)); (try dsimp only)))
  (k_with "x9 getMethod ref" => (k_here; (with_reducible show wpAny _ _ (getMethod (Value.ref _) (Str.ofString "pop") _) _ _ _); k_dflt (refine' Mine.at_room ?h1Y83 ?h2Y83 ?h3Y83 ?h5Y83 (Mine.st_m_pop ?BY83 ?FY83 ?XY83 ?NY83 ?TY83 ?hkY83 ?hxY83 ?hdY83 ?okY83 ?_); (case h1Y83 => exact rfl); (case h3Y83 => exact rfl); (case h2Y83 => exact Nat.le_of_ble_eq_true rfl); (case h5Y83 => exact Nat.le_of_ble_eq_true rfl); (case BY83 => k_asm); (case FY83 => k_asm); (case XY83 => k_asm); (case NY83 => k_asm); (case TY83 => k_asm); (case hkY83 => first | exact rfl | assumption); (case hxY83 => k_mem); (case hdY83 => k_mem); (case okY83 => with_reducible assumption)); (try dsimp only)))
  (k_with "x9 exec Assign" => (k_here; (with_reducible show wpAny _ _ (exec (Stmt.Assign [Expr.Name (Str.ofString "work") _] _ _) _) _ _ _); (rename News _ _ _ _ => nN9Z); (replace nN9Z := Mine.keep2 nN9Z); (with_unfolding_all change News _ _ _ [_, _] at nN9Z); refine wpAny_Assign_Name ?_))
  trivial
section
local macro_rules | `(tactic| walk_at $s:str) => do let t := Lean.Syntax.mkStrLit ("x9 " ++ s.getString); `(tactic| k_extra $t)
local macro_rules | `(tactic| walk_at $s:str) => do let t := Lean.Syntax.mkStrLit ("x9 " ++ s.getString); `(tactic| k_extra $t)

section
theorem Mine.reg_u7 : True := by
  (k_with "m call ref cons nil" => (k_here; (with_reducible show wpAny _ _ (call (Value.ref 426) _ _) _ _ _); k_dflt (refine' Mine.at_room ?h1Y85 ?h2Y85 ?h3Y85 ?h5Y85 (Mine.lawr_c ?BY85 ?FY85 ?XY85 ?NY85 ?TY85 ?hkY85 ?rowY85 ?hnY85 ?_); (case h1Y85 => exact rfl); (case h3Y85 => exact rfl); (case h2Y85 => exact Nat.le_of_ble_eq_true rfl); (case h5Y85 => exact Nat.le_of_ble_eq_true rfl); (case BY85 => k_asm); (case FY85 => k_asm); (case XY85 => k_asm); (case NY85 => first | k_asm | exact News.nil); (case TY85 => k_asm); (case hkY85 => first | exact rfl | assumption); (case rowY85 => assumption); (case hnY85 => omega);); intro t'Z h'Z tk'Z F'Z N'Z; (try dsimp only); (try k_fold)))
  (k_with "m call ref cons nil" => (k_here; (with_reducible show wpAny _ _ (call (Value.ref 116) _ _) _ _ _); k_dflt (refine' Mine.at_room ?h1Y86 ?h2Y86 ?h3Y86 ?h5Y86 (Mine.rounded_c ?BY86 ?FY86 ?XY86 ?NY86 ?TY86 ?hkY86 ?hPY86 ?hxY86 ?hokY86 ?hdY86 ?_); (case h1Y86 => exact rfl); (case h3Y86 => exact rfl); (case h2Y86 => exact Nat.le_of_ble_eq_true rfl); (case h5Y86 => exact Nat.le_of_ble_eq_true rfl); (case BY86 => k_asm); (case FY86 => k_asm); (case XY86 => k_asm); (case NY86 => first | k_asm | exact News.nil); (case TY86 => k_asm); (case hkY86 => first | exact rfl | assumption); (case hPY86 => assumption); (case hxY86 => k_mem); (case hdY86 => k_mem); (case hokY86 => first | with_reducible assumption | exact ⟨_, _, _, _, _, _, rfl⟩);); intro t'Z h'Z tk'Z F'Z N'Z; (try dsimp only); (try k_fold)))
  (k_with "m call ref cons nil" => (k_here; (with_reducible show wpAny _ _ (call (Value.ref 387) _ _) _ _ _); k_dflt (refine' Mine.at_room ?h1Y87 ?h2Y87 ?h3Y87 ?h5Y87 (Mine.zone0_c ?BY87 ?FY87 ?XY87 ?NY87 ?TY87 ?hkY87 ?heY87 ?_); (case h1Y87 => exact rfl); (case h3Y87 => exact rfl); (case h2Y87 => exact Nat.le_of_ble_eq_true rfl); (case h5Y87 => exact Nat.le_of_ble_eq_true rfl); (case BY87 => k_asm); (case FY87 => k_asm); (case XY87 => k_asm); (case NY87 => first | k_asm | exact News.nil); (case TY87 => k_asm); (case hkY87 => first | exact rfl | assumption); (case heY87 => k_mem);); intro x'Z h'Z tk'Z F'Z N'Z; (try dsimp only); (try k_fold)))
  (k_with "m call ref cons nil" => (k_here; (with_reducible show wpAny _ _ (call (Value.ref 331) _ _) _ _ _); k_dflt (refine' Mine.at_room ?h1Y88 ?h2Y88 ?h3Y88 ?h5Y88 (Mine.work_c ?BY88 ?FY88 ?XY88 ?NY88 ?TY88 ?hkY88  ?_); (case h1Y88 => exact rfl); (case h3Y88 => exact rfl); (case h2Y88 => exact Nat.le_of_ble_eq_true rfl); (case h5Y88 => exact Nat.le_of_ble_eq_true rfl); (case BY88 => k_asm); (case FY88 => k_asm); (case XY88 => k_asm); (case NY88 => first | k_asm | exact News.nil); (case TY88 => k_asm); (case hkY88 => first | exact rfl | assumption); ); intro x'Z dx'Z gs'Z dgs'Z st'Z dst'Z nl'Z f1'Z f2'Z rd'Z ox'Z ogs'Z ost'Z o1'Z o2'Z h'Z tk'Z F'Z wk'Z gk'Z sk'Z N'Z p1'Z p2'Z q'Z of1'Z of2'Z of3'Z; (have q0'Z := q'Z 0 _ (by with_unfolding_all exact Eq.refl (some _))); (have q1'Z := q'Z 1 _ (by with_unfolding_all exact Eq.refl (some _))); (have q2'Z := q'Z 2 _ (by with_unfolding_all exact Eq.refl (some _))); (have q3'Z := q'Z 3 _ (by with_unfolding_all exact Eq.refl (some _))); (have q4'Z := q'Z 4 _ (by with_unfolding_all exact Eq.refl (some _))); (have q5'Z := q'Z 5 _ (by with_unfolding_all exact Eq.refl (some _))); (have q6'Z := q'Z 6 _ (by with_unfolding_all exact Eq.refl (some _))); (have q7'Z := q'Z 7 _ (by with_unfolding_all exact Eq.refl (some _))); (have q8'Z := q'Z 8 _ (by with_unfolding_all exact Eq.refl (some _))); (clear q'Z); (k_lt q0'Z); (k_lt q1'Z); (k_lt q2'Z); (k_lt q3'Z); (k_lt q4'Z); (k_lt q5'Z); (k_lt q6'Z); (k_lt q7'Z); (k_lt q8'Z); (k_lt of1'Z); (k_lt of2'Z); (k_lt of3'Z); (try dsimp only); (try k_fold)))
  trivial
open PySem PySem.W PyProof.Rows
set_option maxHeartbeats 8000000
namespace Mine
section
variable {w : World} {p : Program} {loose : List Str} {mean : ExcName → Option Value} {mg mb : Str → Option Value}
    {gd : Option (List Code)} {cn : Str} {cs : Scope} {a : Addr} {ccd : Value} {cl : List (Str × Addr)} {outer : List Env} {A₀ : Around} {base h₀ : Heap} {L : Addr} {m : Str → Option Value} {news : List (Addr × Obj)} {s : Shared} {Q E : Value → Shared → Prop}
    (B : Below A₀ base outer h₀) (F : Fr h₀ L s.heap m) (X : (Mine.hd.heap_1 w.params).In h₀) (N : News h₀ L s.heap news) (T : Top p loose mean mg mb h₀) (hk : cs.kind = .function)
include B F X N T hk
theorem odd_c {wd : Str} {P H R n : Int} {t0 t1 : Nat} (hrow : Row wd P H R) (hn : -2147483648 < n ∧ n < 2147483648)
    (hret : ∀ h' tk', Fr h₀ L h' m → News h₀ L h' news → Q (.bool true) { s with heap := h', toks := tk' }) :
    wpAny (model PG w) (ktrTop 600 5000 gd cn cs L a ccd cl outer) (call (.ref 433) [.str wd t0, .int n t1]) Q E s := by
  have hX : Mine.hd.heap_1 = Mine.hd.heap_1 ∧ PySem.Challenge.rw_qz0063_01 = PySem.Challenge.rw_qz0063_01 := by
    k_fill
    exact ⟨rfl, rfl⟩
  clear hX
  have hP : 0 ≤ P ∧ P ≤ 64 := by
    rcases hrow with ⟨rfl, rfl, rfl, rfl⟩ | ⟨rfl, rfl, rfl, rfl⟩ | ⟨rfl, rfl, rfl, rfl⟩ | ⟨rfl, rfl, rfl, rfl⟩ | ⟨rfl, rfl, rfl, rfl⟩ | ⟨rfl, rfl, rfl, rfl⟩ <;> omega
  have N2 : News h₀ L s.heap [] := News.nil
  refine wpAny_call ?_
  k_dflt (refine' enter2 ?k1 ?k2 ?k3 ?k4 ?k5 ?kA ?kF ?kK ?k6 ?k7 ?k8 ?k9 ?kB ?_ ?c2 ?c3 ?c4 ?c5; (case kA => exact rfl); (case kF => exact rfl); (case kK => assumption); (case k1 => k_asm); (case k2 => k_asm); (case k3 => k_asm); (case k4 => exact N2); (case k5 => k_asm); (case k6 => k_is); (case k7 => k_is); (case k8 => k_room); (case k9 => exact BindsTo.of_eq rfl); (case c5 => decide); (case kB => exact locs rfl); (case c2 => exact rfl); (case c3 => exact rfl); (case c4 => exact rfl); k_whole; intro g' L' h' FG' F' N' B' X' T' l1' l4'; (try dsimp only); (refine Mine.wp_enter ?_; intro ev Aw qk ek))
  clear N2 F
  k_steps
  (rename Kept _ _ _ => hK)
  exact hret _ _ (by assumption) (news_back N hK (List.forall_mem_nil _))
end
end Mine
end

end

section
theorem Mine.reg_u8 : True := by
  (k_with "m call ref cons nil" => (k_here; (with_reducible show wpAny _ _ (call (Value.ref 130) _ _) _ _ _); k_dflt (refine' Mine.at_room ?h1Y89 ?h2Y89 ?h3Y89 ?h5Y89 (Mine.delta_c ?BY89 ?FY89 ?XY89 ?NY89 ?TY89 ?hkY89 ?hxY89 ?hdY89 ?hgY89 ?heY89 ?hpY89 ?_); (case h1Y89 => exact rfl); (case h3Y89 => exact rfl); (case h2Y89 => exact Nat.le_of_ble_eq_true rfl); (case h5Y89 => exact Nat.le_of_ble_eq_true rfl); (case BY89 => k_asm); (case FY89 => k_asm); (case XY89 => k_asm); (case NY89 => first | k_asm | exact News.nil); (case TY89 => k_asm); (case hkY89 => first | exact rfl | assumption); (case hxY89 => k_mem); (case hdY89 => k_mem); (case hgY89 => k_mem); (case heY89 => k_mem); (case hpY89 => first | assumption | omega)); intro t'Z h'Z tk'Z F'Z N'Z; (try dsimp only); (try k_fold)))
  (k_with "m call ref cons nil" => (k_here; (with_reducible show wpAny _ _ (call (Value.ref 321) _ _) _ _ _); k_dflt (refine' Mine.at_room ?h1Y90 ?h2Y90 ?h3Y90 ?h5Y90 (Mine.putc_c ?BY90 ?FY90 ?XY90 ?NY90 ?TY90 ?hkY90 ?hxY90 ?hokY90 ?hdxY90 ?hcY90 (r := 8) ?hrY90 ?o1Y90 ?o2Y90 ?UY90 ?_); (case h1Y90 => exact rfl); (case h3Y90 => exact rfl); (case h2Y90 => exact Nat.le_of_ble_eq_true rfl); (case h5Y90 => exact Nat.le_of_ble_eq_true rfl); (case hrY90 => first | exact rfl | decide); (case BY90 => k_asm); (case FY90 => k_asm); (case XY90 => k_asm); (case NY90 => k_asm); (case TY90 => k_asm); (case hkY90 => first | exact rfl | assumption); (case hxY90 => k_mem); (case hdxY90 => k_mem); (case hokY90 => first | with_reducible assumption | exact Mine.WkOk.mk); (case hcY90 => k_mem); (case o1Y90 => k_ne); (case o2Y90 => k_ne); (case UY90 => (intro n'Z t'Z; k_upd))); intro n'Z t'Z h'Z tk'Z F'Z N'Z; (try dsimp only at N'Z); (try dsimp only); (try k_fold)))
  (k_with "m call ref cons nil" => (k_here; (with_reducible show wpAny _ _ (call (Value.ref 321) _ _) _ _ _); k_dflt (refine' Mine.at_room ?h1Y91 ?h2Y91 ?h3Y91 ?h5Y91 (Mine.putc_c ?BY91 ?FY91 ?XY91 ?NY91 ?TY91 ?hkY91 ?hxY91 ?hokY91 ?hdxY91 ?hcY91 (r := 16) ?hrY91 ?o1Y91 ?o2Y91 ?UY91 ?_); (case h1Y91 => exact rfl); (case h3Y91 => exact rfl); (case h2Y91 => exact Nat.le_of_ble_eq_true rfl); (case h5Y91 => exact Nat.le_of_ble_eq_true rfl); (case hrY91 => first | exact rfl | decide); (case BY91 => k_asm); (case FY91 => k_asm); (case XY91 => k_asm); (case NY91 => k_asm); (case TY91 => k_asm); (case hkY91 => first | exact rfl | assumption); (case hxY91 => k_mem); (case hdxY91 => k_mem); (case hokY91 => first | with_reducible assumption | exact Mine.WkOk.mk); (case hcY91 => k_mem); (case o1Y91 => k_ne); (case o2Y91 => k_ne); (case UY91 => (intro n'Z t'Z; k_upd))); intro n'Z t'Z h'Z tk'Z F'Z N'Z; (try dsimp only at N'Z); (try dsimp only); (try k_fold)))
  (k_with "m call ref cons nil" => (k_here; (with_reducible show wpAny _ _ (call (Value.ref 256) _ _) _ _ _); k_dflt (refine' Mine.at_room ?h1Y92 ?h2Y92 ?h3Y92 ?h5Y92 (Mine.popn_c ?BY92 ?FY92 ?XY92 ?NY92 ?TY92 ?hkY92 ?hstY92 ?hokY92 ?hdsY92 ?hnY92 ?o1Y92 ?o2Y92 ?heY92 ?UY92 ?hiY92 ?hzY92 ?hvY92 ?_); (case h1Y92 => exact rfl); (case h3Y92 => exact rfl); (case h2Y92 => exact Nat.le_of_ble_eq_true rfl); (case h5Y92 => exact Nat.le_of_ble_eq_true rfl); (case BY92 => k_asm); (case FY92 => k_asm); (case XY92 => k_asm); (case NY92 => first | k_asm | exact News.nil); (case TY92 => k_asm); (case hkY92 => first | exact rfl | assumption); (case hstY92 => k_mem); (case hdsY92 => k_mem); (case hokY92 => first | with_reducible assumption | exact ⟨_, _, _, rfl⟩); (case hnY92 => k_mem); (case o1Y92 => first | with_reducible assumption | k_ne); (case o2Y92 => first | with_reducible assumption | k_ne); (case heY92 => repeat (first | exact Mine.Ends.one | apply Mine.Ends.cons)); (case hiY92 => repeat (first | exact IntsAre.nil | apply IntsAre.cons)); (case hvY92 => decide); (case hzY92 => exact Nat.le_of_ble_eq_true rfl); (case UY92 => k_upd)); intro t'Z h'Z tk'Z F'Z N'Z; (try dsimp only [List.nil_append, List.cons_append] at N'Z); (try dsimp only); (try k_fold)))
  trivial
open PySem PySem.W PyProof.Rows
set_option maxHeartbeats 8000000
namespace Mine
section
variable {w : World} {p : Program} {loose : List Str} {mean : ExcName → Option Value} {mg mb : Str → Option Value}
    {gd : Option (List Code)} {cn : Str} {cs : Scope} {a : Addr} {ccd : Value} {cl : List (Str × Addr)} {outer : List Env} {A₀ : Around} {base h₀ : Heap} {L : Addr} {m : Str → Option Value} {news : List (Addr × Obj)} {s : Shared} {Q E : Value → Shared → Prop}
    (B : Below A₀ base outer h₀) (F : Fr h₀ L s.heap m) (X : (Mine.hd.heap_1 w.params).In h₀) (N : News h₀ L s.heap news) (T : Top p loose mean mg mb h₀) (hk : cs.kind = .function)
include B F X N T hk
theorem dc_0 {x dx gs dgs st dst nl f1 f2 f3 rd sd sc e c : Addr} {k0 k1 k2 k3 k4 k5 k6 k7 k8 k9 k10 k11 k12 k13 k14 k15 k16 k17 j0 j1 j2 j3 j4 j5 j6 j7 i0 i1 : Tok} {v0 v1 v2 v3 v4 v5 v6 v7 v8 v9 v10 v11 v12 u0 u3 u4 tc w0 w1 w2 z0 z1 n nc : Nat} {pp code : Int} {news' : Nat → List (Addr × Obj)}
    (h_x : (x, instObj 331 dx) ∈ news) (h_dx : (dx, dictOf [ent w "state" j0 (.ref gs), ent w "stack" j1 (.ref st), ent w "zones" j2 (.ref e), ent w "cvt" j3 (.ref c), ent w "storage" j4 (.ref sd), ent w "ppem" j5 (.int pp u3), ent w "point_size" j6 (.int 768 u4), ent w "scale" j7 (.ref sc)] 8) ∈ news) (h_gs : (gs, instObj 217 dgs) ∈ news) (h_dgs : (dgs, dictOf [ent w "freedom" k0 (.ref f1), ent w "projection" k1 (.ref f2), ent w "dual" k2 (.ref f3), ent w "rp0" k3 (.int 0 v0), ent w "rp1" k4 (.int 0 v1), ent w "rp2" k5 (.int 0 v2), ent w "zp0" k6 (.int 1 v3), ent w "zp1" k7 (.int 1 v4), ent w "zp2" k8 (.int 1 v5), ent w "loop" k9 (.int 1 v6), ent w "minimum" k10 (.int 64 v7), ent w "cut_in" k11 (.int 68 v8), ent w "single_cut_in" k12 (.int 0 v9), ent w "single_width" k13 (.int 0 v10), ent w "delta_base" k14 (.int 9 v11), ent w "delta_shift" k15 (.int 3 v12), ent w "auto_flip" k16 (.bool true), ent w "rounding" k17 (.ref rd)] 18) ∈ news) (h_st : (st, instObj 280 dst) ∈ news) (h_dst : (dst, dictOf [ent w "most" i0 (.int 64 u0), ent w "numbers" i1 (.ref nl)] 2) ∈ news) (h_nl : (nl, listOf #[.int 8 w0, .int 0 w1, .int 0 w2] n) ∈ news) (h_c : (c, listOf #[.int 0 z0, .int 5 z1] nc) ∈ news)
    (hpp : pp = 9 + 16 * (code - 115)) (hc : 115 ≤ code ∧ code ≤ 117) (o1 : HN st nl) (o2 : HN dst nl) (o3 : HN x nl) (o4 : HN dx nl) (o5 : HN gs nl) (o6 : HN dgs nl) (o7 : HN c nl) (p1 : HN st c) (p2 : HN dst c) (p3 : HN x c) (p4 : HN dx c) (p5 : HN gs c) (p6 : HN dgs c) (U : ∀ n', Upd nl (listOf #[Value.int 8 w0, Value.int 0 w1, Value.int 0 w2] n) (listOf #[Value.int 8 w0, Value.int 0 w1] n') news (news' n'))
    (hret : ∀ n' h' tk', Fr h₀ L h' m → News h₀ L h' (news' n') → Q .none { s with heap := h', toks := tk' }) :
    wpAny (model PG w) (ktrTop 880 8800 gd cn cs L a ccd cl outer) (call (.ref 137) [.ref x, .int code tc]) Q E s := by
  have hX : Mine.hd.heap_1 = Mine.hd.heap_1 ∧ PySem.Challenge.rw_qz0063_01 = PySem.Challenge.rw_qz0063_01 := by
    k_fill
    exact ⟨rfl, rfl⟩
  clear hX
  let o_x : Obj := instObj 331 dx
  let o_dx : Obj := dictOf [ent w "state" j0 (.ref gs), ent w "stack" j1 (.ref st), ent w "zones" j2 (.ref e), ent w "cvt" j3 (.ref c), ent w "storage" j4 (.ref sd), ent w "ppem" j5 (.int pp u3), ent w "point_size" j6 (.int 768 u4), ent w "scale" j7 (.ref sc)] 8
  let o_gs : Obj := instObj 217 dgs
  let o_dgs : Obj := dictOf [ent w "freedom" k0 (.ref f1), ent w "projection" k1 (.ref f2), ent w "dual" k2 (.ref f3), ent w "rp0" k3 (.int 0 v0), ent w "rp1" k4 (.int 0 v1), ent w "rp2" k5 (.int 0 v2), ent w "zp0" k6 (.int 1 v3), ent w "zp1" k7 (.int 1 v4), ent w "zp2" k8 (.int 1 v5), ent w "loop" k9 (.int 1 v6), ent w "minimum" k10 (.int 64 v7), ent w "cut_in" k11 (.int 68 v8), ent w "single_cut_in" k12 (.int 0 v9), ent w "single_width" k13 (.int 0 v10), ent w "delta_base" k14 (.int 9 v11), ent w "delta_shift" k15 (.int 3 v12), ent w "auto_flip" k16 (.bool true), ent w "rounding" k17 (.ref rd)] 18
  let o_st : Obj := instObj 280 dst
  let o_dst : Obj := dictOf [ent w "most" i0 (.int 64 u0), ent w "numbers" i1 (.ref nl)] 2
  let o_nl : Obj := listOf #[.int 8 w0, .int 0 w1, .int 0 w2] n
  let o_c : Obj := listOf #[.int 0 z0, .int 5 z1] nc
  have N2 : News h₀ L s.heap [(x, o_x), (dx, o_dx), (gs, o_gs), (dgs, o_dgs), (st, o_st), (dst, o_dst), (nl, o_nl), (c, o_c)] := by
    refine cb_drop N ?_
    repeat' (first | exact List.forall_mem_nil _ | (refine Mine.fa_cons ?_ ?_) | assumption)
  refine wpAny_call ?_
  k_dflt (refine' enter2 ?k1 ?k2 ?k3 ?k4 ?k5 ?kA ?kF ?kK ?k6 ?k7 ?k8 ?k9 ?kB ?_ ?c2 ?c3 ?c4 ?c5; (case kA => exact rfl); (case kF => exact rfl); (case kK => assumption); (case k1 => k_asm); (case k2 => k_asm); (case k3 => k_asm); (case k4 => exact N2); (case k5 => k_asm); (case k6 => k_is); (case k7 => k_is); (case k8 => k_room); (case k9 => exact BindsTo.of_eq rfl); (case c5 => decide); (case kB => exact locs rfl); (case c2 => exact rfl); (case c3 => exact rfl); (case c4 => exact rfl); k_whole; intro g' L' h' FG' F' N' B' X' T' l1' l4'; (try k_lt l1'); (try dsimp only); (refine Mine.wp_enter ?_; intro ev Aw qk ek))
  clear F
  k_steps
  · (rename Kept _ _ _ => hK)
    (rename News h₀ L _ _ => kN)
    apply hret
    · assumption
    · apply news_chg N (Chg.one (U _)) hK
      · repeat' (first | exact List.forall_mem_nil _ | (refine Mine.fa_cons ?_ ?_) | exact .inl ⟨_, List.mem_cons_self, rfl⟩ | exact .inl ⟨_, List.mem_cons_of_mem _ List.mem_cons_self, rfl⟩ | exact .inl ⟨_, List.mem_cons_of_mem _ (List.mem_cons_of_mem _ List.mem_cons_self), rfl⟩ | exact .inr ⟨(N _ (by assumption)).1, (kN _ (by k_mem)).1⟩)
      · repeat' (first | exact List.forall_mem_nil _ | (refine Mine.fa_cons ?_ ?_) | (refine Mine.kget kN ?_; k_mem; done))
end
end Mine
end

section
open PySem PySem.W PyProof.Rows
set_option maxHeartbeats 8000000
namespace Mine
section
variable {w : World} {p : Program} {loose : List Str} {mean : ExcName → Option Value} {mg mb : Str → Option Value}
    {gd : Option (List Code)} {cn : Str} {cs : Scope} {a : Addr} {ccd : Value} {cl : List (Str × Addr)} {outer : List Env} {A₀ : Around} {base h₀ : Heap} {L : Addr} {m : Str → Option Value} {news : List (Addr × Obj)} {s : Shared} {Q E : Value → Shared → Prop}
    (B : Below A₀ base outer h₀) (F : Fr h₀ L s.heap m) (X : (Mine.hd.heap_1 w.params).In h₀) (N : News h₀ L s.heap news) (T : Top p loose mean mg mb h₀) (hk : cs.kind = .function)
include B F X N T hk
theorem dc_1 {x dx gs dgs st dst nl f1 f2 f3 rd sd sc e c : Addr} {k0 k1 k2 k3 k4 k5 k6 k7 k8 k9 k10 k11 k12 k13 k14 k15 k16 k17 j0 j1 j2 j3 j4 j5 j6 j7 i0 i1 : Tok} {v0 v1 v2 v3 v4 v5 v6 v7 v8 v9 v10 v11 v12 u0 u3 u4 tc w0 w1 w2 z0 z1 n nc : Nat} {pp code : Int} {newsA : Nat → List (Addr × Obj)} {news' : Nat → Nat → Nat → List (Addr × Obj)}
    (h_x : (x, instObj 331 dx) ∈ news) (h_dx : (dx, dictOf [ent w "state" j0 (.ref gs), ent w "stack" j1 (.ref st), ent w "zones" j2 (.ref e), ent w "cvt" j3 (.ref c), ent w "storage" j4 (.ref sd), ent w "ppem" j5 (.int pp u3), ent w "point_size" j6 (.int 768 u4), ent w "scale" j7 (.ref sc)] 8) ∈ news) (h_gs : (gs, instObj 217 dgs) ∈ news) (h_dgs : (dgs, dictOf [ent w "freedom" k0 (.ref f1), ent w "projection" k1 (.ref f2), ent w "dual" k2 (.ref f3), ent w "rp0" k3 (.int 0 v0), ent w "rp1" k4 (.int 0 v1), ent w "rp2" k5 (.int 0 v2), ent w "zp0" k6 (.int 1 v3), ent w "zp1" k7 (.int 1 v4), ent w "zp2" k8 (.int 1 v5), ent w "loop" k9 (.int 1 v6), ent w "minimum" k10 (.int 64 v7), ent w "cut_in" k11 (.int 68 v8), ent w "single_cut_in" k12 (.int 0 v9), ent w "single_width" k13 (.int 0 v10), ent w "delta_base" k14 (.int 9 v11), ent w "delta_shift" k15 (.int 3 v12), ent w "auto_flip" k16 (.bool true), ent w "rounding" k17 (.ref rd)] 18) ∈ news) (h_st : (st, instObj 280 dst) ∈ news) (h_dst : (dst, dictOf [ent w "most" i0 (.int 64 u0), ent w "numbers" i1 (.ref nl)] 2) ∈ news) (h_nl : (nl, listOf #[.int 8 w0, .int 0 w1, .int 1 w2] n) ∈ news) (h_c : (c, listOf #[.int 0 z0, .int 5 z1] nc) ∈ news)
    (hpp : pp = 9 + 16 * (code - 115)) (hc : 115 ≤ code ∧ code ≤ 117) (o1 : HN st nl) (o2 : HN dst nl) (o3 : HN x nl) (o4 : HN dx nl) (o5 : HN gs nl) (o6 : HN dgs nl) (o7 : HN c nl) (p1 : HN st c) (p2 : HN dst c) (p3 : HN x c) (p4 : HN dx c) (p5 : HN gs c) (p6 : HN dgs c) (U : ∀ n', Upd nl (listOf #[Value.int 8 w0, Value.int 0 w1, Value.int 1 w2] n) (listOf #[] n') news (newsA n')) (U2 : ∀ n' t' nc', Upd c (listOf #[.int 0 z0, .int 5 z1] nc) (listOf #[Value.int 8 t', Value.int 5 z1] nc') (newsA n') (news' n' t' nc'))
    (hret : ∀ n' t' nc' h' tk', Fr h₀ L h' m → News h₀ L h' (news' n' t' nc') → Q .none { s with heap := h', toks := tk' }) :
    wpAny (model PG w) (ktrTop 880 8800 gd cn cs L a ccd cl outer) (call (.ref 137) [.ref x, .int code tc]) Q E s := by
  have hX : Mine.hd.heap_1 = Mine.hd.heap_1 ∧ PySem.Challenge.rw_qz0063_01 = PySem.Challenge.rw_qz0063_01 := by
    k_fill
    exact ⟨rfl, rfl⟩
  clear hX
  let o_x : Obj := instObj 331 dx
  let o_dx : Obj := dictOf [ent w "state" j0 (.ref gs), ent w "stack" j1 (.ref st), ent w "zones" j2 (.ref e), ent w "cvt" j3 (.ref c), ent w "storage" j4 (.ref sd), ent w "ppem" j5 (.int pp u3), ent w "point_size" j6 (.int 768 u4), ent w "scale" j7 (.ref sc)] 8
  let o_gs : Obj := instObj 217 dgs
  let o_dgs : Obj := dictOf [ent w "freedom" k0 (.ref f1), ent w "projection" k1 (.ref f2), ent w "dual" k2 (.ref f3), ent w "rp0" k3 (.int 0 v0), ent w "rp1" k4 (.int 0 v1), ent w "rp2" k5 (.int 0 v2), ent w "zp0" k6 (.int 1 v3), ent w "zp1" k7 (.int 1 v4), ent w "zp2" k8 (.int 1 v5), ent w "loop" k9 (.int 1 v6), ent w "minimum" k10 (.int 64 v7), ent w "cut_in" k11 (.int 68 v8), ent w "single_cut_in" k12 (.int 0 v9), ent w "single_width" k13 (.int 0 v10), ent w "delta_base" k14 (.int 9 v11), ent w "delta_shift" k15 (.int 3 v12), ent w "auto_flip" k16 (.bool true), ent w "rounding" k17 (.ref rd)] 18
  let o_st : Obj := instObj 280 dst
  let o_dst : Obj := dictOf [ent w "most" i0 (.int 64 u0), ent w "numbers" i1 (.ref nl)] 2
  let o_nl : Obj := listOf #[.int 8 w0, .int 0 w1, .int 1 w2] n
  let o_c : Obj := listOf #[.int 0 z0, .int 5 z1] nc
  have N2 : News h₀ L s.heap [(x, o_x), (dx, o_dx), (gs, o_gs), (dgs, o_dgs), (st, o_st), (dst, o_dst), (nl, o_nl), (c, o_c)] := by
    refine cb_drop N ?_
    repeat' (first | exact List.forall_mem_nil _ | (refine Mine.fa_cons ?_ ?_) | assumption)
  refine wpAny_call ?_
  k_dflt (refine' enter2 ?k1 ?k2 ?k3 ?k4 ?k5 ?kA ?kF ?kK ?k6 ?k7 ?k8 ?k9 ?kB ?_ ?c2 ?c3 ?c4 ?c5; (case kA => exact rfl); (case kF => exact rfl); (case kK => assumption); (case k1 => k_asm); (case k2 => k_asm); (case k3 => k_asm); (case k4 => exact N2); (case k5 => k_asm); (case k6 => k_is); (case k7 => k_is); (case k8 => k_room); (case k9 => exact BindsTo.of_eq rfl); (case c5 => decide); (case kB => exact locs rfl); (case c2 => exact rfl); (case c3 => exact rfl); (case c4 => exact rfl); k_whole; intro g' L' h' FG' F' N' B' X' T' l1' l4'; (try k_lt l1'); (try dsimp only); (refine Mine.wp_enter ?_; intro ev Aw qk ek))
  clear F
  k_steps
  · (rename Kept _ _ _ => hK)
    (rename News h₀ L _ _ => kN)
    apply hret
    · assumption
    · apply news_chg N (Chg.step (U _) (Chg.one (U2 _ _ _))) hK
      · repeat' (first | exact List.forall_mem_nil _ | (refine Mine.fa_cons ?_ ?_) | exact .inl ⟨_, List.mem_cons_self, rfl⟩ | exact .inl ⟨_, List.mem_cons_of_mem _ List.mem_cons_self, rfl⟩ | exact .inl ⟨_, List.mem_cons_of_mem _ (List.mem_cons_of_mem _ List.mem_cons_self), rfl⟩ | exact .inr ⟨(N _ (by assumption)).1, (kN _ (by k_mem)).1⟩)
      · repeat' (first | exact List.forall_mem_nil _ | (refine Mine.fa_cons ?_ ?_) | (refine Mine.kget kN ?_; k_mem; done))
end
end Mine
end

section
open PySem PySem.W PyProof.Rows
set_option maxHeartbeats 8000000
namespace Mine
section
variable {w : World} {p : Program} {loose : List Str} {mean : ExcName → Option Value} {mg mb : Str → Option Value}
    {gd : Option (List Code)} {cn : Str} {cs : Scope} {a : Addr} {ccd : Value} {cl : List (Str × Addr)} {outer : List Env} {A₀ : Around} {base h₀ : Heap} {L : Addr} {m : Str → Option Value} {news : List (Addr × Obj)} {s : Shared} {Q E : Value → Shared → Prop}
    (B : Below A₀ base outer h₀) (F : Fr h₀ L s.heap m) (X : (Mine.hd.heap_1 w.params).In h₀) (N : News h₀ L s.heap news) (T : Top p loose mean mg mb h₀) (hk : cs.kind = .function)
include B F X N T hk
theorem dc_2 {x dx gs dgs st dst nl f1 f2 f3 rd sd sc e c : Addr} {k0 k1 k2 k3 k4 k5 k6 k7 k8 k9 k10 k11 k12 k13 k14 k15 k16 k17 j0 j1 j2 j3 j4 j5 j6 j7 i0 i1 : Tok} {v0 v1 v2 v3 v4 v5 v6 v7 v8 v9 v10 v11 v12 u0 u3 u4 tc w0 w1 w2 w3 w4 z0 z1 n nc : Nat} {pp code : Int} {newsA : Nat → List (Addr × Obj)} {news' : Nat → Nat → Nat → List (Addr × Obj)}
    (h_x : (x, instObj 331 dx) ∈ news) (h_dx : (dx, dictOf [ent w "state" j0 (.ref gs), ent w "stack" j1 (.ref st), ent w "zones" j2 (.ref e), ent w "cvt" j3 (.ref c), ent w "storage" j4 (.ref sd), ent w "ppem" j5 (.int pp u3), ent w "point_size" j6 (.int 768 u4), ent w "scale" j7 (.ref sc)] 8) ∈ news) (h_gs : (gs, instObj 217 dgs) ∈ news) (h_dgs : (dgs, dictOf [ent w "freedom" k0 (.ref f1), ent w "projection" k1 (.ref f2), ent w "dual" k2 (.ref f3), ent w "rp0" k3 (.int 0 v0), ent w "rp1" k4 (.int 0 v1), ent w "rp2" k5 (.int 0 v2), ent w "zp0" k6 (.int 1 v3), ent w "zp1" k7 (.int 1 v4), ent w "zp2" k8 (.int 1 v5), ent w "loop" k9 (.int 1 v6), ent w "minimum" k10 (.int 64 v7), ent w "cut_in" k11 (.int 68 v8), ent w "single_cut_in" k12 (.int 0 v9), ent w "single_width" k13 (.int 0 v10), ent w "delta_base" k14 (.int 9 v11), ent w "delta_shift" k15 (.int 3 v12), ent w "auto_flip" k16 (.bool true), ent w "rounding" k17 (.ref rd)] 18) ∈ news) (h_st : (st, instObj 280 dst) ∈ news) (h_dst : (dst, dictOf [ent w "most" i0 (.int 64 u0), ent w "numbers" i1 (.ref nl)] 2) ∈ news) (h_nl : (nl, listOf #[.int 8 w0, .int 0 w1, .int 8 w2, .int 0 w3, .int 2 w4] n) ∈ news) (h_c : (c, listOf #[.int 0 z0, .int 5 z1] nc) ∈ news)
    (hpp : pp = 9 + 16 * (code - 115)) (hc : 115 ≤ code ∧ code ≤ 117) (o1 : HN st nl) (o2 : HN dst nl) (o3 : HN x nl) (o4 : HN dx nl) (o5 : HN gs nl) (o6 : HN dgs nl) (o7 : HN c nl) (p1 : HN st c) (p2 : HN dst c) (p3 : HN x c) (p4 : HN dx c) (p5 : HN gs c) (p6 : HN dgs c) (U : ∀ n', Upd nl (listOf #[Value.int 8 w0, Value.int 0 w1, Value.int 8 w2, Value.int 0 w3, Value.int 2 w4] n) (listOf #[] n') news (newsA n')) (U2 : ∀ n' t' nc', Upd c (listOf #[.int 0 z0, .int 5 z1] nc) (listOf #[Value.int 16 t', Value.int 5 z1] nc') (newsA n') (news' n' t' nc'))
    (hret : ∀ n' t' nc' h' tk', Fr h₀ L h' m → News h₀ L h' (news' n' t' nc') → Q .none { s with heap := h', toks := tk' }) :
    wpAny (model PG w) (ktrTop 880 8800 gd cn cs L a ccd cl outer) (call (.ref 137) [.ref x, .int code tc]) Q E s := by
  have hX : Mine.hd.heap_1 = Mine.hd.heap_1 ∧ PySem.Challenge.rw_qz0063_01 = PySem.Challenge.rw_qz0063_01 := by
    k_fill
    exact ⟨rfl, rfl⟩
  clear hX
  let o_x : Obj := instObj 331 dx
  let o_dx : Obj := dictOf [ent w "state" j0 (.ref gs), ent w "stack" j1 (.ref st), ent w "zones" j2 (.ref e), ent w "cvt" j3 (.ref c), ent w "storage" j4 (.ref sd), ent w "ppem" j5 (.int pp u3), ent w "point_size" j6 (.int 768 u4), ent w "scale" j7 (.ref sc)] 8
  let o_gs : Obj := instObj 217 dgs
  let o_dgs : Obj := dictOf [ent w "freedom" k0 (.ref f1), ent w "projection" k1 (.ref f2), ent w "dual" k2 (.ref f3), ent w "rp0" k3 (.int 0 v0), ent w "rp1" k4 (.int 0 v1), ent w "rp2" k5 (.int 0 v2), ent w "zp0" k6 (.int 1 v3), ent w "zp1" k7 (.int 1 v4), ent w "zp2" k8 (.int 1 v5), ent w "loop" k9 (.int 1 v6), ent w "minimum" k10 (.int 64 v7), ent w "cut_in" k11 (.int 68 v8), ent w "single_cut_in" k12 (.int 0 v9), ent w "single_width" k13 (.int 0 v10), ent w "delta_base" k14 (.int 9 v11), ent w "delta_shift" k15 (.int 3 v12), ent w "auto_flip" k16 (.bool true), ent w "rounding" k17 (.ref rd)] 18
  let o_st : Obj := instObj 280 dst
  let o_dst : Obj := dictOf [ent w "most" i0 (.int 64 u0), ent w "numbers" i1 (.ref nl)] 2
  let o_nl : Obj := listOf #[.int 8 w0, .int 0 w1, .int 8 w2, .int 0 w3, .int 2 w4] n
  let o_c : Obj := listOf #[.int 0 z0, .int 5 z1] nc
  have N2 : News h₀ L s.heap [(x, o_x), (dx, o_dx), (gs, o_gs), (dgs, o_dgs), (st, o_st), (dst, o_dst), (nl, o_nl), (c, o_c)] := by
    refine cb_drop N ?_
    repeat' (first | exact List.forall_mem_nil _ | (refine Mine.fa_cons ?_ ?_) | assumption)
  refine wpAny_call ?_
  k_dflt (refine' enter2 ?k1 ?k2 ?k3 ?k4 ?k5 ?kA ?kF ?kK ?k6 ?k7 ?k8 ?k9 ?kB ?_ ?c2 ?c3 ?c4 ?c5; (case kA => exact rfl); (case kF => exact rfl); (case kK => assumption); (case k1 => k_asm); (case k2 => k_asm); (case k3 => k_asm); (case k4 => exact N2); (case k5 => k_asm); (case k6 => k_is); (case k7 => k_is); (case k8 => k_room); (case k9 => exact BindsTo.of_eq rfl); (case c5 => decide); (case kB => exact locs rfl); (case c2 => exact rfl); (case c3 => exact rfl); (case c4 => exact rfl); k_whole; intro g' L' h' FG' F' N' B' X' T' l1' l4'; (try k_lt l1'); (try dsimp only); (refine Mine.wp_enter ?_; intro ev Aw qk ek))
  clear F
  k_steps
  · (rename Kept _ _ _ => hK)
    (rename News h₀ L _ _ => kN)
    apply hret
    · assumption
    · apply news_chg N (Chg.step (U _) (Chg.one (U2 _ _ _))) hK
      · repeat' (first | exact List.forall_mem_nil _ | (refine Mine.fa_cons ?_ ?_) | exact .inl ⟨_, List.mem_cons_self, rfl⟩ | exact .inl ⟨_, List.mem_cons_of_mem _ List.mem_cons_self, rfl⟩ | exact .inl ⟨_, List.mem_cons_of_mem _ (List.mem_cons_of_mem _ List.mem_cons_self), rfl⟩ | exact .inr ⟨(N _ (by assumption)).1, (kN _ (by k_mem)).1⟩)
      · repeat' (first | exact List.forall_mem_nil _ | (refine Mine.fa_cons ?_ ?_) | (refine Mine.kget kN ?_; k_mem; done))
end
end Mine
end

theorem Mine.reg_x10 : True := by
  (k_with "x10 exec Raise some none" => (k_here; k_dflt (refine' Mine.raise_by (C := 72) ?hhY93 ?_; (case hhY93 => first | rfl | assumption)); (try dsimp only); (try k_fold)))
  (k_with "x10 RaiseEnd" => (k_dflt (refine' Mine.RaiseEnd.intro ?FY94 ?XY94 ?qY94 ?MY94 ?_; (case MY94 => with_reducible assumption); (case FY94 => k_asm); (case XY94 => k_asm); (case qY94 => kts_isx)); (try dsimp only)))
  (k_with "x10 leaving ref" => (k_here; first | (refine' Mine.leave_firstX ?hfY95 ?hkeY95 ?KY95 ?hxY95 ?FY95 ?NY95 ?_; (case hxY95 => with_reducible assumption); (case hfY95 => rfl); (case hkeY95 => rfl); (case FY95 => with_reducible assumption); (case KY95 => with_reducible assumption); (case NY95 => k_asm); k_whole; intro h'Z S'Z U'Z; (try dsimp only at S'Z U'Z ⊢)) | (refine' Mine.leave_onX ?hfY95 ?KY95 ?FY95 ?RY95 ?UY95 ?_; (case RY95 => with_reducible assumption); (case UY95 => with_reducible assumption); (case hfY95 => rfl); (case FY95 => with_reducible assumption); (case KY95 => with_reducible assumption); k_whole; intro h'Z S'Z U'Z; (try dsimp only at S'Z U'Z ⊢))))
  trivial
section
local macro_rules | `(tactic| walk_at $s:str) => do let t := Lean.Syntax.mkStrLit ("x10 " ++ s.getString); `(tactic| k_extra $t)

section
theorem Mine.reg_u9 : True := by
  (k_with "m call ref cons nil" => (k_here; (with_reducible show wpAny _ _ (call (Value.ref 72) _ _) _ _ _); k_dflt (refine' Mine.at_room ?h1Y96 ?h2Y96 ?h3Y96 ?h5Y96 (Mine.call_HF ?BY96 ?FY96 ?XY96 ?NY96 ?TY96 ?hkY96  ?_); (case h1Y96 => exact rfl); (case h3Y96 => exact rfl); (case h2Y96 => exact Nat.le_of_ble_eq_true rfl); (case h5Y96 => exact Nat.le_of_ble_eq_true rfl); (case BY96 => k_asm); (case FY96 => k_asm); (case XY96 => k_asm); (case NY96 => first | k_asm | exact News.nil); (case TY96 => k_asm); (case hkY96 => first | exact rfl | assumption); ); intro e'Z t'Z h'Z tk'Z F'Z M'Z; (try dsimp only); (try k_fold)))
  trivial
open PySem PySem.W PyProof.Rows
set_option maxHeartbeats 8000000
namespace Mine
section
variable {w : World} {p : Program} {loose : List Str} {mean : ExcName → Option Value} {mg mb : Str → Option Value}
    {gd : Option (List Code)} {cn : Str} {cs : Scope} {a : Addr} {ccd : Value} {cl : List (Str × Addr)} {outer : List Env} {A₀ : Around} {base h₀ : Heap} {L : Addr} {m : Str → Option Value} {news : List (Addr × Obj)} {s : Shared} {Q E : Value → Shared → Prop}
    (B : Below A₀ base outer h₀) (F : Fr h₀ L s.heap m) (X : (Mine.hd.heap_1 w.params).In h₀) (N : News h₀ L s.heap news) (T : Top p loose mean mg mb h₀) (hk : cs.kind = .function)
include B F X N T hk
theorem dc_neg {x dx gs dgs st dst nl f1 f2 f3 rd sd sc e c : Addr} {k0 k1 k2 k3 k4 k5 k6 k7 k8 k9 k10 k11 k12 k13 k14 k15 k16 k17 j0 j1 j2 j3 j4 j5 j6 j7 i0 i1 : Tok} {v0 v1 v2 v3 v4 v5 v6 v7 v8 v9 v10 v11 v12 u0 u3 u4 tc w0 w1 w2 z0 z1 n nc : Nat} {pp code : Int} {many : Int} {news' : Nat → List (Addr × Obj)}
    (h_x : (x, instObj 331 dx) ∈ news) (h_dx : (dx, dictOf [ent w "state" j0 (.ref gs), ent w "stack" j1 (.ref st), ent w "zones" j2 (.ref e), ent w "cvt" j3 (.ref c), ent w "storage" j4 (.ref sd), ent w "ppem" j5 (.int pp u3), ent w "point_size" j6 (.int 768 u4), ent w "scale" j7 (.ref sc)] 8) ∈ news) (h_gs : (gs, instObj 217 dgs) ∈ news) (h_dgs : (dgs, dictOf [ent w "freedom" k0 (.ref f1), ent w "projection" k1 (.ref f2), ent w "dual" k2 (.ref f3), ent w "rp0" k3 (.int 0 v0), ent w "rp1" k4 (.int 0 v1), ent w "rp2" k5 (.int 0 v2), ent w "zp0" k6 (.int 1 v3), ent w "zp1" k7 (.int 1 v4), ent w "zp2" k8 (.int 1 v5), ent w "loop" k9 (.int 1 v6), ent w "minimum" k10 (.int 64 v7), ent w "cut_in" k11 (.int 68 v8), ent w "single_cut_in" k12 (.int 0 v9), ent w "single_width" k13 (.int 0 v10), ent w "delta_base" k14 (.int 9 v11), ent w "delta_shift" k15 (.int 3 v12), ent w "auto_flip" k16 (.bool true), ent w "rounding" k17 (.ref rd)] 18) ∈ news) (h_st : (st, instObj 280 dst) ∈ news) (h_dst : (dst, dictOf [ent w "most" i0 (.int 64 u0), ent w "numbers" i1 (.ref nl)] 2) ∈ news) (h_nl : (nl, listOf #[.int 8 w0, .int 0 w1, .int many w2] n) ∈ news) (h_c : (c, listOf #[.int 0 z0, .int 5 z1] nc) ∈ news)
    (hpp : pp = 9 + 16 * (code - 115)) (hc : 115 ≤ code ∧ code ≤ 117) (o1 : HN st nl) (o2 : HN dst nl) (o3 : HN x nl) (o4 : HN dx nl) (o5 : HN gs nl) (o6 : HN dgs nl) (o7 : HN c nl) (p1 : HN st c) (p2 : HN dst c) (p3 : HN x c) (p4 : HN dx c) (p5 : HN gs c) (p6 : HN dgs c) (hm : many < 0) (U : ∀ n', Upd nl (listOf #[Value.int 8 w0, Value.int 0 w1, Value.int many w2] n) (listOf #[Value.int 8 w0, Value.int 0 w1] n') news (news' n'))
    (hexc : ∀ n' g e t vs h' tk', Fr h₀ L g m → RaisedS base g (envX cn cs L a ccd cl :: outer) e (.ref 72) t vs (news' n') h' → g.UpToSlots h' → E (.ref e) { s with heap := h', toks := tk' }) :
    wpAny (model PG w) (ktrTop 880 8800 gd cn cs L a ccd cl outer) (call (.ref 137) [.ref x, .int code tc]) Q E s := by
  have hX : Mine.hd.heap_1 = Mine.hd.heap_1 ∧ PySem.Challenge.rw_qz0063_01 = PySem.Challenge.rw_qz0063_01 := by
    k_fill
    exact ⟨rfl, rfl⟩
  clear hX
  have hF0 : True ∧ Fr h₀ L s.heap m := ⟨trivial, F⟩
  let o_x : Obj := instObj 331 dx
  let o_dx : Obj := dictOf [ent w "state" j0 (.ref gs), ent w "stack" j1 (.ref st), ent w "zones" j2 (.ref e), ent w "cvt" j3 (.ref c), ent w "storage" j4 (.ref sd), ent w "ppem" j5 (.int pp u3), ent w "point_size" j6 (.int 768 u4), ent w "scale" j7 (.ref sc)] 8
  let o_gs : Obj := instObj 217 dgs
  let o_dgs : Obj := dictOf [ent w "freedom" k0 (.ref f1), ent w "projection" k1 (.ref f2), ent w "dual" k2 (.ref f3), ent w "rp0" k3 (.int 0 v0), ent w "rp1" k4 (.int 0 v1), ent w "rp2" k5 (.int 0 v2), ent w "zp0" k6 (.int 1 v3), ent w "zp1" k7 (.int 1 v4), ent w "zp2" k8 (.int 1 v5), ent w "loop" k9 (.int 1 v6), ent w "minimum" k10 (.int 64 v7), ent w "cut_in" k11 (.int 68 v8), ent w "single_cut_in" k12 (.int 0 v9), ent w "single_width" k13 (.int 0 v10), ent w "delta_base" k14 (.int 9 v11), ent w "delta_shift" k15 (.int 3 v12), ent w "auto_flip" k16 (.bool true), ent w "rounding" k17 (.ref rd)] 18
  let o_st : Obj := instObj 280 dst
  let o_dst : Obj := dictOf [ent w "most" i0 (.int 64 u0), ent w "numbers" i1 (.ref nl)] 2
  let o_nl : Obj := listOf #[.int 8 w0, .int 0 w1, .int many w2] n
  let o_c : Obj := listOf #[.int 0 z0, .int 5 z1] nc
  have N2 : News h₀ L s.heap [(x, o_x), (dx, o_dx), (gs, o_gs), (dgs, o_dgs), (st, o_st), (dst, o_dst), (nl, o_nl), (c, o_c)] := by
    refine cb_drop N ?_
    repeat' (first | exact List.forall_mem_nil _ | (refine Mine.fa_cons ?_ ?_) | assumption)
  refine wpAny_call ?_
  k_dflt (refine' enter2E ?k1 ?k2 ?k3 ?k4 ?k5 ?kA ?kF ?kK ?k6 ?k7 ?k8 ?k9 ?kB ?_ ?c2 ?c3 ?c4 ?c5; (case kA => exact rfl); (case kF => exact rfl); (case kK => assumption); (case k1 => k_asm); (case k2 => k_asm); (case k3 => k_asm); (case k4 => exact N2); (case k5 => k_asm); (case k6 => k_is); (case k7 => k_is); (case k8 => k_room); (case k9 => exact BindsTo.of_eq rfl); (case c5 => decide); (case kB => exact locs rfl); (case c2 => exact rfl); (case c3 => exact rfl); (case c4 => exact rfl); k_whole; intro g' L' h' FG' F' N' B' X' T' l1' l4' hGK; (try k_lt l1'); (try dsimp only); (refine Mine.wp_enter ?_; intro ev Aw qk ek))
  clear F
  k_steps
  · (rename RaisedS _ _ (envX _ _ _ _ _ _ :: outer) _ _ _ _ _ _ => hR)
    (rename Heap.UpToSlots _ _ => hU)
    obtain ⟨a1, a2, a3⟩ := raised_up (env := envX cn cs L a ccd cl) B hF0.2 N rfl hR hU hGK (Chg.one (U (n + 1))) (by repeat' (first | exact List.forall_mem_nil _ | (refine Mine.fa_cons ?_ ?_) | assumption))
      (by repeat' (first | exact List.forall_mem_nil _ | (refine Mine.fa_cons ?_ ?_) | exact .inl ⟨_, List.mem_cons_self, rfl⟩ | exact .inr (by k_mem)))
      (by repeat' (first | exact List.forall_mem_nil _ | (refine Mine.fa_cons ?_ ?_) | k_mem))
    exact hexc _ _ _ _ _ _ _ a1 a2 a3
end
end Mine
end

end

theorem Mine.reg_x11 : True := by
  (k_with "x11 exec Raise some none" => (k_here; k_dflt (refine' Mine.raise_by (C := 72) ?hhY93 ?_; (case hhY93 => first | rfl | assumption)); (try dsimp only); (try k_fold)))
  (k_with "x11 RaiseEnd" => (k_dflt (refine' Mine.RaiseEnd.intro ?FY94 ?XY94 ?qY94 ?MY94 ?_; (case MY94 => with_reducible assumption); (case FY94 => k_asm); (case XY94 => k_asm); (case qY94 => kts_isx)); (try dsimp only)))
  (k_with "x11 leaving ref" => (k_here; first | (refine' Mine.leave_firstX ?hfY95 ?hkeY95 ?KY95 ?hxY95 ?FY95 ?NY95 ?_; (case hxY95 => with_reducible assumption); (case hfY95 => rfl); (case hkeY95 => rfl); (case FY95 => with_reducible assumption); (case KY95 => with_reducible assumption); (case NY95 => k_asm); k_whole; intro h'Z S'Z U'Z; (try dsimp only at S'Z U'Z ⊢)) | (refine' Mine.leave_onX ?hfY95 ?KY95 ?FY95 ?RY95 ?UY95 ?_; (case RY95 => with_reducible assumption); (case UY95 => with_reducible assumption); (case hfY95 => rfl); (case FY95 => with_reducible assumption); (case KY95 => with_reducible assumption); k_whole; intro h'Z S'Z U'Z; (try dsimp only at S'Z U'Z ⊢))))
  (k_with "x11 subscriptTail" => (k_here; (with_reducible show wpAny _ _ (subscriptTail (Expr.Dict _ _ _) _ (Value.ref _) (Value.int _ _)) _ _ _); (refine' Mine.cut_code ?hbY97 ?h1Y97 ?_; (case hbY97 => with_reducible assumption); (case h1Y97 => (intro c9Z b9Z hB9Z; (first | unfold Mine.CBp at hB9Z | unfold Mine.CBc at hB9Z); rcases hB9Z with ⟨e9Z, e8Z⟩ | ⟨e9Z, e8Z⟩ | ⟨e9Z, e8Z⟩ <;> (rw [e9Z, e8Z]; clear e9Z e8Z; (repeat (first | ((with_reducible show wpAny _ _ (subscriptTail _ _ _ _) _ _ _); k_dflt (refine' tab_tail (knd := intKind _ _) (enc := PyData.int) ?T9Y97 ?_; (case T9Y97 => k_tabat); k_whole)) | ((with_reducible show wpAny _ _ (getItem _ _) _ _ _); k_dflt (refine' getItem_tab PyProof.V.same_int (intKind_is _ _ _ _) ?k1Y97 ?k2Y97 ?_; (case k1Y97 => k_tabat); (case k2Y97 => first | with_reducible assumption | rfl); k_whole); intro _ hv8Z; dict_open hv8Z) | (with_reducible exact ⟨_, _, rfl, rfl⟩) | walk1)); done))); intro t9Z tk9Z; (try dsimp only))))
  trivial
section
local macro_rules | `(tactic| walk_at $s:str) => do let t := Lean.Syntax.mkStrLit ("x11 " ++ s.getString); `(tactic| k_extra $t)
local macro_rules | `(tactic| walk_at $s:str) => do let t := Lean.Syntax.mkStrLit ("x11 " ++ s.getString); `(tactic| k_extra $t)

section
theorem Mine.reg_u10 : True := by
  (k_with "m call ref cons nil" => (k_here; (with_reducible show wpAny _ _ (call (Value.ref 165) _ _) _ _ _); k_dflt (refine' Mine.at_room ?h1Y98 ?h2Y98 ?h3Y98 ?h5Y98 (Mine.move_c ?BY98 ?FY98 ?XY98 ?NY98 ?TY98 ?hkY98 ?m_xY98 ?m_dxY98 ?m_gsY98 ?m_dgsY98 ?m_f1Y98 ?m_f2Y98 ?m_zY98 ?m_dzY98 ?m_cuY98 ?m_p0Y98 ?m_toY98 ?m_t0Y98 ?hx0Y98 ?oc_xY98 ?oc_dxY98 ?oc_gsY98 ?oc_dgsY98 ?oc_f1Y98 ?oc_f2Y98 ?oc_zY98 ?oc_dzY98 ?oc_p0Y98 ?oc_toY98 ?oc_t0Y98 ?ot_xY98 ?ot_dxY98 ?ot_gsY98 ?ot_dgsY98 ?ot_f1Y98 ?ot_f2Y98 ?ot_zY98 ?ot_dzY98 ?ot_p0Y98 ?ot_toY98 ?UY98 ?U2Y98 ?_); (case h1Y98 => exact rfl); (case h3Y98 => exact rfl); (case h2Y98 => exact Nat.le_of_ble_eq_true rfl); (case h5Y98 => exact Nat.le_of_ble_eq_true rfl); (case BY98 => k_asm); (case FY98 => k_asm); (case XY98 => k_asm); (case NY98 => first | k_asm | exact News.nil); (case TY98 => k_asm); (case hkY98 => first | exact rfl | assumption); (case m_xY98 => k_mem); (case m_dxY98 => k_mem); (case m_gsY98 => k_mem); (case m_dgsY98 => k_mem); (case m_f1Y98 => k_mem); (case m_f2Y98 => k_mem); (case m_zY98 => k_mem); (case m_dzY98 => k_mem); (case m_cuY98 => k_mem); (case m_p0Y98 => k_mem); (case m_toY98 => k_mem); (case m_t0Y98 => k_mem); (case hx0Y98 => first | decide | omega); (case oc_xY98 => first | with_reducible assumption | k_ne); (case oc_dxY98 => first | with_reducible assumption | k_ne); (case oc_gsY98 => first | with_reducible assumption | k_ne); (case oc_dgsY98 => first | with_reducible assumption | k_ne); (case oc_f1Y98 => first | with_reducible assumption | k_ne); (case oc_f2Y98 => first | with_reducible assumption | k_ne); (case oc_zY98 => first | with_reducible assumption | k_ne); (case oc_dzY98 => first | with_reducible assumption | k_ne); (case oc_p0Y98 => first | with_reducible assumption | k_ne); (case oc_toY98 => first | with_reducible assumption | k_ne); (case oc_t0Y98 => first | with_reducible assumption | k_ne); (case ot_xY98 => first | with_reducible assumption | k_ne); (case ot_dxY98 => first | with_reducible assumption | k_ne); (case ot_gsY98 => first | with_reducible assumption | k_ne); (case ot_dgsY98 => first | with_reducible assumption | k_ne); (case ot_f1Y98 => first | with_reducible assumption | k_ne); (case ot_f2Y98 => first | with_reducible assumption | k_ne); (case ot_zY98 => first | with_reducible assumption | k_ne); (case ot_dzY98 => first | with_reducible assumption | k_ne); (case ot_p0Y98 => first | with_reducible assumption | k_ne); (case ot_toY98 => first | with_reducible assumption | k_ne); (case UY98 => (intro q'Z n'Z; k_upd)); (case U2Y98 => (intro q'Z n'Z n2'Z; k_upd))); intro q'Z n1'Z n2'Z t1'Z t2'Z h'Z tk'Z F'Z hq'Z N'Z; (k_lt hq'Z); (try dsimp only at N'Z); (try dsimp only); (try k_fold)))
  (k_with "m call ref cons nil" => (k_here; (with_reducible show wpAny _ _ (call (Value.ref 307) _ _) _ _ _); k_dflt (refine' Mine.at_room ?h1Y99 ?h2Y99 ?h3Y99 ?h5Y99 (Mine.wz_c ?BY99 ?FY99 ?XY99 ?NY99 ?TY99 ?hkY99 ?hxY99 ?hokY99 ?hdxY99 ?heY99 ?_); (case h1Y99 => exact rfl); (case h3Y99 => exact rfl); (case h2Y99 => exact Nat.le_of_ble_eq_true rfl); (case h5Y99 => exact Nat.le_of_ble_eq_true rfl); (case BY99 => k_asm); (case FY99 => k_asm); (case XY99 => k_asm); (case NY99 => k_asm); (case TY99 => k_asm); (case hkY99 => first | exact rfl | assumption); (case hxY99 => k_mem); (case hdxY99 => k_mem); (case hokY99 => first | with_reducible assumption | exact Mine.WkOk.mk); (case heY99 => k_mem)); intro h'Z tk'Z F'Z N'Z; (try dsimp only); (try k_fold)))
  trivial
open PySem PySem.W PyProof.Rows
set_option maxHeartbeats 8000000
namespace Mine
section
variable {w : World} {p : Program} {loose : List Str} {mean : ExcName → Option Value} {mg mb : Str → Option Value}
    {gd : Option (List Code)} {cn : Str} {cs : Scope} {a : Addr} {ccd : Value} {cl : List (Str × Addr)} {outer : List Env} {A₀ : Around} {base h₀ : Heap} {L : Addr} {m : Str → Option Value} {news : List (Addr × Obj)} {s : Shared} {Q E : Value → Shared → Prop}
    (B : Below A₀ base outer h₀) (F : Fr h₀ L s.heap m) (X : (Mine.hd.heap_1 w.params).In h₀) (N : News h₀ L s.heap news) (T : Top p loose mean mg mb h₀) (hk : cs.kind = .function)
include B F X N T hk
theorem dp_0 {x dx gs dgs st dst nl f1 f2 f3 rd sd sc e c z dz z0 org cu to en oc p0 p1 t0 t1 : Addr} {k0 k1 k2 k3 k4 k5 k6 k7 k8 k9 k10 k11 k12 k13 k14 k15 k16 k17 j0 j1 j2 j3 j4 j5 j6 j7 i0 i1 g0 g1 g2 g3 g4 : Tok} {v0 v1 v2 v3 v4 v5 v6 v7 v8 v9 v10 v11 v12 u0 u3 u4 tc w0 w1 w2  y0 y1 y2 y3 b0 b1 ncu nto nt n ne : Nat} {pp code b : Int} {news' : Nat → List (Addr × Obj)}
    (h_x : (x, instObj 331 dx) ∈ news) (h_dx : (dx, dictOf [ent w "state" j0 (.ref gs), ent w "stack" j1 (.ref st), ent w "zones" j2 (.ref e), ent w "cvt" j3 (.ref c), ent w "storage" j4 (.ref sd), ent w "ppem" j5 (.int pp u3), ent w "point_size" j6 (.int 768 u4), ent w "scale" j7 (.ref sc)] 8) ∈ news) (h_gs : (gs, instObj 217 dgs) ∈ news) (h_dgs : (dgs, dictOf [ent w "freedom" k0 (.ref f1), ent w "projection" k1 (.ref f2), ent w "dual" k2 (.ref f3), ent w "rp0" k3 (.int 0 v0), ent w "rp1" k4 (.int 0 v1), ent w "rp2" k5 (.int 0 v2), ent w "zp0" k6 (.int 1 v3), ent w "zp1" k7 (.int 1 v4), ent w "zp2" k8 (.int 1 v5), ent w "loop" k9 (.int 1 v6), ent w "minimum" k10 (.int 64 v7), ent w "cut_in" k11 (.int 68 v8), ent w "single_cut_in" k12 (.int 0 v9), ent w "single_width" k13 (.int 0 v10), ent w "delta_base" k14 (.int 9 v11), ent w "delta_shift" k15 (.int 3 v12), ent w "auto_flip" k16 (.bool true), ent w "rounding" k17 (.ref rd)] 18) ∈ news) (h_st : (st, instObj 280 dst) ∈ news) (h_dst : (dst, dictOf [ent w "most" i0 (.int 64 u0), ent w "numbers" i1 (.ref nl)] 2) ∈ news) (h_f1 : (f1, ({ cls := .type "tuple", data := .seq #[.int 16384 y0, .int 0 y1] } : Obj)) ∈ news) (h_f2 : (f2, ({ cls := .type "tuple", data := .seq #[.int 16384 y2, .int 0 y3] } : Obj)) ∈ news) (h_nl : (nl, listOf #[.int 8 w0, .int 0 w1, .int 0 w2] n) ∈ news) (h_e : (e, listOf #[.ref z0, .ref z] ne) ∈ news) (h_z : (z, instObj 387 dz) ∈ news) (h_dz : (dz, dictOf [ent w "original" g0 (.ref org), ent w "current" g1 (.ref cu), ent w "touched" g2 (.ref to), ent w "ends" g3 (.ref en), ent w "on_curve" g4 (.ref oc)] 5) ∈ news) (h_cu : (cu, listOf #[.ref p0, .ref p1] ncu) ∈ news) (h_p0 : (p0, ({ cls := .type "tuple", data := .seq #[.int 0 b0, .int 0 b1] } : Obj)) ∈ news) (h_to : (to, listOf #[.ref t0, .ref t1] nto) ∈ news) (h_t0 : (t0, listOf #[.bool false, .bool false] nt) ∈ news)
    (hpp : pp = 9 + b) (hb : CBp code b) (on_x : HN x nl) (on_dx : HN dx nl) (on_gs : HN gs nl) (on_dgs : HN dgs nl) (on_st : HN st nl) (on_dst : HN dst nl) (on_f1 : HN f1 nl) (on_f2 : HN f2 nl) (on_e : HN e nl) (on_z : HN z nl) (on_dz : HN dz nl) (on_cu : HN cu nl) (on_p0 : HN p0 nl) (on_to : HN to nl) (on_t0 : HN t0 nl) (oc_x : HN x cu) (oc_dx : HN dx cu) (oc_gs : HN gs cu) (oc_dgs : HN dgs cu) (oc_st : HN st cu) (oc_dst : HN dst cu) (oc_f1 : HN f1 cu) (oc_f2 : HN f2 cu) (oc_e : HN e cu) (oc_z : HN z cu) (oc_dz : HN dz cu) (oc_p0 : HN p0 cu) (oc_to : HN to cu) (oc_t0 : HN t0 cu) (ot_x : HN x t0) (ot_dx : HN dx t0) (ot_gs : HN gs t0) (ot_dgs : HN dgs t0) (ot_st : HN st t0) (ot_dst : HN dst t0) (ot_f1 : HN f1 t0) (ot_f2 : HN f2 t0) (ot_e : HN e t0) (ot_z : HN z t0) (ot_dz : HN dz t0) (ot_p0 : HN p0 t0) (ot_to : HN to t0) (U : ∀ n', Upd nl (listOf #[Value.int 8 w0, Value.int 0 w1, Value.int 0 w2] n) (listOf #[Value.int 8 w0, Value.int 0 w1] n') news (news' n'))
    (hret : ∀ n' h' tk', Fr h₀ L h' m → News h₀ L h' (news' n') → Q .none { s with heap := h', toks := tk' }) :
    wpAny (model PG w) (ktrTop 860 8600 gd cn cs L a ccd cl outer) (call (.ref 172) [.ref x, .int code tc]) Q E s := by
  have hX : Mine.hd.heap_1 = Mine.hd.heap_1 ∧ PySem.Challenge.rw_qz0063_01 = PySem.Challenge.rw_qz0063_01 := by
    k_fill
    exact ⟨rfl, rfl⟩
  clear hX
  have hF0 : True ∧ Fr h₀ L s.heap m := ⟨trivial, F⟩
  let o_x : Obj := instObj 331 dx
  let o_dx : Obj := dictOf [ent w "state" j0 (.ref gs), ent w "stack" j1 (.ref st), ent w "zones" j2 (.ref e), ent w "cvt" j3 (.ref c), ent w "storage" j4 (.ref sd), ent w "ppem" j5 (.int pp u3), ent w "point_size" j6 (.int 768 u4), ent w "scale" j7 (.ref sc)] 8
  let o_gs : Obj := instObj 217 dgs
  let o_dgs : Obj := dictOf [ent w "freedom" k0 (.ref f1), ent w "projection" k1 (.ref f2), ent w "dual" k2 (.ref f3), ent w "rp0" k3 (.int 0 v0), ent w "rp1" k4 (.int 0 v1), ent w "rp2" k5 (.int 0 v2), ent w "zp0" k6 (.int 1 v3), ent w "zp1" k7 (.int 1 v4), ent w "zp2" k8 (.int 1 v5), ent w "loop" k9 (.int 1 v6), ent w "minimum" k10 (.int 64 v7), ent w "cut_in" k11 (.int 68 v8), ent w "single_cut_in" k12 (.int 0 v9), ent w "single_width" k13 (.int 0 v10), ent w "delta_base" k14 (.int 9 v11), ent w "delta_shift" k15 (.int 3 v12), ent w "auto_flip" k16 (.bool true), ent w "rounding" k17 (.ref rd)] 18
  let o_st : Obj := instObj 280 dst
  let o_dst : Obj := dictOf [ent w "most" i0 (.int 64 u0), ent w "numbers" i1 (.ref nl)] 2
  let o_f1 : Obj := ({ cls := .type "tuple", data := .seq #[.int 16384 y0, .int 0 y1] } : Obj)
  let o_f2 : Obj := ({ cls := .type "tuple", data := .seq #[.int 16384 y2, .int 0 y3] } : Obj)
  let o_nl : Obj := listOf #[.int 8 w0, .int 0 w1, .int 0 w2] n
  let o_e : Obj := listOf #[.ref z0, .ref z] ne
  let o_z : Obj := instObj 387 dz
  let o_dz : Obj := dictOf [ent w "original" g0 (.ref org), ent w "current" g1 (.ref cu), ent w "touched" g2 (.ref to), ent w "ends" g3 (.ref en), ent w "on_curve" g4 (.ref oc)] 5
  let o_cu : Obj := listOf #[.ref p0, .ref p1] ncu
  let o_p0 : Obj := ({ cls := .type "tuple", data := .seq #[.int 0 b0, .int 0 b1] } : Obj)
  let o_to : Obj := listOf #[.ref t0, .ref t1] nto
  let o_t0 : Obj := listOf #[.bool false, .bool false] nt
  have N2 : News h₀ L s.heap [(x, o_x), (dx, o_dx), (gs, o_gs), (dgs, o_dgs), (st, o_st), (dst, o_dst), (f1, o_f1), (f2, o_f2), (nl, o_nl), (e, o_e), (z, o_z), (dz, o_dz), (cu, o_cu), (p0, o_p0), (to, o_to), (t0, o_t0)] := by
    refine cb_drop N ?_
    repeat' (first | exact List.forall_mem_nil _ | (refine Mine.fa_cons ?_ ?_) | assumption)
  refine wpAny_call ?_
  k_dflt (refine' enter2E ?k1 ?k2 ?k3 ?k4 ?k5 ?kA ?kF ?kK ?k6 ?k7 ?k8 ?k9 ?kB ?_ ?c2 ?c3 ?c4 ?c5; (case kA => exact rfl); (case kF => exact rfl); (case kK => assumption); (case k1 => k_asm); (case k2 => k_asm); (case k3 => k_asm); (case k4 => exact N2); (case k5 => k_asm); (case k6 => k_is); (case k7 => k_is); (case k8 => k_room); (case k9 => exact BindsTo.of_eq rfl); (case c5 => decide); (case kB => exact locs rfl); (case c2 => exact rfl); (case c3 => exact rfl); (case c4 => exact rfl); k_whole; intro g' L' h' FG' F' N' B' X' T' l1' l4' hGK; (try k_lt l1'); (try dsimp only); (refine Mine.wp_enter ?_; intro ev Aw qk ek))
  clear F
  k_steps
  · (rename Kept _ _ _ => hK)
    (rename News h₀ L _ _ => kN)
    apply hret
    · assumption
    · apply news_chg N (Chg.one (U _)) hK
      · repeat' (first | exact List.forall_mem_nil _ | (refine Mine.fa_cons ?_ ?_) | exact .inl ⟨_, List.mem_cons_self, rfl⟩ | exact .inl ⟨_, List.mem_cons_of_mem _ List.mem_cons_self, rfl⟩ | exact .inl ⟨_, List.mem_cons_of_mem _ (List.mem_cons_of_mem _ List.mem_cons_self), rfl⟩ | exact .inr ⟨(N _ (by assumption)).1, (kN _ (by k_mem)).1⟩)
      · repeat' (first | exact List.forall_mem_nil _ | (refine Mine.fa_cons ?_ ?_) | (refine Mine.kget kN ?_; k_mem; done))
end
end Mine
end

section
open PySem PySem.W PyProof.Rows
set_option maxHeartbeats 8000000
namespace Mine
section
variable {w : World} {p : Program} {loose : List Str} {mean : ExcName → Option Value} {mg mb : Str → Option Value}
    {gd : Option (List Code)} {cn : Str} {cs : Scope} {a : Addr} {ccd : Value} {cl : List (Str × Addr)} {outer : List Env} {A₀ : Around} {base h₀ : Heap} {L : Addr} {m : Str → Option Value} {news : List (Addr × Obj)} {s : Shared} {Q E : Value → Shared → Prop}
    (B : Below A₀ base outer h₀) (F : Fr h₀ L s.heap m) (X : (Mine.hd.heap_1 w.params).In h₀) (N : News h₀ L s.heap news) (T : Top p loose mean mg mb h₀) (hk : cs.kind = .function)
include B F X N T hk
theorem dp_1 {x dx gs dgs st dst nl f1 f2 f3 rd sd sc e c z dz z0 org cu to en oc p0 p1 t0 t1 : Addr} {k0 k1 k2 k3 k4 k5 k6 k7 k8 k9 k10 k11 k12 k13 k14 k15 k16 k17 j0 j1 j2 j3 j4 j5 j6 j7 i0 i1 g0 g1 g2 g3 g4 : Tok} {v0 v1 v2 v3 v4 v5 v6 v7 v8 v9 v10 v11 v12 u0 u3 u4 tc w0 w1 w2  y0 y1 y2 y3 b0 b1 ncu nto nt n ne : Nat} {pp code b : Int} {newsA : Nat → List (Addr × Obj)} {newsB : Nat → Addr → Nat → List (Addr × Obj)} {news' : Nat → Addr → Nat → Nat → List (Addr × Obj)}
    (h_x : (x, instObj 331 dx) ∈ news) (h_dx : (dx, dictOf [ent w "state" j0 (.ref gs), ent w "stack" j1 (.ref st), ent w "zones" j2 (.ref e), ent w "cvt" j3 (.ref c), ent w "storage" j4 (.ref sd), ent w "ppem" j5 (.int pp u3), ent w "point_size" j6 (.int 768 u4), ent w "scale" j7 (.ref sc)] 8) ∈ news) (h_gs : (gs, instObj 217 dgs) ∈ news) (h_dgs : (dgs, dictOf [ent w "freedom" k0 (.ref f1), ent w "projection" k1 (.ref f2), ent w "dual" k2 (.ref f3), ent w "rp0" k3 (.int 0 v0), ent w "rp1" k4 (.int 0 v1), ent w "rp2" k5 (.int 0 v2), ent w "zp0" k6 (.int 1 v3), ent w "zp1" k7 (.int 1 v4), ent w "zp2" k8 (.int 1 v5), ent w "loop" k9 (.int 1 v6), ent w "minimum" k10 (.int 64 v7), ent w "cut_in" k11 (.int 68 v8), ent w "single_cut_in" k12 (.int 0 v9), ent w "single_width" k13 (.int 0 v10), ent w "delta_base" k14 (.int 9 v11), ent w "delta_shift" k15 (.int 3 v12), ent w "auto_flip" k16 (.bool true), ent w "rounding" k17 (.ref rd)] 18) ∈ news) (h_st : (st, instObj 280 dst) ∈ news) (h_dst : (dst, dictOf [ent w "most" i0 (.int 64 u0), ent w "numbers" i1 (.ref nl)] 2) ∈ news) (h_f1 : (f1, ({ cls := .type "tuple", data := .seq #[.int 16384 y0, .int 0 y1] } : Obj)) ∈ news) (h_f2 : (f2, ({ cls := .type "tuple", data := .seq #[.int 16384 y2, .int 0 y3] } : Obj)) ∈ news) (h_nl : (nl, listOf #[.int 8 w0, .int 0 w1, .int 1 w2] n) ∈ news) (h_e : (e, listOf #[.ref z0, .ref z] ne) ∈ news) (h_z : (z, instObj 387 dz) ∈ news) (h_dz : (dz, dictOf [ent w "original" g0 (.ref org), ent w "current" g1 (.ref cu), ent w "touched" g2 (.ref to), ent w "ends" g3 (.ref en), ent w "on_curve" g4 (.ref oc)] 5) ∈ news) (h_cu : (cu, listOf #[.ref p0, .ref p1] ncu) ∈ news) (h_p0 : (p0, ({ cls := .type "tuple", data := .seq #[.int 0 b0, .int 0 b1] } : Obj)) ∈ news) (h_to : (to, listOf #[.ref t0, .ref t1] nto) ∈ news) (h_t0 : (t0, listOf #[.bool false, .bool false] nt) ∈ news)
    (hpp : pp = 9 + b) (hb : CBp code b) (on_x : HN x nl) (on_dx : HN dx nl) (on_gs : HN gs nl) (on_dgs : HN dgs nl) (on_st : HN st nl) (on_dst : HN dst nl) (on_f1 : HN f1 nl) (on_f2 : HN f2 nl) (on_e : HN e nl) (on_z : HN z nl) (on_dz : HN dz nl) (on_cu : HN cu nl) (on_p0 : HN p0 nl) (on_to : HN to nl) (on_t0 : HN t0 nl) (oc_x : HN x cu) (oc_dx : HN dx cu) (oc_gs : HN gs cu) (oc_dgs : HN dgs cu) (oc_st : HN st cu) (oc_dst : HN dst cu) (oc_f1 : HN f1 cu) (oc_f2 : HN f2 cu) (oc_e : HN e cu) (oc_z : HN z cu) (oc_dz : HN dz cu) (oc_p0 : HN p0 cu) (oc_to : HN to cu) (oc_t0 : HN t0 cu) (ot_x : HN x t0) (ot_dx : HN dx t0) (ot_gs : HN gs t0) (ot_dgs : HN dgs t0) (ot_st : HN st t0) (ot_dst : HN dst t0) (ot_f1 : HN f1 t0) (ot_f2 : HN f2 t0) (ot_e : HN e t0) (ot_z : HN z t0) (ot_dz : HN dz t0) (ot_p0 : HN p0 t0) (ot_to : HN to t0) (U : ∀ n', Upd nl (listOf #[Value.int 8 w0, Value.int 0 w1, Value.int 1 w2] n) (listOf #[] n') news (newsA n')) (U2 : ∀ n' q nc', Upd cu (listOf #[.ref p0, .ref p1] ncu) (listOf #[Value.ref q, Value.ref p1] nc') (newsA n') (newsB n' q nc')) (U3 : ∀ n' q nc' nt', Upd t0 (listOf #[.bool false, .bool false] nt) (listOf #[Value.bool true, Value.bool false] nt') (newsB n' q nc') (news' n' q nc' nt'))
    (hret : ∀ n' q nc' nt' t1' t2' h' tk', Fr h₀ L h' m → (∀ p ∈ news, p.1 ≠ q) → News h₀ L h' ((q, ({ cls := .type "tuple", data := .seq #[Value.int 8 t1', Value.int 0 t2'] } : Obj)) :: news' n' q nc' nt') → Q .none { s with heap := h', toks := tk' }) :
    wpAny (model PG w) (ktrTop 860 8600 gd cn cs L a ccd cl outer) (call (.ref 172) [.ref x, .int code tc]) Q E s := by
  have hX : Mine.hd.heap_1 = Mine.hd.heap_1 ∧ PySem.Challenge.rw_qz0063_01 = PySem.Challenge.rw_qz0063_01 := by
    k_fill
    exact ⟨rfl, rfl⟩
  clear hX
  have hF0 : True ∧ Fr h₀ L s.heap m := ⟨trivial, F⟩
  let o_x : Obj := instObj 331 dx
  let o_dx : Obj := dictOf [ent w "state" j0 (.ref gs), ent w "stack" j1 (.ref st), ent w "zones" j2 (.ref e), ent w "cvt" j3 (.ref c), ent w "storage" j4 (.ref sd), ent w "ppem" j5 (.int pp u3), ent w "point_size" j6 (.int 768 u4), ent w "scale" j7 (.ref sc)] 8
  let o_gs : Obj := instObj 217 dgs
  let o_dgs : Obj := dictOf [ent w "freedom" k0 (.ref f1), ent w "projection" k1 (.ref f2), ent w "dual" k2 (.ref f3), ent w "rp0" k3 (.int 0 v0), ent w "rp1" k4 (.int 0 v1), ent w "rp2" k5 (.int 0 v2), ent w "zp0" k6 (.int 1 v3), ent w "zp1" k7 (.int 1 v4), ent w "zp2" k8 (.int 1 v5), ent w "loop" k9 (.int 1 v6), ent w "minimum" k10 (.int 64 v7), ent w "cut_in" k11 (.int 68 v8), ent w "single_cut_in" k12 (.int 0 v9), ent w "single_width" k13 (.int 0 v10), ent w "delta_base" k14 (.int 9 v11), ent w "delta_shift" k15 (.int 3 v12), ent w "auto_flip" k16 (.bool true), ent w "rounding" k17 (.ref rd)] 18
  let o_st : Obj := instObj 280 dst
  let o_dst : Obj := dictOf [ent w "most" i0 (.int 64 u0), ent w "numbers" i1 (.ref nl)] 2
  let o_f1 : Obj := ({ cls := .type "tuple", data := .seq #[.int 16384 y0, .int 0 y1] } : Obj)
  let o_f2 : Obj := ({ cls := .type "tuple", data := .seq #[.int 16384 y2, .int 0 y3] } : Obj)
  let o_nl : Obj := listOf #[.int 8 w0, .int 0 w1, .int 1 w2] n
  let o_e : Obj := listOf #[.ref z0, .ref z] ne
  let o_z : Obj := instObj 387 dz
  let o_dz : Obj := dictOf [ent w "original" g0 (.ref org), ent w "current" g1 (.ref cu), ent w "touched" g2 (.ref to), ent w "ends" g3 (.ref en), ent w "on_curve" g4 (.ref oc)] 5
  let o_cu : Obj := listOf #[.ref p0, .ref p1] ncu
  let o_p0 : Obj := ({ cls := .type "tuple", data := .seq #[.int 0 b0, .int 0 b1] } : Obj)
  let o_to : Obj := listOf #[.ref t0, .ref t1] nto
  let o_t0 : Obj := listOf #[.bool false, .bool false] nt
  have N2 : News h₀ L s.heap [(x, o_x), (dx, o_dx), (gs, o_gs), (dgs, o_dgs), (st, o_st), (dst, o_dst), (f1, o_f1), (f2, o_f2), (nl, o_nl), (e, o_e), (z, o_z), (dz, o_dz), (cu, o_cu), (p0, o_p0), (to, o_to), (t0, o_t0)] := by
    refine cb_drop N ?_
    repeat' (first | exact List.forall_mem_nil _ | (refine Mine.fa_cons ?_ ?_) | assumption)
  refine wpAny_call ?_
  k_dflt (refine' enter2E ?k1 ?k2 ?k3 ?k4 ?k5 ?kA ?kF ?kK ?k6 ?k7 ?k8 ?k9 ?kB ?_ ?c2 ?c3 ?c4 ?c5; (case kA => exact rfl); (case kF => exact rfl); (case kK => assumption); (case k1 => k_asm); (case k2 => k_asm); (case k3 => k_asm); (case k4 => exact N2); (case k5 => k_asm); (case k6 => k_is); (case k7 => k_is); (case k8 => k_room); (case k9 => exact BindsTo.of_eq rfl); (case c5 => decide); (case kB => exact locs rfl); (case c2 => exact rfl); (case c3 => exact rfl); (case c4 => exact rfl); k_whole; intro g' L' h' FG' F' N' B' X' T' l1' l4' hGK; (try k_lt l1'); (try dsimp only); (refine Mine.wp_enter ?_; intro ev Aw qk ek))
  clear F
  k_steps
  · (rename Kept _ _ _ => hK)
    (rename News h₀ L _ _ => kN)
    (rename News g' _ _ _ => nN)
    have hz := (nN _ List.mem_cons_self).2.2
    apply hret
    rotate_left 2
    · apply news_cons (kN _ List.mem_cons_self)
      apply news_chg N (Chg.step (U _) (Chg.step (U2 _ _ _) (Chg.one (U3 _ _ _ _)))) hK
      · repeat' (first | exact List.forall_mem_nil _ | (refine Mine.fa_cons ?_ ?_) | exact .inl ⟨_, List.mem_cons_self, rfl⟩ | exact .inl ⟨_, List.mem_cons_of_mem _ List.mem_cons_self, rfl⟩ | exact .inl ⟨_, List.mem_cons_of_mem _ (List.mem_cons_of_mem _ List.mem_cons_self), rfl⟩ | exact .inr ⟨(N _ (by assumption)).1, (kN _ (by k_mem)).1⟩)
      · repeat' (first | exact List.forall_mem_nil _ | (refine Mine.fa_cons ?_ ?_) | (refine Mine.kget kN ?_; k_mem; done))
    · assumption
    · exact fresh_all N hGK hz (by repeat' (first | exact List.forall_mem_nil _ | (refine Mine.fa_cons ?_ ?_) | k_ne | (apply Mine.HN.out; with_reducible assumption)))
end
end Mine
end

section
open PySem PySem.W PyProof.Rows
set_option maxHeartbeats 8000000
namespace Mine
section
variable {w : World} {p : Program} {loose : List Str} {mean : ExcName → Option Value} {mg mb : Str → Option Value}
    {gd : Option (List Code)} {cn : Str} {cs : Scope} {a : Addr} {ccd : Value} {cl : List (Str × Addr)} {outer : List Env} {A₀ : Around} {base h₀ : Heap} {L : Addr} {m : Str → Option Value} {news : List (Addr × Obj)} {s : Shared} {Q E : Value → Shared → Prop}
    (B : Below A₀ base outer h₀) (F : Fr h₀ L s.heap m) (X : (Mine.hd.heap_1 w.params).In h₀) (N : News h₀ L s.heap news) (T : Top p loose mean mg mb h₀) (hk : cs.kind = .function)
include B F X N T hk
theorem dp_2 {x dx gs dgs st dst nl f1 f2 f3 rd sd sc e c z dz z0 org cu to en oc p0 p1 t0 t1 : Addr} {k0 k1 k2 k3 k4 k5 k6 k7 k8 k9 k10 k11 k12 k13 k14 k15 k16 k17 j0 j1 j2 j3 j4 j5 j6 j7 i0 i1 g0 g1 g2 g3 g4 : Tok} {v0 v1 v2 v3 v4 v5 v6 v7 v8 v9 v10 v11 v12 u0 u3 u4 tc w0 w1 w2 w3 w4 y0 y1 y2 y3 b0 b1 ncu nto nt n ne : Nat} {pp code b : Int} {newsA : Nat → List (Addr × Obj)} {newsB : Nat → Addr → Nat → List (Addr × Obj)} {news' : Nat → Addr → Nat → Nat → List (Addr × Obj)}
    (h_x : (x, instObj 331 dx) ∈ news) (h_dx : (dx, dictOf [ent w "state" j0 (.ref gs), ent w "stack" j1 (.ref st), ent w "zones" j2 (.ref e), ent w "cvt" j3 (.ref c), ent w "storage" j4 (.ref sd), ent w "ppem" j5 (.int pp u3), ent w "point_size" j6 (.int 768 u4), ent w "scale" j7 (.ref sc)] 8) ∈ news) (h_gs : (gs, instObj 217 dgs) ∈ news) (h_dgs : (dgs, dictOf [ent w "freedom" k0 (.ref f1), ent w "projection" k1 (.ref f2), ent w "dual" k2 (.ref f3), ent w "rp0" k3 (.int 0 v0), ent w "rp1" k4 (.int 0 v1), ent w "rp2" k5 (.int 0 v2), ent w "zp0" k6 (.int 1 v3), ent w "zp1" k7 (.int 1 v4), ent w "zp2" k8 (.int 1 v5), ent w "loop" k9 (.int 1 v6), ent w "minimum" k10 (.int 64 v7), ent w "cut_in" k11 (.int 68 v8), ent w "single_cut_in" k12 (.int 0 v9), ent w "single_width" k13 (.int 0 v10), ent w "delta_base" k14 (.int 9 v11), ent w "delta_shift" k15 (.int 3 v12), ent w "auto_flip" k16 (.bool true), ent w "rounding" k17 (.ref rd)] 18) ∈ news) (h_st : (st, instObj 280 dst) ∈ news) (h_dst : (dst, dictOf [ent w "most" i0 (.int 64 u0), ent w "numbers" i1 (.ref nl)] 2) ∈ news) (h_f1 : (f1, ({ cls := .type "tuple", data := .seq #[.int 16384 y0, .int 0 y1] } : Obj)) ∈ news) (h_f2 : (f2, ({ cls := .type "tuple", data := .seq #[.int 16384 y2, .int 0 y3] } : Obj)) ∈ news) (h_nl : (nl, listOf #[.int 8 w0, .int 0 w1, .int 8 w2, .int 0 w3, .int 2 w4] n) ∈ news) (h_e : (e, listOf #[.ref z0, .ref z] ne) ∈ news) (h_z : (z, instObj 387 dz) ∈ news) (h_dz : (dz, dictOf [ent w "original" g0 (.ref org), ent w "current" g1 (.ref cu), ent w "touched" g2 (.ref to), ent w "ends" g3 (.ref en), ent w "on_curve" g4 (.ref oc)] 5) ∈ news) (h_cu : (cu, listOf #[.ref p0, .ref p1] ncu) ∈ news) (h_p0 : (p0, ({ cls := .type "tuple", data := .seq #[.int 0 b0, .int 0 b1] } : Obj)) ∈ news) (h_to : (to, listOf #[.ref t0, .ref t1] nto) ∈ news) (h_t0 : (t0, listOf #[.bool false, .bool false] nt) ∈ news)
    (hpp : pp = 9 + b) (hb : CBp code b) (on_x : HN x nl) (on_dx : HN dx nl) (on_gs : HN gs nl) (on_dgs : HN dgs nl) (on_st : HN st nl) (on_dst : HN dst nl) (on_f1 : HN f1 nl) (on_f2 : HN f2 nl) (on_e : HN e nl) (on_z : HN z nl) (on_dz : HN dz nl) (on_cu : HN cu nl) (on_p0 : HN p0 nl) (on_to : HN to nl) (on_t0 : HN t0 nl) (oc_x : HN x cu) (oc_dx : HN dx cu) (oc_gs : HN gs cu) (oc_dgs : HN dgs cu) (oc_st : HN st cu) (oc_dst : HN dst cu) (oc_f1 : HN f1 cu) (oc_f2 : HN f2 cu) (oc_e : HN e cu) (oc_z : HN z cu) (oc_dz : HN dz cu) (oc_p0 : HN p0 cu) (oc_to : HN to cu) (oc_t0 : HN t0 cu) (ot_x : HN x t0) (ot_dx : HN dx t0) (ot_gs : HN gs t0) (ot_dgs : HN dgs t0) (ot_st : HN st t0) (ot_dst : HN dst t0) (ot_f1 : HN f1 t0) (ot_f2 : HN f2 t0) (ot_e : HN e t0) (ot_z : HN z t0) (ot_dz : HN dz t0) (ot_p0 : HN p0 t0) (ot_to : HN to t0) (U : ∀ n', Upd nl (listOf #[Value.int 8 w0, Value.int 0 w1, Value.int 8 w2, Value.int 0 w3, Value.int 2 w4] n) (listOf #[] n') news (newsA n')) (U2 : ∀ n' q nc', Upd cu (listOf #[.ref p0, .ref p1] ncu) (listOf #[Value.ref q, Value.ref p1] nc') (newsA n') (newsB n' q nc')) (U3 : ∀ n' q nc' nt', Upd t0 (listOf #[.bool false, .bool false] nt) (listOf #[Value.bool true, Value.bool false] nt') (newsB n' q nc') (news' n' q nc' nt'))
    (hret : ∀ n' q nc' nt' t1' t2' h' tk', Fr h₀ L h' m → (∀ p ∈ news, p.1 ≠ q) → News h₀ L h' ((q, ({ cls := .type "tuple", data := .seq #[Value.int 16 t1', Value.int 0 t2'] } : Obj)) :: news' n' q nc' nt') → Q .none { s with heap := h', toks := tk' }) :
    wpAny (model PG w) (ktrTop 860 8600 gd cn cs L a ccd cl outer) (call (.ref 172) [.ref x, .int code tc]) Q E s := by
  have hX : Mine.hd.heap_1 = Mine.hd.heap_1 ∧ PySem.Challenge.rw_qz0063_01 = PySem.Challenge.rw_qz0063_01 := by
    k_fill
    exact ⟨rfl, rfl⟩
  clear hX
  have hF0 : True ∧ Fr h₀ L s.heap m := ⟨trivial, F⟩
  let o_x : Obj := instObj 331 dx
  let o_dx : Obj := dictOf [ent w "state" j0 (.ref gs), ent w "stack" j1 (.ref st), ent w "zones" j2 (.ref e), ent w "cvt" j3 (.ref c), ent w "storage" j4 (.ref sd), ent w "ppem" j5 (.int pp u3), ent w "point_size" j6 (.int 768 u4), ent w "scale" j7 (.ref sc)] 8
  let o_gs : Obj := instObj 217 dgs
  let o_dgs : Obj := dictOf [ent w "freedom" k0 (.ref f1), ent w "projection" k1 (.ref f2), ent w "dual" k2 (.ref f3), ent w "rp0" k3 (.int 0 v0), ent w "rp1" k4 (.int 0 v1), ent w "rp2" k5 (.int 0 v2), ent w "zp0" k6 (.int 1 v3), ent w "zp1" k7 (.int 1 v4), ent w "zp2" k8 (.int 1 v5), ent w "loop" k9 (.int 1 v6), ent w "minimum" k10 (.int 64 v7), ent w "cut_in" k11 (.int 68 v8), ent w "single_cut_in" k12 (.int 0 v9), ent w "single_width" k13 (.int 0 v10), ent w "delta_base" k14 (.int 9 v11), ent w "delta_shift" k15 (.int 3 v12), ent w "auto_flip" k16 (.bool true), ent w "rounding" k17 (.ref rd)] 18
  let o_st : Obj := instObj 280 dst
  let o_dst : Obj := dictOf [ent w "most" i0 (.int 64 u0), ent w "numbers" i1 (.ref nl)] 2
  let o_f1 : Obj := ({ cls := .type "tuple", data := .seq #[.int 16384 y0, .int 0 y1] } : Obj)
  let o_f2 : Obj := ({ cls := .type "tuple", data := .seq #[.int 16384 y2, .int 0 y3] } : Obj)
  let o_nl : Obj := listOf #[.int 8 w0, .int 0 w1, .int 8 w2, .int 0 w3, .int 2 w4] n
  let o_e : Obj := listOf #[.ref z0, .ref z] ne
  let o_z : Obj := instObj 387 dz
  let o_dz : Obj := dictOf [ent w "original" g0 (.ref org), ent w "current" g1 (.ref cu), ent w "touched" g2 (.ref to), ent w "ends" g3 (.ref en), ent w "on_curve" g4 (.ref oc)] 5
  let o_cu : Obj := listOf #[.ref p0, .ref p1] ncu
  let o_p0 : Obj := ({ cls := .type "tuple", data := .seq #[.int 0 b0, .int 0 b1] } : Obj)
  let o_to : Obj := listOf #[.ref t0, .ref t1] nto
  let o_t0 : Obj := listOf #[.bool false, .bool false] nt
  have N2 : News h₀ L s.heap [(x, o_x), (dx, o_dx), (gs, o_gs), (dgs, o_dgs), (st, o_st), (dst, o_dst), (f1, o_f1), (f2, o_f2), (nl, o_nl), (e, o_e), (z, o_z), (dz, o_dz), (cu, o_cu), (p0, o_p0), (to, o_to), (t0, o_t0)] := by
    refine cb_drop N ?_
    repeat' (first | exact List.forall_mem_nil _ | (refine Mine.fa_cons ?_ ?_) | assumption)
  refine wpAny_call ?_
  k_dflt (refine' enter2E ?k1 ?k2 ?k3 ?k4 ?k5 ?kA ?kF ?kK ?k6 ?k7 ?k8 ?k9 ?kB ?_ ?c2 ?c3 ?c4 ?c5; (case kA => exact rfl); (case kF => exact rfl); (case kK => assumption); (case k1 => k_asm); (case k2 => k_asm); (case k3 => k_asm); (case k4 => exact N2); (case k5 => k_asm); (case k6 => k_is); (case k7 => k_is); (case k8 => k_room); (case k9 => exact BindsTo.of_eq rfl); (case c5 => decide); (case kB => exact locs rfl); (case c2 => exact rfl); (case c3 => exact rfl); (case c4 => exact rfl); k_whole; intro g' L' h' FG' F' N' B' X' T' l1' l4' hGK; (try k_lt l1'); (try dsimp only); (refine Mine.wp_enter ?_; intro ev Aw qk ek))
  clear F
  k_steps
  · (rename Kept _ _ _ => hK)
    (rename News h₀ L _ _ => kN)
    (rename News g' _ _ _ => nN)
    have hz := (nN _ List.mem_cons_self).2.2
    apply hret
    rotate_left 2
    · apply news_cons (kN _ List.mem_cons_self)
      apply news_chg N (Chg.step (U _) (Chg.step (U2 _ _ _) (Chg.one (U3 _ _ _ _)))) hK
      · repeat' (first | exact List.forall_mem_nil _ | (refine Mine.fa_cons ?_ ?_) | exact .inl ⟨_, List.mem_cons_self, rfl⟩ | exact .inl ⟨_, List.mem_cons_of_mem _ List.mem_cons_self, rfl⟩ | exact .inl ⟨_, List.mem_cons_of_mem _ (List.mem_cons_of_mem _ List.mem_cons_self), rfl⟩ | exact .inr ⟨(N _ (by assumption)).1, (kN _ (by k_mem)).1⟩)
      · repeat' (first | exact List.forall_mem_nil _ | (refine Mine.fa_cons ?_ ?_) | (refine Mine.kget kN ?_; k_mem; done))
    · assumption
    · exact fresh_all N hGK hz (by repeat' (first | exact List.forall_mem_nil _ | (refine Mine.fa_cons ?_ ?_) | k_ne | (apply Mine.HN.out; with_reducible assumption)))
end
end Mine
end

section
open PySem PySem.W PyProof.Rows
set_option maxHeartbeats 8000000
namespace Mine
section
variable {w : World} {p : Program} {loose : List Str} {mean : ExcName → Option Value} {mg mb : Str → Option Value}
    {gd : Option (List Code)} {cn : Str} {cs : Scope} {a : Addr} {ccd : Value} {cl : List (Str × Addr)} {outer : List Env} {A₀ : Around} {base h₀ : Heap} {L : Addr} {m : Str → Option Value} {news : List (Addr × Obj)} {s : Shared} {Q E : Value → Shared → Prop}
    (B : Below A₀ base outer h₀) (F : Fr h₀ L s.heap m) (X : (Mine.hd.heap_1 w.params).In h₀) (N : News h₀ L s.heap news) (T : Top p loose mean mg mb h₀) (hk : cs.kind = .function)
include B F X N T hk
theorem dp_neg {x dx gs dgs st dst nl f1 f2 f3 rd sd sc e c z dz z0 org cu to en oc p0 p1 t0 t1 : Addr} {k0 k1 k2 k3 k4 k5 k6 k7 k8 k9 k10 k11 k12 k13 k14 k15 k16 k17 j0 j1 j2 j3 j4 j5 j6 j7 i0 i1 g0 g1 g2 g3 g4 : Tok} {v0 v1 v2 v3 v4 v5 v6 v7 v8 v9 v10 v11 v12 u0 u3 u4 tc w0 w1 w2  y0 y1 y2 y3 b0 b1 ncu nto nt n ne : Nat} {pp code b : Int} {news' : Nat → List (Addr × Obj)} {many : Int}
    (h_x : (x, instObj 331 dx) ∈ news) (h_dx : (dx, dictOf [ent w "state" j0 (.ref gs), ent w "stack" j1 (.ref st), ent w "zones" j2 (.ref e), ent w "cvt" j3 (.ref c), ent w "storage" j4 (.ref sd), ent w "ppem" j5 (.int pp u3), ent w "point_size" j6 (.int 768 u4), ent w "scale" j7 (.ref sc)] 8) ∈ news) (h_gs : (gs, instObj 217 dgs) ∈ news) (h_dgs : (dgs, dictOf [ent w "freedom" k0 (.ref f1), ent w "projection" k1 (.ref f2), ent w "dual" k2 (.ref f3), ent w "rp0" k3 (.int 0 v0), ent w "rp1" k4 (.int 0 v1), ent w "rp2" k5 (.int 0 v2), ent w "zp0" k6 (.int 1 v3), ent w "zp1" k7 (.int 1 v4), ent w "zp2" k8 (.int 1 v5), ent w "loop" k9 (.int 1 v6), ent w "minimum" k10 (.int 64 v7), ent w "cut_in" k11 (.int 68 v8), ent w "single_cut_in" k12 (.int 0 v9), ent w "single_width" k13 (.int 0 v10), ent w "delta_base" k14 (.int 9 v11), ent w "delta_shift" k15 (.int 3 v12), ent w "auto_flip" k16 (.bool true), ent w "rounding" k17 (.ref rd)] 18) ∈ news) (h_st : (st, instObj 280 dst) ∈ news) (h_dst : (dst, dictOf [ent w "most" i0 (.int 64 u0), ent w "numbers" i1 (.ref nl)] 2) ∈ news) (h_f1 : (f1, ({ cls := .type "tuple", data := .seq #[.int 16384 y0, .int 0 y1] } : Obj)) ∈ news) (h_f2 : (f2, ({ cls := .type "tuple", data := .seq #[.int 16384 y2, .int 0 y3] } : Obj)) ∈ news) (h_nl : (nl, listOf #[.int 8 w0, .int 0 w1, .int many w2] n) ∈ news) (h_e : (e, listOf #[.ref z0, .ref z] ne) ∈ news) (h_z : (z, instObj 387 dz) ∈ news) (h_dz : (dz, dictOf [ent w "original" g0 (.ref org), ent w "current" g1 (.ref cu), ent w "touched" g2 (.ref to), ent w "ends" g3 (.ref en), ent w "on_curve" g4 (.ref oc)] 5) ∈ news) (h_cu : (cu, listOf #[.ref p0, .ref p1] ncu) ∈ news) (h_p0 : (p0, ({ cls := .type "tuple", data := .seq #[.int 0 b0, .int 0 b1] } : Obj)) ∈ news) (h_to : (to, listOf #[.ref t0, .ref t1] nto) ∈ news) (h_t0 : (t0, listOf #[.bool false, .bool false] nt) ∈ news)
    (hpp : pp = 9 + b) (hb : CBp code b) (on_x : HN x nl) (on_dx : HN dx nl) (on_gs : HN gs nl) (on_dgs : HN dgs nl) (on_st : HN st nl) (on_dst : HN dst nl) (on_f1 : HN f1 nl) (on_f2 : HN f2 nl) (on_e : HN e nl) (on_z : HN z nl) (on_dz : HN dz nl) (on_cu : HN cu nl) (on_p0 : HN p0 nl) (on_to : HN to nl) (on_t0 : HN t0 nl) (oc_x : HN x cu) (oc_dx : HN dx cu) (oc_gs : HN gs cu) (oc_dgs : HN dgs cu) (oc_st : HN st cu) (oc_dst : HN dst cu) (oc_f1 : HN f1 cu) (oc_f2 : HN f2 cu) (oc_e : HN e cu) (oc_z : HN z cu) (oc_dz : HN dz cu) (oc_p0 : HN p0 cu) (oc_to : HN to cu) (oc_t0 : HN t0 cu) (ot_x : HN x t0) (ot_dx : HN dx t0) (ot_gs : HN gs t0) (ot_dgs : HN dgs t0) (ot_st : HN st t0) (ot_dst : HN dst t0) (ot_f1 : HN f1 t0) (ot_f2 : HN f2 t0) (ot_e : HN e t0) (ot_z : HN z t0) (ot_dz : HN dz t0) (ot_p0 : HN p0 t0) (ot_to : HN to t0) (U : ∀ n', Upd nl (listOf #[Value.int 8 w0, Value.int 0 w1, Value.int many w2] n) (listOf #[Value.int 8 w0, Value.int 0 w1] n') news (news' n')) (hm : many < 0)
    (hexc : ∀ n' g e t vs h' tk', Fr h₀ L g m → RaisedS base g (envX cn cs L a ccd cl :: outer) e (.ref 72) t vs (news' n') h' → g.UpToSlots h' → E (.ref e) { s with heap := h', toks := tk' }) :
    wpAny (model PG w) (ktrTop 860 8600 gd cn cs L a ccd cl outer) (call (.ref 172) [.ref x, .int code tc]) Q E s := by
  have hX : Mine.hd.heap_1 = Mine.hd.heap_1 ∧ PySem.Challenge.rw_qz0063_01 = PySem.Challenge.rw_qz0063_01 := by
    k_fill
    exact ⟨rfl, rfl⟩
  clear hX
  have hF0 : True ∧ Fr h₀ L s.heap m := ⟨trivial, F⟩
  let o_x : Obj := instObj 331 dx
  let o_dx : Obj := dictOf [ent w "state" j0 (.ref gs), ent w "stack" j1 (.ref st), ent w "zones" j2 (.ref e), ent w "cvt" j3 (.ref c), ent w "storage" j4 (.ref sd), ent w "ppem" j5 (.int pp u3), ent w "point_size" j6 (.int 768 u4), ent w "scale" j7 (.ref sc)] 8
  let o_gs : Obj := instObj 217 dgs
  let o_dgs : Obj := dictOf [ent w "freedom" k0 (.ref f1), ent w "projection" k1 (.ref f2), ent w "dual" k2 (.ref f3), ent w "rp0" k3 (.int 0 v0), ent w "rp1" k4 (.int 0 v1), ent w "rp2" k5 (.int 0 v2), ent w "zp0" k6 (.int 1 v3), ent w "zp1" k7 (.int 1 v4), ent w "zp2" k8 (.int 1 v5), ent w "loop" k9 (.int 1 v6), ent w "minimum" k10 (.int 64 v7), ent w "cut_in" k11 (.int 68 v8), ent w "single_cut_in" k12 (.int 0 v9), ent w "single_width" k13 (.int 0 v10), ent w "delta_base" k14 (.int 9 v11), ent w "delta_shift" k15 (.int 3 v12), ent w "auto_flip" k16 (.bool true), ent w "rounding" k17 (.ref rd)] 18
  let o_st : Obj := instObj 280 dst
  let o_dst : Obj := dictOf [ent w "most" i0 (.int 64 u0), ent w "numbers" i1 (.ref nl)] 2
  let o_f1 : Obj := ({ cls := .type "tuple", data := .seq #[.int 16384 y0, .int 0 y1] } : Obj)
  let o_f2 : Obj := ({ cls := .type "tuple", data := .seq #[.int 16384 y2, .int 0 y3] } : Obj)
  let o_nl : Obj := listOf #[.int 8 w0, .int 0 w1, .int many w2] n
  let o_e : Obj := listOf #[.ref z0, .ref z] ne
  let o_z : Obj := instObj 387 dz
  let o_dz : Obj := dictOf [ent w "original" g0 (.ref org), ent w "current" g1 (.ref cu), ent w "touched" g2 (.ref to), ent w "ends" g3 (.ref en), ent w "on_curve" g4 (.ref oc)] 5
  let o_cu : Obj := listOf #[.ref p0, .ref p1] ncu
  let o_p0 : Obj := ({ cls := .type "tuple", data := .seq #[.int 0 b0, .int 0 b1] } : Obj)
  let o_to : Obj := listOf #[.ref t0, .ref t1] nto
  let o_t0 : Obj := listOf #[.bool false, .bool false] nt
  have N2 : News h₀ L s.heap [(x, o_x), (dx, o_dx), (gs, o_gs), (dgs, o_dgs), (st, o_st), (dst, o_dst), (f1, o_f1), (f2, o_f2), (nl, o_nl), (e, o_e), (z, o_z), (dz, o_dz), (cu, o_cu), (p0, o_p0), (to, o_to), (t0, o_t0)] := by
    refine cb_drop N ?_
    repeat' (first | exact List.forall_mem_nil _ | (refine Mine.fa_cons ?_ ?_) | assumption)
  refine wpAny_call ?_
  k_dflt (refine' enter2E ?k1 ?k2 ?k3 ?k4 ?k5 ?kA ?kF ?kK ?k6 ?k7 ?k8 ?k9 ?kB ?_ ?c2 ?c3 ?c4 ?c5; (case kA => exact rfl); (case kF => exact rfl); (case kK => assumption); (case k1 => k_asm); (case k2 => k_asm); (case k3 => k_asm); (case k4 => exact N2); (case k5 => k_asm); (case k6 => k_is); (case k7 => k_is); (case k8 => k_room); (case k9 => exact BindsTo.of_eq rfl); (case c5 => decide); (case kB => exact locs rfl); (case c2 => exact rfl); (case c3 => exact rfl); (case c4 => exact rfl); k_whole; intro g' L' h' FG' F' N' B' X' T' l1' l4' hGK; (try k_lt l1'); (try dsimp only); (refine Mine.wp_enter ?_; intro ev Aw qk ek))
  clear F
  k_steps
  · (rename RaisedS _ _ (envX _ _ _ _ _ _ :: outer) _ _ _ _ _ _ => hR)
    (rename Heap.UpToSlots _ _ => hU)
    obtain ⟨a1, a2, a3⟩ := raised_up (env := envX cn cs L a ccd cl) B hF0.2 N rfl hR hU hGK (Chg.one (U (n + 1))) (by repeat' (first | exact List.forall_mem_nil _ | (refine Mine.fa_cons ?_ ?_) | assumption))
      (by repeat' (first | exact List.forall_mem_nil _ | (refine Mine.fa_cons ?_ ?_) | exact .inl ⟨_, List.mem_cons_self, rfl⟩ | exact .inr (by k_mem)))
      (by repeat' (first | exact List.forall_mem_nil _ | (refine Mine.fa_cons ?_ ?_) | k_mem))
    exact hexc _ _ _ _ _ _ _ a1 a2 a3
end
end Mine
end

end

section
open PySem PySem.W PyProof.Rows
namespace Mine
/-- the numbers on the stack ahead of a delta instruction -/
noncomputable def StkOk (many : Int) (vs : Array Value) : Prop :=
  ∃ w0 w1 w2 : Nat, (many ≤ 1 ∧ vs = #[.int 8 w0, .int 0 w1, .int many w2]) ∨ (many = 2 ∧ ∃ w3 w4 : Nat, vs = #[.int 8 w0, .int 0 w1, .int 8 w2, .int 0 w3, .int 2 w4])
theorem upd_same {a : Addr} {o : Obj} {l l' : List (Addr × Obj)} (U : Upd a o o l l') : l' = l := by
  obtain ⟨pre, post, rfl, rfl, _, _⟩ := U.split
  rfl
theorem upd_mem {a : Addr} {o o' : Obj} {l l' : List (Addr × Obj)} (U : Upd a o o' l l') {p : Addr × Obj} (h : p ∈ l) (hn : HN p.1 a) : p ∈ l' := by
  obtain ⟨pre, post, rfl, rfl, _, _⟩ := U.split
  rcases List.mem_append.mp h with h | h
  · exact List.mem_append_left _ h
  · rcases List.mem_cons.mp h with rfl | h
    · exact absurd rfl hn
    · exact List.mem_append_right _ (List.mem_cons_of_mem _ h)
section
variable {w : World} {p : Program} {loose : List Str} {mean : ExcName → Option Value} {mg mb : Str → Option Value}
    {gd : Option (List Code)} {cn : Str} {cs : Scope} {a : Addr} {ccd : Value} {cl : List (Str × Addr)} {outer : List Env} {A₀ : Around} {base h₀ : Heap} {L : Addr} {m : Str → Option Value} {news : List (Addr × Obj)} {s : Shared} {Q E : Value → Shared → Prop}
    (B : Below A₀ base outer h₀) (F : Fr h₀ L s.heap m) (X : (Mine.hd.heap_1 w.params).In h₀) (N : News h₀ L s.heap news) (T : Top p loose mean mg mb h₀) (hk : cs.kind = .function)
include B F X N T hk
theorem dc_nn {x dx gs dgs st dst nl f1 f2 f3 rd sd sc e c : Addr} {k0 k1 k2 k3 k4 k5 k6 k7 k8 k9 k10 k11 k12 k13 k14 k15 k16 k17 j0 j1 j2 j3 j4 j5 j6 j7 i0 i1 : Tok} {v0 v1 v2 v3 v4 v5 v6 v7 v8 v9 v10 v11 v12 u0 u3 u4 tc z0 z1 n nc : Nat} {pp code : Int} {many : Int} {vs : Array Value} {newsA : Array Value → Nat → List (Addr × Obj)} {news' : Array Value → Nat → Nat → Nat → List (Addr × Obj)}
    (h_x : (x, instObj 331 dx) ∈ news) (h_dx : (dx, dictOf [ent w "state" j0 (.ref gs), ent w "stack" j1 (.ref st), ent w "zones" j2 (.ref e), ent w "cvt" j3 (.ref c), ent w "storage" j4 (.ref sd), ent w "ppem" j5 (.int pp u3), ent w "point_size" j6 (.int 768 u4), ent w "scale" j7 (.ref sc)] 8) ∈ news) (h_gs : (gs, instObj 217 dgs) ∈ news) (h_dgs : (dgs, dictOf [ent w "freedom" k0 (.ref f1), ent w "projection" k1 (.ref f2), ent w "dual" k2 (.ref f3), ent w "rp0" k3 (.int 0 v0), ent w "rp1" k4 (.int 0 v1), ent w "rp2" k5 (.int 0 v2), ent w "zp0" k6 (.int 1 v3), ent w "zp1" k7 (.int 1 v4), ent w "zp2" k8 (.int 1 v5), ent w "loop" k9 (.int 1 v6), ent w "minimum" k10 (.int 64 v7), ent w "cut_in" k11 (.int 68 v8), ent w "single_cut_in" k12 (.int 0 v9), ent w "single_width" k13 (.int 0 v10), ent w "delta_base" k14 (.int 9 v11), ent w "delta_shift" k15 (.int 3 v12), ent w "auto_flip" k16 (.bool true), ent w "rounding" k17 (.ref rd)] 18) ∈ news) (h_st : (st, instObj 280 dst) ∈ news) (h_dst : (dst, dictOf [ent w "most" i0 (.int 64 u0), ent w "numbers" i1 (.ref nl)] 2) ∈ news) (h_nl : (nl, listOf vs n) ∈ news) (h_c : (c, listOf #[.int 0 z0, .int 5 z1] nc) ∈ news)
    (hpp : pp = 9 + 16 * (code - 115)) (hc : 115 ≤ code ∧ code ≤ 117) (o1 : HN st nl) (o2 : HN dst nl) (o3 : HN x nl) (o4 : HN dx nl) (o5 : HN gs nl) (o6 : HN dgs nl) (o7 : HN c nl) (p1 : HN st c) (p2 : HN dst c) (p3 : HN x c) (p4 : HN dx c) (p5 : HN gs c) (p6 : HN dgs c) (hst : StkOk many vs) (hm : 0 ≤ many)
    (U : ∀ vs' n', Upd nl (listOf vs n) (listOf vs' n') news (newsA vs' n')) (U2 : ∀ vs' n' t' nc', Upd c (listOf #[.int 0 z0, .int 5 z1] nc) (listOf #[Value.int (8 * many) t', Value.int 5 z1] nc') (newsA vs' n') (news' vs' n' t' nc'))
    (hret : ∀ vs' n' t' nc' h' tk', Fr h₀ L h' m → News h₀ L h' (news' vs' n' t' nc') → Q .none { s with heap := h', toks := tk' }) :
    wpAny (model PG w) (ktrTop 880 8800 gd cn cs L a ccd cl outer) (call (.ref 137) [.ref x, .int code tc]) Q E s := by
  obtain ⟨w0, w1, w2, ⟨h1, rfl⟩ | ⟨rfl, w3, w4, rfl⟩⟩ := hst
  · have hz : many = 0 ∨ many = 1 := by omega
    rcases hz with rfl | rfl
    · refine dc_0 (news' := fun n' => newsA #[.int 8 w0, .int 0 w1] n') B F X N T hk h_x h_dx h_gs h_dgs h_st h_dst h_nl h_c hpp hc o1 o2 o3 o4 o5 o6 o7 p1 p2 p3 p4 p5 p6 (fun n' => U _ n') fun n' h' tk' F' N' => hret #[.int 8 w0, .int 0 w1] n' z0 nc h' tk' F' ?_
      have e := upd_same (show Upd c (listOf #[.int 0 z0, .int 5 z1] nc) (listOf #[.int 0 z0, .int 5 z1] nc) _ _ from U2 #[.int 8 w0, .int 0 w1] n' z0 nc)
      rw [e]
      exact N'
    · exact dc_1 (newsA := fun n' => newsA #[] n') (news' := fun n' t' nc' => news' #[] n' t' nc') B F X N T hk h_x h_dx h_gs h_dgs h_st h_dst h_nl h_c hpp hc o1 o2 o3 o4 o5 o6 o7 p1 p2 p3 p4 p5 p6 (fun n' => U _ n') (fun n' t' nc' => U2 _ n' t' nc') fun n' t' nc' h' tk' F' N' => hret _ n' t' nc' h' tk' F' N'
  · exact dc_2 (newsA := fun n' => newsA #[] n') (news' := fun n' t' nc' => news' #[] n' t' nc') B F X N T hk h_x h_dx h_gs h_dgs h_st h_dst h_nl h_c hpp hc o1 o2 o3 o4 o5 o6 o7 p1 p2 p3 p4 p5 p6 (fun n' => U _ n') (fun n' t' nc' => U2 _ n' t' nc') fun n' t' nc' h' tk' F' N' => hret _ n' t' nc' h' tk' F' N'
theorem dp_nn {x dx gs dgs st dst nl f1 f2 f3 rd sd sc e c z dz z0 org cu to en oc p0 p1 t0 t1 : Addr} {k0 k1 k2 k3 k4 k5 k6 k7 k8 k9 k10 k11 k12 k13 k14 k15 k16 k17 j0 j1 j2 j3 j4 j5 j6 j7 i0 i1 g0 g1 g2 g3 g4 : Tok} {v0 v1 v2 v3 v4 v5 v6 v7 v8 v9 v10 v11 v12 u0 u3 u4 tc y0 y1 y2 y3 b0 b1 ncu nto nt n ne : Nat} {pp code b : Int} {many : Int} {vs : Array Value} {newsA : Array Value → Nat → List (Addr × Obj)} {newsB : Array Value → Nat → Addr → Nat → List (Addr × Obj)} {news' : Array Value → Nat → Addr → Nat → Array Value → Nat → List (Addr × Obj)}
    (h_x : (x, instObj 331 dx) ∈ news) (h_dx : (dx, dictOf [ent w "state" j0 (.ref gs), ent w "stack" j1 (.ref st), ent w "zones" j2 (.ref e), ent w "cvt" j3 (.ref c), ent w "storage" j4 (.ref sd), ent w "ppem" j5 (.int pp u3), ent w "point_size" j6 (.int 768 u4), ent w "scale" j7 (.ref sc)] 8) ∈ news) (h_gs : (gs, instObj 217 dgs) ∈ news) (h_dgs : (dgs, dictOf [ent w "freedom" k0 (.ref f1), ent w "projection" k1 (.ref f2), ent w "dual" k2 (.ref f3), ent w "rp0" k3 (.int 0 v0), ent w "rp1" k4 (.int 0 v1), ent w "rp2" k5 (.int 0 v2), ent w "zp0" k6 (.int 1 v3), ent w "zp1" k7 (.int 1 v4), ent w "zp2" k8 (.int 1 v5), ent w "loop" k9 (.int 1 v6), ent w "minimum" k10 (.int 64 v7), ent w "cut_in" k11 (.int 68 v8), ent w "single_cut_in" k12 (.int 0 v9), ent w "single_width" k13 (.int 0 v10), ent w "delta_base" k14 (.int 9 v11), ent w "delta_shift" k15 (.int 3 v12), ent w "auto_flip" k16 (.bool true), ent w "rounding" k17 (.ref rd)] 18) ∈ news) (h_st : (st, instObj 280 dst) ∈ news) (h_dst : (dst, dictOf [ent w "most" i0 (.int 64 u0), ent w "numbers" i1 (.ref nl)] 2) ∈ news) (h_f1 : (f1, ({ cls := .type "tuple", data := .seq #[.int 16384 y0, .int 0 y1] } : Obj)) ∈ news) (h_f2 : (f2, ({ cls := .type "tuple", data := .seq #[.int 16384 y2, .int 0 y3] } : Obj)) ∈ news) (h_nl : (nl, listOf vs n) ∈ news) (h_e : (e, listOf #[.ref z0, .ref z] ne) ∈ news) (h_z : (z, instObj 387 dz) ∈ news) (h_dz : (dz, dictOf [ent w "original" g0 (.ref org), ent w "current" g1 (.ref cu), ent w "touched" g2 (.ref to), ent w "ends" g3 (.ref en), ent w "on_curve" g4 (.ref oc)] 5) ∈ news) (h_cu : (cu, listOf #[.ref p0, .ref p1] ncu) ∈ news) (h_p0 : (p0, ({ cls := .type "tuple", data := .seq #[.int 0 b0, .int 0 b1] } : Obj)) ∈ news) (h_to : (to, listOf #[.ref t0, .ref t1] nto) ∈ news) (h_t0 : (t0, listOf #[.bool false, .bool false] nt) ∈ news)
    (hpp : pp = 9 + b) (hb : CBp code b) (on_x : HN x nl) (on_dx : HN dx nl) (on_gs : HN gs nl) (on_dgs : HN dgs nl) (on_st : HN st nl) (on_dst : HN dst nl) (on_f1 : HN f1 nl) (on_f2 : HN f2 nl) (on_e : HN e nl) (on_z : HN z nl) (on_dz : HN dz nl) (on_cu : HN cu nl) (on_p0 : HN p0 nl) (on_to : HN to nl) (on_t0 : HN t0 nl) (oc_x : HN x cu) (oc_dx : HN dx cu) (oc_gs : HN gs cu) (oc_dgs : HN dgs cu) (oc_st : HN st cu) (oc_dst : HN dst cu) (oc_f1 : HN f1 cu) (oc_f2 : HN f2 cu) (oc_e : HN e cu) (oc_z : HN z cu) (oc_dz : HN dz cu) (oc_p0 : HN p0 cu) (oc_to : HN to cu) (oc_t0 : HN t0 cu) (ot_x : HN x t0) (ot_dx : HN dx t0) (ot_gs : HN gs t0) (ot_dgs : HN dgs t0) (ot_st : HN st t0) (ot_dst : HN dst t0) (ot_f1 : HN f1 t0) (ot_f2 : HN f2 t0) (ot_e : HN e t0) (ot_z : HN z t0) (ot_dz : HN dz t0) (ot_p0 : HN p0 t0) (ot_to : HN to t0) (hst : StkOk many vs) (hm : 0 ≤ many)
    (U : ∀ vs' n', Upd nl (listOf vs n) (listOf vs' n') news (newsA vs' n')) (U2 : ∀ vs' n' q nc', Upd cu (listOf #[.ref p0, .ref p1] ncu) (listOf #[Value.ref q, Value.ref p1] nc') (newsA vs' n') (newsB vs' n' q nc'))
    (U3 : ∀ vs' n' q nc' vt nt', Upd t0 (listOf #[.bool false, .bool false] nt) (listOf vt nt') (newsB vs' n' q nc') (news' vs' n' q nc' vt nt'))
    (hret : ∀ vs' n' q nc' vt nt' t1' t2' h' tk', Fr h₀ L h' m → News h₀ L h' ((q, ({ cls := .type "tuple", data := .seq #[Value.int (8 * many) t1', Value.int 0 t2'] } : Obj)) :: news' vs' n' q nc' vt nt') → Q .none { s with heap := h', toks := tk' }) :
    wpAny (model PG w) (ktrTop 860 8600 gd cn cs L a ccd cl outer) (call (.ref 172) [.ref x, .int code tc]) Q E s := by
  obtain ⟨w0, w1, w2, ⟨h1, rfl⟩ | ⟨rfl, w3, w4, rfl⟩⟩ := hst
  · have hz : many = 0 ∨ many = 1 := by omega
    rcases hz with rfl | rfl
    · refine dp_0 (news' := fun n' => newsA #[.int 8 w0, .int 0 w1] n') B F X N T hk h_x h_dx h_gs h_dgs h_st h_dst h_f1 h_f2 h_nl h_e h_z h_dz h_cu h_p0 h_to h_t0 hpp hb on_x on_dx on_gs on_dgs on_st on_dst on_f1 on_f2 on_e on_z on_dz on_cu on_p0 on_to on_t0 oc_x oc_dx oc_gs oc_dgs oc_st oc_dst oc_f1 oc_f2 oc_e oc_z oc_dz oc_p0 oc_to oc_t0 ot_x ot_dx ot_gs ot_dgs ot_st ot_dst ot_f1 ot_f2 ot_e ot_z ot_dz ot_p0 ot_to (fun n' => U _ n') fun n' h' tk' F' N' => hret #[.int 8 w0, .int 0 w1] n' p0 ncu #[.bool false, .bool false] nt b0 b1 h' tk' F' ?_
      have e := upd_same (U2 #[.int 8 w0, .int 0 w1] n' p0 ncu)
      have e2 := upd_same (U3 #[.int 8 w0, .int 0 w1] n' p0 ncu #[.bool false, .bool false] nt)
      have hm := upd_mem (U #[.int 8 w0, .int 0 w1] n') h_p0 on_p0
      rw [e2, e]
      exact news_cons (N' _ hm) N'
    · exact dp_1 (newsA := fun n' => newsA #[] n') (newsB := fun n' q nc' => newsB #[] n' q nc') (news' := fun n' q nc' nt' => news' #[] n' q nc' #[.bool true, .bool false] nt') B F X N T hk h_x h_dx h_gs h_dgs h_st h_dst h_f1 h_f2 h_nl h_e h_z h_dz h_cu h_p0 h_to h_t0 hpp hb on_x on_dx on_gs on_dgs on_st on_dst on_f1 on_f2 on_e on_z on_dz on_cu on_p0 on_to on_t0 oc_x oc_dx oc_gs oc_dgs oc_st oc_dst oc_f1 oc_f2 oc_e oc_z oc_dz oc_p0 oc_to oc_t0 ot_x ot_dx ot_gs ot_dgs ot_st ot_dst ot_f1 ot_f2 ot_e ot_z ot_dz ot_p0 ot_to (fun n' => U _ n') (fun n' q nc' => U2 _ n' q nc') (fun n' q nc' nt' => U3 _ n' q nc' _ nt') fun n' q nc' nt' t1' t2' h' tk' F' _ N' => hret _ n' q nc' _ nt' t1' t2' h' tk' F' N'
  · exact dp_2 (newsA := fun n' => newsA #[] n') (newsB := fun n' q nc' => newsB #[] n' q nc') (news' := fun n' q nc' nt' => news' #[] n' q nc' #[.bool true, .bool false] nt') B F X N T hk h_x h_dx h_gs h_dgs h_st h_dst h_f1 h_f2 h_nl h_e h_z h_dz h_cu h_p0 h_to h_t0 hpp hb on_x on_dx on_gs on_dgs on_st on_dst on_f1 on_f2 on_e on_z on_dz on_cu on_p0 on_to on_t0 oc_x oc_dx oc_gs oc_dgs oc_st oc_dst oc_f1 oc_f2 oc_e oc_z oc_dz oc_p0 oc_to oc_t0 ot_x ot_dx ot_gs ot_dgs ot_st ot_dst ot_f1 ot_f2 ot_e ot_z ot_dz ot_p0 ot_to (fun n' => U _ n') (fun n' q nc' => U2 _ n' q nc') (fun n' q nc' nt' => U3 _ n' q nc' _ nt') fun n' q nc' nt' t1' t2' h' tk' F' _ N' => hret _ n' q nc' _ nt' t1' t2' h' tk' F' N'
end
end Mine
end

section
open PySem PySem.W PyProof.Rows
namespace Mine
section
variable {w : World} {p : Program} {loose : List Str} {mean : ExcName → Option Value} {mg mb : Str → Option Value}
    {gd : Option (List Code)} {cn : Str} {cs : Scope} {a : Addr} {ccd : Value} {cl : List (Str × Addr)} {outer : List Env} {A₀ : Around} {base h₀ : Heap} {L : Addr} {m : Str → Option Value} {news : List (Addr × Obj)} {s : Shared} {Q E : Value → Shared → Prop}
    (B : Below A₀ base outer h₀) (F : Fr h₀ L s.heap m) (X : (Mine.hd.heap_1 w.params).In h₀) (N : News h₀ L s.heap news) (T : Top p loose mean mg mb h₀) (hk : cs.kind = .function)
include B F X N T hk
theorem dc_nnO {x dx gs dgs st dst nl f1 f2 rd e c : Addr} {tc z0 z1 n nc : Nat} {pp code : Int} {many : Int} {vs : Array Value} {newsA : Array Value → Nat → List (Addr × Obj)} {news' : Array Value → Nat → Nat → Nat → List (Addr × Obj)} (h_x : (x, instObj 331 dx) ∈ news) {o_dx : Obj} (h_dx : (dx, o_dx) ∈ news) (k_dx : WkOk w o_dx gs st e c pp) (h_gs : (gs, instObj 217 dgs) ∈ news) {o_dgs : Obj} (h_dgs : (dgs, o_dgs) ∈ news) (k_dgs : GsOk w o_dgs f1 f2 rd) (h_st : (st, instObj 280 dst) ∈ news) {o_dst : Obj} (h_dst : (dst, o_dst) ∈ news) (k_dst : StOk w o_dst nl) (h_nl : (nl, listOf vs n) ∈ news) (h_c : (c, listOf #[.int 0 z0, .int 5 z1] nc) ∈ news) (hpp : pp = 9 + 16 * (code - 115)) (hc : 115 ≤ code ∧ code ≤ 117) (o1 : HN st nl) (o2 : HN dst nl) (o3 : HN x nl) (o4 : HN dx nl) (o5 : HN gs nl) (o6 : HN dgs nl) (o7 : HN c nl) (p1 : HN st c) (p2 : HN dst c) (p3 : HN x c) (p4 : HN dx c) (p5 : HN gs c) (p6 : HN dgs c) (hst : StkOk many vs) (hm : 0 ≤ many) (U : ∀ vs' n', Upd nl (listOf vs n) (listOf vs' n') news (newsA vs' n')) (U2 : ∀ vs' n' t' nc', Upd c (listOf #[.int 0 z0, .int 5 z1] nc) (listOf #[Value.int (8 * many) t', Value.int 5 z1] nc') (newsA vs' n') (news' vs' n' t' nc')) (hret : ∀ vs' n' t' nc' h' tk', Fr h₀ L h' m → News h₀ L h' (news' vs' n' t' nc') → Q .none { s with heap := h', toks := tk' }) :
    wpAny (model PG w) (ktrTop 880 8800 gd cn cs L a ccd cl outer) (call (.ref 137) [.ref x, .int code tc]) Q E s := by
  obtain ⟨sd, sc, j, rfl⟩ := k_dx.el
  obtain ⟨f3, k, rfl⟩ := k_dgs.el
  obtain ⟨i0, i1, u0, rfl⟩ := k_dst
  exact dc_nn B F X N T hk h_x h_dx h_gs h_dgs h_st h_dst h_nl h_c hpp hc o1 o2 o3 o4 o5 o6 o7 p1 p2 p3 p4 p5 p6 hst hm U U2 hret
theorem dp_nnO {x dx gs dgs st dst nl f1 f2 rd e c z dz z0 org cu to en oc p0 p1 t0 t1 : Addr} {tc ncu nto nt n ne : Nat} {pp code b : Int} {many : Int} {vs : Array Value} {newsA : Array Value → Nat → List (Addr × Obj)} {newsB : Array Value → Nat → Addr → Nat → List (Addr × Obj)} {news' : Array Value → Nat → Addr → Nat → Array Value → Nat → List (Addr × Obj)} (h_x : (x, instObj 331 dx) ∈ news) {o_dx : Obj} (h_dx : (dx, o_dx) ∈ news) (k_dx : WkOk w o_dx gs st e c pp) (h_gs : (gs, instObj 217 dgs) ∈ news) {o_dgs : Obj} (h_dgs : (dgs, o_dgs) ∈ news) (k_dgs : GsOk w o_dgs f1 f2 rd) (h_st : (st, instObj 280 dst) ∈ news) {o_dst : Obj} (h_dst : (dst, o_dst) ∈ news) (k_dst : StOk w o_dst nl) {o_f1 : Obj} (h_f1 : (f1, o_f1) ∈ news) (k_f1 : Pr o_f1 16384 0) {o_f2 : Obj} (h_f2 : (f2, o_f2) ∈ news) (k_f2 : Pr o_f2 16384 0) (h_nl : (nl, listOf vs n) ∈ news) (h_e : (e, listOf #[.ref z0, .ref z] ne) ∈ news) (h_z : (z, instObj 387 dz) ∈ news) {o_dz : Obj} (h_dz : (dz, o_dz) ∈ news) (k_dz : ZnOk w o_dz org cu to en oc) (h_cu : (cu, listOf #[.ref p0, .ref p1] ncu) ∈ news) {o_p0 : Obj} (h_p0 : (p0, o_p0) ∈ news) (k_p0 : Pr o_p0 0 0) (h_to : (to, listOf #[.ref t0, .ref t1] nto) ∈ news) (h_t0 : (t0, listOf #[.bool false, .bool false] nt) ∈ news) (hpp : pp = 9 + b) (hb : CBp code b) (on_x : HN x nl) (on_dx : HN dx nl) (on_gs : HN gs nl) (on_dgs : HN dgs nl) (on_st : HN st nl) (on_dst : HN dst nl) (on_f1 : HN f1 nl) (on_f2 : HN f2 nl) (on_e : HN e nl) (on_z : HN z nl) (on_dz : HN dz nl) (on_cu : HN cu nl) (on_p0 : HN p0 nl) (on_to : HN to nl) (on_t0 : HN t0 nl) (oc_x : HN x cu) (oc_dx : HN dx cu) (oc_gs : HN gs cu) (oc_dgs : HN dgs cu) (oc_st : HN st cu) (oc_dst : HN dst cu) (oc_f1 : HN f1 cu) (oc_f2 : HN f2 cu) (oc_e : HN e cu) (oc_z : HN z cu) (oc_dz : HN dz cu) (oc_p0 : HN p0 cu) (oc_to : HN to cu) (oc_t0 : HN t0 cu) (ot_x : HN x t0) (ot_dx : HN dx t0) (ot_gs : HN gs t0) (ot_dgs : HN dgs t0) (ot_st : HN st t0) (ot_dst : HN dst t0) (ot_f1 : HN f1 t0) (ot_f2 : HN f2 t0) (ot_e : HN e t0) (ot_z : HN z t0) (ot_dz : HN dz t0) (ot_p0 : HN p0 t0) (ot_to : HN to t0) (hst : StkOk many vs) (hm : 0 ≤ many) (U : ∀ vs' n', Upd nl (listOf vs n) (listOf vs' n') news (newsA vs' n')) (U2 : ∀ vs' n' q nc', Upd cu (listOf #[.ref p0, .ref p1] ncu) (listOf #[Value.ref q, Value.ref p1] nc') (newsA vs' n') (newsB vs' n' q nc')) (U3 : ∀ vs' n' q nc' vt nt', Upd t0 (listOf #[.bool false, .bool false] nt) (listOf vt nt') (newsB vs' n' q nc') (news' vs' n' q nc' vt nt')) (hret : ∀ vs' n' q nc' vt nt' t1' t2' h' tk', Fr h₀ L h' m → News h₀ L h' ((q, ({ cls := .type "tuple", data := .seq #[Value.int (8 * many) t1', Value.int 0 t2'] } : Obj)) :: news' vs' n' q nc' vt nt') → Q .none { s with heap := h', toks := tk' }) :
    wpAny (model PG w) (ktrTop 860 8600 gd cn cs L a ccd cl outer) (call (.ref 172) [.ref x, .int code tc]) Q E s := by
  obtain ⟨sd, sc, j, rfl⟩ := k_dx.el
  obtain ⟨f3, k, rfl⟩ := k_dgs.el
  obtain ⟨i0, i1, u0, rfl⟩ := k_dst
  obtain ⟨y0, y1, rfl⟩ := k_f1
  obtain ⟨y2, y3, rfl⟩ := k_f2
  obtain ⟨g, rfl⟩ := k_dz.el
  obtain ⟨b0, b1, rfl⟩ := k_p0
  exact dp_nn B F X N T hk h_x h_dx h_gs h_dgs h_st h_dst h_f1 h_f2 h_nl h_e h_z h_dz h_cu h_p0 h_to h_t0 hpp hb on_x on_dx on_gs on_dgs on_st on_dst on_f1 on_f2 on_e on_z on_dz on_cu on_p0 on_to on_t0 oc_x oc_dx oc_gs oc_dgs oc_st oc_dst oc_f1 oc_f2 oc_e oc_z oc_dz oc_p0 oc_to oc_t0 ot_x ot_dx ot_gs ot_dgs ot_st ot_dst ot_f1 ot_f2 ot_e ot_z ot_dz ot_p0 ot_to hst hm U U2 U3 hret
theorem dc_negO {x dx gs dgs st dst nl f1 f2 rd e c : Addr} {tc w0 w1 w2 z0 z1 n nc : Nat} {pp code : Int} {many : Int} {news' : Nat → List (Addr × Obj)} (h_x : (x, instObj 331 dx) ∈ news) {o_dx : Obj} (h_dx : (dx, o_dx) ∈ news) (k_dx : WkOk w o_dx gs st e c pp) (h_gs : (gs, instObj 217 dgs) ∈ news) {o_dgs : Obj} (h_dgs : (dgs, o_dgs) ∈ news) (k_dgs : GsOk w o_dgs f1 f2 rd) (h_st : (st, instObj 280 dst) ∈ news) {o_dst : Obj} (h_dst : (dst, o_dst) ∈ news) (k_dst : StOk w o_dst nl) (h_nl : (nl, listOf #[.int 8 w0, .int 0 w1, .int many w2] n) ∈ news) (h_c : (c, listOf #[.int 0 z0, .int 5 z1] nc) ∈ news) (hpp : pp = 9 + 16 * (code - 115)) (hc : 115 ≤ code ∧ code ≤ 117) (o1 : HN st nl) (o2 : HN dst nl) (o3 : HN x nl) (o4 : HN dx nl) (o5 : HN gs nl) (o6 : HN dgs nl) (o7 : HN c nl) (p1 : HN st c) (p2 : HN dst c) (p3 : HN x c) (p4 : HN dx c) (p5 : HN gs c) (p6 : HN dgs c) (hm : many < 0) (U : ∀ n', Upd nl (listOf #[Value.int 8 w0, Value.int 0 w1, Value.int many w2] n) (listOf #[Value.int 8 w0, Value.int 0 w1] n') news (news' n')) (hexc : ∀ n' g e t vs h' tk', Fr h₀ L g m → RaisedS base g (envX cn cs L a ccd cl :: outer) e (.ref 72) t vs (news' n') h' → g.UpToSlots h' → E (.ref e) { s with heap := h', toks := tk' }) :
    wpAny (model PG w) (ktrTop 880 8800 gd cn cs L a ccd cl outer) (call (.ref 137) [.ref x, .int code tc]) Q E s := by
  obtain ⟨sd, sc, j, rfl⟩ := k_dx.el
  obtain ⟨f3, k, rfl⟩ := k_dgs.el
  obtain ⟨i0, i1, u0, rfl⟩ := k_dst
  exact dc_neg B F X N T hk h_x h_dx h_gs h_dgs h_st h_dst h_nl h_c hpp hc o1 o2 o3 o4 o5 o6 o7 p1 p2 p3 p4 p5 p6 hm U hexc
theorem dp_negO {x dx gs dgs st dst nl f1 f2 rd e c z dz z0 org cu to en oc p0 p1 t0 t1 : Addr} {tc w0 w1 w2 ncu nto nt n ne : Nat} {pp code b : Int} {news' : Nat → List (Addr × Obj)} {many : Int} (h_x : (x, instObj 331 dx) ∈ news) {o_dx : Obj} (h_dx : (dx, o_dx) ∈ news) (k_dx : WkOk w o_dx gs st e c pp) (h_gs : (gs, instObj 217 dgs) ∈ news) {o_dgs : Obj} (h_dgs : (dgs, o_dgs) ∈ news) (k_dgs : GsOk w o_dgs f1 f2 rd) (h_st : (st, instObj 280 dst) ∈ news) {o_dst : Obj} (h_dst : (dst, o_dst) ∈ news) (k_dst : StOk w o_dst nl) {o_f1 : Obj} (h_f1 : (f1, o_f1) ∈ news) (k_f1 : Pr o_f1 16384 0) {o_f2 : Obj} (h_f2 : (f2, o_f2) ∈ news) (k_f2 : Pr o_f2 16384 0) (h_nl : (nl, listOf #[.int 8 w0, .int 0 w1, .int many w2] n) ∈ news) (h_e : (e, listOf #[.ref z0, .ref z] ne) ∈ news) (h_z : (z, instObj 387 dz) ∈ news) {o_dz : Obj} (h_dz : (dz, o_dz) ∈ news) (k_dz : ZnOk w o_dz org cu to en oc) (h_cu : (cu, listOf #[.ref p0, .ref p1] ncu) ∈ news) {o_p0 : Obj} (h_p0 : (p0, o_p0) ∈ news) (k_p0 : Pr o_p0 0 0) (h_to : (to, listOf #[.ref t0, .ref t1] nto) ∈ news) (h_t0 : (t0, listOf #[.bool false, .bool false] nt) ∈ news) (hpp : pp = 9 + b) (hb : CBp code b) (on_x : HN x nl) (on_dx : HN dx nl) (on_gs : HN gs nl) (on_dgs : HN dgs nl) (on_st : HN st nl) (on_dst : HN dst nl) (on_f1 : HN f1 nl) (on_f2 : HN f2 nl) (on_e : HN e nl) (on_z : HN z nl) (on_dz : HN dz nl) (on_cu : HN cu nl) (on_p0 : HN p0 nl) (on_to : HN to nl) (on_t0 : HN t0 nl) (oc_x : HN x cu) (oc_dx : HN dx cu) (oc_gs : HN gs cu) (oc_dgs : HN dgs cu) (oc_st : HN st cu) (oc_dst : HN dst cu) (oc_f1 : HN f1 cu) (oc_f2 : HN f2 cu) (oc_e : HN e cu) (oc_z : HN z cu) (oc_dz : HN dz cu) (oc_p0 : HN p0 cu) (oc_to : HN to cu) (oc_t0 : HN t0 cu) (ot_x : HN x t0) (ot_dx : HN dx t0) (ot_gs : HN gs t0) (ot_dgs : HN dgs t0) (ot_st : HN st t0) (ot_dst : HN dst t0) (ot_f1 : HN f1 t0) (ot_f2 : HN f2 t0) (ot_e : HN e t0) (ot_z : HN z t0) (ot_dz : HN dz t0) (ot_p0 : HN p0 t0) (ot_to : HN to t0) (U : ∀ n', Upd nl (listOf #[Value.int 8 w0, Value.int 0 w1, Value.int many w2] n) (listOf #[Value.int 8 w0, Value.int 0 w1] n') news (news' n')) (hm : many < 0) (hexc : ∀ n' g e t vs h' tk', Fr h₀ L g m → RaisedS base g (envX cn cs L a ccd cl :: outer) e (.ref 72) t vs (news' n') h' → g.UpToSlots h' → E (.ref e) { s with heap := h', toks := tk' }) :
    wpAny (model PG w) (ktrTop 860 8600 gd cn cs L a ccd cl outer) (call (.ref 172) [.ref x, .int code tc]) Q E s := by
  obtain ⟨sd, sc, j, rfl⟩ := k_dx.el
  obtain ⟨f3, k, rfl⟩ := k_dgs.el
  obtain ⟨i0, i1, u0, rfl⟩ := k_dst
  obtain ⟨y0, y1, rfl⟩ := k_f1
  obtain ⟨y2, y3, rfl⟩ := k_f2
  obtain ⟨g, rfl⟩ := k_dz.el
  obtain ⟨b0, b1, rfl⟩ := k_p0
  exact dp_neg B F X N T hk h_x h_dx h_gs h_dgs h_st h_dst h_f1 h_f2 h_nl h_e h_z h_dz h_cu h_p0 h_to h_t0 hpp hb on_x on_dx on_gs on_dgs on_st on_dst on_f1 on_f2 on_e on_z on_dz on_cu on_p0 on_to on_t0 oc_x oc_dx oc_gs oc_dgs oc_st oc_dst oc_f1 oc_f2 oc_e oc_z oc_dz oc_p0 oc_to oc_t0 ot_x ot_dx ot_gs ot_dgs ot_st ot_dst ot_f1 ot_f2 ot_e ot_z ot_dz ot_p0 ot_to U hm hexc
end
end Mine
end

theorem Mine.reg_x12 : True := by
  (k_with "x12 exec Raise some none" => (k_here; k_dflt (refine' Mine.raise_by (C := 72) ?hhY93 ?_; (case hhY93 => first | rfl | assumption)); (try dsimp only); (try k_fold)))
  (k_with "x12 RaiseEnd" => (k_dflt (refine' Mine.RaiseEnd.intro ?FY94 ?XY94 ?qY94 ?MY94 ?_; (case MY94 => with_reducible assumption); (case FY94 => k_asm); (case XY94 => k_asm); (case qY94 => kts_isx)); (try dsimp only)))
  (k_with "x12 leaving ref" => (k_here; first | (refine' Mine.leave_firstX ?hfY95 ?hkeY95 ?KY95 ?hxY95 ?FY95 ?NY95 ?_; (case hxY95 => with_reducible assumption); (case hfY95 => rfl); (case hkeY95 => rfl); (case FY95 => with_reducible assumption); (case KY95 => with_reducible assumption); (case NY95 => k_asm); k_whole; intro h'Z S'Z U'Z; (try dsimp only at S'Z U'Z ⊢)) | (refine' Mine.leave_onX ?hfY95 ?KY95 ?FY95 ?RY95 ?UY95 ?_; (case RY95 => with_reducible assumption); (case UY95 => with_reducible assumption); (case hfY95 => rfl); (case FY95 => with_reducible assumption); (case KY95 => with_reducible assumption); k_whole; intro h'Z S'Z U'Z; (try dsimp only at S'Z U'Z ⊢))))
  (k_with "x12 subscriptTail" => (k_here; (with_reducible show wpAny _ _ (subscriptTail (Expr.Dict _ _ _) _ (Value.ref _) (Value.int _ _)) _ _ _); (first | (refine' Mine.cut_code (P := Mine.CBc) ?hbY100 ?h1Y100 ?_; (case hbY100 => with_reducible assumption); (case h1Y100 => (intro c9Z b9Z hB9Z; (first | unfold Mine.CBp at hB9Z | unfold Mine.CBc at hB9Z); rcases hB9Z with ⟨e9Z, e8Z⟩ | ⟨e9Z, e8Z⟩ | ⟨e9Z, e8Z⟩ <;> (rw [e9Z, e8Z]; clear e9Z e8Z; (repeat (first | ((with_reducible show wpAny _ _ (subscriptTail _ _ _ _) _ _ _); k_dflt (refine' tab_tail (knd := intKind _ _) (enc := PyData.int) ?T9Y100 ?_; (case T9Y100 => k_tabat); k_whole)) | ((with_reducible show wpAny _ _ (getItem _ _) _ _ _); k_dflt (refine' getItem_tab PyProof.V.same_int (intKind_is _ _ _ _) ?k1Y100 ?k2Y100 ?_; (case k1Y100 => k_tabat); (case k2Y100 => first | with_reducible assumption | rfl); k_whole); intro _ hv8Z; dict_open hv8Z) | (with_reducible exact ⟨_, _, rfl, rfl⟩) | walk1)); done))); intro t9Z tk9Z; (try dsimp only)) | (refine' Mine.cut_code (P := Mine.CBp) ?hbY100 ?h1Y100 ?_; (case hbY100 => with_reducible assumption); (case h1Y100 => (intro c9Z b9Z hB9Z; (first | unfold Mine.CBp at hB9Z | unfold Mine.CBc at hB9Z); rcases hB9Z with ⟨e9Z, e8Z⟩ | ⟨e9Z, e8Z⟩ | ⟨e9Z, e8Z⟩ <;> (rw [e9Z, e8Z]; clear e9Z e8Z; (repeat (first | ((with_reducible show wpAny _ _ (subscriptTail _ _ _ _) _ _ _); k_dflt (refine' tab_tail (knd := intKind _ _) (enc := PyData.int) ?T9Y100 ?_; (case T9Y100 => k_tabat); k_whole)) | ((with_reducible show wpAny _ _ (getItem _ _) _ _ _); k_dflt (refine' getItem_tab PyProof.V.same_int (intKind_is _ _ _ _) ?k1Y100 ?k2Y100 ?_; (case k1Y100 => k_tabat); (case k2Y100 => first | with_reducible assumption | rfl); k_whole); intro _ hv8Z; dict_open hv8Z) | (with_reducible exact ⟨_, _, rfl, rfl⟩) | walk1)); done))); intro t9Z tk9Z; (try dsimp only)))))
  (k_with "x12 eval Lambda" => (k_here; k_dflt (refine' kla_eval ?d0Y101 ?_; (case d0Y101 => exact rfl)); k_dflt (refine' Mine.lam_any2 ?FY101 ?NY101 ?TY101 ?CY101 ?cdY101 ?UY101 ?hzY101 ?stY101 ?clY101 ?_; (case FY101 => k_asm); (case NY101 => with_reducible assumption); (case TY101 => k_asm); (case cdY101 => exact rfl); (case CY101 => first | with_reducible assumption | exact CodeHd.keeps (by with_reducible assumption) (Below.stays (by with_reducible assumption))); (case UY101 => k_updF); (case hzY101 => repeat' (first | exact True.intro | (refine And.intro ?_ ?_) | with_reducible assumption | (apply Mine.HN.out'; with_reducible assumption))); (case stY101 => first | with_reducible assumption | assumption); (case clY101 => exact rfl)); intro f'Z c'Z oc'Z ct'Z h'Z tk'Z vs'Z t'Z F'Z N'Z d1'Z d2'Z l1Z lzZ hcz'Z; (try dsimp only at N'Z); (try simp only [Mine.AllHL, and_true] at l1Z); (repeat (obtain ⟨_, l1Z⟩ : _ ∧ _ := l1Z)); (k_lt lzZ)))
  (k_with "x12 call ref cons nil" => (k_here; (with_reducible show wpAny _ _ (call (Value.ref 419) _ _) _ _ _); refine wpAny_call ?_; k_dflt (refine' Mine.enterSX ?k1Y102 ?k2Y102 ?k3Y102 ?k4Y102 ?k5Y102 ?XBY102 ?TBY102 ?DY102 ?T0Y102 ?kAY102 ?kfY102 ?kkY102 ?k6Y102 ?k7Y102 ?k8Y102 ?k9Y102 ?kBY102 ?_ ?c2Y102 ?c3Y102 ?c4Y102 ?c5Y102; (case kAY102 => exact rfl); (case kfY102 => exact rfl); (case kkY102 => exact rfl); (case k2Y102 => k_asm); (case k1Y102 => k_asm); (case XBY102 => assumption); (case TBY102 => assumption); (case DY102 => assumption); (case T0Y102 => first | assumption | exact KtsTurn.refl); (case k3Y102 => k_asm); (case k4Y102 => k_asm); (case k5Y102 => k_asm); (case k6Y102 => k_is); (case k7Y102 => k_is); (case k8Y102 => k_room); (case k9Y102 => exact BindsTo.of_eq rfl); (case kBY102 => exact locs rfl); (case c2Y102 => exact rfl); (case c3Y102 => exact rfl); (case c4Y102 => exact rfl); (case c5Y102 => decide); k_whole; intro g'Z L'Z h'Z FG'Z F'Z N'Z B'Z X'Z T'Z D'Z l1'Z; (try k_lt l1'Z); (try dsimp only); (try k_lift B'Z); first | (refine Mine.wp_enter ?_; intro evZ AwZ qkZ ekZ) | k_fold | skip)))
  (k_with "x12 call builtin:max" => (k_here; (with_reducible show wpAny _ _ (call (Value.builtin _) [Value.int _ _, Value.int _ _]) _ _ _); k_dflt (refine' Mine.max_to ?hhY103 ?FY103 ?NY103 ?eY103 ?_; (case hhY103 => rfl); (case FY103 => k_asm); (case NY103 => k_asm); (case eY103 => first | exact Mine.max_ge (by omega) | exact Mine.max_le (by omega))); intro t'Z h'Z tk'Z F'Z N'Z; (try dsimp only)))
  (k_with "x12 compareOp Eq ref ref" => (k_here; (with_reducible show wpAny _ _ (compareOp CmpOp.Eq (Value.ref _) (Value.ref _)) _ _ _); k_dflt (refine' Mine.eq_pts2 ?NY104 ?m1Y104 ?m2Y104 ?m3Y104 ?m4Y104 ?m5Y104 ?m6Y104 ?e1Y104 ?e2Y104 ?e3Y104 ?e4Y104 ?huY104 ?_; (case NY104 => k_asm); (case m1Y104 => k_mem); (case m2Y104 => k_mem); (case m3Y104 => k_mem); (case m4Y104 => k_mem); (case m5Y104 => k_mem); (case m6Y104 => k_mem); (case e1Y104 => rfl); (case e2Y104 => rfl); (case e3Y104 => rfl); (case e4Y104 => rfl); (case huY104 => ke_room))))
  (k_with "x12 getAttr ref" => (k_here; (with_reducible show wpAny _ _ (getAttr (Value.ref _) (Str.ofString "current") true) _ _ _); k_dflt (refine' Mine.at_room ?h1Y73 ?h2Y73 ?h3Y73 ?h5Y73 (Mine.zn_current ?BY73 ?FY73 ?XY73 ?NY73 ?TY73 ?hkY73 ?hxY73 ?hdY73 ?okY73 ?_); (case h1Y73 => exact rfl); (case h3Y73 => exact rfl); (case h2Y73 => exact Nat.le_of_ble_eq_true rfl); (case h5Y73 => exact Nat.le_of_ble_eq_true rfl); (case BY73 => k_asm); (case FY73 => k_asm); (case XY73 => k_asm); (case NY73 => k_asm); (case TY73 => k_asm); (case hkY73 => first | exact rfl | assumption); (case hxY73 => k_mem); (case hdY73 => k_mem); (case okY73 => with_reducible assumption)); intro tk'Z; (try dsimp only)))
  (k_with "x12 getAttr ref" => (k_here; (with_reducible show wpAny _ _ (getAttr (Value.ref _) (Str.ofString "state") true) _ _ _); k_dflt (refine' Mine.at_room ?h1Y74 ?h2Y74 ?h3Y74 ?h5Y74 (Mine.wk_state ?BY74 ?FY74 ?XY74 ?NY74 ?TY74 ?hkY74 ?hxY74 ?hdY74 ?okY74 ?_); (case h1Y74 => exact rfl); (case h3Y74 => exact rfl); (case h2Y74 => exact Nat.le_of_ble_eq_true rfl); (case h5Y74 => exact Nat.le_of_ble_eq_true rfl); (case BY74 => k_asm); (case FY74 => k_asm); (case XY74 => k_asm); (case NY74 => k_asm); (case TY74 => k_asm); (case hkY74 => first | exact rfl | assumption); (case hxY74 => k_mem); (case hdY74 => k_mem); (case okY74 => with_reducible assumption)); intro tk'Z; (try dsimp only)))
  (k_with "x12 getAttr ref" => (k_here; (with_reducible show wpAny _ _ (getAttr (Value.ref _) (Str.ofString "stack") true) _ _ _); k_dflt (refine' Mine.at_room ?h1Y75 ?h2Y75 ?h3Y75 ?h5Y75 (Mine.wk_stack ?BY75 ?FY75 ?XY75 ?NY75 ?TY75 ?hkY75 ?hxY75 ?hdY75 ?okY75 ?_); (case h1Y75 => exact rfl); (case h3Y75 => exact rfl); (case h2Y75 => exact Nat.le_of_ble_eq_true rfl); (case h5Y75 => exact Nat.le_of_ble_eq_true rfl); (case BY75 => k_asm); (case FY75 => k_asm); (case XY75 => k_asm); (case NY75 => k_asm); (case TY75 => k_asm); (case hkY75 => first | exact rfl | assumption); (case hxY75 => k_mem); (case hdY75 => k_mem); (case okY75 => with_reducible assumption)); intro tk'Z; (try dsimp only)))
  (k_with "x12 getAttr ref" => (k_here; (with_reducible show wpAny _ _ (getAttr (Value.ref _) (Str.ofString "zones") true) _ _ _); k_dflt (refine' Mine.at_room ?h1Y76 ?h2Y76 ?h3Y76 ?h5Y76 (Mine.wk_zones ?BY76 ?FY76 ?XY76 ?NY76 ?TY76 ?hkY76 ?hxY76 ?hdY76 ?okY76 ?_); (case h1Y76 => exact rfl); (case h3Y76 => exact rfl); (case h2Y76 => exact Nat.le_of_ble_eq_true rfl); (case h5Y76 => exact Nat.le_of_ble_eq_true rfl); (case BY76 => k_asm); (case FY76 => k_asm); (case XY76 => k_asm); (case NY76 => k_asm); (case TY76 => k_asm); (case hkY76 => first | exact rfl | assumption); (case hxY76 => k_mem); (case hdY76 => k_mem); (case okY76 => with_reducible assumption)); intro tk'Z; (try dsimp only)))
  (k_with "x12 getAttr ref" => (k_here; (with_reducible show wpAny _ _ (getAttr (Value.ref _) (Str.ofString "cvt") true) _ _ _); k_dflt (refine' Mine.at_room ?h1Y77 ?h2Y77 ?h3Y77 ?h5Y77 (Mine.wk_cvt ?BY77 ?FY77 ?XY77 ?NY77 ?TY77 ?hkY77 ?hxY77 ?hdY77 ?okY77 ?_); (case h1Y77 => exact rfl); (case h3Y77 => exact rfl); (case h2Y77 => exact Nat.le_of_ble_eq_true rfl); (case h5Y77 => exact Nat.le_of_ble_eq_true rfl); (case BY77 => k_asm); (case FY77 => k_asm); (case XY77 => k_asm); (case NY77 => k_asm); (case TY77 => k_asm); (case hkY77 => first | exact rfl | assumption); (case hxY77 => k_mem); (case hdY77 => k_mem); (case okY77 => with_reducible assumption)); intro tk'Z; (try dsimp only)))
  (k_with "x12 getAttr ref" => (k_here; (with_reducible show wpAny _ _ (getAttr (Value.ref _) (Str.ofString "numbers") true) _ _ _); k_dflt (refine' Mine.at_room ?h1Y78 ?h2Y78 ?h3Y78 ?h5Y78 (Mine.st_numbers ?BY78 ?FY78 ?XY78 ?NY78 ?TY78 ?hkY78 ?hxY78 ?hdY78 ?okY78 ?_); (case h1Y78 => exact rfl); (case h3Y78 => exact rfl); (case h2Y78 => exact Nat.le_of_ble_eq_true rfl); (case h5Y78 => exact Nat.le_of_ble_eq_true rfl); (case BY78 => k_asm); (case FY78 => k_asm); (case XY78 => k_asm); (case NY78 => k_asm); (case TY78 => k_asm); (case hkY78 => first | exact rfl | assumption); (case hxY78 => k_mem); (case hdY78 => k_mem); (case okY78 => with_reducible assumption)); intro tk'Z; (try dsimp only)))
  (k_with "x12 getAttr ref" => (k_here; (with_reducible show wpAny _ _ (getAttr (Value.ref _) (Str.ofString "rounding") true) _ _ _); k_dflt (refine' Mine.at_room ?h1Y79 ?h2Y79 ?h3Y79 ?h5Y79 (Mine.gs_rounding ?BY79 ?FY79 ?XY79 ?NY79 ?TY79 ?hkY79 ?hxY79 ?hdY79 ?okY79 ?_); (case h1Y79 => exact rfl); (case h3Y79 => exact rfl); (case h2Y79 => exact Nat.le_of_ble_eq_true rfl); (case h5Y79 => exact Nat.le_of_ble_eq_true rfl); (case BY79 => k_asm); (case FY79 => k_asm); (case XY79 => k_asm); (case NY79 => k_asm); (case TY79 => k_asm); (case hkY79 => first | exact rfl | assumption); (case hxY79 => k_mem); (case hdY79 => k_mem); (case okY79 => with_reducible assumption)); intro tk'Z; (try dsimp only)))
  (k_with "x12 setAttr ref" => (k_here; (with_reducible show wpAny _ _ (setAttr (Value.ref _) (Str.ofString "rounding") (Value.ref _)) _ _ _); k_dflt (refine' Mine.at_room ?h1Y80 ?h2Y80 ?h3Y80 ?h5Y80 (Mine.gs_setr ?BY80 ?FY80 ?XY80 ?NY80 ?TY80 ?hkY80 ?hxY80 ?hdY80 ?okY80 ?UY80 ?_); (case h1Y80 => exact rfl); (case h3Y80 => exact rfl); (case h2Y80 => exact Nat.le_of_ble_eq_true rfl); (case h5Y80 => exact Nat.le_of_ble_eq_true rfl); (case BY80 => k_asm); (case FY80 => k_asm); (case XY80 => k_asm); (case NY80 => k_asm); (case TY80 => k_asm); (case hkY80 => first | exact rfl | assumption); (case hxY80 => k_mem); (case hdY80 => k_mem); (case okY80 => with_reducible assumption); (case UY80 => (intro oo9Z; k_upd))); intro o'Z h'Z tk'Z F'Z g1'Z N'Z; (try dsimp only at N'Z); (try dsimp only)))
  (k_with "x12 setAttr ref" => (k_here; (with_reducible show wpAny _ _ (setAttr (Value.ref _) (Str.ofString "ppem") (Value.int _ _)) _ _ _); k_dflt (refine' Mine.at_room ?h1Y81 ?h2Y81 ?h3Y81 ?h5Y81 (Mine.wk_setp ?BY81 ?FY81 ?XY81 ?NY81 ?TY81 ?hkY81 ?hxY81 ?hdY81 ?okY81 ?UY81 ?_); (case h1Y81 => exact rfl); (case h3Y81 => exact rfl); (case h2Y81 => exact Nat.le_of_ble_eq_true rfl); (case h5Y81 => exact Nat.le_of_ble_eq_true rfl); (case BY81 => k_asm); (case FY81 => k_asm); (case XY81 => k_asm); (case NY81 => k_asm); (case TY81 => k_asm); (case hkY81 => first | exact rfl | assumption); (case hxY81 => k_mem); (case hdY81 => k_mem); (case okY81 => with_reducible assumption); (case UY81 => (intro oo9Z; k_upd))); intro o'Z h'Z tk'Z F'Z wk9'Z N'Z; (try dsimp only at N'Z); (try dsimp only)))
  (k_with "x12 getMethod ref" => (k_here; (with_reducible show wpAny _ _ (getMethod (Value.ref _) (Str.ofString "push") _) _ _ _); k_dflt (refine' Mine.at_room ?h1Y82 ?h2Y82 ?h3Y82 ?h5Y82 (Mine.st_m_push ?BY82 ?FY82 ?XY82 ?NY82 ?TY82 ?hkY82 ?hxY82 ?hdY82 ?okY82 ?_); (case h1Y82 => exact rfl); (case h3Y82 => exact rfl); (case h2Y82 => exact Nat.le_of_ble_eq_true rfl); (case h5Y82 => exact Nat.le_of_ble_eq_true rfl); (case BY82 => k_asm); (case FY82 => k_asm); (case XY82 => k_asm); (case NY82 => k_asm); (case TY82 => k_asm); (case hkY82 => first | exact rfl | assumption); (case hxY82 => k_mem); (case hdY82 => k_mem); (case okY82 => with_reducible assumption)); (try dsimp only)))
  (k_with "x12 getMethod ref" => (k_here; (with_reducible show wpAny _ _ (getMethod (Value.ref _) (Str.ofString "pop") _) _ _ _); k_dflt (refine' Mine.at_room ?h1Y83 ?h2Y83 ?h3Y83 ?h5Y83 (Mine.st_m_pop ?BY83 ?FY83 ?XY83 ?NY83 ?TY83 ?hkY83 ?hxY83 ?hdY83 ?okY83 ?_); (case h1Y83 => exact rfl); (case h3Y83 => exact rfl); (case h2Y83 => exact Nat.le_of_ble_eq_true rfl); (case h5Y83 => exact Nat.le_of_ble_eq_true rfl); (case BY83 => k_asm); (case FY83 => k_asm); (case XY83 => k_asm); (case NY83 => k_asm); (case TY83 => k_asm); (case hkY83 => first | exact rfl | assumption); (case hxY83 => k_mem); (case hdY83 => k_mem); (case okY83 => with_reducible assumption)); (try dsimp only)))
  trivial
section
local macro_rules | `(tactic| walk_at $s:str) => do let t := Lean.Syntax.mkStrLit ("x12 " ++ s.getString); `(tactic| k_extra $t)

section
theorem Mine.reg_u11 : True := by
  (k_with "m call ref cons nil" => (k_here; (with_reducible show wpAny _ _ (call (Value.ref 137) _ _) _ _ _); k_dflt (refine' Mine.at_room ?h1Y105 ?h2Y105 ?h3Y105 ?h5Y105 (Mine.dc_nnO ?BY105 ?FY105 ?XY105 ?NY105 ?TY105 ?hkY105 ?m_xY105 ?m_dxY105 ?k_dxY105 ?m_gsY105 ?m_dgsY105 ?k_dgsY105 ?m_stY105 ?m_dstY105 ?k_dstY105 ?m_nlY105 ?m_cY105 ?hppY105 ?hcY105 ?o1Y105 ?o2Y105 ?o3Y105 ?o4Y105 ?o5Y105 ?o6Y105 ?o7Y105 ?p1Y105 ?p2Y105 ?p3Y105 ?p4Y105 ?p5Y105 ?p6Y105 ?hstY105 ?hmY105 ?UY105 ?U2Y105 ?_); (case h1Y105 => exact rfl); (case h3Y105 => exact rfl); (case h2Y105 => exact Nat.le_of_ble_eq_true rfl); (case h5Y105 => exact Nat.le_of_ble_eq_true rfl); (case BY105 => k_asm); (case FY105 => k_asm); (case XY105 => k_asm); (case NY105 => first | k_asm | exact News.nil); (case TY105 => k_asm); (case hkY105 => first | exact rfl | assumption); (case m_xY105 => k_mem); (case m_dxY105 => k_mem); (case k_dxY105 => first | with_reducible assumption | exact ⟨_, _, rfl⟩); (case m_gsY105 => k_mem); (case m_dgsY105 => k_mem); (case k_dgsY105 => first | with_reducible assumption | exact ⟨_, _, rfl⟩); (case m_stY105 => k_mem); (case m_dstY105 => k_mem); (case k_dstY105 => first | with_reducible assumption | exact ⟨_, _, rfl⟩); (case m_nlY105 => k_mem); (case m_cY105 => k_mem);  (case hppY105 => first | with_reducible assumption | omega); (case hcY105 => first | with_reducible assumption | omega); (case o1Y105 => first | with_reducible assumption | k_ne); (case o2Y105 => first | with_reducible assumption | k_ne); (case o3Y105 => first | with_reducible assumption | k_ne); (case o4Y105 => first | with_reducible assumption | k_ne); (case o5Y105 => first | with_reducible assumption | k_ne); (case o6Y105 => first | with_reducible assumption | k_ne); (case o7Y105 => first | with_reducible assumption | k_ne); (case p1Y105 => first | with_reducible assumption | k_ne); (case p2Y105 => first | with_reducible assumption | k_ne); (case p3Y105 => first | with_reducible assumption | k_ne); (case p4Y105 => first | with_reducible assumption | k_ne); (case p5Y105 => first | with_reducible assumption | k_ne); (case p6Y105 => first | with_reducible assumption | k_ne); (case hstY105 => with_reducible assumption); (case hmY105 => first | with_reducible assumption | omega); (case UY105 => (intro vs'Z n'Z; k_upd)); (case U2Y105 => (intro vs'Z n'Z t'Z nc'Z; k_upd))); intro vs'Z n'Z t'Z nc'Z h'Z tk'Z F'Z N'Z; (try dsimp only at N'Z); (try dsimp only); (try k_fold)))
  (k_with "m call ref cons nil" => (k_here; (with_reducible show wpAny _ _ (call (Value.ref 172) _ _) _ _ _); k_dflt (refine' Mine.at_room ?h1Y106 ?h2Y106 ?h3Y106 ?h5Y106 (Mine.dp_nnO ?BY106 ?FY106 ?XY106 ?NY106 ?TY106 ?hkY106 ?m_xY106 ?m_dxY106 ?k_dxY106 ?m_gsY106 ?m_dgsY106 ?k_dgsY106 ?m_stY106 ?m_dstY106 ?k_dstY106 ?m_f1Y106 ?k_f1Y106 ?m_f2Y106 ?k_f2Y106 ?m_nlY106 ?m_eY106 ?m_zY106 ?m_dzY106 ?k_dzY106 ?m_cuY106 ?m_p0Y106 ?k_p0Y106 ?m_toY106 ?m_t0Y106 ?hppY106 ?hbY106 ?on_xY106 ?on_dxY106 ?on_gsY106 ?on_dgsY106 ?on_stY106 ?on_dstY106 ?on_f1Y106 ?on_f2Y106 ?on_eY106 ?on_zY106 ?on_dzY106 ?on_cuY106 ?on_p0Y106 ?on_toY106 ?on_t0Y106 ?oc_xY106 ?oc_dxY106 ?oc_gsY106 ?oc_dgsY106 ?oc_stY106 ?oc_dstY106 ?oc_f1Y106 ?oc_f2Y106 ?oc_eY106 ?oc_zY106 ?oc_dzY106 ?oc_p0Y106 ?oc_toY106 ?oc_t0Y106 ?ot_xY106 ?ot_dxY106 ?ot_gsY106 ?ot_dgsY106 ?ot_stY106 ?ot_dstY106 ?ot_f1Y106 ?ot_f2Y106 ?ot_eY106 ?ot_zY106 ?ot_dzY106 ?ot_p0Y106 ?ot_toY106 ?hstY106 ?hmY106 ?UY106 ?U2Y106 ?U3Y106 ?_); (case h1Y106 => exact rfl); (case h3Y106 => exact rfl); (case h2Y106 => exact Nat.le_of_ble_eq_true rfl); (case h5Y106 => exact Nat.le_of_ble_eq_true rfl); (case BY106 => k_asm); (case FY106 => k_asm); (case XY106 => k_asm); (case NY106 => first | k_asm | exact News.nil); (case TY106 => k_asm); (case hkY106 => first | exact rfl | assumption); (case m_xY106 => k_mem); (case m_dxY106 => k_mem); (case k_dxY106 => first | with_reducible assumption | exact ⟨_, _, rfl⟩); (case m_gsY106 => k_mem); (case m_dgsY106 => k_mem); (case k_dgsY106 => first | with_reducible assumption | exact ⟨_, _, rfl⟩); (case m_stY106 => k_mem); (case m_dstY106 => k_mem); (case k_dstY106 => first | with_reducible assumption | exact ⟨_, _, rfl⟩); (case m_f1Y106 => k_mem); (case k_f1Y106 => first | with_reducible assumption | exact ⟨_, _, rfl⟩); (case m_f2Y106 => k_mem); (case k_f2Y106 => first | with_reducible assumption | exact ⟨_, _, rfl⟩); (case m_nlY106 => k_mem); (case m_eY106 => k_mem); (case m_zY106 => k_mem); (case m_dzY106 => k_mem); (case k_dzY106 => first | with_reducible assumption | exact ⟨_, _, rfl⟩); (case m_cuY106 => k_mem); (case m_p0Y106 => k_mem); (case k_p0Y106 => first | with_reducible assumption | exact ⟨_, _, rfl⟩); (case m_toY106 => k_mem); (case m_t0Y106 => k_mem);  (case hppY106 => first | with_reducible assumption | omega); (case hbY106 => with_reducible assumption); (case on_xY106 => first | with_reducible assumption | k_ne); (case on_dxY106 => first | with_reducible assumption | k_ne); (case on_gsY106 => first | with_reducible assumption | k_ne); (case on_dgsY106 => first | with_reducible assumption | k_ne); (case on_stY106 => first | with_reducible assumption | k_ne); (case on_dstY106 => first | with_reducible assumption | k_ne); (case on_f1Y106 => first | with_reducible assumption | k_ne); (case on_f2Y106 => first | with_reducible assumption | k_ne); (case on_eY106 => first | with_reducible assumption | k_ne); (case on_zY106 => first | with_reducible assumption | k_ne); (case on_dzY106 => first | with_reducible assumption | k_ne); (case on_cuY106 => first | with_reducible assumption | k_ne); (case on_p0Y106 => first | with_reducible assumption | k_ne); (case on_toY106 => first | with_reducible assumption | k_ne); (case on_t0Y106 => first | with_reducible assumption | k_ne); (case oc_xY106 => first | with_reducible assumption | k_ne); (case oc_dxY106 => first | with_reducible assumption | k_ne); (case oc_gsY106 => first | with_reducible assumption | k_ne); (case oc_dgsY106 => first | with_reducible assumption | k_ne); (case oc_stY106 => first | with_reducible assumption | k_ne); (case oc_dstY106 => first | with_reducible assumption | k_ne); (case oc_f1Y106 => first | with_reducible assumption | k_ne); (case oc_f2Y106 => first | with_reducible assumption | k_ne); (case oc_eY106 => first | with_reducible assumption | k_ne); (case oc_zY106 => first | with_reducible assumption | k_ne); (case oc_dzY106 => first | with_reducible assumption | k_ne); (case oc_p0Y106 => first | with_reducible assumption | k_ne); (case oc_toY106 => first | with_reducible assumption | k_ne); (case oc_t0Y106 => first | with_reducible assumption | k_ne); (case ot_xY106 => first | with_reducible assumption | k_ne); (case ot_dxY106 => first | with_reducible assumption | k_ne); (case ot_gsY106 => first | with_reducible assumption | k_ne); (case ot_dgsY106 => first | with_reducible assumption | k_ne); (case ot_stY106 => first | with_reducible assumption | k_ne); (case ot_dstY106 => first | with_reducible assumption | k_ne); (case ot_f1Y106 => first | with_reducible assumption | k_ne); (case ot_f2Y106 => first | with_reducible assumption | k_ne); (case ot_eY106 => first | with_reducible assumption | k_ne); (case ot_zY106 => first | with_reducible assumption | k_ne); (case ot_dzY106 => first | with_reducible assumption | k_ne); (case ot_p0Y106 => first | with_reducible assumption | k_ne); (case ot_toY106 => first | with_reducible assumption | k_ne); (case hstY106 => with_reducible assumption); (case hmY106 => first | with_reducible assumption | omega); (case UY106 => (intro vs'Z n'Z; k_upd)); (case U2Y106 => (intro vs'Z n'Z q'Z nc'Z; k_upd)); (case U3Y106 => (intro vs'Z n'Z q'Z nc'Z vt'Z nt'Z; k_upd))); intro vs'Z n'Z q'Z nc'Z vt'Z nt'Z t1'Z t2'Z h'Z tk'Z F'Z N'Z; (try dsimp only at N'Z); (try dsimp only); (try k_fold)))
  (k_with "m call ref cons nil" => (k_here; (with_reducible show wpAny _ _ (call (Value.ref 137) _ _) _ _ _); k_dflt (refine' Mine.at_room ?h1Y107 ?h2Y107 ?h3Y107 ?h5Y107 (Mine.dc_negO ?BY107 ?FY107 ?XY107 ?NY107 ?TY107 ?hkY107 ?m_xY107 ?m_dxY107 ?k_dxY107 ?m_gsY107 ?m_dgsY107 ?k_dgsY107 ?m_stY107 ?m_dstY107 ?k_dstY107 ?m_nlY107 ?m_cY107 ?hppY107 ?hcY107 ?o1Y107 ?o2Y107 ?o3Y107 ?o4Y107 ?o5Y107 ?o6Y107 ?o7Y107 ?p1Y107 ?p2Y107 ?p3Y107 ?p4Y107 ?p5Y107 ?p6Y107 ?hmY107 ?UY107 ?_); (case h1Y107 => exact rfl); (case h3Y107 => exact rfl); (case h2Y107 => exact Nat.le_of_ble_eq_true rfl); (case h5Y107 => exact Nat.le_of_ble_eq_true rfl); (case BY107 => k_asm); (case FY107 => k_asm); (case XY107 => k_asm); (case NY107 => first | k_asm | exact News.nil); (case TY107 => k_asm); (case hkY107 => first | exact rfl | assumption); (case m_xY107 => k_mem); (case m_dxY107 => k_mem); (case k_dxY107 => first | with_reducible assumption | exact ⟨_, _, rfl⟩); (case m_gsY107 => k_mem); (case m_dgsY107 => k_mem); (case k_dgsY107 => first | with_reducible assumption | exact ⟨_, _, rfl⟩); (case m_stY107 => k_mem); (case m_dstY107 => k_mem); (case k_dstY107 => first | with_reducible assumption | exact ⟨_, _, rfl⟩); (case m_nlY107 => k_mem); (case m_cY107 => k_mem);  (case hppY107 => first | with_reducible assumption | omega); (case hcY107 => first | with_reducible assumption | omega); (case o1Y107 => first | with_reducible assumption | k_ne); (case o2Y107 => first | with_reducible assumption | k_ne); (case o3Y107 => first | with_reducible assumption | k_ne); (case o4Y107 => first | with_reducible assumption | k_ne); (case o5Y107 => first | with_reducible assumption | k_ne); (case o6Y107 => first | with_reducible assumption | k_ne); (case o7Y107 => first | with_reducible assumption | k_ne); (case p1Y107 => first | with_reducible assumption | k_ne); (case p2Y107 => first | with_reducible assumption | k_ne); (case p3Y107 => first | with_reducible assumption | k_ne); (case p4Y107 => first | with_reducible assumption | k_ne); (case p5Y107 => first | with_reducible assumption | k_ne); (case p6Y107 => first | with_reducible assumption | k_ne); (case hmY107 => first | with_reducible assumption | omega); (case UY107 => (intro n'Z; k_upd))); intro n'Z g'Z e'Z t'Z vs'Z h'Z tk'Z F'Z S'Z U'Z; (try dsimp only at S'Z); (try dsimp only); (try k_fold)))
  (k_with "m call ref cons nil" => (k_here; (with_reducible show wpAny _ _ (call (Value.ref 172) _ _) _ _ _); k_dflt (refine' Mine.at_room ?h1Y108 ?h2Y108 ?h3Y108 ?h5Y108 (Mine.dp_negO ?BY108 ?FY108 ?XY108 ?NY108 ?TY108 ?hkY108 ?m_xY108 ?m_dxY108 ?k_dxY108 ?m_gsY108 ?m_dgsY108 ?k_dgsY108 ?m_stY108 ?m_dstY108 ?k_dstY108 ?m_f1Y108 ?k_f1Y108 ?m_f2Y108 ?k_f2Y108 ?m_nlY108 ?m_eY108 ?m_zY108 ?m_dzY108 ?k_dzY108 ?m_cuY108 ?m_p0Y108 ?k_p0Y108 ?m_toY108 ?m_t0Y108 ?hppY108 ?hbY108 ?on_xY108 ?on_dxY108 ?on_gsY108 ?on_dgsY108 ?on_stY108 ?on_dstY108 ?on_f1Y108 ?on_f2Y108 ?on_eY108 ?on_zY108 ?on_dzY108 ?on_cuY108 ?on_p0Y108 ?on_toY108 ?on_t0Y108 ?oc_xY108 ?oc_dxY108 ?oc_gsY108 ?oc_dgsY108 ?oc_stY108 ?oc_dstY108 ?oc_f1Y108 ?oc_f2Y108 ?oc_eY108 ?oc_zY108 ?oc_dzY108 ?oc_p0Y108 ?oc_toY108 ?oc_t0Y108 ?ot_xY108 ?ot_dxY108 ?ot_gsY108 ?ot_dgsY108 ?ot_stY108 ?ot_dstY108 ?ot_f1Y108 ?ot_f2Y108 ?ot_eY108 ?ot_zY108 ?ot_dzY108 ?ot_p0Y108 ?ot_toY108 ?UY108 ?hmY108 ?_); (case h1Y108 => exact rfl); (case h3Y108 => exact rfl); (case h2Y108 => exact Nat.le_of_ble_eq_true rfl); (case h5Y108 => exact Nat.le_of_ble_eq_true rfl); (case BY108 => k_asm); (case FY108 => k_asm); (case XY108 => k_asm); (case NY108 => first | k_asm | exact News.nil); (case TY108 => k_asm); (case hkY108 => first | exact rfl | assumption); (case m_xY108 => k_mem); (case m_dxY108 => k_mem); (case k_dxY108 => first | with_reducible assumption | exact ⟨_, _, rfl⟩); (case m_gsY108 => k_mem); (case m_dgsY108 => k_mem); (case k_dgsY108 => first | with_reducible assumption | exact ⟨_, _, rfl⟩); (case m_stY108 => k_mem); (case m_dstY108 => k_mem); (case k_dstY108 => first | with_reducible assumption | exact ⟨_, _, rfl⟩); (case m_f1Y108 => k_mem); (case k_f1Y108 => first | with_reducible assumption | exact ⟨_, _, rfl⟩); (case m_f2Y108 => k_mem); (case k_f2Y108 => first | with_reducible assumption | exact ⟨_, _, rfl⟩); (case m_nlY108 => k_mem); (case m_eY108 => k_mem); (case m_zY108 => k_mem); (case m_dzY108 => k_mem); (case k_dzY108 => first | with_reducible assumption | exact ⟨_, _, rfl⟩); (case m_cuY108 => k_mem); (case m_p0Y108 => k_mem); (case k_p0Y108 => first | with_reducible assumption | exact ⟨_, _, rfl⟩); (case m_toY108 => k_mem); (case m_t0Y108 => k_mem);  (case hppY108 => first | with_reducible assumption | omega); (case hbY108 => with_reducible assumption); (case on_xY108 => first | with_reducible assumption | k_ne); (case on_dxY108 => first | with_reducible assumption | k_ne); (case on_gsY108 => first | with_reducible assumption | k_ne); (case on_dgsY108 => first | with_reducible assumption | k_ne); (case on_stY108 => first | with_reducible assumption | k_ne); (case on_dstY108 => first | with_reducible assumption | k_ne); (case on_f1Y108 => first | with_reducible assumption | k_ne); (case on_f2Y108 => first | with_reducible assumption | k_ne); (case on_eY108 => first | with_reducible assumption | k_ne); (case on_zY108 => first | with_reducible assumption | k_ne); (case on_dzY108 => first | with_reducible assumption | k_ne); (case on_cuY108 => first | with_reducible assumption | k_ne); (case on_p0Y108 => first | with_reducible assumption | k_ne); (case on_toY108 => first | with_reducible assumption | k_ne); (case on_t0Y108 => first | with_reducible assumption | k_ne); (case oc_xY108 => first | with_reducible assumption | k_ne); (case oc_dxY108 => first | with_reducible assumption | k_ne); (case oc_gsY108 => first | with_reducible assumption | k_ne); (case oc_dgsY108 => first | with_reducible assumption | k_ne); (case oc_stY108 => first | with_reducible assumption | k_ne); (case oc_dstY108 => first | with_reducible assumption | k_ne); (case oc_f1Y108 => first | with_reducible assumption | k_ne); (case oc_f2Y108 => first | with_reducible assumption | k_ne); (case oc_eY108 => first | with_reducible assumption | k_ne); (case oc_zY108 => first | with_reducible assumption | k_ne); (case oc_dzY108 => first | with_reducible assumption | k_ne); (case oc_p0Y108 => first | with_reducible assumption | k_ne); (case oc_toY108 => first | with_reducible assumption | k_ne); (case oc_t0Y108 => first | with_reducible assumption | k_ne); (case ot_xY108 => first | with_reducible assumption | k_ne); (case ot_dxY108 => first | with_reducible assumption | k_ne); (case ot_gsY108 => first | with_reducible assumption | k_ne); (case ot_dgsY108 => first | with_reducible assumption | k_ne); (case ot_stY108 => first | with_reducible assumption | k_ne); (case ot_dstY108 => first | with_reducible assumption | k_ne); (case ot_f1Y108 => first | with_reducible assumption | k_ne); (case ot_f2Y108 => first | with_reducible assumption | k_ne); (case ot_eY108 => first | with_reducible assumption | k_ne); (case ot_zY108 => first | with_reducible assumption | k_ne); (case ot_dzY108 => first | with_reducible assumption | k_ne); (case ot_p0Y108 => first | with_reducible assumption | k_ne); (case ot_toY108 => first | with_reducible assumption | k_ne); (case hmY108 => first | with_reducible assumption | omega); (case UY108 => (intro n'Z; k_upd))); intro n'Z g'Z e'Z t'Z vs'Z h'Z tk'Z F'Z S'Z U'Z; (try dsimp only at S'Z); (try dsimp only); (try k_fold)))
  trivial
open PySem PySem.W PyProof.Rows
set_option maxHeartbeats 8000000
namespace Mine
section
variable {w : World} {p : Program} {loose : List Str} {mean : ExcName → Option Value} {mg mb : Str → Option Value}
    {gd : Option (List Code)} {cn : Str} {cs : Scope} {a : Addr} {ccd : Value} {cl : List (Str × Addr)} {outer : List Env} {A₀ : Around} {base h₀ : Heap} {L : Addr} {m : Str → Option Value} {news : List (Addr × Obj)} {s : Shared} {Q E : Value → Shared → Prop}
    (B : Below A₀ base outer h₀) (F : Fr h₀ L s.heap m) (X : (Mine.hd.heap_1 w.params).In h₀) (N : News h₀ L s.heap news) (T : Top p loose mean mg mb h₀) (hk : cs.kind = .function)
include B F X N T hk
theorem cs_c_nn {x dx gs dgs st dst nl f1 f2 rd e c zz dz zo org cu to en ocv p0 p1 t0 t1 z : Addr} {tc tm z0 z1 b0 b1 b2 b3 ncu nto nt n ne nc : Nat} {pp code b many : Int} {vs : Array Value} {ow ok od oP oz : Obj} {vk : Option Value} {nm : Str} {pr : Arguments} {s1 s2 s3 s4 s5 : Stmt} {rest : List Stmt} {dV kV doc pm ct oc1 : Value} {an od1 : Option Addr} {osl : Array (Option Value)} {QF : Flow → Shared → Prop} {o_dx o_dgs o_dst o_dz o_f1 o_f2 : Obj}
    (h_x : (x, instObj 331 dx) ∈ news) (h_dx : (dx, o_dx) ∈ news) (k_dx : WkOk w o_dx gs st e c pp) (h_gs : (gs, instObj 217 dgs) ∈ news) (h_dgs : (dgs, o_dgs) ∈ news) (k_dgs : GsOk w o_dgs f1 f2 rd) (h_st : (st, instObj 280 dst) ∈ news) (h_dst : (dst, o_dst) ∈ news) (k_dst : StOk w o_dst nl) (h_nl : (nl, listOf vs n) ∈ news) (h_c : (c, listOf #[.int 0 z0, .int 5 z1] nc) ∈ news) (h_e : (e, listOf #[.ref zo, .ref zz] ne) ∈ news) (h_zz : (zz, instObj 387 dz) ∈ news) (h_dz : (dz, o_dz) ∈ news) (k_dz : ZnOk w o_dz org cu to en ocv) (h_cu : (cu, listOf #[.ref p0, .ref p1] ncu) ∈ news) (h_p0 : (p0, ({ cls := .type "tuple", data := .seq #[.int 0 b0, .int 0 b1] } : Obj)) ∈ news) (h_p1 : (p1, ({ cls := .type "tuple", data := .seq #[.int 5 b2, .int 5 b3] } : Obj)) ∈ news) (h_lw : (L + 1 + 1 + 1, ow) ∈ news) (h_lc : (L + 1 + 1, ok) ∈ news) (h_ld : (L + 1, od) ∈ news) (h_P : (435, oP) ∈ news) (h_z : (z, oz) ∈ news)
    (hl : (Mine.hd.heap_1 w.params).lookup 440 = some ⟨oc1, od1, .func (fnOf nm cn pr (s1 :: s2 :: s3 :: s4 :: s5 :: rest) cs dV kV doc pm an ccd ct), osl⟩) (ha : a = 440) (hcl : cl = cellsFrom (L + 1) cs.names [])
    (XB : (Mine.hd.heap_1 w.params).In base) (TB : Top p loose mean mg mb base) (C : CodeHd base 439 435) (D : KtsDicts (outer.filterMap (·.frame)) h₀) (st9 : LSt LQ LP oP z oz)
    (hmany : m (Str.ofString "many") = some (.int many tm)) (dw : ow.data = .cell (some (.ref x))) (dk : ok.data = .cell vk) (dd : od.data = .cell (some (.int code tc)))
    (hpp : pp = 9 + b) (hb : CBc code b) (hst : StkOk many vs) (hm : 0 ≤ many ∧ many ≤ 2) (n_x_nl : HN x nl) (n_dx_nl : HN dx nl) (n_gs_nl : HN gs nl) (n_dgs_nl : HN dgs nl) (n_st_nl : HN st nl) (n_dst_nl : HN dst nl) (n_c_nl : HN c nl) (n_e_nl : HN e nl) (n_zz_nl : HN zz nl) (n_dz_nl : HN dz nl) (n_cu_nl : HN cu nl) (n_p0_nl : HN p0 nl) (n_p1_nl : HN p1 nl) (n_lw_nl : HN (L + 1 + 1 + 1) nl) (n_lc_nl : HN (L + 1 + 1) nl) (n_ld_nl : HN (L + 1) nl) (n_P_nl : HN 435 nl) (n_x_c : HN x c) (n_dx_c : HN dx c) (n_gs_c : HN gs c) (n_dgs_c : HN dgs c) (n_st_c : HN st c) (n_dst_c : HN dst c) (n_e_c : HN e c) (n_zz_c : HN zz c) (n_dz_c : HN dz c) (n_cu_c : HN cu c) (n_p0_c : HN p0 c) (n_p1_c : HN p1 c) (n_lw_c : HN (L + 1 + 1 + 1) c) (n_lc_c : HN (L + 1 + 1) c) (n_ld_c : HN (L + 1) c) (n_P_c : HN 435 c) (n_x_P : HN x 435) (n_dx_P : HN dx 435) (n_gs_P : HN gs 435) (n_dgs_P : HN dgs 435) (n_st_P : HN st 435) (n_dst_P : HN dst 435) (n_e_P : HN e 435) (n_zz_P : HN zz 435) (n_dz_P : HN dz 435) (n_cu_P : HN cu 435) (n_p0_P : HN p0 435) (n_p1_P : HN p1 435) (n_lw_P : HN (L + 1 + 1 + 1) 435) (n_lc_P : HN (L + 1 + 1) 435) (n_ld_P : HN (L + 1) 435) (nz_x : HN x z) (nz_dx : HN dx z) (nz_gs : HN gs z) (nz_dgs : HN dgs z) (nz_st : HN st z) (nz_dst : HN dst z) (nz_nl : HN nl z) (nz_c : HN c z) (nz_e : HN e z) (nz_zz : HN zz z) (nz_dz : HN dz z) (nz_cu : HN cu z) (nz_p0 : HN p0 z) (nz_p1 : HN p1 z) (nz_lw : HN (L + 1 + 1 + 1) z) (nz_lc : HN (L + 1 + 1) z) (nz_ld : HN (L + 1) z) (nz_P : HN 435 z) (nk_x : HN x (L + 1 + 1)) (nk_dx : HN dx (L + 1 + 1)) (nk_gs : HN gs (L + 1 + 1)) (nk_dgs : HN dgs (L + 1 + 1)) (nk_st : HN st (L + 1 + 1)) (nk_dst : HN dst (L + 1 + 1)) (nk_e : HN e (L + 1 + 1)) (nk_zz : HN zz (L + 1 + 1)) (nk_dz : HN dz (L + 1 + 1)) (nk_cu : HN cu (L + 1 + 1)) (nk_p0 : HN p0 (L + 1 + 1)) (nk_p1 : HN p1 (L + 1 + 1)) (nk_lw : HN (L + 1 + 1 + 1) (L + 1 + 1)) (nk_ld : HN (L + 1) (L + 1 + 1)) (nk_z : HN z (L + 1 + 1))
    (hret : ∀ g'' c' oc vs t m' h' tk', KtsTurn (outer.filterMap (·.frame)) h₀ g'' → Fr g'' L h' m' → News g'' L h' [(435, tabObj #[rawInt LP.line, rawInt LP.col, .ref c']), (c', oc), (z, oz)] → HN 435 c' → ((oP = tabObj #[] → HN z c') ∧ (oP ≠ tabObj #[] → c' = z ∧ oc = oz)) → oc.data = .fields vs → vs[1]? = some (.str LQ t) → QF (.ret (.bool true)) { s with heap := h', toks := tk' }) :
    wpAny (model PG w) (ktrTop 640 5600 gd cn cs L a ccd cl outer) (execs rest (envX cn cs L a ccd cl)) QF E s := by
  have hX : Mine.hd.heap_1 = Mine.hd.heap_1 ∧ PySem.Challenge.rw_qz0063_01 = PySem.Challenge.rw_qz0063_01 := by
    k_fill
    exact ⟨rfl, rfl⟩
  clear hX
  have hco : 115 ≤ code ∧ code ≤ 117 ∧ b = 16 * (code - 115) := by
    rcases hb with ⟨rfl, rfl⟩ | ⟨rfl, rfl⟩ | ⟨rfl, rfl⟩ <;> decide
  let q_x : Obj := instObj 331 dx
  let q_gs : Obj := instObj 217 dgs
  let q_st : Obj := instObj 280 dst
  let q_nl : Obj := listOf vs n
  let q_c : Obj := listOf #[.int 0 z0, .int 5 z1] nc
  let q_e : Obj := listOf #[.ref zo, .ref zz] ne
  let q_zz : Obj := instObj 387 dz
  let q_cu : Obj := listOf #[.ref p0, .ref p1] ncu
  let q_p0 : Obj := ({ cls := .type "tuple", data := .seq #[.int 0 b0, .int 0 b1] } : Obj)
  let q_p1 : Obj := ({ cls := .type "tuple", data := .seq #[.int 5 b2, .int 5 b3] } : Obj)
  have N2 : News h₀ L s.heap [(z, oz), (x, q_x), (dx, o_dx), (gs, q_gs), (dgs, o_dgs), (st, q_st), (dst, o_dst), (nl, q_nl), (c, q_c), (e, q_e), (zz, q_zz), (dz, o_dz), (cu, q_cu), (p0, q_p0), (p1, q_p1), (L + 1 + 1 + 1, ow), (L + 1 + 1, ok), (L + 1, od), (435, oP)] := by
    refine cb_drop N ?_
    repeat' (first | exact List.forall_mem_nil _ | (refine Mine.fa_cons ?_ ?_) | assumption)
  have F2 := fr_at F hmany
  clear F N hmany h_z h_x h_dx h_gs h_dgs h_st h_dst h_nl h_c h_e h_zz h_dz h_cu h_p0 h_p1 h_lw h_lc h_ld h_P
  obtain ⟨e1, e2, e3, e4⟩ := fn_inj (hl.symm.trans (by k_is))
  subst ha
  subst hcl
  subst e1
  subst e2
  subst e3
  subst e4
  clear hl
  (refine Mine.wp_top ?_; intro ev Aw)
  k_steps
  · exfalso
    rename ((_ != decide _) = true) => hA
    rw [decide_eq_false (show ¬ many < 0 by omega)] at hA
    exact absurd hA (by decide)
  · apply hret
    rotate_left 1
    · first | with_reducible assumption | k_ne
    · refine' cb_drop ?qN1 ?qN2
      case qN1 => with_reducible assumption
      case qN2 => repeat' (first | exact List.forall_mem_nil _ | (refine Mine.fa_cons ?_ ?_) | (k_mem; done))
    · first | with_reducible assumption | k_ne
    · first | with_reducible assumption | k_ne
    · first | with_reducible assumption | k_ne
    · first | with_reducible assumption | k_ne | assumption
    · first | with_reducible assumption | exact KtsTurn.refl
end
end Mine
end

section
open PySem PySem.W PyProof.Rows
set_option maxHeartbeats 8000000
namespace Mine
section
variable {w : World} {p : Program} {loose : List Str} {mean : ExcName → Option Value} {mg mb : Str → Option Value}
    {gd : Option (List Code)} {cn : Str} {cs : Scope} {a : Addr} {ccd : Value} {cl : List (Str × Addr)} {outer : List Env} {A₀ : Around} {base h₀ : Heap} {L : Addr} {m : Str → Option Value} {news : List (Addr × Obj)} {s : Shared} {Q E : Value → Shared → Prop}
    (B : Below A₀ base outer h₀) (F : Fr h₀ L s.heap m) (X : (Mine.hd.heap_1 w.params).In h₀) (N : News h₀ L s.heap news) (T : Top p loose mean mg mb h₀) (hk : cs.kind = .function)
include B F X N T hk
theorem cs_p_nn {x dx gs dgs st dst nl f1 f2 rd e c zz dz zo org cu to en ocv p0 p1 t0 t1 z : Addr} {tc tm z0 z1 b0 b1 b2 b3 ncu nto nt n ne nc : Nat} {pp code b many : Int} {vs : Array Value} {ow ok od oP oz : Obj} {vk : Option Value} {nm : Str} {pr : Arguments} {s1 s2 s3 s4 s5 : Stmt} {rest : List Stmt} {dV kV doc pm ct oc1 : Value} {an od1 : Option Addr} {osl : Array (Option Value)} {QF : Flow → Shared → Prop} {o_dx o_dgs o_dst o_dz o_f1 o_f2 : Obj}
    (h_x : (x, instObj 331 dx) ∈ news) (h_dx : (dx, o_dx) ∈ news) (k_dx : WkOk w o_dx gs st e c pp) (h_gs : (gs, instObj 217 dgs) ∈ news) (h_dgs : (dgs, o_dgs) ∈ news) (k_dgs : GsOk w o_dgs f1 f2 rd) (h_st : (st, instObj 280 dst) ∈ news) (h_dst : (dst, o_dst) ∈ news) (k_dst : StOk w o_dst nl) (h_nl : (nl, listOf vs n) ∈ news) (h_f1 : (f1, o_f1) ∈ news) (k_f1 : Pr o_f1 16384 0) (h_f2 : (f2, o_f2) ∈ news) (k_f2 : Pr o_f2 16384 0) (h_c : (c, listOf #[.int 0 z0, .int 5 z1] nc) ∈ news) (h_e : (e, listOf #[.ref zo, .ref zz] ne) ∈ news) (h_zz : (zz, instObj 387 dz) ∈ news) (h_dz : (dz, o_dz) ∈ news) (k_dz : ZnOk w o_dz org cu to en ocv) (h_cu : (cu, listOf #[.ref p0, .ref p1] ncu) ∈ news) (h_p0 : (p0, ({ cls := .type "tuple", data := .seq #[.int 0 b0, .int 0 b1] } : Obj)) ∈ news) (h_p1 : (p1, ({ cls := .type "tuple", data := .seq #[.int 5 b2, .int 5 b3] } : Obj)) ∈ news) (h_to : (to, listOf #[.ref t0, .ref t1] nto) ∈ news) (h_t0 : (t0, listOf #[.bool false, .bool false] nt) ∈ news) (h_lw : (L + 1 + 1 + 1, ow) ∈ news) (h_lc : (L + 1 + 1, ok) ∈ news) (h_ld : (L + 1, od) ∈ news) (h_P : (435, oP) ∈ news) (h_z : (z, oz) ∈ news)
    (hl : (Mine.hd.heap_1 w.params).lookup 440 = some ⟨oc1, od1, .func (fnOf nm cn pr (s1 :: s2 :: s3 :: s4 :: s5 :: rest) cs dV kV doc pm an ccd ct), osl⟩) (ha : a = 440) (hcl : cl = cellsFrom (L + 1) cs.names [])
    (XB : (Mine.hd.heap_1 w.params).In base) (TB : Top p loose mean mg mb base) (C : CodeHd base 439 435) (D : KtsDicts (outer.filterMap (·.frame)) h₀) (st9 : LSt LQ LP oP z oz)
    (hmany : m (Str.ofString "many") = some (.int many tm)) (dw : ow.data = .cell (some (.ref x))) (dk : ok.data = .cell vk) (dd : od.data = .cell (some (.int code tc)))
    (hpp : pp = 9 + b) (hb : CBp code b) (hst : StkOk many vs) (hm : 0 ≤ many ∧ many ≤ 2) (n_x_nl : HN x nl) (n_dx_nl : HN dx nl) (n_gs_nl : HN gs nl) (n_dgs_nl : HN dgs nl) (n_st_nl : HN st nl) (n_dst_nl : HN dst nl) (n_f1_nl : HN f1 nl) (n_f2_nl : HN f2 nl) (n_c_nl : HN c nl) (n_e_nl : HN e nl) (n_zz_nl : HN zz nl) (n_dz_nl : HN dz nl) (n_cu_nl : HN cu nl) (n_p0_nl : HN p0 nl) (n_p1_nl : HN p1 nl) (n_to_nl : HN to nl) (n_t0_nl : HN t0 nl) (n_lw_nl : HN (L + 1 + 1 + 1) nl) (n_lc_nl : HN (L + 1 + 1) nl) (n_ld_nl : HN (L + 1) nl) (n_P_nl : HN 435 nl) (n_x_cu : HN x cu) (n_dx_cu : HN dx cu) (n_gs_cu : HN gs cu) (n_dgs_cu : HN dgs cu) (n_st_cu : HN st cu) (n_dst_cu : HN dst cu) (n_f1_cu : HN f1 cu) (n_f2_cu : HN f2 cu) (n_c_cu : HN c cu) (n_e_cu : HN e cu) (n_zz_cu : HN zz cu) (n_dz_cu : HN dz cu) (n_p0_cu : HN p0 cu) (n_p1_cu : HN p1 cu) (n_to_cu : HN to cu) (n_t0_cu : HN t0 cu) (n_lw_cu : HN (L + 1 + 1 + 1) cu) (n_lc_cu : HN (L + 1 + 1) cu) (n_ld_cu : HN (L + 1) cu) (n_P_cu : HN 435 cu) (n_x_t0 : HN x t0) (n_dx_t0 : HN dx t0) (n_gs_t0 : HN gs t0) (n_dgs_t0 : HN dgs t0) (n_st_t0 : HN st t0) (n_dst_t0 : HN dst t0) (n_f1_t0 : HN f1 t0) (n_f2_t0 : HN f2 t0) (n_c_t0 : HN c t0) (n_e_t0 : HN e t0) (n_zz_t0 : HN zz t0) (n_dz_t0 : HN dz t0) (n_p0_t0 : HN p0 t0) (n_p1_t0 : HN p1 t0) (n_to_t0 : HN to t0) (n_lw_t0 : HN (L + 1 + 1 + 1) t0) (n_lc_t0 : HN (L + 1 + 1) t0) (n_ld_t0 : HN (L + 1) t0) (n_P_t0 : HN 435 t0) (n_x_P : HN x 435) (n_dx_P : HN dx 435) (n_gs_P : HN gs 435) (n_dgs_P : HN dgs 435) (n_st_P : HN st 435) (n_dst_P : HN dst 435) (n_f1_P : HN f1 435) (n_f2_P : HN f2 435) (n_c_P : HN c 435) (n_e_P : HN e 435) (n_zz_P : HN zz 435) (n_dz_P : HN dz 435) (n_p0_P : HN p0 435) (n_p1_P : HN p1 435) (n_to_P : HN to 435) (n_lw_P : HN (L + 1 + 1 + 1) 435) (n_lc_P : HN (L + 1 + 1) 435) (n_ld_P : HN (L + 1) 435) (nz_x : HN x z) (nz_dx : HN dx z) (nz_gs : HN gs z) (nz_dgs : HN dgs z) (nz_st : HN st z) (nz_dst : HN dst z) (nz_nl : HN nl z) (nz_f1 : HN f1 z) (nz_f2 : HN f2 z) (nz_c : HN c z) (nz_e : HN e z) (nz_zz : HN zz z) (nz_dz : HN dz z) (nz_cu : HN cu z) (nz_p0 : HN p0 z) (nz_p1 : HN p1 z) (nz_to : HN to z) (nz_t0 : HN t0 z) (nz_lw : HN (L + 1 + 1 + 1) z) (nz_lc : HN (L + 1 + 1) z) (nz_ld : HN (L + 1) z) (nz_P : HN 435 z) (nk_x : HN x (L + 1 + 1)) (nk_dx : HN dx (L + 1 + 1)) (nk_gs : HN gs (L + 1 + 1)) (nk_dgs : HN dgs (L + 1 + 1)) (nk_st : HN st (L + 1 + 1)) (nk_dst : HN dst (L + 1 + 1)) (nk_f1 : HN f1 (L + 1 + 1)) (nk_f2 : HN f2 (L + 1 + 1)) (nk_c : HN c (L + 1 + 1)) (nk_e : HN e (L + 1 + 1)) (nk_zz : HN zz (L + 1 + 1)) (nk_dz : HN dz (L + 1 + 1)) (nk_p0 : HN p0 (L + 1 + 1)) (nk_p1 : HN p1 (L + 1 + 1)) (nk_to : HN to (L + 1 + 1)) (nk_lw : HN (L + 1 + 1 + 1) (L + 1 + 1)) (nk_ld : HN (L + 1) (L + 1 + 1)) (nk_z : HN z (L + 1 + 1))
    (hret : ∀ g'' c' oc vs t m' h' tk', KtsTurn (outer.filterMap (·.frame)) h₀ g'' → Fr g'' L h' m' → News g'' L h' [(435, tabObj #[rawInt LP.line, rawInt LP.col, .ref c']), (c', oc), (z, oz)] → HN 435 c' → ((oP = tabObj #[] → HN z c') ∧ (oP ≠ tabObj #[] → c' = z ∧ oc = oz)) → oc.data = .fields vs → vs[1]? = some (.str LQ t) → QF (.ret (.bool true)) { s with heap := h', toks := tk' }) :
    wpAny (model PG w) (ktrTop 640 5600 gd cn cs L a ccd cl outer) (execs rest (envX cn cs L a ccd cl)) QF E s := by
  have hX : Mine.hd.heap_1 = Mine.hd.heap_1 ∧ PySem.Challenge.rw_qz0063_01 = PySem.Challenge.rw_qz0063_01 := by
    k_fill
    exact ⟨rfl, rfl⟩
  clear hX
  have hco : 93 ≤ code ∧ code ≤ 114 := by
    rcases hb with ⟨rfl, rfl⟩ | ⟨rfl, rfl⟩ | ⟨rfl, rfl⟩ <;> decide
  let q_x : Obj := instObj 331 dx
  let q_gs : Obj := instObj 217 dgs
  let q_st : Obj := instObj 280 dst
  let q_nl : Obj := listOf vs n
  let q_c : Obj := listOf #[.int 0 z0, .int 5 z1] nc
  let q_e : Obj := listOf #[.ref zo, .ref zz] ne
  let q_zz : Obj := instObj 387 dz
  let q_cu : Obj := listOf #[.ref p0, .ref p1] ncu
  let q_p0 : Obj := ({ cls := .type "tuple", data := .seq #[.int 0 b0, .int 0 b1] } : Obj)
  let q_p1 : Obj := ({ cls := .type "tuple", data := .seq #[.int 5 b2, .int 5 b3] } : Obj)
  let q_to : Obj := listOf #[.ref t0, .ref t1] nto
  let q_t0 : Obj := listOf #[.bool false, .bool false] nt
  have N2 : News h₀ L s.heap [(z, oz), (x, q_x), (dx, o_dx), (gs, q_gs), (dgs, o_dgs), (st, q_st), (dst, o_dst), (nl, q_nl), (f1, o_f1), (f2, o_f2), (c, q_c), (e, q_e), (zz, q_zz), (dz, o_dz), (cu, q_cu), (p0, q_p0), (p1, q_p1), (to, q_to), (t0, q_t0), (L + 1 + 1 + 1, ow), (L + 1 + 1, ok), (L + 1, od), (435, oP)] := by
    refine cb_drop N ?_
    repeat' (first | exact List.forall_mem_nil _ | (refine Mine.fa_cons ?_ ?_) | assumption)
  have F2 := fr_at F hmany
  clear F N hmany h_z h_x h_dx h_gs h_dgs h_st h_dst h_nl h_f1 h_f2 h_c h_e h_zz h_dz h_cu h_p0 h_p1 h_to h_t0 h_lw h_lc h_ld h_P
  obtain ⟨e1, e2, e3, e4⟩ := fn_inj (hl.symm.trans (by k_is))
  subst ha
  subst hcl
  subst e1
  subst e2
  subst e3
  subst e4
  clear hl
  (refine Mine.wp_top ?_; intro ev Aw)
  k_steps
  · exfalso
    rename ((_ != decide _) = true) => hA
    rw [decide_eq_false (show ¬ many < 0 by omega)] at hA
    exact absurd hA (by decide)
  · apply hret
    rotate_left 1
    · first | with_reducible assumption | k_ne
    · refine' cb_drop ?qN1 ?qN2
      case qN1 => with_reducible assumption
      case qN2 => repeat' (first | exact List.forall_mem_nil _ | (refine Mine.fa_cons ?_ ?_) | (k_mem; done))
    · first | with_reducible assumption | k_ne
    · first | with_reducible assumption | k_ne
    · first | with_reducible assumption | k_ne
    · first | with_reducible assumption | k_ne | assumption
    · first | with_reducible assumption | exact KtsTurn.refl
end
end Mine
end

end

theorem Mine.reg_x13 : True := by
  (k_with "x13 exec Raise some none" => (k_here; k_dflt (refine' Mine.raise_by (C := 72) ?hhY93 ?_; (case hhY93 => first | rfl | assumption)); (try dsimp only); (try k_fold)))
  (k_with "x13 RaiseEnd" => (k_dflt (refine' Mine.RaiseEnd.intro ?FY94 ?XY94 ?qY94 ?MY94 ?_; (case MY94 => with_reducible assumption); (case FY94 => k_asm); (case XY94 => k_asm); (case qY94 => kts_isx)); (try dsimp only)))
  (k_with "x13 leaving ref" => (k_here; first | (refine' Mine.leave_firstX ?hfY95 ?hkeY95 ?KY95 ?hxY95 ?FY95 ?NY95 ?_; (case hxY95 => with_reducible assumption); (case hfY95 => rfl); (case hkeY95 => rfl); (case FY95 => with_reducible assumption); (case KY95 => with_reducible assumption); (case NY95 => k_asm); k_whole; intro h'Z S'Z U'Z; (try dsimp only at S'Z U'Z ⊢)) | (refine' Mine.leave_onX ?hfY95 ?KY95 ?FY95 ?RY95 ?UY95 ?_; (case RY95 => with_reducible assumption); (case UY95 => with_reducible assumption); (case hfY95 => rfl); (case FY95 => with_reducible assumption); (case KY95 => with_reducible assumption); k_whole; intro h'Z S'Z U'Z; (try dsimp only at S'Z U'Z ⊢))))
  (k_with "x13 subscriptTail" => (k_here; (with_reducible show wpAny _ _ (subscriptTail (Expr.Dict _ _ _) _ (Value.ref _) (Value.int _ _)) _ _ _); (first | (refine' Mine.cut_code (P := Mine.CBc) ?hbY109 ?h1Y109 ?_; (case hbY109 => with_reducible assumption); (case h1Y109 => (intro c9Z b9Z hB9Z; (first | unfold Mine.CBp at hB9Z | unfold Mine.CBc at hB9Z); rcases hB9Z with ⟨e9Z, e8Z⟩ | ⟨e9Z, e8Z⟩ | ⟨e9Z, e8Z⟩ <;> (rw [e9Z, e8Z]; clear e9Z e8Z; (repeat (first | exact ⟨_, _, rfl, rfl⟩ | (k_dflt (refine' tab_tail (knd := intKind _ _) (enc := PyData.int) ?T9Y109 ?_; (case T9Y109 => k_tabat); k_whole)) | walk1)); done))); intro t9Z tk9Z; (try dsimp only)) | (refine' Mine.cut_code (P := Mine.CBp) ?hbY109 ?h1Y109 ?_; (case hbY109 => with_reducible assumption); (case h1Y109 => (intro c9Z b9Z hB9Z; (first | unfold Mine.CBp at hB9Z | unfold Mine.CBc at hB9Z); rcases hB9Z with ⟨e9Z, e8Z⟩ | ⟨e9Z, e8Z⟩ | ⟨e9Z, e8Z⟩ <;> (rw [e9Z, e8Z]; clear e9Z e8Z; (repeat (first | exact ⟨_, _, rfl, rfl⟩ | (k_dflt (refine' tab_tail (knd := intKind _ _) (enc := PyData.int) ?T9Y109 ?_; (case T9Y109 => k_tabat); k_whole)) | walk1)); done))); intro t9Z tk9Z; (try dsimp only)))))
  (k_with "x13 eval Lambda" => (k_here; k_dflt (refine' kla_eval ?d0Y101 ?_; (case d0Y101 => exact rfl)); k_dflt (refine' Mine.lam_any2 ?FY101 ?NY101 ?TY101 ?CY101 ?cdY101 ?UY101 ?hzY101 ?stY101 ?clY101 ?_; (case FY101 => k_asm); (case NY101 => with_reducible assumption); (case TY101 => k_asm); (case cdY101 => exact rfl); (case CY101 => first | with_reducible assumption | exact CodeHd.keeps (by with_reducible assumption) (Below.stays (by with_reducible assumption))); (case UY101 => k_updF); (case hzY101 => repeat' (first | exact True.intro | (refine And.intro ?_ ?_) | with_reducible assumption | (apply Mine.HN.out'; with_reducible assumption))); (case stY101 => first | with_reducible assumption | assumption); (case clY101 => exact rfl)); intro f'Z c'Z oc'Z ct'Z h'Z tk'Z vs'Z t'Z F'Z N'Z d1'Z d2'Z l1Z lzZ hcz'Z; (try dsimp only at N'Z); (try simp only [Mine.AllHL, and_true] at l1Z); (repeat (obtain ⟨_, l1Z⟩ : _ ∧ _ := l1Z)); (k_lt lzZ)))
  (k_with "x13 call ref cons nil" => (k_here; (with_reducible show wpAny _ _ (call (Value.ref 419) _ _) _ _ _); refine wpAny_call ?_; k_dflt (refine' Mine.enterSX ?k1Y102 ?k2Y102 ?k3Y102 ?k4Y102 ?k5Y102 ?XBY102 ?TBY102 ?DY102 ?T0Y102 ?kAY102 ?kfY102 ?kkY102 ?k6Y102 ?k7Y102 ?k8Y102 ?k9Y102 ?kBY102 ?_ ?c2Y102 ?c3Y102 ?c4Y102 ?c5Y102; (case kAY102 => exact rfl); (case kfY102 => exact rfl); (case kkY102 => exact rfl); (case k2Y102 => k_asm); (case k1Y102 => k_asm); (case XBY102 => assumption); (case TBY102 => assumption); (case DY102 => assumption); (case T0Y102 => first | assumption | exact KtsTurn.refl); (case k3Y102 => k_asm); (case k4Y102 => k_asm); (case k5Y102 => k_asm); (case k6Y102 => k_is); (case k7Y102 => k_is); (case k8Y102 => k_room); (case k9Y102 => exact BindsTo.of_eq rfl); (case kBY102 => exact locs rfl); (case c2Y102 => exact rfl); (case c3Y102 => exact rfl); (case c4Y102 => exact rfl); (case c5Y102 => decide); k_whole; intro g'Z L'Z h'Z FG'Z F'Z N'Z B'Z X'Z T'Z D'Z l1'Z; (try k_lt l1'Z); (try dsimp only); (try k_lift B'Z); first | (refine Mine.wp_enter ?_; intro evZ AwZ qkZ ekZ) | k_fold | skip)))
  (k_with "x13 call builtin:max" => (k_here; (with_reducible show wpAny _ _ (call (Value.builtin _) [Value.int _ _, Value.int _ _]) _ _ _); k_dflt (refine' Mine.max_to ?hhY103 ?FY103 ?NY103 ?eY103 ?_; (case hhY103 => rfl); (case FY103 => k_asm); (case NY103 => k_asm); (case eY103 => first | exact Mine.max_ge (by omega) | exact Mine.max_le (by omega))); intro t'Z h'Z tk'Z F'Z N'Z; (try dsimp only)))
  (k_with "x13 compareOp Eq ref ref" => (k_here; (with_reducible show wpAny _ _ (compareOp CmpOp.Eq (Value.ref _) (Value.ref _)) _ _ _); k_dflt (refine' Mine.eq_pts2 ?NY104 ?m1Y104 ?m2Y104 ?m3Y104 ?m4Y104 ?m5Y104 ?m6Y104 ?e1Y104 ?e2Y104 ?e3Y104 ?e4Y104 ?huY104 ?_; (case NY104 => k_asm); (case m1Y104 => k_mem); (case m2Y104 => k_mem); (case m3Y104 => k_mem); (case m4Y104 => k_mem); (case m5Y104 => k_mem); (case m6Y104 => k_mem); (case e1Y104 => rfl); (case e2Y104 => rfl); (case e3Y104 => rfl); (case e4Y104 => rfl); (case huY104 => ke_room))))
  (k_with "x13 exec Raise some none" => (k_here; k_dflt (refine' Mine.raise_by (C := 72) ?hhY93 ?_; (case hhY93 => first | rfl | assumption)); (try dsimp only); (try k_fold)))
  (k_with "x13 RaiseEnd" => (k_dflt (refine' Mine.RaiseEnd.intro ?FY94 ?XY94 ?qY94 ?MY94 ?_; (case MY94 => with_reducible assumption); (case FY94 => k_asm); (case XY94 => k_asm); (case qY94 => kts_isx)); (try dsimp only)))
  (k_with "x13 leaving ref" => (k_here; first | (refine' Mine.leave_firstX ?hfY95 ?hkeY95 ?KY95 ?hxY95 ?FY95 ?NY95 ?_; (case hxY95 => with_reducible assumption); (case hfY95 => rfl); (case hkeY95 => rfl); (case FY95 => with_reducible assumption); (case KY95 => with_reducible assumption); (case NY95 => k_asm); k_whole; intro h'Z S'Z U'Z; (try dsimp only at S'Z U'Z ⊢)) | (refine' Mine.leave_onX ?hfY95 ?KY95 ?FY95 ?RY95 ?UY95 ?_; (case RY95 => with_reducible assumption); (case UY95 => with_reducible assumption); (case hfY95 => rfl); (case FY95 => with_reducible assumption); (case KY95 => with_reducible assumption); k_whole; intro h'Z S'Z U'Z; (try dsimp only at S'Z U'Z ⊢))))
  (k_with "x13 getAttr ref" => (k_here; (with_reducible show wpAny _ _ (getAttr (Value.ref _) (Str.ofString "current") true) _ _ _); k_dflt (refine' Mine.at_room ?h1Y73 ?h2Y73 ?h3Y73 ?h5Y73 (Mine.zn_current ?BY73 ?FY73 ?XY73 ?NY73 ?TY73 ?hkY73 ?hxY73 ?hdY73 ?okY73 ?_); (case h1Y73 => exact rfl); (case h3Y73 => exact rfl); (case h2Y73 => exact Nat.le_of_ble_eq_true rfl); (case h5Y73 => exact Nat.le_of_ble_eq_true rfl); (case BY73 => k_asm); (case FY73 => k_asm); (case XY73 => k_asm); (case NY73 => k_asm); (case TY73 => k_asm); (case hkY73 => first | exact rfl | assumption); (case hxY73 => k_mem); (case hdY73 => k_mem); (case okY73 => with_reducible assumption)); intro tk'Z; (try dsimp only)))
  (k_with "x13 getAttr ref" => (k_here; (with_reducible show wpAny _ _ (getAttr (Value.ref _) (Str.ofString "state") true) _ _ _); k_dflt (refine' Mine.at_room ?h1Y74 ?h2Y74 ?h3Y74 ?h5Y74 (Mine.wk_state ?BY74 ?FY74 ?XY74 ?NY74 ?TY74 ?hkY74 ?hxY74 ?hdY74 ?okY74 ?_); (case h1Y74 => exact rfl); (case h3Y74 => exact rfl); (case h2Y74 => exact Nat.le_of_ble_eq_true rfl); (case h5Y74 => exact Nat.le_of_ble_eq_true rfl); (case BY74 => k_asm); (case FY74 => k_asm); (case XY74 => k_asm); (case NY74 => k_asm); (case TY74 => k_asm); (case hkY74 => first | exact rfl | assumption); (case hxY74 => k_mem); (case hdY74 => k_mem); (case okY74 => with_reducible assumption)); intro tk'Z; (try dsimp only)))
  (k_with "x13 getAttr ref" => (k_here; (with_reducible show wpAny _ _ (getAttr (Value.ref _) (Str.ofString "stack") true) _ _ _); k_dflt (refine' Mine.at_room ?h1Y75 ?h2Y75 ?h3Y75 ?h5Y75 (Mine.wk_stack ?BY75 ?FY75 ?XY75 ?NY75 ?TY75 ?hkY75 ?hxY75 ?hdY75 ?okY75 ?_); (case h1Y75 => exact rfl); (case h3Y75 => exact rfl); (case h2Y75 => exact Nat.le_of_ble_eq_true rfl); (case h5Y75 => exact Nat.le_of_ble_eq_true rfl); (case BY75 => k_asm); (case FY75 => k_asm); (case XY75 => k_asm); (case NY75 => k_asm); (case TY75 => k_asm); (case hkY75 => first | exact rfl | assumption); (case hxY75 => k_mem); (case hdY75 => k_mem); (case okY75 => with_reducible assumption)); intro tk'Z; (try dsimp only)))
  (k_with "x13 getAttr ref" => (k_here; (with_reducible show wpAny _ _ (getAttr (Value.ref _) (Str.ofString "zones") true) _ _ _); k_dflt (refine' Mine.at_room ?h1Y76 ?h2Y76 ?h3Y76 ?h5Y76 (Mine.wk_zones ?BY76 ?FY76 ?XY76 ?NY76 ?TY76 ?hkY76 ?hxY76 ?hdY76 ?okY76 ?_); (case h1Y76 => exact rfl); (case h3Y76 => exact rfl); (case h2Y76 => exact Nat.le_of_ble_eq_true rfl); (case h5Y76 => exact Nat.le_of_ble_eq_true rfl); (case BY76 => k_asm); (case FY76 => k_asm); (case XY76 => k_asm); (case NY76 => k_asm); (case TY76 => k_asm); (case hkY76 => first | exact rfl | assumption); (case hxY76 => k_mem); (case hdY76 => k_mem); (case okY76 => with_reducible assumption)); intro tk'Z; (try dsimp only)))
  (k_with "x13 getAttr ref" => (k_here; (with_reducible show wpAny _ _ (getAttr (Value.ref _) (Str.ofString "cvt") true) _ _ _); k_dflt (refine' Mine.at_room ?h1Y77 ?h2Y77 ?h3Y77 ?h5Y77 (Mine.wk_cvt ?BY77 ?FY77 ?XY77 ?NY77 ?TY77 ?hkY77 ?hxY77 ?hdY77 ?okY77 ?_); (case h1Y77 => exact rfl); (case h3Y77 => exact rfl); (case h2Y77 => exact Nat.le_of_ble_eq_true rfl); (case h5Y77 => exact Nat.le_of_ble_eq_true rfl); (case BY77 => k_asm); (case FY77 => k_asm); (case XY77 => k_asm); (case NY77 => k_asm); (case TY77 => k_asm); (case hkY77 => first | exact rfl | assumption); (case hxY77 => k_mem); (case hdY77 => k_mem); (case okY77 => with_reducible assumption)); intro tk'Z; (try dsimp only)))
  (k_with "x13 getAttr ref" => (k_here; (with_reducible show wpAny _ _ (getAttr (Value.ref _) (Str.ofString "numbers") true) _ _ _); k_dflt (refine' Mine.at_room ?h1Y78 ?h2Y78 ?h3Y78 ?h5Y78 (Mine.st_numbers ?BY78 ?FY78 ?XY78 ?NY78 ?TY78 ?hkY78 ?hxY78 ?hdY78 ?okY78 ?_); (case h1Y78 => exact rfl); (case h3Y78 => exact rfl); (case h2Y78 => exact Nat.le_of_ble_eq_true rfl); (case h5Y78 => exact Nat.le_of_ble_eq_true rfl); (case BY78 => k_asm); (case FY78 => k_asm); (case XY78 => k_asm); (case NY78 => k_asm); (case TY78 => k_asm); (case hkY78 => first | exact rfl | assumption); (case hxY78 => k_mem); (case hdY78 => k_mem); (case okY78 => with_reducible assumption)); intro tk'Z; (try dsimp only)))
  (k_with "x13 getAttr ref" => (k_here; (with_reducible show wpAny _ _ (getAttr (Value.ref _) (Str.ofString "rounding") true) _ _ _); k_dflt (refine' Mine.at_room ?h1Y79 ?h2Y79 ?h3Y79 ?h5Y79 (Mine.gs_rounding ?BY79 ?FY79 ?XY79 ?NY79 ?TY79 ?hkY79 ?hxY79 ?hdY79 ?okY79 ?_); (case h1Y79 => exact rfl); (case h3Y79 => exact rfl); (case h2Y79 => exact Nat.le_of_ble_eq_true rfl); (case h5Y79 => exact Nat.le_of_ble_eq_true rfl); (case BY79 => k_asm); (case FY79 => k_asm); (case XY79 => k_asm); (case NY79 => k_asm); (case TY79 => k_asm); (case hkY79 => first | exact rfl | assumption); (case hxY79 => k_mem); (case hdY79 => k_mem); (case okY79 => with_reducible assumption)); intro tk'Z; (try dsimp only)))
  (k_with "x13 setAttr ref" => (k_here; (with_reducible show wpAny _ _ (setAttr (Value.ref _) (Str.ofString "rounding") (Value.ref _)) _ _ _); k_dflt (refine' Mine.at_room ?h1Y80 ?h2Y80 ?h3Y80 ?h5Y80 (Mine.gs_setr ?BY80 ?FY80 ?XY80 ?NY80 ?TY80 ?hkY80 ?hxY80 ?hdY80 ?okY80 ?UY80 ?_); (case h1Y80 => exact rfl); (case h3Y80 => exact rfl); (case h2Y80 => exact Nat.le_of_ble_eq_true rfl); (case h5Y80 => exact Nat.le_of_ble_eq_true rfl); (case BY80 => k_asm); (case FY80 => k_asm); (case XY80 => k_asm); (case NY80 => k_asm); (case TY80 => k_asm); (case hkY80 => first | exact rfl | assumption); (case hxY80 => k_mem); (case hdY80 => k_mem); (case okY80 => with_reducible assumption); (case UY80 => (intro oo9Z; k_upd))); intro o'Z h'Z tk'Z F'Z g1'Z N'Z; (try dsimp only at N'Z); (try dsimp only)))
  (k_with "x13 setAttr ref" => (k_here; (with_reducible show wpAny _ _ (setAttr (Value.ref _) (Str.ofString "ppem") (Value.int _ _)) _ _ _); k_dflt (refine' Mine.at_room ?h1Y81 ?h2Y81 ?h3Y81 ?h5Y81 (Mine.wk_setp ?BY81 ?FY81 ?XY81 ?NY81 ?TY81 ?hkY81 ?hxY81 ?hdY81 ?okY81 ?UY81 ?_); (case h1Y81 => exact rfl); (case h3Y81 => exact rfl); (case h2Y81 => exact Nat.le_of_ble_eq_true rfl); (case h5Y81 => exact Nat.le_of_ble_eq_true rfl); (case BY81 => k_asm); (case FY81 => k_asm); (case XY81 => k_asm); (case NY81 => k_asm); (case TY81 => k_asm); (case hkY81 => first | exact rfl | assumption); (case hxY81 => k_mem); (case hdY81 => k_mem); (case okY81 => with_reducible assumption); (case UY81 => (intro oo9Z; k_upd))); intro o'Z h'Z tk'Z F'Z wk9'Z N'Z; (try dsimp only at N'Z); (try dsimp only)))
  (k_with "x13 getMethod ref" => (k_here; (with_reducible show wpAny _ _ (getMethod (Value.ref _) (Str.ofString "push") _) _ _ _); k_dflt (refine' Mine.at_room ?h1Y82 ?h2Y82 ?h3Y82 ?h5Y82 (Mine.st_m_push ?BY82 ?FY82 ?XY82 ?NY82 ?TY82 ?hkY82 ?hxY82 ?hdY82 ?okY82 ?_); (case h1Y82 => exact rfl); (case h3Y82 => exact rfl); (case h2Y82 => exact Nat.le_of_ble_eq_true rfl); (case h5Y82 => exact Nat.le_of_ble_eq_true rfl); (case BY82 => k_asm); (case FY82 => k_asm); (case XY82 => k_asm); (case NY82 => k_asm); (case TY82 => k_asm); (case hkY82 => first | exact rfl | assumption); (case hxY82 => k_mem); (case hdY82 => k_mem); (case okY82 => with_reducible assumption)); (try dsimp only)))
  (k_with "x13 getMethod ref" => (k_here; (with_reducible show wpAny _ _ (getMethod (Value.ref _) (Str.ofString "pop") _) _ _ _); k_dflt (refine' Mine.at_room ?h1Y83 ?h2Y83 ?h3Y83 ?h5Y83 (Mine.st_m_pop ?BY83 ?FY83 ?XY83 ?NY83 ?TY83 ?hkY83 ?hxY83 ?hdY83 ?okY83 ?_); (case h1Y83 => exact rfl); (case h3Y83 => exact rfl); (case h2Y83 => exact Nat.le_of_ble_eq_true rfl); (case h5Y83 => exact Nat.le_of_ble_eq_true rfl); (case BY83 => k_asm); (case FY83 => k_asm); (case XY83 => k_asm); (case NY83 => k_asm); (case TY83 => k_asm); (case hkY83 => first | exact rfl | assumption); (case hxY83 => k_mem); (case hdY83 => k_mem); (case okY83 => with_reducible assumption)); (try dsimp only)))
  trivial
section
local macro_rules | `(tactic| walk_at $s:str) => do let t := Lean.Syntax.mkStrLit ("x13 " ++ s.getString); `(tactic| k_extra $t)
local macro_rules | `(tactic| walk_at $s:str) => do let t := Lean.Syntax.mkStrLit ("x13 " ++ s.getString); `(tactic| k_extra $t)

section
theorem Mine.reg_u12 : True := by
  (k_with "m call ref cons nil" => (k_here; (with_reducible show wpAny _ _ (call (Value.ref 137) _ _) _ _ _); k_dflt (refine' Mine.at_room ?h1Y110 ?h2Y110 ?h3Y110 ?h5Y110 (Mine.dc_neg ?BY110 ?FY110 ?XY110 ?NY110 ?TY110 ?hkY110 ?m_xY110 ?m_dxY110 ?m_gsY110 ?m_dgsY110 ?m_stY110 ?m_dstY110 ?m_nlY110 ?m_cY110 ?hppY110 ?hcY110 ?o1Y110 ?o2Y110 ?o3Y110 ?o4Y110 ?o5Y110 ?o6Y110 ?o7Y110 ?p1Y110 ?p2Y110 ?p3Y110 ?p4Y110 ?p5Y110 ?p6Y110 ?hmY110 ?UY110 ?_); (case h1Y110 => exact rfl); (case h3Y110 => exact rfl); (case h2Y110 => exact Nat.le_of_ble_eq_true rfl); (case h5Y110 => exact Nat.le_of_ble_eq_true rfl); (case BY110 => k_asm); (case FY110 => k_asm); (case XY110 => k_asm); (case NY110 => first | k_asm | exact News.nil); (case TY110 => k_asm); (case hkY110 => first | exact rfl | assumption); (case m_xY110 => k_mem); (case m_dxY110 => k_mem); (case m_gsY110 => k_mem); (case m_dgsY110 => k_mem); (case m_stY110 => k_mem); (case m_dstY110 => k_mem); (case m_nlY110 => k_mem); (case m_cY110 => k_mem); (case hppY110 => first | with_reducible assumption | omega); (case hcY110 => first | with_reducible assumption | omega); (case o1Y110 => first | with_reducible assumption | k_ne); (case o2Y110 => first | with_reducible assumption | k_ne); (case o3Y110 => first | with_reducible assumption | k_ne); (case o4Y110 => first | with_reducible assumption | k_ne); (case o5Y110 => first | with_reducible assumption | k_ne); (case o6Y110 => first | with_reducible assumption | k_ne); (case o7Y110 => first | with_reducible assumption | k_ne); (case p1Y110 => first | with_reducible assumption | k_ne); (case p2Y110 => first | with_reducible assumption | k_ne); (case p3Y110 => first | with_reducible assumption | k_ne); (case p4Y110 => first | with_reducible assumption | k_ne); (case p5Y110 => first | with_reducible assumption | k_ne); (case p6Y110 => first | with_reducible assumption | k_ne); (case hmY110 => first | with_reducible assumption | omega); (case UY110 => (intro n'Z; k_upd))); intro n'Z g'Z e'Z t'Z vs'Z h'Z tk'Z F'Z S'Z U'Z; (try dsimp only at S'Z); (try dsimp only); (try k_fold)))
  trivial
open PySem PySem.W PyProof.Rows
set_option maxHeartbeats 8000000
namespace Mine
section
variable {w : World} {p : Program} {loose : List Str} {mean : ExcName → Option Value} {mg mb : Str → Option Value}
    {gd : Option (List Code)} {cn : Str} {cs : Scope} {a : Addr} {ccd : Value} {cl : List (Str × Addr)} {outer : List Env} {A₀ : Around} {base h₀ : Heap} {L : Addr} {m : Str → Option Value} {news : List (Addr × Obj)} {s : Shared} {Q E : Value → Shared → Prop}
    (B : Below A₀ base outer h₀) (F : Fr h₀ L s.heap m) (X : (Mine.hd.heap_1 w.params).In h₀) (N : News h₀ L s.heap news) (T : Top p loose mean mg mb h₀) (hk : cs.kind = .function)
include B F X N T hk
theorem cs_c_neg {x dx gs dgs st dst nl f1 f2 rd e c zz dz zo org cu to en ocv p0 p1 t0 t1 z : Addr} {tc tm z0 z1 b0 b1 b2 b3 ncu nto nt n ne nc : Nat} {pp code b many : Int} {vs : Array Value} {ow ok od oP oz : Obj} {vk : Option Value} {nm : Str} {pr : Arguments} {s1 s2 s3 s4 s5 : Stmt} {rest : List Stmt} {dV kV doc pm ct oc1 : Value} {an od1 : Option Addr} {osl : Array (Option Value)} {QF : Flow → Shared → Prop} {o_dx o_dgs o_dst o_dz o_f1 o_f2 : Obj}
    (h_x : (x, instObj 331 dx) ∈ news) (h_dx : (dx, o_dx) ∈ news) (k_dx : WkOk w o_dx gs st e c pp) (h_gs : (gs, instObj 217 dgs) ∈ news) (h_dgs : (dgs, o_dgs) ∈ news) (k_dgs : GsOk w o_dgs f1 f2 rd) (h_st : (st, instObj 280 dst) ∈ news) (h_dst : (dst, o_dst) ∈ news) (k_dst : StOk w o_dst nl) (h_nl : (nl, listOf vs n) ∈ news) (h_c : (c, listOf #[.int 0 z0, .int 5 z1] nc) ∈ news) (h_e : (e, listOf #[.ref zo, .ref zz] ne) ∈ news) (h_zz : (zz, instObj 387 dz) ∈ news) (h_dz : (dz, o_dz) ∈ news) (k_dz : ZnOk w o_dz org cu to en ocv) (h_cu : (cu, listOf #[.ref p0, .ref p1] ncu) ∈ news) (h_p0 : (p0, ({ cls := .type "tuple", data := .seq #[.int 0 b0, .int 0 b1] } : Obj)) ∈ news) (h_p1 : (p1, ({ cls := .type "tuple", data := .seq #[.int 5 b2, .int 5 b3] } : Obj)) ∈ news) (h_lw : (L + 1 + 1 + 1, ow) ∈ news) (h_lc : (L + 1 + 1, ok) ∈ news) (h_ld : (L + 1, od) ∈ news) (h_P : (435, oP) ∈ news) (h_z : (z, oz) ∈ news)
    (hl : (Mine.hd.heap_1 w.params).lookup 440 = some ⟨oc1, od1, .func (fnOf nm cn pr (s1 :: s2 :: s3 :: s4 :: s5 :: rest) cs dV kV doc pm an ccd ct), osl⟩) (ha : a = 440) (hcl : cl = cellsFrom (L + 1) cs.names [])
    (XB : (Mine.hd.heap_1 w.params).In base) (TB : Top p loose mean mg mb base) (C : CodeHd base 439 435) (D : KtsDicts (outer.filterMap (·.frame)) h₀) (st9 : LSt LQ LP oP z oz)
    (hmany : m (Str.ofString "many") = some (.int many tm)) (dw : ow.data = .cell (some (.ref x))) (dk : ok.data = .cell vk) (dd : od.data = .cell (some (.int code tc)))
    (hpp : pp = 9 + b) (hb : CBc code b) {w0 w1 w2 : Nat} (hvs : vs = #[.int 8 w0, .int 0 w1, .int many w2]) (hm : many < 0 ∧ -3 ≤ many) (n_x_nl : HN x nl) (n_dx_nl : HN dx nl) (n_gs_nl : HN gs nl) (n_dgs_nl : HN dgs nl) (n_st_nl : HN st nl) (n_dst_nl : HN dst nl) (n_c_nl : HN c nl) (n_e_nl : HN e nl) (n_zz_nl : HN zz nl) (n_dz_nl : HN dz nl) (n_cu_nl : HN cu nl) (n_p0_nl : HN p0 nl) (n_p1_nl : HN p1 nl) (n_lw_nl : HN (L + 1 + 1 + 1) nl) (n_lc_nl : HN (L + 1 + 1) nl) (n_ld_nl : HN (L + 1) nl) (n_P_nl : HN 435 nl) (n_x_c : HN x c) (n_dx_c : HN dx c) (n_gs_c : HN gs c) (n_dgs_c : HN dgs c) (n_st_c : HN st c) (n_dst_c : HN dst c) (n_e_c : HN e c) (n_zz_c : HN zz c) (n_dz_c : HN dz c) (n_cu_c : HN cu c) (n_p0_c : HN p0 c) (n_p1_c : HN p1 c) (n_lw_c : HN (L + 1 + 1 + 1) c) (n_lc_c : HN (L + 1 + 1) c) (n_ld_c : HN (L + 1) c) (n_P_c : HN 435 c) (n_x_P : HN x 435) (n_dx_P : HN dx 435) (n_gs_P : HN gs 435) (n_dgs_P : HN dgs 435) (n_st_P : HN st 435) (n_dst_P : HN dst 435) (n_e_P : HN e 435) (n_zz_P : HN zz 435) (n_dz_P : HN dz 435) (n_cu_P : HN cu 435) (n_p0_P : HN p0 435) (n_p1_P : HN p1 435) (n_lw_P : HN (L + 1 + 1 + 1) 435) (n_lc_P : HN (L + 1 + 1) 435) (n_ld_P : HN (L + 1) 435) (nz_x : HN x z) (nz_dx : HN dx z) (nz_gs : HN gs z) (nz_dgs : HN dgs z) (nz_st : HN st z) (nz_dst : HN dst z) (nz_nl : HN nl z) (nz_c : HN c z) (nz_e : HN e z) (nz_zz : HN zz z) (nz_dz : HN dz z) (nz_cu : HN cu z) (nz_p0 : HN p0 z) (nz_p1 : HN p1 z) (nz_lw : HN (L + 1 + 1 + 1) z) (nz_lc : HN (L + 1 + 1) z) (nz_ld : HN (L + 1) z) (nz_P : HN 435 z) (nk_x : HN x (L + 1 + 1)) (nk_dx : HN dx (L + 1 + 1)) (nk_gs : HN gs (L + 1 + 1)) (nk_dgs : HN dgs (L + 1 + 1)) (nk_st : HN st (L + 1 + 1)) (nk_dst : HN dst (L + 1 + 1)) (nk_e : HN e (L + 1 + 1)) (nk_zz : HN zz (L + 1 + 1)) (nk_dz : HN dz (L + 1 + 1)) (nk_cu : HN cu (L + 1 + 1)) (nk_p0 : HN p0 (L + 1 + 1)) (nk_p1 : HN p1 (L + 1 + 1)) (nk_lw : HN (L + 1 + 1 + 1) (L + 1 + 1)) (nk_ld : HN (L + 1) (L + 1 + 1)) (nk_z : HN z (L + 1 + 1))
    (hret : ∀ g'' c' oc vs t m' h' tk', KtsTurn (outer.filterMap (·.frame)) h₀ g'' → Fr g'' L h' m' → News g'' L h' [(435, tabObj #[rawInt LP.line, rawInt LP.col, .ref c']), (c', oc), (z, oz)] → HN 435 c' → ((oP = tabObj #[] → HN z c') ∧ (oP ≠ tabObj #[] → c' = z ∧ oc = oz)) → oc.data = .fields vs → vs[1]? = some (.str LQ t) → QF (.ret (.bool true)) { s with heap := h', toks := tk' }) :
    wpAny (model PG w) (ktrTop 640 5600 gd cn cs L a ccd cl outer) (execs rest (envX cn cs L a ccd cl)) QF E s := by
  have hX : Mine.hd.heap_1 = Mine.hd.heap_1 ∧ PySem.Challenge.rw_qz0063_01 = PySem.Challenge.rw_qz0063_01 := by
    k_fill
    exact ⟨rfl, rfl⟩
  clear hX
  have hco : 115 ≤ code ∧ code ≤ 117 ∧ b = 16 * (code - 115) := by
    rcases hb with ⟨rfl, rfl⟩ | ⟨rfl, rfl⟩ | ⟨rfl, rfl⟩ <;> decide
  let q_x : Obj := instObj 331 dx
  let q_gs : Obj := instObj 217 dgs
  let q_st : Obj := instObj 280 dst
  let q_nl : Obj := listOf vs n
  let q_c : Obj := listOf #[.int 0 z0, .int 5 z1] nc
  let q_e : Obj := listOf #[.ref zo, .ref zz] ne
  let q_zz : Obj := instObj 387 dz
  let q_cu : Obj := listOf #[.ref p0, .ref p1] ncu
  let q_p0 : Obj := ({ cls := .type "tuple", data := .seq #[.int 0 b0, .int 0 b1] } : Obj)
  let q_p1 : Obj := ({ cls := .type "tuple", data := .seq #[.int 5 b2, .int 5 b3] } : Obj)
  have N2 : News h₀ L s.heap [(z, oz), (x, q_x), (dx, o_dx), (gs, q_gs), (dgs, o_dgs), (st, q_st), (dst, o_dst), (nl, q_nl), (c, q_c), (e, q_e), (zz, q_zz), (dz, o_dz), (cu, q_cu), (p0, q_p0), (p1, q_p1), (L + 1 + 1 + 1, ow), (L + 1 + 1, ok), (L + 1, od), (435, oP)] := by
    refine cb_drop N ?_
    repeat' (first | exact List.forall_mem_nil _ | (refine Mine.fa_cons ?_ ?_) | assumption)
  have F2 := fr_at F hmany
  clear F N hmany h_z h_x h_dx h_gs h_dgs h_st h_dst h_nl h_c h_e h_zz h_dz h_cu h_p0 h_p1 h_lw h_lc h_ld h_P
  obtain ⟨e1, e2, e3, e4⟩ := fn_inj (hl.symm.trans (by k_is))
  subst ha
  subst hcl
  subst hvs
  subst e1
  subst e2
  subst e3
  subst e4
  clear hl
  (refine Mine.wp_top ?_; intro ev Aw)
  k_steps
  · exfalso
    rename ((_ != decide _) = true) => hA
    rw [decide_eq_true (show many < 0 by omega)] at hA
    exact absurd hA (by decide)
  · apply hret
    rotate_left 1
    · first | with_reducible assumption | k_ne
    · refine' cb_drop ?qN1 ?qN2
      case qN1 => with_reducible assumption
      case qN2 => repeat' (first | exact List.forall_mem_nil _ | (refine Mine.fa_cons ?_ ?_) | (k_mem; done))
    · first | with_reducible assumption | k_ne
    · first | with_reducible assumption | k_ne
    · first | with_reducible assumption | k_ne
    · first | with_reducible assumption | k_ne | assumption
    · first | with_reducible assumption | exact KtsTurn.refl
end
end Mine
end

section
theorem Mine.reg_u13 : True := by
  (k_with "m call ref cons nil" => (k_here; (with_reducible show wpAny _ _ (call (Value.ref 172) _ _) _ _ _); k_dflt (refine' Mine.at_room ?h1Y111 ?h2Y111 ?h3Y111 ?h5Y111 (Mine.dp_neg ?BY111 ?FY111 ?XY111 ?NY111 ?TY111 ?hkY111 ?m_xY111 ?m_dxY111 ?m_gsY111 ?m_dgsY111 ?m_stY111 ?m_dstY111 ?m_f1Y111 ?m_f2Y111 ?m_nlY111 ?m_eY111 ?m_zY111 ?m_dzY111 ?m_cuY111 ?m_p0Y111 ?m_toY111 ?m_t0Y111 ?hppY111 ?hbY111 ?on_xY111 ?on_dxY111 ?on_gsY111 ?on_dgsY111 ?on_stY111 ?on_dstY111 ?on_f1Y111 ?on_f2Y111 ?on_eY111 ?on_zY111 ?on_dzY111 ?on_cuY111 ?on_p0Y111 ?on_toY111 ?on_t0Y111 ?oc_xY111 ?oc_dxY111 ?oc_gsY111 ?oc_dgsY111 ?oc_stY111 ?oc_dstY111 ?oc_f1Y111 ?oc_f2Y111 ?oc_eY111 ?oc_zY111 ?oc_dzY111 ?oc_p0Y111 ?oc_toY111 ?oc_t0Y111 ?ot_xY111 ?ot_dxY111 ?ot_gsY111 ?ot_dgsY111 ?ot_stY111 ?ot_dstY111 ?ot_f1Y111 ?ot_f2Y111 ?ot_eY111 ?ot_zY111 ?ot_dzY111 ?ot_p0Y111 ?ot_toY111 ?UY111 ?hmY111 ?_); (case h1Y111 => exact rfl); (case h3Y111 => exact rfl); (case h2Y111 => exact Nat.le_of_ble_eq_true rfl); (case h5Y111 => exact Nat.le_of_ble_eq_true rfl); (case BY111 => k_asm); (case FY111 => k_asm); (case XY111 => k_asm); (case NY111 => first | k_asm | exact News.nil); (case TY111 => k_asm); (case hkY111 => first | exact rfl | assumption); (case m_xY111 => k_mem); (case m_dxY111 => k_mem); (case m_gsY111 => k_mem); (case m_dgsY111 => k_mem); (case m_stY111 => k_mem); (case m_dstY111 => k_mem); (case m_f1Y111 => k_mem); (case m_f2Y111 => k_mem); (case m_nlY111 => k_mem); (case m_eY111 => k_mem); (case m_zY111 => k_mem); (case m_dzY111 => k_mem); (case m_cuY111 => k_mem); (case m_p0Y111 => k_mem); (case m_toY111 => k_mem); (case m_t0Y111 => k_mem); (case hppY111 => first | with_reducible assumption | omega); (case hbY111 => with_reducible assumption); (case on_xY111 => first | with_reducible assumption | k_ne); (case on_dxY111 => first | with_reducible assumption | k_ne); (case on_gsY111 => first | with_reducible assumption | k_ne); (case on_dgsY111 => first | with_reducible assumption | k_ne); (case on_stY111 => first | with_reducible assumption | k_ne); (case on_dstY111 => first | with_reducible assumption | k_ne); (case on_f1Y111 => first | with_reducible assumption | k_ne); (case on_f2Y111 => first | with_reducible assumption | k_ne); (case on_eY111 => first | with_reducible assumption | k_ne); (case on_zY111 => first | with_reducible assumption | k_ne); (case on_dzY111 => first | with_reducible assumption | k_ne); (case on_cuY111 => first | with_reducible assumption | k_ne); (case on_p0Y111 => first | with_reducible assumption | k_ne); (case on_toY111 => first | with_reducible assumption | k_ne); (case on_t0Y111 => first | with_reducible assumption | k_ne); (case oc_xY111 => first | with_reducible assumption | k_ne); (case oc_dxY111 => first | with_reducible assumption | k_ne); (case oc_gsY111 => first | with_reducible assumption | k_ne); (case oc_dgsY111 => first | with_reducible assumption | k_ne); (case oc_stY111 => first | with_reducible assumption | k_ne); (case oc_dstY111 => first | with_reducible assumption | k_ne); (case oc_f1Y111 => first | with_reducible assumption | k_ne); (case oc_f2Y111 => first | with_reducible assumption | k_ne); (case oc_eY111 => first | with_reducible assumption | k_ne); (case oc_zY111 => first | with_reducible assumption | k_ne); (case oc_dzY111 => first | with_reducible assumption | k_ne); (case oc_p0Y111 => first | with_reducible assumption | k_ne); (case oc_toY111 => first | with_reducible assumption | k_ne); (case oc_t0Y111 => first | with_reducible assumption | k_ne); (case ot_xY111 => first | with_reducible assumption | k_ne); (case ot_dxY111 => first | with_reducible assumption | k_ne); (case ot_gsY111 => first | with_reducible assumption | k_ne); (case ot_dgsY111 => first | with_reducible assumption | k_ne); (case ot_stY111 => first | with_reducible assumption | k_ne); (case ot_dstY111 => first | with_reducible assumption | k_ne); (case ot_f1Y111 => first | with_reducible assumption | k_ne); (case ot_f2Y111 => first | with_reducible assumption | k_ne); (case ot_eY111 => first | with_reducible assumption | k_ne); (case ot_zY111 => first | with_reducible assumption | k_ne); (case ot_dzY111 => first | with_reducible assumption | k_ne); (case ot_p0Y111 => first | with_reducible assumption | k_ne); (case ot_toY111 => first | with_reducible assumption | k_ne); (case hmY111 => first | with_reducible assumption | omega); (case UY111 => (intro n'Z; k_upd))); intro n'Z g'Z e'Z t'Z vs'Z h'Z tk'Z F'Z S'Z U'Z; (try dsimp only at S'Z); (try dsimp only); (try k_fold)))
  trivial
open PySem PySem.W PyProof.Rows
set_option maxHeartbeats 8000000
namespace Mine
section
variable {w : World} {p : Program} {loose : List Str} {mean : ExcName → Option Value} {mg mb : Str → Option Value}
    {gd : Option (List Code)} {cn : Str} {cs : Scope} {a : Addr} {ccd : Value} {cl : List (Str × Addr)} {outer : List Env} {A₀ : Around} {base h₀ : Heap} {L : Addr} {m : Str → Option Value} {news : List (Addr × Obj)} {s : Shared} {Q E : Value → Shared → Prop}
    (B : Below A₀ base outer h₀) (F : Fr h₀ L s.heap m) (X : (Mine.hd.heap_1 w.params).In h₀) (N : News h₀ L s.heap news) (T : Top p loose mean mg mb h₀) (hk : cs.kind = .function)
include B F X N T hk
theorem cs_p_neg {x dx gs dgs st dst nl f1 f2 rd e c zz dz zo org cu to en ocv p0 p1 t0 t1 z : Addr} {tc tm z0 z1 b0 b1 b2 b3 ncu nto nt n ne nc : Nat} {pp code b many : Int} {vs : Array Value} {ow ok od oP oz : Obj} {vk : Option Value} {nm : Str} {pr : Arguments} {s1 s2 s3 s4 s5 : Stmt} {rest : List Stmt} {dV kV doc pm ct oc1 : Value} {an od1 : Option Addr} {osl : Array (Option Value)} {QF : Flow → Shared → Prop} {o_dx o_dgs o_dst o_dz o_f1 o_f2 : Obj}
    (h_x : (x, instObj 331 dx) ∈ news) (h_dx : (dx, o_dx) ∈ news) (k_dx : WkOk w o_dx gs st e c pp) (h_gs : (gs, instObj 217 dgs) ∈ news) (h_dgs : (dgs, o_dgs) ∈ news) (k_dgs : GsOk w o_dgs f1 f2 rd) (h_st : (st, instObj 280 dst) ∈ news) (h_dst : (dst, o_dst) ∈ news) (k_dst : StOk w o_dst nl) (h_nl : (nl, listOf vs n) ∈ news) (h_f1 : (f1, o_f1) ∈ news) (k_f1 : Pr o_f1 16384 0) (h_f2 : (f2, o_f2) ∈ news) (k_f2 : Pr o_f2 16384 0) (h_c : (c, listOf #[.int 0 z0, .int 5 z1] nc) ∈ news) (h_e : (e, listOf #[.ref zo, .ref zz] ne) ∈ news) (h_zz : (zz, instObj 387 dz) ∈ news) (h_dz : (dz, o_dz) ∈ news) (k_dz : ZnOk w o_dz org cu to en ocv) (h_cu : (cu, listOf #[.ref p0, .ref p1] ncu) ∈ news) (h_p0 : (p0, ({ cls := .type "tuple", data := .seq #[.int 0 b0, .int 0 b1] } : Obj)) ∈ news) (h_p1 : (p1, ({ cls := .type "tuple", data := .seq #[.int 5 b2, .int 5 b3] } : Obj)) ∈ news) (h_to : (to, listOf #[.ref t0, .ref t1] nto) ∈ news) (h_t0 : (t0, listOf #[.bool false, .bool false] nt) ∈ news) (h_lw : (L + 1 + 1 + 1, ow) ∈ news) (h_lc : (L + 1 + 1, ok) ∈ news) (h_ld : (L + 1, od) ∈ news) (h_P : (435, oP) ∈ news) (h_z : (z, oz) ∈ news)
    (hl : (Mine.hd.heap_1 w.params).lookup 440 = some ⟨oc1, od1, .func (fnOf nm cn pr (s1 :: s2 :: s3 :: s4 :: s5 :: rest) cs dV kV doc pm an ccd ct), osl⟩) (ha : a = 440) (hcl : cl = cellsFrom (L + 1) cs.names [])
    (XB : (Mine.hd.heap_1 w.params).In base) (TB : Top p loose mean mg mb base) (C : CodeHd base 439 435) (D : KtsDicts (outer.filterMap (·.frame)) h₀) (st9 : LSt LQ LP oP z oz)
    (hmany : m (Str.ofString "many") = some (.int many tm)) (dw : ow.data = .cell (some (.ref x))) (dk : ok.data = .cell vk) (dd : od.data = .cell (some (.int code tc)))
    (hpp : pp = 9 + b) (hb : CBp code b) {w0 w1 w2 : Nat} (hvs : vs = #[.int 8 w0, .int 0 w1, .int many w2]) (hm : many < 0 ∧ -3 ≤ many) (n_x_nl : HN x nl) (n_dx_nl : HN dx nl) (n_gs_nl : HN gs nl) (n_dgs_nl : HN dgs nl) (n_st_nl : HN st nl) (n_dst_nl : HN dst nl) (n_f1_nl : HN f1 nl) (n_f2_nl : HN f2 nl) (n_c_nl : HN c nl) (n_e_nl : HN e nl) (n_zz_nl : HN zz nl) (n_dz_nl : HN dz nl) (n_cu_nl : HN cu nl) (n_p0_nl : HN p0 nl) (n_p1_nl : HN p1 nl) (n_to_nl : HN to nl) (n_t0_nl : HN t0 nl) (n_lw_nl : HN (L + 1 + 1 + 1) nl) (n_lc_nl : HN (L + 1 + 1) nl) (n_ld_nl : HN (L + 1) nl) (n_P_nl : HN 435 nl) (n_x_cu : HN x cu) (n_dx_cu : HN dx cu) (n_gs_cu : HN gs cu) (n_dgs_cu : HN dgs cu) (n_st_cu : HN st cu) (n_dst_cu : HN dst cu) (n_f1_cu : HN f1 cu) (n_f2_cu : HN f2 cu) (n_c_cu : HN c cu) (n_e_cu : HN e cu) (n_zz_cu : HN zz cu) (n_dz_cu : HN dz cu) (n_p0_cu : HN p0 cu) (n_p1_cu : HN p1 cu) (n_to_cu : HN to cu) (n_t0_cu : HN t0 cu) (n_lw_cu : HN (L + 1 + 1 + 1) cu) (n_lc_cu : HN (L + 1 + 1) cu) (n_ld_cu : HN (L + 1) cu) (n_P_cu : HN 435 cu) (n_x_t0 : HN x t0) (n_dx_t0 : HN dx t0) (n_gs_t0 : HN gs t0) (n_dgs_t0 : HN dgs t0) (n_st_t0 : HN st t0) (n_dst_t0 : HN dst t0) (n_f1_t0 : HN f1 t0) (n_f2_t0 : HN f2 t0) (n_c_t0 : HN c t0) (n_e_t0 : HN e t0) (n_zz_t0 : HN zz t0) (n_dz_t0 : HN dz t0) (n_p0_t0 : HN p0 t0) (n_p1_t0 : HN p1 t0) (n_to_t0 : HN to t0) (n_lw_t0 : HN (L + 1 + 1 + 1) t0) (n_lc_t0 : HN (L + 1 + 1) t0) (n_ld_t0 : HN (L + 1) t0) (n_P_t0 : HN 435 t0) (n_x_P : HN x 435) (n_dx_P : HN dx 435) (n_gs_P : HN gs 435) (n_dgs_P : HN dgs 435) (n_st_P : HN st 435) (n_dst_P : HN dst 435) (n_f1_P : HN f1 435) (n_f2_P : HN f2 435) (n_c_P : HN c 435) (n_e_P : HN e 435) (n_zz_P : HN zz 435) (n_dz_P : HN dz 435) (n_p0_P : HN p0 435) (n_p1_P : HN p1 435) (n_to_P : HN to 435) (n_lw_P : HN (L + 1 + 1 + 1) 435) (n_lc_P : HN (L + 1 + 1) 435) (n_ld_P : HN (L + 1) 435) (nz_x : HN x z) (nz_dx : HN dx z) (nz_gs : HN gs z) (nz_dgs : HN dgs z) (nz_st : HN st z) (nz_dst : HN dst z) (nz_nl : HN nl z) (nz_f1 : HN f1 z) (nz_f2 : HN f2 z) (nz_c : HN c z) (nz_e : HN e z) (nz_zz : HN zz z) (nz_dz : HN dz z) (nz_cu : HN cu z) (nz_p0 : HN p0 z) (nz_p1 : HN p1 z) (nz_to : HN to z) (nz_t0 : HN t0 z) (nz_lw : HN (L + 1 + 1 + 1) z) (nz_lc : HN (L + 1 + 1) z) (nz_ld : HN (L + 1) z) (nz_P : HN 435 z) (nk_x : HN x (L + 1 + 1)) (nk_dx : HN dx (L + 1 + 1)) (nk_gs : HN gs (L + 1 + 1)) (nk_dgs : HN dgs (L + 1 + 1)) (nk_st : HN st (L + 1 + 1)) (nk_dst : HN dst (L + 1 + 1)) (nk_f1 : HN f1 (L + 1 + 1)) (nk_f2 : HN f2 (L + 1 + 1)) (nk_c : HN c (L + 1 + 1)) (nk_e : HN e (L + 1 + 1)) (nk_zz : HN zz (L + 1 + 1)) (nk_dz : HN dz (L + 1 + 1)) (nk_p0 : HN p0 (L + 1 + 1)) (nk_p1 : HN p1 (L + 1 + 1)) (nk_to : HN to (L + 1 + 1)) (nk_lw : HN (L + 1 + 1 + 1) (L + 1 + 1)) (nk_ld : HN (L + 1) (L + 1 + 1)) (nk_z : HN z (L + 1 + 1))
    (hret : ∀ g'' c' oc vs t m' h' tk', KtsTurn (outer.filterMap (·.frame)) h₀ g'' → Fr g'' L h' m' → News g'' L h' [(435, tabObj #[rawInt LP.line, rawInt LP.col, .ref c']), (c', oc), (z, oz)] → HN 435 c' → ((oP = tabObj #[] → HN z c') ∧ (oP ≠ tabObj #[] → c' = z ∧ oc = oz)) → oc.data = .fields vs → vs[1]? = some (.str LQ t) → QF (.ret (.bool true)) { s with heap := h', toks := tk' }) :
    wpAny (model PG w) (ktrTop 640 5600 gd cn cs L a ccd cl outer) (execs rest (envX cn cs L a ccd cl)) QF E s := by
  have hX : Mine.hd.heap_1 = Mine.hd.heap_1 ∧ PySem.Challenge.rw_qz0063_01 = PySem.Challenge.rw_qz0063_01 := by
    k_fill
    exact ⟨rfl, rfl⟩
  clear hX
  have hco : 93 ≤ code ∧ code ≤ 114 := by
    rcases hb with ⟨rfl, rfl⟩ | ⟨rfl, rfl⟩ | ⟨rfl, rfl⟩ <;> decide
  let q_x : Obj := instObj 331 dx
  let q_gs : Obj := instObj 217 dgs
  let q_st : Obj := instObj 280 dst
  let q_nl : Obj := listOf vs n
  let q_c : Obj := listOf #[.int 0 z0, .int 5 z1] nc
  let q_e : Obj := listOf #[.ref zo, .ref zz] ne
  let q_zz : Obj := instObj 387 dz
  let q_cu : Obj := listOf #[.ref p0, .ref p1] ncu
  let q_p0 : Obj := ({ cls := .type "tuple", data := .seq #[.int 0 b0, .int 0 b1] } : Obj)
  let q_p1 : Obj := ({ cls := .type "tuple", data := .seq #[.int 5 b2, .int 5 b3] } : Obj)
  let q_to : Obj := listOf #[.ref t0, .ref t1] nto
  let q_t0 : Obj := listOf #[.bool false, .bool false] nt
  have N2 : News h₀ L s.heap [(z, oz), (x, q_x), (dx, o_dx), (gs, q_gs), (dgs, o_dgs), (st, q_st), (dst, o_dst), (nl, q_nl), (f1, o_f1), (f2, o_f2), (c, q_c), (e, q_e), (zz, q_zz), (dz, o_dz), (cu, q_cu), (p0, q_p0), (p1, q_p1), (to, q_to), (t0, q_t0), (L + 1 + 1 + 1, ow), (L + 1 + 1, ok), (L + 1, od), (435, oP)] := by
    refine cb_drop N ?_
    repeat' (first | exact List.forall_mem_nil _ | (refine Mine.fa_cons ?_ ?_) | assumption)
  have F2 := fr_at F hmany
  clear F N hmany h_z h_x h_dx h_gs h_dgs h_st h_dst h_nl h_f1 h_f2 h_c h_e h_zz h_dz h_cu h_p0 h_p1 h_to h_t0 h_lw h_lc h_ld h_P
  obtain ⟨e1, e2, e3, e4⟩ := fn_inj (hl.symm.trans (by k_is))
  subst ha
  subst hcl
  subst hvs
  subst e1
  subst e2
  subst e3
  subst e4
  clear hl
  (refine Mine.wp_top ?_; intro ev Aw)
  k_steps
  · exfalso
    rename ((_ != decide _) = true) => hA
    rw [decide_eq_true (show many < 0 by omega)] at hA
    exact absurd hA (by decide)
  · apply hret
    rotate_left 1
    · first | with_reducible assumption | k_ne
    · refine' cb_drop ?qN1 ?qN2
      case qN1 => with_reducible assumption
      case qN2 => repeat' (first | exact List.forall_mem_nil _ | (refine Mine.fa_cons ?_ ?_) | (k_mem; done))
    · first | with_reducible assumption | k_ne
    · first | with_reducible assumption | k_ne
    · first | with_reducible assumption | k_ne
    · first | with_reducible assumption | k_ne | assumption
    · first | with_reducible assumption | exact KtsTurn.refl
end
end Mine
end

end

section
open PySem PySem.W PyProof.Rows
namespace Mine
section
variable {w : World} {p : Program} {loose : List Str} {mean : ExcName → Option Value} {mg mb : Str → Option Value}
    {gd : Option (List Code)} {cn : Str} {cs : Scope} {a : Addr} {ccd : Value} {cl : List (Str × Addr)} {outer : List Env} {A₀ : Around} {base h₀ : Heap} {L : Addr} {m : Str → Option Value} {news : List (Addr × Obj)} {s : Shared} {Q E : Value → Shared → Prop}
    (B : Below A₀ base outer h₀) (F : Fr h₀ L s.heap m) (X : (Mine.hd.heap_1 w.params).In h₀) (N : News h₀ L s.heap news) (T : Top p loose mean mg mb h₀) (hk : cs.kind = .function)
include B F X N T hk
theorem cs_all {x dx gs dgs st dst nl f1 f2 rd e c zz dz zo org cu to en ocv p0 p1 t0 t1 z : Addr} {tc tm z0 z1 b0 b1 b2 b3 ncu nto nt n ne nc : Nat} {pp code b many : Int} {vs : Array Value} {ow ok od oP oz : Obj} {vk : Option Value} {nm : Str} {pr : Arguments} {s1 s2 s3 s4 s5 : Stmt} {rest : List Stmt} {dV kV doc pm ct oc1 : Value} {an od1 : Option Addr} {osl : Array (Option Value)} {QF : Flow → Shared → Prop} {o_dx o_dgs o_dst o_dz o_f1 o_f2 : Obj}
    (h_x : (x, instObj 331 dx) ∈ news) (h_dx : (dx, o_dx) ∈ news) (k_dx : WkOk w o_dx gs st e c pp) (h_gs : (gs, instObj 217 dgs) ∈ news) (h_dgs : (dgs, o_dgs) ∈ news) (k_dgs : GsOk w o_dgs f1 f2 rd) (h_st : (st, instObj 280 dst) ∈ news) (h_dst : (dst, o_dst) ∈ news) (k_dst : StOk w o_dst nl) (h_nl : (nl, listOf vs n) ∈ news) (h_f1 : (f1, o_f1) ∈ news) (k_f1 : Pr o_f1 16384 0) (h_f2 : (f2, o_f2) ∈ news) (k_f2 : Pr o_f2 16384 0) (h_c : (c, listOf #[.int 0 z0, .int 5 z1] nc) ∈ news) (h_e : (e, listOf #[.ref zo, .ref zz] ne) ∈ news) (h_zz : (zz, instObj 387 dz) ∈ news) (h_dz : (dz, o_dz) ∈ news) (k_dz : ZnOk w o_dz org cu to en ocv) (h_cu : (cu, listOf #[.ref p0, .ref p1] ncu) ∈ news) (h_p0 : (p0, ({ cls := .type "tuple", data := .seq #[.int 0 b0, .int 0 b1] } : Obj)) ∈ news) (h_p1 : (p1, ({ cls := .type "tuple", data := .seq #[.int 5 b2, .int 5 b3] } : Obj)) ∈ news) (h_to : (to, listOf #[.ref t0, .ref t1] nto) ∈ news) (h_t0 : (t0, listOf #[.bool false, .bool false] nt) ∈ news) (h_lw : (L + 1 + 1 + 1, ow) ∈ news) (h_lc : (L + 1 + 1, ok) ∈ news) (h_ld : (L + 1, od) ∈ news) (h_P : (435, oP) ∈ news) (h_z : (z, oz) ∈ news)
    (hl : (Mine.hd.heap_1 w.params).lookup 440 = some ⟨oc1, od1, .func (fnOf nm cn pr (s1 :: s2 :: s3 :: s4 :: s5 :: rest) cs dV kV doc pm an ccd ct), osl⟩) (ha : a = 440) (hcl : cl = cellsFrom (L + 1) cs.names [])
    (XB : (Mine.hd.heap_1 w.params).In base) (TB : Top p loose mean mg mb base) (C : CodeHd base 439 435) (D : KtsDicts (outer.filterMap (·.frame)) h₀) (st9 : LSt LQ LP oP z oz)
    (hmany : m (Str.ofString "many") = some (.int many tm)) (dw : ow.data = .cell (some (.ref x))) (dk : ok.data = .cell vk) (dd : od.data = .cell (some (.int code tc)))
    (hpp : pp = 9 + b) (hcb : CBp code b ∨ CBc code b) (hst : StkOk many vs) (hm : -3 ≤ many ∧ many ≤ 2) (n_x_nl : HN x nl) (n_dx_nl : HN dx nl) (n_gs_nl : HN gs nl) (n_dgs_nl : HN dgs nl) (n_st_nl : HN st nl) (n_dst_nl : HN dst nl) (n_c_nl : HN c nl) (n_e_nl : HN e nl) (n_zz_nl : HN zz nl) (n_dz_nl : HN dz nl) (n_cu_nl : HN cu nl) (n_p0_nl : HN p0 nl) (n_p1_nl : HN p1 nl) (n_lw_nl : HN (L + 1 + 1 + 1) nl) (n_lc_nl : HN (L + 1 + 1) nl) (n_ld_nl : HN (L + 1) nl) (n_P_nl : HN 435 nl) (n_x_c : HN x c) (n_dx_c : HN dx c) (n_gs_c : HN gs c) (n_dgs_c : HN dgs c) (n_st_c : HN st c) (n_dst_c : HN dst c) (n_e_c : HN e c) (n_zz_c : HN zz c) (n_dz_c : HN dz c) (n_cu_c : HN cu c) (n_p0_c : HN p0 c) (n_p1_c : HN p1 c) (n_lw_c : HN (L + 1 + 1 + 1) c) (n_lc_c : HN (L + 1 + 1) c) (n_ld_c : HN (L + 1) c) (n_P_c : HN 435 c) (n_x_P : HN x 435) (n_dx_P : HN dx 435) (n_gs_P : HN gs 435) (n_dgs_P : HN dgs 435) (n_st_P : HN st 435) (n_dst_P : HN dst 435) (n_e_P : HN e 435) (n_zz_P : HN zz 435) (n_dz_P : HN dz 435) (n_cu_P : HN cu 435) (n_p0_P : HN p0 435) (n_p1_P : HN p1 435) (n_lw_P : HN (L + 1 + 1 + 1) 435) (n_lc_P : HN (L + 1 + 1) 435) (n_ld_P : HN (L + 1) 435) (nz_x : HN x z) (nz_dx : HN dx z) (nz_gs : HN gs z) (nz_dgs : HN dgs z) (nz_st : HN st z) (nz_dst : HN dst z) (nz_nl : HN nl z) (nz_c : HN c z) (nz_e : HN e z) (nz_zz : HN zz z) (nz_dz : HN dz z) (nz_cu : HN cu z) (nz_p0 : HN p0 z) (nz_p1 : HN p1 z) (nz_lw : HN (L + 1 + 1 + 1) z) (nz_lc : HN (L + 1 + 1) z) (nz_ld : HN (L + 1) z) (nz_P : HN 435 z) (nk_x : HN x (L + 1 + 1)) (nk_dx : HN dx (L + 1 + 1)) (nk_gs : HN gs (L + 1 + 1)) (nk_dgs : HN dgs (L + 1 + 1)) (nk_st : HN st (L + 1 + 1)) (nk_dst : HN dst (L + 1 + 1)) (nk_e : HN e (L + 1 + 1)) (nk_zz : HN zz (L + 1 + 1)) (nk_dz : HN dz (L + 1 + 1)) (nk_cu : HN cu (L + 1 + 1)) (nk_p0 : HN p0 (L + 1 + 1)) (nk_p1 : HN p1 (L + 1 + 1)) (nk_lw : HN (L + 1 + 1 + 1) (L + 1 + 1)) (nk_ld : HN (L + 1) (L + 1 + 1)) (nk_z : HN z (L + 1 + 1)) (n_f1_nl : HN f1 nl) (n_f2_nl : HN f2 nl) (n_to_nl : HN to nl) (n_t0_nl : HN t0 nl) (n_x_cu : HN x cu) (n_dx_cu : HN dx cu) (n_gs_cu : HN gs cu) (n_dgs_cu : HN dgs cu) (n_st_cu : HN st cu) (n_dst_cu : HN dst cu) (n_f1_cu : HN f1 cu) (n_f2_cu : HN f2 cu) (n_c_cu : HN c cu) (n_e_cu : HN e cu) (n_zz_cu : HN zz cu) (n_dz_cu : HN dz cu) (n_p0_cu : HN p0 cu) (n_p1_cu : HN p1 cu) (n_to_cu : HN to cu) (n_t0_cu : HN t0 cu) (n_lw_cu : HN (L + 1 + 1 + 1) cu) (n_lc_cu : HN (L + 1 + 1) cu) (n_ld_cu : HN (L + 1) cu) (n_P_cu : HN 435 cu) (n_x_t0 : HN x t0) (n_dx_t0 : HN dx t0) (n_gs_t0 : HN gs t0) (n_dgs_t0 : HN dgs t0) (n_st_t0 : HN st t0) (n_dst_t0 : HN dst t0) (n_f1_t0 : HN f1 t0) (n_f2_t0 : HN f2 t0) (n_c_t0 : HN c t0) (n_e_t0 : HN e t0) (n_zz_t0 : HN zz t0) (n_dz_t0 : HN dz t0) (n_p0_t0 : HN p0 t0) (n_p1_t0 : HN p1 t0) (n_to_t0 : HN to t0) (n_lw_t0 : HN (L + 1 + 1 + 1) t0) (n_lc_t0 : HN (L + 1 + 1) t0) (n_ld_t0 : HN (L + 1) t0) (n_P_t0 : HN 435 t0) (n_f1_P : HN f1 435) (n_f2_P : HN f2 435) (n_c_P : HN c 435) (n_to_P : HN to 435) (nz_f1 : HN f1 z) (nz_f2 : HN f2 z) (nz_to : HN to z) (nz_t0 : HN t0 z) (nk_f1 : HN f1 (L + 1 + 1)) (nk_f2 : HN f2 (L + 1 + 1)) (nk_c : HN c (L + 1 + 1)) (nk_to : HN to (L + 1 + 1))
    (hret : ∀ g'' c' oc vs t m' h' tk', KtsTurn (outer.filterMap (·.frame)) h₀ g'' → Fr g'' L h' m' → News g'' L h' [(435, tabObj #[rawInt LP.line, rawInt LP.col, .ref c']), (c', oc), (z, oz)] → HN 435 c' → ((oP = tabObj #[] → HN z c') ∧ (oP ≠ tabObj #[] → c' = z ∧ oc = oz)) → oc.data = .fields vs → vs[1]? = some (.str LQ t) → QF (.ret (.bool true)) { s with heap := h', toks := tk' }) :
    wpAny (model PG w) (ktrTop 640 5600 gd cn cs L a ccd cl outer) (execs rest (envX cn cs L a ccd cl)) QF E s := by
  have hneg : many < 0 → ∃ w0 w1 w2 : Nat, vs = #[.int 8 w0, .int 0 w1, .int many w2] := by
    intro h
    obtain ⟨w0, w1, w2, ⟨_, e⟩ | ⟨e, _⟩⟩ := hst
    · exact ⟨w0, w1, w2, e⟩
    · omega
  rcases hcb with hb | hb
  · by_cases h : many < 0
    · obtain ⟨w0, w1, w2, hvs⟩ := hneg h
      exact cs_p_neg (B := B) (F := F) (X := X) (N := N) (T := T) (hk := hk) (h_x := h_x) (h_dx := h_dx) (k_dx := k_dx) (h_gs := h_gs) (h_dgs := h_dgs) (k_dgs := k_dgs) (h_st := h_st) (h_dst := h_dst) (k_dst := k_dst) (h_nl := h_nl) (h_f1 := h_f1) (k_f1 := k_f1) (h_f2 := h_f2) (k_f2 := k_f2) (h_c := h_c) (h_e := h_e) (h_zz := h_zz) (h_dz := h_dz) (k_dz := k_dz) (h_cu := h_cu) (h_p0 := h_p0) (h_p1 := h_p1) (h_to := h_to) (h_t0 := h_t0) (h_lw := h_lw) (h_lc := h_lc) (h_ld := h_ld) (h_P := h_P) (h_z := h_z) (o_f1 := o_f1) (o_f2 := o_f2) (hl := hl) (t0 := t0) (t1 := t1) (nto := nto) (nt := nt) (ha := ha) (hcl := hcl) (XB := XB) (TB := TB) (C := C) (D := D) (st9 := st9) (hmany := hmany) (dw := dw) (dk := dk) (dd := dd) (hpp := hpp) (hb := hb) (hvs := hvs) (hm := by omega) (n_x_nl := n_x_nl) (n_dx_nl := n_dx_nl) (n_gs_nl := n_gs_nl) (n_dgs_nl := n_dgs_nl) (n_st_nl := n_st_nl) (n_dst_nl := n_dst_nl) (n_f1_nl := n_f1_nl) (n_f2_nl := n_f2_nl) (n_c_nl := n_c_nl) (n_e_nl := n_e_nl) (n_zz_nl := n_zz_nl) (n_dz_nl := n_dz_nl) (n_cu_nl := n_cu_nl) (n_p0_nl := n_p0_nl) (n_p1_nl := n_p1_nl) (n_to_nl := n_to_nl) (n_t0_nl := n_t0_nl) (n_lw_nl := n_lw_nl) (n_lc_nl := n_lc_nl) (n_ld_nl := n_ld_nl) (n_P_nl := n_P_nl) (n_x_cu := n_x_cu) (n_dx_cu := n_dx_cu) (n_gs_cu := n_gs_cu) (n_dgs_cu := n_dgs_cu) (n_st_cu := n_st_cu) (n_dst_cu := n_dst_cu) (n_f1_cu := n_f1_cu) (n_f2_cu := n_f2_cu) (n_c_cu := n_c_cu) (n_e_cu := n_e_cu) (n_zz_cu := n_zz_cu) (n_dz_cu := n_dz_cu) (n_p0_cu := n_p0_cu) (n_p1_cu := n_p1_cu) (n_to_cu := n_to_cu) (n_t0_cu := n_t0_cu) (n_lw_cu := n_lw_cu) (n_lc_cu := n_lc_cu) (n_ld_cu := n_ld_cu) (n_P_cu := n_P_cu) (n_x_t0 := n_x_t0) (n_dx_t0 := n_dx_t0) (n_gs_t0 := n_gs_t0) (n_dgs_t0 := n_dgs_t0) (n_st_t0 := n_st_t0) (n_dst_t0 := n_dst_t0) (n_f1_t0 := n_f1_t0) (n_f2_t0 := n_f2_t0) (n_c_t0 := n_c_t0) (n_e_t0 := n_e_t0) (n_zz_t0 := n_zz_t0) (n_dz_t0 := n_dz_t0) (n_p0_t0 := n_p0_t0) (n_p1_t0 := n_p1_t0) (n_to_t0 := n_to_t0) (n_lw_t0 := n_lw_t0) (n_lc_t0 := n_lc_t0) (n_ld_t0 := n_ld_t0) (n_P_t0 := n_P_t0) (n_x_P := n_x_P) (n_dx_P := n_dx_P) (n_gs_P := n_gs_P) (n_dgs_P := n_dgs_P) (n_st_P := n_st_P) (n_dst_P := n_dst_P) (n_f1_P := n_f1_P) (n_f2_P := n_f2_P) (n_c_P := n_c_P) (n_e_P := n_e_P) (n_zz_P := n_zz_P) (n_dz_P := n_dz_P) (n_p0_P := n_p0_P) (n_p1_P := n_p1_P) (n_to_P := n_to_P) (n_lw_P := n_lw_P) (n_lc_P := n_lc_P) (n_ld_P := n_ld_P) (nz_x := nz_x) (nz_dx := nz_dx) (nz_gs := nz_gs) (nz_dgs := nz_dgs) (nz_st := nz_st) (nz_dst := nz_dst) (nz_nl := nz_nl) (nz_f1 := nz_f1) (nz_f2 := nz_f2) (nz_c := nz_c) (nz_e := nz_e) (nz_zz := nz_zz) (nz_dz := nz_dz) (nz_cu := nz_cu) (nz_p0 := nz_p0) (nz_p1 := nz_p1) (nz_to := nz_to) (nz_t0 := nz_t0) (nz_lw := nz_lw) (nz_lc := nz_lc) (nz_ld := nz_ld) (nz_P := nz_P) (nk_x := nk_x) (nk_dx := nk_dx) (nk_gs := nk_gs) (nk_dgs := nk_dgs) (nk_st := nk_st) (nk_dst := nk_dst) (nk_f1 := nk_f1) (nk_f2 := nk_f2) (nk_c := nk_c) (nk_e := nk_e) (nk_zz := nk_zz) (nk_dz := nk_dz) (nk_p0 := nk_p0) (nk_p1 := nk_p1) (nk_to := nk_to) (nk_lw := nk_lw) (nk_ld := nk_ld) (nk_z := nk_z) (hret := hret)
    · exact cs_p_nn (B := B) (F := F) (X := X) (N := N) (T := T) (hk := hk) (h_x := h_x) (h_dx := h_dx) (k_dx := k_dx) (h_gs := h_gs) (h_dgs := h_dgs) (k_dgs := k_dgs) (h_st := h_st) (h_dst := h_dst) (k_dst := k_dst) (h_nl := h_nl) (h_f1 := h_f1) (k_f1 := k_f1) (h_f2 := h_f2) (k_f2 := k_f2) (h_c := h_c) (h_e := h_e) (h_zz := h_zz) (h_dz := h_dz) (k_dz := k_dz) (h_cu := h_cu) (h_p0 := h_p0) (h_p1 := h_p1) (h_to := h_to) (h_t0 := h_t0) (h_lw := h_lw) (h_lc := h_lc) (h_ld := h_ld) (h_P := h_P) (h_z := h_z) (o_f1 := o_f1) (o_f2 := o_f2) (hl := hl) (t0 := t0) (t1 := t1) (nto := nto) (nt := nt) (ha := ha) (hcl := hcl) (XB := XB) (TB := TB) (C := C) (D := D) (st9 := st9) (hmany := hmany) (dw := dw) (dk := dk) (dd := dd) (hpp := hpp) (hb := hb) (hst := hst) (hm := by omega) (n_x_nl := n_x_nl) (n_dx_nl := n_dx_nl) (n_gs_nl := n_gs_nl) (n_dgs_nl := n_dgs_nl) (n_st_nl := n_st_nl) (n_dst_nl := n_dst_nl) (n_f1_nl := n_f1_nl) (n_f2_nl := n_f2_nl) (n_c_nl := n_c_nl) (n_e_nl := n_e_nl) (n_zz_nl := n_zz_nl) (n_dz_nl := n_dz_nl) (n_cu_nl := n_cu_nl) (n_p0_nl := n_p0_nl) (n_p1_nl := n_p1_nl) (n_to_nl := n_to_nl) (n_t0_nl := n_t0_nl) (n_lw_nl := n_lw_nl) (n_lc_nl := n_lc_nl) (n_ld_nl := n_ld_nl) (n_P_nl := n_P_nl) (n_x_cu := n_x_cu) (n_dx_cu := n_dx_cu) (n_gs_cu := n_gs_cu) (n_dgs_cu := n_dgs_cu) (n_st_cu := n_st_cu) (n_dst_cu := n_dst_cu) (n_f1_cu := n_f1_cu) (n_f2_cu := n_f2_cu) (n_c_cu := n_c_cu) (n_e_cu := n_e_cu) (n_zz_cu := n_zz_cu) (n_dz_cu := n_dz_cu) (n_p0_cu := n_p0_cu) (n_p1_cu := n_p1_cu) (n_to_cu := n_to_cu) (n_t0_cu := n_t0_cu) (n_lw_cu := n_lw_cu) (n_lc_cu := n_lc_cu) (n_ld_cu := n_ld_cu) (n_P_cu := n_P_cu) (n_x_t0 := n_x_t0) (n_dx_t0 := n_dx_t0) (n_gs_t0 := n_gs_t0) (n_dgs_t0 := n_dgs_t0) (n_st_t0 := n_st_t0) (n_dst_t0 := n_dst_t0) (n_f1_t0 := n_f1_t0) (n_f2_t0 := n_f2_t0) (n_c_t0 := n_c_t0) (n_e_t0 := n_e_t0) (n_zz_t0 := n_zz_t0) (n_dz_t0 := n_dz_t0) (n_p0_t0 := n_p0_t0) (n_p1_t0 := n_p1_t0) (n_to_t0 := n_to_t0) (n_lw_t0 := n_lw_t0) (n_lc_t0 := n_lc_t0) (n_ld_t0 := n_ld_t0) (n_P_t0 := n_P_t0) (n_x_P := n_x_P) (n_dx_P := n_dx_P) (n_gs_P := n_gs_P) (n_dgs_P := n_dgs_P) (n_st_P := n_st_P) (n_dst_P := n_dst_P) (n_f1_P := n_f1_P) (n_f2_P := n_f2_P) (n_c_P := n_c_P) (n_e_P := n_e_P) (n_zz_P := n_zz_P) (n_dz_P := n_dz_P) (n_p0_P := n_p0_P) (n_p1_P := n_p1_P) (n_to_P := n_to_P) (n_lw_P := n_lw_P) (n_lc_P := n_lc_P) (n_ld_P := n_ld_P) (nz_x := nz_x) (nz_dx := nz_dx) (nz_gs := nz_gs) (nz_dgs := nz_dgs) (nz_st := nz_st) (nz_dst := nz_dst) (nz_nl := nz_nl) (nz_f1 := nz_f1) (nz_f2 := nz_f2) (nz_c := nz_c) (nz_e := nz_e) (nz_zz := nz_zz) (nz_dz := nz_dz) (nz_cu := nz_cu) (nz_p0 := nz_p0) (nz_p1 := nz_p1) (nz_to := nz_to) (nz_t0 := nz_t0) (nz_lw := nz_lw) (nz_lc := nz_lc) (nz_ld := nz_ld) (nz_P := nz_P) (nk_x := nk_x) (nk_dx := nk_dx) (nk_gs := nk_gs) (nk_dgs := nk_dgs) (nk_st := nk_st) (nk_dst := nk_dst) (nk_f1 := nk_f1) (nk_f2 := nk_f2) (nk_c := nk_c) (nk_e := nk_e) (nk_zz := nk_zz) (nk_dz := nk_dz) (nk_p0 := nk_p0) (nk_p1 := nk_p1) (nk_to := nk_to) (nk_lw := nk_lw) (nk_ld := nk_ld) (nk_z := nk_z) (hret := hret)
  · by_cases h : many < 0
    · obtain ⟨w0, w1, w2, hvs⟩ := hneg h
      exact cs_c_neg (B := B) (F := F) (X := X) (N := N) (T := T) (hk := hk) (h_x := h_x) (h_dx := h_dx) (k_dx := k_dx) (h_gs := h_gs) (h_dgs := h_dgs) (k_dgs := k_dgs) (h_st := h_st) (h_dst := h_dst) (k_dst := k_dst) (h_nl := h_nl) (h_c := h_c) (h_e := h_e) (h_zz := h_zz) (h_dz := h_dz) (k_dz := k_dz) (h_cu := h_cu) (h_p0 := h_p0) (h_p1 := h_p1) (h_lw := h_lw) (h_lc := h_lc) (h_ld := h_ld) (h_P := h_P) (h_z := h_z) (o_f1 := o_f1) (o_f2 := o_f2) (hl := hl) (t0 := t0) (t1 := t1) (nto := nto) (nt := nt) (ha := ha) (hcl := hcl) (XB := XB) (TB := TB) (C := C) (D := D) (st9 := st9) (hmany := hmany) (dw := dw) (dk := dk) (dd := dd) (hpp := hpp) (hb := hb) (hvs := hvs) (hm := by omega) (n_x_nl := n_x_nl) (n_dx_nl := n_dx_nl) (n_gs_nl := n_gs_nl) (n_dgs_nl := n_dgs_nl) (n_st_nl := n_st_nl) (n_dst_nl := n_dst_nl) (n_c_nl := n_c_nl) (n_e_nl := n_e_nl) (n_zz_nl := n_zz_nl) (n_dz_nl := n_dz_nl) (n_cu_nl := n_cu_nl) (n_p0_nl := n_p0_nl) (n_p1_nl := n_p1_nl) (n_lw_nl := n_lw_nl) (n_lc_nl := n_lc_nl) (n_ld_nl := n_ld_nl) (n_P_nl := n_P_nl) (n_x_c := n_x_c) (n_dx_c := n_dx_c) (n_gs_c := n_gs_c) (n_dgs_c := n_dgs_c) (n_st_c := n_st_c) (n_dst_c := n_dst_c) (n_e_c := n_e_c) (n_zz_c := n_zz_c) (n_dz_c := n_dz_c) (n_cu_c := n_cu_c) (n_p0_c := n_p0_c) (n_p1_c := n_p1_c) (n_lw_c := n_lw_c) (n_lc_c := n_lc_c) (n_ld_c := n_ld_c) (n_P_c := n_P_c) (n_x_P := n_x_P) (n_dx_P := n_dx_P) (n_gs_P := n_gs_P) (n_dgs_P := n_dgs_P) (n_st_P := n_st_P) (n_dst_P := n_dst_P) (n_e_P := n_e_P) (n_zz_P := n_zz_P) (n_dz_P := n_dz_P) (n_cu_P := n_cu_P) (n_p0_P := n_p0_P) (n_p1_P := n_p1_P) (n_lw_P := n_lw_P) (n_lc_P := n_lc_P) (n_ld_P := n_ld_P) (nz_x := nz_x) (nz_dx := nz_dx) (nz_gs := nz_gs) (nz_dgs := nz_dgs) (nz_st := nz_st) (nz_dst := nz_dst) (nz_nl := nz_nl) (nz_c := nz_c) (nz_e := nz_e) (nz_zz := nz_zz) (nz_dz := nz_dz) (nz_cu := nz_cu) (nz_p0 := nz_p0) (nz_p1 := nz_p1) (nz_lw := nz_lw) (nz_lc := nz_lc) (nz_ld := nz_ld) (nz_P := nz_P) (nk_x := nk_x) (nk_dx := nk_dx) (nk_gs := nk_gs) (nk_dgs := nk_dgs) (nk_st := nk_st) (nk_dst := nk_dst) (nk_e := nk_e) (nk_zz := nk_zz) (nk_dz := nk_dz) (nk_cu := nk_cu) (nk_p0 := nk_p0) (nk_p1 := nk_p1) (nk_lw := nk_lw) (nk_ld := nk_ld) (nk_z := nk_z) (hret := hret)
    · exact cs_c_nn (B := B) (F := F) (X := X) (N := N) (T := T) (hk := hk) (h_x := h_x) (h_dx := h_dx) (k_dx := k_dx) (h_gs := h_gs) (h_dgs := h_dgs) (k_dgs := k_dgs) (h_st := h_st) (h_dst := h_dst) (k_dst := k_dst) (h_nl := h_nl) (h_c := h_c) (h_e := h_e) (h_zz := h_zz) (h_dz := h_dz) (k_dz := k_dz) (h_cu := h_cu) (h_p0 := h_p0) (h_p1 := h_p1) (h_lw := h_lw) (h_lc := h_lc) (h_ld := h_ld) (h_P := h_P) (h_z := h_z) (o_f1 := o_f1) (o_f2 := o_f2) (hl := hl) (t0 := t0) (t1 := t1) (nto := nto) (nt := nt) (ha := ha) (hcl := hcl) (XB := XB) (TB := TB) (C := C) (D := D) (st9 := st9) (hmany := hmany) (dw := dw) (dk := dk) (dd := dd) (hpp := hpp) (hb := hb) (hst := hst) (hm := by omega) (n_x_nl := n_x_nl) (n_dx_nl := n_dx_nl) (n_gs_nl := n_gs_nl) (n_dgs_nl := n_dgs_nl) (n_st_nl := n_st_nl) (n_dst_nl := n_dst_nl) (n_c_nl := n_c_nl) (n_e_nl := n_e_nl) (n_zz_nl := n_zz_nl) (n_dz_nl := n_dz_nl) (n_cu_nl := n_cu_nl) (n_p0_nl := n_p0_nl) (n_p1_nl := n_p1_nl) (n_lw_nl := n_lw_nl) (n_lc_nl := n_lc_nl) (n_ld_nl := n_ld_nl) (n_P_nl := n_P_nl) (n_x_c := n_x_c) (n_dx_c := n_dx_c) (n_gs_c := n_gs_c) (n_dgs_c := n_dgs_c) (n_st_c := n_st_c) (n_dst_c := n_dst_c) (n_e_c := n_e_c) (n_zz_c := n_zz_c) (n_dz_c := n_dz_c) (n_cu_c := n_cu_c) (n_p0_c := n_p0_c) (n_p1_c := n_p1_c) (n_lw_c := n_lw_c) (n_lc_c := n_lc_c) (n_ld_c := n_ld_c) (n_P_c := n_P_c) (n_x_P := n_x_P) (n_dx_P := n_dx_P) (n_gs_P := n_gs_P) (n_dgs_P := n_dgs_P) (n_st_P := n_st_P) (n_dst_P := n_dst_P) (n_e_P := n_e_P) (n_zz_P := n_zz_P) (n_dz_P := n_dz_P) (n_cu_P := n_cu_P) (n_p0_P := n_p0_P) (n_p1_P := n_p1_P) (n_lw_P := n_lw_P) (n_lc_P := n_lc_P) (n_ld_P := n_ld_P) (nz_x := nz_x) (nz_dx := nz_dx) (nz_gs := nz_gs) (nz_dgs := nz_dgs) (nz_st := nz_st) (nz_dst := nz_dst) (nz_nl := nz_nl) (nz_c := nz_c) (nz_e := nz_e) (nz_zz := nz_zz) (nz_dz := nz_dz) (nz_cu := nz_cu) (nz_p0 := nz_p0) (nz_p1 := nz_p1) (nz_lw := nz_lw) (nz_lc := nz_lc) (nz_ld := nz_ld) (nz_P := nz_P) (nk_x := nk_x) (nk_dx := nk_dx) (nk_gs := nk_gs) (nk_dgs := nk_dgs) (nk_st := nk_st) (nk_dst := nk_dst) (nk_e := nk_e) (nk_zz := nk_zz) (nk_dz := nk_dz) (nk_cu := nk_cu) (nk_p0 := nk_p0) (nk_p1 := nk_p1) (nk_lw := nk_lw) (nk_ld := nk_ld) (nk_z := nk_z) (hret := hret)
end
end Mine
end

section
open PySem PySem.W PyProof.Rows
namespace Mine
theorem hn_mk {a b : Nat} (h : a ≠ b) : HN a b := h
theorem cnt_fresh {h₀ h g g2 : Heap} {L c' : Addr} {fs : List Addr} {news small : List (Addr × Obj)} (N : News h₀ L h news) (hGK : ∀ b o, h.get? b = some o → b ∉ small.map (·.1) → g.get? b = some o) (T : KtsTurn fs g g2) (e : g2.get? c' = none)
    (hs : ∀ q ∈ small, q.1 ≠ c') : ∀ q ∈ news, q.1 ≠ c' := by
  intro q hq ex
  by_cases hm : q.1 ∈ small.map (·.1)
  · obtain ⟨y, hy, ey⟩ := List.mem_map.mp hm
    exact hs y hy (ey.trans ex)
  · obtain ⟨sl, z⟩ := T.up (hGK _ _ (N q hq).1 hm)
    rw [ex, e] at z
    cases z
theorem cnt_back {h₀ h h' : Heap} {L c' z P : Addr} {oP oz oc o' : Obj} {news : List (Addr × Obj)} {g : Obj → List (Addr × Obj)} (N : News h₀ L h news) (U : UpdF P oP news g) (K : KeptL L [(P, oP), (z, oz)] h h') (hz : (z, oz) ∈ news)
    (N' : News h₀ L h' [(P, o'), (c', oc), (z, oz)]) : News h₀ L h' ((c', oc) :: g o') := by
  obtain ⟨pre, post, e, hg, h1, h2⟩ := U.split
  have key : ∀ q ∈ news, q.1 ≠ P → h'.get? q.1 = some q.2 ∧ q.1 ≠ L ∧ h₀.get? q.1 = none := by
    intro q hq n
    refine ⟨?_, (N q hq).2⟩
    by_cases hqz : q.1 = z
    · have a := (N q hq).1
      have b := (N _ hz).1
      have c := (N' (z, oz) (by simp)).1
      rw [hqz] at a ⊢
      rw [b] at a
      cases a
      exact c
    · refine K _ _ (N q hq).1 ?_ (N q hq).2.1
      simp [n, hqz]
  intro q hq
  rcases List.mem_cons.mp hq with rfl | hq
  · exact N' _ (by simp)
  · rw [hg] at hq
    rcases List.mem_append.mp hq with hq | hq
    · exact key q (e ▸ List.mem_append_left _ hq) (h1 q hq)
    · rcases List.mem_cons.mp hq with rfl | hq
      · exact N' _ (by simp)
      · exact key q (e ▸ List.mem_append_right _ (List.mem_cons_of_mem _ hq)) (h2 q hq)
end Mine
namespace Mine
theorem kys_code {c b : Int} {D : List (PyData × PyData)} {C : PyData → Prop} {N : Prop} (hcb : CBp c b ∨ CBc c b) (hD : ∀ c b, CBp c b ∨ CBc c b → PySem.Spec.lookup (PyData.int c) D = some (PyData.int b)) (h : C (PyData.int b)) : KysD PyData.int c D C N := by
  unfold KysD
  rw [hD c b hcb]
  exact h
end Mine
end

theorem Mine.reg_x14 : True := by
  (k_with "x14 exec Raise some none" => (k_here; k_dflt (refine' Mine.raise_by (C := 72) ?hhY93 ?_; (case hhY93 => first | rfl | assumption)); (try dsimp only); (try k_fold)))
  (k_with "x14 RaiseEnd" => (k_dflt (refine' Mine.RaiseEnd.intro ?FY94 ?XY94 ?qY94 ?MY94 ?_; (case MY94 => with_reducible assumption); (case FY94 => k_asm); (case XY94 => k_asm); (case qY94 => kts_isx)); (try dsimp only)))
  (k_with "x14 leaving ref" => (k_here; first | (refine' Mine.leave_firstX ?hfY95 ?hkeY95 ?KY95 ?hxY95 ?FY95 ?NY95 ?_; (case hxY95 => with_reducible assumption); (case hfY95 => rfl); (case hkeY95 => rfl); (case FY95 => with_reducible assumption); (case KY95 => with_reducible assumption); (case NY95 => k_asm); k_whole; intro h'Z S'Z U'Z; (try dsimp only at S'Z U'Z ⊢)) | (refine' Mine.leave_onX ?hfY95 ?KY95 ?FY95 ?RY95 ?UY95 ?_; (case RY95 => with_reducible assumption); (case UY95 => with_reducible assumption); (case hfY95 => rfl); (case FY95 => with_reducible assumption); (case KY95 => with_reducible assumption); k_whole; intro h'Z S'Z U'Z; (try dsimp only at S'Z U'Z ⊢))))
  (k_with "x14 eval Lambda" => (k_here; k_dflt (refine' kla_eval ?d0Y101 ?_; (case d0Y101 => exact rfl)); k_dflt (refine' Mine.lam_any2 ?FY101 ?NY101 ?TY101 ?CY101 ?cdY101 ?UY101 ?hzY101 ?stY101 ?clY101 ?_; (case FY101 => k_asm); (case NY101 => with_reducible assumption); (case TY101 => k_asm); (case cdY101 => exact rfl); (case CY101 => first | with_reducible assumption | exact CodeHd.keeps (by with_reducible assumption) (Below.stays (by with_reducible assumption))); (case UY101 => k_updF); (case hzY101 => repeat' (first | exact True.intro | (refine And.intro ?_ ?_) | with_reducible assumption | (apply Mine.HN.out'; with_reducible assumption))); (case stY101 => first | with_reducible assumption | assumption); (case clY101 => exact rfl)); intro f'Z c'Z oc'Z ct'Z h'Z tk'Z vs'Z t'Z F'Z N'Z d1'Z d2'Z l1Z lzZ hcz'Z; (try dsimp only at N'Z); (try simp only [Mine.AllHL, and_true] at l1Z); (repeat (obtain ⟨_, l1Z⟩ : _ ∧ _ := l1Z)); (k_lt lzZ)))
  (k_with "x14 call ref cons nil" => (k_here; (with_reducible show wpAny _ _ (call (Value.ref 419) _ _) _ _ _); refine wpAny_call ?_; k_dflt (refine' Mine.enterSX ?k1Y102 ?k2Y102 ?k3Y102 ?k4Y102 ?k5Y102 ?XBY102 ?TBY102 ?DY102 ?T0Y102 ?kAY102 ?kfY102 ?kkY102 ?k6Y102 ?k7Y102 ?k8Y102 ?k9Y102 ?kBY102 ?_ ?c2Y102 ?c3Y102 ?c4Y102 ?c5Y102; (case kAY102 => exact rfl); (case kfY102 => exact rfl); (case kkY102 => exact rfl); (case k2Y102 => k_asm); (case k1Y102 => k_asm); (case XBY102 => assumption); (case TBY102 => assumption); (case DY102 => assumption); (case T0Y102 => first | assumption | exact KtsTurn.refl); (case k3Y102 => k_asm); (case k4Y102 => k_asm); (case k5Y102 => k_asm); (case k6Y102 => k_is); (case k7Y102 => k_is); (case k8Y102 => k_room); (case k9Y102 => exact BindsTo.of_eq rfl); (case kBY102 => exact locs rfl); (case c2Y102 => exact rfl); (case c3Y102 => exact rfl); (case c4Y102 => exact rfl); (case c5Y102 => decide); k_whole; intro g'Z L'Z h'Z FG'Z F'Z N'Z B'Z X'Z T'Z D'Z l1'Z; (try k_lt l1'Z); (try dsimp only); (try k_lift B'Z); first | (refine Mine.wp_enter ?_; intro evZ AwZ qkZ ekZ) | k_fold | skip)))
  (k_with "x14 call builtin:max" => (k_here; (with_reducible show wpAny _ _ (call (Value.builtin _) [Value.int _ _, Value.int _ _]) _ _ _); k_dflt (refine' Mine.max_to ?hhY103 ?FY103 ?NY103 ?eY103 ?_; (case hhY103 => rfl); (case FY103 => k_asm); (case NY103 => k_asm); (case eY103 => first | exact Mine.max_ge (by omega) | exact Mine.max_le (by omega))); intro t'Z h'Z tk'Z F'Z N'Z; (try dsimp only)))
  (k_with "x14 compareOp Eq ref ref" => (k_here; (with_reducible show wpAny _ _ (compareOp CmpOp.Eq (Value.ref _) (Value.ref _)) _ _ _); k_dflt (refine' Mine.eq_pts2 ?NY104 ?m1Y104 ?m2Y104 ?m3Y104 ?m4Y104 ?m5Y104 ?m6Y104 ?e1Y104 ?e2Y104 ?e3Y104 ?e4Y104 ?huY104 ?_; (case NY104 => k_asm); (case m1Y104 => k_mem); (case m2Y104 => k_mem); (case m3Y104 => k_mem); (case m4Y104 => k_mem); (case m5Y104 => k_mem); (case m6Y104 => k_mem); (case e1Y104 => rfl); (case e2Y104 => rfl); (case e3Y104 => rfl); (case e4Y104 => rfl); (case huY104 => ke_room))))
  (k_with "x14 KysD" => (k_here; k_dflt (refine' Mine.kys_code ?hbY112 ?hDY112 ?_; (case hbY112 => with_reducible assumption); (case hDY112 => (intro c9Z b9Z h9Z; rcases h9Z with (⟨e1Z, e2Z⟩ | ⟨e1Z, e2Z⟩ | ⟨e1Z, e2Z⟩) | (⟨e1Z, e2Z⟩ | ⟨e1Z, e2Z⟩ | ⟨e1Z, e2Z⟩) <;> (subst e1Z; subst e2Z; rfl))))))
  (k_with "x14 execs cons Assign cons" => (k_here; (with_reducible show wpAny _ _ (execs (Stmt.Assign _ (Expr.IfExp _ _ _ _) _ :: _) _) _ _ _); k_dflt (refine' Mine.at_room ?h1Y113 ?h2Y113 ?h3Y113 ?h5Y113 (Mine.cs_all ?BY113 ?FY113 ?XY113 ?NY113 ?TY113 ?hkY113 ?h_xY113 ?h_dxY113 ?k_dxY113 ?h_gsY113 ?h_dgsY113 ?k_dgsY113 ?h_stY113 ?h_dstY113 ?k_dstY113 ?h_nlY113 ?h_f1Y113 ?k_f1Y113 ?h_f2Y113 ?k_f2Y113 ?h_cY113 ?h_eY113 ?h_zzY113 ?h_dzY113 ?k_dzY113 ?h_cuY113 ?h_p0Y113 ?h_p1Y113 ?h_toY113 ?h_t0Y113 ?h_lwY113 ?h_lcY113 ?h_ldY113 ?h_PY113 ?h_zY113 ?hlY113 ?haY113 ?hclY113 ?XBY113 ?TBY113 ?CY113 ?DY113 ?st9Y113 ?hmanyY113 ?dwY113 ?dkY113 ?ddY113 ?hppY113 ?hcbY113 ?hstY113 ?hmY113 ?n_x_nlY113 ?n_dx_nlY113 ?n_gs_nlY113 ?n_dgs_nlY113 ?n_st_nlY113 ?n_dst_nlY113 ?n_c_nlY113 ?n_e_nlY113 ?n_zz_nlY113 ?n_dz_nlY113 ?n_cu_nlY113 ?n_p0_nlY113 ?n_p1_nlY113 ?n_lw_nlY113 ?n_lc_nlY113 ?n_ld_nlY113 ?n_P_nlY113 ?n_x_cY113 ?n_dx_cY113 ?n_gs_cY113 ?n_dgs_cY113 ?n_st_cY113 ?n_dst_cY113 ?n_e_cY113 ?n_zz_cY113 ?n_dz_cY113 ?n_cu_cY113 ?n_p0_cY113 ?n_p1_cY113 ?n_lw_cY113 ?n_lc_cY113 ?n_ld_cY113 ?n_P_cY113 ?n_x_PY113 ?n_dx_PY113 ?n_gs_PY113 ?n_dgs_PY113 ?n_st_PY113 ?n_dst_PY113 ?n_e_PY113 ?n_zz_PY113 ?n_dz_PY113 ?n_cu_PY113 ?n_p0_PY113 ?n_p1_PY113 ?n_lw_PY113 ?n_lc_PY113 ?n_ld_PY113 ?nz_xY113 ?nz_dxY113 ?nz_gsY113 ?nz_dgsY113 ?nz_stY113 ?nz_dstY113 ?nz_nlY113 ?nz_cY113 ?nz_eY113 ?nz_zzY113 ?nz_dzY113 ?nz_cuY113 ?nz_p0Y113 ?nz_p1Y113 ?nz_lwY113 ?nz_lcY113 ?nz_ldY113 ?nz_PY113 ?nk_xY113 ?nk_dxY113 ?nk_gsY113 ?nk_dgsY113 ?nk_stY113 ?nk_dstY113 ?nk_eY113 ?nk_zzY113 ?nk_dzY113 ?nk_cuY113 ?nk_p0Y113 ?nk_p1Y113 ?nk_lwY113 ?nk_ldY113 ?nk_zY113 ?n_f1_nlY113 ?n_f2_nlY113 ?n_to_nlY113 ?n_t0_nlY113 ?n_x_cuY113 ?n_dx_cuY113 ?n_gs_cuY113 ?n_dgs_cuY113 ?n_st_cuY113 ?n_dst_cuY113 ?n_f1_cuY113 ?n_f2_cuY113 ?n_c_cuY113 ?n_e_cuY113 ?n_zz_cuY113 ?n_dz_cuY113 ?n_p0_cuY113 ?n_p1_cuY113 ?n_to_cuY113 ?n_t0_cuY113 ?n_lw_cuY113 ?n_lc_cuY113 ?n_ld_cuY113 ?n_P_cuY113 ?n_x_t0Y113 ?n_dx_t0Y113 ?n_gs_t0Y113 ?n_dgs_t0Y113 ?n_st_t0Y113 ?n_dst_t0Y113 ?n_f1_t0Y113 ?n_f2_t0Y113 ?n_c_t0Y113 ?n_e_t0Y113 ?n_zz_t0Y113 ?n_dz_t0Y113 ?n_p0_t0Y113 ?n_p1_t0Y113 ?n_to_t0Y113 ?n_lw_t0Y113 ?n_lc_t0Y113 ?n_ld_t0Y113 ?n_P_t0Y113 ?n_f1_PY113 ?n_f2_PY113 ?n_c_PY113 ?n_to_PY113 ?nz_f1Y113 ?nz_f2Y113 ?nz_toY113 ?nz_t0Y113 ?nk_f1Y113 ?nk_f2Y113 ?nk_cY113 ?nk_toY113 ?_); (case h1Y113 => exact rfl); (case h3Y113 => exact rfl); (case h2Y113 => exact Nat.le_of_ble_eq_true rfl); (case h5Y113 => exact Nat.le_of_ble_eq_true rfl); (case BY113 => k_asm); (case FY113 => k_asm); (case XY113 => k_asm); (case NY113 => k_asm); (case TY113 => k_asm); (case hkY113 => first | exact rfl | assumption); (case h_xY113 => k_mem); (case h_dxY113 => k_mem); (case k_dxY113 => with_reducible assumption); (case h_gsY113 => k_mem); (case h_dgsY113 => k_mem); (case k_dgsY113 => with_reducible assumption); (case h_stY113 => k_mem); (case h_dstY113 => k_mem); (case k_dstY113 => with_reducible assumption); (case h_nlY113 => k_mem); (case h_f1Y113 => k_mem); (case k_f1Y113 => with_reducible assumption); (case h_f2Y113 => k_mem); (case k_f2Y113 => with_reducible assumption); (case h_cY113 => k_mem); (case h_eY113 => k_mem); (case h_zzY113 => k_mem); (case h_dzY113 => k_mem); (case k_dzY113 => with_reducible assumption); (case h_cuY113 => k_mem); (case h_p0Y113 => k_mem); (case h_p1Y113 => k_mem); (case h_toY113 => k_mem); (case h_t0Y113 => k_mem); (case h_lwY113 => k_mem); (case h_lcY113 => k_mem); (case h_ldY113 => k_mem); (case h_PY113 => k_mem); (case st9Y113 => with_reducible assumption); (case h_zY113 => k_mem); (case hlY113 => k_is); (case haY113 => exact rfl); (case hclY113 => exact rfl); (case XBY113 => with_reducible assumption); (case TBY113 => with_reducible assumption); (case CY113 => with_reducible assumption); (case DY113 => with_reducible assumption); (case hmanyY113 => exact rfl); (case dwY113 => with_reducible assumption); (case dkY113 => with_reducible assumption); (case ddY113 => with_reducible assumption); (case hppY113 => exact rfl); (case hcbY113 => with_reducible assumption); (case hstY113 => first | exact ⟨_, _, _, .inl ⟨by omega, rfl⟩⟩ | exact ⟨_, _, _, .inr ⟨rfl, _, _, rfl⟩⟩); (case hmY113 => omega); (case n_x_nlY113 => (refine Mine.hn_mk ?_; k_ne)); (case n_dx_nlY113 => (refine Mine.hn_mk ?_; k_ne)); (case n_gs_nlY113 => (refine Mine.hn_mk ?_; k_ne)); (case n_dgs_nlY113 => (refine Mine.hn_mk ?_; k_ne)); (case n_st_nlY113 => (refine Mine.hn_mk ?_; k_ne)); (case n_dst_nlY113 => (refine Mine.hn_mk ?_; k_ne)); (case n_c_nlY113 => (refine Mine.hn_mk ?_; k_ne)); (case n_e_nlY113 => (refine Mine.hn_mk ?_; k_ne)); (case n_zz_nlY113 => (refine Mine.hn_mk ?_; k_ne)); (case n_dz_nlY113 => (refine Mine.hn_mk ?_; k_ne)); (case n_cu_nlY113 => (refine Mine.hn_mk ?_; k_ne)); (case n_p0_nlY113 => (refine Mine.hn_mk ?_; k_ne)); (case n_p1_nlY113 => (refine Mine.hn_mk ?_; k_ne)); (case n_lw_nlY113 => (refine Mine.hn_mk ?_; k_ne)); (case n_lc_nlY113 => (refine Mine.hn_mk ?_; k_ne)); (case n_ld_nlY113 => (refine Mine.hn_mk ?_; k_ne)); (case n_P_nlY113 => (refine Mine.hn_mk ?_; k_ne)); (case n_x_cY113 => (refine Mine.hn_mk ?_; k_ne)); (case n_dx_cY113 => (refine Mine.hn_mk ?_; k_ne)); (case n_gs_cY113 => (refine Mine.hn_mk ?_; k_ne)); (case n_dgs_cY113 => (refine Mine.hn_mk ?_; k_ne)); (case n_st_cY113 => (refine Mine.hn_mk ?_; k_ne)); (case n_dst_cY113 => (refine Mine.hn_mk ?_; k_ne)); (case n_e_cY113 => (refine Mine.hn_mk ?_; k_ne)); (case n_zz_cY113 => (refine Mine.hn_mk ?_; k_ne)); (case n_dz_cY113 => (refine Mine.hn_mk ?_; k_ne)); (case n_cu_cY113 => (refine Mine.hn_mk ?_; k_ne)); (case n_p0_cY113 => (refine Mine.hn_mk ?_; k_ne)); (case n_p1_cY113 => (refine Mine.hn_mk ?_; k_ne)); (case n_lw_cY113 => (refine Mine.hn_mk ?_; k_ne)); (case n_lc_cY113 => (refine Mine.hn_mk ?_; k_ne)); (case n_ld_cY113 => (refine Mine.hn_mk ?_; k_ne)); (case n_P_cY113 => (refine Mine.hn_mk ?_; k_ne)); (case n_x_PY113 => (refine Mine.hn_mk ?_; k_ne)); (case n_dx_PY113 => (refine Mine.hn_mk ?_; k_ne)); (case n_gs_PY113 => (refine Mine.hn_mk ?_; k_ne)); (case n_dgs_PY113 => (refine Mine.hn_mk ?_; k_ne)); (case n_st_PY113 => (refine Mine.hn_mk ?_; k_ne)); (case n_dst_PY113 => (refine Mine.hn_mk ?_; k_ne)); (case n_e_PY113 => (refine Mine.hn_mk ?_; k_ne)); (case n_zz_PY113 => (refine Mine.hn_mk ?_; k_ne)); (case n_dz_PY113 => (refine Mine.hn_mk ?_; k_ne)); (case n_cu_PY113 => (refine Mine.hn_mk ?_; k_ne)); (case n_p0_PY113 => (refine Mine.hn_mk ?_; k_ne)); (case n_p1_PY113 => (refine Mine.hn_mk ?_; k_ne)); (case n_lw_PY113 => (refine Mine.hn_mk ?_; k_ne)); (case n_lc_PY113 => (refine Mine.hn_mk ?_; k_ne)); (case n_ld_PY113 => (refine Mine.hn_mk ?_; k_ne)); (case nz_xY113 => (refine Mine.hn_mk ?_; k_ne)); (case nz_dxY113 => (refine Mine.hn_mk ?_; k_ne)); (case nz_gsY113 => (refine Mine.hn_mk ?_; k_ne)); (case nz_dgsY113 => (refine Mine.hn_mk ?_; k_ne)); (case nz_stY113 => (refine Mine.hn_mk ?_; k_ne)); (case nz_dstY113 => (refine Mine.hn_mk ?_; k_ne)); (case nz_nlY113 => (refine Mine.hn_mk ?_; k_ne)); (case nz_cY113 => (refine Mine.hn_mk ?_; k_ne)); (case nz_eY113 => (refine Mine.hn_mk ?_; k_ne)); (case nz_zzY113 => (refine Mine.hn_mk ?_; k_ne)); (case nz_dzY113 => (refine Mine.hn_mk ?_; k_ne)); (case nz_cuY113 => (refine Mine.hn_mk ?_; k_ne)); (case nz_p0Y113 => (refine Mine.hn_mk ?_; k_ne)); (case nz_p1Y113 => (refine Mine.hn_mk ?_; k_ne)); (case nz_lwY113 => (refine Mine.hn_mk ?_; k_ne)); (case nz_lcY113 => (refine Mine.hn_mk ?_; k_ne)); (case nz_ldY113 => (refine Mine.hn_mk ?_; k_ne)); (case nz_PY113 => (refine Mine.hn_mk ?_; k_ne)); (case nk_xY113 => (refine Mine.hn_mk ?_; k_ne)); (case nk_dxY113 => (refine Mine.hn_mk ?_; k_ne)); (case nk_gsY113 => (refine Mine.hn_mk ?_; k_ne)); (case nk_dgsY113 => (refine Mine.hn_mk ?_; k_ne)); (case nk_stY113 => (refine Mine.hn_mk ?_; k_ne)); (case nk_dstY113 => (refine Mine.hn_mk ?_; k_ne)); (case nk_eY113 => (refine Mine.hn_mk ?_; k_ne)); (case nk_zzY113 => (refine Mine.hn_mk ?_; k_ne)); (case nk_dzY113 => (refine Mine.hn_mk ?_; k_ne)); (case nk_cuY113 => (refine Mine.hn_mk ?_; k_ne)); (case nk_p0Y113 => (refine Mine.hn_mk ?_; k_ne)); (case nk_p1Y113 => (refine Mine.hn_mk ?_; k_ne)); (case nk_lwY113 => (refine Mine.hn_mk ?_; k_ne)); (case nk_ldY113 => (refine Mine.hn_mk ?_; k_ne)); (case nk_zY113 => (refine Mine.hn_mk ?_; k_ne)); (case n_f1_nlY113 => (refine Mine.hn_mk ?_; k_ne)); (case n_f2_nlY113 => (refine Mine.hn_mk ?_; k_ne)); (case n_to_nlY113 => (refine Mine.hn_mk ?_; k_ne)); (case n_t0_nlY113 => (refine Mine.hn_mk ?_; k_ne)); (case n_x_cuY113 => (refine Mine.hn_mk ?_; k_ne)); (case n_dx_cuY113 => (refine Mine.hn_mk ?_; k_ne)); (case n_gs_cuY113 => (refine Mine.hn_mk ?_; k_ne)); (case n_dgs_cuY113 => (refine Mine.hn_mk ?_; k_ne)); (case n_st_cuY113 => (refine Mine.hn_mk ?_; k_ne)); (case n_dst_cuY113 => (refine Mine.hn_mk ?_; k_ne)); (case n_f1_cuY113 => (refine Mine.hn_mk ?_; k_ne)); (case n_f2_cuY113 => (refine Mine.hn_mk ?_; k_ne)); (case n_c_cuY113 => (refine Mine.hn_mk ?_; k_ne)); (case n_e_cuY113 => (refine Mine.hn_mk ?_; k_ne)); (case n_zz_cuY113 => (refine Mine.hn_mk ?_; k_ne)); (case n_dz_cuY113 => (refine Mine.hn_mk ?_; k_ne)); (case n_p0_cuY113 => (refine Mine.hn_mk ?_; k_ne)); (case n_p1_cuY113 => (refine Mine.hn_mk ?_; k_ne)); (case n_to_cuY113 => (refine Mine.hn_mk ?_; k_ne)); (case n_t0_cuY113 => (refine Mine.hn_mk ?_; k_ne)); (case n_lw_cuY113 => (refine Mine.hn_mk ?_; k_ne)); (case n_lc_cuY113 => (refine Mine.hn_mk ?_; k_ne)); (case n_ld_cuY113 => (refine Mine.hn_mk ?_; k_ne)); (case n_P_cuY113 => (refine Mine.hn_mk ?_; k_ne)); (case n_x_t0Y113 => (refine Mine.hn_mk ?_; k_ne)); (case n_dx_t0Y113 => (refine Mine.hn_mk ?_; k_ne)); (case n_gs_t0Y113 => (refine Mine.hn_mk ?_; k_ne)); (case n_dgs_t0Y113 => (refine Mine.hn_mk ?_; k_ne)); (case n_st_t0Y113 => (refine Mine.hn_mk ?_; k_ne)); (case n_dst_t0Y113 => (refine Mine.hn_mk ?_; k_ne)); (case n_f1_t0Y113 => (refine Mine.hn_mk ?_; k_ne)); (case n_f2_t0Y113 => (refine Mine.hn_mk ?_; k_ne)); (case n_c_t0Y113 => (refine Mine.hn_mk ?_; k_ne)); (case n_e_t0Y113 => (refine Mine.hn_mk ?_; k_ne)); (case n_zz_t0Y113 => (refine Mine.hn_mk ?_; k_ne)); (case n_dz_t0Y113 => (refine Mine.hn_mk ?_; k_ne)); (case n_p0_t0Y113 => (refine Mine.hn_mk ?_; k_ne)); (case n_p1_t0Y113 => (refine Mine.hn_mk ?_; k_ne)); (case n_to_t0Y113 => (refine Mine.hn_mk ?_; k_ne)); (case n_lw_t0Y113 => (refine Mine.hn_mk ?_; k_ne)); (case n_lc_t0Y113 => (refine Mine.hn_mk ?_; k_ne)); (case n_ld_t0Y113 => (refine Mine.hn_mk ?_; k_ne)); (case n_P_t0Y113 => (refine Mine.hn_mk ?_; k_ne)); (case n_f1_PY113 => (refine Mine.hn_mk ?_; k_ne)); (case n_f2_PY113 => (refine Mine.hn_mk ?_; k_ne)); (case n_c_PY113 => (refine Mine.hn_mk ?_; k_ne)); (case n_to_PY113 => (refine Mine.hn_mk ?_; k_ne)); (case nz_f1Y113 => (refine Mine.hn_mk ?_; k_ne)); (case nz_f2Y113 => (refine Mine.hn_mk ?_; k_ne)); (case nz_toY113 => (refine Mine.hn_mk ?_; k_ne)); (case nz_t0Y113 => (refine Mine.hn_mk ?_; k_ne)); (case nk_f1Y113 => (refine Mine.hn_mk ?_; k_ne)); (case nk_f2Y113 => (refine Mine.hn_mk ?_; k_ne)); (case nk_cY113 => (refine Mine.hn_mk ?_; k_ne)); (case nk_toY113 => (refine Mine.hn_mk ?_; k_ne))); intro g2'Z c2'Z oc2'Z vs2'Z t2'Z m2'Z h2'Z tk2'Z T2'Z F2'Z N2'Z n2'Z hz2'Z e2'Z e3'Z))
  (k_with "x14 subscriptTail Dict cons cons Name ref int" => (k_here; (with_reducible show wpAny _ _ (subscriptTail (Expr.Dict _ _ _) _ (Value.ref _) (Value.int _ _)) _ _ _); k_dflt (refine' tab_tail (knd := intKind _ _) (enc := PyData.int) ?T9Y114 ?_; (case T9Y114 => k_tabat); k_whole)))
  (k_with "x14 getItem ref int" => (k_here; (with_reducible show wpAny _ _ (getItem _ _) _ _ _); k_dflt (refine' getItem_tab PyProof.V.same_int (intKind_is _ _ _ _) ?k1Y115 ?k2Y115 ?_; (case k1Y115 => k_tabat); (case k2Y115 => first | with_reducible assumption | rfl); k_whole); intro _ hv8Z; dict_open hv8Z))
  (k_with "x14 getAttr ref" => (k_here; (with_reducible show wpAny _ _ (getAttr (Value.ref _) (Str.ofString "current") true) _ _ _); k_dflt (refine' Mine.at_room ?h1Y73 ?h2Y73 ?h3Y73 ?h5Y73 (Mine.zn_current ?BY73 ?FY73 ?XY73 ?NY73 ?TY73 ?hkY73 ?hxY73 ?hdY73 ?okY73 ?_); (case h1Y73 => exact rfl); (case h3Y73 => exact rfl); (case h2Y73 => exact Nat.le_of_ble_eq_true rfl); (case h5Y73 => exact Nat.le_of_ble_eq_true rfl); (case BY73 => k_asm); (case FY73 => k_asm); (case XY73 => k_asm); (case NY73 => k_asm); (case TY73 => k_asm); (case hkY73 => first | exact rfl | assumption); (case hxY73 => k_mem); (case hdY73 => k_mem); (case okY73 => with_reducible assumption)); intro tk'Z; (try dsimp only)))
  (k_with "x14 getAttr ref" => (k_here; (with_reducible show wpAny _ _ (getAttr (Value.ref _) (Str.ofString "state") true) _ _ _); k_dflt (refine' Mine.at_room ?h1Y74 ?h2Y74 ?h3Y74 ?h5Y74 (Mine.wk_state ?BY74 ?FY74 ?XY74 ?NY74 ?TY74 ?hkY74 ?hxY74 ?hdY74 ?okY74 ?_); (case h1Y74 => exact rfl); (case h3Y74 => exact rfl); (case h2Y74 => exact Nat.le_of_ble_eq_true rfl); (case h5Y74 => exact Nat.le_of_ble_eq_true rfl); (case BY74 => k_asm); (case FY74 => k_asm); (case XY74 => k_asm); (case NY74 => k_asm); (case TY74 => k_asm); (case hkY74 => first | exact rfl | assumption); (case hxY74 => k_mem); (case hdY74 => k_mem); (case okY74 => with_reducible assumption)); intro tk'Z; (try dsimp only)))
  (k_with "x14 getAttr ref" => (k_here; (with_reducible show wpAny _ _ (getAttr (Value.ref _) (Str.ofString "stack") true) _ _ _); k_dflt (refine' Mine.at_room ?h1Y75 ?h2Y75 ?h3Y75 ?h5Y75 (Mine.wk_stack ?BY75 ?FY75 ?XY75 ?NY75 ?TY75 ?hkY75 ?hxY75 ?hdY75 ?okY75 ?_); (case h1Y75 => exact rfl); (case h3Y75 => exact rfl); (case h2Y75 => exact Nat.le_of_ble_eq_true rfl); (case h5Y75 => exact Nat.le_of_ble_eq_true rfl); (case BY75 => k_asm); (case FY75 => k_asm); (case XY75 => k_asm); (case NY75 => k_asm); (case TY75 => k_asm); (case hkY75 => first | exact rfl | assumption); (case hxY75 => k_mem); (case hdY75 => k_mem); (case okY75 => with_reducible assumption)); intro tk'Z; (try dsimp only)))
  (k_with "x14 getAttr ref" => (k_here; (with_reducible show wpAny _ _ (getAttr (Value.ref _) (Str.ofString "zones") true) _ _ _); k_dflt (refine' Mine.at_room ?h1Y76 ?h2Y76 ?h3Y76 ?h5Y76 (Mine.wk_zones ?BY76 ?FY76 ?XY76 ?NY76 ?TY76 ?hkY76 ?hxY76 ?hdY76 ?okY76 ?_); (case h1Y76 => exact rfl); (case h3Y76 => exact rfl); (case h2Y76 => exact Nat.le_of_ble_eq_true rfl); (case h5Y76 => exact Nat.le_of_ble_eq_true rfl); (case BY76 => k_asm); (case FY76 => k_asm); (case XY76 => k_asm); (case NY76 => k_asm); (case TY76 => k_asm); (case hkY76 => first | exact rfl | assumption); (case hxY76 => k_mem); (case hdY76 => k_mem); (case okY76 => with_reducible assumption)); intro tk'Z; (try dsimp only)))
  (k_with "x14 getAttr ref" => (k_here; (with_reducible show wpAny _ _ (getAttr (Value.ref _) (Str.ofString "cvt") true) _ _ _); k_dflt (refine' Mine.at_room ?h1Y77 ?h2Y77 ?h3Y77 ?h5Y77 (Mine.wk_cvt ?BY77 ?FY77 ?XY77 ?NY77 ?TY77 ?hkY77 ?hxY77 ?hdY77 ?okY77 ?_); (case h1Y77 => exact rfl); (case h3Y77 => exact rfl); (case h2Y77 => exact Nat.le_of_ble_eq_true rfl); (case h5Y77 => exact Nat.le_of_ble_eq_true rfl); (case BY77 => k_asm); (case FY77 => k_asm); (case XY77 => k_asm); (case NY77 => k_asm); (case TY77 => k_asm); (case hkY77 => first | exact rfl | assumption); (case hxY77 => k_mem); (case hdY77 => k_mem); (case okY77 => with_reducible assumption)); intro tk'Z; (try dsimp only)))
  (k_with "x14 getAttr ref" => (k_here; (with_reducible show wpAny _ _ (getAttr (Value.ref _) (Str.ofString "numbers") true) _ _ _); k_dflt (refine' Mine.at_room ?h1Y78 ?h2Y78 ?h3Y78 ?h5Y78 (Mine.st_numbers ?BY78 ?FY78 ?XY78 ?NY78 ?TY78 ?hkY78 ?hxY78 ?hdY78 ?okY78 ?_); (case h1Y78 => exact rfl); (case h3Y78 => exact rfl); (case h2Y78 => exact Nat.le_of_ble_eq_true rfl); (case h5Y78 => exact Nat.le_of_ble_eq_true rfl); (case BY78 => k_asm); (case FY78 => k_asm); (case XY78 => k_asm); (case NY78 => k_asm); (case TY78 => k_asm); (case hkY78 => first | exact rfl | assumption); (case hxY78 => k_mem); (case hdY78 => k_mem); (case okY78 => with_reducible assumption)); intro tk'Z; (try dsimp only)))
  (k_with "x14 getAttr ref" => (k_here; (with_reducible show wpAny _ _ (getAttr (Value.ref _) (Str.ofString "rounding") true) _ _ _); k_dflt (refine' Mine.at_room ?h1Y79 ?h2Y79 ?h3Y79 ?h5Y79 (Mine.gs_rounding ?BY79 ?FY79 ?XY79 ?NY79 ?TY79 ?hkY79 ?hxY79 ?hdY79 ?okY79 ?_); (case h1Y79 => exact rfl); (case h3Y79 => exact rfl); (case h2Y79 => exact Nat.le_of_ble_eq_true rfl); (case h5Y79 => exact Nat.le_of_ble_eq_true rfl); (case BY79 => k_asm); (case FY79 => k_asm); (case XY79 => k_asm); (case NY79 => k_asm); (case TY79 => k_asm); (case hkY79 => first | exact rfl | assumption); (case hxY79 => k_mem); (case hdY79 => k_mem); (case okY79 => with_reducible assumption)); intro tk'Z; (try dsimp only)))
  (k_with "x14 setAttr ref" => (k_here; (with_reducible show wpAny _ _ (setAttr (Value.ref _) (Str.ofString "rounding") (Value.ref _)) _ _ _); k_dflt (refine' Mine.at_room ?h1Y80 ?h2Y80 ?h3Y80 ?h5Y80 (Mine.gs_setr ?BY80 ?FY80 ?XY80 ?NY80 ?TY80 ?hkY80 ?hxY80 ?hdY80 ?okY80 ?UY80 ?_); (case h1Y80 => exact rfl); (case h3Y80 => exact rfl); (case h2Y80 => exact Nat.le_of_ble_eq_true rfl); (case h5Y80 => exact Nat.le_of_ble_eq_true rfl); (case BY80 => k_asm); (case FY80 => k_asm); (case XY80 => k_asm); (case NY80 => k_asm); (case TY80 => k_asm); (case hkY80 => first | exact rfl | assumption); (case hxY80 => k_mem); (case hdY80 => k_mem); (case okY80 => with_reducible assumption); (case UY80 => (intro oo9Z; k_upd))); intro o'Z h'Z tk'Z F'Z g1'Z N'Z; (try dsimp only at N'Z); (try dsimp only)))
  (k_with "x14 setAttr ref" => (k_here; (with_reducible show wpAny _ _ (setAttr (Value.ref _) (Str.ofString "ppem") (Value.int _ _)) _ _ _); k_dflt (refine' Mine.at_room ?h1Y81 ?h2Y81 ?h3Y81 ?h5Y81 (Mine.wk_setp ?BY81 ?FY81 ?XY81 ?NY81 ?TY81 ?hkY81 ?hxY81 ?hdY81 ?okY81 ?UY81 ?_); (case h1Y81 => exact rfl); (case h3Y81 => exact rfl); (case h2Y81 => exact Nat.le_of_ble_eq_true rfl); (case h5Y81 => exact Nat.le_of_ble_eq_true rfl); (case BY81 => k_asm); (case FY81 => k_asm); (case XY81 => k_asm); (case NY81 => k_asm); (case TY81 => k_asm); (case hkY81 => first | exact rfl | assumption); (case hxY81 => k_mem); (case hdY81 => k_mem); (case okY81 => with_reducible assumption); (case UY81 => (intro oo9Z; k_upd))); intro o'Z h'Z tk'Z F'Z wk9'Z N'Z; (try dsimp only at N'Z); (try dsimp only)))
  (k_with "x14 getMethod ref" => (k_here; (with_reducible show wpAny _ _ (getMethod (Value.ref _) (Str.ofString "push") _) _ _ _); k_dflt (refine' Mine.at_room ?h1Y82 ?h2Y82 ?h3Y82 ?h5Y82 (Mine.st_m_push ?BY82 ?FY82 ?XY82 ?NY82 ?TY82 ?hkY82 ?hxY82 ?hdY82 ?okY82 ?_); (case h1Y82 => exact rfl); (case h3Y82 => exact rfl); (case h2Y82 => exact Nat.le_of_ble_eq_true rfl); (case h5Y82 => exact Nat.le_of_ble_eq_true rfl); (case BY82 => k_asm); (case FY82 => k_asm); (case XY82 => k_asm); (case NY82 => k_asm); (case TY82 => k_asm); (case hkY82 => first | exact rfl | assumption); (case hxY82 => k_mem); (case hdY82 => k_mem); (case okY82 => with_reducible assumption)); (try dsimp only)))
  (k_with "x14 getMethod ref" => (k_here; (with_reducible show wpAny _ _ (getMethod (Value.ref _) (Str.ofString "pop") _) _ _ _); k_dflt (refine' Mine.at_room ?h1Y83 ?h2Y83 ?h3Y83 ?h5Y83 (Mine.st_m_pop ?BY83 ?FY83 ?XY83 ?NY83 ?TY83 ?hkY83 ?hxY83 ?hdY83 ?okY83 ?_); (case h1Y83 => exact rfl); (case h3Y83 => exact rfl); (case h2Y83 => exact Nat.le_of_ble_eq_true rfl); (case h5Y83 => exact Nat.le_of_ble_eq_true rfl); (case BY83 => k_asm); (case FY83 => k_asm); (case XY83 => k_asm); (case NY83 => k_asm); (case TY83 => k_asm); (case hkY83 => first | exact rfl | assumption); (case hxY83 => k_mem); (case hdY83 => k_mem); (case okY83 => with_reducible assumption)); (try dsimp only)))
  trivial
section
local macro_rules | `(tactic| walk_at $s:str) => do let t := Lean.Syntax.mkStrLit ("x14 " ++ s.getString); `(tactic| k_extra $t)

section
theorem Mine.reg_u14 : True := by
  (k_with "m call ref" => (k_here; (with_reducible show wpAny _ _ (call (Value.ref 331) _ _) _ _ _); k_dflt (refine' Mine.at_room ?h1Y116 ?h2Y116 ?h3Y116 ?h5Y116 (Mine.work9_c ?BY116 ?FY116 ?XY116 ?NY116 ?TY116 ?hkY116  ?_); (case h1Y116 => exact rfl); (case h3Y116 => exact rfl); (case h2Y116 => exact Nat.le_of_ble_eq_true rfl); (case h5Y116 => exact Nat.le_of_ble_eq_true rfl); (case BY116 => k_asm); (case FY116 => k_asm); (case XY116 => k_asm); (case NY116 => first | k_asm | exact News.nil); (case TY116 => k_asm); (case hkY116 => first | exact rfl | assumption); ); intro x'Z dx'Z gs'Z dgs'Z st'Z dst'Z nl'Z f1'Z f2'Z rd'Z ox'Z ogs'Z ost'Z o1'Z o2'Z h'Z tk'Z F'Z wk'Z gk'Z sk'Z N'Z p1'Z p2'Z q'Z of1'Z of2'Z of3'Z; (have q0'Z := q'Z 0 _ (by with_unfolding_all exact Eq.refl (some _))); (have q1'Z := q'Z 1 _ (by with_unfolding_all exact Eq.refl (some _))); (have q2'Z := q'Z 2 _ (by with_unfolding_all exact Eq.refl (some _))); (have q3'Z := q'Z 3 _ (by with_unfolding_all exact Eq.refl (some _))); (have q4'Z := q'Z 4 _ (by with_unfolding_all exact Eq.refl (some _))); (have q5'Z := q'Z 5 _ (by with_unfolding_all exact Eq.refl (some _))); (have q6'Z := q'Z 6 _ (by with_unfolding_all exact Eq.refl (some _))); (have q7'Z := q'Z 7 _ (by with_unfolding_all exact Eq.refl (some _))); (have q8'Z := q'Z 8 _ (by with_unfolding_all exact Eq.refl (some _))); (clear q'Z); (k_lt q0'Z); (k_lt q1'Z); (k_lt q2'Z); (k_lt q3'Z); (k_lt q4'Z); (k_lt q5'Z); (k_lt q6'Z); (k_lt q7'Z); (k_lt q8'Z); (k_lt of1'Z); (k_lt of2'Z); (k_lt of3'Z); (try dsimp only); (try k_fold)))
  (k_with "m call ref cons nil" => (k_here; (with_reducible show wpAny _ _ (call (Value.ref 242) _ _) _ _ _); k_dflt (refine' Mine.at_room ?h1Y117 ?h2Y117 ?h3Y117 ?h5Y117 (Mine.push_r ?BY117 ?FY117 ?XY117 ?NY117 ?TY117 ?hkY117 ?hstY117 ?hokY117 ?hdsY117 ?hnY117 ?o1Y117 ?o2Y117 ?hvY117 ?UY117 ?hzY117 ?_); (case h1Y117 => exact rfl); (case h3Y117 => exact rfl); (case h2Y117 => exact Nat.le_of_ble_eq_true rfl); (case h5Y117 => exact Nat.le_of_ble_eq_true rfl); (case BY117 => k_asm); (case FY117 => k_asm); (case XY117 => k_asm); (case NY117 => first | k_asm | exact News.nil); (case TY117 => k_asm); (case hkY117 => first | exact rfl | assumption); (case hstY117 => k_mem); (case hdsY117 => k_mem); (case hokY117 => first | with_reducible assumption | exact ⟨_, _, _, rfl⟩); (case hnY117 => k_mem); (case o1Y117 => first | with_reducible assumption | k_ne); (case o2Y117 => first | with_reducible assumption | k_ne); (case hvY117 => first | decide | omega); (case hzY117 => exact Nat.le_of_ble_eq_true rfl); (case UY117 => (intro t'Z; k_upd))); intro t'Z h'Z tk'Z F'Z N'Z; (try dsimp only [List.nil_append, List.cons_append] at N'Z); (try dsimp only); (try k_fold)))
  (k_with "m call ref cons nil" => (k_here; (with_reducible show wpAny _ _ (call (Value.ref 387) _ _) _ _ _); k_dflt (refine' Mine.at_room ?h1Y118 ?h2Y118 ?h3Y118 ?h5Y118 (Mine.zone2_c ?BY118 ?FY118 ?XY118 ?NY118 ?TY118 ?hkY118 ?a1Y118 ?a2Y118 ?a3Y118 ?a4Y118 ?_); (case h1Y118 => exact rfl); (case h3Y118 => exact rfl); (case h2Y118 => exact Nat.le_of_ble_eq_true rfl); (case h5Y118 => exact Nat.le_of_ble_eq_true rfl); (case BY118 => k_asm); (case FY118 => k_asm); (case XY118 => k_asm); (case NY118 => first | k_asm | exact News.nil); (case TY118 => k_asm); (case hkY118 => first | exact rfl | assumption); (case a1Y118 => k_mem); (case a2Y118 => k_mem); (case a3Y118 => k_mem); (case a4Y118 => k_mem)); intro x'Z dx'Z org'Z cu'Z to'Z en'Z oc'Z t0'Z t1'Z oz'Z y0'Z y1'Z y2'Z h'Z tk'Z F'Z zk'Z N'Z q'Z of1'Z of2'Z; (have q0'Z := q'Z 0 _ (by with_unfolding_all exact Eq.refl (some _))); (have q1'Z := q'Z 1 _ (by with_unfolding_all exact Eq.refl (some _))); (have q2'Z := q'Z 2 _ (by with_unfolding_all exact Eq.refl (some _))); (have q3'Z := q'Z 3 _ (by with_unfolding_all exact Eq.refl (some _))); (have q4'Z := q'Z 4 _ (by with_unfolding_all exact Eq.refl (some _))); (clear q'Z); (k_lt q0'Z); (k_lt q1'Z); (k_lt q2'Z); (k_lt q3'Z); (k_lt q4'Z); (k_lt of1'Z); (k_lt of2'Z); (try dsimp only); (try k_fold)))
  trivial
open PySem PySem.W PyProof.Rows
set_option maxHeartbeats 8000000
namespace Mine
section
variable {w : World} {p : Program} {loose : List Str} {mean : ExcName → Option Value} {mg mb : Str → Option Value}
    {gd : Option (List Code)} {cn : Str} {cs : Scope} {a : Addr} {ccd : Value} {cl : List (Str × Addr)} {A₀ : Around} {base h₀ : Heap} {L : Addr} {m : Str → Option Value} {news : List (Addr × Obj)} {s : Shared} {Q E : Value → Shared → Prop}
    (B : Below A₀ base [] h₀) (F : Fr h₀ L s.heap m) (X : (Mine.hd.heap_1 w.params).In h₀) (N : News h₀ L s.heap news) (T : Top p loose mean mg mb h₀) (hk : cs.kind = .function)
include B F X N T hk
theorem cnt_le {code b : Int} {tc tm : Nat} {z : Addr} {oP oz : Obj} {g9 : Obj → List (Addr × Obj)} {many : Int}
    (hcb : CBp code b ∨ CBc code b) (hm : -3 ≤ many ∧ many ≤ 1) (XB : (Mine.hd.heap_1 w.params).In base) (TB : Top p loose mean mg mb base) (C : CodeHd base 439 435) (U9 : UpdF 435 oP news g9) (hP : (435, oP) ∈ news) (hz : (z, oz) ∈ news) (hz5 : HN 435 z) (st : LSt LQ LP oP z oz)
    (hret : ∀ c' oc vs t h' tk', Fr h₀ L h' m → News h₀ L h' ((c', oc) :: g9 (tabObj #[rawInt LP.line, rawInt LP.col, .ref c'])) → ((oP = tabObj #[] → ∀ q ∈ news, q.1 ≠ c') ∧ (oP ≠ tabObj #[] → c' = z ∧ oc = oz)) → HN 435 c' → oc.data = .fields vs → vs[1]? = some (.str LQ t) → Q (.bool true) { s with heap := h', toks := tk' }) :
    wpAny (model PG w) (ktrTop 600 5000 gd cn cs L a ccd cl []) (call (.ref 440) [.int code tc, .int many tm]) Q E s := by
  have hX : Mine.hd.heap_1 = Mine.hd.heap_1 ∧ PySem.Challenge.rw_qz0063_01 = PySem.Challenge.rw_qz0063_01 := by
    k_fill
    exact ⟨rfl, rfl⟩
  clear hX
  have N2 : News h₀ L s.heap [(435, oP), (z, oz)] := by
    refine cb_drop N ?_
    repeat' (first | exact List.forall_mem_nil _ | (refine Mine.fa_cons ?_ ?_) | assumption)
  have hNN : True ∧ News h₀ L s.heap news := ⟨trivial, N⟩
  refine wpAny_call ?_
  k_dflt (refine' enterS0C ?k1 ?k2 ?k3 ?k4 ?k5 ?kA ?kF ?kK ?k6 ?k7 ?k8 ?k9 ?kB ?kD ?_ ?c2 ?c3 ?c4; (case kA => exact rfl); (case kF => exact rfl); (case kK => assumption); (case k1 => k_asm); (case k2 => k_asm); (case k3 => k_asm); (case k4 => exact N2); (case k5 => k_asm); (case k6 => k_is); (case k7 => k_is); (case k8 => k_room); (case k9 => exact BindsTo.of_eq rfl); (case kB => exact rfl); (case kD => decide +kernel); (case c2 => exact rfl); (case c3 => exact rfl); (case c4 => exact rfl); k_whole; intro g' L' h' tk' cells' FG' F' N' Y' B' X' T' D' l1' l4' hGK; (try k_lt l1'); k_cells Y'; (try simp only [List.cons_append, List.nil_append] at N'); (try dsimp only); (try k_lift B'); first | (refine Mine.wp_enter ?_; intro ev Aw qk ek) | k_fold | skip)
  (rename (_ = Data.cell (bindC _ _ _ (Str.ofString "code"))) => dcode)
  change _ = Data.cell (some (.int code tc)) at dcode
  clear F N hP
  k_steps
  · (rename KtsTurn _ _ _ => hT)
    (rename KeptL _ _ _ _ => hK)
    (rename News h₀ L _ _ => kN)
    (rename News _ L' _ [_, _, _] => nN)
    (rename (_ ∧ (oP ≠ tabObj #[] → _ ∧ _)) => hcz)
    (rename HN 435 _ => h5)
    have hn := (nN _ (List.mem_cons_of_mem _ List.mem_cons_self)).2.2
    apply hret
    · assumption
    · exact cnt_back hNN.2 U9 hK hz kN
    · refine ⟨fun e => cnt_fresh hNN.2 hGK hT hn ?_, hcz.2⟩
      exact List.forall_mem_cons.mpr ⟨h5, List.forall_mem_cons.mpr ⟨hcz.1 e, List.forall_mem_nil _⟩⟩
    · exact h5
    · assumption
    · assumption
end
end Mine
end

section
open PySem PySem.W PyProof.Rows
set_option maxHeartbeats 8000000
namespace Mine
section
variable {w : World} {p : Program} {loose : List Str} {mean : ExcName → Option Value} {mg mb : Str → Option Value}
    {gd : Option (List Code)} {cn : Str} {cs : Scope} {a : Addr} {ccd : Value} {cl : List (Str × Addr)} {A₀ : Around} {base h₀ : Heap} {L : Addr} {m : Str → Option Value} {news : List (Addr × Obj)} {s : Shared} {Q E : Value → Shared → Prop}
    (B : Below A₀ base [] h₀) (F : Fr h₀ L s.heap m) (X : (Mine.hd.heap_1 w.params).In h₀) (N : News h₀ L s.heap news) (T : Top p loose mean mg mb h₀) (hk : cs.kind = .function)
include B F X N T hk
theorem cnt_2 {code b : Int} {tc tm : Nat} {z : Addr} {oP oz : Obj} {g9 : Obj → List (Addr × Obj)} 
    (hcb : CBp code b ∨ CBc code b)  (XB : (Mine.hd.heap_1 w.params).In base) (TB : Top p loose mean mg mb base) (C : CodeHd base 439 435) (U9 : UpdF 435 oP news g9) (hP : (435, oP) ∈ news) (hz : (z, oz) ∈ news) (hz5 : HN 435 z) (st : LSt LQ LP oP z oz)
    (hret : ∀ c' oc vs t h' tk', Fr h₀ L h' m → News h₀ L h' ((c', oc) :: g9 (tabObj #[rawInt LP.line, rawInt LP.col, .ref c'])) → ((oP = tabObj #[] → ∀ q ∈ news, q.1 ≠ c') ∧ (oP ≠ tabObj #[] → c' = z ∧ oc = oz)) → HN 435 c' → oc.data = .fields vs → vs[1]? = some (.str LQ t) → Q (.bool true) { s with heap := h', toks := tk' }) :
    wpAny (model PG w) (ktrTop 600 5000 gd cn cs L a ccd cl []) (call (.ref 440) [.int code tc, .int 2 tm]) Q E s := by
  have hX : Mine.hd.heap_1 = Mine.hd.heap_1 ∧ PySem.Challenge.rw_qz0063_01 = PySem.Challenge.rw_qz0063_01 := by
    k_fill
    exact ⟨rfl, rfl⟩
  clear hX
  have N2 : News h₀ L s.heap [(435, oP), (z, oz)] := by
    refine cb_drop N ?_
    repeat' (first | exact List.forall_mem_nil _ | (refine Mine.fa_cons ?_ ?_) | assumption)
  have hNN : True ∧ News h₀ L s.heap news := ⟨trivial, N⟩
  refine wpAny_call ?_
  k_dflt (refine' enterS0C ?k1 ?k2 ?k3 ?k4 ?k5 ?kA ?kF ?kK ?k6 ?k7 ?k8 ?k9 ?kB ?kD ?_ ?c2 ?c3 ?c4; (case kA => exact rfl); (case kF => exact rfl); (case kK => assumption); (case k1 => k_asm); (case k2 => k_asm); (case k3 => k_asm); (case k4 => exact N2); (case k5 => k_asm); (case k6 => k_is); (case k7 => k_is); (case k8 => k_room); (case k9 => exact BindsTo.of_eq rfl); (case kB => exact rfl); (case kD => decide +kernel); (case c2 => exact rfl); (case c3 => exact rfl); (case c4 => exact rfl); k_whole; intro g' L' h' tk' cells' FG' F' N' Y' B' X' T' D' l1' l4' hGK; (try k_lt l1'); k_cells Y'; (try simp only [List.cons_append, List.nil_append] at N'); (try dsimp only); (try k_lift B'); first | (refine Mine.wp_enter ?_; intro ev Aw qk ek) | k_fold | skip)
  (rename (_ = Data.cell (bindC _ _ _ (Str.ofString "code"))) => dcode)
  change _ = Data.cell (some (.int code tc)) at dcode
  clear F N hP
  k_steps
  · (rename KtsTurn _ _ _ => hT)
    (rename KeptL _ _ _ _ => hK)
    (rename News h₀ L _ _ => kN)
    (rename News _ L' _ [_, _, _] => nN)
    (rename (_ ∧ (oP ≠ tabObj #[] → _ ∧ _)) => hcz)
    (rename HN 435 _ => h5)
    have hn := (nN _ (List.mem_cons_of_mem _ List.mem_cons_self)).2.2
    apply hret
    · assumption
    · exact cnt_back hNN.2 U9 hK hz kN
    · refine ⟨fun e => cnt_fresh hNN.2 hGK hT hn ?_, hcz.2⟩
      exact List.forall_mem_cons.mpr ⟨h5, List.forall_mem_cons.mpr ⟨hcz.1 e, List.forall_mem_nil _⟩⟩
    · exact h5
    · assumption
    · assumption
end
end Mine
end

end

section
open PySem PySem.W PyProof.Rows
namespace Mine
section
variable {w : World} {p : Program} {loose : List Str} {mean : ExcName → Option Value} {mg mb : Str → Option Value}
    {gd : Option (List Code)} {cn : Str} {cs : Scope} {a : Addr} {ccd : Value} {cl : List (Str × Addr)} {A₀ : Around} {base h₀ : Heap} {L : Addr} {m : Str → Option Value} {news : List (Addr × Obj)} {s : Shared} {Q E : Value → Shared → Prop}
    (B : Below A₀ base [] h₀) (F : Fr h₀ L s.heap m) (X : (Mine.hd.heap_1 w.params).In h₀) (N : News h₀ L s.heap news) (T : Top p loose mean mg mb h₀) (hk : cs.kind = .function)
include B F X N T hk
theorem cnt_any {code b many : Int} {tc tm : Nat} {z : Addr} {oP oz : Obj} {g9 : Obj → List (Addr × Obj)}
    (hcb : CBp code b ∨ CBc code b) (hm : -3 ≤ many ∧ many ≤ 2) (XB : (Mine.hd.heap_1 w.params).In base) (TB : Top p loose mean mg mb base) (C : CodeHd base 439 435) (U9 : UpdF 435 oP news g9) (hP : (435, oP) ∈ news) (hz : (z, oz) ∈ news) (hz5 : HN 435 z) (st : LSt LQ LP oP z oz)
    (hret : ∀ c' oc vs t h' tk', Fr h₀ L h' m → News h₀ L h' ((c', oc) :: g9 (tabObj #[rawInt LP.line, rawInt LP.col, .ref c'])) → ((oP = tabObj #[] → ∀ q ∈ news, q.1 ≠ c') ∧ (oP ≠ tabObj #[] → c' = z ∧ oc = oz)) → HN 435 c' → oc.data = .fields vs → vs[1]? = some (.str LQ t) → Q (.bool true) { s with heap := h', toks := tk' }) :
    wpAny (model PG w) (ktrTop 600 5000 gd cn cs L a ccd cl []) (call (.ref 440) [.int code tc, .int many tm]) Q E s := by
  by_cases h : many ≤ 1
  · exact cnt_le B F X N T hk hcb ⟨hm.1, h⟩ XB TB C U9 hP hz hz5 st hret
  · obtain rfl : many = 2 := by omega
    exact cnt_2 B F X N T hk hcb XB TB C U9 hP hz hz5 st hret
theorem cnt_first {code b many : Int} {tc tm : Nat} {z : Addr} {oz : Obj} {g9 : Obj → List (Addr × Obj)}
    (hcb : CBp code b ∨ CBc code b) (hm : -3 ≤ many ∧ many ≤ 2) (XB : (Mine.hd.heap_1 w.params).In base) (TB : Top p loose mean mg mb base) (C : CodeHd base 439 435) (U9 : UpdF 435 (tabObj #[]) news g9) (hP : (435, tabObj #[]) ∈ news) (hz : (z, oz) ∈ news) (hz5 : HN 435 z)
    (hret : ∀ c' oc vs t h' tk', Fr h₀ L h' m → News h₀ L h' ((c', oc) :: g9 (tabObj #[rawInt LP.line, rawInt LP.col, .ref c'])) → AllHN c' news → oc.data = .fields vs → vs[1]? = some (.str LQ t) → Q (.bool true) { s with heap := h', toks := tk' }) :
    wpAny (model PG w) (ktrTop 600 5000 gd cn cs L a ccd cl []) (call (.ref 440) [.int code tc, .int many tm]) Q E s :=
  cnt_any B F X N T hk hcb hm XB TB C U9 hP hz hz5 (.inl rfl) fun c' oc vs t h' tk' F' N' hc _ e1 e2 => hret c' oc vs t h' tk' F' N' (allHN' (hc.1 rfl)) e1 e2
theorem cnt_next {code b many : Int} {tc tm : Nat} {z : Addr} {oz : Obj} {g9 : Obj → List (Addr × Obj)} {vs : Array Value} {t : Nat}
    (hcb : CBp code b ∨ CBc code b) (hm : -3 ≤ many ∧ many ≤ 2) (XB : (Mine.hd.heap_1 w.params).In base) (TB : Top p loose mean mg mb base) (C : CodeHd base 439 435) (U9 : UpdF 435 (tabObj #[rawInt LP.line, rawInt LP.col, .ref z]) news g9) (hP : (435, tabObj #[rawInt LP.line, rawInt LP.col, .ref z]) ∈ news) (hz : (z, oz) ∈ news) (hz5 : HN 435 z) (e1 : oz.data = .fields vs) (e2 : vs[1]? = some (.str LQ t))
    (hret : ∀ h' tk', Fr h₀ L h' m → News h₀ L h' news → Q (.bool true) { s with heap := h', toks := tk' }) :
    wpAny (model PG w) (ktrTop 600 5000 gd cn cs L a ccd cl []) (call (.ref 440) [.int code tc, .int many tm]) Q E s :=
  cnt_any B F X N T hk hcb hm XB TB C U9 hP hz hz5 (.inr ⟨rfl, vs, t, e1, e2⟩) fun c' oc vs' t' h' tk' F' N' hc _ _ _ => by
    obtain ⟨rfl, rfl⟩ := hc.2 (by simp [tabObj])
    refine hret h' tk' F' fun q hq => N' q (List.mem_cons_of_mem _ ?_)
    obtain ⟨pre, post, e, hg, _, _⟩ := U9.split
    rw [hg, ← e]
    exact hq
end
end Mine
end

section
open PySem PySem.W PyProof.Rows
namespace Mine
theorem big_nn (x : Int) : 0 ≤ (if -1 - x > x then -1 - x else x) := by split <;> omega
theorem pool_a {big : Int} (h : 0 ≤ big) (c : Prop) [Decidable c] : 0 ≤ big * (if c then 1 else 0) := Int.mul_nonneg h (by split <;> decide)
theorem pool_b (y : Int) : 0 ≤ y.fmod 2147483647 ∧ y.fmod 2147483647 < 2147483647 := by
  rw [Int.fmod_eq_emod_of_nonneg _ (by decide)]
  omega
end Mine
end

section
open PySem PySem.W PyProof.Rows
set_option maxHeartbeats 8000000
namespace Mine
section
variable {w : World} {p : Program} {loose : List Str} {mean : ExcName → Option Value} {mg mb : Str → Option Value}
    {gd : Option (List Code)} {cn : Str} {cs : Scope} {a : Addr} {ccd : Value} {cl : List (Str × Addr)} {outer : List Env} {A₀ : Around} {base h₀ : Heap} {L : Addr} {m : Str → Option Value} {news : List (Addr × Obj)} {s : Shared} {Q E : Value → Shared → Prop}
    (B : Below A₀ base outer h₀) (F : Fr h₀ L s.heap m) (X : (Mine.hd.heap_1 w.params).In h₀) (N : News h₀ L s.heap news) (T : Top p loose mean mg mb h₀) (hk : cs.kind = .function)
include B F X N T hk
theorem pool_c {sc : Addr} {vs : List Value} {ns : List Int} (hsc : h₀.IsList sc vs.toArray) (hi : IntsAre vs ns) (hlen : ns.length ≤ 63)
    (hret : ∀ l a b ta tb n h' tk', 0 ≤ a → (0 ≤ b ∧ b < 2147483647) → Fr h₀ L h' m → News h₀ L h' ((l, listOf #[Value.int a ta, Value.int b tb] n) :: news) → (∀ p ∈ news, p.1 ≠ l) → Q (.ref l) { s with heap := h', toks := tk' }) :
    wpAny (model PG w) (ktrTop 900 9000 gd cn cs L a ccd cl outer) (call (.ref 398) [.ref sc]) Q E s := by
  have hX : Mine.hd.heap_1 = Mine.hd.heap_1 ∧ PySem.Challenge.rw_qz0063_01 = PySem.Challenge.rw_qz0063_01 := by
    k_fill
    exact ⟨rfl, rfl⟩
  clear hX
  have hF0 : True ∧ Fr h₀ L s.heap m := ⟨trivial, F⟩
  have hN0 : True ∧ News h₀ L s.heap news := ⟨trivial, N⟩
  have N2 : News h₀ L s.heap [] := News.nil
  refine wpAny_call ?_
  k_dflt (refine' enter2E ?k1 ?k2 ?k3 ?k4 ?k5 ?kA ?kF ?kK ?k6 ?k7 ?k8 ?k9 ?kB ?_ ?c2 ?c3 ?c4 ?c5; (case kA => exact rfl); (case kF => exact rfl); (case kK => assumption); (case k1 => k_asm); (case k2 => k_asm); (case k3 => k_asm); (case k4 => exact N2); (case k5 => k_asm); (case k6 => k_is); (case k7 => k_is); (case k8 => k_room); (case k9 => exact BindsTo.of_eq rfl); (case c5 => decide); (case kB => exact locs rfl); (case c2 => exact rfl); (case c3 => exact rfl); (case c4 => exact rfl); k_whole; intro g' L' h' FG' F' N' B' X' T' l1' l4' hGK; (try k_lt l1'); (try dsimp only); (refine Mine.wp_enter ?_; intro ev Aw qk ek))
  have gsc : g'.IsList sc vs.toArray := by
    obtain ⟨o, ho, r⟩ := hsc
    exact ⟨o, hGK _ _ (hF0.2.keep _ _ ho) (by simp), r⟩
  clear F N hsc
  k_steps
  all_goals
    (rename Kept _ _ _ => hK)
    (rename News h₀ L _ _ => kN)
    (rename News g' _ _ _ => nN)
    apply hret
    rotate_left 3
    · apply news_cons (kN _ List.mem_cons_self)
      exact fun p hp => ⟨hK _ _ (hN0.2 p hp).1 (by simp), (hN0.2 p hp).2⟩
    · exact fresh_all hN0.2 hGK (nN _ List.mem_cons_self).2.2 (List.forall_mem_nil _)
    · exact pool_a (big_nn _) _
    · exact pool_b _
    · assumption
end
end Mine
end

section
open PySem PySem.W PyProof.Rows
set_option maxHeartbeats 4000000
namespace Mine
open PySem.Calls PySem.Spec LCg LCt
section
variable {prog : Program} {w : World} {A : Around} {E : Value → Shared → Prop} {s : Shared} {h₀ : Heap} {L : Addr} {m : Str → Option Value} {env : Env} {elt ct : Expr} {x : Str} {scope : Scope} {cl : List (Str × Addr)} {S : List (Addr × Obj) → Prop} {P : Nat → Value → Prop} {Fin : List Value → List (Addr × Obj) → Prop} {news : List (Addr × Obj)}
/-- a comprehension whose element is its own item (an object) -/
theorem same_rest {n : Nat} {ps : List Addr} (hn : ps.length = n) (hP : ∀ i v, i < n → P i v → ∃ p, ps[i]? = some p ∧ v = .ref p)
    (turn : ∀ q I oI C oC D m₂ ys h tk (E' : Value → Shared → Prop), q ∈ ps → NsObj oC m₂ → m₂ x = some (.ref q) → Fr h₀ L h m → News h₀ L h ((I, oI) :: (C, oC) :: (D, lst ys) :: news) → Off3 I C D news → ((@Ne Nat I C) ∧ (@Ne Nat I D) ∧ (@Ne Nat C D)) →
      wpAny (model prog w) A (eval elt (compEnvC scope cl C env)) (CompEnd h₀ L m { s with heap := h, toks := tk } I oI C oC D (lst ys) S (fun y news' => y = .ref q ∧ news' = news)) E' { s with heap := h, toks := tk })
    (fin : Fin (ps.map .ref) news) : CompRest prog w A h₀ L m env elt x scope cl s S P Fin n 0 [] news := by
  have key : ∀ (j i : Nat) (ys : List Value), i + j = n → ys = (ps.take i).map .ref → CompRest prog w A h₀ L m env elt x scope cl s S P Fin j i ys news := by
    intro j
    induction j with
    | zero =>
      intro i ys hi hy
      have e : i = ps.length := by omega
      subst e
      rw [List.take_length] at hy
      subst hy
      exact CompRest.zero fin
    | succ j ih =>
      intro i ys hi hy
      refine CompRest.succ ?_
      intro v I oI C oC D m₂ h tk E' hv hC hx F N off ne
      obtain ⟨q, hq, hv'⟩ := hP i v (by omega) hv
      rw [hv'] at hx
      refine wpAny_mono (turn q I oI C oC D m₂ ys h tk E' (List.mem_of_getElem? hq) hC hx F N off ne) (fun y s₂ hr => ?_) fun _ _ e => e
      obtain ⟨h', tk', nw, e, F', N', off', hS, hy', hn'⟩ := hr
      subst hn'
      refine ⟨h', tk', _, e, F', N', off', hS, ?_⟩
      rw [hy']
      refine ih (i + 1) _ (by omega) ?_
      rw [List.take_add_one, hq, hy]
      simp
  exact key n 0 [] (by omega) (by simp)
/-- a comprehension that makes an object a turn that nobody reads -/
theorem any_rest {n : Nat} {Pv : Value → Prop} (hP : ∀ i v, i < n → P i v → Pv v)
    (turn : ∀ v I oI C oC D m₂ ys h tk (E' : Value → Shared → Prop), Pv v → NsObj oC m₂ → m₂ x = some v → Fr h₀ L h m → News h₀ L h ((I, oI) :: (C, oC) :: (D, lst ys) :: news) → Off3 I C D news → ((@Ne Nat I C) ∧ (@Ne Nat I D) ∧ (@Ne Nat C D)) →
      wpAny (model prog w) A (eval elt (compEnvC scope cl C env)) (CompEnd h₀ L m { s with heap := h, toks := tk } I oI C oC D (lst ys) S (fun y news' => news' = news)) E' { s with heap := h, toks := tk })
    (fin : ∀ ys, ys.length = n → Fin ys news) : CompRest prog w A h₀ L m env elt x scope cl s S P Fin n 0 [] news := by
  have key : ∀ (j i : Nat) (ys : List Value), i + j = n → ys.length = i → CompRest prog w A h₀ L m env elt x scope cl s S P Fin j i ys news := by
    intro j
    induction j with
    | zero =>
      intro i ys hi hy
      exact CompRest.zero (fin ys (by omega))
    | succ j ih =>
      intro i ys hi hy
      refine CompRest.succ ?_
      intro v I oI C oC D m₂ h tk E' hv hC hx F N off ne
      refine wpAny_mono (turn v I oI C oC D m₂ ys h tk E' (hP i v (by omega) hv) hC hx F N off ne) (fun y s₂ hr => ?_) fun _ _ e => e
      obtain ⟨h', tk', nw, e, F', N', off', hS, hn'⟩ := hr
      subst hn'
      refine ⟨h', tk', _, e, F', N', off', hS, ih (i + 1) _ (by omega) ?_⟩
      rw [List.length_append, hy]
      rfl
  exact key n 0 [] (by omega) rfl
/-- the points (7, 0), (7, 1) ..: where they lie, and the ledger's part that holds them -/
noncomputable def Pts (ps : List Addr) (T : List (Addr × Obj)) : Prop := ∀ (j : Nat) p, ps[j]? = some p → ∃ t u : Nat, (p, pt 7 t (j : Int) u) ∈ T
theorem pts_rest {n : Nat} (hP : ∀ i v, i < n → P i v → ∃ t, v = .int (0 + (i : Int)) t)
    (turn : ∀ k t I oI C oC D m₂ ys news₁ h tk (E' : Value → Shared → Prop), NsObj oC m₂ → m₂ x = some (.int k t) → Fr h₀ L h m → News h₀ L h ((I, oI) :: (C, oC) :: (D, lst ys) :: news₁) → Off3 I C D news₁ → ((@Ne Nat I C) ∧ (@Ne Nat I D) ∧ (@Ne Nat C D)) →
      wpAny (model prog w) A (eval elt (compEnvC scope cl C env)) (fun y s' => ∃ h' tk' p t u, s' = { s with heap := h', toks := tk' } ∧ Fr h₀ L h' m ∧ News h₀ L h' ((p, pt 7 t k u) :: (I, oI) :: (C, oC) :: (D, lst ys) :: news₁) ∧ HN p I ∧ HN p C ∧ HN p D ∧ y = .ref p) E' { s with heap := h, toks := tk })
    (hS : ∀ nw, S nw) (fin : ∀ ps T, ps.length = n → Pts ps T → Fin (ps.map .ref) (T ++ news)) : CompRest prog w A h₀ L m env elt x scope cl s S P Fin n 0 [] news := by
  have key : ∀ (j i : Nat) (ps : List Addr) (T : List (Addr × Obj)), i + j = n → ps.length = i → Pts ps T → CompRest prog w A h₀ L m env elt x scope cl s S P Fin j i (ps.map .ref) (T ++ news) := by
    intro j
    induction j with
    | zero =>
      intro i ps T hi hy hT
      exact CompRest.zero (fin ps T (by omega) hT)
    | succ j ih =>
      intro i ps T hi hy hT
      refine CompRest.succ ?_
      intro v I oI C oC D m₂ h tk E' hv hC hx F N off ne
      obtain ⟨t, hv'⟩ := hP i v (by omega) hv
      rw [hv', Int.zero_add] at hx
      refine wpAny_mono (turn i t I oI C oC D m₂ _ _ h tk E' hC hx F N off ne) (fun y s₂ hr => ?_) fun _ _ e => e
      obtain ⟨h', tk', p, t', u', e, F', N', pI, pC, pD, hy'⟩ := hr
      refine ⟨h', tk', (p, pt 7 t' i u') :: (T ++ news), e, F', fun q hq => N' q ?_, ⟨⟨pI, pC, pD⟩, off⟩, hS _, ?_⟩
      · rcases List.mem_cons.mp hq with rfl | hq
        · simp
        rcases List.mem_cons.mp hq with rfl | hq
        · simp
        rcases List.mem_cons.mp hq with rfl | hq
        · simp
        rcases List.mem_cons.mp hq with rfl | hq
        · simp
        · exact List.mem_cons_of_mem _ (List.mem_cons_of_mem _ (List.mem_cons_of_mem _ (List.mem_cons_of_mem _ hq)))
      · rw [hy']
        have := ih (i + 1) (ps ++ [p]) ((p, pt 7 t' i u') :: T) (by omega) (by simp [hy]) (fun j' p' hp => by
          by_cases hj : j' < ps.length
          · rw [List.getElem?_append_left hj] at hp
            obtain ⟨t, u, hm⟩ := hT j' p' hp
            exact ⟨t, u, List.mem_cons_of_mem _ hm⟩
          · rw [List.getElem?_append_right (by omega)] at hp
            have h0 : j' - ps.length = 0 := by
              have := (List.getElem?_eq_some_iff.mp hp).1
              simpa using this
            rw [h0] at hp
            cases hp
            have : j' = i := by omega
            subst this
            exact ⟨t', u', List.mem_cons_self⟩)
        simpa using this
  have := key n 0 [] [] (by omega) rfl (fun _ _ h => by simp at h)
  simpa using this
theorem off1_swap {D : Addr} : ∀ {T l : List (Addr × Obj)}, Off1 D (T ++ l) → AllHN D (l ++ T) := by
  intro T l h
  have a : ∀ p ∈ T ++ l, p.1 ≠ D := by
    intro p hp
    exact (show ∀ {z : List (Addr × Obj)}, Off1 D z → ∀ p ∈ z, p.1 ≠ D from fun {z} => by
      induction z with
      | nil => exact fun _ _ h => nomatch h
      | cons q r ih =>
        intro y p hp
        rcases List.mem_cons.mp hp with rfl | hp
        · exact y.1
        · exact ih y.2 p hp) h p hp
  have b : ∀ p ∈ l ++ T, p.1 ≠ D := fun p hp => a p (by
    rcases List.mem_append.mp hp with h | h
    · exact List.mem_append_right _ h
    · exact List.mem_append_left _ h)
  exact allHN' b
theorem news_swap {h : Heap} {a : Addr × Obj} {T l : List (Addr × Obj)} (N : News h₀ L h (a :: (T ++ l))) : News h₀ L h (a :: (l ++ T)) := fun p hp => N p (by
  rcases List.mem_cons.mp hp with rfl | hp
  · exact List.mem_cons_self
  · refine List.mem_cons_of_mem _ ?_
    rcases List.mem_append.mp hp with h | h
    · exact List.mem_append_right _ h
    · exact List.mem_append_left _ h)
end
end Mine
end

section
open PySem PySem.W PyProof.Rows
set_option maxHeartbeats 4000000
namespace Mine
open PySem.Calls PySem.Spec LCg LCt
section
variable {prog : Program} {w : World} {A : Around} {E : Value → Shared → Prop} {s : Shared} {h₀ : Heap} {L : Addr} {m : Str → Option Value} {env : Env} {elt ct : Expr} {x : Str} {scope : Scope} {cl : List (Str × Addr)} {S : List (Addr × Obj) → Prop} {P : Nat → Value → Prop} {Fin : List Value → List (Addr × Obj) → Prop} {news : List (Addr × Obj)}
/-- a comprehension that keeps the ints that pass a test -/
theorem flt_rest {n : Nat} {ks : List Int} (p : Int → Bool) (hks : ks.length = n) (hP : ∀ i v, i < n → P i v → ∃ k t, ks[i]? = some k ∧ v = .int k t)
    (turn : ∀ k t I oI C oC D m₂ ys h tk (E' : Value → Shared → Prop), NsObj oC m₂ → m₂ x = some (.int k t) → Fr h₀ L h m → News h₀ L h ((I, oI) :: (C, oC) :: (D, lst ys) :: news) → Off3 I C D news → ((@Ne Nat I C) ∧ (@Ne Nat I D) ∧ (@Ne Nat C D)) →
      wpAny (model prog w) A (isTrue ct (compEnvC scope cl C env) (eval ct (compEnvC scope cl C env))) (fun b s' => if b = true then wpAny (model prog w) A (eval elt (compEnvC scope cl C env)) (CompEnd h₀ L m { s with heap := h, toks := tk } I oI C oC D (lst ys) S (fun y news' => p k = true ∧ (∃ t', y = .int k t') ∧ news' = news)) E' s'
        else CompEnd h₀ L m { s with heap := h, toks := tk } I oI C oC D (lst ys) S (fun _ news' => p k = false ∧ news' = news) Value.none s') E' { s with heap := h, toks := tk })
    (fin : ∀ ys, IntsAre ys (ks.filter p) → Fin ys news) : CompRestT prog w A h₀ L m env ct elt x scope cl s S P Fin n 0 [] news := by
  have key : ∀ (j i : Nat) (ys : List Value), i + j = n → IntsAre ys ((ks.take i).filter p) → CompRestT prog w A h₀ L m env ct elt x scope cl s S P Fin j i ys news := by
    intro j
    induction j with
    | zero =>
      intro i ys hi hy
      have e : i = ks.length := by omega
      subst e
      rw [List.take_length] at hy
      exact CompRestT.zero (fin ys hy)
    | succ j ih =>
      intro i ys hi hy
      refine CompRestT.succ ?_
      intro v I oI C oC D m₂ h tk E' hv hC hx F N off ne
      obtain ⟨k, t, hk, hv'⟩ := hP i v (by omega) hv
      rw [hv'] at hx
      refine wpAny_mono (turn k t I oI C oC D m₂ ys h tk E' hC hx F N off ne) (fun b s₂ hq => ?_) fun _ _ e => e
      have hs : (ks.take (i + 1)).filter p = (ks.take i).filter p ++ [k].filter p := by
        rw [List.take_add_one, hk, List.filter_append]
        rfl
      cases b with
      | true =>
        simp only [if_true] at hq ⊢
        refine wpAny_mono hq (fun y s₃ hr => ?_) fun _ _ e => e
        obtain ⟨h', tk', nw, e, F', N', off', hS, hp, ⟨t', hy'⟩, hn⟩ := hr
        subst hn
        refine ⟨h', tk', _, e, F', N', off', hS, ?_⟩
        rw [hy']
        refine ih (i + 1) _ (by omega) ?_
        rw [hs, List.filter_cons, if_pos hp]
        exact IntsAre.append hy (.cons k t' .nil)
      | false =>
        simp only [Bool.false_eq_true, if_false] at hq ⊢
        obtain ⟨h', tk', nw, e, F', N', off', hS, hp, hn⟩ := hq
        subst hn
        refine ⟨h', tk', _, e, F', N', off', hS, ih (i + 1) _ (by omega) ?_⟩
        rw [hs, List.filter_cons, hp]
        simpa using hy
  exact key n 0 [] (by omega) (by simp only [List.take_zero, List.filter_nil]; exact .nil)
/-- a source that stands in the ground: a tuple -/
noncomputable def TupSrc (prog : Program) (w : World) (A : Around) (h₀ : Heap) (L : Addr) (m : Str → Option Value) (env : Env) (ct elt : Expr) (x : Str) (scope : Scope) (cl : List (Str × Addr)) (Fin : Shared → List Value → List (Addr × Obj) → Prop) (xv : Value) (s₁ : Shared) : Prop :=
  ∃ ax its news, xv = .ref ax ∧ A.handled = none ∧ Fr h₀ L s₁.heap m ∧ News h₀ L s₁.heap news ∧ h₀.IsTuple ax its ∧ its.size ≤ sizeLine ∧
    ∀ s₂ : Shared, (∃ h, s₂ = { s₁ with heap := h }) → CompRestT prog w A h₀ L m env ct elt x scope cl s₂ (fun _ => True) (fun i v => its[i]? = some v) (Fin s₂) its.size 0 [] news
theorem tup_st {ax I : Addr} {its : Array Value} (ht : h₀.IsTuple ax its) : ∀ i (h h' : Heap) (o : Obj) (nw : List (Addr × Obj)), (h.IsTupleIter I ax i ∧ h.IsTuple ax its) → h.get? I = some o → h'.get? I = some o → (∀ b o, h₀.get? b = some o → h'.get? b = some o) → News h₀ L h' nw → True → (h'.IsTupleIter I ax i ∧ h'.IsTuple ax its) :=
  fun i h h' o nw st e e' k _ _ => ⟨by obtain ⟨o', q, r⟩ := st.1; rw [e] at q; cases q; exact ⟨o, e', r⟩, by obtain ⟨o', q, r⟩ := ht; exact ⟨o', k _ _ q, r⟩⟩
theorem ListComp_Tup {iter : Expr} {px : Pos} {pos : Pos} {Q : Value → Shared → Prop} (_F₀ : Fr h₀ L s.heap m)
    (hclos : closureFor scope env = pure cl) (hcell : ∀ y ∈ scope.names, y.2 ≠ .cell) (hkind : scope.kind = .function)
    (hnames : ∀ y ∈ scope.names, y.2 = .local → scope.names.lookup y.1 = some .local) (hx : scope.names.lookup x = some .local)
    (h : wpAny (model prog w) A (eval iter env) (TupSrc prog w A h₀ L m env ct elt x scope cl (fun s₂ => FinE h₀ L m s₂ Q)) E s)
    (hs : ∀ x, foldedSetIterable iter env x = pure x := by intro _; rfl) :
    wpAny (model prog w) A (eval (.ListComp elt [⟨.Name x px, iter, [ct], 0⟩] scope pos) env) Q E s := by
  rw [eval_ListComp]
  refine wpAny_comprehension_free (use := none) rfl hs hclos hkind hnames (wpAny_mono h (fun xv s₁ h₁ => ?_) fun _ _ e => e)
  obtain ⟨ax, its, news, rfl, hh, F, N, ht, hsz, R⟩ := h₁
  have hl : s₁.heap.IsTuple ax its := by
    obtain ⟨o, e, r⟩ := ht
    exact ⟨o, F.keep _ _ e, r⟩
  have hlt : ax < s₁.heap.objs.size := by obtain ⟨_, e, _⟩ := hl; exact Heap.lt_size e
  refine wpAny_pyIter_tuple hl ?_
  have up : ∀ b o, s₁.heap.get? b = some o → (s₁.heap.push { cls := .type "tuple_iterator", data := .fields #[.ref ax, .int 0 0] }).get? b = some o := fun b o e => Heap.get?_push_of_some _ e
  have hl2 : (s₁.heap.push { cls := .type "tuple_iterator", data := .fields #[.ref ax, .int 0 0] }).IsTuple ax its := by
    obtain ⟨o, e, r⟩ := hl
    exact ⟨o, up _ _ e, r⟩
  refine block_T (Walks.tuple hh s₁.heap.objs.size ax (Nat.ne_of_lt hlt) its) hsz (fun i h st => by obtain ⟨o, e, _⟩ := st.1; exact ⟨o, e⟩) (tup_st ht) hcell hkind hx ⟨⟨_, Heap.get?_push_size _ rfl, rfl, rfl⟩, hl2⟩ (fun b hb => ?_)
    (F.keeps up) (N.grown up) (Nat.ne_of_lt F.ns.lt) (next_is_new F) (fun p hp => Nat.ne_of_lt (Heap.lt_size (N p hp).1)) trivial (R _ ⟨_, rfl⟩) ?_
  · show b < (s₁.heap.push _).objs.size
    rw [Heap.size_push]
    rcases List.mem_cons.mp hb with rfl | hb
    · exact Nat.lt_succ_self _
    · rw [List.mem_singleton.mp hb]; exact Nat.lt_succ_of_lt hlt
  · intro D C h tk m' ys news' F' N' o1 hn hC₀ hD₀ hCL hDL hCD offC fin
    refine ⟨m', hn, fun h'' hs'' => fin D h'' tk (F'.change hs'' hCL hC₀) (fun p hp => ?_) o1⟩
    refine ⟨hs''.extBut _ _ ?_ (N' p hp).1, (N' p hp).2⟩
    rcases List.mem_cons.mp hp with rfl | hp
    · exact Ne.symm hCD
    · exact offC p hp
end
end Mine
namespace Mine
open PySem PySem.W PyProof.Rows
theorem refs_size (ps : List Addr) : ps.length = (ps.map Value.ref).toArray.size := by simp
theorem refs_at (ps : List Addr) : ∀ (i : Nat) (v : Value), i < (ps.map Value.ref).toArray.size → (ps.map Value.ref).toArray[i]? = some v → ∃ p, ps[i]? = some p ∧ v = .ref p := by
  intro i v _ h
  simp at h
  obtain ⟨p, h1, h2⟩ := h
  exact ⟨p, h1, h2.symm⟩
theorem refs_room {ps : List Addr} (h : ps.length ≤ 8) : (ps.map Value.ref).toArray.size ≤ sizeLine := by
  rw [← refs_size]
  exact Nat.le_trans h (Nat.le_of_ble_eq_true rfl)
theorem vals_room {vs : List Value} (h : vs.length ≤ 8) : vs.toArray.size ≤ sizeLine := by
  rw [List.size_toArray]
  exact Nat.le_trans h (Nat.le_of_ble_eq_true rfl)
theorem ints_at {vs : List Value} {ns : List Int} (hi : IntsAre vs ns) : ∀ (i : Nat) (v : Value), i < vs.toArray.size → vs.toArray[i]? = some v → ∃ k t, ns[i]? = some k ∧ v = .int k t := fun i v _ hv => by
  obtain ⟨k, t, e, hk⟩ := IntsAre.at hi i v (by simpa using hv)
  exact ⟨k, t, hk, e⟩
theorem ints_size {vs : List Value} {ns : List Int} (hi : IntsAre vs ns) : ns.length = vs.toArray.size := by
  rw [List.size_toArray]
  exact hi.length.symm
end Mine
namespace Mine
open PySem PySem.W PyProof.Rows
/-- the ints that are no place below n -/
noncomputable def outs (n : Nat) : Int → Bool := fun k => decide (¬ (0 ≤ k ∧ k < (n : Int)))
noncomputable def outs_of {ps : List Addr} (_ : ps.length ≤ 8) : Int → Bool := outs ps.length
theorem refs_szI (ps : List Addr) : ((ps.map Value.ref).toArray.size : Int) = (ps.length : Int) := by simp
theorem vals_szI (vs : List Value) : (vs.toArray.size : Int) = (vs.length : Int) := by simp
theorem rep_szI (n : Nat) (v : Value) : ((List.replicate ((n : Int)).toNat [v]).flatten.toArray.size : Int) = (n : Int) := by simp
theorem grt_at {g : Heap} {ps : List Addr} (h : ∀ q ∈ ps, ∃ v, IsTup g q v) {q : Addr} (hq : q ∈ ps) : ∃ v, IsTup g q v := h q hq
end Mine
namespace Mine
open PySem PySem.W PyProof.Rows
theorem grt_use {g : Heap} {ps : List Addr} {q : Addr} {G : Prop} (h : ∀ q ∈ ps, ∃ v, IsTup g q v) (hq : q ∈ ps) (k : ∀ v, IsTup g q v → G) : G := (h q hq).elim k
end Mine
namespace Mine
open PySem PySem.W PyProof.Rows LCg
section
variable {h₀ : Heap} {L I C D q : Addr} {m : Str → Option Value} {s₁ : Shared} {oI oC oD : Obj} {S : List (Addr × Obj) → Prop} {y : Value} {h' : Heap} {tk : Nat} {all news : List (Addr × Obj)} {p : Int → Bool} {k : Int}
theorem cend_same (F : Fr h₀ L h' m) (N : News h₀ L h' all) (sub : ∀ p ∈ (I, oI) :: (C, oC) :: (D, oD) :: news, p ∈ all) (off : Off3 I C D news) (hS : S news) : CompEnd h₀ L m s₁ I oI C oC D oD S (fun y news' => y = .ref q ∧ news' = news) (.ref q) { s₁ with heap := h', toks := tk } :=
  .intro F N news sub off hS ⟨rfl, rfl⟩
theorem cend_any (F : Fr h₀ L h' m) (N : News h₀ L h' all) (sub : ∀ p ∈ (I, oI) :: (C, oC) :: (D, oD) :: news, p ∈ all) (off : Off3 I C D news) (hS : S news) : CompEnd h₀ L m s₁ I oI C oC D oD S (fun _ news' => news' = news) y { s₁ with heap := h', toks := tk } :=
  .intro F N news sub off hS rfl
theorem cend_keep {t : Nat} (F : Fr h₀ L h' m) (N : News h₀ L h' all) (sub : ∀ p ∈ (I, oI) :: (C, oC) :: (D, oD) :: news, p ∈ all) (off : Off3 I C D news) (hS : S news) (e : p k = true) : CompEnd h₀ L m s₁ I oI C oC D oD S (fun y news' => p k = true ∧ (∃ t', y = .int k t') ∧ news' = news) (.int k t) { s₁ with heap := h', toks := tk } :=
  .intro F N news sub off hS ⟨e, ⟨_, rfl⟩, rfl⟩
theorem cend_drop (F : Fr h₀ L h' m) (N : News h₀ L h' all) (sub : ∀ p ∈ (I, oI) :: (C, oC) :: (D, oD) :: news, p ∈ all) (off : Off3 I C D news) (hS : S news) (e : p k = false) : CompEnd h₀ L m s₁ I oI C oC D oD S (fun _ news' => p k = false ∧ news' = news) y { s₁ with heap := h', toks := tk } :=
  .intro F N news sub off hS ⟨e, rfl⟩
theorem outs_t {ps : List Addr} {h : ps.length ≤ 8} {k : Int} (e : ¬ (0 ≤ k ∧ k < (ps.length : Int))) : outs_of h k = true := decide_eq_true e
theorem outs_f {ps : List Addr} {h : ps.length ≤ 8} {k : Int} (e : 0 ≤ k ∧ k < (ps.length : Int)) : outs_of h k = false := decide_eq_false fun n => n e
end
end Mine
end

section
open PySem PySem.W PyProof.Rows
namespace Mine
theorem outs_good {ps : List Addr} {ns : List Int} {h : ps.length ≤ 8} (e : (ns.map fun a => a).filter (outs_of h) = []) : ∀ k ∈ ns, 0 ≤ k ∧ k < (ps.length : Int) := by
  intro k hk
  have := List.filter_eq_nil_iff.mp e k (List.mem_map.mpr ⟨k, hk, rfl⟩)
  by_cases hp : 0 ≤ k ∧ k < (ps.length : Int)
  · exact hp
  · exact absurd (outs_t hp) this
theorem outs_bad {ps : List Addr} {ns : List Int} {h : ps.length ≤ 8} (e : (ns.map fun a => a).filter (outs_of h) ≠ []) : ¬ ∀ k ∈ ns, 0 ≤ k ∧ k < (ps.length : Int) := by
  intro g
  refine e (List.filter_eq_nil_iff.mpr fun k hk => ?_)
  obtain ⟨k', hk', rfl⟩ := List.mem_map.mp hk
  rw [outs_f (g _ hk')]
  exact Bool.false_ne_true
theorem raised_zone {A₀ : Around} {base h₀ h h' g' : Heap} {outer : List Env} {L e t x dx : Addr} {m : Str → Option Value} {env : Env} {cls : Value} {vs : List Value} {news sm : List (Addr × Obj)} {ox od od' : Obj} (B : Below A₀ base outer h₀) (F : Fr h₀ L h m) (N : News h₀ L h ((x, ox) :: (dx, od) :: news)) (hf : env.frame = some L)
    (R : RaisedS base g' (env :: outer) e cls t vs sm h') (U : g'.UpToSlots h') (hg : GKeep [(x, ox), (dx, od)] h g') (hx : (x, ox) ∈ sm) (hd : (dx, od') ∈ sm) (lt : ∀ p ∈ news, p.1 ≠ dx) :
    ∃ g, Fr h₀ L g m ∧ RaisedS base g (env :: outer) e cls t vs news h' ∧ g.UpToSlots h' := by
  obtain ⟨a1, a2, a3⟩ := raised_up (ch := [(dx, od')]) (news' := news) B F N hf R U hg
    (fun p hp => .inr ⟨List.mem_cons_of_mem _ (List.mem_cons_of_mem _ hp), fun c hc => by
      rw [List.mem_singleton.mp hc]
      exact lt p hp⟩)
    (fun q hq => by
      rcases List.mem_cons.mp hq with rfl | hq
      · exact List.mem_cons_self
      · rw [List.mem_singleton.mp hq]
        exact List.mem_cons_of_mem _ List.mem_cons_self)
    (fun q hq => by
      rcases List.mem_cons.mp hq with rfl | hq
      · exact .inr hx
      · rw [List.mem_singleton.mp hq]
        exact .inl ⟨_, List.mem_cons_self, rfl⟩)
    (fun q hq => by
      rw [List.mem_singleton.mp hq]
      exact hd)
  exact ⟨_, a1, a2, a3⟩
end Mine
end

theorem Mine.reg_x15 : True := by
  (k_with "x15 exec Raise some none" => (k_here; k_dflt (refine' Mine.raise_by (C := 72) ?hhY93 ?_; (case hhY93 => first | rfl | assumption)); (try dsimp only); (try k_fold)))
  (k_with "x15 RaiseEnd" => (k_dflt (refine' Mine.RaiseEnd.intro ?FY94 ?XY94 ?qY94 ?MY94 ?_; (case MY94 => with_reducible assumption); (case FY94 => k_asm); (case XY94 => k_asm); (case qY94 => kts_isx)); (try dsimp only)))
  (k_with "x15 leaving ref" => (k_here; first | (refine' Mine.leave_firstX ?hfY95 ?hkeY95 ?KY95 ?hxY95 ?FY95 ?NY95 ?_; (case hxY95 => with_reducible assumption); (case hfY95 => rfl); (case hkeY95 => rfl); (case FY95 => with_reducible assumption); (case KY95 => with_reducible assumption); (case NY95 => k_asm); k_whole; intro h'Z S'Z U'Z; (try dsimp only at S'Z U'Z ⊢)) | (refine' Mine.leave_onX ?hfY95 ?KY95 ?FY95 ?RY95 ?UY95 ?_; (case RY95 => with_reducible assumption); (case UY95 => with_reducible assumption); (case hfY95 => rfl); (case FY95 => with_reducible assumption); (case KY95 => with_reducible assumption); k_whole; intro h'Z S'Z U'Z; (try dsimp only at S'Z U'Z ⊢))))
  (k_with "x15 CompSrc" => (k_here; k_dflt (refine' LCg.CompSrc.base ?hhY119 ?FY119 ?NY119 ?hlY119 ?hzY119 ?_; (case hlY119 => with_reducible assumption); (case hhY119 => rfl); (case FY119 => k_asm); (case NY119 => k_asm); (case hzY119 => exact Mine.refs_room (by with_reducible assumption)); intro g9Z; refine' Mine.same_rest ?hnY119 ?hPY119 (fun q'Z I'Z oI'Z C'Z oC'Z D'Z m'Z ys'Z h'Z tk'Z E'Z hq'Z hC'Z hx'Z F'Z N'Z off'Z ne'Z => Mine.grt_use (by with_reducible assumption) hq'Z fun tv'Z ht'Z => ?_) ?_; (case hPY119 => exact Mine.refs_at _); (case hnY119 => exact Mine.refs_size _))))
  (k_with "x15 CompSrc" => (k_here; k_dflt (refine' LCg.CompSrc.ledger ?hhY120 ?FY120 ?NY120 ?hlY120 ?hzY120 ?_; (case hhY120 => rfl); (case FY120 => k_asm); (case NY120 => k_asm); (case hlY120 => k_mem); (case hzY120 => exact Mine.refs_room (by with_reducible assumption)); intro g9Z; refine' Mine.any_rest (Pv := fun _ => True) ?hPY120 (fun q'Z I'Z oI'Z C'Z oC'Z D'Z m'Z ys'Z h'Z tk'Z E'Z hq'Z hC'Z hx'Z F'Z N'Z off'Z ne'Z => ?_) (fun ys'Z hys'Z => ?_); (case hPY120 => exact fun _ _ _ _ => trivial))))
  (k_with "x15 CompSrcT" => (k_here; k_dflt (refine' LCt.CompSrcT.ledger ?hhY121 ?FY121 ?NY121 ?hlY121 ?hzY121 ?_; (case hhY121 => rfl); (case FY121 => k_asm); (case NY121 => k_asm); (case hlY121 => k_mem); (case hzY121 => exact Mine.vals_room (by with_reducible assumption)); intro g9Z; refine' Mine.flt_rest (Mine.outs_of (by with_reducible assumption)) ?hnY121 ?hPY121 (fun k'Z t'Z I'Z oI'Z C'Z oC'Z D'Z m'Z ys'Z h'Z tk'Z E'Z hC'Z hx'Z F'Z N'Z off'Z ne'Z => ?_) (fun ys'Z hys'Z => ?_); (case hPY121 => exact Mine.ints_at (by with_reducible assumption)); (case hnY121 => exact Mine.ints_size (by with_reducible assumption)))))
  (k_with "x15 call type:tuple" => (k_here; (with_reducible show wpAny _ _ (call (Value.type _) [Value.ref _]) _ _ _); k_dflt (refine' call_tuple_tup ?tY122 ?_; (case tY122 => (refine' Fr.tup ?FY122 ?xY122; (case xY122 => with_reducible assumption); (case FY122 => with_reducible assumption))); k_whole)))
  (k_with "x15 call type:list" => (k_here; (with_reducible show wpAny _ _ (call (Value.type _) [Value.ref _]) _ _ _); k_dflt (first | (refine' list_copyK ?FY123 ?NY123 ?lY123 ?_ ?zY123; (case FY123 => k_asm); (case NY123 => k_asm); (case lY123 => first | (refine' News.isList ?N2Y123 ?mmY123; (case N2Y123 => k_asm); (case mmY123 => k_mem)) | (refine' Fr.lst ?F2Y123 ?x2Y123; (case x2Y123 => with_reducible assumption); (case F2Y123 => with_reducible assumption)))) | (refine' list_copyKT ?FY123 ?NY123 ?lY123 ?_ ?zY123; (case FY123 => k_asm); (case NY123 => k_asm); (case lY123 => (refine' Fr.tup ?F2Y123 ?x2Y123; (case x2Y123 => with_reducible assumption); (case F2Y123 => with_reducible assumption)))); (case zY123 => first | exact Mine.refs_room (by with_reducible assumption) | exact Mine.vals_room (by with_reducible assumption))); intro D'Z c'Z h'Z F'Z N'Z l1Z; (try k_lt l1Z); (try k_sweep)))
  (k_with "x15 binaryOp Mult ref int" => (k_here; (with_reducible show wpAny _ _ (binaryOp Operator.Mult (Value.ref _) (Value.int _ _)) _ _ _); k_dflt (refine' KMa.mul ?FY124 ?NY124 ?lY124 ?loY124 ?hiY124 ?zY124 ?eY124 ?_; (case FY124 => k_asm); (case NY124 => k_asm); (case lY124 => (refine' News.isList ?N2Y124 ?mmY124; (case N2Y124 => k_asm); (case mmY124 => k_mem))); (case eY124 => rfl); (case loY124 => omega); (case hiY124 => omega); (case zY124 => (simp only [List.length_cons, List.length_nil]; omega))); intro D'Z h'Z F'Z N'Z l1Z; (try k_lt l1Z); (try k_sweep)))
  (k_with "x15 call builtin:len" => (k_here; (with_reducible show wpAny _ _ (call (Value.builtin "len") [Value.ref _]) _ _ _); k_dflt (refine' kun_lenL ?k1Y125 ?k2Y125 ?k3Y125 ?_; (case k1Y125 => (refine' News.isList ?NY125 ?mY125; (case NY125 => k_asm); (case mY125 => k_mem))); (case k2Y125 => first | exact Mine.refs_szI _ | exact Mine.rep_szI _ _ | exact Mine.vals_szI _); (case k3Y125 => omega); k_whole)))
  (k_with "x15 compareOp NotEq ref ref" => (k_here; (with_reducible show wpAny _ _ (compareOp CmpOp.NotEq (Value.ref _) (Value.ref _)) _ _ _); k_dflt (refine' ne_intsK ?k1Y126 ?k2Y126 ?k3Y126 ?k4Y126 ?k5Y126 ?_; (case k1Y126 => (refine' News.isList ?NY126 ?mY126; (case NY126 => k_asm); (case mY126 => k_mem))); (case k3Y126 => (refine' News.isList ?NY126 ?mY126; (case NY126 => k_asm); (case mY126 => k_mem))); (case k2Y126 => with_reducible assumption); (case k4Y126 => exact IntsAre.nil); (case k5Y126 => first | exact Nat.le_of_ble_eq_true rfl | omega); k_whole)))
  (k_with "x15 eval ListComp" => (k_here; (with_reducible show wpAny _ _ (eval (Expr.ListComp _ [⟨_, _, [], _⟩] _ _) _) _ _ _); k_dflt (refine LCg.ListComp_U (F₀ := by k_asm) (by with_unfolding_all rfl) (by decide) (by rfl) (by decide) (by rfl) ?_)))
  (k_with "x15 eval ListComp" => (k_here; (with_reducible show wpAny _ _ (eval (Expr.ListComp _ [⟨_, _, [_], _⟩] _ _) _) _ _ _); k_dflt (refine LCt.ListComp_T (F₀ := by k_asm) (by with_unfolding_all rfl) (by decide) (by rfl) (by decide) (by rfl) ?_)))
  (k_with "x15 eval ListComp Call cons" => (k_here; (with_reducible show wpAny _ _ (eval (Expr.ListComp _ [⟨_, _, [], _⟩] _ _) _) _ _ _); k_dflt (refine LCg.ListComp_U (F₀ := by k_asm) (by with_unfolding_all rfl) (by decide) (by rfl) (by decide) (by rfl) ?_)))
  (k_with "x15 eval ListComp Call cons" => (k_here; (with_reducible show wpAny _ _ (eval (Expr.ListComp _ [⟨_, _, [_], _⟩] _ _) _) _ _ _); k_dflt (refine LCt.ListComp_T (F₀ := by k_asm) (by with_unfolding_all rfl) (by decide) (by rfl) (by decide) (by rfl) ?_)))
  (k_with "x15 eval ListComp List cons" => (k_here; (with_reducible show wpAny _ _ (eval (Expr.ListComp _ [⟨_, _, [], _⟩] _ _) _) _ _ _); k_dflt (refine LCg.ListComp_U (F₀ := by k_asm) (by with_unfolding_all rfl) (by decide) (by rfl) (by decide) (by rfl) ?_)))
  (k_with "x15 eval ListComp List cons" => (k_here; (with_reducible show wpAny _ _ (eval (Expr.ListComp _ [⟨_, _, [_], _⟩] _ _) _) _ _ _); k_dflt (refine LCt.ListComp_T (F₀ := by k_asm) (by with_unfolding_all rfl) (by decide) (by rfl) (by decide) (by rfl) ?_)))
  (k_with "x15 eval ListComp Name cons" => (k_here; (with_reducible show wpAny _ _ (eval (Expr.ListComp _ [⟨_, _, [], _⟩] _ _) _) _ _ _); k_dflt (refine LCg.ListComp_U (F₀ := by k_asm) (by with_unfolding_all rfl) (by decide) (by rfl) (by decide) (by rfl) ?_)))
  (k_with "x15 eval ListComp Name cons" => (k_here; (with_reducible show wpAny _ _ (eval (Expr.ListComp _ [⟨_, _, [_], _⟩] _ _) _) _ _ _); k_dflt (refine LCt.ListComp_T (F₀ := by k_asm) (by with_unfolding_all rfl) (by decide) (by rfl) (by decide) (by rfl) ?_)))
  (k_with "x15 eval ListComp Tuple cons" => (k_here; (with_reducible show wpAny _ _ (eval (Expr.ListComp _ [⟨_, _, [], _⟩] _ _) _) _ _ _); k_dflt (refine LCg.ListComp_U (F₀ := by k_asm) (by with_unfolding_all rfl) (by decide) (by rfl) (by decide) (by rfl) ?_)))
  (k_with "x15 eval ListComp Tuple cons" => (k_here; (with_reducible show wpAny _ _ (eval (Expr.ListComp _ [⟨_, _, [_], _⟩] _ _) _) _ _ _); k_dflt (refine LCt.ListComp_T (F₀ := by k_asm) (by with_unfolding_all rfl) (by decide) (by rfl) (by decide) (by rfl) ?_)))
  (k_with "x15 CompEnd" => (k_dflt (first | (refine' Mine.cend_same ?FY137 ?NY137 ?subY137 ?offY137 ?srcY137; (case FY137 => k_asm); (case NY137 => k_asm); (case subY137 => lcg_sub); (case offY137 => with_reducible assumption); (case srcY137 => first | exact True.intro | exact Or.inl (by with_reducible assumption) | exact Or.inr ⟨_, by k_mem, rfl, _, rfl⟩)) | (refine' Mine.cend_any ?FY137 ?NY137 ?subY137 ?offY137 ?srcY137; (case FY137 => k_asm); (case NY137 => k_asm); (case subY137 => lcg_sub); (case offY137 => with_reducible assumption); (case srcY137 => first | exact True.intro | exact Or.inl (by with_reducible assumption) | exact Or.inr ⟨_, by k_mem, rfl, _, rfl⟩)) | (refine' Mine.cend_keep ?FY137 ?NY137 ?subY137 ?offY137 ?srcY137 ?eY137; (case FY137 => k_asm); (case NY137 => k_asm); (case subY137 => lcg_sub); (case offY137 => with_reducible assumption); (case srcY137 => first | exact True.intro | exact Or.inl (by with_reducible assumption) | exact Or.inr ⟨_, by k_mem, rfl, _, rfl⟩); (case eY137 => exact Mine.outs_t (by omega))) | (refine' Mine.cend_drop ?FY137 ?NY137 ?subY137 ?offY137 ?srcY137 ?eY137; (case FY137 => k_asm); (case NY137 => k_asm); (case subY137 => lcg_sub); (case offY137 => with_reducible assumption); (case srcY137 => first | exact True.intro | exact Or.inl (by with_reducible assumption) | exact Or.inr ⟨_, by k_mem, rfl, _, rfl⟩); (case eY137 => exact Mine.outs_f (by omega))))))
  (k_with "x15 setAttr ref" => (k_here; gn_on))
  trivial
section
local macro_rules | `(tactic| walk_at $s:str) => do let t := Lean.Syntax.mkStrLit ("x15 " ++ s.getString); `(tactic| k_extra $t)
local macro_rules | `(tactic| walk_at $s:str) => do let t := Lean.Syntax.mkStrLit ("x15 " ++ s.getString); `(tactic| k_extra $t)

section
open PySem PySem.W PyProof.Rows
set_option maxHeartbeats 8000000
namespace Mine
section
variable {w : World} {p : Program} {loose : List Str} {mean : ExcName → Option Value} {mg mb : Str → Option Value}
    {gd : Option (List Code)} {cn : Str} {cs : Scope} {a : Addr} {ccd : Value} {cl : List (Str × Addr)} {outer : List Env} {A₀ : Around} {base h₀ : Heap} {L : Addr} {m : Str → Option Value} {news : List (Addr × Obj)} {s : Shared} {Q E : Value → Shared → Prop}
    (B : Below A₀ base outer h₀) (F : Fr h₀ L s.heap m) (X : (Mine.hd.heap_1 w.params).In h₀) (N : News h₀ L s.heap news) (T : Top p loose mean mg mb h₀) (hk : cs.kind = .function)
include B F X N T hk
theorem zc_none {pl el tl : Addr} {ps : List Addr} {ns : List Int} {vs fs : List Value} {n0 n1 : Nat}
    (hpl : (pl, listOf (ps.map Value.ref).toArray n0) ∈ news) (hps : ∀ q ∈ ps, ∃ t k u, (q, pt 7 t k u) ∈ news) (hel : h₀.IsTuple el vs.toArray) (hi : IntsAre vs ns) 
    (hsz : ps.length ≤ 8) (hvs : vs.length ≤ 8)
    (hret : (∀ k ∈ ns, 0 ≤ k ∧ k < (ps.length : Int)) → ∀ (x dx org cu to en oc : Addr) (g0 g1 g2 g3 g4 : Tok) (y0 y1 y2 : Nat) h' tk', Fr h₀ L h' m →
      News h₀ L h' ((x, instObj 387 dx) :: (dx, dictOf [ent w "original" g0 (.ref org), ent w "current" g1 (.ref cu), ent w "touched" g2 (.ref to), ent w "ends" g3 (.ref en), ent w "on_curve" g4 (.ref oc)] 5) ::
      (org, listOf (ps.map Value.ref).toArray y0) :: (cu, listOf (ps.map Value.ref).toArray y1) :: (en, listOf vs.toArray y2) :: news) → Q (.ref x) { s with heap := h', toks := tk' })
    (hexc : ¬ (∀ k ∈ ns, 0 ≤ k ∧ k < (ps.length : Int)) → ∀ g e t vs' h' tk', Fr h₀ L g m → RaisedS base g (envX cn cs L a ccd cl :: outer) e (.ref 72) t vs' news h' → g.UpToSlots h' → E (.ref e) { s with heap := h', toks := tk' }) :
    wpAny (model PG w) (ktrTop 880 7800 gd cn cs L a ccd cl outer) (call (.ref 387) [.ref pl, .ref el, .none]) Q E s := by
  have hX : Mine.hd.heap_1 = Mine.hd.heap_1 ∧ PySem.Challenge.rw_qz0063_01 = PySem.Challenge.rw_qz0063_01 := by
    k_fill
    exact ⟨rfl, rfl⟩
  clear hX
  k_dflt (refine' call_cls ?k1 ?k2 ?k3 ?k4 ?k5 ?k6 ?_; (case k1 => k_asm); (case k2 => k_asm); (case k3 => k_asm); (case k4 => k_is); (case k5 => k_is); (case k6 => k_is); k_whole)
  intro x dx h1 F1 N1 l1 l2
  have lt : ∀ p ∈ news, p.1 ≠ dx := fun p hp => Nat.ne_of_lt (l1 p hp)
  have lx : ∀ p ∈ news, p.1 ≠ x := fun p hp => Nat.ne_of_lt (Nat.lt_trans (l1 p hp) l2)
  have hxN := (N1 _ List.mem_cons_self).2.2
  have hdN := (N1 _ (List.mem_cons_of_mem _ List.mem_cons_self)).2.2
  dsimp only at hxN hdN
  replace l2 := HL.mk l2
  have N2 : News h₀ L h1 [(x, instObj 387 dx), (dx, dictOf [] 0)] := by
    refine cb_drop N1 ?_
    repeat' (first | exact List.forall_mem_nil _ | (refine Mine.fa_cons ?_ ?_) | k_mem)
  have hF1 : True ∧ Fr h₀ L h1 m := ⟨trivial, F1⟩
  k_dflt (refine' enter2CE ?k1 ?k2 ?k3 ?k4 ?k5 ?kA ?kF ?kK ?k6 ?k7 ?k8 ?k9 ?kB ?kD ?_ ?c2 ?c3 ?c4; (case kA => exact rfl); (case kF => exact rfl); (case kK => assumption); (case k1 => k_asm); (case k2 => k_asm); (case k3 => k_asm); (case k4 => exact N2); (case k5 => k_asm); (case k6 => k_is); (case k7 => k_is); (case k8 => k_room); (case k9 => first | exact BindsTo.of_eq rfl | exact binds_K (by k_in) rfl (by k_is) rfl rfl rfl | fail "k_enter: no rule for these arguments"); (case kB => exact rfl); (case kD => decide +kernel); (case c2 => exact rfl); (case c3 => exact rfl); (case c4 => exact rfl); k_whole; intro g' L' h' tk' cells' FG' F' N' Y' B' X' T' l1' l4' hGK; (try k_lt l1'); k_cells Y'; (try simp only [List.cons_append, List.nil_append] at N'); (try dsimp only); (try k_lift B'); first | (refine Mine.wp_enter ?_; intro ev Aw qk ek) | k_fold | skip)
  have gk : ∀ p ∈ news, g'.get? p.1 = some p.2 := fun p hp => hGK _ _ (N1 _ (List.mem_cons_of_mem _ (List.mem_cons_of_mem _ hp))).1 (by simp [lt p hp, lx p hp])
  have gpl : g'.IsList pl (ps.map Value.ref).toArray := ⟨_, gk _ hpl, rfl, _, rfl⟩
  have gps : ∀ q ∈ ps, ∃ v, IsTup g' q v := fun q hq => by
    obtain ⟨t, k, u, hm⟩ := hps q hq
    exact ⟨_, _, gk _ hm, rfl, _, rfl⟩
  have gel : IsTup g' el vs.toArray := by
    obtain ⟨o, ho, r⟩ := hel
    refine ⟨o, hGK _ _ (F1.keep _ _ ho) ?_, r⟩
    have e1 : el ≠ x := fun e => by rw [e, hxN] at ho; cases ho
    have e2 : el ≠ dx := fun e => by rw [e, hdN] at ho; cases ho
    simp [e1, e2]
  clear N2 N F
  k_steps
  · (rename ((ps.length : Int) ≠ (ps.length : Int)) => hA)
    exact absurd rfl hA
  · (rename (decide (List.filter _ _ = []) = true) => hA)
    (rename Kept _ _ _ => hK)
    (rename News h₀ L _ _ => kN)
    have good := outs_good (ps := ps) (ns := ns) (h := hsz) (by first | exact of_decide_eq_true hA | (rw [List.map_id']; exact of_decide_eq_true hA))
    apply hret good
    · assumption
    · apply news_cons
      · apply kN
        k_mem
      apply news_cons
      · apply kN
        k_mem
      apply news_cons
      · apply kN
        k_mem
      apply news_cons
      · apply kN
        k_mem
      apply news_cons
      · apply kN
        k_mem
      refine news_back (cb_drop N1 (fun p hp => List.mem_cons_of_mem _ (List.mem_cons_of_mem _ hp))) hK ?_
      exact List.forall_mem_cons.mpr ⟨.inl lx, List.forall_mem_cons.mpr ⟨.inl lt, List.forall_mem_nil _⟩⟩
  · (rename RaisedS _ _ (envX _ _ _ _ _ _ :: outer) _ _ _ _ _ _ => hR)
    (rename Heap.UpToSlots _ _ => hU)
    obtain ⟨g2, a1, a2, a3⟩ := raised_zone (env := envX cn cs L a ccd cl) B hF1.2 N1 rfl hR hU hGK (by k_mem) (by k_mem) lt
    (rename (decide (List.filter _ _ = []) = false) => hA)
    have bad := outs_bad (ps := ps) (ns := ns) (h := hsz) (by first | exact of_decide_eq_false hA | (rw [List.map_id']; exact of_decide_eq_false hA))
    exact hexc bad _ _ _ _ _ _ a1 a2 a3
  · exact refs_room hsz
end
end Mine
end

section
open PySem PySem.W PyProof.Rows
set_option maxHeartbeats 8000000
namespace Mine
section
variable {w : World} {p : Program} {loose : List Str} {mean : ExcName → Option Value} {mg mb : Str → Option Value}
    {gd : Option (List Code)} {cn : Str} {cs : Scope} {a : Addr} {ccd : Value} {cl : List (Str × Addr)} {outer : List Env} {A₀ : Around} {base h₀ : Heap} {L : Addr} {m : Str → Option Value} {news : List (Addr × Obj)} {s : Shared} {Q E : Value → Shared → Prop}
    (B : Below A₀ base outer h₀) (F : Fr h₀ L s.heap m) (X : (Mine.hd.heap_1 w.params).In h₀) (N : News h₀ L s.heap news) (T : Top p loose mean mg mb h₀) (hk : cs.kind = .function)
include B F X N T hk
theorem zc_list {pl el tl : Addr} {ps : List Addr} {ns : List Int} {vs fs : List Value} {n0 n1 : Nat}
    (hpl : (pl, listOf (ps.map Value.ref).toArray n0) ∈ news) (hps : ∀ q ∈ ps, ∃ t k u, (q, pt 7 t k u) ∈ news) (hel : h₀.IsTuple el vs.toArray) (hi : IntsAre vs ns) (htl : (tl, listOf fs.toArray n1) ∈ news) (hfs : fs.length ≤ 8)
    (hsz : ps.length ≤ 8) (hvs : vs.length ≤ 8)
    (hret : (fs.length = ps.length ∧ (∀ k ∈ ns, 0 ≤ k ∧ k < (ps.length : Int))) → ∀ (x dx org cu to en oc : Addr) (g0 g1 g2 g3 g4 : Tok) (y0 y1 y2 : Nat) h' tk', Fr h₀ L h' m →
      News h₀ L h' ((x, instObj 387 dx) :: (dx, dictOf [ent w "original" g0 (.ref org), ent w "current" g1 (.ref cu), ent w "touched" g2 (.ref to), ent w "ends" g3 (.ref en), ent w "on_curve" g4 (.ref oc)] 5) ::
      (org, listOf (ps.map Value.ref).toArray y0) :: (cu, listOf (ps.map Value.ref).toArray y1) :: (en, listOf vs.toArray y2) :: news) → Q (.ref x) { s with heap := h', toks := tk' })
    (hexc : ¬ (fs.length = ps.length ∧ (∀ k ∈ ns, 0 ≤ k ∧ k < (ps.length : Int))) → ∀ g e t vs' h' tk', Fr h₀ L g m → RaisedS base g (envX cn cs L a ccd cl :: outer) e (.ref 72) t vs' news h' → g.UpToSlots h' → E (.ref e) { s with heap := h', toks := tk' }) :
    wpAny (model PG w) (ktrTop 880 7800 gd cn cs L a ccd cl outer) (call (.ref 387) [.ref pl, .ref el, .ref tl]) Q E s := by
  have hX : Mine.hd.heap_1 = Mine.hd.heap_1 ∧ PySem.Challenge.rw_qz0063_01 = PySem.Challenge.rw_qz0063_01 := by
    k_fill
    exact ⟨rfl, rfl⟩
  clear hX
  k_dflt (refine' call_cls ?k1 ?k2 ?k3 ?k4 ?k5 ?k6 ?_; (case k1 => k_asm); (case k2 => k_asm); (case k3 => k_asm); (case k4 => k_is); (case k5 => k_is); (case k6 => k_is); k_whole)
  intro x dx h1 F1 N1 l1 l2
  have lt : ∀ p ∈ news, p.1 ≠ dx := fun p hp => Nat.ne_of_lt (l1 p hp)
  have lx : ∀ p ∈ news, p.1 ≠ x := fun p hp => Nat.ne_of_lt (Nat.lt_trans (l1 p hp) l2)
  have hxN := (N1 _ List.mem_cons_self).2.2
  have hdN := (N1 _ (List.mem_cons_of_mem _ List.mem_cons_self)).2.2
  dsimp only at hxN hdN
  replace l2 := HL.mk l2
  have N2 : News h₀ L h1 [(x, instObj 387 dx), (dx, dictOf [] 0)] := by
    refine cb_drop N1 ?_
    repeat' (first | exact List.forall_mem_nil _ | (refine Mine.fa_cons ?_ ?_) | k_mem)
  have hF1 : True ∧ Fr h₀ L h1 m := ⟨trivial, F1⟩
  k_dflt (refine' enter2CE ?k1 ?k2 ?k3 ?k4 ?k5 ?kA ?kF ?kK ?k6 ?k7 ?k8 ?k9 ?kB ?kD ?_ ?c2 ?c3 ?c4; (case kA => exact rfl); (case kF => exact rfl); (case kK => assumption); (case k1 => k_asm); (case k2 => k_asm); (case k3 => k_asm); (case k4 => exact N2); (case k5 => k_asm); (case k6 => k_is); (case k7 => k_is); (case k8 => k_room); (case k9 => first | exact BindsTo.of_eq rfl | exact binds_K (by k_in) rfl (by k_is) rfl rfl rfl | fail "k_enter: no rule for these arguments"); (case kB => exact rfl); (case kD => decide +kernel); (case c2 => exact rfl); (case c3 => exact rfl); (case c4 => exact rfl); k_whole; intro g' L' h' tk' cells' FG' F' N' Y' B' X' T' l1' l4' hGK; (try k_lt l1'); k_cells Y'; (try simp only [List.cons_append, List.nil_append] at N'); (try dsimp only); (try k_lift B'); first | (refine Mine.wp_enter ?_; intro ev Aw qk ek) | k_fold | skip)
  have gk : ∀ p ∈ news, g'.get? p.1 = some p.2 := fun p hp => hGK _ _ (N1 _ (List.mem_cons_of_mem _ (List.mem_cons_of_mem _ hp))).1 (by simp [lt p hp, lx p hp])
  have gpl : g'.IsList pl (ps.map Value.ref).toArray := ⟨_, gk _ hpl, rfl, _, rfl⟩
  have gps : ∀ q ∈ ps, ∃ v, IsTup g' q v := fun q hq => by
    obtain ⟨t, k, u, hm⟩ := hps q hq
    exact ⟨_, _, gk _ hm, rfl, _, rfl⟩
  have gel : IsTup g' el vs.toArray := by
    obtain ⟨o, ho, r⟩ := hel
    refine ⟨o, hGK _ _ (F1.keep _ _ ho) ?_, r⟩
    have e1 : el ≠ x := fun e => by rw [e, hxN] at ho; cases ho
    have e2 : el ≠ dx := fun e => by rw [e, hdN] at ho; cases ho
    simp [e1, e2]
  have gtl : g'.IsList tl fs.toArray := ⟨_, gk _ htl, rfl, _, rfl⟩
  clear N2 N F
  k_steps
  · (rename RaisedS _ _ (envX _ _ _ _ _ _ :: outer) _ _ _ _ _ _ => hR)
    (rename Heap.UpToSlots _ _ => hU)
    obtain ⟨g2, a1, a2, a3⟩ := raised_zone (env := envX cn cs L a ccd cl) B hF1.2 N1 rfl hR hU hGK (by k_mem) (by k_mem) lt
    (rename ((fs.length : Int) ≠ (ps.length : Int)) => hB)
    have bad : ¬ (fs.length = ps.length ∧ ∀ k ∈ ns, 0 ≤ k ∧ k < (ps.length : Int)) := fun z => hB (by omega)
    exact hexc bad _ _ _ _ _ _ a1 a2 a3
  · (rename (decide (List.filter _ _ = []) = true) => hA)
    (rename ((fs.length : Int) = (ps.length : Int)) => hB)
    replace hB : fs.length = ps.length := by omega
    (rename Kept _ _ _ => hK)
    (rename News h₀ L _ _ => kN)
    have good := And.intro hB (outs_good (ps := ps) (ns := ns) (h := hsz) (by first | exact of_decide_eq_true hA | (rw [List.map_id']; exact of_decide_eq_true hA)))
    apply hret good
    · assumption
    · apply news_cons
      · apply kN
        k_mem
      apply news_cons
      · apply kN
        k_mem
      apply news_cons
      · apply kN
        k_mem
      apply news_cons
      · apply kN
        k_mem
      apply news_cons
      · apply kN
        k_mem
      refine news_back (cb_drop N1 (fun p hp => List.mem_cons_of_mem _ (List.mem_cons_of_mem _ hp))) hK ?_
      exact List.forall_mem_cons.mpr ⟨.inl lx, List.forall_mem_cons.mpr ⟨.inl lt, List.forall_mem_nil _⟩⟩
  · (rename RaisedS _ _ (envX _ _ _ _ _ _ :: outer) _ _ _ _ _ _ => hR)
    (rename Heap.UpToSlots _ _ => hU)
    obtain ⟨g2, a1, a2, a3⟩ := raised_zone (env := envX cn cs L a ccd cl) B hF1.2 N1 rfl hR hU hGK (by k_mem) (by k_mem) lt
    (rename (decide (List.filter _ _ = []) = false) => hA)
    have bad : ¬ (fs.length = ps.length ∧ ∀ k ∈ ns, 0 ≤ k ∧ k < (ps.length : Int)) := fun z => outs_bad (ps := ps) (ns := ns) (h := hsz) (by first | exact of_decide_eq_false hA | (rw [List.map_id']; exact of_decide_eq_false hA)) z.2
    exact hexc bad _ _ _ _ _ _ a1 a2 a3
  all_goals first | exact refs_room hsz | exact vals_room hfs
end
end Mine
end

end

section
open PySem PySem.W PyProof.Rows
namespace Mine
section
variable {w : World} {p : Program} {loose : List Str} {mean : ExcName → Option Value} {mg mb : Str → Option Value}
    {gd : Option (List Code)} {cn : Str} {cs : Scope} {a : Addr} {ccd : Value} {cl : List (Str × Addr)} {outer : List Env} {A₀ : Around} {base h₀ : Heap} {L : Addr} {m : Str → Option Value} {news : List (Addr × Obj)} {s : Shared} {Q E : Value → Shared → Prop}
    (B : Below A₀ base outer h₀) (F : Fr h₀ L s.heap m) (X : (Mine.hd.heap_1 w.params).In h₀) (N : News h₀ L s.heap news) (T : Top p loose mean mg mb h₀) (hk : cs.kind = .function)
include B F X N T hk
theorem zc_none_ok {pl el : Addr} {ps : List Addr} {ns : List Int} {vs : List Value} {n0 : Nat}
    (hpl : (pl, listOf (ps.map Value.ref).toArray n0) ∈ news) (hps : ∀ q ∈ ps, ∃ t k u, (q, pt 7 t k u) ∈ news) (hel : h₀.IsTuple el vs.toArray) (hi : IntsAre vs ns) 
    (hsz : ps.length ≤ 8) (hvs : vs.length ≤ 8)
    (hg : (∀ k ∈ ns, 0 ≤ k ∧ k < (ps.length : Int)))
    (hret : ∀ (x dx org cu to en oc : Addr) (g0 g1 g2 g3 g4 : Tok) (y0 y1 y2 : Nat) h' tk', Fr h₀ L h' m →
      News h₀ L h' ((x, instObj 387 dx) :: (dx, dictOf [ent w "original" g0 (.ref org), ent w "current" g1 (.ref cu), ent w "touched" g2 (.ref to), ent w "ends" g3 (.ref en), ent w "on_curve" g4 (.ref oc)] 5) ::
      (org, listOf (ps.map Value.ref).toArray y0) :: (cu, listOf (ps.map Value.ref).toArray y1) :: (en, listOf vs.toArray y2) :: news) → Q (.ref x) { s with heap := h', toks := tk' }) :
    wpAny (model PG w) (ktrTop 880 7800 gd cn cs L a ccd cl outer) (call (.ref 387) [.ref pl, .ref el, .none]) Q E s :=
  zc_none (tl := 0) (fs := []) (n1 := 0) B F X N T hk hpl hps hel hi hsz hvs (fun _ => hret) fun n => absurd hg n
theorem zc_none_bad {pl el : Addr} {ps : List Addr} {ns : List Int} {vs : List Value} {n0 : Nat}
    (hpl : (pl, listOf (ps.map Value.ref).toArray n0) ∈ news) (hps : ∀ q ∈ ps, ∃ t k u, (q, pt 7 t k u) ∈ news) (hel : h₀.IsTuple el vs.toArray) (hi : IntsAre vs ns) 
    (hsz : ps.length ≤ 8) (hvs : vs.length ≤ 8)
    (hb : ¬ (∀ k ∈ ns, 0 ≤ k ∧ k < (ps.length : Int)))
    (hexc : ∀ g e t vs' h' tk', Fr h₀ L g m → RaisedS base g (envX cn cs L a ccd cl :: outer) e (.ref 72) t vs' news h' → g.UpToSlots h' → E (.ref e) { s with heap := h', toks := tk' }) :
    wpAny (model PG w) (ktrTop 880 7800 gd cn cs L a ccd cl outer) (call (.ref 387) [.ref pl, .ref el, .none]) Q E s :=
  zc_none (tl := 0) (fs := []) (n1 := 0) B F X N T hk hpl hps hel hi hsz hvs (fun n => absurd n hb) fun _ => hexc
theorem zc_list_ok {pl el tl : Addr} {ps : List Addr} {ns : List Int} {vs fs : List Value} {n0 n1 : Nat}
    (hpl : (pl, listOf (ps.map Value.ref).toArray n0) ∈ news) (hps : ∀ q ∈ ps, ∃ t k u, (q, pt 7 t k u) ∈ news) (hel : h₀.IsTuple el vs.toArray) (hi : IntsAre vs ns) (htl : (tl, listOf fs.toArray n1) ∈ news) (hfs : fs.length ≤ 8)
    (hsz : ps.length ≤ 8) (hvs : vs.length ≤ 8)
    (hg : (fs.length = ps.length ∧ (∀ k ∈ ns, 0 ≤ k ∧ k < (ps.length : Int))))
    (hret : ∀ (x dx org cu to en oc : Addr) (g0 g1 g2 g3 g4 : Tok) (y0 y1 y2 : Nat) h' tk', Fr h₀ L h' m →
      News h₀ L h' ((x, instObj 387 dx) :: (dx, dictOf [ent w "original" g0 (.ref org), ent w "current" g1 (.ref cu), ent w "touched" g2 (.ref to), ent w "ends" g3 (.ref en), ent w "on_curve" g4 (.ref oc)] 5) ::
      (org, listOf (ps.map Value.ref).toArray y0) :: (cu, listOf (ps.map Value.ref).toArray y1) :: (en, listOf vs.toArray y2) :: news) → Q (.ref x) { s with heap := h', toks := tk' }) :
    wpAny (model PG w) (ktrTop 880 7800 gd cn cs L a ccd cl outer) (call (.ref 387) [.ref pl, .ref el, .ref tl]) Q E s :=
  zc_list B F X N T hk hpl hps hel hi htl hfs hsz hvs (fun _ => hret) fun n => absurd hg n
theorem zc_list_bad {pl el tl : Addr} {ps : List Addr} {ns : List Int} {vs fs : List Value} {n0 n1 : Nat}
    (hpl : (pl, listOf (ps.map Value.ref).toArray n0) ∈ news) (hps : ∀ q ∈ ps, ∃ t k u, (q, pt 7 t k u) ∈ news) (hel : h₀.IsTuple el vs.toArray) (hi : IntsAre vs ns) (htl : (tl, listOf fs.toArray n1) ∈ news) (hfs : fs.length ≤ 8)
    (hsz : ps.length ≤ 8) (hvs : vs.length ≤ 8)
    (hb : ¬ (fs.length = ps.length ∧ (∀ k ∈ ns, 0 ≤ k ∧ k < (ps.length : Int))))
    (hexc : ∀ g e t vs' h' tk', Fr h₀ L g m → RaisedS base g (envX cn cs L a ccd cl :: outer) e (.ref 72) t vs' news h' → g.UpToSlots h' → E (.ref e) { s with heap := h', toks := tk' }) :
    wpAny (model PG w) (ktrTop 880 7800 gd cn cs L a ccd cl outer) (call (.ref 387) [.ref pl, .ref el, .ref tl]) Q E s :=
  zc_list B F X N T hk hpl hps hel hi htl hfs hsz hvs (fun n => absurd n hb) fun _ => hexc
end
/-- the ints that the law would not let stand as ends -/
noncomputable def lets (many : Int) : Int → Bool := fun k => decide (k < 0 ∨ many ≤ k)
noncomputable def lets_of {many : Int} (_ : 0 ≤ many ∧ many ≤ 4) : Int → Bool := lets many
theorem lets_t {many : Int} {h : 0 ≤ many ∧ many ≤ 4} {k : Int} (e : k < 0 ∨ many ≤ k) : lets_of h k = true := decide_eq_true e
theorem lets_f {many : Int} {h : 0 ≤ many ∧ many ≤ 4} {k : Int} (e : ¬ (k < 0 ∨ many ≤ k)) : lets_of h k = false := decide_eq_false e
theorem lets_good {many : Int} {h : 0 ≤ many ∧ many ≤ 4} {ns : List Int} (g : ∀ k ∈ ns, 0 ≤ k ∧ k < many) : ns.filter (lets_of h) = [] :=
  List.filter_eq_nil_iff.mpr fun k hk => by
    rw [lets_f (by have := g k hk; omega)]
    exact Bool.false_ne_true
theorem lets_bad {many : Int} {h : 0 ≤ many ∧ many ≤ 4} {ns : List Int} (b : ¬ ∀ k ∈ ns, 0 ≤ k ∧ k < many) : ns.filter (lets_of h) ≠ [] := by
  intro e
  refine b fun k hk => ?_
  have := List.filter_eq_nil_iff.mp e k hk
  by_cases hp : k < 0 ∨ many ≤ k
  · exact absurd (lets_t hp) this
  · omega
section
variable {prog : Program} {w : World} {A : Around} {E : Value → Shared → Prop} {s : Shared} {h₀ : Heap} {L : Addr} {m : Str → Option Value} {news : List (Addr × Obj)} {Q : Value → Shared → Prop}
theorem eq_nil_t {a b : Addr} {vs : List Value} {ns : List Int} (hl : s.heap.IsList a vs.toArray) (hi : IntsAre vs ns) (hl' : s.heap.IsList b (#[] : Array Value)) (hu : A.units + 64 < cLine) (e : ns = []) (h : Q (.bool true) s) : wpAny (model prog w) A (compareOp .Eq (.ref a) (.ref b)) Q E s :=
  eq_intsK (us := []) hl hi hl' .nil hu (by rw [decide_eq_true e]; exact h)
theorem eq_nil_f {a b : Addr} {vs : List Value} {ns : List Int} (hl : s.heap.IsList a vs.toArray) (hi : IntsAre vs ns) (hl' : s.heap.IsList b (#[] : Array Value)) (hu : A.units + 64 < cLine) (e : ns ≠ []) (h : Q (.bool false) s) : wpAny (model prog w) A (compareOp .Eq (.ref a) (.ref b)) Q E s :=
  eq_intsK (us := []) hl hi hl' .nil hu (by rw [decide_eq_false e]; exact h)
theorem eq_same {a b : Addr} {vs : List Value} {ns : List Int} (hl : s.heap.IsList a vs.toArray) (hi : IntsAre vs ns) (hl' : s.heap.IsList b vs.toArray) (hu : A.units + 64 < cLine) (h : Q (.bool true) s) : wpAny (model prog w) A (compareOp .Eq (.ref a) (.ref b)) Q E s :=
  eq_intsK hl hi hl' hi hu (by rw [decide_eq_true rfl]; exact h)
theorem in_none {a : Addr} {many : Int} {t n : Nat} (N : News h₀ L s.heap news) (ma : (a, listOf #[.none, .int many t] n) ∈ news) (hu : A.units + 64 < cLine) (h : Q (.bool true) s) : wpAny (model prog w) A (compareOp .In .none (.ref a)) Q E s :=
  kqd_isIn (xs := [.none, .int many t]) (ds := [.none, .int many]) (n₁ := []) (n₂ := []) (d := .none) N ma rfl rfl (.cons .none (.cons (.int _ _) .nil)) (fun _ h => nomatch h) .none (fun _ h => nomatch h) (by simp [kqdOk]) (by simp [kqdOk]) hu (by simpa using h)
theorem in_int_t {a : Addr} {many k : Int} {t u n : Nat} (N : News h₀ L s.heap news) (ma : (a, listOf #[.none, .int many t] n) ∈ news) (hu : A.units + 64 < cLine) (e : k = many) (h : Q (.bool true) s) : wpAny (model prog w) A (compareOp .In (.int k u) (.ref a)) Q E s :=
  kqd_isIn (xs := [.none, .int many t]) (ds := [.none, .int many]) (n₁ := []) (n₂ := []) (d := .int k) N ma rfl rfl (.cons .none (.cons (.int _ _) .nil)) (fun _ h => nomatch h) (.int _ _) (fun _ h => nomatch h) (by simp [kqdOk]) (by simp [kqdOk]) hu (by simpa [e] using h)
theorem in_int_f {a : Addr} {many k : Int} {t u n : Nat} (N : News h₀ L s.heap news) (ma : (a, listOf #[.none, .int many t] n) ∈ news) (hu : A.units + 64 < cLine) (e : k ≠ many) (h : Q (.bool false) s) : wpAny (model prog w) A (compareOp .In (.int k u) (.ref a)) Q E s :=
  kqd_isIn (xs := [.none, .int many t]) (ds := [.none, .int many]) (n₁ := []) (n₂ := []) (d := .int k) N ma rfl rfl (.cons .none (.cons (.int _ _) .nil)) (fun _ h => nomatch h) (.int _ _) (fun _ h => nomatch h) (by simp [kqdOk]) (by simp [kqdOk]) hu (by simpa [e] using h)
/-- the points as data -/
noncomputable def ptsData (n : Nat) : List PyData := (List.range n).map fun j : Nat => .tuple [.int 7, .int (j : Int)]
theorem ptsData_ok {n : Nat} (h : n ≤ 8) : SeqAt.shaped (.list (ptsData n)) = true ∧ PyData.eqv (.list (ptsData n)) (.list (ptsData n)) = true := by
  have : n = 0 ∨ n = 1 ∨ n = 2 ∨ n = 3 ∨ n = 4 ∨ n = 5 ∨ n = 6 ∨ n = 7 ∨ n = 8 := by omega
  rcases this with rfl | rfl | rfl | rfl | rfl | rfl | rfl | rfl | rfl <;> exact ⟨by decide, by simp [ptsData, List.range, List.range.loop, PyData.eqv, PyData.eqvAll]⟩
theorem reads_pts {h : Heap} {ps : List Addr} (hp : ∀ (j : Nat) p, ps[j]? = some p → ∃ t u : Nat, h.get? p = some (pt 7 t (j : Int) u)) : ∃ as, ReadsAll h (ps.map Value.ref) (ptsData ps.length) as := by
  have key : ∀ (qs : List Addr) (i : Nat), (∀ (j : Nat) p, qs[j]? = some p → ∃ t u : Nat, h.get? p = some (pt 7 t ((i + j : Nat) : Int) u)) → ∃ as, ReadsAll h (qs.map Value.ref) ((List.range' i qs.length).map fun j : Nat => PyData.tuple [.int 7, .int (j : Int)]) as := by
    intro qs
    induction qs with
    | nil => exact fun _ _ => ⟨_, .nil⟩
    | cons q r ih =>
      intro i hq
      obtain ⟨t, u, e⟩ := hq 0 q rfl
      obtain ⟨as, ha⟩ := ih (i + 1) fun j p hj => by
        obtain ⟨t, u, e⟩ := hq (j + 1) p hj
        refine ⟨t, u, ?_⟩
        rw [show i + 1 + j = i + (j + 1) by omega]
        exact e
      exact ⟨_, .cons (reads_pt e) ha⟩
  have := key ps 0 (by simpa using hp)
  rw [show ptsData ps.length = (List.range' 0 ps.length).map fun j : Nat => PyData.tuple [.int 7, .int (j : Int)] by rw [ptsData, List.range_eq_range']]
  exact this
theorem pts_mem {ps : List Addr} {T : List (Addr × Obj)} (hT : Pts ps T) (sub : ∀ p ∈ T, p ∈ news) : ∀ q ∈ ps, ∃ t k u, (q, pt 7 t k u) ∈ news := by
  intro q hq
  obtain ⟨j, hj⟩ := List.mem_iff_getElem?.mp hq
  obtain ⟨t, u, hm⟩ := hT j q hj
  exact ⟨t, _, u, sub _ hm⟩
theorem eq_ptsN {l1 l2 : Addr} {ps qs : List Addr} {T1 T2 : List (Addr × Obj)} {n1 n2 : Nat} (N : News h₀ L s.heap news) (m1 : (l1, listOf (ps.map Value.ref).toArray n1) ∈ news) (m2 : (l2, listOf (qs.map Value.ref).toArray n2) ∈ news) (h1 : Pts ps T1) (h2 : Pts qs T2) (s1 : ∀ p ∈ T1, p ∈ news) (s2 : ∀ p ∈ T2, p ∈ news)
    (hl : ps.length = qs.length) (hz : ps.length ≤ 8) (hu : A.units + 64 < cLine) (h : Q (.bool true) s) : wpAny (model prog w) A (compareOp .Eq (.ref l1) (.ref l2)) Q E s := by
  have rd : ∀ {ps : List Addr} {T : List (Addr × Obj)}, Pts ps T → (∀ p ∈ T, p ∈ news) → ∃ as, ReadsAll s.heap (ps.map Value.ref) (ptsData ps.length) as := fun {ps} {T} hT hs => reads_pts fun j p hj => by
    obtain ⟨t, u, hm⟩ := hT j p hj
    exact ⟨t, u, (N _ (hs _ hm)).1⟩
  obtain ⟨as, ra⟩ := rd h1 s1
  obtain ⟨bs, rb⟩ := rd h2 s2
  rw [← hl] at rb
  obtain ⟨o1, o2⟩ := ptsData_ok hz
  refine eq_dataH (reads_list_at (N _ m1).1 rfl rfl (by simpa using ra)) (reads_list_at (N _ m2).1 rfl rfl (by simpa using rb)) o1 o1 hu ?_
  rw [o2]
  exact h
theorem range_fit {many : Int} (h : 0 ≤ many ∧ many ≤ 4) : Builtin.Range.small 0 many 1 = true := small_one (by decide) (by decide) (by omega) (by omega)
theorem range_room {many : Int} (h : 0 ≤ many ∧ many ≤ 4) : (many - 0).toNat ≤ sizeLine := Nat.le_trans (show (many - 0).toNat ≤ 8 by omega) (Nat.le_of_ble_eq_true rfl)
theorem tup_up2 {g1 g2 g3 : Heap} {L1 L2 a : Addr} {m1 m2 : Str → Option Value} {its : Array Value} (F1 : Fr g1 L1 g2 m1) (F2 : Fr g2 L2 g3 m2) (x : IsTup g1 a its) : IsTup g3 a its := Fr.tup F2 (Fr.tup F1 x)
end
end Mine
end

section
open PySem PySem.W PyProof.Rows
namespace Mine
noncomputable abbrev LQz : Str := Str.ofString "_law_zone_right" ++ ".<locals>." ++ "<lambda>"
noncomputable abbrev LPz : Pos := ⟨267, 23, 267, 78⟩
theorem rep_len (n : Nat) (v : Value) : ((List.replicate n [v]).flatten).length = n := by simp
section
variable {prog : Program} {w : World} {A : Around} {s : Shared} {h₀ : Heap} {L I C D p : Addr} {m : Str → Option Value} {oI oC oD : Obj} {h' : Heap} {tk : Nat} {news : List (Addr × Obj)} {k : Int} {t u : Nat}
theorem pts_end (F : Fr h₀ L h' m) (N : News h₀ L h' ((p, pt 7 t k u) :: (I, oI) :: (C, oC) :: (D, oD) :: news)) (a : HN p I) (b : HN p C) (c : HN p D) :
    ∃ h'' tk' p' t' u', ({ s with heap := h', toks := tk } : Shared) = { s with heap := h'', toks := tk' } ∧ Fr h₀ L h'' m ∧ News h₀ L h'' ((p', pt 7 t' k u') :: (I, oI) :: (C, oC) :: (D, oD) :: news) ∧ HN p' I ∧ HN p' C ∧ HN p' D ∧ Value.ref p = .ref p' :=
  ⟨_, _, _, _, _, rfl, F, N, a, b, c, rfl⟩
theorem TupSrc.mk {env : Env} {ct elt : Expr} {x : Str} {scope : Scope} {cl : List (Str × Addr)} {Fin : Shared → List Value → List (Addr × Obj) → Prop} {ax : Addr} {vs : List Value} {s₁ : Shared} (hh : A.handled = none) (F : Fr h₀ L s₁.heap m) (N : News h₀ L s₁.heap news) (ht : IsTup h₀ ax vs.toArray) (hz : vs.toArray.size ≤ sizeLine)
    (h : ∀ g, LCt.CompRestT prog w A h₀ L m env ct elt x scope cl { s₁ with heap := g } (fun _ => True) (fun i v => vs.toArray[i]? = some v) (Fin { s₁ with heap := g }) vs.toArray.size 0 [] news) :
    TupSrc prog w A h₀ L m env ct elt x scope cl Fin (.ref ax) s₁ := ⟨ax, _, news, rfl, hh, F, N, ht, hz, fun _ ⟨g, e⟩ => e ▸ h g⟩
end
end Mine
namespace Mine
open PySem
theorem good_up {ns : List Int} {many : Int} {n : Nat} (g : ∀ k ∈ ns, 0 ≤ k ∧ k < many) (e : (n : Int) = many) : ∀ k ∈ ns, 0 ≤ k ∧ k < (n : Int) := e ▸ g
theorem bad_up {ns : List Int} {many : Int} {n : Nat} (b : ¬ ∀ k ∈ ns, 0 ≤ k ∧ k < many) (e : (n : Int) = many) : ¬ ∀ k ∈ ns, 0 ≤ k ∧ k < (n : Int) := e ▸ b
end Mine
namespace Mine
open PySem PyProof.Rows
theorem tup_is {h : Heap} {a : Addr} {its : Array Value} (x : IsTup h a its) : h.IsTuple a its := x
theorem tup_is2 {g1 g2 g3 : Heap} {L1 L2 a : Addr} {m1 m2 : Str → Option Value} {its : Array Value} (F1 : Fr g1 L1 g2 m1) (F2 : Fr g2 L2 g3 m2) (x : IsTup g1 a its) : g3.IsTuple a its := tup_up2 F1 F2 x
end Mine
namespace Mine
open PySem PySem.W PyProof.Rows
theorem cnt_end {h₀ h h' h'' g g2 : Heap} {L L' c' z P : Addr} {oP oz oc o' : Obj} {fs : List Addr} {news all all2 l : List (Addr × Obj)} {gg : Obj → List (Addr × Obj)} (N : News h₀ L h news) (U : UpdF P oP news gg) (K : KeptL L [(P, oP), (z, oz)] h h') (hz : (z, oz) ∈ news)
    (N1 : News h₀ L h' all) (N2 : News g2 L' h'' all2) (hGK : ∀ b o, h.get? b = some o → b ∉ [(P, oP), (z, oz)].map (·.1) → g.get? b = some o) (T : KtsTurn fs g g2) (lz : ∀ q ∈ l, q.1 ≠ z → q.1 ≠ c')
    (hcz : (oP = tabObj #[] → ∀ q ∈ l, q.1 ≠ c') ∧ (oP ≠ tabObj #[] → c' = z ∧ oc = oz)) (h5 : HN P z) (mP : (P, oP) ∈ l) (mz : (z, oz) ∈ l) (m1 : (P, o') ∈ all) (m2 : (c', oc) ∈ all) (m3 : (z, oz) ∈ all) (m4 : (c', oc) ∈ all2) :
    News h₀ L h' ((c', oc) :: gg o') ∧ ((oP = tabObj #[] → ∀ q ∈ news, q.1 ≠ c') ∧ (oP ≠ tabObj #[] → c' = z ∧ oc = oz)) ∧ HN P c' := by
  have hP : HN P c' := lz _ mP h5
  refine ⟨cnt_back N U K hz (cb_drop N1 ?_), ⟨fun e => cnt_fresh N hGK T (N2 _ m4).2.2 ?_, hcz.2⟩, hP⟩
  · exact List.forall_mem_cons.mpr ⟨m1, List.forall_mem_cons.mpr ⟨m2, List.forall_mem_cons.mpr ⟨m3, List.forall_mem_nil _⟩⟩⟩
  · exact List.forall_mem_cons.mpr ⟨hP, List.forall_mem_cons.mpr ⟨hcz.1 e _ mz, List.forall_mem_nil _⟩⟩
end Mine
end

theorem Mine.reg_x16 : True := by
  (k_with "x16 leaving ref" => (k_here; first | (refine' Mine.leave_firstX ?hfY95 ?hkeY95 ?KY95 ?hxY95 ?FY95 ?NY95 ?_; (case hxY95 => with_reducible assumption); (case hfY95 => rfl); (case hkeY95 => rfl); (case FY95 => with_reducible assumption); (case KY95 => with_reducible assumption); (case NY95 => k_asm); k_whole; intro h'Z S'Z U'Z; (try dsimp only at S'Z U'Z ⊢)) | (refine' Mine.leave_onX ?hfY95 ?KY95 ?FY95 ?RY95 ?UY95 ?_; (case RY95 => with_reducible assumption); (case UY95 => with_reducible assumption); (case hfY95 => rfl); (case FY95 => with_reducible assumption); (case KY95 => with_reducible assumption); k_whole; intro h'Z S'Z U'Z; (try dsimp only at S'Z U'Z ⊢))))
  (k_with "x16 call ref cons nil" => (k_here; (with_reducible show wpAny _ _ (call (Value.ref 419) _ _) _ _ _); refine wpAny_call ?_; k_dflt (refine' Mine.enterSX ?k1Y102 ?k2Y102 ?k3Y102 ?k4Y102 ?k5Y102 ?XBY102 ?TBY102 ?DY102 ?T0Y102 ?kAY102 ?kfY102 ?kkY102 ?k6Y102 ?k7Y102 ?k8Y102 ?k9Y102 ?kBY102 ?_ ?c2Y102 ?c3Y102 ?c4Y102 ?c5Y102; (case kAY102 => exact rfl); (case kfY102 => exact rfl); (case kkY102 => exact rfl); (case k2Y102 => k_asm); (case k1Y102 => k_asm); (case XBY102 => assumption); (case TBY102 => assumption); (case DY102 => assumption); (case T0Y102 => first | assumption | exact KtsTurn.refl); (case k3Y102 => k_asm); (case k4Y102 => k_asm); (case k5Y102 => k_asm); (case k6Y102 => k_is); (case k7Y102 => k_is); (case k8Y102 => k_room); (case k9Y102 => exact BindsTo.of_eq rfl); (case kBY102 => exact locs rfl); (case c2Y102 => exact rfl); (case c3Y102 => exact rfl); (case c4Y102 => exact rfl); (case c5Y102 => decide); k_whole; intro g'Z L'Z h'Z FG'Z F'Z N'Z B'Z X'Z T'Z D'Z l1'Z; (try k_lt l1'Z); (try dsimp only); (try k_lift B'Z); first | (refine Mine.wp_enter ?_; intro evZ AwZ qkZ ekZ) | k_fold | skip)))
  (k_with "x16 eval ListComp" => (k_here; (with_reducible show wpAny _ _ (eval (Expr.ListComp _ [⟨_, _, [], _⟩] _ _) _) _ _ _); k_dflt (refine LCg.ListComp_U (F₀ := by k_asm) (by with_unfolding_all rfl) (by decide) (by rfl) (by decide) (by rfl) ?_)))
  (k_with "x16 eval ListComp Call cons" => (k_here; (with_reducible show wpAny _ _ (eval (Expr.ListComp _ [⟨_, _, [], _⟩] _ _) _) _ _ _); k_dflt (refine LCg.ListComp_U (F₀ := by k_asm) (by with_unfolding_all rfl) (by decide) (by rfl) (by decide) (by rfl) ?_)))
  (k_with "x16 eval ListComp List cons" => (k_here; (with_reducible show wpAny _ _ (eval (Expr.ListComp _ [⟨_, _, [], _⟩] _ _) _) _ _ _); k_dflt (refine LCg.ListComp_U (F₀ := by k_asm) (by with_unfolding_all rfl) (by decide) (by rfl) (by decide) (by rfl) ?_)))
  (k_with "x16 eval ListComp Name cons" => (k_here; (with_reducible show wpAny _ _ (eval (Expr.ListComp _ [⟨_, _, [], _⟩] _ _) _) _ _ _); k_dflt (refine LCg.ListComp_U (F₀ := by k_asm) (by with_unfolding_all rfl) (by decide) (by rfl) (by decide) (by rfl) ?_)))
  (k_with "x16 eval ListComp Tuple cons" => (k_here; (with_reducible show wpAny _ _ (eval (Expr.ListComp _ [⟨_, _, [], _⟩] _ _) _) _ _ _); k_dflt (refine LCg.ListComp_U (F₀ := by k_asm) (by with_unfolding_all rfl) (by decide) (by rfl) (by decide) (by rfl) ?_)))
  (k_with "x16 eval ListComp" => (k_here; (with_reducible show wpAny _ _ (eval (Expr.ListComp _ [⟨_, _, [_], _⟩] _ _) _) _ _ _); k_dflt (refine Mine.ListComp_Tup (by k_asm) (by with_unfolding_all rfl) (by decide) (by rfl) (by decide) (by rfl) ?_)))
  (k_with "x16 eval ListComp Name cons" => (k_here; (with_reducible show wpAny _ _ (eval (Expr.ListComp _ [⟨_, _, [_], _⟩] _ _) _) _ _ _); k_dflt (refine Mine.ListComp_Tup (by k_asm) (by with_unfolding_all rfl) (by decide) (by rfl) (by decide) (by rfl) ?_)))
  (k_with "x16 TupSrc" => (k_dflt (refine' Mine.TupSrc.mk ?hhY141 ?FY141 ?NY141 ?htY141 ?hzY141 ?_; (case htY141 => with_reducible assumption); (case hhY141 => rfl); (case FY141 => k_asm); (case NY141 => k_asm); (case hzY141 => exact Mine.vals_room (by with_reducible assumption)); intro g9Z; refine' Mine.flt_rest (Mine.lets_of (by with_reducible assumption)) ?hnY141 ?hPY141 (fun k'Z t'Z I'Z oI'Z C'Z oC'Z D'Z m'Z ys'Z h'Z tk'Z E'Z hC'Z hx'Z F'Z N'Z off'Z ne'Z => ?_) (fun ys'Z hys'Z => ?_); (case hPY141 => exact Mine.ints_at (by with_reducible assumption)); (case hnY141 => exact Mine.ints_size (by with_reducible assumption)))))
  (k_with "x16 CompSrc" => (k_here; k_dflt (refine' LCg.CompSrc.range ?hhY142 ?FY142 ?NY142 ?hrY142 ?hsmY142 ?hnY142 ?hszY142 ?_; (case hrY142 => with_reducible assumption); (case hhY142 => rfl); (case FY142 => k_asm); (case NY142 => k_asm); (case hsmY142 => exact Mine.range_fit (by with_reducible assumption)); (case hnY142 => exact rangeSize_nat _ _); (case hszY142 => exact Mine.range_room (by with_reducible assumption)); intro g9Z; refine' Mine.pts_rest ?hPY142 (fun k'Z t'Z I'Z oI'Z C'Z oC'Z D'Z m'Z ys'Z news1'Z h'Z tk'Z E'Z hC'Z hx'Z F'Z N'Z off'Z ne'Z => ?_) ?hSY142 (fun ps'Z T'Z hl'Z hT'Z => ?_); (case hPY142 => exact fun _ _ _ hZ => hZ); (case hSY142 => exact fun _ => trivial))))
  (k_with "x16 Exists" => (k_dflt (refine' Mine.pts_end ?FY143 ?NY143 ?aY143 ?bY143 ?cY143; (case FY143 => k_asm); (case NY143 => k_asm); (case aY143 => (refine Mine.hn_mk ?_; k_ne)); (case bY143 => (refine Mine.hn_mk ?_; k_ne)); (case cY143 => (refine Mine.hn_mk ?_; k_ne)))))
  (k_with "x16 FinE" => ((with_reducible show LCg.FinE _ _ _ _ _ _ (_ ++ _)); (unfold LCg.FinE); intro D'Z h'Z tk'Z F'Z N'Z o1'Z; (replace N'Z := Mine.news_swap N'Z); (replace o1'Z := Mine.off1_swap o1'Z); (try simp only [List.nil_append, List.cons_append] at N'Z o1'Z); (k_lt o1'Z); (try dsimp only)))
  (k_with "x16 CompEnd" => (k_dflt (first | (refine' Mine.cend_same ?FY145 ?NY145 ?subY145 ?offY145 ?srcY145; (case FY145 => k_asm); (case NY145 => k_asm); (case subY145 => lcg_sub); (case offY145 => with_reducible assumption); (case srcY145 => first | exact True.intro | exact Or.inl (by with_reducible assumption) | exact Or.inr ⟨_, by k_mem, rfl, _, rfl⟩)) | (refine' Mine.cend_any ?FY145 ?NY145 ?subY145 ?offY145 ?srcY145; (case FY145 => k_asm); (case NY145 => k_asm); (case subY145 => lcg_sub); (case offY145 => with_reducible assumption); (case srcY145 => first | exact True.intro | exact Or.inl (by with_reducible assumption) | exact Or.inr ⟨_, by k_mem, rfl, _, rfl⟩)) | (refine' Mine.cend_keep ?FY145 ?NY145 ?subY145 ?offY145 ?srcY145 ?eY145; (case FY145 => k_asm); (case NY145 => k_asm); (case subY145 => lcg_sub); (case offY145 => with_reducible assumption); (case srcY145 => first | exact True.intro | exact Or.inl (by with_reducible assumption) | exact Or.inr ⟨_, by k_mem, rfl, _, rfl⟩); (case eY145 => exact Mine.lets_t (by omega))) | (refine' Mine.cend_drop ?FY145 ?NY145 ?subY145 ?offY145 ?srcY145 ?eY145; (case FY145 => k_asm); (case NY145 => k_asm); (case subY145 => lcg_sub); (case offY145 => with_reducible assumption); (case srcY145 => first | exact True.intro | exact Or.inl (by with_reducible assumption) | exact Or.inr ⟨_, by k_mem, rfl, _, rfl⟩); (case eY145 => exact Mine.lets_f (by omega))))))
  (k_with "x16 call type:list" => (k_here; (with_reducible show wpAny _ _ (call (Value.type _) [Value.ref _]) _ _ _); k_dflt (first | (refine' list_copyK ?FY123 ?NY123 ?lY123 ?_ ?zY123; (case FY123 => k_asm); (case NY123 => k_asm); (case lY123 => first | (refine' News.isList ?N2Y123 ?mmY123; (case N2Y123 => k_asm); (case mmY123 => k_mem)) | (refine' Fr.lst ?F2Y123 ?x2Y123; (case x2Y123 => with_reducible assumption); (case F2Y123 => with_reducible assumption)))) | (refine' list_copyKT ?FY123 ?NY123 ?lY123 ?_ ?zY123; (case FY123 => k_asm); (case NY123 => k_asm); (case lY123 => (refine' Fr.tup ?F2Y123 ?x2Y123; (case x2Y123 => with_reducible assumption); (case F2Y123 => with_reducible assumption)))); (case zY123 => first | exact Mine.refs_room (by with_reducible assumption) | exact Mine.vals_room (by with_reducible assumption))); intro D'Z c'Z h'Z F'Z N'Z l1Z; (try k_lt l1Z); (try k_sweep)))
  (k_with "x16 binaryOp Mult ref int" => (k_here; (with_reducible show wpAny _ _ (binaryOp Operator.Mult (Value.ref _) (Value.int _ _)) _ _ _); k_dflt (refine' KMa.mul ?FY124 ?NY124 ?lY124 ?loY124 ?hiY124 ?zY124 ?eY124 ?_; (case FY124 => k_asm); (case NY124 => k_asm); (case lY124 => (refine' News.isList ?N2Y124 ?mmY124; (case N2Y124 => k_asm); (case mmY124 => k_mem))); (case eY124 => rfl); (case loY124 => omega); (case hiY124 => omega); (case zY124 => (simp only [List.length_cons, List.length_nil]; omega))); intro D'Z h'Z F'Z N'Z l1Z; (try k_lt l1Z); (try k_sweep)))
  (k_with "x16 call builtin:len" => (k_here; (with_reducible show wpAny _ _ (call (Value.builtin "len") [Value.ref _]) _ _ _); k_dflt (refine' kun_lenL ?k1Y125 ?k2Y125 ?k3Y125 ?_; (case k1Y125 => (refine' News.isList ?NY125 ?mY125; (case NY125 => k_asm); (case mY125 => k_mem))); (case k2Y125 => first | exact Mine.refs_szI _ | exact Mine.rep_szI _ _ | exact Mine.vals_szI _); (case k3Y125 => omega); k_whole)))
  (k_with "x16 eval Lambda" => (k_here; k_dflt (refine' kla_eval ?d0Y146 ?_; (case d0Y146 => exact rfl)); k_dflt (refine' Mine.lam_any ?FY146 ?NY146 ?TY146 ?CY146 ?cdY146 ?UY146 ?hzY146 ?stY146 ?clY146 ?_; (case FY146 => k_asm); (case NY146 => k_asm); (case TY146 => k_asm); (case cdY146 => exact rfl); (case CY146 => first | with_reducible assumption | exact CodeHd.keeps (by with_reducible assumption) (Below.stays (by with_reducible assumption))); (case UY146 => k_updF); (case stY146 => first | with_reducible assumption | assumption); (case hzY146 => k_mem); (case clY146 => exact rfl)); intro f'Z c'Z oc'Z ct'Z h'Z tk'Z vs'Z t'Z F'Z N'Z d1'Z d2'Z l1Z lz'Z hcz'Z; (try dsimp only at N'Z); (try k_lt l1Z)))
  (k_with "x16 compareOp Eq ref ref" => (k_here; k_dflt ((refine' Mine.eq_same ?k1Y147 ?k2Y147 ?k3Y147 ?k5Y147 ?_; (case k1Y147 => (refine' News.isList ?N2Y147 ?mmY147; (case N2Y147 => k_asm); (case mmY147 => k_mem))); (case k3Y147 => (refine' News.isList ?N3Y147 ?mm3Y147; (case N3Y147 => k_asm); (case mm3Y147 => k_mem))); (case k2Y147 => with_reducible assumption); (case k5Y147 => exact Nat.le_of_ble_eq_true rfl)))))
  (k_with "x16 compareOp Eq ref ref" => (k_here; k_dflt ((refine' Mine.eq_ptsN ?NY148 ?m1Y148 ?m2Y148 ?h1Y148 ?h2Y148 ?s1Y148 ?s2Y148 ?hlY148 ?hzY148 ?huY148 ?_; (case NY148 => k_asm); (case m1Y148 => k_mem); (case m2Y148 => k_mem); (case h1Y148 => with_reducible assumption); (case h2Y148 => with_reducible assumption); (case s1Y148 => exact (fun pZ hpZ => by ((repeat (refine List.mem_cons_of_mem _ ?_)); first | exact hpZ | exact List.mem_append_left _ hpZ | exact List.mem_append_right _ hpZ | exact List.mem_append_left _ (List.mem_append_left _ hpZ) | exact List.mem_append_left _ (List.mem_append_right _ hpZ) | exact List.mem_append_right _ (List.mem_append_left _ hpZ) | exact List.mem_append_right _ (List.mem_append_right _ hpZ)))); (case s2Y148 => exact (fun pZ hpZ => by ((repeat (refine List.mem_cons_of_mem _ ?_)); first | exact hpZ | exact List.mem_append_left _ hpZ | exact List.mem_append_right _ hpZ | exact List.mem_append_left _ (List.mem_append_left _ hpZ) | exact List.mem_append_left _ (List.mem_append_right _ hpZ) | exact List.mem_append_right _ (List.mem_append_left _ hpZ) | exact List.mem_append_right _ (List.mem_append_right _ hpZ)))); (case hlY148 => omega); (case hzY148 => omega); (case huY148 => exact Nat.le_of_ble_eq_true rfl)))))
  (k_with "x16 compareOp Eq ref ref" => (k_here; k_dflt ((refine' Mine.eq_nil_t ?k1Y149 ?k2Y149 ?k3Y149 ?k5Y149 ?eY149 ?_; (case k3Y149 => (refine' News.isList ?N3Y149 ?mm3Y149; (case N3Y149 => k_asm); (case mm3Y149 => k_mem))); (case k1Y149 => (refine' News.isList ?N2Y149 ?mmY149; (case N2Y149 => k_asm); (case mmY149 => k_mem))); (case k2Y149 => with_reducible assumption); (case k5Y149 => exact Nat.le_of_ble_eq_true rfl); (case eY149 => exact Mine.lets_good (by with_reducible assumption))))))
  (k_with "x16 compareOp Eq ref ref" => (k_here; k_dflt ((refine' Mine.eq_nil_f ?k1Y150 ?k2Y150 ?k3Y150 ?k5Y150 ?eY150 ?_; (case k3Y150 => (refine' News.isList ?N3Y150 ?mm3Y150; (case N3Y150 => k_asm); (case mm3Y150 => k_mem))); (case k1Y150 => (refine' News.isList ?N2Y150 ?mmY150; (case N2Y150 => k_asm); (case mmY150 => k_mem))); (case k2Y150 => with_reducible assumption); (case k5Y150 => exact Nat.le_of_ble_eq_true rfl); (case eY150 => exact Mine.lets_bad (by with_reducible assumption))))))
  (k_with "x16 compareOp In" => (k_here; k_dflt (first | (refine' Mine.in_none ?NY151 ?mY151 ?huY151 ?_; (case NY151 => k_asm); (case mY151 => k_mem); (case huY151 => exact Nat.le_of_ble_eq_true rfl)) | (refine' Mine.in_int_t ?NY151 ?mY151 ?huY151 ?eY151 ?_; (case NY151 => k_asm); (case mY151 => k_mem); (case huY151 => exact Nat.le_of_ble_eq_true rfl); (case eY151 => with_reducible assumption)) | (refine' Mine.in_int_f ?NY151 ?mY151 ?huY151 ?eY151 ?_; (case NY151 => k_asm); (case mY151 => k_mem); (case huY151 => exact Nat.le_of_ble_eq_true rfl); (case eY151 => with_reducible assumption)))))
  (k_with "x16 call ref" => (k_here; (with_reducible show wpAny _ _ (call (Value.ref 387) [Value.ref _, Value.ref _, Value.none]) _ _ _); k_dflt (refine' Mine.at_room ?h1Y152 ?h2Y152 ?h3Y152 ?h5Y152 (Mine.zc_none_ok ?BY152 ?FY152 ?XY152 ?NY152 ?TY152 ?hkY152 ?hplY152 ?hpsY152 ?helY152 ?hiY152 ?hszY152 ?hvsY152 ?hgY152 ?_); (case h1Y152 => exact rfl); (case h3Y152 => exact rfl); (case h2Y152 => exact Nat.le_of_ble_eq_true rfl); (case h5Y152 => exact Nat.le_of_ble_eq_true rfl); (case BY152 => k_asm); (case FY152 => k_asm); (case XY152 => k_asm); (case NY152 => k_asm); (case TY152 => k_asm); (case hkY152 => first | exact rfl | assumption); (case hplY152 => k_mem); (case hpsY152 => exact Mine.pts_mem (by with_reducible assumption) (fun pZ hpZ => by ((repeat (refine List.mem_cons_of_mem _ ?_)); first | exact hpZ | exact List.mem_append_left _ hpZ | exact List.mem_append_right _ hpZ | exact List.mem_append_left _ (List.mem_append_left _ hpZ) | exact List.mem_append_left _ (List.mem_append_right _ hpZ) | exact List.mem_append_right _ (List.mem_append_left _ hpZ) | exact List.mem_append_right _ (List.mem_append_right _ hpZ)))); (case helY152 => first | exact Mine.tup_is (by with_reducible assumption) | (refine' Mine.tup_is2 ?F1Y152 ?F2Y152 ?xY152; (case xY152 => with_reducible assumption); (case F2Y152 => with_reducible assumption); (case F1Y152 => with_reducible assumption))); (case hiY152 => with_reducible assumption); (case hszY152 => omega); (case hvsY152 => with_reducible assumption); (case hgY152 => exact Mine.good_up (by with_reducible assumption) (by omega))); intro x'Z dx'Z org'Z cu'Z to'Z en'Z oc'Z g0'Z g1'Z g2'Z g3'Z g4'Z y0'Z y1'Z y2'Z h'Z tk'Z F'Z N'Z; (try dsimp only); (try k_fold)))
  (k_with "x16 call ref" => (k_here; (with_reducible show wpAny _ _ (call (Value.ref 387) [Value.ref _, Value.ref _, Value.none]) _ _ _); k_dflt (refine' Mine.at_room ?h1Y153 ?h2Y153 ?h3Y153 ?h5Y153 (Mine.zc_none_bad ?BY153 ?FY153 ?XY153 ?NY153 ?TY153 ?hkY153 ?hplY153 ?hpsY153 ?helY153 ?hiY153 ?hszY153 ?hvsY153 ?hgY153 ?_); (case h1Y153 => exact rfl); (case h3Y153 => exact rfl); (case h2Y153 => exact Nat.le_of_ble_eq_true rfl); (case h5Y153 => exact Nat.le_of_ble_eq_true rfl); (case BY153 => k_asm); (case FY153 => k_asm); (case XY153 => k_asm); (case NY153 => k_asm); (case TY153 => k_asm); (case hkY153 => first | exact rfl | assumption); (case hplY153 => k_mem); (case hpsY153 => exact Mine.pts_mem (by with_reducible assumption) (fun pZ hpZ => by ((repeat (refine List.mem_cons_of_mem _ ?_)); first | exact hpZ | exact List.mem_append_left _ hpZ | exact List.mem_append_right _ hpZ | exact List.mem_append_left _ (List.mem_append_left _ hpZ) | exact List.mem_append_left _ (List.mem_append_right _ hpZ) | exact List.mem_append_right _ (List.mem_append_left _ hpZ) | exact List.mem_append_right _ (List.mem_append_right _ hpZ)))); (case helY153 => first | exact Mine.tup_is (by with_reducible assumption) | (refine' Mine.tup_is2 ?F1Y153 ?F2Y153 ?xY153; (case xY153 => with_reducible assumption); (case F2Y153 => with_reducible assumption); (case F1Y153 => with_reducible assumption))); (case hiY153 => with_reducible assumption); (case hszY153 => omega); (case hvsY153 => with_reducible assumption); (case hgY153 => exact Mine.bad_up (by with_reducible assumption) (by omega))); intro g'Z e'Z t'Z vs'Z h'Z tk'Z F'Z S'Z U'Z; (try dsimp only at S'Z); (try dsimp only); (try k_fold)))
  (k_with "x16 call ref" => (k_here; (with_reducible show wpAny _ _ (call (Value.ref 387) [Value.ref _, Value.ref _, Value.ref _]) _ _ _); k_dflt (refine' Mine.at_room ?h1Y154 ?h2Y154 ?h3Y154 ?h5Y154 (Mine.zc_list_ok ?BY154 ?FY154 ?XY154 ?NY154 ?TY154 ?hkY154 ?hplY154 ?hpsY154 ?helY154 ?hiY154 ?htlY154 ?hfsY154 ?hszY154 ?hvsY154 ?hgY154 ?_); (case h1Y154 => exact rfl); (case h3Y154 => exact rfl); (case h2Y154 => exact Nat.le_of_ble_eq_true rfl); (case h5Y154 => exact Nat.le_of_ble_eq_true rfl); (case BY154 => k_asm); (case FY154 => k_asm); (case XY154 => k_asm); (case NY154 => k_asm); (case TY154 => k_asm); (case hkY154 => first | exact rfl | assumption); (case hplY154 => k_mem); (case hpsY154 => exact Mine.pts_mem (by with_reducible assumption) (fun pZ hpZ => by ((repeat (refine List.mem_cons_of_mem _ ?_)); first | exact hpZ | exact List.mem_append_left _ hpZ | exact List.mem_append_right _ hpZ | exact List.mem_append_left _ (List.mem_append_left _ hpZ) | exact List.mem_append_left _ (List.mem_append_right _ hpZ) | exact List.mem_append_right _ (List.mem_append_left _ hpZ) | exact List.mem_append_right _ (List.mem_append_right _ hpZ)))); (case helY154 => first | exact Mine.tup_is (by with_reducible assumption) | (refine' Mine.tup_is2 ?F1Y154 ?F2Y154 ?xY154; (case xY154 => with_reducible assumption); (case F2Y154 => with_reducible assumption); (case F1Y154 => with_reducible assumption))); (case hiY154 => with_reducible assumption); (case htlY154 => k_mem); (case hfsY154 => (rw [Mine.rep_len]; omega)); (case hszY154 => omega); (case hvsY154 => with_reducible assumption); (case hgY154 => exact ⟨by (rw [Mine.rep_len]; omega), Mine.good_up (by with_reducible assumption) (by omega)⟩)); intro x'Z dx'Z org'Z cu'Z to'Z en'Z oc'Z g0'Z g1'Z g2'Z g3'Z g4'Z y0'Z y1'Z y2'Z h'Z tk'Z F'Z N'Z; (try dsimp only); (try k_fold)))
  (k_with "x16 call ref" => (k_here; (with_reducible show wpAny _ _ (call (Value.ref 387) [Value.ref _, Value.ref _, Value.ref _]) _ _ _); k_dflt (refine' Mine.at_room ?h1Y155 ?h2Y155 ?h3Y155 ?h5Y155 (Mine.zc_list_bad ?BY155 ?FY155 ?XY155 ?NY155 ?TY155 ?hkY155 ?hplY155 ?hpsY155 ?helY155 ?hiY155 ?htlY155 ?hfsY155 ?hszY155 ?hvsY155 ?hgY155 ?_); (case h1Y155 => exact rfl); (case h3Y155 => exact rfl); (case h2Y155 => exact Nat.le_of_ble_eq_true rfl); (case h5Y155 => exact Nat.le_of_ble_eq_true rfl); (case BY155 => k_asm); (case FY155 => k_asm); (case XY155 => k_asm); (case NY155 => k_asm); (case TY155 => k_asm); (case hkY155 => first | exact rfl | assumption); (case hplY155 => k_mem); (case hpsY155 => exact Mine.pts_mem (by with_reducible assumption) (fun pZ hpZ => by ((repeat (refine List.mem_cons_of_mem _ ?_)); first | exact hpZ | exact List.mem_append_left _ hpZ | exact List.mem_append_right _ hpZ | exact List.mem_append_left _ (List.mem_append_left _ hpZ) | exact List.mem_append_left _ (List.mem_append_right _ hpZ) | exact List.mem_append_right _ (List.mem_append_left _ hpZ) | exact List.mem_append_right _ (List.mem_append_right _ hpZ)))); (case helY155 => first | exact Mine.tup_is (by with_reducible assumption) | (refine' Mine.tup_is2 ?F1Y155 ?F2Y155 ?xY155; (case xY155 => with_reducible assumption); (case F2Y155 => with_reducible assumption); (case F1Y155 => with_reducible assumption))); (case hiY155 => with_reducible assumption); (case htlY155 => k_mem); (case hfsY155 => (rw [Mine.rep_len]; omega)); (case hszY155 => omega); (case hvsY155 => with_reducible assumption); (case hgY155 => first | exact fun zZ => Mine.bad_up (by with_reducible assumption) (by omega) zZ.2 | exact fun zZ => by (have z1Z := zZ.1; rw [Mine.rep_len] at z1Z; omega))); intro g'Z e'Z t'Z vs'Z h'Z tk'Z F'Z S'Z U'Z; (try dsimp only at S'Z); (try dsimp only); (try k_fold)))
  trivial
section
local macro_rules | `(tactic| walk_at $s:str) => do let t := Lean.Syntax.mkStrLit ("x16 " ++ s.getString); `(tactic| k_extra $t)

section
open PySem PySem.W PyProof.Rows
set_option maxHeartbeats 8000000
namespace Mine
section
variable {w : World} {p : Program} {loose : List Str} {mean : ExcName → Option Value} {mg mb : Str → Option Value}
    {gd : Option (List Code)} {cn : Str} {cs : Scope} {a : Addr} {ccd : Value} {cl : List (Str × Addr)} {A₀ : Around} {base h₀ : Heap} {L : Addr} {m : Str → Option Value} {news : List (Addr × Obj)} {s : Shared} {Q E : Value → Shared → Prop}
    (B : Below A₀ base [] h₀) (F : Fr h₀ L s.heap m) (X : (Mine.hd.heap_1 w.params).In h₀) (N : News h₀ L s.heap news) (T : Top p loose mean mg mb h₀) (hk : cs.kind = .function)
include B F X N T hk
theorem zr_ng {el z : Addr} {ns : List Int} {vs : List Value} {many : Int} {tm nE : Nat} {oP oz : Obj} {g9 : Obj → List (Addr × Obj)}
    (hm4 : 0 ≤ many ∧ many ≤ 4) (hel : (el, ({ cls := .type "tuple", data := .seq vs.toArray nE } : Obj)) ∈ news) (hi : IntsAre vs ns) (hvs : vs.length ≤ 8) (hg : ∀ k ∈ ns, 0 ≤ k ∧ k < many)
    (XB : (Mine.hd.heap_1 w.params).In base) (TB : Top p loose mean mg mb base) (C : CodeHd base 444 442) (U9 : UpdF 442 oP news g9) (hP : (442, oP) ∈ news) (hz : (z, oz) ∈ news) (hz5 : HN 442 z) (hez : HN el z) (he5 : HN el 442) (st : LSt LQz LPz oP z oz)
    (hret : ∀ c' oc vs t h' tk', Fr h₀ L h' m → News h₀ L h' ((c', oc) :: g9 (tabObj #[rawInt LPz.line, rawInt LPz.col, .ref c'])) → ((oP = tabObj #[] → ∀ q ∈ news, q.1 ≠ c') ∧ (oP ≠ tabObj #[] → c' = z ∧ oc = oz)) → HN 442 c' → oc.data = .fields vs → vs[1]? = some (.str LQz t) → Q (.bool true) { s with heap := h', toks := tk' }) :
    wpAny (model PG w) (ktrTop 600 5000 gd cn cs L a ccd cl []) (call (.ref 445) [.int many tm, .ref el, .none]) Q E s := by
  have hX : Mine.hd.heap_1 = Mine.hd.heap_1 ∧ PySem.Challenge.rw_qz0063_01 = PySem.Challenge.rw_qz0063_01 := by
    k_fill
    exact ⟨rfl, rfl⟩
  clear hX
  have N2 : News h₀ L s.heap [(442, oP), (z, oz)] := by
    refine cb_drop N ?_
    repeat' (first | exact List.forall_mem_nil _ | (refine Mine.fa_cons ?_ ?_) | assumption)
  have hNN : True ∧ News h₀ L s.heap news := ⟨trivial, N⟩
  refine wpAny_call ?_
  k_dflt (refine' enterS0C ?k1 ?k2 ?k3 ?k4 ?k5 ?kA ?kF ?kK ?k6 ?k7 ?k8 ?k9 ?kB ?kD ?_ ?c2 ?c3 ?c4; (case kA => exact rfl); (case kF => exact rfl); (case kK => assumption); (case k1 => k_asm); (case k2 => k_asm); (case k3 => k_asm); (case k4 => exact N2); (case k5 => k_asm); (case k6 => k_is); (case k7 => k_is); (case k8 => k_room); (case k9 => exact BindsTo.of_eq rfl); (case kB => exact rfl); (case kD => decide +kernel); (case c2 => exact rfl); (case c3 => exact rfl); (case c4 => exact rfl); k_whole; intro g' L' h' tk' cells' FG' F' N' Y' B' X' T' D' l1' l4' hGK; (try k_lt l1'); k_cells Y'; (try simp only [List.cons_append, List.nil_append] at N'); (try dsimp only); (try k_lift B'); first | (refine Mine.wp_enter ?_; intro ev Aw qk ek) | k_fold | skip)
  have gel : IsTup g' el vs.toArray := ⟨_, hGK _ _ (N _ hel).1 (by
    simp only [List.map_cons, List.map_nil, List.mem_cons, List.not_mem_nil, or_false, not_or]
    exact ⟨he5, hez⟩), rfl, _, rfl⟩
  clear F N hP hel
  k_steps
  · (rename KeptL _ _ _ _ => hK)
    (rename News h₀ L _ _ => kN)
    (rename News _ L' _ _ => nN)
    (rename (_ ∧ (oP ≠ tabObj #[] → _ ∧ _)) => hcz)
    (rename (∀ q : Addr × Obj, q ∈ _ → q.1 ≠ z → q.1 ≠ _) => hlz)
    obtain ⟨a1, a2, a3⟩ := cnt_end (o' := tabObj #[rawInt LPz.line, rawInt LPz.col, .ref _]) hNN.2 U9 hK hz kN nN hGK (KtsTurn.refl (fs := [])) hlz hcz hz5 (by (k_mem; done)) (by (k_mem; done)) (by (k_mem; done)) (by (k_mem; done)) (by (k_mem; done)) (by (k_mem; done))
    apply hret
    rotate_left 1
    · exact a1
    · exact a2
    · exact a3
    · assumption
    · assumption
    · assumption
  · exfalso
    omega
end
end Mine
end

section
open PySem PySem.W PyProof.Rows
set_option maxHeartbeats 8000000
namespace Mine
section
variable {w : World} {p : Program} {loose : List Str} {mean : ExcName → Option Value} {mg mb : Str → Option Value}
    {gd : Option (List Code)} {cn : Str} {cs : Scope} {a : Addr} {ccd : Value} {cl : List (Str × Addr)} {A₀ : Around} {base h₀ : Heap} {L : Addr} {m : Str → Option Value} {news : List (Addr × Obj)} {s : Shared} {Q E : Value → Shared → Prop}
    (B : Below A₀ base [] h₀) (F : Fr h₀ L s.heap m) (X : (Mine.hd.heap_1 w.params).In h₀) (N : News h₀ L s.heap news) (T : Top p loose mean mg mb h₀) (hk : cs.kind = .function)
include B F X N T hk
theorem zr_nb {el z : Addr} {ns : List Int} {vs : List Value} {many : Int} {tm nE : Nat} {oP oz : Obj} {g9 : Obj → List (Addr × Obj)}
    (hm4 : 0 ≤ many ∧ many ≤ 4) (hel : (el, ({ cls := .type "tuple", data := .seq vs.toArray nE } : Obj)) ∈ news) (hi : IntsAre vs ns) (hvs : vs.length ≤ 8) (hb : ¬ ∀ k ∈ ns, 0 ≤ k ∧ k < many)
    (XB : (Mine.hd.heap_1 w.params).In base) (TB : Top p loose mean mg mb base) (C : CodeHd base 444 442) (U9 : UpdF 442 oP news g9) (hP : (442, oP) ∈ news) (hz : (z, oz) ∈ news) (hz5 : HN 442 z) (hez : HN el z) (he5 : HN el 442) (st : LSt LQz LPz oP z oz)
    (hret : ∀ c' oc vs t h' tk', Fr h₀ L h' m → News h₀ L h' ((c', oc) :: g9 (tabObj #[rawInt LPz.line, rawInt LPz.col, .ref c'])) → ((oP = tabObj #[] → ∀ q ∈ news, q.1 ≠ c') ∧ (oP ≠ tabObj #[] → c' = z ∧ oc = oz)) → HN 442 c' → oc.data = .fields vs → vs[1]? = some (.str LQz t) → Q (.bool true) { s with heap := h', toks := tk' }) :
    wpAny (model PG w) (ktrTop 600 5000 gd cn cs L a ccd cl []) (call (.ref 445) [.int many tm, .ref el, .none]) Q E s := by
  have hX : Mine.hd.heap_1 = Mine.hd.heap_1 ∧ PySem.Challenge.rw_qz0063_01 = PySem.Challenge.rw_qz0063_01 := by
    k_fill
    exact ⟨rfl, rfl⟩
  clear hX
  have N2 : News h₀ L s.heap [(442, oP), (z, oz)] := by
    refine cb_drop N ?_
    repeat' (first | exact List.forall_mem_nil _ | (refine Mine.fa_cons ?_ ?_) | assumption)
  have hNN : True ∧ News h₀ L s.heap news := ⟨trivial, N⟩
  refine wpAny_call ?_
  k_dflt (refine' enterS0C ?k1 ?k2 ?k3 ?k4 ?k5 ?kA ?kF ?kK ?k6 ?k7 ?k8 ?k9 ?kB ?kD ?_ ?c2 ?c3 ?c4; (case kA => exact rfl); (case kF => exact rfl); (case kK => assumption); (case k1 => k_asm); (case k2 => k_asm); (case k3 => k_asm); (case k4 => exact N2); (case k5 => k_asm); (case k6 => k_is); (case k7 => k_is); (case k8 => k_room); (case k9 => exact BindsTo.of_eq rfl); (case kB => exact rfl); (case kD => decide +kernel); (case c2 => exact rfl); (case c3 => exact rfl); (case c4 => exact rfl); k_whole; intro g' L' h' tk' cells' FG' F' N' Y' B' X' T' D' l1' l4' hGK; (try k_lt l1'); k_cells Y'; (try simp only [List.cons_append, List.nil_append] at N'); (try dsimp only); (try k_lift B'); first | (refine Mine.wp_enter ?_; intro ev Aw qk ek) | k_fold | skip)
  have gel : IsTup g' el vs.toArray := ⟨_, hGK _ _ (N _ hel).1 (by
    simp only [List.map_cons, List.map_nil, List.mem_cons, List.not_mem_nil, or_false, not_or]
    exact ⟨he5, hez⟩), rfl, _, rfl⟩
  clear F N hP hel
  k_steps
  · (rename KtsTurn _ _ _ => hT)
    (rename KeptL _ _ _ _ => hK)
    (rename News h₀ L _ _ => kN)
    (rename News _ L' _ _ => nN)
    (rename (_ ∧ (oP ≠ tabObj #[] → _ ∧ _)) => hcz)
    (rename (∀ q : Addr × Obj, q ∈ _ → q.1 ≠ z → q.1 ≠ _) => hlz)
    obtain ⟨a1, a2, a3⟩ := cnt_end (o' := tabObj #[rawInt LPz.line, rawInt LPz.col, .ref _]) hNN.2 U9 hK hz kN nN hGK (hT) hlz hcz hz5 (by (k_mem; done)) (by (k_mem; done)) (by (k_mem; done)) (by (k_mem; done)) (by (k_mem; done)) (by (k_mem; done))
    apply hret
    rotate_left 1
    · exact a1
    · exact a2
    · exact a3
    · assumption
    · assumption
    · assumption
end
end Mine
end

section
open PySem PySem.W PyProof.Rows
set_option maxHeartbeats 8000000
namespace Mine
section
variable {w : World} {p : Program} {loose : List Str} {mean : ExcName → Option Value} {mg mb : Str → Option Value}
    {gd : Option (List Code)} {cn : Str} {cs : Scope} {a : Addr} {ccd : Value} {cl : List (Str × Addr)} {A₀ : Around} {base h₀ : Heap} {L : Addr} {m : Str → Option Value} {news : List (Addr × Obj)} {s : Shared} {Q E : Value → Shared → Prop}
    (B : Below A₀ base [] h₀) (F : Fr h₀ L s.heap m) (X : (Mine.hd.heap_1 w.params).In h₀) (N : News h₀ L s.heap news) (T : Top p loose mean mg mb h₀) (hk : cs.kind = .function)
include B F X N T hk
theorem zr_ig {el z : Addr} {ns : List Int} {vs : List Value} {many mk : Int} {tm tk nE : Nat} {oP oz : Obj} {g9 : Obj → List (Addr × Obj)}
    (hm4 : 0 ≤ many ∧ many ≤ 4) (hel : (el, ({ cls := .type "tuple", data := .seq vs.toArray nE } : Obj)) ∈ news) (hi : IntsAre vs ns) (hvs : vs.length ≤ 8) (hg : ∀ k ∈ ns, 0 ≤ k ∧ k < many) (hmk : 0 ≤ mk ∧ mk ≤ 5) (hme : mk = many)
    (XB : (Mine.hd.heap_1 w.params).In base) (TB : Top p loose mean mg mb base) (C : CodeHd base 444 442) (U9 : UpdF 442 oP news g9) (hP : (442, oP) ∈ news) (hz : (z, oz) ∈ news) (hz5 : HN 442 z) (hez : HN el z) (he5 : HN el 442) (st : LSt LQz LPz oP z oz)
    (hret : ∀ c' oc vs t h' tk', Fr h₀ L h' m → News h₀ L h' ((c', oc) :: g9 (tabObj #[rawInt LPz.line, rawInt LPz.col, .ref c'])) → ((oP = tabObj #[] → ∀ q ∈ news, q.1 ≠ c') ∧ (oP ≠ tabObj #[] → c' = z ∧ oc = oz)) → HN 442 c' → oc.data = .fields vs → vs[1]? = some (.str LQz t) → Q (.bool true) { s with heap := h', toks := tk' }) :
    wpAny (model PG w) (ktrTop 600 5000 gd cn cs L a ccd cl []) (call (.ref 445) [.int many tm, .ref el, .int mk tk]) Q E s := by
  have hX : Mine.hd.heap_1 = Mine.hd.heap_1 ∧ PySem.Challenge.rw_qz0063_01 = PySem.Challenge.rw_qz0063_01 := by
    k_fill
    exact ⟨rfl, rfl⟩
  clear hX
  have N2 : News h₀ L s.heap [(442, oP), (z, oz)] := by
    refine cb_drop N ?_
    repeat' (first | exact List.forall_mem_nil _ | (refine Mine.fa_cons ?_ ?_) | assumption)
  have hNN : True ∧ News h₀ L s.heap news := ⟨trivial, N⟩
  refine wpAny_call ?_
  k_dflt (refine' enterS0C ?k1 ?k2 ?k3 ?k4 ?k5 ?kA ?kF ?kK ?k6 ?k7 ?k8 ?k9 ?kB ?kD ?_ ?c2 ?c3 ?c4; (case kA => exact rfl); (case kF => exact rfl); (case kK => assumption); (case k1 => k_asm); (case k2 => k_asm); (case k3 => k_asm); (case k4 => exact N2); (case k5 => k_asm); (case k6 => k_is); (case k7 => k_is); (case k8 => k_room); (case k9 => exact BindsTo.of_eq rfl); (case kB => exact rfl); (case kD => decide +kernel); (case c2 => exact rfl); (case c3 => exact rfl); (case c4 => exact rfl); k_whole; intro g' L' h' tk' cells' FG' F' N' Y' B' X' T' D' l1' l4' hGK; (try k_lt l1'); k_cells Y'; (try simp only [List.cons_append, List.nil_append] at N'); (try dsimp only); (try k_lift B'); first | (refine Mine.wp_enter ?_; intro ev Aw qk ek) | k_fold | skip)
  have gel : IsTup g' el vs.toArray := ⟨_, hGK _ _ (N _ hel).1 (by
    simp only [List.map_cons, List.map_nil, List.mem_cons, List.not_mem_nil, or_false, not_or]
    exact ⟨he5, hez⟩), rfl, _, rfl⟩
  clear F N hP hel
  k_steps
  · (rename KeptL _ _ _ _ => hK)
    (rename News h₀ L _ _ => kN)
    (rename News _ L' _ _ => nN)
    (rename (_ ∧ (oP ≠ tabObj #[] → _ ∧ _)) => hcz)
    (rename (∀ q : Addr × Obj, q ∈ _ → q.1 ≠ z → q.1 ≠ _) => hlz)
    obtain ⟨a1, a2, a3⟩ := cnt_end (o' := tabObj #[rawInt LPz.line, rawInt LPz.col, .ref _]) hNN.2 U9 hK hz kN nN hGK (KtsTurn.refl (fs := [])) hlz hcz hz5 (by (k_mem; done)) (by (k_mem; done)) (by (k_mem; done)) (by (k_mem; done)) (by (k_mem; done)) (by (k_mem; done))
    apply hret
    rotate_left 1
    · exact a1
    · exact a2
    · exact a3
    · assumption
    · assumption
    · assumption
  · exfalso
    omega
end
end Mine
end

section
open PySem PySem.W PyProof.Rows
set_option maxHeartbeats 8000000
namespace Mine
section
variable {w : World} {p : Program} {loose : List Str} {mean : ExcName → Option Value} {mg mb : Str → Option Value}
    {gd : Option (List Code)} {cn : Str} {cs : Scope} {a : Addr} {ccd : Value} {cl : List (Str × Addr)} {A₀ : Around} {base h₀ : Heap} {L : Addr} {m : Str → Option Value} {news : List (Addr × Obj)} {s : Shared} {Q E : Value → Shared → Prop}
    (B : Below A₀ base [] h₀) (F : Fr h₀ L s.heap m) (X : (Mine.hd.heap_1 w.params).In h₀) (N : News h₀ L s.heap news) (T : Top p loose mean mg mb h₀) (hk : cs.kind = .function)
include B F X N T hk
theorem zr_ib {el z : Addr} {ns : List Int} {vs : List Value} {many mk : Int} {tm tk nE : Nat} {oP oz : Obj} {g9 : Obj → List (Addr × Obj)}
    (hm4 : 0 ≤ many ∧ many ≤ 4) (hel : (el, ({ cls := .type "tuple", data := .seq vs.toArray nE } : Obj)) ∈ news) (hi : IntsAre vs ns) (hvs : vs.length ≤ 8) (hb : ¬ ∀ k ∈ ns, 0 ≤ k ∧ k < many) (hmk : 0 ≤ mk ∧ mk ≤ 5)
    (XB : (Mine.hd.heap_1 w.params).In base) (TB : Top p loose mean mg mb base) (C : CodeHd base 444 442) (U9 : UpdF 442 oP news g9) (hP : (442, oP) ∈ news) (hz : (z, oz) ∈ news) (hz5 : HN 442 z) (hez : HN el z) (he5 : HN el 442) (st : LSt LQz LPz oP z oz)
    (hret : ∀ c' oc vs t h' tk', Fr h₀ L h' m → News h₀ L h' ((c', oc) :: g9 (tabObj #[rawInt LPz.line, rawInt LPz.col, .ref c'])) → ((oP = tabObj #[] → ∀ q ∈ news, q.1 ≠ c') ∧ (oP ≠ tabObj #[] → c' = z ∧ oc = oz)) → HN 442 c' → oc.data = .fields vs → vs[1]? = some (.str LQz t) → Q (.bool true) { s with heap := h', toks := tk' }) :
    wpAny (model PG w) (ktrTop 600 5000 gd cn cs L a ccd cl []) (call (.ref 445) [.int many tm, .ref el, .int mk tk]) Q E s := by
  have hX : Mine.hd.heap_1 = Mine.hd.heap_1 ∧ PySem.Challenge.rw_qz0063_01 = PySem.Challenge.rw_qz0063_01 := by
    k_fill
    exact ⟨rfl, rfl⟩
  clear hX
  have N2 : News h₀ L s.heap [(442, oP), (z, oz)] := by
    refine cb_drop N ?_
    repeat' (first | exact List.forall_mem_nil _ | (refine Mine.fa_cons ?_ ?_) | assumption)
  have hNN : True ∧ News h₀ L s.heap news := ⟨trivial, N⟩
  refine wpAny_call ?_
  k_dflt (refine' enterS0C ?k1 ?k2 ?k3 ?k4 ?k5 ?kA ?kF ?kK ?k6 ?k7 ?k8 ?k9 ?kB ?kD ?_ ?c2 ?c3 ?c4; (case kA => exact rfl); (case kF => exact rfl); (case kK => assumption); (case k1 => k_asm); (case k2 => k_asm); (case k3 => k_asm); (case k4 => exact N2); (case k5 => k_asm); (case k6 => k_is); (case k7 => k_is); (case k8 => k_room); (case k9 => exact BindsTo.of_eq rfl); (case kB => exact rfl); (case kD => decide +kernel); (case c2 => exact rfl); (case c3 => exact rfl); (case c4 => exact rfl); k_whole; intro g' L' h' tk' cells' FG' F' N' Y' B' X' T' D' l1' l4' hGK; (try k_lt l1'); k_cells Y'; (try simp only [List.cons_append, List.nil_append] at N'); (try dsimp only); (try k_lift B'); first | (refine Mine.wp_enter ?_; intro ev Aw qk ek) | k_fold | skip)
  have gel : IsTup g' el vs.toArray := ⟨_, hGK _ _ (N _ hel).1 (by
    simp only [List.map_cons, List.map_nil, List.mem_cons, List.not_mem_nil, or_false, not_or]
    exact ⟨he5, hez⟩), rfl, _, rfl⟩
  clear F N hP hel
  k_steps
  · (rename KtsTurn _ _ _ => hT)
    (rename KeptL _ _ _ _ => hK)
    (rename News h₀ L _ _ => kN)
    (rename News _ L' _ _ => nN)
    (rename (_ ∧ (oP ≠ tabObj #[] → _ ∧ _)) => hcz)
    (rename (∀ q : Addr × Obj, q ∈ _ → q.1 ≠ z → q.1 ≠ _) => hlz)
    obtain ⟨a1, a2, a3⟩ := cnt_end (o' := tabObj #[rawInt LPz.line, rawInt LPz.col, .ref _]) hNN.2 U9 hK hz kN nN hGK (hT) hlz hcz hz5 (by (k_mem; done)) (by (k_mem; done)) (by (k_mem; done)) (by (k_mem; done)) (by (k_mem; done)) (by (k_mem; done))
    apply hret
    rotate_left 1
    · exact a1
    · exact a2
    · exact a3
    · assumption
    · assumption
    · assumption
end
end Mine
end

section
open PySem PySem.W PyProof.Rows
set_option maxHeartbeats 8000000
namespace Mine
section
variable {w : World} {p : Program} {loose : List Str} {mean : ExcName → Option Value} {mg mb : Str → Option Value}
    {gd : Option (List Code)} {cn : Str} {cs : Scope} {a : Addr} {ccd : Value} {cl : List (Str × Addr)} {A₀ : Around} {base h₀ : Heap} {L : Addr} {m : Str → Option Value} {news : List (Addr × Obj)} {s : Shared} {Q E : Value → Shared → Prop}
    (B : Below A₀ base [] h₀) (F : Fr h₀ L s.heap m) (X : (Mine.hd.heap_1 w.params).In h₀) (N : News h₀ L s.heap news) (T : Top p loose mean mg mb h₀) (hk : cs.kind = .function)
include B F X N T hk
theorem zr_ie {el z : Addr} {ns : List Int} {vs : List Value} {many mk : Int} {tm tk nE : Nat} {oP oz : Obj} {g9 : Obj → List (Addr × Obj)}
    (hm4 : 0 ≤ many ∧ many ≤ 4) (hel : (el, ({ cls := .type "tuple", data := .seq vs.toArray nE } : Obj)) ∈ news) (hi : IntsAre vs ns) (hvs : vs.length ≤ 8) (hg : ∀ k ∈ ns, 0 ≤ k ∧ k < many) (hmk : 0 ≤ mk ∧ mk ≤ 5) (hme : mk ≠ many)
    (XB : (Mine.hd.heap_1 w.params).In base) (TB : Top p loose mean mg mb base) (C : CodeHd base 444 442) (U9 : UpdF 442 oP news g9) (hP : (442, oP) ∈ news) (hz : (z, oz) ∈ news) (hz5 : HN 442 z) (hez : HN el z) (he5 : HN el 442) (st : LSt LQz LPz oP z oz)
    (hret : ∀ c' oc vs t h' tk', Fr h₀ L h' m → News h₀ L h' ((c', oc) :: g9 (tabObj #[rawInt LPz.line, rawInt LPz.col, .ref c'])) → ((oP = tabObj #[] → ∀ q ∈ news, q.1 ≠ c') ∧ (oP ≠ tabObj #[] → c' = z ∧ oc = oz)) → HN 442 c' → oc.data = .fields vs → vs[1]? = some (.str LQz t) → Q (.bool true) { s with heap := h', toks := tk' }) :
    wpAny (model PG w) (ktrTop 600 5000 gd cn cs L a ccd cl []) (call (.ref 445) [.int many tm, .ref el, .int mk tk]) Q E s := by
  have hX : Mine.hd.heap_1 = Mine.hd.heap_1 ∧ PySem.Challenge.rw_qz0063_01 = PySem.Challenge.rw_qz0063_01 := by
    k_fill
    exact ⟨rfl, rfl⟩
  clear hX
  have N2 : News h₀ L s.heap [(442, oP), (z, oz)] := by
    refine cb_drop N ?_
    repeat' (first | exact List.forall_mem_nil _ | (refine Mine.fa_cons ?_ ?_) | assumption)
  have hNN : True ∧ News h₀ L s.heap news := ⟨trivial, N⟩
  refine wpAny_call ?_
  k_dflt (refine' enterS0C ?k1 ?k2 ?k3 ?k4 ?k5 ?kA ?kF ?kK ?k6 ?k7 ?k8 ?k9 ?kB ?kD ?_ ?c2 ?c3 ?c4; (case kA => exact rfl); (case kF => exact rfl); (case kK => assumption); (case k1 => k_asm); (case k2 => k_asm); (case k3 => k_asm); (case k4 => exact N2); (case k5 => k_asm); (case k6 => k_is); (case k7 => k_is); (case k8 => k_room); (case k9 => exact BindsTo.of_eq rfl); (case kB => exact rfl); (case kD => decide +kernel); (case c2 => exact rfl); (case c3 => exact rfl); (case c4 => exact rfl); k_whole; intro g' L' h' tk' cells' FG' F' N' Y' B' X' T' D' l1' l4' hGK; (try k_lt l1'); k_cells Y'; (try simp only [List.cons_append, List.nil_append] at N'); (try dsimp only); (try k_lift B'); first | (refine Mine.wp_enter ?_; intro ev Aw qk ek) | k_fold | skip)
  have gel : IsTup g' el vs.toArray := ⟨_, hGK _ _ (N _ hel).1 (by
    simp only [List.map_cons, List.map_nil, List.mem_cons, List.not_mem_nil, or_false, not_or]
    exact ⟨he5, hez⟩), rfl, _, rfl⟩
  clear F N hP hel
  k_steps
  · (rename KtsTurn _ _ _ => hT)
    (rename KeptL _ _ _ _ => hK)
    (rename News h₀ L _ _ => kN)
    (rename News _ L' _ _ => nN)
    (rename (_ ∧ (oP ≠ tabObj #[] → _ ∧ _)) => hcz)
    (rename (∀ q : Addr × Obj, q ∈ _ → q.1 ≠ z → q.1 ≠ _) => hlz)
    obtain ⟨a1, a2, a3⟩ := cnt_end (o' := tabObj #[rawInt LPz.line, rawInt LPz.col, .ref _]) hNN.2 U9 hK hz kN nN hGK (hT) hlz hcz hz5 (by (k_mem; done)) (by (k_mem; done)) (by (k_mem; done)) (by (k_mem; done)) (by (k_mem; done)) (by (k_mem; done))
    apply hret
    rotate_left 1
    · exact a1
    · exact a2
    · exact a3
    · assumption
    · assumption
    · assumption
end
end Mine
end

end

section
open PySem PySem.W PyProof.Rows
namespace Mine
section
variable {w : World} {p : Program} {loose : List Str} {mean : ExcName → Option Value} {mg mb : Str → Option Value}
    {gd : Option (List Code)} {cn : Str} {cs : Scope} {a : Addr} {ccd : Value} {cl : List (Str × Addr)} {A₀ : Around} {base h₀ : Heap} {L : Addr} {m : Str → Option Value} {news : List (Addr × Obj)} {s : Shared} {Q E : Value → Shared → Prop}
    (B : Below A₀ base [] h₀) (F : Fr h₀ L s.heap m) (X : (Mine.hd.heap_1 w.params).In h₀) (N : News h₀ L s.heap news) (T : Top p loose mean mg mb h₀) (hk : cs.kind = .function)
include B F X N T hk
/-- what the law draws for marks -/
noncomputable def Mark (v : Value) : Prop := v = .none ∨ ∃ mk t, v = .int mk t ∧ 0 ≤ mk ∧ mk ≤ 5
theorem zr_any {el z : Addr} {ns : List Int} {vs : List Value} {many : Int} {mv : Value} {tm nE : Nat} {oP oz : Obj} {g9 : Obj → List (Addr × Obj)}
    (hm4 : 0 ≤ many ∧ many ≤ 4) (hel : (el, ({ cls := .type "tuple", data := .seq vs.toArray nE } : Obj)) ∈ news) (hi : IntsAre vs ns) (hvs : vs.length ≤ 8) (hv : Mark mv)
    (XB : (Mine.hd.heap_1 w.params).In base) (TB : Top p loose mean mg mb base) (C : CodeHd base 444 442) (U9 : UpdF 442 oP news g9) (hP : (442, oP) ∈ news) (hz : (z, oz) ∈ news) (hz5 : HN 442 z) (hez : HN el z) (he5 : HN el 442) (st : LSt LQz LPz oP z oz)
    (hret : ∀ c' oc vs t h' tk', Fr h₀ L h' m → News h₀ L h' ((c', oc) :: g9 (tabObj #[rawInt LPz.line, rawInt LPz.col, .ref c'])) → ((oP = tabObj #[] → ∀ q ∈ news, q.1 ≠ c') ∧ (oP ≠ tabObj #[] → c' = z ∧ oc = oz)) → HN 442 c' → oc.data = .fields vs → vs[1]? = some (.str LQz t) → Q (.bool true) { s with heap := h', toks := tk' }) :
    wpAny (model PG w) (ktrTop 600 5000 gd cn cs L a ccd cl []) (call (.ref 445) [.int many tm, .ref el, mv]) Q E s := by
  by_cases hg : ∀ k ∈ ns, 0 ≤ k ∧ k < many
  · rcases hv with rfl | ⟨mk, t, rfl, hmk⟩
    · exact zr_ng B F X N T hk hm4 hel hi hvs hg XB TB C U9 hP hz hz5 hez he5 st hret
    · by_cases hme : mk = many
      · exact zr_ig B F X N T hk hm4 hel hi hvs hg hmk hme XB TB C U9 hP hz hz5 hez he5 st hret
      · exact zr_ie B F X N T hk hm4 hel hi hvs hg hmk hme XB TB C U9 hP hz hz5 hez he5 st hret
  · rcases hv with rfl | ⟨mk, t, rfl, hmk⟩
    · exact zr_nb B F X N T hk hm4 hel hi hvs hg XB TB C U9 hP hz hz5 hez he5 st hret
    · exact zr_ib B F X N T hk hm4 hel hi hvs hg hmk XB TB C U9 hP hz hz5 hez he5 st hret
theorem zr_first {el z : Addr} {ns : List Int} {vs : List Value} {many : Int} {mv : Value} {tm nE : Nat} {oz : Obj} {g9 : Obj → List (Addr × Obj)}
    (hm4 : 0 ≤ many ∧ many ≤ 4) (hel : (el, ({ cls := .type "tuple", data := .seq vs.toArray nE } : Obj)) ∈ news) (hi : IntsAre vs ns) (hvs : vs.length ≤ 8) (hv : Mark mv)
    (XB : (Mine.hd.heap_1 w.params).In base) (TB : Top p loose mean mg mb base) (C : CodeHd base 444 442) (U9 : UpdF 442 (tabObj #[]) news g9) (hP : (442, tabObj #[]) ∈ news) (hz : (z, oz) ∈ news) (hz5 : HN 442 z) (hez : HN el z) (he5 : HN el 442)
    (hret : ∀ c' oc vs t h' tk', Fr h₀ L h' m → News h₀ L h' ((c', oc) :: g9 (tabObj #[rawInt LPz.line, rawInt LPz.col, .ref c'])) → AllHN c' news → oc.data = .fields vs → vs[1]? = some (.str LQz t) → Q (.bool true) { s with heap := h', toks := tk' }) :
    wpAny (model PG w) (ktrTop 600 5000 gd cn cs L a ccd cl []) (call (.ref 445) [.int many tm, .ref el, mv]) Q E s :=
  zr_any B F X N T hk hm4 hel hi hvs hv XB TB C U9 hP hz hz5 hez he5 (.inl rfl) fun c' oc vs t h' tk' F' N' hc _ e1 e2 => hret c' oc vs t h' tk' F' N' (allHN' (hc.1 rfl)) e1 e2
theorem zr_next {el z : Addr} {ns : List Int} {vs : List Value} {many : Int} {mv : Value} {tm nE : Nat} {oz : Obj} {g9 : Obj → List (Addr × Obj)} {fs : Array Value} {t : Nat}
    (hm4 : 0 ≤ many ∧ many ≤ 4) (hel : (el, ({ cls := .type "tuple", data := .seq vs.toArray nE } : Obj)) ∈ news) (hi : IntsAre vs ns) (hvs : vs.length ≤ 8) (hv : Mark mv)
    (XB : (Mine.hd.heap_1 w.params).In base) (TB : Top p loose mean mg mb base) (C : CodeHd base 444 442) (U9 : UpdF 442 (tabObj #[rawInt LPz.line, rawInt LPz.col, .ref z]) news g9) (hP : (442, tabObj #[rawInt LPz.line, rawInt LPz.col, .ref z]) ∈ news) (hz : (z, oz) ∈ news) (hz5 : HN 442 z) (hez : HN el z) (he5 : HN el 442) (e1 : oz.data = .fields fs) (e2 : fs[1]? = some (.str LQz t))
    (hret : ∀ h' tk', Fr h₀ L h' m → News h₀ L h' news → Q (.bool true) { s with heap := h', toks := tk' }) :
    wpAny (model PG w) (ktrTop 600 5000 gd cn cs L a ccd cl []) (call (.ref 445) [.int many tm, .ref el, mv]) Q E s :=
  zr_any B F X N T hk hm4 hel hi hvs hv XB TB C U9 hP hz hz5 hez he5 (.inr ⟨rfl, fs, t, e1, e2⟩) fun c' oc vs' t' h' tk' F' N' hc _ _ _ => by
    obtain ⟨rfl, rfl⟩ := hc.2 (by simp [tabObj])
    refine hret h' tk' F' fun q hq => N' q (List.mem_cons_of_mem _ ?_)
    obtain ⟨pre, post, e, hg, _, _⟩ := U9.split
    rw [hg, ← e]
    exact hq
end
end Mine
end

section
open PySem PySem.W PyProof.Rows
set_option maxHeartbeats 4000000
namespace Mine
open PySem.Calls PySem.Spec LCg
section
variable {prog : Program} {w : World} {A : Around} {E : Value → Shared → Prop} {s : Shared} {h₀ : Heap} {src : Addr} {env : Env} {x : Str} {body : List Stmt} {Q : Flow → Shared → Prop} {news : List (Addr × Obj)} {g : Obj → List (Addr × Obj)}
/-- the pool of draws, as a turn of the law's loop finds it -/
noncomputable abbrev pl3 (a : Int) (ta : Nat) (b : Int) (tb : Nat) (k : Nat) : Obj := listOf #[.int a ta, .int b tb] k
/-- what a turn that draws leaves: the pool has turned, all else stands -/
noncomputable def PoolEnd (h₀ : Heap) (L : Addr) (x y : Str) (m₀ : Str → Option Value) (I : Addr) (o : Obj) (g : Obj → List (Addr × Obj)) (s₁ s₂ : Shared) : Prop :=
  ∃ h' tk m' news' a ta b tb k, s₂ = { s₁ with heap := h', toks := tk } ∧ Fr h₀ L h' m' ∧ News h₀ L h' news' ∧ (∀ p ∈ (I, o) :: g (pl3 a ta b tb k), p ∈ news') ∧ 0 ≤ a ∧ (0 ≤ b ∧ b < 2147483647) ∧ ∀ z, z ≠ x → z ≠ y → m' z = m₀ z
noncomputable def PoolPost (h₀ : Heap) (L : Addr) (x y : Str) (m₀ : Str → Option Value) (I : Addr) (o : Obj) (g : Obj → List (Addr × Obj)) (s₁ : Shared) (Q : Flow → Shared → Prop) (f : Flow) (s₂ : Shared) : Prop :=
  match f with
  | .ret v => Q (.ret v) s₂
  | .brk => Q .next s₂
  | _ => PoolEnd h₀ L x y m₀ I o g s₁ s₂
theorem PoolEnd.intro {L I : Addr} {o : Obj} {y : Str} {m₀ m' : Str → Option Value} {news' : List (Addr × Obj)} {s₁ : Shared} {h' : Heap} {tk : Nat} {a b : Int} {ta tb k : Nat} (F : Fr h₀ L h' m') (N : News h₀ L h' news') (hn : ∀ p ∈ (I, o) :: g (pl3 a ta b tb k), p ∈ news') (ha : 0 ≤ a) (hb : 0 ≤ b ∧ b < 2147483647)
    (hm : ∀ z, z ≠ x → z ≠ y → m' z = m₀ z) : PoolEnd h₀ L x y m₀ I o g s₁ { s₁ with heap := h', toks := tk } := ⟨h', tk, m', news', a, ta, b, tb, k, rfl, F, N, hn, ha, hb, hm⟩
theorem adr_updF {o o' : Obj} (U : UpdF src o news g) : (g o').map (·.1) = news.map (·.1) := by
  obtain ⟨pre, post, e, hg, _, _⟩ := U.split
  rw [hg, e]
  simp
theorem map_xy {y : Str} {m₁ m₀ : Str → Option Value} {v : Option Value} (hm : ∀ z, z ≠ x → z ≠ y → m₁ z = m₀ z) :
    (fun z => if z = x then v else m₁ z) = fun z => if z = x then v else if z = y then m₁ y else m₀ z := by
  funext z
  by_cases h1 : z = x
  · simp [h1]
  · simp only [if_neg h1]
    by_cases h2 : z = y
    · simp [h2]
    · simp only [if_neg h2]; exact hm z h1 h2
theorem map_xx {y : Str} {m₁ m₀ : Str → Option Value} (hm : ∀ z, z ≠ x → z ≠ y → m₁ z = m₀ z) :
    m₁ = fun z => if z = x then m₁ x else if z = y then m₁ y else m₀ z := by
  funext z
  by_cases h1 : z = x
  · simp [h1]
  · simp only [if_neg h1]
    by_cases h2 : z = y
    · simp [h2]
    · simp only [if_neg h2]; exact hm z h1 h2
theorem updF_self3 {o : Obj} (U : UpdF src o news g) : g o = news := by
  obtain ⟨pre, post, e, hg, _, _⟩ := U.split
  rw [hg, e]
theorem hn_all : ∀ {l l' : List (Addr × Obj)} {I : Addr}, l'.map (·.1) = l.map (·.1) → (∀ p ∈ l, p.1 ≠ I) → AllHN I l'
  | _, [], _, _, _ => trivial
  | [], _ :: _, _, e, _ => by simp at e
  | p :: l, q :: l', I, e, h => by
    simp only [List.map_cons, List.cons.injEq] at e
    refine ⟨?_, hn_all e.2 fun r hr => h r (.tail _ hr)⟩
    show q.1 ≠ I
    rw [e.1]
    exact h p (.head _)
theorem pool_turns (y : Str) {L : Addr} {r : Addr} {b₀ : Int} {t₀ u₀ v₀ : Tok} {n : Nat} {m₀ : Str → Option Value} {a0 b0 : Int} {ta0 tb0 k0 : Nat}
    (hL : L = env.locals) (hh : A.handled = none) (hr : IsRange s.heap r 0 b₀ 1 t₀ u₀ v₀) (hsmall : Builtin.Range.small 0 b₀ 1 = true) (hn : Builtin.Range.rangeSize 0 b₀ 1 = (n : Int)) (F : Fr h₀ L s.heap m₀) (N : News h₀ L s.heap news)
    (_hs : (src, pl3 a0 ta0 b0 tb0 k0) ∈ news) (U : UpdF src (pl3 a0 ta0 b0 tb0 k0) news g) (ha0 : 0 ≤ a0) (hb0 : 0 ≤ b0 ∧ b0 < 2147483647)
    (turn : ∀ k t u a ta b tb kk I o h tk, AllHN I (g (pl3 a ta b tb kk)) → 0 ≤ a → (0 ≤ b ∧ b < 2147483647) → Fr h₀ L h (fun z => if z = x then some (.int k t) else if z = y then u else m₀ z) → News h₀ L h ((I, o) :: g (pl3 a ta b tb kk)) →
      wpAny (model prog w) A (execs body env) (PoolPost h₀ L x y m₀ I o g { s with heap := h, toks := tk } Q) E { s with heap := h, toks := tk })
    (done : ∀ u1 u2 a ta b tb kk h tk, 0 ≤ a → (0 ≤ b ∧ b < 2147483647) → Fr h₀ L h (fun z => if z = x then u1 else if z = y then u2 else m₀ z) → News h₀ L h (g (pl3 a ta b tb kk)) → Q .next { s with heap := h, toks := tk }) :
    wpAny (model prog w) A (pyIter (.ref r)) (fun it s₂ => LoopAtV prog w A h₀ env x body Q E it s₂) E s := by
  subst hL
  refine wpAny_pyIter_range hr hsmall ?_
  have W : Walks prog w A s.heap.objs.size [s.heap.objs.size] [s.heap.objs.size] n (fun i v => i < n ∧ ∃ t, v = .int (0 + i * 1) t)
      (fun i h => IsRangeIter h s.heap.objs.size (0 + (i : Nat) * 1) ((n : Int) - (i : Nat)) 1) := (Walks.range hh _ 0 1 n).bound
  have hlt : ∀ p ∈ news, p.1 ≠ s.heap.objs.size := fun p hp => Nat.ne_of_lt (Heap.lt_size (N p hp).1)
  let J : Nat → (Str → Option Value) → List (Addr × Obj) → Prop := fun _ m₁ news₁ => (∃ a ta b tb k, news₁ = g (pl3 a ta b tb k) ∧ 0 ≤ a ∧ (0 ≤ b ∧ b < 2147483647)) ∧ ∀ z, z ≠ x → z ≠ y → m₁ z = m₀ z
  refine ⟨s.heap.objs.size, _, _, n, _, _, m₀, news, J, rfl, W, ?_, ?_, ?_, (by show IsRangeIter _ _ _ _ _; rw [hn]; simpa using Heap.get?_push_size _ rfl), F.push _, (fun p hp => ⟨Heap.get?_push_of_some _ (N p hp).1, (N p hp).2⟩), ⟨⟨a0, ta0, b0, tb0, k0, (updF_self3 U).symm, ha0, hb0⟩, fun _ _ _ => rfl⟩, ?_, ?_⟩
  · intro hm
    exact absurd F.ns.lt ((List.mem_singleton.mp hm) ▸ Nat.lt_irrefl _)
  · intro b hb
    rw [List.mem_singleton.mp hb]
    exact next_is_new F
  · intro p hp hI
    exact hlt p hp (List.mem_singleton.mp hI)
  · rintro i v m₁ news₁ s₁ own ⟨hh', tk', rfl⟩ hin hP ⟨⟨a, ta, b, tb, k, rfl, ha, hb⟩, hJ⟩ hoff hown _ hall hst' F₁ N₁
    rw [map_xy hJ] at F₁
    obtain ⟨o, ho⟩ : ∃ o, hh'.get? s.heap.objs.size = some o := ⟨_, hst'⟩
    have hio : (s.heap.objs.size, o) ∈ own := hall _ (List.mem_singleton.mpr rfl) (next_is_new F) o ho
    have hone := own_one hown (fun b hb => .inl (List.mem_singleton.mp hb)) ho N₁
    obtain ⟨_, t, rfl⟩ := hP
    refine wpAny_mono (turn _ t (m₁ y) a ta b tb k s.heap.objs.size o hh' tk' (hn_all (adr_updF U) hlt) ha hb F₁ (news_one hio N₁)) (fun f s₂ p => ?_) fun _ _ e => e
    have fin : PoolEnd h₀ env.locals x y m₀ s.heap.objs.size o g { s with heap := hh', toks := tk' } s₂ → LoopStepU h₀ env.locals [s.heap.objs.size] own (J (i + 1)) { s with heap := hh', toks := tk' } .next s₂ := by
      rintro ⟨h', tk, m', news', a1, ta1, b1, tb1, k1, e, F', N', hn', ha1, hb1, hm⟩
      refine ⟨rfl, h', tk, m', g (pl3 a1 ta1 b1 tb1 k1), e, F', fun p hp => N' p (need_one hone hn' p hp), fun p hp hq => ?_, ⟨a1, ta1, b1, tb1, k1, rfl, ha1, hb1⟩, hm⟩
      have h1 : p.1 ∈ (g (pl3 a1 ta1 b1 tb1 k1)).map (·.1) := List.mem_map.mpr ⟨p, hp, rfl⟩
      rw [adr_updF U] at h1
      obtain ⟨q, hq1, hq2⟩ := List.mem_map.mp h1
      exact hlt q hq1 (by rw [hq2]; exact List.mem_singleton.mp hq)
    cases f with
    | ret v => exact .ret p
    | brk => exact .brk p
    | next => exact .next (fin p)
    | cont => exact .cont (fin p)
  · rintro h' tk m' news' F' N' _ ⟨⟨a, ta, b, tb, k, rfl, ha, hb⟩, hJ⟩
    rw [map_xx hJ] at F'
    exact done _ _ a ta b tb k h' tk ha hb F' N'
end
end Mine
end

section
open PySem PySem.W PyProof.Rows
set_option maxHeartbeats 4000000
namespace Mine
open PySem.Calls PySem.Spec LCg
section
variable {prog : Program} {w : World} {A : Around} {E : Value → Shared → Prop} {s : Shared} {h₀ : Heap} {L src : Addr} {m : Str → Option Value} {env : Env} {elt : Expr} {x : Str} {scope : Scope} {cl : List (Str × Addr)} {S : List (Addr × Obj) → Prop} {P : Nat → Value → Prop} {Fin : List Value → List (Addr × Obj) → Prop} {news : List (Addr × Obj)} {g : Obj → List (Addr × Obj)}
/-- the pool of draws -/
noncomputable abbrev pl2 (a : Int) (ta : Nat) (b : Int) (tb : Nat) (k : Nat) : Obj := listOf #[.int a ta, .int b tb] k
theorem updF_self {o : Obj} (U : UpdF src o news g) : g o = news := by
  obtain ⟨pre, post, e, hg, _, _⟩ := U.split
  rw [hg, e]
theorem take_rest {n : Nat} {a0 b0 : Int} {ta0 tb0 k0 : Nat} (_hs : (src, pl2 a0 ta0 b0 tb0 k0) ∈ news) (U : UpdF src (pl2 a0 ta0 b0 tb0 k0) news g) (ha0 : 0 ≤ a0) (hb0 : 0 ≤ b0 ∧ b0 < 2147483647)
    (turn : ∀ a ta b tb k I oI C oC D m₂ ys h tk (E' : Value → Shared → Prop), 0 ≤ a → (0 ≤ b ∧ b < 2147483647) → NsObj oC m₂ → Fr h₀ L h m → News h₀ L h ((I, oI) :: (C, oC) :: (D, lst ys) :: g (pl2 a ta b tb k)) → Off3 I C D (g (pl2 a ta b tb k)) → ((@Ne Nat I C) ∧ (@Ne Nat I D) ∧ (@Ne Nat C D)) →
      wpAny (model prog w) A (eval elt (compEnvC scope cl C env)) (CompEnd h₀ L m { s with heap := h, toks := tk } I oI C oC D (lst ys) S (fun y news' => ∃ z t a1 ta1 b1 tb1 k1, y = .int z t ∧ 0 ≤ a1 ∧ (0 ≤ b1 ∧ b1 < 2147483647) ∧ news' = g (pl2 a1 ta1 b1 tb1 k1))) E' { s with heap := h, toks := tk })
    (fin : ∀ ys ks a ta b tb k, IntsAre ys ks → ys.length = n → 0 ≤ a → (0 ≤ b ∧ b < 2147483647) → Fin ys (g (pl2 a ta b tb k))) : CompRest prog w A h₀ L m env elt x scope cl s S P Fin n 0 [] news := by
  have key : ∀ (j i : Nat) (ys : List Value) (ks : List Int) a ta b tb k, i + j = n → ys.length = i → IntsAre ys ks → 0 ≤ a → (0 ≤ b ∧ b < 2147483647) → CompRest prog w A h₀ L m env elt x scope cl s S P Fin j i ys (g (pl2 a ta b tb k)) := by
    intro j
    induction j with
    | zero =>
      intro i ys ks a ta b tb k hi hy hk ha hb
      exact CompRest.zero (fin ys ks a ta b tb k hk (by omega) ha hb)
    | succ j ih =>
      intro i ys ks a ta b tb k hi hy hk ha hb
      refine CompRest.succ ?_
      intro v I oI C oC D m₂ h tk E' hv hC hx F N off ne
      refine wpAny_mono (turn a ta b tb k I oI C oC D m₂ ys h tk E' ha hb hC F N off ne) (fun y s₂ hr => ?_) fun _ _ e => e
      obtain ⟨h', tk', nw, e, F', N', off', hS, z, t, a1, ta1, b1, tb1, k1, hy', ha1, hb1, hn'⟩ := hr
      subst hn'
      refine ⟨h', tk', _, e, F', N', off', hS, ?_⟩
      rw [hy']
      exact ih (i + 1) _ (ks ++ [z]) a1 ta1 b1 tb1 k1 (by omega) (by simp [hy]) (IntsAre.append hk (.cons z t .nil)) ha1 hb1
  have := key n 0 [] [] a0 ta0 b0 tb0 k0 (by omega) rfl .nil ha0 hb0
  rwa [updF_self U] at this
theorem cend_take {I C D : Addr} {oI oC oD : Obj} {s₁ : Shared} {h' : Heap} {tk : Nat} {all : List (Addr × Obj)} {z a1 b1 : Int} {t ta1 tb1 k1 : Nat} (F : Fr h₀ L h' m) (N : News h₀ L h' all) (sub : ∀ p ∈ (I, oI) :: (C, oC) :: (D, oD) :: g (pl2 a1 ta1 b1 tb1 k1), p ∈ all) (off : Off3 I C D (g (pl2 a1 ta1 b1 tb1 k1))) (hS : S (g (pl2 a1 ta1 b1 tb1 k1)))
    (ha : 0 ≤ a1) (hb : 0 ≤ b1 ∧ b1 < 2147483647) :
    CompEnd h₀ L m s₁ I oI C oC D oD S (fun y news' => ∃ z t a1 ta1 b1 tb1 k1, y = .int z t ∧ 0 ≤ a1 ∧ (0 ≤ b1 ∧ b1 < 2147483647) ∧ news' = g (pl2 a1 ta1 b1 tb1 k1)) (.int z t) { s₁ with heap := h', toks := tk } :=
  .intro F N _ sub off hS ⟨z, t, a1, ta1, b1, tb1, k1, rfl, ha, hb, rfl⟩
/-- what a draw of a signed number leaves -/
noncomputable def IfEnd (lim : Int) (h₀ : Heap) (L : Addr) (m : Str → Option Value) (g : Obj → List (Addr × Obj)) (s : Shared) (v : Value) (s' : Shared) : Prop :=
  ∃ z t a1 ta1 b1 tb1 k1 h' tk', v = .int z t ∧ (0 - lim < z ∧ z < lim) ∧ s' = { s with heap := h', toks := tk' } ∧ 0 ≤ a1 ∧ (0 ≤ b1 ∧ b1 < 2147483647) ∧ Fr h₀ L h' m ∧ News h₀ L h' (g (pl2 a1 ta1 b1 tb1 k1))
theorem cut_if {a0 b0 : Int} {ta0 tb0 k0 : Nat} {T : Sem Value} {Q : Value → Shared → Prop} (lim : Int) (_F : Fr h₀ L s.heap m) (_N : News h₀ L s.heap news) (_hs : (src, pl2 a0 ta0 b0 tb0 k0) ∈ news) (_U : UpdF src (pl2 a0 ta0 b0 tb0 k0) news g) (h1 : wpAny (model prog w) A T (IfEnd lim h₀ L m g s) E s)
    (h2 : ∀ z t a1 ta1 b1 tb1 k1 h' tk', (0 - lim < z ∧ z < lim) → 0 ≤ a1 → (0 ≤ b1 ∧ b1 < 2147483647) → Fr h₀ L h' m → News h₀ L h' (g (pl2 a1 ta1 b1 tb1 k1)) → Q (.int z t) { s with heap := h', toks := tk' }) : wpAny (model prog w) A T Q E s :=
  wpAny_mono h1 (fun v s' h => by
    obtain ⟨z, t, a1, ta1, b1, tb1, k1, h', tk', rfl, hz, rfl, ha, hb, F, N⟩ := h
    exact h2 z t a1 ta1 b1 tb1 k1 h' tk' hz ha hb F N) fun _ _ e => e
theorem IfEnd.intro {lim z a1 b1 : Int} {t ta1 tb1 k1 tk : Nat} {h' : Heap} (F : Fr h₀ L h' m) (N : News h₀ L h' (g (pl2 a1 ta1 b1 tb1 k1))) (ha : 0 ≤ a1) (hb : 0 ≤ b1 ∧ b1 < 2147483647) (hz : 0 - lim < z ∧ z < lim) :
    IfEnd lim h₀ L m g s (.int z t) { s with heap := h', toks := tk } := ⟨z, t, a1, ta1, b1, tb1, k1, h', tk, rfl, hz, rfl, ha, hb, F, N⟩
theorem room8 {r : Int} (h : r < 8) : (r - 0).toNat ≤ sizeLine := Nat.le_trans (show (r - 0).toNat ≤ 8 by omega) (Nat.le_of_ble_eq_true rfl)
/-- a value that names one of the six roundings -/
noncomputable def Wd (v : Value) : Prop := ∃ wd t P H R, v = Value.str wd t ∧ Row wd P H R
/-- a value that is a drawn number -/
noncomputable def Nm (v : Value) : Prop := ∃ z t, v = Value.int z t ∧ 0 ≤ z ∧ z ≤ 1073741829
end
end Mine
namespace Mine
open PySem PySem.W PyProof.Rows
theorem fn_inj1 {oc oc2 : Value} {od od2 : Option Addr} {osl osl2 : Array (Option Value)} {n n2 q q2 : Str} {pr pr2 : Arguments} {r r2 : List Stmt} {sc sc2 : Scope} {dV dV2 kV kV2 doc doc2 pm pm2 cdv cdv2 ct ct2 : Value} {an an2 : Option Addr}
    (e : (some ⟨oc, od, .func (fnOf n q pr r sc dV kV doc pm an cdv ct), osl⟩ : Option Obj) = some ⟨oc2, od2, .func (fnOf n2 q2 pr2 r2 sc2 dV2 kV2 doc2 pm2 an2 cdv2 ct2), osl2⟩) :
    q = q2 ∧ sc = sc2 ∧ r = r2 := by
  simp only [Option.some.injEq, Obj.mk.injEq, Data.func.injEq, FuncData.mk.injEq] at e
  obtain ⟨_, _, ⟨_, h1, _, h2, h3, _⟩, _⟩ := e
  simp_all
end Mine
namespace Mine
open PySem PySem.W PyProof.Rows
theorem wd_of {wd : Str} {t : Nat} {P H R : Int} (r : Row wd P H R) : ∃ wd' t' P H R, Value.str wd t = Value.str wd' t' ∧ Row wd' P H R := ⟨wd, t, P, H, R, rfl, r⟩
theorem words_ok {t1 t2 t3 t4 t5 t6 : Nat} : ∀ v ∈ [Value.str (Str.ofString "grid") t1, Value.str (Str.ofString "half grid") t2, Value.str (Str.ofString "double grid") t3, Value.str (Str.ofString "down") t4, Value.str (Str.ofString "up") t5, Value.str (Str.ofString "off") t6], ∃ wd t P H R, v = Value.str wd t ∧ Row wd P H R :=
  List.forall_mem_cons.mpr ⟨wd_of row_grid, List.forall_mem_cons.mpr ⟨wd_of row_half, List.forall_mem_cons.mpr ⟨wd_of row_double, List.forall_mem_cons.mpr ⟨wd_of row_down, List.forall_mem_cons.mpr ⟨wd_of row_up, List.forall_mem_cons.mpr ⟨wd_of row_off, List.forall_mem_nil _⟩⟩⟩⟩⟩⟩
end Mine
end

section
open PySem PySem.W PyProof.Rows
namespace Mine
section
variable {w : World} {p : Program} {loose : List Str} {mean : ExcName → Option Value} {mg mb : Str → Option Value}
    {gd : Option (List Code)} {cn : Str} {cs : Scope} {a : Addr} {ccd : Value} {cl : List (Str × Addr)} {outer : List Env} {A₀ : Around} {base h₀ : Heap} {L : Addr} {m : Str → Option Value} {news : List (Addr × Obj)} {s : Shared} {Q E : Value → Shared → Prop}
    (B : Below A₀ base outer h₀) (F : Fr h₀ L s.heap m) (X : (Mine.hd.heap_1 w.params).In h₀) (N : News h₀ L s.heap news) (T : Top p loose mean mg mb h₀) (hk : cs.kind = .function)
include B F X N T hk
theorem one_mark {src th : Addr} {a0 b0 : Int} {ta tb n k : Nat} {vs : List Value} {news' : Int → Tok → Int → Tok → Nat → List (Addr × Obj)} (hs : (src, listOf #[.int a0 ta, .int b0 tb] n) ∈ news) (hth : (th, listOf vs.toArray k) ∈ news) (ho : HN src th) (ha : 0 ≤ a0) (hb : 0 ≤ b0 ∧ b0 < 2147483647) (ht : 1 ≤ vs.length ∧ vs.length ≤ 16)
    (hv : ∀ v ∈ vs, Mark v)
    (U : ∀ a1 ta1 b1 tb1 n1, Upd src (listOf #[.int a0 ta, .int b0 tb] n) (listOf #[Value.int a1 ta1, Value.int b1 tb1] n1) news (news' a1 ta1 b1 tb1 n1))
    (hret : ∀ v a1 ta1 b1 tb1 n1 h' tk', Mark v → 0 ≤ a1 → (0 ≤ b1 ∧ b1 < 2147483647) → Fr h₀ L h' m → News h₀ L h' (news' a1 ta1 b1 tb1 n1) → Q v { s with heap := h', toks := tk' }) :
    wpAny (model PG w) (ktrTop 880 8000 gd cn cs L a ccd cl outer) (call (.ref 412) [.ref src, .ref th]) Q E s := by
  refine one_c B F X N T hk hs hth ho ha hb ht U fun v a1 ta1 b1 tb1 n1 h' tk' hm h1 h2 F' N' => ?_
  exact hret v a1 ta1 b1 tb1 n1 h' tk' (hv v hm) h1 h2 F' N'
end
end Mine
end

theorem Mine.reg_x17 : True := by
  (k_with "x17 call ref" => (k_here; (with_reducible show wpAny _ _ (call (Value.ref 412) _) _ _ _); k_dflt (refine' Mine.at_room ?h1Y156 ?h2Y156 ?h3Y156 ?h5Y156 (Mine.one_mark ?BY156 ?FY156 ?XY156 ?NY156 ?TY156 ?hkY156 ?hsY156 ?hthY156 ?hoY156 ?haY156 ?hbY156 ?htY156 ?hvY156 ?UY156 ?_); (case h1Y156 => exact rfl); (case h3Y156 => exact rfl); (case h2Y156 => exact Nat.le_of_ble_eq_true rfl); (case h5Y156 => exact Nat.le_of_ble_eq_true rfl); (case BY156 => k_asm); (case FY156 => k_asm); (case XY156 => k_asm); (case NY156 => k_asm); (case TY156 => k_asm); (case hkY156 => first | exact rfl | assumption); (case hsY156 => k_mem); (case hthY156 => k_mem); (case hoY156 => (refine Mine.hn_mk ?_; k_ne)); (case haY156 => with_reducible assumption); (case hbY156 => with_reducible assumption); (case htY156 => exact ⟨Nat.le_of_ble_eq_true rfl, Nat.le_of_ble_eq_true rfl⟩); (case hvY156 => (repeat' (first | exact List.forall_mem_nil _ | (refine List.forall_mem_cons.mpr ⟨Or.inl rfl, ?_⟩) | (refine List.forall_mem_cons.mpr ⟨Or.inr ⟨_, _, rfl, ?_, ?_⟩, ?_⟩) | omega | (split <;> omega)))); (case UY156 => (intro a1'Z ta1'Z b1'Z tb1'Z n1'Z; k_upd))); intro v'Z a1'Z ta1'Z b1'Z tb1'Z n1'Z h'Z tk'Z hv'Z ha1'Z hb1'Z F'Z N'Z; (try dsimp only at N'Z); (try dsimp only); (try k_fold)))
  (k_with "x17 call ref" => (k_here; (with_reducible show wpAny _ _ (call (Value.ref 412) _) _ _ _); k_dflt (refine' Mine.at_room ?h1Y157 ?h2Y157 ?h3Y157 ?h5Y157 (Mine.one_num ?BY157 ?FY157 ?XY157 ?NY157 ?TY157 ?hkY157 ?hsY157 ?hthY157 ?hoY157 ?haY157 ?hbY157 ?htY157 ?hvY157 ?UY157 ?_); (case h1Y157 => exact rfl); (case h3Y157 => exact rfl); (case h2Y157 => exact Nat.le_of_ble_eq_true rfl); (case h5Y157 => exact Nat.le_of_ble_eq_true rfl); (case BY157 => k_asm); (case FY157 => k_asm); (case XY157 => k_asm); (case NY157 => k_asm); (case TY157 => k_asm); (case hkY157 => first | exact rfl | assumption); (case hsY157 => k_mem); (case hthY157 => k_mem); (case hoY157 => (refine Mine.hn_mk ?_; k_ne)); (case haY157 => with_reducible assumption); (case hbY157 => with_reducible assumption); (case htY157 => exact ⟨Nat.le_of_ble_eq_true rfl, Nat.le_of_ble_eq_true rfl⟩); (case hvY157 => (repeat' (first | exact List.forall_mem_nil _ | (refine List.forall_mem_cons.mpr ⟨⟨_, _, rfl, ?_, ?_⟩, ?_⟩) | decide))); (case UY157 => (intro a1'Z ta1'Z b1'Z tb1'Z n1'Z; k_upd))); intro z'Z t'Z a1'Z ta1'Z b1'Z tb1'Z n1'Z h'Z tk'Z hz'Z ha1'Z hb1'Z F'Z N'Z; (try dsimp only at N'Z); (try dsimp only); (try k_fold)))
  (k_with "x17 call ref" => (k_here; (with_reducible show wpAny _ _ (call (Value.ref 412) _) _ _ _); k_dflt (refine' Mine.at_room ?h1Y158 ?h2Y158 ?h3Y158 ?h5Y158 (Mine.one_word ?BY158 ?FY158 ?XY158 ?NY158 ?TY158 ?hkY158 ?hsY158 ?hthY158 ?hoY158 ?haY158 ?hbY158 ?htY158 ?hvY158 ?UY158 ?_); (case h1Y158 => exact rfl); (case h3Y158 => exact rfl); (case h2Y158 => exact Nat.le_of_ble_eq_true rfl); (case h5Y158 => exact Nat.le_of_ble_eq_true rfl); (case BY158 => k_asm); (case FY158 => k_asm); (case XY158 => k_asm); (case NY158 => k_asm); (case TY158 => k_asm); (case hkY158 => first | exact rfl | assumption); (case hsY158 => k_mem); (case hthY158 => k_mem); (case hoY158 => (refine Mine.hn_mk ?_; k_ne)); (case haY158 => with_reducible assumption); (case hbY158 => with_reducible assumption); (case htY158 => exact ⟨Nat.le_of_ble_eq_true rfl, Nat.le_of_ble_eq_true rfl⟩); (case hvY158 => exact Mine.words_ok); (case UY158 => (intro a1'Z ta1'Z b1'Z tb1'Z n1'Z; k_upd))); intro wd'Z t'Z P'Z H'Z R'Z a1'Z ta1'Z b1'Z tb1'Z n1'Z h'Z tk'Z hrow'Z ha1'Z hb1'Z F'Z N'Z; (try dsimp only at N'Z); (try dsimp only); (try k_fold)))
  (k_with "x17 call ref" => (k_here; (with_reducible show wpAny _ _ (call (Value.ref 433) _) _ _ _); k_dflt (refine' Mine.at_room ?h1Y159 ?h2Y159 ?h3Y159 ?h5Y159 (Mine.odd_c ?BY159 ?FY159 ?XY159 ?NY159 ?TY159 ?hkY159 ?hrowY159 ?hnY159 ?_); (case h1Y159 => exact rfl); (case h3Y159 => exact rfl); (case h2Y159 => exact Nat.le_of_ble_eq_true rfl); (case h5Y159 => exact Nat.le_of_ble_eq_true rfl); (case BY159 => k_asm); (case FY159 => k_asm); (case XY159 => k_asm); (case NY159 => k_asm); (case TY159 => k_asm); (case hkY159 => first | exact rfl | assumption); (case hrowY159 => first | with_reducible assumption | first | exact Mine.row_grid | exact Mine.row_half | exact Mine.row_double | exact Mine.row_down | exact Mine.row_up | exact Mine.row_off); (case hnY159 => first | decide | omega)); intro h'Z tk'Z F'Z N'Z; (try dsimp only at N'Z); (try dsimp only); (try k_fold)))
  (k_with "x17 call ref" => (k_here; (with_reducible show wpAny _ _ (call (Value.ref 398) _) _ _ _); k_dflt (refine' Mine.at_room ?h1Y160 ?h2Y160 ?h3Y160 ?h5Y160 (Mine.pool_c ?BY160 ?FY160 ?XY160 ?NY160 ?TY160 ?hkY160 ?hscY160 ?hiY160 ?hlenY160 ?_); (case h1Y160 => exact rfl); (case h3Y160 => exact rfl); (case h2Y160 => exact Nat.le_of_ble_eq_true rfl); (case h5Y160 => exact Nat.le_of_ble_eq_true rfl); (case BY160 => k_asm); (case FY160 => k_asm); (case XY160 => k_asm); (case NY160 => k_asm); (case TY160 => k_asm); (case hkY160 => first | exact rfl | assumption); (case hscY160 => with_reducible assumption); (case hiY160 => with_reducible assumption); (case hlenY160 => with_reducible assumption)); intro l'Z a'Z b'Z ta'Z tb'Z n'Z h'Z tk'Z ha'Z hb'Z F'Z N'Z l1'Z; (k_lt l1'Z); (try dsimp only at N'Z); (try dsimp only); (try k_fold)))
  (k_with "x17 call ref" => (k_here; (with_reducible show wpAny _ _ (call (Value.ref 440) _) _ _ _); k_dflt (refine' Mine.at_room ?h1Y161 ?h2Y161 ?h3Y161 ?h5Y161 (Mine.cnt_first ?BY161 ?FY161 ?XY161 ?NY161 ?TY161 ?hkY161 ?hcbY161 ?hmY161 ?XBY161 ?TBY161 ?CY161 ?U9Y161 ?hPY161 ?hzY161 ?hz5Y161 ?_); (case h1Y161 => exact rfl); (case h3Y161 => exact rfl); (case h2Y161 => exact Nat.le_of_ble_eq_true rfl); (case h5Y161 => exact Nat.le_of_ble_eq_true rfl); (case BY161 => k_asm); (case FY161 => k_asm); (case XY161 => k_asm); (case NY161 => k_asm); (case TY161 => k_asm); (case hkY161 => first | exact rfl | assumption); (case hcbY161 => first | exact Or.inl (Or.inl ⟨rfl, rfl⟩) | exact Or.inl (Or.inr (Or.inl ⟨rfl, rfl⟩)) | exact Or.inl (Or.inr (Or.inr ⟨rfl, rfl⟩)) | exact Or.inr (Or.inl ⟨rfl, rfl⟩) | exact Or.inr (Or.inr (Or.inl ⟨rfl, rfl⟩)) | exact Or.inr (Or.inr (Or.inr ⟨rfl, rfl⟩))); (case hmY161 => omega); (case XBY161 => with_reducible assumption); (case TBY161 => with_reducible assumption); (case CY161 => with_reducible assumption); (case U9Y161 => k_updF); (case hPY161 => k_mem); (case hzY161 => k_mem); (case hz5Y161 => (refine Mine.hn_mk ?_; k_ne))); intro c9'Z oc9'Z fs9'Z t9'Z h'Z tk'Z F'Z N'Z lz'Z e1'Z e2'Z; (k_lt lz'Z); (try dsimp only at N'Z); (try dsimp only); (try k_fold)))
  (k_with "x17 call ref" => (k_here; (with_reducible show wpAny _ _ (call (Value.ref 440) _) _ _ _); k_dflt (refine' Mine.at_room ?h1Y162 ?h2Y162 ?h3Y162 ?h5Y162 (Mine.cnt_next ?BY162 ?FY162 ?XY162 ?NY162 ?TY162 ?hkY162 ?hcbY162 ?hmY162 ?XBY162 ?TBY162 ?CY162 ?U9Y162 ?hPY162 ?hzY162 ?hz5Y162 ?e1Y162 ?e2Y162 ?_); (case h1Y162 => exact rfl); (case h3Y162 => exact rfl); (case h2Y162 => exact Nat.le_of_ble_eq_true rfl); (case h5Y162 => exact Nat.le_of_ble_eq_true rfl); (case BY162 => k_asm); (case FY162 => k_asm); (case XY162 => k_asm); (case NY162 => k_asm); (case TY162 => k_asm); (case hkY162 => first | exact rfl | assumption); (case hcbY162 => first | exact Or.inl (Or.inl ⟨rfl, rfl⟩) | exact Or.inl (Or.inr (Or.inl ⟨rfl, rfl⟩)) | exact Or.inl (Or.inr (Or.inr ⟨rfl, rfl⟩)) | exact Or.inr (Or.inl ⟨rfl, rfl⟩) | exact Or.inr (Or.inr (Or.inl ⟨rfl, rfl⟩)) | exact Or.inr (Or.inr (Or.inr ⟨rfl, rfl⟩))); (case hmY162 => omega); (case hPY162 => k_mem); (case XBY162 => with_reducible assumption); (case TBY162 => with_reducible assumption); (case CY162 => with_reducible assumption); (case U9Y162 => k_updF); (case hzY162 => k_mem); (case hz5Y162 => (refine Mine.hn_mk ?_; k_ne)); (case e1Y162 => with_reducible assumption); (case e2Y162 => with_reducible assumption)); intro h'Z tk'Z F'Z N'Z; (try dsimp only at N'Z); (try dsimp only); (try k_fold)))
  (k_with "x17 call ref" => (k_here; (with_reducible show wpAny _ _ (call (Value.ref 445) _) _ _ _); k_dflt (refine' Mine.at_room ?h1Y163 ?h2Y163 ?h3Y163 ?h5Y163 (Mine.zr_first ?BY163 ?FY163 ?XY163 ?NY163 ?TY163 ?hkY163 ?hm4Y163 ?helY163 ?hiY163 ?hvsY163 ?hvY163 ?XBY163 ?TBY163 ?CY163 ?U9Y163 ?hPY163 ?hzY163 ?hz5Y163 ?hezY163 ?he5Y163 ?_); (case h1Y163 => exact rfl); (case h3Y163 => exact rfl); (case h2Y163 => exact Nat.le_of_ble_eq_true rfl); (case h5Y163 => exact Nat.le_of_ble_eq_true rfl); (case BY163 => k_asm); (case FY163 => k_asm); (case XY163 => k_asm); (case NY163 => k_asm); (case TY163 => k_asm); (case hkY163 => first | exact rfl | assumption); (case hm4Y163 => omega); (case helY163 => k_mem); (case hiY163 => with_reducible assumption); (case hvsY163 => omega); (case hvY163 => with_reducible assumption); (case XBY163 => with_reducible assumption); (case TBY163 => with_reducible assumption); (case CY163 => with_reducible assumption); (case U9Y163 => k_updF); (case hPY163 => k_mem); (case hzY163 => k_mem); (case hz5Y163 => (refine Mine.hn_mk ?_; k_ne)); (case hezY163 => (refine Mine.hn_mk ?_; k_ne)); (case he5Y163 => (refine Mine.hn_mk ?_; k_ne))); intro c9'Z oc9'Z fs9'Z t9'Z h'Z tk'Z F'Z N'Z lz'Z e1'Z e2'Z; (k_lt lz'Z); (try dsimp only at N'Z); (try dsimp only); (try k_fold)))
  (k_with "x17 call ref" => (k_here; (with_reducible show wpAny _ _ (call (Value.ref 445) _) _ _ _); k_dflt (refine' Mine.at_room ?h1Y164 ?h2Y164 ?h3Y164 ?h5Y164 (Mine.zr_next ?BY164 ?FY164 ?XY164 ?NY164 ?TY164 ?hkY164 ?hm4Y164 ?helY164 ?hiY164 ?hvsY164 ?hvY164 ?XBY164 ?TBY164 ?CY164 ?U9Y164 ?hPY164 ?hzY164 ?hz5Y164 ?hezY164 ?he5Y164 ?e1Y164 ?e2Y164 ?_); (case h1Y164 => exact rfl); (case h3Y164 => exact rfl); (case h2Y164 => exact Nat.le_of_ble_eq_true rfl); (case h5Y164 => exact Nat.le_of_ble_eq_true rfl); (case BY164 => k_asm); (case FY164 => k_asm); (case XY164 => k_asm); (case NY164 => k_asm); (case TY164 => k_asm); (case hkY164 => first | exact rfl | assumption); (case hm4Y164 => omega); (case helY164 => k_mem); (case hiY164 => with_reducible assumption); (case hvsY164 => omega); (case hvY164 => with_reducible assumption); (case hPY164 => k_mem); (case XBY164 => with_reducible assumption); (case TBY164 => with_reducible assumption); (case CY164 => with_reducible assumption); (case U9Y164 => k_updF); (case hzY164 => k_mem); (case hz5Y164 => (refine Mine.hn_mk ?_; k_ne)); (case hezY164 => (refine Mine.hn_mk ?_; k_ne)); (case he5Y164 => (refine Mine.hn_mk ?_; k_ne)); (case e1Y164 => with_reducible assumption); (case e2Y164 => with_reducible assumption)); intro h'Z tk'Z F'Z N'Z; (try dsimp only at N'Z); (try dsimp only); (try k_fold)))
  (k_with "x17 eval IfExp" => (k_here; (fail_if_success (with_reducible show wpAny _ _ _ (Mine.IfEnd _ _ _ _ _ _) _ _)); k_dflt (refine' Mine.cut_if 2147483648 ?FY165 ?NY165 ?hsY165 ?UY165 ?_ ?_; (case FY165 => k_asm); (case NY165 => k_asm); (case hsY165 => k_mem); (case UY165 => k_updF); rotate_left 1; (intro z'Z t'Z a1'Z ta1'Z b1'Z tb1'Z n1'Z h'Z tk'Z hz'Z ha1'Z hb1'Z F'Z N'Z; (try dsimp only at N'Z); (try dsimp only)); rotate_left 1)))
  (k_with "x17 eval IfExp Compare Name BinOp" => (k_here; (fail_if_success (with_reducible show wpAny _ _ _ (Mine.IfEnd _ _ _ _ _ _) _ _)); k_dflt (refine' Mine.cut_if 2147483648 ?FY166 ?NY166 ?hsY166 ?UY166 ?_ ?_; (case FY166 => k_asm); (case NY166 => k_asm); (case hsY166 => k_mem); (case UY166 => k_updF); rotate_left 1; (intro z'Z t'Z a1'Z ta1'Z b1'Z tb1'Z n1'Z h'Z tk'Z hz'Z ha1'Z hb1'Z F'Z N'Z; (try dsimp only at N'Z); (try dsimp only)); rotate_left 1)))
  (k_with "x17 IfEnd" => (k_dflt (refine' Mine.IfEnd.intro ?FY167 ?NY167 ?haY167 ?hbY167 ?hzY167; (case FY167 => k_asm); (case NY167 => with_reducible assumption); (case haY167 => with_reducible assumption); (case hbY167 => with_reducible assumption); (case hzY167 => omega))))
  (k_with "x17 eval ListComp" => (k_here; (with_reducible show wpAny _ _ (eval (Expr.ListComp _ [⟨_, _, [], _⟩] _ _) _) _ _ _); k_dflt (refine LCg.ListComp_U (F₀ := by k_asm) (by with_unfolding_all rfl) (by decide) (by rfl) (by decide) (by rfl) ?_)))
  (k_with "x17 eval ListComp BinOp cons" => (k_here; (with_reducible show wpAny _ _ (eval (Expr.ListComp _ [⟨_, _, [], _⟩] _ _) _) _ _ _); k_dflt (refine LCg.ListComp_U (F₀ := by k_asm) (by with_unfolding_all rfl) (by decide) (by rfl) (by decide) (by rfl) ?_)))
  (k_with "x17 CompSrc" => (k_here; k_dflt (refine' LCg.CompSrc.range ?hhY169 ?FY169 ?NY169 ?hrY169 ?hsmY169 ?hnY169 ?hszY169 ?_; (case hrY169 => with_reducible assumption); (case hhY169 => rfl); (case FY169 => k_asm); (case NY169 => k_asm); (case hsmY169 => exact small_one (by decide) (by decide) (by omega) (by omega)); (case hnY169 => exact rangeSize_nat _ _); (case hszY169 => exact Mine.room8 (by omega)); intro g9Z; refine' Mine.take_rest ?hsY169 ?UY169 ?haY169 ?hbY169 (fun a1'Z ta1'Z b1'Z tb1'Z n1'Z I'Z oI'Z C'Z oC'Z D'Z m'Z ys'Z h'Z tk'Z E'Z ha1'Z hb1'Z hC'Z F'Z N'Z off'Z ne'Z => ?_) (fun ys'Z ks'Z a1'Z ta1'Z b1'Z tb1'Z n1'Z hk'Z hl'Z ha1'Z hb1'Z => ?_); (case hsY169 => k_mem); (case UY169 => k_updF); (case haY169 => with_reducible assumption); (case hbY169 => with_reducible assumption)); (all_goals ((first | ((try dsimp only at off'Z); (have of1'Z := Mine.raw3_1 off'Z; have of2'Z := Mine.raw3_2 off'Z; have of3'Z := Mine.raw3_3 off'Z; (k_lt of1'Z); (k_lt of2'Z); (k_lt of3'Z); clear off'Z); (replace ne'Z := Mine.hn3 ne'Z); (obtain ⟨_, _, _⟩ := ne'Z)) | skip); (try dsimp only)))))
  (k_with "x17 CompEnd" => (k_dflt (refine' Mine.cend_take ?FY170 ?NY170 ?subY170 ?offY170 ?srcY170 ?haY170 ?hbY170; (case FY170 => k_asm); (case NY170 => k_asm); (case subY170 => ((try dsimp only); lcg_sub)); (case haY170 => with_reducible assumption); (case hbY170 => with_reducible assumption); (case offY170 => ((try dsimp only); lcg_off)); (case srcY170 => exact True.intro))))
  (k_with "x17 pyIter ref" => ((with_reducible show wpAny _ _ (pyIter (Value.ref _)) (fun itZ s₂Z => LoopAtV _ _ _ _ _ _ [_, _] _ _ itZ s₂Z) _ _); (refine' Mine.pool_turns (n := 6) (Str.ofString "number") ?hLY171 ?hhY171 ?hrY171 ?hsmY171 ?hnY171 ?FY171 ?NY171 ?hsY171 ?UY171 ?haY171 ?hbY171 (fun k'Z t'Z u'Z a'Z ta'Z b'Z tb'Z n'Z I'Z o'Z h'Z tk'Z l'Z ha'Z hb'Z F'Z N'Z => ?_) (fun u1'Z u2'Z a'Z ta'Z b'Z tb'Z n'Z h'Z tk'Z ha'Z hb'Z F'Z N'Z => ?_); (case hrY171 => with_reducible assumption); (case hhY171 => exact rfl); (case hsmY171 => exact small_one (by decide) (by decide) (by omega) (by omega)); (case hnY171 => first | decide | exact rfl); (case FY171 => k_asm); (case NY171 => k_asm); (case hLY171 => with_unfolding_all exact rfl); (case hsY171 => k_mem); (case UY171 => k_updF); (case haY171 => with_reducible assumption); (case hbY171 => with_reducible assumption)); (all_goals ((first | ((k_lt l'Z)) | skip); (try dsimp only at F'Z N'Z); (try dsimp only)))))
  (k_with "x17 PoolPost" => (dsimp only [Mine.PoolPost]))
  (k_with "x17 PoolEnd" => (k_dflt (refine' Mine.PoolEnd.intro ?FY173 ?NY173 ?hnY173 ?haY173 ?hbY173 ?hmY173; (case FY173 => k_asm); (case NY173 => k_asm); (case hnY173 => ((try dsimp only); lcg_sub)); (case haY173 => with_reducible assumption); (case hbY173 => with_reducible assumption); (case hmY173 => (intro z'Z h1'Z h2'Z; (try dsimp (config := {zetaDelta := true}) only); simp only [if_neg h1'Z, if_neg h2'Z])))))
  (k_with "x17 call type:tuple" => (k_here; (with_reducible show wpAny _ _ (call (Value.type _) [Value.ref _]) _ _ _); k_dflt (refine' kde_tupleOf ?k1Y174 ?k2Y174 ?k3Y174 ?k4Y174 ?k5Y174 ?_; (case k1Y174 => k_asm); (case k2Y174 => k_asm); (case k3Y174 => exact News.isList (by k_asm) (by k_mem)); (case k5Y174 => exact rfl); (case k4Y174 => (simp only [List.size_toArray]; omega))); intro D'Z h'Z F'Z N'Z l1Z; (try k_lt l1Z); (try k_sweep)))
  trivial
section
local macro_rules | `(tactic| walk_at $s:str) => do let t := Lean.Syntax.mkStrLit ("x17 " ++ s.getString); `(tactic| k_extra $t)
local macro_rules | `(tactic| walk_at $s:str) => do let t := Lean.Syntax.mkStrLit ("x17 " ++ s.getString); `(tactic| k_extra $t)

section
open PySem PySem.W PyProof.Rows
set_option maxHeartbeats 8000000
namespace Mine
section
variable {w : World} {p : Program} {loose : List Str} {mean : ExcName → Option Value} {mg mb : Str → Option Value}
    {gd : Option (List Code)} {cn : Str} {cs : Scope} {a : Addr} {ccd : Value} {cl : List (Str × Addr)} {A₀ : Around} {base h₀ : Heap} {L : Addr} {m : Str → Option Value} {news : List (Addr × Obj)} {s : Shared} {Q E : Value → Shared → Prop}
    (B : Below A₀ base [] h₀) (F : Fr h₀ L s.heap m) (X : (Mine.hd.heap_1 w.params).In h₀) (N : News h₀ L s.heap news) (T : Top p loose mean mg mb h₀) (hk : cs.kind = .function)
include B F X N T hk
theorem law_c {sc : Addr} {vs : List Value} {ns : List Int} {ow : Obj} {vk : Option Value} {nm : Str} {pr : Arguments} {b1 : Stmt} {rest : List Stmt} {dV kV doc pm ct oc1 cd1 : Value} {an od1 : Option Addr} {osl : Array (Option Value)} {QF : Flow → Shared → Prop}
    (hl : (Mine.hd.heap_1 w.params).lookup 450 = some ⟨oc1, od1, .func (fnOf nm cn pr (b1 :: rest) cs dV kV doc pm an cd1 ct), osl⟩) (hcl : cl = cellsFrom (L + 1) cs.names [])
    (hsc : h₀.IsList sc vs.toArray) (hi : IntsAre vs ns) (hlen : ns.length ≤ 63) (hscr : m (Str.ofString "script") = some (.ref sc)) (N0 : News h₀ L s.heap [(L + 1, ow), (442, tabObj #[]), (435, tabObj #[])]) (dw : ow.data = .cell vk)
    (l2 : HL 442 L) (l3 : HL 435 L) (XB : (Mine.hd.heap_1 w.params).In base) (TB : Top p loose mean mg mb base) (C1 : CodeHd base 439 435) (C2 : CodeHd base 444 442)
    (hret : ∀ m' ps1 ps2 h' tk', Fr h₀ L h' m' → News h₀ L h' [(442, tabObj ps1), (435, tabObj ps2)] → QF (.ret (.bool true)) { s with heap := h', toks := tk' }) :
    wpAny (model PG w) (ktrTop 400 1000 gd cn cs L a ccd cl []) (execs (b1 :: rest) (envOfC cn cs L a ccd)) QF (fun _ _ => False) s := by
  have hX : Mine.hd.heap_1 = Mine.hd.heap_1 ∧ PySem.Challenge.rw_qz0063_01 = PySem.Challenge.rw_qz0063_01 := by
    k_fill
    exact ⟨rfl, rfl⟩
  clear hX
  have F2 := fr_at F hscr
  clear F N hscr
  obtain ⟨e1, e2, e3⟩ := fn_inj1 (hl.symm.trans (by k_is))
  subst hcl
  subst e1
  subst e2
  obtain ⟨e4, e5⟩ := List.cons.inj e3
  subst e4
  subst e5
  clear hl e3
  k_steps
  all_goals (try with_reducible assumption)
  all_goals (try omega)
  all_goals (try dsimp only)
  · (rename Fr _ _ _ _ => lF)
    (rename News _ _ _ _ => lN)
    have lN2 : News h₀ L _ [(442, _), (435, _)] := cb_drop lN (List.forall_mem_cons.mpr ⟨by k_mem, List.forall_mem_cons.mpr ⟨by k_mem, List.forall_mem_nil _⟩⟩)
    exact hret _ _ _ _ _ lF lN2
end
end Mine
end

end

end

theorem Mine.reg_none : True := by
  k_with_none
  trivial

open PySem PySem.W PyProof.Rows
local macro_rules | `(tactic| k_qdec) => `(tactic| decide +kernel)
set_option maxHeartbeats 8000000 in
theorem PySem.Challenge.cw_qz0063_01_holds : PySem.Challenge.rw_qz0063_01.Holds :=
  Mine.hd (by
  k_go0
  (all_goals try k_fold)
  dsimp only
  refine' wpAny_mono (Mine.at_room ?h1 ?h2 ?h3 ?h5 (Mine.law_c ?B ?F ?X ?N ?T ?hk ?hl rfl ?hsc ?hi ?hlen ?hscr ?N0 ?dw ?l2 ?l3 ?XB ?TB ?C1 ?C2 ?hret)) (fun _ _ h => h) (fun _ _ h => h.elim)
  case h1 => exact rfl
  case h3 => exact rfl
  case h2 => ((try simp only [depth_under_make, depth_under_kw, depth_in1, depth_deeper, depth_caller, units_in1, units_deeper, Around.mark_units, units_caller]); exact Nat.le_of_ble_eq_true rfl)
  case h5 => ((try simp only [depth_under_make, depth_under_kw, depth_in1, depth_deeper, depth_caller, units_in1, units_deeper, Around.mark_units, units_caller]); exact Nat.le_of_ble_eq_true rfl)
  case B => assumption
  case F => assumption
  case X => assumption
  case N => assumption
  case T => assumption
  case hk => exact rfl
  case hl => k_is
  case hsc => assumption
  case hi => assumption
  case hlen => omega
  case hscr => exact rfl
  case N0 => assumption
  case dw => assumption
  case l2 => (rename (442 < _ ∧ _) => l0; exact l0.1)
  case l3 => (rename (442 < _ ∧ _) => l0; exact l0.2)
  case XB => assumption
  case TB => assumption
  case C1 => assumption
  case C2 => assumption
  case hret =>
    intro m' ps1 ps2 h' tk' F' N'
    k_steps)
