import PyProof.Rows.All
import Wide.All
import OpenK.AllK
import Wide.FinOn
import Lean
import PySem.Challenge.RW_xm0940_01
open PySem PySem.W PyProof.Rows PySem.Calls
set_option Elab.async false
set_option maxRecDepth 100000
set_option maxHeartbeats 8000000
namespace Mine
/-- the top's run over a tree of objects, in the words that the library has made for the kernel -/
noncomputable def goT (tb : String → Option Builtin) (p : Program) (w : World) (n₀ : Nat) (ann : Option Value) : Nat → SharedT → Thread → Option SharedT
  | 0, _, _ => none
  | n + 1, s, t => match through t with
    | true => some s
    | false => match Fast.tw6613529449190102663 n₀ ann t with
      | false => none
      | true => match Fast.tw10156331382660048174 (Fast.tw11892475500146522536 tb) p w s t with
        | some (s', t') => goT tb p w n₀ ann n s' t'
        | none => none
theorem goT_of {tb : String → Option Builtin} {p : Program} {w : World} {n₀ : Nat} {ann : Option Value} : ∀ {n : Nat} {s s' : SharedT} {t : Thread}, goT tb p w n₀ ann n s t = some s' → topRun tb p w n₀ ann n s.abs t = some s'.abs
  | 0, _, _, _, h => by cases h
  | n + 1, s, s', t, h => by
    unfold goT at h
    rw [← Fast.te6613529449190102663, ← Fast.te10156331382660048174, ← Fast.te11892475500146522536] at h
    unfold topRun
    cases ht : through t with
    | true => rw [ht] at h; cases h; rfl
    | false =>
      rw [ht] at h
      cases hk : stepOk n₀ ann t with
      | false => rw [hk] at h; cases h
      | true =>
        rw [hk] at h
        cases hs : stepT (denote tb) p w s t with
        | none => rw [hs] at h; cases h
        | some r => obtain ⟨s₂, t₂⟩ := r; rw [hs] at h; rw [stepT_spec hs]; exact goT_of h
noncomputable def bootT (P : Params) : BT :=
  .node (boot_o_0 P)
    (.node (boot_o_1 P) (.node (boot_o_3 P) (.node (boot_o_7 P) .nil .nil) .nil) (.node (boot_o_5 P) (.node (boot_o_9 P) .nil .nil) .nil))
    (.node (boot_o_2 P) (.node (boot_o_4 P) (.node (boot_o_8 P) .nil .nil) .nil) (.node (boot_o_6 P) (.node (boot_o_10 P) .nil .nil) .nil))
theorem bootT_abs (P : Params) : absHeap (bootT P) 11 {} = boot_heap P := by rfl
/-- the top's state at its start, as the library has proved it -/
noncomputable abbrev bootS (w : World) (os : OsState) : SharedT := ⟨bootT w.params, 11, {}, Array.mk [], boot_drawn, boot_toks, os⟩
def kept : List Stmt → List Nat → List Stmt
  | l, is => is.filterMap fun i => l[i]?
def view : Program := { PySem.Challenge.pw_xm0940_01 with main := { PySem.Challenge.pw_xm0940_01.main with body := kept PySem.Challenge.pw_xm0940_01.main.body ((List.range 63).filter fun i => !([0, 6, 19, 21, 25, 30, 49, 59].contains i)) } }
abbrev looseL : List Str := [Str.ofString "SnobolError", Str.ofString "plain_count"]
noncomputable abbrev topG (w : World) (os : OsState) : Option SharedT := goT Fast.tw14364793385576792824 PySem.Challenge.pw_xm0940_01 w 11 (some (.ref 6)) 6074 (bootS w os) (topStub PySem.Challenge.pw_xm0940_01)
noncomputable abbrev seenT (s : SharedT) := openSeen view [Str.ofString "SnobolError", Str.ofString "plain_count"] (importedModules PySem.Challenge.pw_xm0940_01.main.body) (fun s => xlAt view [] s && recOk (RowW.records (OpenRow.toRowW PySem.Challenge.rw_xm0940_01.row)) s) true s.abs
theorem opened : ∀ w : World, (fencedOpening treeTable PySem.Challenge.pw_xm0940_01 w 6074).map (fun s => (s.heap, s.gens, s.drawn, s.toks)) = some (boot_heap w.params, Array.mk [], boot_drawn, boot_toks) :=
  boot_open (by rfl) (by decide) (fun s => by rfl)
theorem sized : ∀ w : World, ((boot_heap w.params).isNs mainGlobals, (boot_heap w.params).objs.size, (boot_heap w.params).nsMap mainGlobals "__annotations__") = (true, 11, some (.ref 6)) := by
  intro w; kernel_rfl!
theorem runA : ∀ (w : World) (os : OsState), (topG w os).map (fun s =>
      (staticsOk (importedModules PySem.Challenge.pw_xm0940_01.main.body) (boot_heap w.params) s.abs.heap && namesBound PySem.Challenge.pw_xm0940_01 s.abs.heap && gensDone s.abs && laidKept (boot_heap w.params) s.abs.heap,
       (seenT s).1, (seenT s).2.1)) = some (true, expectedOf view, bltViewBooted) := by
  intro w os
  dsimp only [seenT]
  rw [Fast.te4187177175401517315, Fast.te5923862056798008813]
  kernel_rfl
theorem runC : ∀ (w : World) (os : OsState), (topG w os).map (fun s => ((seenT s).2.2.1, (seenT s).2.2.2.1)) = some (true, true) := by
  intro w os
  dsimp only [seenT]
  rw [Fast.te4187177175401517315, Fast.te5923862056798008813]
  kernel_rfl
theorem runB : ∀ (w : World) (os : OsState), (topG w os).map (fun s => ((seenT s).2.2.2.2.1, (seenT s).2.2.2.2.2.1, (seenT s).2.2.2.2.2.2.1, (seenT s).2.2.2.2.2.2.2.1, (seenT s).2.2.2.2.2.2.2.2)) =
      some (pinGoodD (drecsOf view), plainGoodE view (looseW view [Str.ofString "SnobolError", Str.ofString "plain_count"]), plainGoodD view [Str.ofString "SnobolError", Str.ofString "plain_count"], wideGood view, clsGoodW view [Str.ofString "SnobolError", Str.ofString "plain_count"]) := by
  intro w os
  dsimp only [seenT]
  rw [Fast.te4187177175401517315, Fast.te5923862056798008813]
  kernel_rfl
theorem nine {α β γ δ ε ζ η θ ι : Type} {p : α × β × γ × δ × ε × ζ × η × θ × ι} {a : α} {b : β} {c : γ} {d : δ} {e : ε} {f : ζ} {g : η} {h : θ} {i : ι}
    (h1 : p.1 = a) (h2 : p.2.1 = b) (h3 : p.2.2.1 = c) (h4 : p.2.2.2.1 = d) (h5 : p.2.2.2.2.1 = e) (h6 : p.2.2.2.2.2.1 = f) (h7 : p.2.2.2.2.2.2.1 = g) (h8 : p.2.2.2.2.2.2.2.1 = h) (h9 : p.2.2.2.2.2.2.2.2 = i) : p = (a, b, c, d, e, f, g, h, i) := by
  subst h1 h2 h3 h4 h5 h6 h7 h8 h9; rfl
theorem left_gen {p q : Program} {loose : List Str} {Xt : Shared → Bool} {α : Type} {Yf : Shared → α} {Ya : World → α} {N m₀ : Nat} {ann : Option Value}
    (open_ : ∀ w : World, (fencedOpening treeTable p w N).map (fun s => (s.heap, s.gens, s.drawn, s.toks)) = some (boot_heap w.params, Array.mk [], boot_drawn, boot_toks))
    (size : ∀ w : World, ((boot_heap w.params).isNs mainGlobals, (boot_heap w.params).objs.size, (boot_heap w.params).nsMap mainGlobals "__annotations__") = (true, m₀, ann))
    (run : ∀ (w : World) (os : OsState), ∃ s, topRun treeTable p w m₀ ann N ⟨boot_heap w.params, Array.mk [], boot_drawn, boot_toks, os⟩ (topStub p) = some s ∧
      (staticsOk (importedModules p.main.body) (boot_heap w.params) s.heap && namesBound p s.heap && gensDone s && laidKept (boot_heap w.params) s.heap) = true ∧
      openSeen q loose (importedModules p.main.body) Xt true s = openGood q loose ∧ Yf s = Ya w) :
    LeftO p q loose Xt Yf Ya N true := fun w => by
  obtain ⟨⟨h, gs, d, k, os⟩, e, e'⟩ := Option.map_eq_some_iff.mp (open_ w)
  obtain ⟨rfl, rfl, rfl, rfl⟩ : h = boot_heap w.params ∧ gs = Array.mk [] ∧ d = boot_drawn ∧ k = boot_toks := by simpa using e'
  obtain ⟨z1, z2, z3⟩ : _ ∧ _ ∧ _ := by simpa only [Prod.mk.injEq] using size w
  obtain ⟨s, r, l1, l2, l3⟩ := run w os
  unfold openEnds
  rw [e]
  show (topFrom treeTable p w N _).map _ = _
  unfold topFrom
  dsimp only
  rw [z1, z2, z3, r]
  show Option.map _ (match staticsOk (importedModules p.main.body) (boot_heap w.params) s.heap && namesBound p s.heap && gensDone s && laidKept (boot_heap w.params) s.heap with | true => some s | false => none) = _
  rw [l1]
  exact congrArg some (looks_pair l2 l3)
theorem left_of_boot {α : Type} {Yf : Shared → α} {Ya : World → α} (run2 : ∀ (w : World) (os : OsState), (topG w os).map (fun s => Yf s.abs) = some (Ya w)) :
    LeftO PySem.Challenge.pw_xm0940_01 view [Str.ofString "SnobolError", Str.ofString "plain_count"] (fun s => xlAt view [] s && recOk (RowW.records (OpenRow.toRowW PySem.Challenge.rw_xm0940_01.row)) s) Yf Ya 6074 true := by
  refine left_gen opened sized fun w os => ?_
  obtain ⟨s, r, l⟩ := Option.map_eq_some_iff.mp (runA w os)
  obtain ⟨l1, a1, a2⟩ : _ ∧ _ ∧ _ := by simpa only [Prod.mk.injEq] using l
  have l := runC w os
  rw [r] at l
  obtain ⟨a3, a4⟩ : _ ∧ _ := by simpa only [Prod.mk.injEq] using Option.some.inj l
  have l := runB w os
  rw [r] at l
  obtain ⟨a5, a6, a7, a8, a9⟩ : _ ∧ _ ∧ _ ∧ _ ∧ _ := by simpa only [Prod.mk.injEq] using Option.some.inj l
  have l3 := run2 w os
  rw [r] at l3
  have r := goT_of r
  rw [← Fast.te14364793385576792824] at r
  have rb : (bootS w os).abs = ⟨boot_heap w.params, Array.mk [], boot_drawn, boot_toks, os⟩ := congrArg (fun h => (⟨h, Array.mk [], boot_drawn, boot_toks, os⟩ : Shared)) (bootT_abs w.params)
  rw [rb] at r
  exact ⟨s.abs, r, l1, nine a1 a2 a3 a4 a5 a6 a7 a8 a9, Option.some.inj l3⟩
theorem said : PySem.Challenge.rw_xm0940_01.wellSaid = true := by
  rw [Fast.te9446332074065402090]
  kernel_rfl
local macro_rules | `(tactic| o_law) => `(tactic| refine holds_law said fun said => ?_)
local macro_rules | `(tactic| o_head $H) => `(tactic| (
  refine holds_open (q := view) (loose := [Str.ofString "SnobolError", Str.ofString "plain_count"]) (Xt := fun s => xlAt view [] s && recOk (RowW.records (OpenRow.toRowW PySem.Challenge.rw_xm0940_01.row)) s) (XP := XL view []) (Yf := Hook.obs $H) (Ya := Hook.val $H) (YP := Hook.says $H) (N := 6074) ?hl (Hook.of $H) (Hook.keeps $H) (fun s e => xl_of s (Bool.and_eq_true_iff.mp e).1) XL.keeps (by rfl) (by rfl) (by rfl) (fun s e => recFacts_of (Bool.and_eq_true_iff.mp e).2) (by rfl) (by first | assumption | decide +kernel) (by decide +kernel) ⟨rfl, rfl, rfl, rfl, rfl, by decide +kernel⟩ ?hw ?hc
  (case hl =>
    refine left_of_boot ?_
    intro w os
    kernel_rfl)))
open_top hd for PySem.Challenge.rw_xm0940_01
-- open_top leaves the lines of the top on: the contracts are walked without them
theorem top_off : True := by
  w_top off
  trivial
-- my own lines are rows of k_with, asked ahead of the library's
local macro_rules | `(tactic| walk_at $s:str) => `(tactic| k_extra $s)
abbrev Led := List (Addr × Obj)
/-- a call's contract over a ledger -/
abbrev CT (w : World) (f : Addr) (vs : List Value) (need : Nat) (news : Led) (Post : Value → Led → Prop) : Prop :=
  ∀ (dp un : Nat) (gd : Option (List Code)) (cn : Str) (cs : Scope) (a : Addr) (ccd : Value) (cl : List (Str × Addr)) (outer : List Env) (A₀ : Around) (base h₀ : Heap) (L : Addr) (m : Str → Option Value) (s : Shared) (Q E : Value → Shared → Prop)
    (p : Program) (loose : List Str) (mean : ExcName → Option Value) (mg mb : Str → Option Value),
    Below A₀ base outer h₀ → Fr h₀ L s.heap m → (hd.heap_1 w.params).In h₀ → News h₀ L s.heap news → Top p loose mean mg mb h₀ → cs.kind = .function →
    dp + need < recursionLimit → un + 8 * need < cLine →
    (∀ v news' h' tk', Post v news' → Fr h₀ L h' m → News h₀ L h' news' → Q v { s with heap := h', toks := tk' }) →
    wpAny (model PySem.Challenge.rw_xm0940_01.row.prog w) (ktrTop dp un gd cn cs L a ccd cl outer) (call (.ref f) vs) Q E s
theorem room_ge {d dp n : Nat} (h : dp + n < recursionLimit) (e : d ≤ dp + n) : d < recursionLimit := Nat.lt_of_le_of_lt e h
theorem units_ge {d un n : Nat} (h : un + 8 * n < cLine) (e : d ≤ un + 8 * n) : d < cLine := Nat.lt_of_le_of_lt e h
local macro_rules | `(tactic| k_room) => `(tactic| k_extra "mine k_room")
theorem lines_1 : True := by
  (k_with "mine k_room" => ((refine room_ge (by with_reducible assumption) ?_; (try simp only [depth_mark, depth_under_make, depth_under_kw, depth_in1, depth_deeper, depth_caller]); (try dsimp only [ktrTop]); omega)))
  trivial
local macro_rules | `(tactic| k_units) => `(tactic| k_extra "mine k_units")
theorem lines_2 : True := by
  (k_with "mine k_units" => ((refine units_ge (by with_reducible assumption) ?_; (try simp only [units_in1, units_deeper, Around.mark_units, units_caller]); (try dsimp only [ktrTop]); omega)))
  trivial
local macro_rules | `(tactic| units_room) => `(tactic| k_extra "mine units_room")
theorem lines_3 : True := by
  (k_with "mine units_room" => ((refine units_ge (by with_reducible assumption) ?_; (try simp only [units_in1, units_deeper, Around.mark_units, units_caller]); (try dsimp only [ktrTop]); omega)))
  trivial
local macro_rules | `(tactic| k_mem) => `(tactic| k_extra "mine k_mem")
theorem lines_4 : True := by
  (k_with "mine k_mem" => (assumption))
  trivial
theorem lines_5 : True := by
  (k_with "callWith ref" => ((k_here; k_dflt (first
  | (refine' callWith_K ?k1 ?k2 ?_; (case k1 => k_asm); (case k2 => k_is); k_whole)
  | (refine' callWith_K0 ?k1 ?k2 ?_; (case k1 => k_in); (case k2 => k_is); k_whole; try dsimp only [List.nil_append, List.cons_append])))))
  trivial
theorem lines_6 : True := by
  (k_with "subscriptTail Name Constant ref int" => ((k_here; (with_reducible show wpAny _ _ (subscriptTail _ _ (Value.ref _) (Value.int _ _)) _ _ _); k_dflt (refine' item_tupleT ?t ?a ?b ?c ?d ?_; (case t => exact News.isTup (by k_asm) (by k_mem)); (case a => decide); (case b => decide); (case c => rfl); (case d => rfl); k_whole))))
  trivial
theorem lines_7 : True := by
  (k_with "eval Name" => ((k_here; k_dflt (first
  | (refine' nameX_L ?F ?v ?_ ?a ?b; (case F => k_asm); (case a => rfl); (case b => rfl); (case v => rfl); k_whole)
  | (refine' nameX_K ?F ?X ?T ?e ?_ ?a ?b; (case F => k_asm); (case X => k_asm); (case T => k_asm); (case a => rfl); (case b => rfl); (case e => k_is); k_whole)))))
  trivial
theorem slice_nil {x : Str} {l u : Option Int} (h : Builtin.Str.strSliceIndices l u 1 x.length = []) : Txt.slice x l u = Str.empty := by
  unfold Txt.slice
  rw [h]
  split
  · rename_i hc
    simp at hc
    exact KWd.len0 hc.symm
  · rfl
theorem slice_pre (x : Str) : Txt.slice x none (some 0) = Str.empty := by
  refine slice_nil ?_
  unfold Builtin.Str.strSliceIndices sliceRange
  simp
  omega
theorem slice_post (x : Str) : Txt.slice x (some x.length) none = Str.empty := by
  refine slice_nil ?_
  unfold Builtin.Str.strSliceIndices sliceRange
  simp
  omega
theorem empty_both (x : Str) : Str.empty ++ x ++ Str.empty = x := Str.ext' (by rw [Str.cps_append, Str.cps_append]; simp [Str.empty])
theorem cut_one {x : Str} (h : 0 < x.length) : Txt.slice x (some 0) (some 1) = ⟨#[x.cps.getD 0 0]⟩ := by
  have hn : 0 < x.cps.size := h
  have e0 : Builtin.Str.strSliceIndices (some 0) (some 1) 1 x.length = [0] := by
    unfold Builtin.Str.strSliceIndices sliceRange
    have e1 : max (0 : Int) (min 1 (x.length : Int)) = 1 := by omega
    have e2 : max (0 : Int) (min 0 (x.length : Int)) = 0 := by omega
    simp [e1, e2]
  unfold Txt.slice
  rw [e0]
  split
  · rename_i hc
    simp at hc
    have hs : x.cps.size = 1 := hc.symm
    refine Str.ext' ?_
    apply Array.ext
    · simp [hs]
    · intro i h1 h2
      have : i = 0 := by omega
      subst this
      simp [Array.getD, hn]
  · simp [Array.getD, hn]
def okA (x : Str) : Prop := 0 < (x.length : Int) ∧ (Builtin.Str.occurrences (Str.ofString "abc") (Txt.item x 0) 0 (Str.ofString "abc").length 1).isEmpty = false
theorem okA_one {x : Str} (h : okA x) : Txt.slice x (some 0) (some 1) = Str.ofString "a" ∨ Txt.slice x (some 0) (some 1) = Str.ofString "b" ∨ Txt.slice x (some 0) (some 1) = Str.ofString "c" := by
  have hn : 0 < x.length := by have := h.1; omega
  have hz : 0 < x.cps.size := hn
  have hi : Txt.item x 0 = ⟨#[x.cps.getD 0 0]⟩ := by
    unfold Txt.item Txt.charAt seqIndex?
    simp [hn, hz, Array.getD]
  have h2 := h.2
  rw [hi] at h2
  have h3 := StrLaws.found_one (Str.ofString "abc") (x.cps.getD 0 0)
  rw [h2] at h3
  have h4 : x.cps.getD 0 0 ∈ (Str.ofString "abc").cps.toList := by simpa using h3.symm
  rw [cut_one hn]
  generalize x.cps.getD 0 0 = c at h4
  have e : (Str.ofString "abc").cps.toList = [97, 98, 99] := by decide +kernel
  rw [e] at h4
  simp only [List.mem_cons, List.not_mem_nil, or_false] at h4
  rcases h4 with rfl | rfl | rfl
  · exact .inl (by decide +kernel)
  · exact .inr (.inl (by decide +kernel))
  · exact .inr (.inr (by decide +kernel))
abbrev tupO (vs : List Value) : Obj := { cls := .type "tuple", data := .seq vs.toArray }
abbrev ent (w : World) (n : String) (t : Tok) (v : Value) : DictEntry := { hash := PyData.keyHash w.params (Str.ofString n), key := .str (Str.ofString n) t, val := v }
abbrev refD (w : World) (key : String) (a b c d e : Tok) : Obj := dictOf [ent w "kind" a (.str (Str.ofString "var") b), ent w "owner" c .none, ent w "key" d (.str (Str.ofString key) e)] 3
abbrev hostD (w : World) (dv rl lg : Addr) (n : Int) (a b c d e f g h i : Tok) : Obj :=
  dictOf [ent w "values" a (.ref dv), ent w "limit" b (.int 9999 c), ent w "refused" d (.ref rl), ent w "width" e (.int 64 f), ent w "steps" g (.int n h), ent w "log" i (.ref lg)] 6

/-- the ledger with d's entry turned -/
def setL (d : Addr) (o' : Obj) : Led → Led
  | [] => []
  | p :: r => if p.1 = d then (d, o') :: r else p :: setL d o' r
theorem setL_of {d : Addr} {o o' : Obj} {l : Led} {g : Obj → Led} (U : UpdF d o l g) : setL d o' l = g o' := by
  induction U with
  | head h => simp [setL]
  | tail h _ ih => simp [setL, h, ih]
theorem upd_of {d : Addr} {o o' : Obj} {l : Led} {g : Obj → Led} (U : UpdF d o l g) : Upd d o o' l (setL d o' l) := by
  rw [setL_of U]
  induction U with
  | head h => exact .head h
  | tail h _ ih => exact .tail h ih
theorem updF_at {d : Addr} {o : Obj} {l : Led} {g : Obj → Led} (U : UpdF d o l g) : (d, o) ∈ l := by
  induction U with
  | head h => exact .head _
  | tail h _ ih => exact .tail _ ih
theorem mem_setL {d : Addr} {o o' : Obj} {l : Led} {g : Obj → Led} (U : UpdF d o l g) : (d, o') ∈ setL d o' l := by
  rw [setL_of U]
  induction U with
  | head h => exact .head _
  | tail h _ ih => exact .tail _ ih
theorem keep_setL {d : Addr} {o' : Obj} {p : Addr × Obj} : ∀ {l : Led}, p ∈ l → p.1 ≠ d → p ∈ setL d o' l
  | q :: r, hp, hne => by
    unfold setL
    split
    · rename_i e
      rcases List.mem_cons.mp hp with rfl | hp
      · exact absurd e hne
      · exact .tail _ hp
    · rcases List.mem_cons.mp hp with rfl | hp
      · exact .head _
      · exact .tail _ (keep_setL hp hne)
theorem updF_setL {d : Addr} {o : Obj} {l : Led} {g : Obj → Led} (U : UpdF d o l g) : UpdF d o l (fun o' => setL d o' l) := by
  have e : (fun o' => setL d o' l) = g := funext fun o' => setL_of U
  rw [e]; exact U
theorem off_setL {d d₂ : Addr} {o' : Obj} : ∀ {l : Led}, (∀ p ∈ l, p.1 ≠ d₂) → d ≠ d₂ → ∀ p ∈ setL d o' l, p.1 ≠ d₂
  | [], h, _ => h
  | q :: r, h, hne => by
    intro p hp
    unfold setL at hp
    split at hp
    · rcases List.mem_cons.mp hp with rfl | hp
      · exact hne
      · exact h p (.tail _ hp)
    · rcases List.mem_cons.mp hp with rfl | hp
      · exact h _ (.head _)
      · exact off_setL (fun p hp => h p (.tail _ hp)) hne p hp
theorem news_tail {h₀ h : Heap} {L : Addr} {p : Addr × Obj} {l : Led} (N : News h₀ L h (p :: l)) : News h₀ L h l := fun q hq => N q (.tail _ hq)
theorem news_setL {h₀ h : Heap} {L d : Addr} {o o' : Obj} {l : Led} {g : Obj → Led} (N : News h₀ L h (setL d o' l)) (U : UpdF d o l g) : News h₀ L h (g o') := by
  rw [← setL_of U]; exact N
theorem updF_after {d d₂ : Addr} {o o' o₂ : Obj} {l : Led} {g g₂ : Obj → Led} (U : UpdF d o l g) (U₂ : UpdF d₂ o₂ l g₂) (hne : d ≠ d₂) : UpdF d₂ o₂ (setL d o' l) (fun o₂' => setL d₂ o₂' (setL d o' l)) := by
  refine updF_setL (g := fun o₂' => setL d₂ o₂' (setL d o' l)) ?_
  rw [setL_of U]
  induction U generalizing g₂ with
  | head h =>
    cases U₂ with
    | head h2 => exact absurd rfl hne
    | tail h2 U3 =>
      refine updF_setL (UpdF.tail (by exact hne) U3)
  | @tail p r g' h U ih =>
    cases U₂ with
    | head h2 =>
      refine updF_setL (g := fun o₂' => (d₂, o₂') :: g' o') (UpdF.head ?_)
      intro q hq
      rw [← setL_of U] at hq
      exact off_setL h2 hne q hq
    | tail h2 U3 => exact updF_setL (UpdF.tail h2 (ih U3))
local macro_rules | `(tactic| k_upd) => `(tactic| k_extra "mine k_upd")
theorem lines_8 : True := by
  (k_with "mine k_upd" => (first | exact upd_of (by assumption) | exact upd_of (updF_after (by assumption) (by assumption) (Nat.ne_of_lt (by assumption)))))
  trivial
theorem lines_9 : True := by
  (k_with "mine k_mem" => (first | exact mem_setL (by assumption) | (refine' keep_setL ?_ ?_; (focus assumption); k_ne)))
  trivial
theorem ne_of_allLt {a d : Addr} {o : Obj} : ∀ {l : Led}, AllLt a l → (d, o) ∈ l → a ≠ d
  | q :: r, h, hm => by
    rcases List.mem_cons.mp hm with e | hm
    · have h1 := h.1
      rw [← e] at h1
      exact Nat.ne_of_gt h1
    · exact ne_of_allLt h.2 hm
theorem ne_of_all {a d : Addr} {o : Obj} {l : Led} (h : ∀ p ∈ l, p.1 < a) (hm : (d, o) ∈ l) : a ≠ d := Nat.ne_of_gt (h _ hm)
local macro_rules | `(tactic| k_ne) => `(tactic| k_extra "mine k_ne")
theorem lines_10 : True := by
  (k_with "mine k_ne" => (first
  | (refine neN ?_; (try dsimp only); omega)
  | (refine neN ?_; (try dsimp only); refine' ne_of_all (l := ?nl) ?nh ?nm; (case nh => assumption); (case nm => k_mem))
  | (refine neN ?_; (try dsimp only); refine' ne_of_allLt (l := ?nl) ?nh ?nm; (case nh => assumption); (case nm => k_mem))))
  trivial
local macro_rules | `(tactic| k_updF) => `(tactic| k_extra "mine k_updF")
theorem lines_11 : True := by
  (k_with "mine k_updF" => (assumption))
  trivial
theorem setL_ne {a d : Addr} {x o' : Obj} {r : Led} (h : a ≠ d) : setL d o' ((a, x) :: r) = (a, x) :: setL d o' r := by
  rw [setL, if_neg h]
theorem news_ne2 {h₀ h : Heap} {L a d d2 : Addr} {x o o2 : Obj} {t : Addr × Obj} {r : Led} (N : News h₀ L h (t :: setL d2 o2 (setL d o ((a, x) :: r)))) (h1 : a ≠ d) (h2 : a ≠ d2) : News h₀ L h (t :: setL d2 o2 (setL d o r)) := by
  rw [setL_ne h1, setL_ne h2] at N
  exact fun p hp => N p ((List.mem_cons.mp hp).elim (fun e => e ▸ .head _) fun h => .tail _ (.tail _ h))
theorem lt_setL {d a : Addr} {o' : Obj} : ∀ (l : Led), (∀ p ∈ setL d o' l, p.1 < a) → ∀ p ∈ l, p.1 < a
  | [], _, _, hp => nomatch hp
  | q :: r, h, p, hp => by
    by_cases e : q.1 = d
    · have es : setL d o' (q :: r) = (d, o') :: r := by simp only [setL, if_pos e]
      rw [es] at h
      cases List.mem_cons.mp hp with
      | inl h1 => rw [h1, e]; exact h (d, o') (.head _)
      | inr h1 => exact h p (.tail _ h1)
    · have es : setL d o' (q :: r) = q :: setL d o' r := by simp only [setL, if_neg e]
      rw [es] at h
      cases List.mem_cons.mp hp with
      | inl h1 => rw [h1]; exact h q (.head _)
      | inr h1 => exact lt_setL r (fun q hq => h q (.tail _ hq)) p h1
theorem lt_of_mem {a d : Addr} {o : Obj} {l : Led} (h : ∀ p ∈ l, p.1 < a) (hm : (d, o) ∈ l) : @LT.lt Nat _ d a := h _ hm
def plainE : Expr → Bool
  | .Starred .. => false
  | _ => true
theorem star_cons {e : Expr} {rest : List Expr} {env : Env} (h : plainE e = true) : starEach (e :: rest) env = (false, eval e env) :: starEach rest env := by
  cases e <;> first | rfl | cases h
theorem star_any {env : Env} : ∀ {es : List Expr}, es.all plainE = true → (starEach es env).any (·.1) = false
  | [], _ => rfl
  | e :: r, h => by
    rw [List.all_cons, Bool.and_eq_true] at h
    rw [star_cons h.1, List.any_cons, star_any h.2]; rfl
theorem back_any {pos : Pos} (l : List (Bool × Sem Value)) : (backTo pos l).any (·.1) = l.any (·.1) := by
  unfold backTo
  rw [List.any_map]
  rfl
section
variable {M : Model} {A : Around} {E : Value → Shared → Prop} {s : Shared} {K : Frag} {f : Value} {first : List Value} {pos : Pos} {env : Env} {Q : Value → Shared → Prop}
theorem callWith_P {h₀ : Heap} {e : Expr} {rest : List Expr} (X : K.In h₀) (hk : keepIn K f = true) (hp : (e :: rest).all plainE = true)
    (h : wpAny M A (spliced (backTo pos (starEach (e :: rest) env))) (fun vs s₁ => K.In s₁.heap ∧ wpAny M A (call f (first ++ vs)) Q E s₁) E s) :
    wpAny M A (callWith pos f first (backTo pos (starEach (e :: rest) env)) []) Q E s := by
  rw [List.all_cons, Bool.and_eq_true] at hp
  exact callWith_K X hk h (star_cons hp.1) (by rw [back_any]; exact star_any hp.2)
end
theorem lines_12 : True := by
  (k_with "callWith ref" => ((k_here; k_dflt (first
  | (refine' callWith_P ?k1 ?k2 ?k3 ?_; (case k1 => k_asm); (case k2 => k_is); (case k3 => rfl); k_whole)
  | (refine' callWith_K0 ?k1 ?k2 ?_; (case k1 => refine' Frag.In.keeps ?tX (Fr.keep ?tF); (case tF => with_reducible assumption); (case tX => with_reducible assumption)); (case k2 => k_is); k_whole; try dsimp only [List.nil_append, List.cons_append])))))
  trivial
theorem eq_tup_str {prog : Program} {w : World} {A : Around} {E : Value → Shared → Prop} {s : Shared} {l : Addr} {vs : List Value} {b : Str} {u : Tok} {Q : Value → Shared → Prop}
    (ht : IsTup s.heap l vs.toArray) (hu : A.units < cLine) (h : Q (.bool false) s) : wpAny (model prog w) A (compareOp .Eq (.ref l) (.str b u)) Q E s :=
  cmp_ofEq (PySem.SeqAt.RcAt.tuple_str b u ht hu prog w E Q h)
theorem lines_13 : True := by
  (k_with "compareOp Eq ref str" => ((k_here; k_dflt (refine' eq_tup_str ?k1 ?k2 ?_; (case k1 => exact News.isTup (by k_asm) (by k_mem)); (case k2 => k_units); k_whole))))
  trivial

section
variable {prog : Program} {w : World} {A : Around} {E : Value → Shared → Prop} {s : Shared} {l : Addr} {vs : List Value} {ys : List Str} {k : Str} {t : Tok} {b : Bool} {Q : Value → Shared → Prop}
theorem in_ls (hl : s.heap.IsList l vs.toArray) (hi : StrsAre vs ys) (hb : ys.any (· == k) = b) (h : Q (.bool b) s) : wpAny (model prog w) A (compareOp .In (.str k t) (.ref l)) Q E s :=
  in_list_strs hl hi (by rw [hb]; exact h)
theorem in_tp (ht : IsTup s.heap l vs.toArray) (hi : StrsAre vs ys) (hb : ys.any (· == k) = b) (h : Q (.bool b) s) : wpAny (model prog w) A (compareOp .In (.str k t) (.ref l)) Q E s :=
  in_tuple_strs ht hi (by rw [hb]; exact h)
theorem nin_tp (ht : IsTup s.heap l vs.toArray) (hi : StrsAre vs ys) (hb : ys.any (· == k) = b) (h : Q (.bool (!b)) s) : wpAny (model prog w) A (compareOp .NotIn (.str k t) (.ref l)) Q E s :=
  notin_tuple_strs ht hi (by rw [hb]; exact h)
end
theorem lines_14 : True := by
  (k_with "mine strs" => ((repeat (first | exact StrsAre.nil | apply StrsAre.cons))))
  trivial
theorem lines_15 : True := by
  (k_with "compareOp In str ref" => ((k_here; k_dflt (first
  | (refine' in_tp (b := false) ?k1 ?k2 ?k3 ?_; (case k1 => first | exact News.isTup (by k_asm) (by k_mem) | (refine' tupK (Frag.In.keeps ?tX (Fr.keep ?tF)) ?tl; (case tF => k_asm); (case tX => k_asm); (case tl => k_is))); (case k2 => walk_at "mine strs"); (case k3 => decide +kernel); k_whole)
  | (refine' in_tp (b := true) ?k1 ?k2 ?k3 ?_; (case k1 => first | exact News.isTup (by k_asm) (by k_mem) | (refine' tupK (Frag.In.keeps ?tX (Fr.keep ?tF)) ?tl; (case tF => k_asm); (case tX => k_asm); (case tl => k_is))); (case k2 => walk_at "mine strs"); (case k3 => decide +kernel); k_whole)
  | (refine' in_ls (b := false) ?k1 ?k2 ?k3 ?_; (case k1 => exact News.isList (by k_asm) (by k_mem)); (case k2 => walk_at "mine strs"); (case k3 => first | exact rfl | decide +kernel); k_whole)))))
  trivial
theorem lines_16 : True := by
  (k_with "compareOp NotIn str ref" => ((k_here; k_dflt (first
  | (refine' nin_tp (b := false) ?k1 ?k2 ?k3 ?_; (case k1 => first | exact News.isTup (by k_asm) (by k_mem) | (refine' tupK (Frag.In.keeps ?tX (Fr.keep ?tF)) ?tl; (case tF => k_asm); (case tX => k_asm); (case tl => k_is))); (case k2 => walk_at "mine strs"); (case k3 => decide +kernel); k_whole)
  | (refine' nin_tp (b := true) ?k1 ?k2 ?k3 ?_; (case k1 => first | exact News.isTup (by k_asm) (by k_mem) | (refine' tupK (Frag.In.keeps ?tX (Fr.keep ?tF)) ?tl; (case tF => k_asm); (case tX => k_asm); (case tl => k_is))); (case k2 => walk_at "mine strs"); (case k3 => decide +kernel); k_whole)))))
  trivial

/-- the dict of the host's names: what it holds -/
def VD (w : World) (V : Obj) (D : List (PyData × PyData)) : Prop :=
  D.length ≤ 8 ∧ ∃ kvs : List (Str × Value), V.IsDictOf (strKind PySem.Challenge.rw_xm0940_01.row.prog w) kvs ∧ PyProof.V.FlatPairs PyData.str kvs D
section
variable {w : World} {A : Around} {E : Value → Shared → Prop} {s : Shared} {h₀ : Heap} {L d : Addr} {m : Str → Option Value} {news : Led} {V : Obj} {D : List (PyData × PyData)} {g : Obj → Led} {k x : Str} {t tx : Tok}
theorem set_VD {Q : Unit → Shared → Prop} (F : Fr h₀ L s.heap m) (N : News h₀ L s.heap news) (U : UpdF d V news g) (hV : VD w V D) (hl : (PyProof.V.putD (.str k) (.str x) D).length ≤ 8)
    (h : ∀ h' V', Fr h₀ L h' m → News h₀ L h' (setL d V' news) → VD w V' (PyProof.V.putD (.str k) (.str x) D) → Q () { s with heap := h', toks := s.toks + 1 }) :
    wpAny (model PySem.Challenge.rw_xm0940_01.row.prog w) A (setItem (.ref d) (.str k t) (.str x tx)) Q E s := by
  obtain ⟨hl0, kvs, hd, hf⟩ := hV
  refine setItem_K PyProof.V.same_str (strKind_is _ _ _ _) (PyProof.V.Flat.str x tx) F N U hd hf (fun h' o' F' N' hd' hf' => ?_) (Nat.le_trans hl0 (by rw [sizeLine_eq]; decide))
  refine h h' o' F' ?_ ⟨hl, _, hd', hf'⟩
  rw [setL_of U]; exact N'
theorem item_VD {Q : Value → Shared → Prop} {value slice : Expr} (N : News h₀ L s.heap news) (hm : (d, V) ∈ news) (lo : (d == sysModules) = false) (hV : VD w V D) (hl : PySem.Spec.lookup (.str k) D = some (.str x))
    (h : ∀ t', Q (.str x t') { s with toks := s.toks + 1 })
    (hs : subscripted slice false (.ref d) (.str k t) = operate [.ref d, .str k t] (getItem (.ref d) (.str k t)) := by with_unfolding_all rfl) (hg : ∀ r, letTemporaryGo value (.ref d) r = pure () := by intro _; with_unfolding_all rfl) :
    wpAny (model PySem.Challenge.rw_xm0940_01.row.prog w) A (subscriptTail value slice (.ref d) (.str k t)) Q E s := by
  obtain ⟨hl0, kvs, hd, hf⟩ := hV
  refine item_strTab (TabAt.ofNews N hm lo hd hf) hl (fun v hv => ?_) hs hg
  have hv' := hv s.heap
  cases hv'
  exact h _
end

theorem lines_17 : True := by
  (k_with "setItem ref str str" => ((k_here; k_dflt (refine' set_VD ?F ?N ?U ?V ?l ?_; (case F => k_asm); (case N => k_asm); (case U => first | assumption | k_updF); (case V => assumption); (case l => first | assumption | decide); k_whole); intro h' V' F' N' hV'; (try k_sweep))))
  trivial

/-- a way on: rest at i -/
abbrev Way (news : Led) (rest : Value) (i : Int) (nm : Addr) (v : Value) (nw : Led) : Prop :=
  ∃ wy t', v = .ref wy ∧ nw = (wy, tupO [rest, .int i t', .ref nm]) :: news ∧ AllLt wy news
theorem news_sub {h₀ h : Heap} {L : Addr} {l l' : Led} (N : News h₀ L h l') (hs : l.Sublist l') : News h₀ L h l := fun p hp => N p (hs.subset hp)

/-- a contract, used -/
theorem CT.use {w : World} {f : Addr} {vs : List Value} {need : Nat} {news : Led} {Post : Value → Led → Prop} (C : CT w f vs need news Post)
    {dp un : Nat} {gd : Option (List Code)} {cn : Str} {cs : Scope} {a : Addr} {ccd : Value} {cl : List (Str × Addr)} {outer : List Env} {A₀ : Around} {base h₀ : Heap} {L : Addr} {m : Str → Option Value} {s : Shared} {Q E : Value → Shared → Prop}
    {p : Program} {loose : List Str} {mean : ExcName → Option Value} {mg mb : Str → Option Value}
    (B : Below A₀ base outer h₀) (F : Fr h₀ L s.heap m) (X : (hd.heap_1 w.params).In h₀) (N : News h₀ L s.heap news) (T : Top p loose mean mg mb h₀) (hk : cs.kind = .function)
    (hdp : dp + need < recursionLimit) (hun : un + 8 * need < cLine)
    (ret : ∀ v news' h' tk', Post v news' → Fr h₀ L h' m → News h₀ L h' news' → Q v { s with heap := h', toks := tk' }) :
    wpAny (model PySem.Challenge.rw_xm0940_01.row.prog w) (ktrTop dp un gd cn cs L a ccd cl outer) (call (.ref f) vs) Q E s :=
  C dp un gd cn cs a ccd cl outer A₀ base h₀ L m s Q E p loose mean mg mb B F X N T hk hdp hun ret

-- what stands behind «refine' code_def (binds := ..)»
theorem lines_18 : True := by
  (k_with "mine rest" => ((
  (case kA => exact rfl); (case kF => exact rfl); (case kK => assumption); (case k1 => k_asm); (case k2 => k_asm); (case k3 => k_asm); (case k4 => k_asm); (case k5 => k_asm); (case k6 => k_dflt k_is); (case k7 => k_dflt k_is); (case k8 => k_room); (case k9 => exact BindsTo.of_eq rfl); (case c5 => decide); (case kB => exact locs rfl); (case c2 => exact rfl); (case c3 => exact rfl); (case c4 => exact rfl); k_whole; intro g' L' h' FG' F' N' B' X' T'; (try dsimp only); (try k_fold))))
  trivial
section
theorem lines_19 : True := by
  (k_with "mine restC" => ((
  (case kA => exact rfl); (case kF => exact rfl); (case kK => assumption); (case k1 => k_asm); (case k2 => k_asm); (case k3 => k_asm); (case k4 => k_asm); (case k5 => k_asm); (case k6 => k_dflt k_is); (case k7 => k_dflt k_is); (case k8 => k_room); (case k9 => exact BindsTo.of_eq rfl); (case kB => exact rfl); (case kD => decide +kernel); (case c2 => exact rfl); (case c3 => exact rfl); (case c4 => exact rfl); k_whole; intro g' L' h' tk' cells' FG' F' N' Y' B' X' T' l1; (try k_lt l1); k_cells Y'; (try simp only [List.cons_append, List.nil_append] at N'); (try dsimp only); (try k_fold))))
  trivial
theorem ne_up {a d : Addr} {l : Led} (h : ∀ p ∈ l, p.1 < a) (hle : @LE.le Nat _ a d) : ∀ p ∈ l, p.1 ≠ d := fun p hp => Nat.ne_of_lt (Nat.lt_of_lt_of_le (h p hp) hle)
local macro_rules | `(tactic| k_all) => `(tactic| k_extra "mine k_all")
theorem lines_20 : True := by
  (k_with "mine k_all" => ((refine' ne_up ?nh ?nl; (case nh => with_reducible assumption); (case nl => omega))))
  trivial
theorem mul_bnd {j k : Int} (hj : 0 ≤ j) (hj' : j ≤ 3) (hk : 0 ≤ k) (hk' : k ≤ 20) : 0 ≤ j * k ∧ j * k ≤ 60 :=
  ⟨Int.mul_nonneg hj hk, by have h := Int.mul_le_mul hj' hk' hk (by decide); omega⟩
theorem sz2 {a b : Int} (h : a ≤ 30) (h' : b ≤ 30) : a.toNat + b.toNat ≤ 16777216 := by omega
theorem sz3 {a b : Int} (h : a ≤ 30) (h' : b ≤ 30) : a.toNat + b.toNat + (0 + 1) ≤ 16777216 := by omega
theorem hi_of {k' a : Int} (h : k' < 1 + ((a + 1 - 1).toNat : Nat)) (ha : 0 ≤ a) : k' ≤ a := by omega
theorem hi_of0 {k' a : Int} (h : k' < 0 + ((a + 1 - 0).toNat : Nat)) (ha : 0 ≤ a) : k' ≤ a := by omega
theorem add_car {prog : Program} {w : World} {A : Around} {E : Value → Shared → Prop} {s : Shared} {h₀ : Heap} {L : Addr} {m : Str → Option Value} {news : Led} {l b : Addr} {vs ws : List Value} {n n2 : Nat} {xs ys : List PyData} {Q : Value → Shared → Prop} (F : Fr h₀ L s.heap m) (N : News h₀ L s.heap news)
    (ha : (l, ({ cls := .type "list", data := .seq vs.toArray n } : Obj)) ∈ news) (hb : (b, ({ cls := .type "list", data := .seq ws.toArray n2 } : Obj)) ∈ news) (ca : CarriedAll vs xs) (cb : CarriedAll ws ys) (hsz : xs.length + ys.length ≤ sizeLine)
    (h : ∀ D h', Fr h₀ L h' m → News h₀ L h' ((D, { cls := .type "list", data := .seq (vs ++ ws).toArray }) :: news) → (∀ p ∈ news, p.1 < D) → CarriedAll (vs ++ ws) (xs ++ ys) → Q (.ref D) { s with heap := h' }) :
    wpAny (model prog w) A (binaryOp .Add (.ref l) (.ref b)) Q E s :=
  add_lists (hsz := by rw [ca.length_eq, cb.length_eq]; exact hsz) F N (News.isList N ha) (News.isList N hb) fun h' F' N' => h _ h' F' N' (fun p hp => Heap.lt_size (N p hp).1) (ca.appendLM cb)
theorem lines_21 : True := by
  (k_with "mine carried" => (first | with_reducible assumption | exact CarriedAll.cons (.str _ _) .nil))
  trivial
theorem lines_22 : True := by
  (k_with "binaryOp Add ref ref" => ((k_here; (with_reducible show wpAny _ _ (binaryOp _ (Value.ref _) (Value.ref _)) _ _ _); k_dflt (refine' add_car ?aF ?aN ?aa ?ab ?ac ?ad ?az ?_; (case aF => k_asm); (case aN => k_asm); (case aa => k_mem); (case ab => k_mem); (case ac => walk_at "mine carried"); (case ad => walk_at "mine carried"); (case az => (simp only [List.length_append, List.length_map, rangeKs_length, List.length_cons, List.length_nil]); rw [sizeLine_eq]; first | exact sz2 (by omega) (by omega) | exact sz3 (by omega) (by omega) | omega); k_whole); intro D' h' F' N' l1 hc'; (try k_lt l1); (try k_sweep))))
  trivial
theorem lines_23 : True := by
  (k_with "mine sub" => ((repeat (first | exact List.Sublist.refl _ | apply List.Sublist.cons_cons | apply List.Sublist.cons))))
  trivial
/-- the rows, as data -/
def rowsD (many j k : Int) : List PyData :=
  if many.fmod 2 = 0 then
    (rangeKs 1 (many.fdiv 2 + 1 - 1).toNat).map (fun x => PyData.str (Txt.mul (Str.ofString "a") (many - 2 * x) ++ Txt.mul (Str.ofString "bc") x)) ++
    (rangeKs 1 (many.fdiv 2 + 1 - 1).toNat).map (fun x => PyData.str (Txt.mul (Str.ofString "bc") (many.fdiv 2 - x) ++ Txt.mul (Str.ofString "a") (j * x)))
  else
    ((rangeKs 1 (many.fdiv 2 + 1 - 1).toNat).map (fun x => PyData.str (Txt.mul (Str.ofString "a") (many - 2 * x) ++ Txt.mul (Str.ofString "bc") x)) ++
    (rangeKs 0 (many.fdiv 2 + 1 - 0).toNat).map (fun x => PyData.str (Txt.mul (Str.ofString "cb") (many.fdiv 2 - x) ++ Str.ofString "c" ++ Txt.mul (Str.ofString "a") (k * x)))) ++
    [PyData.str (Txt.mul (Str.ofString "a") (k * (many.fdiv 2 + 1) - 1))]
theorem c_rows {w : World} {many j k : Int} {t1 t2 t3 : Tok} {news : Led} (hm0 : 2 ≤ many) (hm : many ≤ 38) (hj : 0 ≤ j) (hj' : j ≤ 3) (hk0 : 0 ≤ k) (hk' : k ≤ 3) :
  CT w 458 [.int many t1, .int j t2, .int k t3] 4 news (fun v nw => ∃ r ys, v = .ref r ∧ nw = (r, { cls := .type "list", data := .seq (List.toArray ys) }) :: news ∧ CarriedAll ys (rowsD many j k) ∧ AllLt r news) := by
  unfold CT
  k_fill
  intro dp un gd cn cs a ccd cl outer A₀ base h₀ L m s Q E p loose mean mg mb B F X N T hk hdp hu hret
  refine wpAny_call ?_
  refine' code_defC (binds := [(Str.ofString "many", .int many t1), (Str.ofString "j", .int j t2), (Str.ofString "k", .int k t3)]) ?k1 ?k2 ?k3 ?k4 ?k5 ?kA ?kF ?kK ?k6 ?k7 ?k8 ?k9 ?kB ?kD ?_ ?c2 ?c3 ?c4
  walk_at "mine restC"
  repeat' (first | (first | (k_unfold; (try dsimp only)) | (k_end; wrow_close) | walk1 | (dsimp only; walk1) | (leave1; walk_say "STEP leave1"; try dsimp only) | fail "no step"))
  have hf1 : 0 ≤ many.fdiv 2 := by rw [Int.fdiv_eq_ediv_of_nonneg _ (by omega)]; omega
  have hf2 : many.fdiv 2 ≤ 19 := by rw [Int.fdiv_eq_ediv_of_nonneg _ (by omega)]; omega
  have hq0 := mul_bnd hk0 hk' (show 0 ≤ many.fdiv 2 + 1 by omega) (by omega)
  have hf0 : many.fdiv 2 ≤ 20 := by rw [Int.fdiv_eq_ediv_of_nonneg _ (by omega)]; omega
  have hf : many.fdiv 2 = many / 2 := Int.fdiv_eq_ediv_of_nonneg _ (by omega)
  k_dflt (refine LCg.CompSrc.range (by rfl) (by k_asm) (by k_asm) (by assumption) (small_one (by decide) (by decide) (by rw [hf]; omega) (by rw [hf]; omega)) (rangeSize_nat _ _) (by rw [hf, sizeLine_eq]; omega) ?_)
  intro g'
  k_dflt (refine' kct_range (fun turn => Txt.mul (Str.ofString "a") (many - 2 * turn) ++ Txt.mul (Str.ofString "bc") turn) (fun k' t' I' oI' C' oC' D' m' ys' h' tk' E' hlo' hhi' hC' hx' F' N' off' ne' => ?_) ?_)
  all_goals (try ((show KPfMark → _); intro hMark'))
  · (have hb1 := hi_of hhi' hf1)
    (have hb2 : 2 * k' ≤ many := by omega)
    clear hhi' hf hf0 hf1 hf2 hq0 hb1
    k_steps
    exact LCg.CompEnd.intro (by k_asm) (by k_asm) _ (fun p hp => hp) off' trivial ⟨rfl, _, rfl⟩
  · repeat' (first | ((fail_if_success (with_reducible show LCg.CompSrc _ _ _ _ _ _ _ _ _ _ _ _ _ _)); first | (k_unfold; (try dsimp only)) | (k_end; wrow_close) | walk1 | (dsimp only; walk1) | (leave1; walk_say "STEP leave1"; try dsimp only) | fail "no step"))
    ·
      k_dflt (refine LCg.CompSrc.range (by rfl) (by k_asm) (by k_asm) (by assumption) (small_one (by decide) (by decide) (by rw [hf]; omega) (by rw [hf]; omega)) (rangeSize_nat _ _) (by rw [hf, sizeLine_eq]; omega) ?_)
      intro g'
      k_dflt (refine' kct_range (fun turn => Txt.mul (Str.ofString "bc") (many.fdiv 2 - turn) ++ Txt.mul (Str.ofString "a") (j * turn)) (fun k' t' I' oI' C' oC' D' m' ys' h' tk' E' hlo' hhi' hC' hx' F' N' off' ne' => ?_) ?_)
      all_goals (try ((show KPfMark → _); intro hMark'))
      · (have hb1 := hi_of hhi' hf1); (have hb2 : k' ≤ 19 := by omega); clear hhi' hf hf0 hq0; (have hq1 := mul_bnd hj hj' (by omega : 0 ≤ k') (by omega)); k_steps
        exact LCg.CompEnd.intro (by k_asm) (by k_asm) _ (fun p hp => hp) off' trivial ⟨rfl, _, rfl⟩
      · repeat' (first | ((fail_if_success (with_reducible show LCg.CompSrc _ _ _ _ _ _ _ _ _ _ _ _ _ _)); first | (k_unfold; (try dsimp only)) | (k_end; wrow_close) | walk1 | (dsimp only; walk1) | (leave1; walk_say "STEP leave1"; try dsimp only) | fail "no step"))
        (rename News _ _ _ _ => N9)
        exact hret _ _ _ _ ⟨_, _, rfl, rfl, by first | (rw [rowsD, if_pos (by assumption)]; assumption) | (rw [rowsD, if_neg (by assumption)]; assumption), by tbn_find⟩ (by k_asm) (news_sub N9 (by walk_at "mine sub"))
    ·
      k_dflt (refine LCg.CompSrc.range (by rfl) (by k_asm) (by k_asm) (by assumption) (small_one (by decide) (by decide) (by rw [hf]; omega) (by rw [hf]; omega)) (rangeSize_nat _ _) (by rw [hf, sizeLine_eq]; omega) ?_)
      intro g'
      k_dflt (refine' kct_range (fun turn => Txt.mul (Str.ofString "cb") (many.fdiv 2 - turn) ++ Str.ofString "c" ++ Txt.mul (Str.ofString "a") (k * turn)) (fun k' t' I' oI' C' oC' D' m' ys' h' tk' E' hlo' hhi' hC' hx' F' N' off' ne' => ?_) ?_)
      all_goals (try ((show KPfMark → _); intro hMark'))
      · (have hb1 := hi_of0 hhi' hf1); (have hb2 : k' ≤ 19 := by omega); clear hhi' hf hf0 hq0; (have hq2 := mul_bnd hk0 hk' (by omega : 0 ≤ k') (by omega)); k_steps
        exact LCg.CompEnd.intro (by k_asm) (by k_asm) _ (fun p hp => hp) off' trivial ⟨rfl, _, rfl⟩
      · repeat' (first | ((fail_if_success (with_reducible show LCg.CompSrc _ _ _ _ _ _ _ _ _ _ _ _ _ _)); first | (k_unfold; (try dsimp only)) | (k_end; wrow_close) | walk1 | (dsimp only; walk1) | (leave1; walk_say "STEP leave1"; try dsimp only) | fail "no step"))
        (rename News _ _ _ _ => N9)
        exact hret _ _ _ _ ⟨_, _, rfl, rfl, by first | (rw [rowsD, if_pos (by assumption)]; assumption) | (rw [rowsD, if_neg (by assumption)]; assumption), by tbn_find⟩ (by k_asm) (news_sub N9 (by walk_at "mine sub"))
end
theorem lines_off : True := by
  k_with_none
  trivial
theorem lines_24 : True := by
  (k_with "mine k_room" => ((refine room_ge (by with_reducible assumption) ?_; (try simp only [depth_mark, depth_under_make, depth_under_kw, depth_in1, depth_deeper, depth_caller]); (try dsimp only [ktrTop]); omega)))
  (k_with "mine k_units" => ((refine units_ge (by with_reducible assumption) ?_; (try simp only [units_in1, units_deeper, Around.mark_units, units_caller]); (try dsimp only [ktrTop]); omega)))
  (k_with "mine units_room" => ((refine units_ge (by with_reducible assumption) ?_; (try simp only [units_in1, units_deeper, Around.mark_units, units_caller]); (try dsimp only [ktrTop]); omega)))
  (k_with "mine k_mem" => (assumption))
  (k_with "callWith ref" => ((k_here; k_dflt (first
  | (refine' callWith_K ?k1 ?k2 ?_; (case k1 => k_asm); (case k2 => k_is); k_whole)
  | (refine' callWith_K0 ?k1 ?k2 ?_; (case k1 => k_in); (case k2 => k_is); k_whole; try dsimp only [List.nil_append, List.cons_append])))))
  (k_with "subscriptTail Name Constant ref int" => ((k_here; (with_reducible show wpAny _ _ (subscriptTail _ _ (Value.ref _) (Value.int _ _)) _ _ _); k_dflt (refine' item_tupleT ?t ?a ?b ?c ?d ?_; (case t => exact News.isTup (by k_asm) (by k_mem)); (case a => decide); (case b => decide); (case c => rfl); (case d => rfl); k_whole))))
  (k_with "eval Name" => ((k_here; k_dflt (first
  | (refine' nameX_L ?F ?v ?_ ?a ?b; (case F => k_asm); (case a => rfl); (case b => rfl); (case v => rfl); k_whole)
  | (refine' nameX_K ?F ?X ?T ?e ?_ ?a ?b; (case F => k_asm); (case X => k_asm); (case T => k_asm); (case a => rfl); (case b => rfl); (case e => k_is); k_whole)))))
  (k_with "mine k_upd" => (first | exact upd_of (by assumption) | exact upd_of (updF_after (by assumption) (by assumption) (Nat.ne_of_lt (by assumption)))))
  (k_with "mine k_mem" => (first | exact mem_setL (by assumption) | (refine' keep_setL ?_ ?_; (focus assumption); k_ne)))
  (k_with "mine k_ne" => (first
  | (refine neN ?_; (try dsimp only); omega)
  | (refine neN ?_; (try dsimp only); refine' ne_of_all (l := ?nl) ?nh ?nm; (case nh => assumption); (case nm => k_mem))
  | (refine neN ?_; (try dsimp only); refine' ne_of_allLt (l := ?nl) ?nh ?nm; (case nh => assumption); (case nm => k_mem))))
  (k_with "mine k_updF" => (assumption))
  (k_with "callWith ref" => ((k_here; k_dflt (first
  | (refine' callWith_P ?k1 ?k2 ?k3 ?_; (case k1 => k_asm); (case k2 => k_is); (case k3 => rfl); k_whole)
  | (refine' callWith_K0 ?k1 ?k2 ?_; (case k1 => refine' Frag.In.keeps ?tX (Fr.keep ?tF); (case tF => with_reducible assumption); (case tX => with_reducible assumption)); (case k2 => k_is); k_whole; try dsimp only [List.nil_append, List.cons_append])))))
  (k_with "compareOp Eq ref str" => ((k_here; k_dflt (refine' eq_tup_str ?k1 ?k2 ?_; (case k1 => exact News.isTup (by k_asm) (by k_mem)); (case k2 => k_units); k_whole))))
  (k_with "mine strs" => ((repeat (first | exact StrsAre.nil | apply StrsAre.cons))))
  (k_with "compareOp In str ref" => ((k_here; k_dflt (first
  | (refine' in_tp (b := false) ?k1 ?k2 ?k3 ?_; (case k1 => first | exact News.isTup (by k_asm) (by k_mem) | (refine' tupK (Frag.In.keeps ?tX (Fr.keep ?tF)) ?tl; (case tF => k_asm); (case tX => k_asm); (case tl => k_is))); (case k2 => walk_at "mine strs"); (case k3 => decide +kernel); k_whole)
  | (refine' in_tp (b := true) ?k1 ?k2 ?k3 ?_; (case k1 => first | exact News.isTup (by k_asm) (by k_mem) | (refine' tupK (Frag.In.keeps ?tX (Fr.keep ?tF)) ?tl; (case tF => k_asm); (case tX => k_asm); (case tl => k_is))); (case k2 => walk_at "mine strs"); (case k3 => decide +kernel); k_whole)
  | (refine' in_ls (b := false) ?k1 ?k2 ?k3 ?_; (case k1 => exact News.isList (by k_asm) (by k_mem)); (case k2 => walk_at "mine strs"); (case k3 => first | exact rfl | decide +kernel); k_whole)))))
  (k_with "compareOp NotIn str ref" => ((k_here; k_dflt (first
  | (refine' nin_tp (b := false) ?k1 ?k2 ?k3 ?_; (case k1 => first | exact News.isTup (by k_asm) (by k_mem) | (refine' tupK (Frag.In.keeps ?tX (Fr.keep ?tF)) ?tl; (case tF => k_asm); (case tX => k_asm); (case tl => k_is))); (case k2 => walk_at "mine strs"); (case k3 => decide +kernel); k_whole)
  | (refine' nin_tp (b := true) ?k1 ?k2 ?k3 ?_; (case k1 => first | exact News.isTup (by k_asm) (by k_mem) | (refine' tupK (Frag.In.keeps ?tX (Fr.keep ?tF)) ?tl; (case tF => k_asm); (case tX => k_asm); (case tl => k_is))); (case k2 => walk_at "mine strs"); (case k3 => decide +kernel); k_whole)))))
  (k_with "setItem ref str str" => ((k_here; k_dflt (refine' set_VD ?F ?N ?U ?V ?l ?_; (case F => k_asm); (case N => k_asm); (case U => first | assumption | k_updF); (case V => assumption); (case l => first | assumption | decide); k_whole); intro h' V' F' N' hV'; (try k_sweep))))
  (k_with "mine rest" => ((
  (case kA => exact rfl); (case kF => exact rfl); (case kK => assumption); (case k1 => k_asm); (case k2 => k_asm); (case k3 => k_asm); (case k4 => k_asm); (case k5 => k_asm); (case k6 => k_dflt k_is); (case k7 => k_dflt k_is); (case k8 => k_room); (case k9 => exact BindsTo.of_eq rfl); (case c5 => decide); (case kB => exact locs rfl); (case c2 => exact rfl); (case c3 => exact rfl); (case c4 => exact rfl); k_whole; intro g' L' h' FG' F' N' B' X' T'; (try dsimp only); (try k_fold))))
  trivial
theorem c_step {w : World} {news : Led} {g : Obj → Led} {H hD dv lg rl : Addr} {n : Int} {ta tb tc td te tf tg th ti : Tok}
   (hH : (H, instObj 236 hD) ∈ news) (U : UpdF hD (hostD w dv rl lg n ta tb tc td te tf tg th ti) news g) (hlt : @LT.lt Nat _ hD H) (hn0 : 0 ≤ n) (hn : n ≤ 9990) :
   CT w 233 [.ref H] 1 news (fun v nw => v = .none ∧ ∃ th', nw = setL hD (hostD w dv rl lg (n + 1) ta tb tc td te tf tg th' ti) news) := by
  unfold CT
  k_fill
  intro dp un gd cn cs a ccd cl outer A₀ base h₀ L m s Q E p loose mean mg mb B F X N T hk hdp hu hret
  have hU := updF_at U
  refine wpAny_call ?_
  refine' code_def (binds := [(Str.ofString "self", .ref H)]) ?k1 ?k2 ?k3 ?k4 ?k5 ?kA ?kF ?kK ?k6 ?k7 ?k8 ?k9 ?kB ?_ ?c2 ?c3 ?c4 ?c5
  walk_at "mine rest"
  k_steps
  all_goals (refine' hret _ _ _ _ ?p1 ?p2 ?p3; (case p2 => k_asm); (case p3 => k_asm); exact ⟨rfl, _, rfl⟩)

theorem c_assign {w : World} {news : Led} {g1 g2 : Obj → Led} {V : Obj} {D : List (PyData × PyData)} {key : String} {H hD dv lg rl R rD : Addr} {n : Int} {x : Str} {tx : Tok} {vs : List Value} {ep : Nat} {ta tb tc td te tf tg th ti a1 b1 c1 d1 e1 : Tok}
   (hH : (H, instObj 236 hD) ∈ news) (hD' : (hD, hostD w dv rl lg n ta tb tc td te tf tg th ti) ∈ news) (hrl : (rl, listOf #[] 0) ∈ news)
   (hR : (R, instObj 145 rD) ∈ news) (hr : (rD, refD w key a1 b1 c1 d1 e1) ∈ news)
   (hV : VD w V D) (hl : (PyProof.V.putD (.str (Str.ofString key)) (.str x) D).length ≤ 8) (U1 : UpdF dv V news g1) (U2 : UpdF lg (listOf vs.toArray ep) news g2) (hlt1 : @LT.lt Nat _ dv lg) (hlt2 : @LT.lt Nat _ dv hD) (hlt3 : @LT.lt Nat _ hD H) (hltR : @LT.lt Nat _ R dv) (hltr : @LT.lt Nat _ rD dv) (hvs : vs.length ≤ 3000) :
   CT w 226 [.ref H, .ref R, .str x tx] 1 news (fun v nw => v = .bool true ∧ ∃ V' vs' ep', VD w V' (PyProof.V.putD (.str (Str.ofString key)) (.str x) D) ∧ vs'.length = vs.length + 1 ∧ nw = setL lg (listOf (List.toArray vs') ep') (setL dv V' news)) := by
  unfold CT
  k_fill
  intro dp un gd cn cs a ccd cl outer A₀ base h₀ L m s Q E p loose mean mg mb B F X N T hk hdp hu hret
  have hU := updF_at U1
  have hU2 := updF_at U2
  refine wpAny_call ?_
  refine' code_def (binds := [(Str.ofString "self", .ref H), (Str.ofString "ref", .ref R), (Str.ofString "value", .str x tx)]) ?k1 ?k2 ?k3 ?k4 ?k5 ?kA ?kF ?kK ?k6 ?k7 ?k8 ?k9 ?kB ?_ ?c2 ?c3 ?c4 ?c5
  walk_at "mine rest"
  k_steps
  (rename News _ _ _ _ => N9)
  rw [List.push_toArray] at N9
  exact hret _ _ _ _ ⟨rfl, _, _, _, by assumption, by simp, rfl⟩ (by k_asm) (news_tail N9)
theorem news_setL2 {h₀ h : Heap} {L d d2 : Addr} {o o' o2 o2' : Obj} {l : Led} {g g2 : Obj → Led} (N : News h₀ L h (setL d2 o2' (setL d o' l))) (U : UpdF d o l g) (U2 : UpdF d2 o2 (g o') g2) : News h₀ L h (g2 o2') := by
  rw [← setL_of U2, ← setL_of U]; exact N
theorem lines_25 : True := by
  (k_with "mine frames" => ((
  (case zB => k_asm); (case zF => k_asm); (case zX => k_asm); (case zN => k_asm); (case zT => k_asm); (case zK => first | exact rfl | assumption))))
  trivial
theorem lines_26 : True := by
  (k_with "mine depth" => (((try simp only [depth_mark, depth_under_make, depth_under_kw, depth_in1, depth_deeper, depth_caller]); (try dsimp only [ktrTop]); omega)))
  trivial
theorem lines_27 : True := by
  (k_with "mine units" => (((try simp only [units_in1, units_deeper, Around.mark_units, units_caller]); (try dsimp only [ktrTop]); omega)))
  trivial
theorem lines_28 : True := by
  (k_with "call ref" => ((
  k_here; (with_reducible show wpAny _ _ (call (Value.ref 226) _) _ _ _); k_dflt (
   refine' CT.use (c_assign ?hH ?hD ?hrl ?hR ?hr ?hV ?hl ?U1 ?U2 ?l1 ?l2 ?l3 ?l4 ?l5 ?hvs) ?zB ?zF ?zX ?zN ?zT ?zK ?zd ?zu ?_;
   walk_at "mine frames"; (case hH => k_mem); (case hD => k_mem); (case hrl => k_mem); (case hR => k_mem); (case hr => k_mem); (case hV => assumption); (case U1 => first | assumption | k_updF); (case U2 => first | assumption | k_updF);
   (case hl => first | assumption | solve_by_elim | decide); (case l1 => omega); (case l2 => omega); (case l3 => omega); (case l4 => omega); (case l5 => omega); (case hvs => first | omega | assumption); (case zd => walk_at "mine depth"); (case zu => walk_at "mine units"); k_whole);
  intro v' nw' h' tk' hp' F' N'; (obtain ⟨e1', V', vs', ep', hV', hlen', e2'⟩ := hp'); subst e1'; subst e2'; (try dsimp only); (try k_sweep); (try k_fold))))
  trivial
theorem c_adv_cat {w : World} {news : Led} {ch nm pl H N0 a b : Addr} {rest : Value} {i : Int} {ti tx t0 : Tok} {x : Str}
   (hch : (ch, tupO [.ref N0, rest]) ∈ news) (hN : (N0, tupO [.str (Str.ofString "cat") t0, .ref a, .ref b]) ∈ news) :
   CT w 418 [.ref ch, .int i ti, .ref nm, .str x tx, .ref pl, .ref H] 2 news (fun v nw => ∃ wy c1 c2 t', v = .ref wy ∧ nw = (wy, tupO [.ref c1, .int i t', .ref nm]) :: (c1, tupO [.ref a, .ref c2]) :: (c2, tupO [.ref b, rest]) :: news ∧ AllLt c2 news ∧ @LT.lt Nat _ c2 c1 ∧ @LT.lt Nat _ c1 wy) := by
  unfold CT
  k_fill
  intro dp un gd cn cs a ccd cl outer A₀ base h₀ L m s Q E p loose mean mg mb B F X N T hk hdp hu hret
  refine wpAny_call ?_
  refine' code_def (binds := [(Str.ofString "chain", .ref ch), (Str.ofString "at", .int i ti), (Str.ofString "named", .ref nm), (Str.ofString "subject", .str x tx), (Str.ofString "pile", .ref pl), (Str.ofString "host", .ref H)]) ?k1 ?k2 ?k3 ?k4 ?k5 ?kA ?kF ?kK ?k6 ?k7 ?k8 ?k9 ?kB ?_ ?c2 ?c3 ?c4 ?c5
  walk_at "mine rest"
  k_steps
  (rename News _ _ _ _ => N9)
  exact hret _ _ _ _ ⟨_, _, _, _, rfl, rfl, by simp_all only [], by omega, by omega⟩ (by k_asm) (news_sub N9 (.cons₂ _ (.cons₂ _ (.cons₂ _ (.cons _ (.refl _))))))
theorem c_adv_now {w : World} {news : Led} {ch nm pl H N0 a b : Addr} {rest : Value} {i : Int} {ti tx t0 : Tok} {x : Str}
   (hch : (ch, tupO [.ref N0, rest]) ∈ news) (hN : (N0, tupO [.str (Str.ofString "now") t0, .ref a, .ref b]) ∈ news) :
   CT w 418 [.ref ch, .int i ti, .ref nm, .str x tx, .ref pl, .ref H] 2 news (fun v nw => ∃ wy c1 c2 c3 t' t2 t3, v = .ref wy ∧ nw = (wy, tupO [.ref c1, .int i t', .ref nm]) :: (c1, tupO [.ref a, .ref c2]) :: (c2, tupO [.ref c3, rest]) :: (c3, tupO [.str (Str.ofString "end now") t2, .ref b, .int i t3]) :: news ∧ AllLt c3 news ∧ @LT.lt Nat _ c3 c2 ∧ @LT.lt Nat _ c2 c1 ∧ @LT.lt Nat _ c1 wy) := by
  unfold CT
  k_fill
  intro dp un gd cn cs a ccd cl outer A₀ base h₀ L m s Q E p loose mean mg mb B F X N T hk hdp hu hret
  refine wpAny_call ?_
  refine' code_def (binds := [(Str.ofString "chain", .ref ch), (Str.ofString "at", .int i ti), (Str.ofString "named", .ref nm), (Str.ofString "subject", .str x tx), (Str.ofString "pile", .ref pl), (Str.ofString "host", .ref H)]) ?k1 ?k2 ?k3 ?k4 ?k5 ?kA ?kF ?kK ?k6 ?k7 ?k8 ?k9 ?kB ?_ ?c2 ?c3 ?c4 ?c5
  walk_at "mine rest"
  k_steps
  (rename News _ _ _ _ => N9)
  exact hret _ _ _ _ ⟨_, _, _, _, _, _, _, rfl, rfl, by simp_all only [], by omega, by omega, by omega⟩ (by k_asm) (news_sub N9 (.cons₂ _ (.cons₂ _ (.cons₂ _ (.cons₂ _ (.cons _ (.refl _)))))))
theorem c_adv_end {w : World} {news : Led} {g1 g2 : Obj → Led} {V : Obj} {D : List (PyData × PyData)} {key : String} {ch nm pl H en hD dv lg rl R rD : Addr} {rest : Value} {n i b : Int} {x : Str} {ti tx t0 t1 : Tok} {vs : List Value} {ep : Nat} {ta tb tc td te tf tg th tj a1 b1 c1 d1 e1 : Tok}
   (hch : (ch, tupO [.ref en, rest]) ∈ news) (hN : (en, tupO [.str (Str.ofString "end now") t0, .ref R, .int b t1]) ∈ news)
   (hH : (H, instObj 236 hD) ∈ news) (hD' : (hD, hostD w dv rl lg n ta tb tc td te tf tg th tj) ∈ news) (hrl : (rl, listOf #[] 0) ∈ news)
   (hR : (R, instObj 145 rD) ∈ news) (hr : (rD, refD w key a1 b1 c1 d1 e1) ∈ news)
   (hV : VD w V D) (hl : ∀ x : Str, (PyProof.V.putD (.str (Str.ofString key)) (.str x) D).length ≤ 8) (U1 : UpdF dv V news g1) (U2 : UpdF lg (listOf vs.toArray ep) news g2) (hlt1 : @LT.lt Nat _ dv lg) (hlt2 : @LT.lt Nat _ dv hD) (hlt3 : @LT.lt Nat _ hD H) (hltR : @LT.lt Nat _ R dv) (hltr : @LT.lt Nat _ rD dv) (hvs : vs.length ≤ 3000)
   (hb0 : 0 ≤ b) (hbi : b ≤ i) (hix : i ≤ x.length) (hx : x.length ≤ 2000) :
   CT w 418 [.ref ch, .int i ti, .ref nm, .str x tx, .ref pl, .ref H] 3 news (fun v nw => ∃ wy V' vs' ep' t', v = .ref wy ∧ VD w V' (PyProof.V.putD (.str (Str.ofString key)) (.str (Txt.slice x (some b) (some i))) D) ∧ vs'.length = vs.length + 1 ∧ nw = (wy, tupO [rest, .int i t', .ref nm]) :: setL lg (listOf (List.toArray vs') ep') (setL dv V' news) ∧ ∀ p ∈ news, p.1 < wy) := by
  unfold CT
  k_fill
  intro dp un gd cn cs a ccd cl outer A₀ base h₀ L m s Q E p loose mean mg mb B F X N T hk hdp hu hret
  have hU := updF_at U1
  have hU2 := updF_at U2
  refine wpAny_call ?_
  refine' code_def (binds := [(Str.ofString "chain", .ref ch), (Str.ofString "at", .int i ti), (Str.ofString "named", .ref nm), (Str.ofString "subject", .str x tx), (Str.ofString "pile", .ref pl), (Str.ofString "host", .ref H)]) ?k1 ?k2 ?k3 ?k4 ?k5 ?kA ?kF ?kK ?k6 ?k7 ?k8 ?k9 ?kB ?_ ?c2 ?c3 ?c4 ?c5
  walk_at "mine rest"
  k_steps
  (rename News _ _ _ _ => N9)
  have N8 := news_ne2 N9 (by k_ne) (by k_ne)
  exact hret _ _ _ _ ⟨_, _, _, _, _, rfl, by assumption, by assumption, rfl, fun p hp => lt_setL _ (lt_setL _ (by assumption)) p (List.Mem.tail _ hp)⟩ (by k_asm) N8
theorem c_adv_any {w : World} {news : Led} {ch nm pl H N6 : Addr} {rest : Value} {i : Int} {x : Str} {ti tx t7 t8 : Tok}
   (hch : (ch, tupO [.ref N6, rest]) ∈ news) (hN : (N6, tupO [.str (Str.ofString "any") t7, .str (Str.ofString "abc") t8]) ∈ news)
   (hi : i = 0) (hx : x.length ≤ 2000) :
   CT w 418 [.ref ch, .int i ti, .ref nm, .str x tx, .ref pl, .ref H] 6 news (fun v nw => (okA x ∧ Way news rest 1 nm v nw) ∨ (¬ okA x ∧ v = .none ∧ nw = news)) := by
  unfold CT
  k_fill
  intro dp un gd cn cs a ccd cl outer A₀ base h₀ L m s Q E p loose mean mg mb B F X N T hk hdp hu hret
  subst hi
  refine wpAny_call ?_
  refine' code_def (binds := [(Str.ofString "chain", .ref ch), (Str.ofString "at", .int 0 ti), (Str.ofString "named", .ref nm), (Str.ofString "subject", .str x tx), (Str.ofString "pile", .ref pl), (Str.ofString "host", .ref H)]) ?k1 ?k2 ?k3 ?k4 ?k5 ?kA ?kF ?kK ?k6 ?k7 ?k8 ?k9 ?kB ?_ ?c2 ?c3 ?c4 ?c5
  walk_at "mine rest"
  k_steps
  all_goals (rename News _ _ _ _ => N9)
  all_goals first
    | exact hret _ _ _ _ (.inl ⟨⟨by assumption, by assumption⟩, _, _, rfl, rfl, by simp_all only []⟩) (by k_asm) (news_sub N9 (.cons₂ _ (.cons _ (.cons _ (.refl _)))))
    | exact hret _ _ _ _ (.inr ⟨fun h => Bool.noConfusion (h.2.symm.trans (by assumption)), rfl, rfl⟩) (by k_asm) (news_sub N9 (.cons _ (.cons _ (.refl _))))
    | exact hret _ _ _ _ (.inr ⟨fun h => absurd h.1 (by assumption), rfl, rfl⟩) (by k_asm) (news_sub N9 (.cons _ (.cons _ (.refl _))))
theorem c_adv_len {w : World} {news : Led} {ch nm pl H N3 : Addr} {rest : Value} {i : Int} {x : Str} {ti tx t7 t8 : Tok}
   (hch : (ch, tupO [.ref N3, rest]) ∈ news) (hN : (N3, tupO [.str (Str.ofString "len") t7, .int 1 t8]) ∈ news)
   (hi : i = 1) (hx : x.length ≤ 2000) :
   CT w 418 [.ref ch, .int i ti, .ref nm, .str x tx, .ref pl, .ref H] 6 news (fun v nw => (1 + 1 ≤ (x.length : Int) ∧ Way news rest 2 nm v nw) ∨ (¬ 1 + 1 ≤ (x.length : Int) ∧ v = .none ∧ nw = news)) := by
  unfold CT
  k_fill
  intro dp un gd cn cs a ccd cl outer A₀ base h₀ L m s Q E p loose mean mg mb B F X N T hk hdp hu hret
  subst hi
  refine wpAny_call ?_
  refine' code_def (binds := [(Str.ofString "chain", .ref ch), (Str.ofString "at", .int 1 ti), (Str.ofString "named", .ref nm), (Str.ofString "subject", .str x tx), (Str.ofString "pile", .ref pl), (Str.ofString "host", .ref H)]) ?k1 ?k2 ?k3 ?k4 ?k5 ?kA ?kF ?kK ?k6 ?k7 ?k8 ?k9 ?kB ?_ ?c2 ?c3 ?c4 ?c5
  walk_at "mine rest"
  k_steps
  all_goals (rename News _ _ _ _ => N9)
  all_goals first
    | exact hret _ _ _ _ (.inl ⟨by assumption, _, _, rfl, rfl, by simp_all only []⟩) (by k_asm) (news_sub N9 (.cons₂ _ (.cons _ (.cons _ (.refl _)))))
    | exact hret _ _ _ _ (.inr ⟨by assumption, rfl, rfl⟩) (by k_asm) (news_sub N9 (.cons _ (.cons _ (.refl _))))
theorem c_adv_rem {w : World} {news : Led} {ch nm pl H N5 : Addr} {rest : Value} {i : Int} {x : Str} {ti tx t6 : Tok}
   (hch : (ch, tupO [.ref N5, rest]) ∈ news) (hN : (N5, tupO [.str (Str.ofString "rem") t6]) ∈ news)
   (hx : x.length ≤ 2000) :
   CT w 418 [.ref ch, .int i ti, .ref nm, .str x tx, .ref pl, .ref H] 6 news (fun v nw => Way news rest x.length nm v nw) := by
  unfold CT
  k_fill
  intro dp un gd cn cs a ccd cl outer A₀ base h₀ L m s Q E p loose mean mg mb B F X N T hk hdp hu hret
  refine wpAny_call ?_
  refine' code_def (binds := [(Str.ofString "chain", .ref ch), (Str.ofString "at", .int i ti), (Str.ofString "named", .ref nm), (Str.ofString "subject", .str x tx), (Str.ofString "pile", .ref pl), (Str.ofString "host", .ref H)]) ?k1 ?k2 ?k3 ?k4 ?k5 ?kA ?kF ?kK ?k6 ?k7 ?k8 ?k9 ?kB ?_ ?c2 ?c3 ?c4 ?c5
  walk_at "mine rest"
  k_steps
  (rename News _ _ _ _ => N9)
  exact hret _ _ _ _ ⟨_, _, rfl, rfl, by simp_all only []⟩ (by k_asm) (news_sub N9 (.cons₂ _ (.cons _ (.cons _ (.refl _)))))
theorem okA_len {x : Str} (h : okA x) : 0 < (x.length : Int) := h.1
theorem news_cons2 {h₀ h : Heap} {L d d2 : Addr} {o o' o2 o2' : Obj} {t : Addr × Obj} {l : Led} {g g2 : Obj → Led} (N : News h₀ L h (t :: setL d2 o2' (setL d o' l))) (U : UpdF d o l g) (U2 : UpdF d2 o2 (g o') g2) : News h₀ L h (t :: g2 o2') := by
  rw [← setL_of U2, ← setL_of U]; exact N
theorem lines_29 : True := by
  (k_with "call ref" => ((
  k_here; (with_reducible show wpAny _ _ (call (Value.ref 233) _) _ _ _); walk_at "mine step")))
  trivial
theorem lines_30 : True := by
  (k_with "mine step" => ((
  k_dflt (
   refine' CT.use (c_step ?hH ?U ?l1 ?n0 ?n1) ?zB ?zF ?zX ?zN ?zT ?zK ?zd ?zu ?_;
   walk_at "mine frames"; (case hH => k_mem); (case U => first | assumption | k_updF);
   (case l1 => omega); (case n0 => omega); (case n1 => omega); (case zd => walk_at "mine depth"); (case zu => walk_at "mine units"); k_whole);
  intro v' nw' h' tk' hp' F' N'; (obtain ⟨e1', th', e2'⟩ := hp'); subst e1'; subst e2'; (try (k_dflt (replace N' := news_setL N' (by k_updF)))); (try dsimp only at N'); (try dsimp only); (try k_sweep); (try k_fold))))
  trivial
theorem lines_31 : True := by
  (k_with "mine adv cat" => ((
  k_dflt (
   refine' CT.use (c_adv_cat ?h1 ?h2) ?zB ?zF ?zX ?zN ?zT ?zK ?zd ?zu ?_;
   walk_at "mine frames"; (case h1 => k_mem); (case h2 => k_mem);
   (case zd => walk_at "mine depth"); (case zu => walk_at "mine units"); k_whole);
  intro v' nw' h' tk' hp' F' N'; (obtain ⟨wy', c1', c2', t', e1', e2', l1', l2', l3'⟩ := hp'); subst e1'; subst e2'; (try simp only [AllLt, and_true] at l1'); (try dsimp only); (try k_sweep); (try k_fold))))
  trivial
theorem lines_32 : True := by
  (k_with "mine adv now" => ((
  k_dflt (
   refine' CT.use (c_adv_now ?h1 ?h2) ?zB ?zF ?zX ?zN ?zT ?zK ?zd ?zu ?_;
   walk_at "mine frames"; (case h1 => k_mem); (case h2 => k_mem);
   (case zd => walk_at "mine depth"); (case zu => walk_at "mine units"); k_whole);
  intro v' nw' h' tk' hp' F' N'; (obtain ⟨wy', c1', c2', c3', t', t2', t3', e1', e2', l1', l2', l3', l4'⟩ := hp'); subst e1'; subst e2'; (try simp only [AllLt, and_true] at l1'); (try dsimp only); (try k_sweep); (try k_fold))))
  trivial
theorem lines_33 : True := by
  (k_with "mine adv any" => ((
  k_dflt (
   refine' CT.use (c_adv_any ?h1 ?h2 ?hi ?hx) ?zB ?zF ?zX ?zN ?zT ?zK ?zd ?zu ?_;
   walk_at "mine frames"; (case h1 => k_mem); (case h2 => k_mem); (case hi => first | omega | rfl | simp); (case hx => omega);
   (case zd => walk_at "mine depth"); (case zu => walk_at "mine units"); k_whole);
  intro v' nw' h' tk' hp' F' N'; (rcases hp' with ⟨hA', wy', t', e1', e2', l1'⟩ | ⟨hA', e1', e2'⟩); all_goals (subst e1'; subst e2'; (try have hA0 := okA_len hA'); (try simp only [AllLt, and_true] at l1'); (try dsimp only); (try k_sweep); (try k_fold)))))
  trivial
theorem lines_34 : True := by
  (k_with "mine adv len" => ((
  k_dflt (
   refine' CT.use (c_adv_len ?h1 ?h2 ?hi ?hx) ?zB ?zF ?zX ?zN ?zT ?zK ?zd ?zu ?_;
   walk_at "mine frames"; (case h1 => k_mem); (case h2 => k_mem); (case hi => first | omega | rfl | simp); (case hx => omega);
   (case zd => walk_at "mine depth"); (case zu => walk_at "mine units"); k_whole);
  intro v' nw' h' tk' hp' F' N'; (rcases hp' with ⟨hA', wy', t', e1', e2', l1'⟩ | ⟨hA', e1', e2'⟩); all_goals (subst e1'; subst e2'; (try simp only [AllLt, and_true] at l1'); (try dsimp only); (try k_sweep); (try k_fold)))))
  trivial
theorem lines_35 : True := by
  (k_with "mine adv rem" => ((
  k_dflt (
   refine' CT.use (c_adv_rem ?h1 ?h2 ?hx) ?zB ?zF ?zX ?zN ?zT ?zK ?zd ?zu ?_;
   walk_at "mine frames"; (case h1 => k_mem); (case h2 => k_mem); (case hx => omega);
   (case zd => walk_at "mine depth"); (case zu => walk_at "mine units"); k_whole);
  intro v' nw' h' tk' hp' F' N'; (obtain ⟨wy', t', e1', e2', l1'⟩ := hp'); subst e1'; subst e2'; (try simp only [AllLt, and_true] at l1'); (try dsimp only); (try k_sweep); (try k_fold))))
  trivial
theorem lines_36 : True := by
  (k_with "mine adv end" => ((
  k_dflt (
   refine' CT.use (c_adv_end ?h1 ?h2 ?hH ?hD ?hrl ?hR ?hr ?hV ?hl ?U1 ?U2 ?l1 ?l2 ?l3 ?l4 ?l5 ?hvs ?b0 ?bi ?ix ?hx) ?zB ?zF ?zX ?zN ?zT ?zK ?zd ?zu ?_;
   walk_at "mine frames"; (case h1 => k_mem); (case h2 => k_mem); (case hH => k_mem); (case hD => k_mem); (case hrl => k_mem); (case hR => k_mem); (case hr => k_mem); (case hV => assumption); (case U1 => first | assumption | k_updF); (case U2 => first | assumption | k_updF);
   (case hl => first | assumption | solve_by_elim); (case l1 => omega); (case l2 => omega); (case l3 => omega); (case l4 => omega); (case l5 => omega); (case hvs => first | omega | assumption); (case b0 => omega); (case bi => omega); (case ix => omega); (case hx => omega);
   (case zd => walk_at "mine depth"); (case zu => walk_at "mine units"); k_whole);
  intro v' nw' h' tk' hp' F' N'; (obtain ⟨wy', V', vs', ep', t', e1', hV', hlen', e2', l1'⟩ := hp'); subst e1'; subst e2'; replace l1' := allLt_of l1'; (try simp only [AllLt, and_true] at l1'); (try (k_dflt (replace N' := news_cons2 N' (by k_updF) (by k_updF)))); (try dsimp only at N'); (try dsimp only); (try k_sweep); (try k_fold))))
  trivial
theorem lines_37 : True := by
  (k_with "call ref" => ((
  k_here; (with_reducible show wpAny _ _ (call (Value.ref 418) _) _ _ _); first | walk_at "mine adv cat" | walk_at "mine adv now" | walk_at "mine adv any" | walk_at "mine adv len" | walk_at "mine adv rem" | walk_at "mine adv end")))
  trivial

theorem lines_38 : True := by
  (k_with "mine sub" => ((repeat (first | exact List.Sublist.refl _ | apply List.Sublist.cons_cons | apply List.Sublist.cons))))
  trivial
structure NodeAt (w : World) (own : Led) (N0 dv : Addr) : Prop where
  mk ::
  all : ∃ (N1 N2 N3 N4 N5 N6 R1 R2 r1 r2 : Addr) (t0 t1 t2 t3 t4 t5 t6 t7 t8 a1 b1 c1 d1 e1 a2 b2 c2 d2 e2 : Tok),
   (N0, tupO [.str (Str.ofString "cat") t0, .ref N1, .ref N2]) ∈ own ∧
   (N1, tupO [.str (Str.ofString "now") t1, .ref N6, .ref R1]) ∈ own ∧
   (N2, tupO [.str (Str.ofString "cat") t2, .ref N3, .ref N4]) ∈ own ∧
   (N3, tupO [.str (Str.ofString "len") t3, .int 1 t4]) ∈ own ∧
   (N4, tupO [.str (Str.ofString "now") t5, .ref N5, .ref R2]) ∈ own ∧
   (N5, tupO [.str (Str.ofString "rem") t6]) ∈ own ∧
   (N6, tupO [.str (Str.ofString "any") t7, .str (Str.ofString "abc") t8]) ∈ own ∧
   (R1, instObj 145 r1) ∈ own ∧ (r1, refD w "A" a1 b1 c1 d1 e1) ∈ own ∧
   (R2, instObj 145 r2) ∈ own ∧ (r2, refD w "R" a2 b2 c2 d2 e2) ∈ own ∧
   @LT.lt Nat _ R1 dv ∧ @LT.lt Nat _ r1 dv ∧ @LT.lt Nat _ R2 dv ∧ @LT.lt Nat _ r2 dv

def Hst (w : World) (dv hD lg rl : Addr) (n : Int) (vn : Nat) (D : List (PyData × PyData)) (l : Led) (own : Led) : Prop :=
  ∃ V vs ep ta tb tc td te tf tg th ti, VD w V D ∧ vs.length = vn ∧ l = (dv, V) :: (hD, hostD w dv rl lg n ta tb tc td te tf tg th ti) :: (lg, listOf (List.toArray vs) ep) :: own

theorem c_tried {w : World} {own : Led} {N0 H hD dv lg rl : Addr} {n : Int} {x : Str} {V : Obj} {D : List (PyData × PyData)} {b : Int} {vs : List Value} {ep : Nat} {t tb' ta tb tc td te tf tg th ti : Tok}
   (hN : NodeAt w own N0 dv)
   (hH : (H, instObj 236 hD) ∈ own) (hrl : (rl, listOf #[] 0) ∈ own)
   (hV : VD w V D) (hlD1 : ∀ x : Str, (PyProof.V.putD (.str (Str.ofString "A")) (.str x) D).length ≤ 8) (hlD2 : ∀ x y : Str, (PyProof.V.putD (.str (Str.ofString "R")) (.str y) (PyProof.V.putD (.str (Str.ofString "A")) (.str x) D)).length ≤ 8)
   (hoff : OwnOff own [dv, hD, lg]) (hlt1 : @LT.lt Nat _ dv hD) (hlt2 : @LT.lt Nat _ hD lg) (hlt3 : @LT.lt Nat _ hD H)
   (hn0 : 0 ≤ n) (hn : n ≤ 9900) (hx : x.length ≤ 2000) (hvs : vs.length ≤ 2900) (hb : b = 0) :
   CT w 411 [.ref N0, .str x t, .int b tb', .ref H] 20 ((dv, V) :: (hD, hostD w dv rl lg n ta tb tc td te tf tg th ti) :: (lg, listOf vs.toArray ep) :: own) (fun v nw =>
     ((okA x ∧ 1 + 1 ≤ (x.length : Int)) ∧ ∃ tp ls V' vs' ep' n' th' t' e', v = .ref tp ∧ VD w V' (PyProof.V.putD (.str (Str.ofString "R")) (.str (Txt.slice x (some 2) (some x.length))) (PyProof.V.putD (.str (Str.ofString "A")) (.str (Txt.slice x (some 0) (some 1))) D)) ∧
        vs'.length = vs.length + 2 ∧ n ≤ n' ∧ n' ≤ n + 9 ∧ nw = (tp, tupO [.int x.length t', .ref ls]) :: (ls, listOf #[] e') :: (dv, V') :: (hD, hostD w dv rl lg n' ta tb tc td te tf tg th' ti) :: (lg, listOf (List.toArray vs') ep') :: own ∧
        AllLt ls own ∧ @LT.lt Nat _ lg ls ∧ @LT.lt Nat _ ls tp) ∨ (¬ (okA x ∧ 1 + 1 ≤ (x.length : Int)) ∧ v = .none ∧ nw = own)) := by
  obtain ⟨N1, N2, N3, N4, N5, N6, R1, R2, r1, r2, t0, t1, t2, t3, t4, t5, t6, t7, t8, a1, b1, c1, d1, e1, a2, b2, c2, d2, e2, h0, h1, h2, h3, h4, h5, h6, hR1, hr1, hR2, hr2, q1, q2, q3, q4⟩ := hN.all
  clear hN
  subst hb
  unfold CT
  k_fill
  intro dp un gd cn cs a ccd cl outer A₀ base h₀ L m s Q E p loose mean mg mb B F X N T hk hdp hu hret
  refine wpAny_call ?_
  refine' code_def (binds := [(Str.ofString "node", .ref N0), (Str.ofString "subject", .str x t), (Str.ofString "begin", .int 0 tb'), (Str.ofString "host", .ref H)]) ?k1 ?k2 ?k3 ?k4 ?k5 ?kA ?kF ?kK ?k6 ?k7 ?k8 ?k9 ?kB ?_ ?c2 ?c3 ?c4 ?c5
  walk_at "mine rest"
  k_steps
  all_goals (rename News _ _ _ _ => N9)
  · have N8 : News _ _ _ ((_, tupO [_, .ref _]) :: (_, listOf #[] _) :: (dv, _) :: (hD, _) :: (lg, _) :: own) := news_sub N9 (by walk_at "mine sub")
    exact hret _ _ _ _ (.inl ⟨⟨by assumption, by assumption⟩, _, _, _, _, _, _, _, _, _, rfl, by assumption, by omega, by omega, by omega, rfl, by tbn_find, by omega, by omega⟩) (by k_asm) N8
  · exact hret _ _ _ _ (.inr ⟨fun h => absurd h.2 (by assumption), rfl, rfl⟩) (by k_asm) (news_sub N9 (by walk_at "mine sub"))
  · exact hret _ _ _ _ (.inr ⟨fun h => absurd h.1 (by assumption), rfl, rfl⟩) (by k_asm) (news_sub N9 (by walk_at "mine sub"))
theorem NodeAt.more {w : World} {own : Led} {N0 dv : Addr} (h : NodeAt w own N0 dv) {l : Led} (hs : ∀ p ∈ own, p ∈ l) : NodeAt w l N0 dv := by
  obtain ⟨N1, N2, N3, N4, N5, N6, R1, R2, r1, r2, t0, t1, t2, t3, t4, t5, t6, t7, t8, a1, b1, c1, d1, e1, a2, b2, c2, d2, e2, h0, h1, h2, h3, h4, h5, h6, hR1, hr1, hR2, hr2, q1, q2, q3, q4⟩ := h.all
  exact ⟨N1, N2, N3, N4, N5, N6, R1, R2, r1, r2, t0, t1, t2, t3, t4, t5, t6, t7, t8, a1, b1, c1, d1, e1, a2, b2, c2, d2, e2, hs _ h0, hs _ h1, hs _ h2, hs _ h3, hs _ h4, hs _ h5, hs _ h6, hs _ hR1, hs _ hr1, hs _ hR2, hs _ hr2, q1, q2, q3, q4⟩
theorem off_cons {own : Led} {a b c d : Addr} {o : Obj} (h : OwnOff own [b, c, d]) (h1 : a ≠ b) (h2 : a ≠ c) (h3 : a ≠ d) : OwnOff ((a, o) :: own) [b, c, d] := by
  intro p hp e he
  rcases List.mem_cons.mp hp with rfl | hp
  · rcases List.mem_cons.mp he with rfl | he
    · exact h1
    · rcases List.mem_cons.mp he with rfl | he
      · exact h2
      · rw [List.mem_singleton.mp he]; exact h3
  · exact h p hp e he
theorem news_front3 {h₀ h : Heap} {L : Addr} {a b c d : Addr × Obj} {r : Led} (N : News h₀ L h (a :: b :: c :: d :: r)) : News h₀ L h (b :: c :: d :: a :: r) := fun p hp => N p (by
  simp only [List.mem_cons] at hp ⊢
  rcases hp with e | e | e | e | e
  · exact .inr (.inl e)
  · exact .inr (.inr (.inl e))
  · exact .inr (.inr (.inr (.inl e)))
  · exact .inl e
  · exact .inr (.inr (.inr (.inr e))))
theorem lines_39 : True := by
  (k_with "call ref" => ((
  k_here; (with_reducible show wpAny _ _ (call (Value.ref 411) _) _ _ _); k_dflt (
   refine' CT.use (c_tried ?hN ?hH ?hrl ?hV ?hl1 ?hl2 ?hoff ?l1 ?l2 ?l3 ?n0 ?n1 ?hx ?hvs ?hb) ?zB ?zF ?zX ?zN ?zT ?zK ?zd ?zu ?_;
   (case zN => exact news_front3 (by k_asm)); (case zB => k_asm); (case zF => k_asm); (case zX => k_asm); (case zT => k_asm); (case zK => first | exact rfl | assumption);
   (case hN => refine' NodeAt.more ?hNN (fun p hp => List.Mem.tail _ hp); (case hNN => with_reducible assumption)); (case hH => k_mem); (case hrl => k_mem); (case hV => with_reducible assumption); (case hl1 => with_reducible assumption); (case hl2 => with_reducible assumption);
   (case hoff => refine' off_cons ?ho1 ?ho2 ?ho3 ?ho4; (case ho1 => with_reducible assumption); (case ho2 => k_ne); (case ho3 => k_ne); (case ho4 => k_ne));
   (case l1 => omega); (case l2 => omega); (case l3 => omega); (case n0 => omega); (case n1 => omega); (case hx => omega); (case hvs => omega); (case hb => first | rfl | omega | simp);
   (case zd => walk_at "mine depth"); (case zu => walk_at "mine units"); k_whole);
  intro v' nw' h' tk' hp' F' N'; (rcases hp' with ⟨⟨hA', hL'⟩, tp', ls', V', vs', ep', n', th', t', e', e1', hV', hlen', hn1', hn2', e2', l1', l2', l3'⟩ | ⟨hno', e1', e2'⟩); all_goals (subst e1'; subst e2'; (try simp only [AllLt, and_true] at l1'); (try dsimp only); (try k_sweep); (try k_fold)))))
  trivial

theorem unr_own {h₀ : Heap} {L I : Addr} {it : Obj} {rest : (Str → Option Value) → List (Addr × Obj) → Prop} {s₁ : Shared} {h' : Heap} {tk : Nat} {m' : Str → Option Value} {own : Led} (F : Fr h₀ L h' m') (N : News h₀ L h' ((I, it) :: own))
    (off : AllLt I own) (r : rest m' own) : UnrEnd h₀ L s₁ I it rest { s₁ with heap := h', toks := tk } := UnrEnd.intro F N own (fun _ hp => hp) (tbn_neAll off) r
theorem lines_40 : True := by
  (k_with "UnrEnd" => ((k_here; k_dflt (refine' unr_own ?uF ?uN ?uo ?_; (case uF => k_asm); (case uN => k_asm); (case uo => tbn_find)))))
  trivial
theorem c_match {w : World} {own : Led} {N0 H hD dv lg rl : Addr} {n : Int} {x : Str} {V : Obj} {D : List (PyData × PyData)} {vs : List Value} {ep : Nat} {t ta tb tc td te tf tg th ti : Tok}
   (hN : NodeAt w own N0 dv)
   (hH : (H, instObj 236 hD) ∈ own) (hrl : (rl, listOf #[] 0) ∈ own)
   (hV : VD w V D) (hlD1 : ∀ x : Str, (PyProof.V.putD (.str (Str.ofString "A")) (.str x) D).length ≤ 8) (hlD2 : ∀ x y : Str, (PyProof.V.putD (.str (Str.ofString "R")) (.str y) (PyProof.V.putD (.str (Str.ofString "A")) (.str x) D)).length ≤ 8)
   (hoff : OwnOff own [dv, hD, lg]) (hlt1 : @LT.lt Nat _ dv hD) (hlt2 : @LT.lt Nat _ hD lg) (hlt3 : @LT.lt Nat _ hD H)
   (hn0 : 0 ≤ n) (hn : n ≤ 9900) (hx : x.length ≤ 2000) (hvs : vs.length ≤ 2900) :
   CT w 397 [.ref N0, .str x t, .bool true, .ref H] 24 ((dv, V) :: (hD, hostD w dv rl lg n ta tb tc td te tf tg th ti) :: (lg, listOf vs.toArray ep) :: own) (fun v nw =>
     ((okA x ∧ 1 + 1 ≤ (x.length : Int)) ∧ ∃ tp ls V' vs' ep' n' th' t' t2' e', v = .ref tp ∧ VD w V' (PyProof.V.putD (.str (Str.ofString "R")) (.str (Txt.slice x (some 2) (some x.length))) (PyProof.V.putD (.str (Str.ofString "A")) (.str (Txt.slice x (some 0) (some 1))) D)) ∧
        vs'.length = vs.length + 2 ∧ n ≤ n' ∧ n' ≤ n + 9 ∧ nw = (tp, tupO [.int 0 t2', .int x.length t', .ref ls]) :: (ls, listOf #[] e') :: (dv, V') :: (hD, hostD w dv rl lg n' ta tb tc td te tf tg th' ti) :: (lg, listOf (List.toArray vs') ep') :: own ∧
        AllLt ls own ∧ @LT.lt Nat _ lg ls ∧ @LT.lt Nat _ ls tp) ∨ (¬ (okA x ∧ 1 + 1 ≤ (x.length : Int)) ∧ v = .none ∧ nw = own)) := by
  unfold CT
  k_fill
  intro dp un gd cn cs a ccd cl outer A₀ base h₀ L m s Q E p loose mean mg mb B F X N T hk hdp hu hret
  refine wpAny_call ?_
  refine' code_def (binds := [(Str.ofString "node", .ref N0), (Str.ofString "subject", .str x t), (Str.ofString "is_anchored", .bool true), (Str.ofString "host", .ref H)]) ?k1 ?k2 ?k3 ?k4 ?k5 ?kA ?kF ?kK ?k6 ?k7 ?k8 ?k9 ?kB ?_ ?c2 ?c3 ?c4 ?c5
  walk_at "mine rest"
  k_steps
  · (rename News _ _ _ _ => N9)
    have N8 : News _ _ _ ((_, tupO [_, _, .ref _]) :: (_, listOf #[] _) :: (dv, _) :: (hD, _) :: (lg, _) :: own) := news_sub N9 (by walk_at "mine sub")
    exact hret _ _ _ _ (.inl ⟨⟨by assumption, by assumption⟩, _, _, _, _, _, _, _, _, _, _, rfl, by assumption, by assumption, by assumption, by assumption, rfl, by tbn_find, by omega, by omega⟩) (by k_asm) N8
  · exact hret _ _ _ _ (.inr ⟨by assumption, rfl, rfl⟩) (by k_asm) (by k_asm)
/-- what the names' dict may hold between deeds -/
def DOK (D : List (PyData × PyData)) : Prop := D = [] ∨ ∃ a r, D = [(.str (Str.ofString "A"), .str a), (.str (Str.ofString "R"), .str r)]
theorem put2 {D : List (PyData × PyData)} (h : DOK D) (x y : Str) : PyProof.V.putD (.str (Str.ofString "R")) (.str y) (PyProof.V.putD (.str (Str.ofString "A")) (.str x) D) = [(.str (Str.ofString "A"), .str x), (.str (Str.ofString "R"), .str y)] := by
  rcases h with rfl | ⟨a, r, rfl⟩ <;> rfl
theorem put1_len {D : List (PyData × PyData)} (h : DOK D) (x : Str) : (PyProof.V.putD (.str (Str.ofString "A")) (.str x) D).length ≤ 8 := by
  rcases h with rfl | ⟨a, r, rfl⟩
  · exact (by decide : 1 ≤ 8)
  · exact (by decide : 2 ≤ 8)
theorem put2_len {D : List (PyData × PyData)} (h : DOK D) (x y : Str) : (PyProof.V.putD (.str (Str.ofString "R")) (.str y) (PyProof.V.putD (.str (Str.ofString "A")) (.str x) D)).length ≤ 8 := by
  rw [put2 h]; exact (by decide : 2 ≤ 8)
def addOf (j k : Int) (a : Str) : Str :=
  if a = Str.ofString "a" then Str.ofString "bc" else if a = Str.ofString "b" then Txt.mul (Str.ofString "a") j else Txt.mul (Str.ofString "a") k
def nextOf (j k : Int) (x : Str) : Str := Txt.slice x (some 2) (some x.length) ++ addOf j k (Txt.slice x (some 0) (some 1))
/-- what the closure gives back -/
def TextOf (w : World) (bf H hD dv lg rl : Addr) (j k : Int) (own : Led) : Prop :=
  ∀ (led : Led) (V : Obj) (D : List (PyData × PyData)) (n : Int) (ta tb tc td te tf tg th ti : Tok) (a y : Str), (∀ p ∈ own, p ∈ led) → (dv, V) ∈ led → VD w V D → PySem.Spec.lookup (.str (Str.ofString "R")) D = some (.str y) → PySem.Spec.lookup (.str (Str.ofString "A")) D = some (.str a) →
    (a = Str.ofString "a" ∨ a = Str.ofString "b" ∨ a = Str.ofString "c") → (hD, hostD w dv rl lg n ta tb tc td te tf tg th ti) ∈ led → y.length ≤ 3000 →
    CT w bf [.ref H] 3 led (fun v nw => (∃ t', v = .str (y ++ addOf j k a) t') ∧ nw = led)
theorem TextOf.use {w : World} {bf H hD dv lg rl : Addr} {j k : Int} {own led : Led} {V : Obj} {D : List (PyData × PyData)} {n : Int} {ta tb tc td te tf tg th ti : Tok} {a y : Str} (hB : TextOf w bf H hD dv lg rl j k own) (hs : ∀ p ∈ own, p ∈ led) (hm : (dv, V) ∈ led) (hV : VD w V D) (hR : PySem.Spec.lookup (.str (Str.ofString "R")) D = some (.str y)) (hA : PySem.Spec.lookup (.str (Str.ofString "A")) D = some (.str a))
    (ha : a = Str.ofString "a" ∨ a = Str.ofString "b" ∨ a = Str.ofString "c") (hD' : (hD, hostD w dv rl lg n ta tb tc td te tf tg th ti) ∈ led) (hy : y.length ≤ 3000) :
    CT w bf [.ref H] 3 led (fun v nw => (∃ t', v = .str (y ++ addOf j k a) t') ∧ nw = led) := hB led V D n ta tb tc td te tf tg th ti a y hs hm hV hR hA ha hD' hy
theorem next_len {j k : Int} {x z : Str} {u : Option Int} (hadd : ∀ a, (addOf j k a).length ≤ 3) (h : Txt.slice x (some 2) u ++ addOf j k (Txt.slice x (some 0) (some 1)) = z) : z.length ≤ x.length + 3 := by
  rw [← h, Str.length_append]
  have h1 := Txt.slice_le x (some 2) u
  have h2 := hadd (Txt.slice x (some 0) (some 1))
  omega
theorem slice2_len (x : Str) (b i : Option Int) : (Txt.slice x b i).length ≤ x.length := Txt.slice_le x b i
theorem lines_41 : True := by
  (k_with "call ref" => ((
  k_here; (with_reducible show wpAny _ _ (call (Value.ref 397) _) _ _ _); k_dflt (
   refine' CT.use (c_match ?hN ?hH ?hrl ?hV ?hl1 ?hl2 ?hoff ?l1 ?l2 ?l3 ?n0 ?n1 ?hx ?hvs) ?zB ?zF ?zX ?zN ?zT ?zK ?zd ?zu ?_;
   walk_at "mine frames";
   (case hN => with_reducible assumption); (case hH => k_mem); (case hrl => k_mem); (case hV => with_reducible assumption); (case hl1 => exact put1_len (by with_reducible assumption)); (case hl2 => exact put2_len (by with_reducible assumption));
   (case hoff => with_reducible assumption);
   (case l1 => omega); (case l2 => omega); (case l3 => omega); (case n0 => omega); (case n1 => omega); (case hx => omega); (case hvs => omega);
   (case zd => walk_at "mine depth"); (case zu => walk_at "mine units"); k_whole);
  intro v' nw' h' tk' hp' F' N'; (rcases hp' with ⟨⟨hA', hL'⟩, tp', ls', V', vs', ep', n', th', t', t2', e', e1', hV', hlen', hn1', hn2', e2', l1', l2', l3'⟩ | ⟨hno', e1', e2'⟩); all_goals (subst e1'; subst e2'; (try simp only [AllLt, and_true] at l1'); (try rw [put2 (by with_reducible assumption)] at hV'); (try dsimp only); (try k_sweep); (try k_fold)))))
  trivial
theorem lines_42 : True := by
  (k_with "callWith ref" => ((k_here; k_dflt (refine' callWith_F ?k1 ?_; (case k1 => refine' FnAt.of ?fN ?fm; (case fN => k_asm); (case fm => k_mem)); k_whole))))
  trivial
theorem lines_43 : True := by
  (k_with "callWith ref" => ((k_here; k_dflt (first
  | (refine' callWith_P ?k1 ?k2 ?k3 ?_; (case k1 => k_asm); (case k2 => k_is); (case k3 => rfl); k_whole)))))
  trivial

theorem lines_44 : True := by
  (k_with "exec For Tuple Subscript cons nil" => ((k_here; (rename Fr _ _ _ _ => lF'); (with_unfolding_all refine' For_turns lF' ?_; k_whole))))
  trivial
theorem iter_nil {prog : Program} {w : World} {A : Around} {E : Value → Shared → Prop} {s : Shared} {env : Env} {h₀ : Heap} {target : Expr} {body : List Stmt} {Q : Flow → Shared → Prop} {ax : Addr} {n : Nat} {m₀ : Str → Option Value} {news : Led}
    (hh : A.handled = none) (F : Fr h₀ env.locals s.heap m₀) (N : News h₀ env.locals s.heap news) (hm : (ax, listOf #[] n) ∈ news)
    (h : ∀ h' tk', Fr h₀ env.locals h' m₀ → News h₀ env.locals h' news → Q .next { s with heap := h', toks := tk' }) :
    wpAny (model prog w) A (pyIter (.ref ax)) (fun it s₂ => TurnsAt prog w A h₀ env target body Q E it s₂) E s :=
  iter_listTurns (vs := []) hh F N hm rfl rfl (fun _ _ => h)
local macro_rules | `(tactic| walk_at "pyIter ref") => `(tactic| k_extra "mine pyIter")
theorem lines_45 : True := by
  (k_with "mine pyIter" => ((k_here; (with_reducible show wpAny _ _ (pyIter (Value.ref _)) (fun it s₂ => TurnsAt _ _ _ _ _ _ _ _ _ it s₂) _ _); (with_unfolding_all refine' iter_nil ?h ?F ?N ?m ?_; (case h => with_unfolding_all rfl); (case F => k_asm); (case N => k_asm); (case m => k_dflt k_mem); k_whole); intro h' tk' F' N'; (try k_sweep))))
  trivial
theorem lines_46 : True := by
  (k_with "call ref" => ((
  k_here; (with_reducible rename TextOf _ _ _ _ _ _ _ _ _ _ => hB9); k_dflt (
   refine' CT.use (TextOf.use hB9 ?hs ?hm ?hV ?hR ?hA ?ha ?hD ?hy) ?zB ?zF ?zX ?zN ?zT ?zK ?zd ?zu ?_;
   walk_at "mine frames";
   (case hs => intro p hp; k_ownIn); (case hm => k_mem); (case hD => k_mem); (case hV => with_reducible assumption); (case hR => exact rfl); (case hA => exact rfl); (case ha => exact okA_one (by with_reducible assumption)); (case hy => exact Nat.le_trans (slice2_len _ _ _) (by omega));
   (case zd => walk_at "mine depth"); (case zu => walk_at "mine units"); k_whole);
  intro v' nw' h' tk' hp' F' N'; (obtain ⟨⟨t', e1'⟩, e2'⟩ := hp'); subst e1'; subst e2'; (generalize hz9 : Txt.slice _ (some 2) _ ++ addOf _ _ _ = z9); (have hl9 := next_len (by with_reducible assumption) hz9); (try dsimp only); (try k_sweep); (try k_fold))))
  trivial
theorem lines_47 : True := by
  (k_with "binaryOp Add str str" => ((k_here; (with_reducible show wpAny _ _ (binaryOp Operator.Add (Value.str _ _) (Value.str _ _)) _ _ _); k_dflt (refine' add_str (hsz := ?hsz) ?_; (case hsz => (try simp only [Str.length_append]); rw [sizeLine_eq]; omega)); intro _ _)))
  trivial
theorem c_once {w : World} {own : Led} {N0 H hD dv lg rl bf : Addr} {j k n : Int} {x : Str} {V : Obj} {D : List (PyData × PyData)} {vs : List Value} {ep : Nat} {t ta tb tc td te tf tg th ti : Tok} {oc : Value} {od : Option Addr} {fd : FuncData} {sl : Array (Option Value)}
   (hB : TextOf w bf H hD dv lg rl j k own) (hbf : (bf, (⟨oc, od, .func fd, sl⟩ : Obj)) ∈ own)
   (hadd : ∀ a, (addOf j k a).length ≤ 3) (hN : NodeAt w own N0 dv)
   (hH : (H, instObj 236 hD) ∈ own) (hrl : (rl, listOf #[] 0) ∈ own)
   (hV : VD w V D) (hDOK : DOK D)
   (hoff : OwnOff own [dv, hD, lg]) (hlt1 : @LT.lt Nat _ dv hD) (hlt2 : @LT.lt Nat _ hD lg) (hlt3 : @LT.lt Nat _ hD H)
   (hn0 : 0 ≤ n) (hn : n ≤ 9900) (hx : x.length ≤ 2000) (hvs : vs.length ≤ 2900) :
   CT w 42 [.ref 397, .ref N0, .str x t, .bool true, .ref H, .ref bf] 28 ((dv, V) :: (hD, hostD w dv rl lg n ta tb tc td te tf tg th ti) :: (lg, listOf vs.toArray ep) :: own) (fun v nw =>
     ((okA x ∧ 1 + 1 ≤ (x.length : Int)) ∧ ∃ V' D' vs' ep' n' th' t', v = .str (nextOf j k x) t' ∧ VD w V' D' ∧ DOK D' ∧
        vs'.length = vs.length + 2 ∧ n ≤ n' ∧ n' ≤ n + 9 ∧ nw = (dv, V') :: (hD, hostD w dv rl lg n' ta tb tc td te tf tg th' ti) :: (lg, listOf (List.toArray vs') ep') :: own) ∨ (¬ (okA x ∧ 1 + 1 ≤ (x.length : Int)) ∧ v = .none ∧ nw = own)) := by
  unfold CT
  k_fill
  intro dp un gd cn cs a ccd cl outer A₀ base h₀ L m s Q E p loose mean mg mb B F X N T hk hdp hu hret
  refine wpAny_call ?_
  refine' code_def (binds := [(Str.ofString "matcher", .ref 397), (Str.ofString "node", .ref N0), (Str.ofString "subject", .str x t), (Str.ofString "is_anchored", .bool true), (Str.ofString "host", .ref H), (Str.ofString "text_of", .ref bf)]) ?k1 ?k2 ?k3 ?k4 ?k5 ?kA ?kF ?kK ?k6 ?k7 ?k8 ?k9 ?kB ?_ ?c2 ?c3 ?c4 ?c5
  walk_at "mine rest"
  k_steps
  · (rename News _ _ _ _ => N9)
    have N8 : News _ _ _ ((dv, _) :: (hD, _) :: (lg, _) :: own) := news_sub N9 (by walk_at "mine sub")
    (rename Txt.slice x (some 2) _ ++ _ = _ => hz)
    rw [slice_pre, slice_post, empty_both, ← hz]
    exact hret _ _ _ _ (.inl ⟨⟨by assumption, by assumption⟩, _, _, _, _, _, _, _, rfl, by with_reducible assumption, .inr ⟨_, _, rfl⟩, by assumption, by assumption, by assumption, rfl⟩) (by k_asm) N8
  · exact hret _ _ _ _ (.inr ⟨by assumption, rfl, rfl⟩) (by k_asm) (by k_asm)
def okB (x : Str) : Bool := decide (0 < (x.length : Int)) && !(Builtin.Str.occurrences (Str.ofString "abc") (Txt.item x 0) 0 (Str.ofString "abc").length 1).isEmpty && decide (1 + 1 ≤ (x.length : Int))
theorem okB_iff (x : Str) : okB x = true ↔ (okA x ∧ 1 + 1 ≤ (x.length : Int)) := by
  unfold okB okA
  simp only [Bool.and_eq_true, decide_eq_true_eq, Bool.not_eq_true']
/-- all deeds, at most m -/
def runN (j k : Int) : Nat → Str → Str × Nat
  | 0, x => (x, 0)
  | m + 1, x => if okB x then ((runN j k m (nextOf j k x)).1, (runN j k m (nextOf j k x)).2 + 1) else (x, 0)
theorem run_turn {j k : Int} {M many : Nat} {x row : Str} (h : runN j k M x = ((runN j k (M - many) row).1, (runN j k (M - many) row).2 + many)) (hm : many < M) (ho : okB row = true) :
    runN j k M x = ((runN j k (M - (many + 1)) (nextOf j k row)).1, (runN j k (M - (many + 1)) (nextOf j k row)).2 + (many + 1)) := by
  have e : M - many = (M - (many + 1)) + 1 := by omega
  rw [h, e, runN, if_pos ho]
  simp only [Nat.add_assoc, Nat.add_comm 1 many]
theorem run_stop1 {j k : Int} {M many : Nat} {x row : Str} (h : runN j k M x = ((runN j k (M - many) row).1, (runN j k (M - many) row).2 + many)) (hm : many < M) (ho : ¬ (okA row ∧ 1 + 1 ≤ (row.length : Int))) : runN j k M x = (row, many) := by
  have e : M - many = (M - (many + 1)) + 1 := by omega
  rw [h, e, runN, if_neg (fun q => ho ((okB_iff row).mp q))]
  simp
theorem run_stop2 {j k : Int} {M many : Nat} {x row : Str} (h : runN j k M x = ((runN j k (M - many) row).1, (runN j k (M - many) row).2 + many)) (hm : M ≤ many) : runN j k M x = (row, many) := by
  have e : M - many = 0 := by omega
  rw [h, e, runN]
  simp
theorem next_len2 {j k : Int} {x : Str} (hadd : ∀ a, (addOf j k a).length ≤ 3) : (nextOf j k x).length ≤ x.length + 3 := next_len hadd rfl
structure Cst where
  row : Str
  rt : Tok
  many : Nat
  mt : Tok
  V : Obj
  D : List (PyData × PyData)
  n : Int
  th : Tok
  vs : List Value
  ep : Nat
theorem lines_48 : True := by
  (k_with "call ref" => ((
  k_here; (with_reducible show wpAny _ _ (call (Value.ref 42) _) _ _ _); k_dflt (
   refine' CT.use (c_once ?hB ?hbf ?hadd ?hN ?hH ?hrl ?hV ?hDOK ?hoff ?l1 ?l2 ?l3 ?n0 ?n1 ?hx ?hvs) ?zB ?zF ?zX ?zN ?zT ?zK ?zd ?zu ?_;
   walk_at "mine frames";
   (case hB => with_reducible assumption); (case hbf => with_reducible assumption); (case hadd => with_reducible assumption); (case hN => with_reducible assumption); (case hH => with_reducible assumption); (case hrl => with_reducible assumption); (case hV => with_reducible assumption); (case hDOK => with_reducible assumption);
   (case hoff => with_reducible assumption);
   (case l1 => with_reducible assumption); (case l2 => with_reducible assumption); (case l3 => with_reducible assumption); (case n0 => omega); (case n1 => omega); (case hx => omega); (case hvs => omega);
   (case zd => walk_at "mine depth"); (case zu => walk_at "mine units"); k_whole);
  intro v' nw' h' tk' hp' F' N'; (rcases hp' with ⟨hA', V', D', vs', ep', n', th', t', e1', hV', hD', hlen', hn1', hn2', e2'⟩ | ⟨hno', e1', e2'⟩); all_goals (subst e1'; subst e2'; (try dsimp only); (try k_sweep); (try k_fold)))))
  trivial

theorem c_often {w : World} {own : Led} {N0 H hD dv lg rl bf : Addr} {j k most : Int} {x : Str} {V : Obj} {D : List (PyData × PyData)} {t tm ta tb tc td te tf tg th ti : Tok} {ep : Nat} {oc : Value} {od : Option Addr} {fd : FuncData} {sl : Array (Option Value)}
   (hB : TextOf w bf H hD dv lg rl j k own) (hbf : (bf, (⟨oc, od, .func fd, sl⟩ : Obj)) ∈ own)
   (hadd : ∀ a, (addOf j k a).length ≤ 3) (hN : NodeAt w own N0 dv)
   (hH : (H, instObj 236 hD) ∈ own) (hrl : (rl, listOf #[] 0) ∈ own)
   (hV : VD w V D) (hDOK : DOK D)
   (hoff : OwnOff own [dv, hD, lg]) (hlt1 : @LT.lt Nat _ dv hD) (hlt2 : @LT.lt Nat _ hD lg) (hlt3 : @LT.lt Nat _ hD H)
   (hm0 : 0 ≤ most) (hm : most ≤ 100) (hx : x.length ≤ 1000) :
   CT w 49 [.ref 397, .ref N0, .str x t, .bool true, .ref H, .ref bf, .int most tm] 34 ((dv, V) :: (hD, hostD w dv rl lg 0 ta tb tc td te tf tg th ti) :: (lg, listOf #[] ep) :: own) (fun v nw =>
     ∃ tp tr tn, v = .ref tp ∧ nw = (tp, tupO [.str (runN j k most.toNat x).1 tr, .int (runN j k most.toNat x).2 tn]) :: own ∧ AllLt tp own) := by
  unfold CT
  k_fill
  intro dp un gd cn cs a ccd cl outer A₀ base h₀ L m s Q E p loose mean mg mb B F X N T hk hdp hu hret
  refine wpAny_call ?_
  refine' code_def (binds := [(Str.ofString "matcher", .ref 397), (Str.ofString "node", .ref N0), (Str.ofString "subject", .str x t), (Str.ofString "is_anchored", .bool true), (Str.ofString "host", .ref H), (Str.ofString "text_of", .ref bf), (Str.ofString "most", .int most tm)]) ?k1 ?k2 ?k3 ?k4 ?k5 ?kA ?kF ?kK ?k6 ?k7 ?k8 ?k9 ?kB ?_ ?c2 ?c3 ?c4 ?c5
  walk_at "mine rest"
  repeat' (first | ((fail_if_success (with_reducible show wpAny _ _ (exec (Stmt.While _ _ _ _) _) _ _ _)); first | (k_unfold; (try dsimp only)) | (k_end; wrow_close) | walk1 | (dsimp only; walk1) | (leave1; walk_say "STEP leave1"; try dsimp only) | fail "no step"))
  refine ksw_while (fun c : Cst => (dv, c.V) :: (hD, hostD w dv rl lg c.n ta tb tc td te tf tg c.th ti) :: (lg, listOf c.vs.toArray c.ep) :: own)
    (fun c => [(Str.ofString "subject", .str c.row c.rt), (Str.ofString "many", .int (c.many : Int) c.mt)]) (fun _ => True) [Str.ofString "later"]
    (fun c => VD w c.V c.D ∧ DOK c.D ∧ 0 ≤ c.n ∧ c.n ≤ 9 * c.many ∧ c.vs.length ≤ 2 * c.many ∧ c.row.length ≤ x.length + 3 * c.many ∧ (c.many : Int) ≤ most ∧
      runN j k most.toNat x = ((runN j k (most.toNat - c.many) c.row).1, (runN j k (most.toNat - c.many) c.row).2 + c.many))
    (fun c => most.toNat - c.many) ⟨x, t, 0, _, V, D, 0, th, [], ep⟩ (by k_asm) (by k_asm) trivial
    (List.forall_mem_cons.mpr ⟨rfl, List.forall_mem_cons.mpr ⟨rfl, List.forall_mem_nil _⟩⟩)
    ⟨hV, hDOK, Int.le_refl 0, by simp, by simp, by simp, by simpa using hm0, by simp⟩ ?_
  rintro ⟨row, rt, many, mt, V, D, n, th, vs, ep⟩ u h tk _ ⟨hV', hD', hn0, hn1, hvs, hrow, hmany, hrun⟩ F1 N1
  dsimp only at hV' hD' hn0 hn1 hvs hrow hmany hrun N1
  repeat' (first | ((fail_if_success (with_reducible show KswPost _ _ _ _ _ _ _ _ _ _ _ _ _ _)); first | (k_unfold; (try dsimp only)) | (k_end; wrow_close) | walk1 | (dsimp only; walk1) | (leave1; walk_say "STEP leave1"; try dsimp only) | fail "no step"))
  · (rename News _ _ _ _ => N9)
    have hlt : (many : Int) < most := by assumption
    have hok : okA row ∧ 1 + 1 ≤ (row.length : Int) := by assumption
    have hnl := next_len2 (j := j) (k := k) (x := row) hadd
    dsimp only [KswPost]
    exact ksw_end (⟨nextOf j k row, _, many + 1, _, _, _, _, _, _, _⟩ : Cst) (by k_asm) (news_tail N9) (fun _ hp => hp) trivial
      (List.forall_mem_cons.mpr ⟨rfl, List.forall_mem_cons.mpr ⟨rfl, List.forall_mem_nil _⟩⟩)
      (by
        intro z z1 z2
        have e1 := z1 _ (List.Mem.head _)
        have e2 := z1 _ (List.Mem.tail _ (List.Mem.head _))
        simp_all [kstB])
      ⟨by assumption, by assumption, by dsimp only; omega, by dsimp only; omega, by dsimp only; omega, by dsimp only; omega, by dsimp only; omega, run_turn hrun (by omega) ((okB_iff row).mpr hok)⟩ (by dsimp only; omega)
  · have hlt : (many : Int) < most := by assumption
    have hst := run_stop1 hrun (by omega) (by assumption)
    dsimp only [KswPost]
    k_steps
    (rename News _ _ _ _ => N9)
    simp only [hst] at hret
    exact hret _ _ _ _ ⟨_, _, _, rfl, rfl, allLt_of (by assumption)⟩ (by k_asm) N9
  · have hge : ¬ (many : Int) < most := by assumption
    have hst := run_stop2 hrun (by omega)
    (rename News _ _ _ _ => N9)
    simp only [hst] at hret
    exact hret _ _ _ _ ⟨_, _, _, rfl, rfl, by tbn_find⟩ (by k_asm) (news_sub N9 (by walk_at "mine sub"))
theorem lines_49 : True := by
  (k_with "mine restC" => ((
  (case kA => exact rfl); (case kF => exact rfl); (case kK => assumption); (case k1 => k_asm); (case k2 => k_asm); (case k3 => k_asm); (case k4 => k_asm); (case k5 => k_asm); (case k6 => k_dflt k_is); (case k7 => k_dflt k_is); (case k8 => k_room); (case k9 => exact BindsTo.of_eq rfl); (case kB => exact rfl); (case kD => decide +kernel); (case c2 => exact rfl); (case c3 => exact rfl); (case c4 => exact rfl); k_whole; intro g' L' h' tk' cells' FG' F' N' Y' B' X' T' l1; (try k_lt l1); k_cells Y'; (try simp only [List.cons_append, List.nil_append] at N'); (try dsimp only); (try k_fold))))
  trivial
local macro_rules | `(tactic| k_all) => `(tactic| k_extra "mine k_all")
theorem lines_50 : True := by
  (k_with "mine k_all" => ((with_reducible assumption)))
  trivial
/-- contract, with the table's head -/
abbrev CTC (w : World) (f : Addr) (vs : List Value) (need : Nat) (news : Led) (Post : Value → Led → Prop) : Prop :=
  ∀ (dp un : Nat) (gd : Option (List Code)) (cn : Str) (cs : Scope) (a : Addr) (ccd : Value) (cl : List (Str × Addr)) (outer : List Env) (A₀ : Around) (base h₀ : Heap) (L : Addr) (m : Str → Option Value) (s : Shared) (Q E : Value → Shared → Prop)
    (p : Program) (loose : List Str) (mean : ExcName → Option Value) (mg mb : Str → Option Value),
    CodeHd h₀ 452 448 → Below A₀ base outer h₀ → Fr h₀ L s.heap m → (hd.heap_1 w.params).In h₀ → News h₀ L s.heap news → Top p loose mean mg mb h₀ → cs.kind = .function →
    dp + need < recursionLimit → un + 8 * need < cLine →
    (∀ v news' h' tk', Post v news' → Fr h₀ L h' m → News h₀ L h' news' → Q v { s with heap := h', toks := tk' }) →
    wpAny (model PySem.Challenge.rw_xm0940_01.row.prog w) (ktrTop dp un gd cn cs L a ccd cl outer) (call (.ref f) vs) Q E s
def behindQ : Str := Str.ofString "_law_done" ++ ".<locals>." ++ Str.ofString "behind"
/-- the table of the maker: empty, or the closure's code is there -/
def TabOK (ps : Array Value) (news : Led) : Prop :=
  ps = #[] ∨ ∃ c' oc vs t, ps = #[rawInt ((312 : Nat) : Int), rawInt ((4 : Nat) : Int), .ref c'] ∧ (c', oc) ∈ news ∧ oc.data = .fields vs ∧ vs[1]? = some (.str behindQ t)
abbrev DonePost (w : World) (j k most : Int) (x : Str) (news : Led) (v : Value) (nw : Led) : Prop :=
  ∃ tp tr tn ps' news', v = .ref tp ∧ nw = (tp, tupO [.str (runN j k most.toNat x).1 tr, .int (runN j k most.toNat x).2 tn]) :: (448, tabObj ps') :: news' ∧ TabOK ps' news' ∧ (∀ p ∈ news, p ∈ news') ∧ (∀ p ∈ news', p.1 ≠ 448) ∧ AllLt tp news' ∧ @LT.lt Nat _ 448 tp
theorem news_host {h₀ h : Heap} {L : Addr} {a b c d e : Addr × Obj} {r : Led} (N : News h₀ L h (a :: b :: c :: d :: e :: r)) : News h₀ L h (e :: c :: a :: b :: d :: r) := fun p hp => N p (by
  simp only [List.mem_cons] at hp ⊢
  rcases hp with q | q | q | q | q | q
  · exact .inr (.inr (.inr (.inr (.inl q))))
  · exact .inr (.inr (.inl q))
  · exact .inl q
  · exact .inr (.inl q)
  · exact .inr (.inr (.inr (.inl q)))
  · exact .inr (.inr (.inr (.inr (.inr q)))))
theorem off_host {H rl dv hD lg : Addr} {oH orl : Obj} {R : Led} (h1 : AllLt dv R) (h2 : @LT.lt Nat _ dv rl ∧ AllLt rl R) (h3 : @LT.lt Nat _ rl hD ∧ @LT.lt Nat _ dv hD ∧ AllLt hD R) (h4 : @LT.lt Nat _ hD H)
    (h5 : @LT.lt Nat _ H lg ∧ @LT.lt Nat _ hD lg ∧ @LT.lt Nat _ rl lg ∧ @LT.lt Nat _ dv lg ∧ AllLt lg R) : OwnOff ((H, oH) :: (rl, orl) :: R) [dv, hD, lg] := by
  intro p hp e he
  have hH1 : H ≠ dv := Nat.ne_of_gt (Nat.lt_trans h3.2.1 h4)
  have hH2 : H ≠ hD := Nat.ne_of_gt h4
  have hH3 : H ≠ lg := Nat.ne_of_lt h5.1
  have hr1 : rl ≠ dv := Nat.ne_of_gt h2.1
  have hr2 : rl ≠ hD := Nat.ne_of_lt h3.1
  have hr3 : rl ≠ lg := Nat.ne_of_lt h5.2.2.1
  have hR1 := tbn_neAll h1
  have hR2 := tbn_neAll h3.2.2
  have hR3 := tbn_neAll h5.2.2.2.2
  simp only [List.mem_cons, List.not_mem_nil, or_false] at hp he
  rcases hp with rfl | rfl | hp
  · rcases he with rfl | rfl | rfl <;> assumption
  · rcases he with rfl | rfl | rfl <;> assumption
  · rcases he with rfl | rfl | rfl
    · exact hR1 p hp
    · exact hR2 p hp
    · exact hR3 p hp
theorem addOf_len {j k : Int} (hj : j ≤ 3) (hk : k ≤ 3) : ∀ a, (addOf j k a).length ≤ 3 := by
  intro a
  have e1 : (Str.ofString "a").length ≤ 1 := by decide +kernel
  have h1 := len_mul_leN (N := 3) e1 hj
  have h2 := len_mul_leN (N := 3) e1 hk
  unfold addOf
  split
  · decide +kernel
  · split
    · omega
    · omega
theorem addA (j k : Int) : addOf j k (Str.ofString "a") = Str.ofString "bc" := by unfold addOf; rw [if_pos rfl]
theorem addB (j k : Int) : addOf j k (Str.ofString "b") = Txt.mul (Str.ofString "a") j := by unfold addOf; rw [if_neg (by decide +kernel), if_pos rfl]
theorem addC (j k : Int) : addOf j k (Str.ofString "c") = Txt.mul (Str.ofString "a") k := by unfold addOf; rw [if_neg (by decide +kernel), if_neg (by decide +kernel)]
theorem done_end {h₀ h : Heap} {L tp c' : Addr} {tup oc : Obj} {vs : Array Value} {own news : Led} {r1 r2 : Value} (N : News h₀ L h ((tp, tup) :: own)) (_hd : oc.data = .fields vs) (hc : (c', oc) ∈ own) (ht : (448, tabObj (#[] ++ #[r1, r2, .ref c'])) ∈ own) (hs : ∀ p ∈ news, p ∈ own) :
    News h₀ L h ((tp, tup) :: (448, tabObj #[r1, r2, .ref c']) :: (c', oc) :: news) := fun p hp => N p (by
  rcases List.mem_cons.mp hp with rfl | hp
  · exact .head _
  · rcases List.mem_cons.mp hp with rfl | hp
    · exact .tail _ ht
    · rcases List.mem_cons.mp hp with rfl | hp
      · exact .tail _ hc
      · exact .tail _ (hs p hp))
theorem lines_51 : True := by
  (k_with "mine k_mem" => (((with_reducible rename (∀ p, p ∈ _ → p ∈ _) => hs9); refine hs9 _ ?_; k_mem)))
  trivial
theorem lines_52 : True := by
  (k_with "subscriptTail Name Constant ref str" => ((k_here; (with_reducible show wpAny _ _ (subscriptTail _ _ (Value.ref _) (Value.str _ _)) _ _ _); k_dflt (refine' item_VD ?iN ?im ?ilo ?iV ?il ?_; (case iN => k_asm); (case im => first | with_reducible assumption | k_mem); (case ilo => with_reducible assumption); (case iV => with_reducible assumption); (case il => with_reducible assumption); k_whole); intro t')))
  trivial
-- host.values[..]: the base turned to a name at once
theorem lines_53 : True := by
  (k_with "subscriptTail Attribute" => ((k_here; (with_reducible show wpAny _ _ (subscriptTail (PySem.Expr.Attribute _ _ _) _ (Value.ref _) (Value.str _ _)) _ _ _); k_dflt (refine kba_turn (value' := PySem.Expr.Name (PySem.Str.ofString "_") ⟨0, 0, 0, 0⟩) (fun _ => rfl) ?_))))
  trivial
theorem c_done0 {w : World} {x : Str} {t t1 t2 t3 : Tok} {most j k : Int} {news : Led} (hx : x.length ≤ 1000) (hm0 : 0 ≤ most) (hm : most ≤ 100) (hj : 0 ≤ j) (hj' : j ≤ 3) (hk0 : 0 ≤ k) (hk' : k ≤ 3) (hoff : ∀ p ∈ news, p.1 ≠ 448) :
   CTC w 453 [.str x t, .int most t1, .int j t2, .int k t3] 40 ((448, tabObj #[]) :: news) (DonePost w j k most x news) := by
  unfold CTC
  k_fill
  intro dp un gd cn cs a ccd cl outer A₀ base h₀ L m s Q E p loose mean mg mb C B F X N T hk hdp hu hret
  refine wpAny_call ?_
  refine' code_defC (binds := [(Str.ofString "row", .str x t), (Str.ofString "most", .int most t1), (Str.ofString "j", .int j t2), (Str.ofString "k", .int k t3)]) ?k1 ?k2 ?k3 ?k4 ?k5 ?kA ?kF ?kK ?k6 ?k7 ?k8 ?k9 ?kB ?kD ?_ ?c2 ?c3 ?c4
  walk_at "mine restC"
  have C' : CodeHd _ 452 448 := CodeHd.keeps C (Fr.keep (by with_reducible assumption : Fr h₀ L _ m))
  repeat' (first | ((fail_if_success (with_reducible show wpAny _ _ (call (Value.ref 49) _) _ _ _)); first | (k_unfold; (try dsimp only)) | (k_end; wrow_close) | walk1 | (dsimp only; walk1) | (leave1; walk_say "STEP leave1"; try dsimp only) | fail "no step"))
  k_dflt (
   refine' CT.use (c_often (D := []) ?hB ?hbf ?hadd ?hN ?hH ?hrl ?hV ?hDOK ?hoff ?l1 ?l2 ?l3 ?m0 ?m1 ?hx) ?zB ?zF ?zX ?zN ?zT ?zK ?zd ?zu ?_;
   (case zN => exact news_host (by k_asm)); (case zB => k_asm); (case zF => k_asm); (case zX => k_asm); (case zT => k_asm); (case zK => exact rfl);
   (case hbf => k_mem); (case hadd => exact addOf_len hj' hk'); (case hH => k_mem); (case hrl => k_mem);
   (case hV => exact ⟨by decide, [], by with_reducible assumption, by with_reducible assumption⟩); (case hDOK => exact .inl rfl);
   (case l1 => omega); (case l2 => omega); (case l3 => omega); (case m0 => omega); (case m1 => omega); (case hx => omega);
   (case zd => walk_at "mine depth"); (case zu => walk_at "mine units"))
  (case hoff => exact off_host (by assumption) (by assumption) (by assumption) (by assumption) (by assumption))
  (case hN =>
    refine' NodeAt.mk ⟨_, _, _, _, _, _, _, _, _, _, _, _, _, _, _, _, _, _, _, _, _, _, _, _, _, _, _, _, _, ?m1, ?m2, ?m3, ?m4, ?m5, ?m6, ?m7, ?m8, ?m9, ?m10, ?m11, ?q1, ?q2, ?q3, ?q4⟩
    (case m1 => k_mem)
    (case m2 => k_mem)
    (case m3 => k_mem)
    (case m4 => k_mem)
    (case m5 => k_mem)
    (case m6 => k_mem)
    (case m7 => k_mem)
    (case m8 => k_mem)
    (case m9 => k_mem)
    (case m10 => k_mem)
    (case m11 => k_mem)
    (case q1 => omega)
    (case q2 => omega)
    (case q3 => omega)
    (case q4 => omega))
  (case hB =>
    intro led V D n ta tb tc td te tf tg th ti a y hs hm hV hR hA ha hD hy
    rcases ha with rfl | rfl | rfl
    all_goals
      unfold CT
      intro dp un gd cn cs a ccd cl outer A₀ base h₀ L m s Q E p loose mean mg mb B F X N T hk hdp hu hret
      refine wpAny_call ?_
      k_dflt (refine' code_nest ?k1 ?k2 ?k3 ?k4 ?k5 ?kA ?kF ?kK ?k6 ?k7 ?k8 ?k9 ?kB ?_ ?c2 ?c3 ?c4 ?c5; (case kA => exact rfl); (case kF => exact rfl); (case kK => assumption); (case k1 => k_asm); (case k2 => k_asm); (case k3 => k_asm); (case k4 => k_asm); (case k5 => k_asm); (case k6 => k_mem); (case k7 => exact codeRec_news (by k_asm) (by k_mem) (by assumption) (by assumption)); (case k8 => k_room); (case k9 => exact BindsTo.of_eq rfl); (case c5 => decide); (case kB => exact locs rfl); (case c2 => exact rfl); (case c3 => exact rfl); (case c4 => exact rfl); k_whole)
      intro g' L' h' FG' F' N' B' X' T'
      (try dsimp only)
      (try k_fold)
      k_steps
      all_goals first
        | ((rename List.isEmpty _ = true => ho9); exact absurd ho9 (by decide +kernel))
        | ((rename News _ _ _ _ => N9); simp only [addA, addB, addC] at hret; exact hret _ _ _ _ ⟨⟨_, rfl⟩, rfl⟩ (by k_asm) (news_tail N9)))
  intro v' nw' h' tk' hp' F' N'
  obtain ⟨tp', tr', tn', e1', e2', l1'⟩ := hp'
  subst e1'
  subst e2'
  simp only [AllLt, and_true] at l1'
  k_steps
  (rename News _ _ _ _ => N8)
  (rename _ = Data.fields _ => hd1)
  have N7 := done_end (news := news) N8 hd1 (by k_mem) (by k_mem) (fun p hp => by k_ownIn)
  exact hret _ _ _ _ ⟨_, _, _, _, _, rfl, rfl, .inr ⟨_, _, _, _, rfl, List.Mem.head _, hd1, by assumption⟩, fun p hp => List.Mem.tail _ hp, List.forall_mem_cons.mpr ⟨by k_ne, hoff⟩, ⟨by dsimp only; omega, by tbn_find⟩, by omega⟩ (by k_asm) N7
theorem done_end1 {h₀ h : Heap} {L tp c' : Addr} {tup : Obj} {own news : Led} {r1 r2 : Value} (N : News h₀ L h ((tp, tup) :: own)) (ht : (448, tabObj #[r1, r2, .ref c']) ∈ own) (hs : ∀ p ∈ news, p ∈ own) :
    News h₀ L h ((tp, tup) :: (448, tabObj #[r1, r2, .ref c']) :: news) := fun p hp => N p (by
  rcases List.mem_cons.mp hp with rfl | hp
  · exact .head _
  · rcases List.mem_cons.mp hp with rfl | hp
    · exact .tail _ ht
    · exact .tail _ (hs p hp))
theorem c_done1 {w : World} {c' : Addr} {oc : Obj} {vs : Array Value} {tq : Tok} {x : Str} {t t1 t2 t3 : Tok} {most j k : Int} {news : Led} (hx : x.length ≤ 1000) (hm0 : 0 ≤ most) (hm : most ≤ 100) (hj : 0 ≤ j) (hj' : j ≤ 3) (hk0 : 0 ≤ k) (hk' : k ≤ 3) (hoff : ∀ p ∈ news, p.1 ≠ 448) (hc : (c', oc) ∈ news) (hd1 : oc.data = .fields vs) (hd2 : vs[1]? = some (.str behindQ tq)) :
   CTC w 453 [.str x t, .int most t1, .int j t2, .int k t3] 40 ((448, tabObj #[rawInt ((312 : Nat) : Int), rawInt ((4 : Nat) : Int), .ref c']) :: news) (DonePost w j k most x news) := by
  unfold CTC
  k_fill
  intro dp un gd cn cs a ccd cl outer A₀ base h₀ L m s Q E p loose mean mg mb C B F X N T hk hdp hu hret
  refine wpAny_call ?_
  refine' code_defC (binds := [(Str.ofString "row", .str x t), (Str.ofString "most", .int most t1), (Str.ofString "j", .int j t2), (Str.ofString "k", .int k t3)]) ?k1 ?k2 ?k3 ?k4 ?k5 ?kA ?kF ?kK ?k6 ?k7 ?k8 ?k9 ?kB ?kD ?_ ?c2 ?c3 ?c4
  walk_at "mine restC"
  have C' : CodeHd _ 452 448 := CodeHd.keeps C (Fr.keep (by with_reducible assumption : Fr h₀ L _ m))
  repeat' (first | ((fail_if_success (with_reducible show wpAny _ _ (call (Value.ref 49) _) _ _ _)); first | (k_unfold; (try dsimp only)) | (k_end; wrow_close) | walk1 | (dsimp only; walk1) | (leave1; walk_say "STEP leave1"; try dsimp only) | fail "no step"))
  k_dflt (
   refine' CT.use (c_often (D := []) ?hB ?hbf ?hadd ?hN ?hH ?hrl ?hV ?hDOK ?hoff ?l1 ?l2 ?l3 ?m0 ?m1 ?hx) ?zB ?zF ?zX ?zN ?zT ?zK ?zd ?zu ?_;
   (case zN => exact news_host (by k_asm)); (case zB => k_asm); (case zF => k_asm); (case zX => k_asm); (case zT => k_asm); (case zK => exact rfl);
   (case hbf => k_mem); (case hadd => exact addOf_len hj' hk'); (case hH => k_mem); (case hrl => k_mem);
   (case hV => exact ⟨by decide, [], by with_reducible assumption, by with_reducible assumption⟩); (case hDOK => exact .inl rfl);
   (case l1 => omega); (case l2 => omega); (case l3 => omega); (case m0 => omega); (case m1 => omega); (case hx => omega);
   (case zd => walk_at "mine depth"); (case zu => walk_at "mine units"))
  (case hoff => exact off_host (by assumption) (by assumption) (by assumption) (by assumption) (by assumption))
  (case hN =>
    refine' NodeAt.mk ⟨_, _, _, _, _, _, _, _, _, _, _, _, _, _, _, _, _, _, _, _, _, _, _, _, _, _, _, _, _, ?m1, ?m2, ?m3, ?m4, ?m5, ?m6, ?m7, ?m8, ?m9, ?m10, ?m11, ?q1, ?q2, ?q3, ?q4⟩
    (case m1 => k_mem)
    (case m2 => k_mem)
    (case m3 => k_mem)
    (case m4 => k_mem)
    (case m5 => k_mem)
    (case m6 => k_mem)
    (case m7 => k_mem)
    (case m8 => k_mem)
    (case m9 => k_mem)
    (case m10 => k_mem)
    (case m11 => k_mem)
    (case q1 => omega)
    (case q2 => omega)
    (case q3 => omega)
    (case q4 => omega))
  (case hB =>
    intro led V D n ta tb tc td te tf tg th ti a y hs hm hV hR hA ha hD hy
    rcases ha with rfl | rfl | rfl
    all_goals
      unfold CT
      intro dp un gd cn cs a ccd cl outer A₀ base h₀ L m s Q E p loose mean mg mb B F X N T hk hdp hu hret
      refine wpAny_call ?_
      k_dflt (refine' code_nest ?k1 ?k2 ?k3 ?k4 ?k5 ?kA ?kF ?kK ?k6 ?k7 ?k8 ?k9 ?kB ?_ ?c2 ?c3 ?c4 ?c5; (case kA => exact rfl); (case kF => exact rfl); (case kK => assumption); (case k1 => k_asm); (case k2 => k_asm); (case k3 => k_asm); (case k4 => k_asm); (case k5 => k_asm); (case k6 => k_mem); (case k7 => exact codeRec_news (by k_asm) (by k_mem) (by assumption) (by assumption)); (case k8 => k_room); (case k9 => exact BindsTo.of_eq rfl); (case c5 => decide); (case kB => exact locs rfl); (case c2 => exact rfl); (case c3 => exact rfl); (case c4 => exact rfl); k_whole)
      intro g' L' h' FG' F' N' B' X' T'
      (try dsimp only)
      (try k_fold)
      k_steps
      all_goals first
        | ((rename List.isEmpty _ = true => ho9); exact absurd ho9 (by decide +kernel))
        | ((rename News _ _ _ _ => N9); simp only [addA, addB, addC] at hret; exact hret _ _ _ _ ⟨⟨_, rfl⟩, rfl⟩ (by k_asm) (news_tail N9)))
  intro v' nw' h' tk' hp' F' N'
  obtain ⟨tp', tr', tn', e1', e2', l1'⟩ := hp'
  subst e1'
  subst e2'
  simp only [AllLt, and_true] at l1'
  k_steps
  (rename News _ _ _ _ => N8)
  have N7 := done_end1 (news := news) N8 (by k_mem) (fun p hp => by k_ownIn)
  exact hret _ _ _ _ ⟨_, _, _, _, _, rfl, rfl, .inr ⟨c', oc, vs, tq, rfl, hc, hd1, hd2⟩, fun p hp => hp, hoff, by tbn_find, by omega⟩ (by k_asm) N7
theorem c_done {w : World} {x : Str} {t t1 t2 t3 : Tok} {most j k : Int} {ps : Array Value} {news : Led} (hps : TabOK ps news) (hx : x.length ≤ 1000) (hm0 : 0 ≤ most) (hm : most ≤ 100) (hj : 0 ≤ j) (hj' : j ≤ 3) (hk0 : 0 ≤ k) (hk' : k ≤ 3) (hoff : ∀ p ∈ news, p.1 ≠ 448) :
  CTC w 453 [.str x t, .int most t1, .int j t2, .int k t3] 40 ((448, tabObj ps) :: news) (DonePost w j k most x news) := by
  rcases hps with rfl | ⟨c', oc, vs, tq, rfl, hc, hd1, hd2⟩
  · exact c_done0 hx hm0 hm hj hj' hk0 hk' hoff
  · exact c_done1 hx hm0 hm hj hj' hk0 hk' hoff hc hd1 hd2
/-- the rows follow, each from the one before -/
def chainB (j k : Int) (fin : Str) : Str → List PyData → Bool
  | x, [] => decide (x = fin) && decide (x.length ≤ 100) && PyData.strOk x
  | x, .str y :: r => okB x && decide (y = nextOf j k x) && decide (x.length ≤ 100) && PyData.strOk y && chainB j k fin y r
  | _, _ => false
theorem chain_nil {j k : Int} {fin x : Str} (h : chainB j k fin x [] = true) : x = fin ∧ x.length ≤ 100 ∧ PyData.strOk x = true := by
  simp only [chainB, Bool.and_eq_true, decide_eq_true_eq] at h
  exact ⟨h.1.1, h.1.2, h.2⟩
theorem chain_cons {j k : Int} {fin x : Str} {d : PyData} {r : List PyData} (h : chainB j k fin x (d :: r) = true) :
    ∃ y, d = .str y ∧ okB x = true ∧ y = nextOf j k x ∧ x.length ≤ 100 ∧ PyData.strOk y = true ∧ chainB j k fin y r = true := by
  cases d <;> simp only [chainB, Bool.and_eq_true, decide_eq_true_eq, Bool.false_eq_true] at h
  exact ⟨_, rfl, h.1.1.1.1, h.1.1.1.2, h.1.1.2, h.1.2, h.2⟩
def goalOf (many j k : Int) : Int := if many.fmod 2 = 0 then j * many.fdiv 2 else k * (many.fdiv 2 + 1) - 1
def lawB (many j k : Int) : Bool :=
  chainB j k (Txt.mul (Str.ofString "a") (goalOf many j k)) (Txt.mul (Str.ofString "a") many) (rowsD many j k) && decide (((rowsD many j k).length : Int) = many + many.fmod 2) &&
  decide (1 ≤ goalOf many j k) && decide (goalOf many j k ≤ 40) && decide (many ≤ 7 → goalOf many j k ≤ 11)
theorem law_all : ∀ j ∈ [1, 2, 3], ∀ k ∈ [1, 2, 3], ∀ m ∈ [2, 3, 4, 5, 6, 7, 8, 9, 10, 11], lawB m j k = true := by decide +kernel
theorem mem13 {j : Int} (h : 1 ≤ j) (h' : j ≤ 3) : j ∈ [(1 : Int), 2, 3] := by
  simp only [List.mem_cons, List.not_mem_nil, or_false]; omega
theorem mem211 {j : Int} (h : 2 ≤ j) (h' : j ≤ 11) : j ∈ [(2 : Int), 3, 4, 5, 6, 7, 8, 9, 10, 11] := by
  simp only [List.mem_cons, List.not_mem_nil, or_false]; omega
theorem law_at {many j k : Int} (hj : 1 ≤ j) (hj' : j ≤ 3) (hk : 1 ≤ k) (hk' : k ≤ 3) (hm : 2 ≤ many) (hm' : many ≤ 11) :
    chainB j k (Txt.mul (Str.ofString "a") (goalOf many j k)) (Txt.mul (Str.ofString "a") many) (rowsD many j k) = true ∧ ((rowsD many j k).length : Int) = many + many.fmod 2 ∧
    1 ≤ goalOf many j k ∧ goalOf many j k ≤ 40 ∧ (many ≤ 7 → goalOf many j k ≤ 11) := by
  have h := law_all j (mem13 hj hj') k (mem13 hk hk') many (mem211 hm hm')
  simp only [lawB, Bool.and_eq_true, decide_eq_true_eq] at h
  exact ⟨h.1.1.1.1, h.1.1.1.2, h.1.1.2, h.1.2, h.2⟩
/-- what holds between the deeds -/
def RunIs (j k : Int) (first row : Str) (deeds : Int) : Prop := 0 ≤ deeds ∧ ∀ m, runN j k (deeds.toNat + m) first = ((runN j k m row).1, (runN j k m row).2 + deeds.toNat)
theorem run_zero (j k : Int) (first : Str) : RunIs j k first first 0 := ⟨Int.le_refl _, fun m => by simp⟩
theorem run_next {j k : Int} {first row : Str} {deeds : Int} (h : RunIs j k first row deeds) (ho : okB row = true) : RunIs j k first (nextOf j k row) (deeds + 1) := by
  obtain ⟨h0, h⟩ := h
  refine ⟨by omega, fun m => ?_⟩
  have e : (deeds + 1).toNat + m = deeds.toNat + (m + 1) := by omega
  have e2 : (deeds + 1).toNat = deeds.toNat + 1 := by omega
  rw [e, h (m + 1), runN, if_pos ho, e2]
  simp only [Prod.mk.injEq, true_and]
  omega
theorem run_all {j k : Int} {first row : Str} {deeds : Int} (h : RunIs j k first row deeds) : runN j k deeds.toNat first = (row, deeds.toNat) := by
  have e := h.2 0
  rw [Nat.add_zero, runN] at e
  simpa using e
theorem run_one {j k : Int} {row y : Str} (ho : okB row = true) (hy : y = nextOf j k row) : runN j k 1 row = (y, 1) := by
  rw [runN, if_pos ho, runN, hy]
theorem run_a (j k : Int) : runN j k 1 (Str.ofString "a") = (Str.ofString "a", 0) := by
  rw [runN, if_neg (by decide +kernel)]
theorem init_all : ∀ m ∈ [(1 : Int), 2, 3, 4, 5, 6, 7], (PyData.strOk (Txt.mul (Str.ofString "a") m) && decide ((Txt.mul (Str.ofString "a") m).length ≤ 100)) = true := by decide +kernel
theorem init_at {m : Int} (h : 1 ≤ m) (h' : m ≤ 7) : PyData.strOk (Txt.mul (Str.ofString "a") m) = true ∧ (Txt.mul (Str.ofString "a") m).length ≤ 100 := by
  have hm : m ∈ [(1 : Int), 2, 3, 4, 5, 6, 7] := by simp only [List.mem_cons, List.not_mem_nil, or_false]; omega
  have h := init_all m hm
  simp only [Bool.and_eq_true, decide_eq_true_eq] at h
  exact h
section
variable {prog : Program} {w : World} {A : Around} {E : Value → Shared → Prop} {s : Shared} {a b : Addr} {x y : Str} {i j : Int} {t1 t2 t3 t4 : Tok} {Q : Value → Shared → Prop}
theorem pair_reads {h : Heap} (ha : h.get? a = some (tupO [.str x t1, .int i t2])) : Reads h (.ref a) (.tuple [.str x, .int i]) [] :=
  reads_tuple_at ha rfl rfl (ReadsAll.cons (Reads.str _ _) (ReadsAll.cons (Reads.int _ _) ReadsAll.nil))
theorem pair_shaped (hx : PyData.strOk x = true) : SeqAt.shaped (.tuple [.str x, .int i]) = true := by
  simp [SeqAt.shaped, PyData.canLay0, PyData.canLayAll0, PyData.depth, PyData.depthAll, hx]
theorem ne_pair (ha : s.heap.get? a = some (tupO [.str x t1, .int i t2])) (hb : s.heap.get? b = some (tupO [.str y t3, .int j t4])) (ex : x = y) (ei : i = j) (hx : PyData.strOk y = true) (hu : A.units + 64 < cLine) (h : Q (.bool false) s) :
    wpAny (model prog w) A (compareOp .NotEq (.ref a) (.ref b)) Q E s := by
  subst ex; subst ei
  refine ne_dataH (pair_reads ha) (pair_reads hb) (pair_shaped hx) (pair_shaped hx) hu ?_
  simpa [PyData.eqv, PyData.eqvAll] using h
theorem eq_pair (ha : s.heap.get? a = some (tupO [.str x t1, .int i t2])) (hb : s.heap.get? b = some (tupO [.str y t3, .int j t4])) (ex : x = y) (ei : i = j) (hx : PyData.strOk y = true) (hu : A.units + 64 < cLine) (h : Q (.bool true) s) :
    wpAny (model prog w) A (compareOp .Eq (.ref a) (.ref b)) Q E s := by
  subst ex; subst ei
  refine eq_dataH (pair_reads ha) (pair_reads hb) (pair_shaped hx) (pair_shaped hx) hu ?_
  simpa [PyData.eqv, PyData.eqvAll] using h
end
/-- the maker's table, with its code alone -/
def TabSt (ps : Array Value) (nx : Led) : Prop := TabOK ps nx ∧ ∀ p ∈ nx, p.1 ≠ 448 ∧ ∃ vs t, p.2.data = .fields vs ∧ vs[1]? = some (.str behindQ t)
theorem tab_nil : TabSt #[] [] := ⟨.inl rfl, fun _ hp => nomatch hp⟩
theorem tab_min {ps : Array Value} {nx : Led} (h : TabOK ps nx) (h4 : ∀ p ∈ nx, p.1 ≠ 448) : ∃ nx', TabSt ps nx' ∧ ∀ p ∈ nx', p ∈ nx := by
  rcases h with rfl | ⟨c', oc, vs, t, rfl, hm, hd, hv⟩
  · exact ⟨[], tab_nil, fun _ hp => nomatch hp⟩
  · refine ⟨[(c', oc)], ⟨.inr ⟨c', oc, vs, t, rfl, .head _, hd, hv⟩, ?_⟩, ?_⟩
    · intro p hp
      rw [List.mem_singleton.mp hp]
      exact ⟨h4 _ hm, vs, t, hd, hv⟩
    · intro p hp
      rw [List.mem_singleton.mp hp]; exact hm
/-- what an iterator is -/
def IterAt (h : Heap) (I : Addr) : Prop := ∃ o vs i t, h.get? I = some o ∧ o.data = .fields vs ∧ vs[1]? = some (.int i t)
theorem tab_off {ps : Array Value} {nx : Led} (h : TabSt ps nx) {H : Heap} {I : Addr} (hI : IterAt H I) (N : ∀ p ∈ nx, H.get? p.1 = some p.2) : ∀ p ∈ nx, p.1 ≠ I := by
  intro p hp e
  obtain ⟨o, vs, i, t, h1, h2, h3⟩ := hI
  obtain ⟨_, vs', t', h4, h5⟩ := h.2 p hp
  have h6 := N p hp
  rw [e, h1] at h6
  cases h6
  rw [h2] at h4
  cases h4
  rw [h3] at h5
  cases h5
abbrev tabLed (ps : Array Value) (nx own : Led) : Led := (448, tabObj ps) :: (nx ++ own)
section
variable {prog : Program} {w : World} {A : Around} {E : Value → Shared → Prop} {s : Shared} {env : Env} {h₀ : Heap} {x : Str} {body : List Stmt} {Q : Flow → Shared → Prop}
def TurnEnd (h₀ : Heap) (L : Addr) (G : (Str → Option Value) → Prop) (own : Led) (s₁ s₂ : Shared) : Prop :=
  ∃ h' tk m' ps nx, s₂ = { s₁ with heap := h', toks := tk } ∧ Fr h₀ L h' m' ∧ News h₀ L h' (tabLed ps nx own) ∧ TabSt ps nx ∧ G m'
def TurnPost (h₀ : Heap) (L : Addr) (G : (Str → Option Value) → Prop) (own : Led) (s₁ : Shared) (Q : Flow → Shared → Prop) (f : Flow) (s₂ : Shared) : Prop :=
  match f with
  | .ret v => Q (.ret v) s₂
  | .brk => Q .next s₂
  | _ => TurnEnd h₀ L G own s₁ s₂
theorem turn_end {L : Addr} {G : (Str → Option Value) → Prop} {own : Led} {s₁ : Shared} {h' : Heap} {tk : Nat} {m' : Str → Option Value} {ps : Array Value} {nx nw : Led} (F : Fr h₀ L h' m') (N : News h₀ L h' nw)
    (hT : TabOK ps nx) (h4 : ∀ p ∈ nx, p.1 ≠ 448) (hn : (448, tabObj ps) ∈ nw) (hx : ∀ p ∈ nx, p ∈ nw) (ho : ∀ p ∈ own, p ∈ nw) (hG : G m') : TurnEnd h₀ L G own s₁ { s₁ with heap := h', toks := tk } := by
  obtain ⟨nx', hT', hs⟩ := tab_min hT h4
  refine ⟨h', tk, m', ps, nx', rfl, F, fun p hp => N p ?_, hT', hG⟩
  rcases List.mem_cons.mp hp with rfl | hp
  · exact hn
  · rcases List.mem_append.mp hp with hp | hp
    · exact hx p (hs p hp)
    · exact ho p hp
theorem loop_tab {I : Addr} {fp : List Addr} {n : Nat} {P : Nat → Value → Prop} {St : Nat → Heap → Prop} {m₀ : Str → Option Value} {ps₀ : Array Value} {nx₀ base : Led} (G : Nat → (Str → Option Value) → Prop)
    (W : Walks prog w A I fp [I] n P St) (hI : ∀ i h, St i h → IterAt h I) (hfp : ∀ b ∈ fp, b ≠ 448) (hfi : ∀ b ∈ fp, h₀.get? b = none ∨ b ≠ I) (hIf : I ∈ fp) (hLf : env.locals ∉ fp) (hwr : h₀.get? I = none) (hb : ∀ p ∈ base, p.1 ≠ I ∧ p.1 ≠ 448)
    (hst : St 0 s.heap) (F : Fr h₀ env.locals s.heap m₀) (N : News h₀ env.locals s.heap (tabLed ps₀ nx₀ base)) (hT : TabSt ps₀ nx₀) (h0 : G 0 m₀)
    (turn : ∀ i v m₁ ps nx h tk own, i < n → P i v → TabSt ps nx → (∀ p ∈ own, p.1 ≠ 448) → (∀ p ∈ base, p ∈ own) → G i m₁ → Fr h₀ env.locals h (fun y => if y = x then some v else m₁ y) → News h₀ env.locals h (tabLed ps nx own) →
      wpAny (model prog w) A (execs body env) (TurnPost h₀ env.locals (G (i + 1)) own { s with heap := h, toks := tk } Q) E { s with heap := h, toks := tk })
    (done : ∀ m₁ ps nx h tk, G n m₁ → TabSt ps nx → Fr h₀ env.locals h m₁ → News h₀ env.locals h (tabLed ps nx base) → Q .next { s with heap := h, toks := tk }) :
    LoopAtV prog w A h₀ env x body Q E (.ref I) s := by
  have h48 : (448 : Addr) ≠ I := fun e => hfp I hIf e.symm
  have offs : ∀ {ps nx}, TabSt ps nx → ∀ {H : Heap}, IterAt H I → (∀ p ∈ nx, H.get? p.1 = some p.2) → ∀ p ∈ tabLed ps nx base, p.1 ∉ [I] := by
    intro ps nx hT H hI N p hp hm
    have e := List.mem_singleton.mp hm
    rcases List.mem_cons.mp hp with rfl | hp
    · exact h48 e
    · rcases List.mem_append.mp hp with hp | hp
      · exact tab_off hT hI N p hp e
      · exact (hb p hp).1 e
  refine ⟨I, fp, [I], n, P, St, m₀, tabLed ps₀ nx₀ base, fun i m₁ nw => ∃ ps nx, nw = tabLed ps nx base ∧ TabSt ps nx ∧ G i m₁, rfl, W, hLf, fun b hb => (List.mem_singleton.mp hb) ▸ hwr, ?_, hst, F, N, ⟨ps₀, nx₀, rfl, hT, h0⟩, ?_, ?_⟩
  · exact offs hT (hI _ _ hst) fun p hp => (N p (.tail _ (List.mem_append_left _ hp))).1
  · rintro i v m₁ nw s₁ own ⟨hh', tk', rfl⟩ hin hP ⟨ps, nx, rfl, hT', hG⟩ _ hown hget hall hst' F₁ N₁
    have N₂ : News h₀ env.locals hh' (tabLed ps nx (own ++ base)) := fun p hp => N₁ p (by
      simp only [tabLed, List.mem_cons, List.mem_append] at hp ⊢
      rcases hp with h | h | h | h
      · exact .inr (.inl h)
      · exact .inr (.inr (.inl h))
      · exact .inl h
      · exact .inr (.inr (.inr h)))
    refine wpAny_mono (turn i v m₁ ps nx hh' tk' (own ++ base) hin hP hT' ?_ (fun p hp => List.mem_append_right _ hp) hG F₁ N₂) (fun f s₂ p => ?_) fun _ _ e => e
    · intro p hp
      rcases List.mem_append.mp hp with hp | hp
      · exact hfp _ (hown p hp)
      · exact (hb p hp).2
    have fin : TurnEnd h₀ env.locals (G (i + 1)) (own ++ base) { s with heap := hh', toks := tk' } s₂ → LoopStepU h₀ env.locals [I] own (fun m₁ nw => ∃ ps nx, nw = tabLed ps nx base ∧ TabSt ps nx ∧ G (i + 1) m₁) { s with heap := hh', toks := tk' } .next s₂ := by
      rintro ⟨h', tk, m', ps', nx', e, F', N', hT'', hG'⟩
      have hI2 : IterAt h' I := by
        obtain ⟨o, vs, k, t, h1, h2, h3⟩ := hI _ _ hst'
        refine ⟨o, vs, k, t, ?_, h2, h3⟩
        exact (N' (I, o) (.tail _ (List.mem_append_right _ (List.mem_append_left _ (hall I hIf hwr o h1))))).1
      refine ⟨rfl, h', tk, m', tabLed ps' nx' base, e, F', fun p hp => N' p ?_, offs hT'' hI2 fun p hp => (N' p (.tail _ (List.mem_append_left _ hp))).1, ps', nx', rfl, hT'', hG'⟩
      simp only [tabLed, List.mem_cons, List.mem_append] at hp ⊢
      rcases hp with h | h | h | h
      · exact .inr (.inr (.inl h))
      · exact .inl h
      · exact .inr (.inl h)
      · exact .inr (.inr (.inr h))
    cases f with
    | ret v => exact .ret p
    | brk => exact .brk p
    | next => exact .next (fin p)
    | cont => exact .cont (fin p)
  · rintro h' tk m' nw F' N' _ ⟨ps, nx, rfl, hT', hG⟩
    exact done m' ps nx h' tk hG hT' F' N'
theorem carried_get : ∀ {vs : List Value} {ds : List PyData}, CarriedAll vs ds → ∀ {i : Nat} {v : Value} {d : PyData}, vs[i]? = some v → ds[i]? = some d → Carried v d
  | _, _, .nil, _, _, _, h, _ => by simp at h
  | _, _, .cons c r, 0, _, _, h, h' => by
    simp only [List.getElem?_cons_zero, Option.some.injEq] at h h'
    rw [← h, ← h']; exact c
  | _, _, .cons c r, i + 1, _, _, h, h' => by
    simp only [List.getElem?_cons_succ] at h h'
    exact carried_get r h h'
theorem off_alloc {H : Heap} {l : Led} (N : ∀ p ∈ l, H.get? p.1 = some p.2) : ∀ p ∈ l, p.1 ≠ H.objs.size := fun p hp e => absurd (Heap.lt_size (N p hp)) (e ▸ Nat.lt_irrefl _)
theorem loop_range2 {r : Addr} {a₀ b₀ : Int} {t₀ u₀ v₀ : Tok} {n : Nat} {m₀ : Str → Option Value} {ps₀ : Array Value} {nx₀ base : Led} (G : Nat → (Str → Option Value) → Prop)
    (hh : A.handled = none) (hr : IsRange s.heap r a₀ b₀ 1 t₀ u₀ v₀) (hsmall : Builtin.Range.small a₀ b₀ 1 = true) (hn : Builtin.Range.rangeSize a₀ b₀ 1 = (n : Int)) (hb : ∀ p ∈ base, p.1 ≠ 448)
    (F : Fr h₀ env.locals s.heap m₀) (N : News h₀ env.locals s.heap (tabLed ps₀ nx₀ base)) (hT : TabSt ps₀ nx₀) (h0 : G 0 m₀)
    (turn : ∀ i v m₁ ps nx h tk own, i < n → TabSt ps nx → (∀ p ∈ own, p.1 ≠ 448) → (∀ p ∈ base, p ∈ own) → G i m₁ → Fr h₀ env.locals h (fun y => if y = x then some v else m₁ y) → News h₀ env.locals h (tabLed ps nx own) →
      wpAny (model prog w) A (execs body env) (TurnPost h₀ env.locals (G (i + 1)) own { s with heap := h, toks := tk } Q) E { s with heap := h, toks := tk })
    (done : ∀ m₁ ps nx h tk, G n m₁ → TabSt ps nx → Fr h₀ env.locals h m₁ → News h₀ env.locals h (tabLed ps nx base) → Q .next { s with heap := h, toks := tk }) :
    wpAny (model prog w) A (pyIter (.ref r)) (fun it s₂ => LoopAtV prog w A h₀ env x body Q E it s₂) E s := by
  refine wpAny_pyIter_range hr hsmall ?_
  have h48 : (448 : Addr) ≠ s.heap.objs.size := off_alloc (fun p hp => (N p hp).1) _ (List.Mem.head _)
  refine loop_tab (fp := [s.heap.objs.size]) (n := n) (base := base) (nx₀ := nx₀) (ps₀ := ps₀) (m₀ := m₀) (P := fun i v => ∃ t, v = .int (a₀ + i * 1) t) (St := fun i h => IsRangeIter h s.heap.objs.size (a₀ + (i : Nat) * 1) ((n : Int) - (i : Nat)) 1) G (Walks.range hh _ a₀ 1 n) ?_ ?_ ?_ (List.Mem.head _) ?_ ?_ ?_ ?_ (F.push _) (fun p hp => ⟨Heap.get?_push_of_some _ (N p hp).1, (N p hp).2⟩) hT h0 ?_ ?_
  · intro i h hi
    exact ⟨_, _, _, _, hi, rfl, rfl⟩
  · intro b hb' e
    rw [List.mem_singleton.mp hb'] at e
    exact h48 e.symm
  · intro b hb'
    rw [List.mem_singleton.mp hb']
    exact .inl (next_is_new F)
  · intro hm
    exact absurd F.ns.lt ((List.mem_singleton.mp hm) ▸ Nat.lt_irrefl _)
  · exact next_is_new F
  · intro p hp
    exact ⟨off_alloc (fun p hp => (N p hp).1) p (.tail _ (List.mem_append_right _ hp)), hb p hp⟩
  · show IsRangeIter _ _ _ _ _
    rw [hn]; simpa using Heap.get?_push_size _ rfl
  · intro i v m₁ ps nx h tk own hi _ hT' ho hbo hG F₁ N₁
    exact turn i v m₁ ps nx h tk own hi hT' ho hbo hG F₁ N₁
  · exact done
theorem loop_strs {l : Addr} {vs : List Value} {ds : List PyData} {k : Nat} {m₀ : Str → Option Value} {ps₀ : Array Value} {nx₀ base : Led} (G : Nat → (Str → Option Value) → Prop)
    (hh : A.handled = none) (hm : (l, ({ cls := .type "list", data := .seq vs.toArray k } : Obj)) ∈ base) (hi : CarriedAll vs ds) (hb : ∀ p ∈ base, p.1 ≠ 448)
    (F : Fr h₀ env.locals s.heap m₀) (N : News h₀ env.locals s.heap (tabLed ps₀ nx₀ base)) (hT : TabSt ps₀ nx₀) (h0 : G 0 m₀)
    (turn : ∀ i v d m₁ ps nx h tk own, ds[i]? = some d → Carried v d → TabSt ps nx → (∀ p ∈ own, p.1 ≠ 448) → (∀ p ∈ base, p ∈ own) → G i m₁ → Fr h₀ env.locals h (fun y => if y = x then some v else m₁ y) → News h₀ env.locals h (tabLed ps nx own) →
      wpAny (model prog w) A (execs body env) (TurnPost h₀ env.locals (G (i + 1)) own { s with heap := h, toks := tk } Q) E { s with heap := h, toks := tk })
    (done : ∀ m₁ ps nx h tk, G ds.length m₁ → TabSt ps nx → Fr h₀ env.locals h m₁ → News h₀ env.locals h (tabLed ps nx base) → Q .next { s with heap := h, toks := tk }) :
    wpAny (model prog w) A (pyIter (.ref l)) (fun it s₂ => LoopAtV prog w A h₀ env x body Q E it s₂) E s := by
  have hN := N _ (List.Mem.tail _ (List.mem_append_right nx₀ hm))
  have hls : s.heap.IsList l vs.toArray := News.isList N (List.Mem.tail _ (List.mem_append_right nx₀ hm))
  have hne : l ≠ s.heap.objs.size := off_alloc (fun p hp => (N p hp).1) _ (List.Mem.tail _ (List.mem_append_right nx₀ hm))
  have h48 : (448 : Addr) ≠ s.heap.objs.size := off_alloc (fun p hp => (N p hp).1) _ (List.Mem.head _)
  refine wpAny_pyIter_list hls ?_
  have W := Walks.list (prog := prog) (w := w) hh s.heap.objs.size l hne vs.toArray
  have hlen : vs.toArray.size = ds.length := by simp [hi.length_eq]
  rw [hlen] at W
  refine loop_tab (base := base) (nx₀ := nx₀) (ps₀ := ps₀) (m₀ := m₀) G W ?_ ?_ ?_ (List.Mem.head _) ?_ ?_ ?_ ?_ (F.push _) (fun p hp => ⟨Heap.get?_push_of_some _ (N p hp).1, (N p hp).2⟩) hT h0 ?_ ?_
  · intro i h hi
    obtain ⟨⟨o, h1, h2, h3⟩, _⟩ := hi
    exact ⟨_, _, _, _, h1, h3, rfl⟩
  · intro b hb' e
    rcases List.mem_cons.mp hb' with rfl | hb'
    · exact h48 e.symm
    · rw [List.mem_singleton.mp hb'] at e
      exact hb _ hm e
  · intro b hb'
    rcases List.mem_cons.mp hb' with rfl | hb'
    · exact .inl (next_is_new F)
    · rw [List.mem_singleton.mp hb']
      exact .inr hne
  · intro hm'
    rcases List.mem_cons.mp hm' with e | hm'
    · exact absurd F.ns.lt (e ▸ Nat.lt_irrefl _)
    · exact hN.2.1 (List.mem_singleton.mp hm').symm
  · exact next_is_new F
  · intro p hp
    exact ⟨off_alloc (fun p hp => (N p hp).1) p (.tail _ (List.mem_append_right _ hp)), hb p hp⟩
  · exact ⟨⟨_, Heap.get?_push_size _ rfl, rfl, rfl⟩, hls.at fun o e => Heap.get?_push_of_some _ e⟩
  · intro i v m₁ ps nx h tk own hi' hP hT' ho hbo hG F₁ N₁
    have hP' : vs[i]? = some v := by simpa using hP
    have hd : ds[i]? = some ds[i] := by simp [hi']
    refine turn i v ds[i] m₁ ps nx h tk own hd ?_ hT' ho hbo hG F₁ N₁
    exact carried_get hi hP' hd
  · exact done
end
abbrev psO (many j k deeds : Int) (first row : Str) (mt jt kt ft rt dt : Tok) : List (Str × Value) :=
  [(Str.ofString "row", .str row rt), (Str.ofString "deeds", .int deeds dt), (Str.ofString "many", .int many mt), (Str.ofString "j", .int j jt), (Str.ofString "k", .int k kt), (Str.ofString "first", .str first ft)]
abbrev psI (r : Addr) (many j k deeds : Int) (first row : Str) (mt jt kt ft rt dt : Tok) : List (Str × Value) :=
  [(Str.ofString "row", .str row rt), (Str.ofString "deeds", .int deeds dt), (Str.ofString "many", .int many mt), (Str.ofString "j", .int j jt), (Str.ofString "k", .int k kt), (Str.ofString "first", .str first ft), (Str.ofString "rows", .ref r)]
structure LawInv (i : Nat) (j k : Int) (first : Str) (many : Int) (row : Str) (deeds : Int) : Prop where
  j1 : 1 ≤ j
  j2 : j ≤ 3
  k1 : 1 ≤ k
  k2 : k ≤ 3
  m1 : 1 ≤ many
  m2 : i = 0 → many ≤ 7
  m3 : i = 1 → many ≤ 11
  row_is : row = Txt.mul (Str.ofString "a") many
  run : RunIs j k first row deeds
  d1 : deeds ≤ 12 * (i : Int)
  len : row.length ≤ 100
  ok : PyData.strOk row = true
  flen : first.length ≤ 100
theorem kst_map {m : Str → Option Value} {ps : List (Str × Value)} (h : ∀ p ∈ ps, m p.1 = some p.2) : m = kstB m ps := funext fun _ => (kstB_eq h fun _ => rfl).symm
section
variable {prog : Program} {w : World} {A : Around} {E : Value → Shared → Prop} {s : Shared} {env : Env} {h₀ : Heap} {x : Str} {body : List Stmt} {Q : Flow → Shared → Prop}
theorem law_outer {r : Addr} {a₀ b₀ : Int} {t₀ u₀ v₀ : Tok} {m₀ : Str → Option Value} {ps₀ : Array Value} {nx₀ base : Led} {many j k : Int} {mt jt kt ft rt dt : Tok}
    (hh : A.handled = none) (hr : IsRange s.heap r a₀ b₀ 1 t₀ u₀ v₀) (hsmall : Builtin.Range.small a₀ b₀ 1 = true) (hn : Builtin.Range.rangeSize a₀ b₀ 1 = ((2 : Nat) : Int)) (hb : ∀ p ∈ base, p.1 ≠ 448)
    (F : Fr h₀ env.locals s.heap m₀) (N : News h₀ env.locals s.heap (tabLed ps₀ nx₀ base)) (hT : TabSt ps₀ nx₀)
    (hm : m₀ (Str.ofString "many") = some (.int many mt)) (hj : m₀ (Str.ofString "j") = some (.int j jt)) (hk : m₀ (Str.ofString "k") = some (.int k kt))
    (hf : m₀ (Str.ofString "first") = some (.str (Txt.mul (Str.ofString "a") many) ft)) (hro : m₀ (Str.ofString "row") = some (.str (Txt.mul (Str.ofString "a") many) rt)) (hd : m₀ (Str.ofString "deeds") = some (.int 0 dt))
    (j1 : 1 ≤ j) (j2 : j ≤ 3) (k1 : 1 ≤ k) (k2 : k ≤ 3) (m1 : 1 ≤ many) (m2 : many ≤ 7)
    (turn : ∀ (i : Nat) (v : Value) (many j k deeds : Int) (first row : Str) (mt jt kt ft rt dt : Tok) (u : Str → Option Value) (ps : Array Value) (nx : Led) (h : Heap) (tk : Nat) (own : Led), i < 2 → LawInv i j k first many row deeds → TabSt ps nx → (∀ p ∈ own, p.1 ≠ 448) →
      Fr h₀ env.locals h (fun y => if y = x then some v else kstB u (psO many j k deeds first row mt jt kt ft rt dt) y) → News h₀ env.locals h (tabLed ps nx own) →
      wpAny (model prog w) A (execs body env) (TurnPost h₀ env.locals (fun m' => ∃ many' deeds' row' mt' rt' dt', LawInv (i + 1) j k first many' row' deeds' ∧ ∀ p ∈ psO many' j k deeds' first row' mt' jt kt ft rt' dt', m' p.1 = some p.2) own { s with heap := h, toks := tk } Q) E { s with heap := h, toks := tk })
    (done : ∀ (many j k deeds : Int) (first row : Str) (mt jt kt ft rt dt : Tok) (u : Str → Option Value) (ps : Array Value) (nx : Led) (h : Heap) (tk : Nat), LawInv 2 j k first many row deeds → TabSt ps nx →
      Fr h₀ env.locals h (kstB u (psO many j k deeds first row mt jt kt ft rt dt)) → News h₀ env.locals h (tabLed ps nx base) → Q .next { s with heap := h, toks := tk }) :
    wpAny (model prog w) A (pyIter (.ref r)) (fun it s₂ => LoopAtV prog w A h₀ env x body Q E it s₂) E s := by
  refine loop_range2 (fun i m => ∃ (first row : Str) (many' deeds : Int) (mt rt dt : Tok), LawInv i j k first many' row deeds ∧ ∀ p ∈ psO many' j k deeds first row mt jt kt ft rt dt, m p.1 = some p.2) hh hr hsmall hn hb F N hT ?_ ?_ ?_
  · obtain ⟨i1, i2⟩ := init_at m1 m2
    exact ⟨_, _, many, 0, mt, rt, dt, ⟨j1, j2, k1, k2, m1, fun _ => m2, fun h => (Nat.zero_ne_one h).elim, rfl, run_zero _ _ _, by omega, i2, i1, i2⟩,
      List.forall_mem_cons.mpr ⟨hro, List.forall_mem_cons.mpr ⟨hd, List.forall_mem_cons.mpr ⟨hm, List.forall_mem_cons.mpr ⟨hj, List.forall_mem_cons.mpr ⟨hk, List.forall_mem_cons.mpr ⟨hf, List.forall_mem_nil _⟩⟩⟩⟩⟩⟩⟩
  · rintro i v m₁ ps nx h tk own hi hT' ho _ ⟨first, row, many', deeds, mt, rt, dt, hI, hm'⟩ F₁ N₁
    rw [kst_map hm'] at F₁
    refine wpAny_mono (turn i v many' j k deeds first row mt jt kt ft rt dt m₁ ps nx h tk own hi hI hT' ho F₁ N₁) (fun f s₂ p => ?_) fun _ _ e => e
    have fin : ∀ {G G' : (Str → Option Value) → Prop}, (∀ m, G m → G' m) → ∀ {s₁}, TurnEnd h₀ env.locals G own s₁ s₂ → TurnEnd h₀ env.locals G' own s₁ s₂ := by
      rintro G G' hg s₁ ⟨h', tk', m', ps', nx', e, F', N', hT'', hG⟩
      exact ⟨h', tk', m', ps', nx', e, F', N', hT'', hg _ hG⟩
    cases f with
    | ret v => exact p
    | brk => exact p
    | next => exact fin (fun m ⟨a, b, c, d, e, f, g, h⟩ => ⟨first, c, a, b, d, e, f, g, h⟩) p
    | cont => exact fin (fun m ⟨a, b, c, d, e, f, g, h⟩ => ⟨first, c, a, b, d, e, f, g, h⟩) p
  · rintro m₁ ps nx h tk ⟨first, row, many', deeds, mt, rt, dt, hI, hm'⟩ hT' F₁ N₁
    rw [kst_map hm'] at F₁
    exact done many' j k deeds first row mt jt kt ft rt dt m₁ ps nx h tk hI hT' F₁ N₁
theorem law_inner {r : Addr} {vs : List Value} {ds : List PyData} {fin : Str} {m₀ : Str → Option Value} {ps₀ : Array Value} {nx₀ base : Led} {many j k deeds : Int} {first row : Str} {mt jt kt ft rt dt : Tok}
    (hh : A.handled = none) (hm : (r, ({ cls := .type "list", data := .seq vs.toArray } : Obj)) ∈ base) (hi : CarriedAll vs ds) (hb : ∀ p ∈ base, p.1 ≠ 448)
    (F : Fr h₀ env.locals s.heap m₀) (N : News h₀ env.locals s.heap (tabLed ps₀ nx₀ base)) (hT : TabSt ps₀ nx₀)
    (h1 : m₀ (Str.ofString "row") = some (.str row rt)) (h2 : m₀ (Str.ofString "deeds") = some (.int deeds dt)) (h3 : m₀ (Str.ofString "many") = some (.int many mt)) (h4 : m₀ (Str.ofString "j") = some (.int j jt))
    (h5 : m₀ (Str.ofString "k") = some (.int k kt)) (h6 : m₀ (Str.ofString "first") = some (.str first ft)) (h7 : m₀ (Str.ofString "rows") = some (.ref r))
    (hc : chainB j k fin row ds = true) (hr : RunIs j k first row deeds) (hok : PyData.strOk row = true)
    (turn : ∀ (row y : Str) (deeds : Int) (rt dt yt : Tok) (u : Str → Option Value) (ps : Array Value) (nx : Led) (h : Heap) (tk : Nat) (own : Led), runN j k 1 row = (y, 1) → row.length ≤ 100 → PyData.strOk y = true → 0 ≤ deeds → deeds ≤ 12 + ds.length → TabSt ps nx → (∀ p ∈ own, p.1 ≠ 448) →
      Fr h₀ env.locals h (fun z => if z = x then some (.str y yt) else kstB u (psI r many j k deeds first row mt jt kt ft rt dt) z) → News h₀ env.locals h (tabLed ps nx own) →
      wpAny (model prog w) A (execs body env) (TurnPost h₀ env.locals (fun m' => ∃ rt' dt', ∀ p ∈ psI r many j k (deeds + 1) first y mt jt kt ft rt' dt', m' p.1 = some p.2) own { s with heap := h, toks := tk } Q) E { s with heap := h, toks := tk })
    (hd12 : deeds ≤ 12)
    (done : ∀ (deeds' : Int) (rt dt : Tok) (u : Str → Option Value) (ps : Array Value) (nx : Led) (h : Heap) (tk : Nat), deeds' = deeds + ds.length → RunIs j k first fin deeds' → fin.length ≤ 100 → PyData.strOk fin = true → TabSt ps nx →
      Fr h₀ env.locals h (kstB u (psI r many j k deeds' first fin mt jt kt ft rt dt)) → News h₀ env.locals h (tabLed ps nx base) → Q .next { s with heap := h, toks := tk }) :
    wpAny (model prog w) A (pyIter (.ref r)) (fun it s₂ => LoopAtV prog w A h₀ env x body Q E it s₂) E s := by
  refine loop_strs (ds := ds) (fun i m => i ≤ ds.length ∧ ∃ (row : Str) (rt dt : Tok), chainB j k fin row (ds.drop i) = true ∧ RunIs j k first row (deeds + i) ∧ PyData.strOk row = true ∧ ∀ p ∈ psI r many j k (deeds + i) first row mt jt kt ft rt dt, m p.1 = some p.2) hh hm hi hb F N hT ?_ ?_ ?_
  · refine ⟨Nat.zero_le _, row, rt, dt, by simpa using hc, by simpa using hr, hok, ?_⟩
    exact List.forall_mem_cons.mpr ⟨h1, List.forall_mem_cons.mpr ⟨by simpa using h2, List.forall_mem_cons.mpr ⟨h3, List.forall_mem_cons.mpr ⟨h4, List.forall_mem_cons.mpr ⟨h5, List.forall_mem_cons.mpr ⟨h6, List.forall_mem_cons.mpr ⟨h7, List.forall_mem_nil _⟩⟩⟩⟩⟩⟩⟩
  · rintro i v d m₁ ps nx h tk own hd hv hT' ho _ ⟨hle, row, rt, dt, hc', hr', hok', hm'⟩ F₁ N₁
    have hlt : i < ds.length := by
      rcases Nat.lt_or_ge i ds.length with h | h
      · exact h
      · rw [List.getElem?_eq_none h] at hd; cases hd
    have e : ds.drop i = d :: ds.drop (i + 1) := by
      rw [List.getElem?_eq_getElem hlt] at hd
      cases hd
      exact List.drop_eq_getElem_cons hlt
    rw [e] at hc'
    obtain ⟨y, rfl, ho1, hy, hl, hoy, hc2⟩ := chain_cons hc'
    cases hv with
    | str _ yt =>
      rw [kst_map hm'] at F₁
      refine wpAny_mono (turn row y (deeds + i) rt dt yt m₁ ps nx h tk own (run_one ho1 hy) hl hoy hr'.1 (by omega) hT' ho F₁ N₁) (fun f s₂ p => ?_) fun _ _ e => e
      have ei : deeds + ((i + 1 : Nat) : Int) = deeds + (i : Int) + 1 := by omega
      have hr2 := run_next hr' ho1
      rw [← hy] at hr2
      have fin' : ∀ {s₁}, TurnEnd h₀ env.locals (fun m' => ∃ rt' dt', ∀ p ∈ psI r many j k (deeds + i + 1) first y mt jt kt ft rt' dt', m' p.1 = some p.2) own s₁ s₂ →
          TurnEnd h₀ env.locals (fun m => i + 1 ≤ ds.length ∧ ∃ (row : Str) (rt dt : Tok), chainB j k fin row (ds.drop (i + 1)) = true ∧ RunIs j k first row (deeds + ((i + 1 : Nat) : Int)) ∧ PyData.strOk row = true ∧ ∀ p ∈ psI r many j k (deeds + ((i + 1 : Nat) : Int)) first row mt jt kt ft rt dt, m p.1 = some p.2) own s₁ s₂ := by
        rintro s₁ ⟨h', tk', m', ps', nx', e, F', N', hT'', rt', dt', hG⟩
        refine ⟨h', tk', m', ps', nx', e, F', N', hT'', hlt, y, rt', dt', hc2, ?_, hoy, ?_⟩
        · rw [ei]; exact hr2
        · rw [ei]; exact hG
      cases f with
      | ret v => exact p
      | brk => exact p
      | next => exact fin' p
      | cont => exact fin' p
  · rintro m₁ ps nx h tk ⟨hle, row, rt, dt, hc', hr', hok', hm'⟩ hT' F₁ N₁
    rw [List.drop_length] at hc'
    obtain ⟨rfl, hl, _⟩ := chain_nil hc'
    rw [kst_map hm'] at F₁
    exact done (deeds + ds.length) rt dt m₁ ps nx h tk rfl hr' hl hok' hT' F₁ N₁
end
/-- a contract with the table's head, used -/
theorem CTC.use {w : World} {f : Addr} {vs : List Value} {need : Nat} {news : Led} {Post : Value → Led → Prop} (C : CTC w f vs need news Post)
    {dp un : Nat} {gd : Option (List Code)} {cn : Str} {cs : Scope} {a : Addr} {ccd : Value} {cl : List (Str × Addr)} {outer : List Env} {A₀ : Around} {base h₀ : Heap} {L : Addr} {m : Str → Option Value} {s : Shared} {Q E : Value → Shared → Prop}
    {p : Program} {loose : List Str} {mean : ExcName → Option Value} {mg mb : Str → Option Value}
    (H : CodeHd h₀ 452 448) (B : Below A₀ base outer h₀) (F : Fr h₀ L s.heap m) (X : (hd.heap_1 w.params).In h₀) (N : News h₀ L s.heap news) (T : Top p loose mean mg mb h₀) (hk : cs.kind = .function)
    (hdp : dp + need < recursionLimit) (hun : un + 8 * need < cLine)
    (ret : ∀ v news' h' tk', Post v news' → Fr h₀ L h' m → News h₀ L h' news' → Q v { s with heap := h', toks := tk' }) :
    wpAny (model PySem.Challenge.rw_xm0940_01.row.prog w) (ktrTop dp un gd cn cs L a ccd cl outer) (call (.ref f) vs) Q E s :=
  C dp un gd cn cs a ccd cl outer A₀ base h₀ L m s Q E p loose mean mg mb H B F X N T hk hdp hun ret
theorem c_doneR {w : World} {x r : Str} {c M : Nat} {t t1 t2 t3 : Tok} {most j k : Int} {ps : Array Value} {nx own : Led} (hr : runN j k M x = (r, c)) (hM : most.toNat = M) (hps : TabSt ps nx) (hx : x.length ≤ 100) (hm0 : 0 ≤ most) (hm : most ≤ 100) (hj : 0 ≤ j) (hj' : j ≤ 3) (hk0 : 0 ≤ k) (hk' : k ≤ 3) (hoff : ∀ p ∈ own, p.1 ≠ 448) :
  CTC w 453 [.str x t, .int most t1, .int j t2, .int k t3] 40 (tabLed ps nx own) (fun v nw => ∃ tp tr tn ps' news', v = .ref tp ∧ nw = (tp, tupO [.str r tr, .int c tn]) :: (448, tabObj ps') :: news' ∧ TabOK ps' news' ∧ (∀ p ∈ own, p ∈ news') ∧ (∀ p ∈ news', p.1 ≠ 448) ∧ AllLt tp news' ∧ @LT.lt Nat _ 448 tp) := by
  have h1 := c_done (w := w) (x := x) (t := t) (t1 := t1) (t2 := t2) (t3 := t3) (most := most) (j := j) (k := k) (ps := ps) (news := nx ++ own)
    (by
      rcases hps.1 with h | ⟨c', oc, vs, t, e, hm, h2, h3⟩
      · exact .inl h
      · exact .inr ⟨c', oc, vs, t, e, List.mem_append_left _ hm, h2, h3⟩) (by omega) hm0 hm hj hj' hk0 hk' (fun p hp => (List.mem_append.mp hp).elim (fun h => (hps.2 p h).1) (hoff p))
  intro dp un gd cn cs a ccd cl outer A₀ base h₀ L m s Q E p loose mean mg mb C B F X N T hk hdp hu hret
  refine h1 dp un gd cn cs a ccd cl outer A₀ base h₀ L m s Q E p loose mean mg mb C B F X N T hk hdp hu ?_
  rintro v nw h' tk' ⟨tp, tr, tn, ps', news', e1, e2, hT, hs, h4, hl, hl2⟩ F' N'
  rw [hM, hr] at e2
  exact hret v nw h' tk' ⟨tp, tr, tn, ps', news', e1, e2, hT, fun p hp => hs p (List.mem_append_right _ hp), h4, hl, hl2⟩ F' N'
theorem bnd7 (z : Int) : 1 ≤ 1 + z.fmod 7 ∧ 1 + z.fmod 7 ≤ 7 := by rw [Int.fmod_eq_emod_of_nonneg _ (by decide)]; omega
theorem bnd3 (z : Int) : 1 ≤ 1 + z.fmod 3 ∧ 1 + z.fmod 3 ≤ 3 := by rw [Int.fmod_eq_emod_of_nonneg _ (by decide)]; omega
theorem lines_54 : True := by
  (k_with "mine room" => (first | decide | exact Nat.le_of_ble_eq_true rfl | k_units))
  trivial
theorem lines_55 : True := by
  (k_with "call ref" => ((
  k_here; (with_reducible show wpAny _ _ (call (Value.ref 453) _) _ _ _); k_dflt (
   refine' CTC.use (c_doneR ?hr ?hM ?hps ?hx ?m0 ?m1 ?j0 ?j1 ?k0 ?k1 ?hoff) ?zH ?zB ?zF ?zX ?zN ?zT ?zK ?zd ?zu ?_;
   (case zN => k_asm); (case zH => with_reducible assumption); (case zB => k_asm); (case zF => k_asm); (case zX => k_asm); (case zT => k_asm); (case zK => first | exact rfl | assumption);
   (case hr => with_reducible assumption); (case hM => exact rfl); (case hps => with_reducible assumption); (case hoff => with_reducible assumption);
   (case hx => first | with_reducible assumption | decide +kernel); (case m0 => omega); (case m1 => omega); (case j0 => omega); (case j1 => omega); (case k0 => omega); (case k1 => omega);
   (case zd => walk_at "mine room"); (case zu => walk_at "mine room"); k_whole);
  intro v' nw' h' tk' hp' F' N'; (obtain ⟨tp', tr', tn', ps', news', e1', e2', hT', hs', h4', l1', l2'⟩ := hp'); subst e1'; subst e2'; (try dsimp only); (try k_sweep); (try k_fold))))
  trivial
theorem lines_56 : True := by
  (k_with "compareOp NotEq ref ref" => ((k_here; (with_reducible show wpAny _ _ (compareOp CmpOp.NotEq (Value.ref _) (Value.ref _)) _ _ _); k_dflt (
   refine' ne_pair ?p1 ?p2 ?p3 ?p4 ?p5 ?p6 ?_;
   (case p1 => exact News.get (by k_asm) (by k_mem)); (case p2 => exact News.get (by k_asm) (by k_mem)); (case p3 => exact rfl); (case p4 => exact rfl);
   (case p5 => first | with_reducible assumption | decide +kernel); (case p6 => walk_at "mine room"); k_whole))))
  trivial
theorem lines_57 : True := by
  (k_with "compareOp Eq ref ref" => ((k_here; (with_reducible show wpAny _ _ (compareOp CmpOp.Eq (Value.ref _) (Value.ref _)) _ _ _); k_dflt (
   refine' eq_pair ?p1 ?p2 ?p3 ?p4 ?p5 ?p6 ?_;
   (case p1 => exact News.get (by k_asm) (by k_mem)); (case p2 => exact News.get (by k_asm) (by k_mem)); (case p3 => exact rfl); (case p4 => first | exact rfl | omega);
   (case p5 => first | with_reducible assumption | decide +kernel); (case p6 => walk_at "mine room"); k_whole))))
  trivial
theorem LawInv.stay {i : Nat} {j k many deeds : Int} {first row : Str} (h : LawInv i j k first many row deeds) (e : many = 1) : LawInv (i + 1) j k first many row deeds :=
  ⟨h.j1, h.j2, h.k1, h.k2, h.m1, fun _ => by omega, fun _ => by omega, h.row_is, h.run, by have := h.d1; omega, h.len, h.ok, h.flen⟩
theorem LawInv.le11 {i : Nat} {j k many deeds : Int} {first row : Str} (h : LawInv i j k first many row deeds) (hi : i < 2) : many ≤ 11 := by
  rcases Nat.lt_or_ge i 1 with h0 | h0
  · have := h.m2 (by omega); omega
  · exact h.m3 (by omega)
theorem LawInv.move {i : Nat} {j k many deeds len : Int} {first row fin : Str} (h : LawInv i j k first many row deeds) (hi : i < 2) (h2 : 2 ≤ many) (hl : len = many + many.fmod 2) (hf : fin = Txt.mul (Str.ofString "a") (goalOf many j k))
    (hr : RunIs j k first fin (deeds + len)) (hn : fin.length ≤ 100) (ho : PyData.strOk fin = true) : LawInv (i + 1) j k first (goalOf many j k) fin (deeds + len) := by
  have h11 := h.le11 hi
  obtain ⟨_, _, g1, g2, g3⟩ := law_at h.j1 h.j2 h.k1 h.k2 h2 h11
  refine ⟨h.j1, h.j2, h.k1, h.k2, g1, fun e => by omega, fun e => g3 (h.m2 (by omega)), hf, hr, ?_, hn, ho, h.flen⟩
  have hd := h.d1
  have e : many.fmod 2 = many % 2 := Int.fmod_eq_emod_of_nonneg _ (by decide)
  rw [hl, e]
  omega
theorem ne_same {prog : Program} {w : World} {A : Around} {E : Value → Shared → Prop} {s : Shared} {x : Str} {t u : Tok} {Q : Value → Shared → Prop} (h : Q (.bool false) s) : wpAny (model prog w) A (compareOp .NotEq (.str x t) (.str x u)) Q E s :=
  PyProof.Rows.ne_str (by rw [show (x != x) = false by simp]; exact h)
theorem lines_58 : True := by
  (k_with "compareOp NotEq str str" => ((k_here; (with_reducible show wpAny _ _ (compareOp CmpOp.NotEq (Value.str _ _) (Value.str _ _)) _ _ _); with_reducible (refine ne_same ?_); (try dsimp only); (try k_fold))))
  trivial
theorem ne_same_int {prog : Program} {w : World} {A : Around} {E : Value → Shared → Prop} {s : Shared} {x : Int} {t u : Tok} {Q : Value → Shared → Prop} (h : Q (.bool false) s) : wpAny (model prog w) A (compareOp .NotEq (.int x t) (.int x u)) Q E s :=
  PyProof.Rows.ne_int (by rw [show (x != x) = false by simp]; exact h)
theorem lines_59 : True := by
  (k_with "compareOp NotEq int int" => ((k_here; (with_reducible show wpAny _ _ (compareOp CmpOp.NotEq (Value.int _ _) (Value.int _ _)) _ _ _); with_reducible (refine ne_same_int ?_); (try dsimp only); (try k_fold))))
  trivial
theorem len_base {prog : Program} {w : World} {A : Around} {E : Value → Shared → Prop} {s : Shared} {h₀ : Heap} {L l : Addr} {ps : Array Value} {nx own : Led} {us : List Value} {v : Int} {Q : Value → Shared → Prop}
    (N : News h₀ L s.heap (tabLed ps nx ((l, { cls := .type "list", data := .seq us.toArray }) :: own))) (e : (us.toArray.size : Int) = v) (hv : v < 2 ^ 63) (h : Q (.int v (s.toks + 1)) { s with toks := s.toks + 1 + 1 }) :
    wpAny (model prog w) A (call (.builtin "len") [.ref l]) Q E s := by
  subst e
  refine kst_len (c := 0) N (List.Mem.tail _ (List.mem_append_right _ (List.Mem.head _))) (k := us.length) rfl (by simpa using hv) ?_
  simpa using h
theorem lines_60 : True := by
  (k_with "call builtin:len" => ((k_here; (with_reducible show wpAny _ _ (call (Value.builtin "len") [Value.ref _]) _ _ _); k_dflt (refine' len_base ?k1 ?k2 ?k3 ?_; (case k1 => with_reducible assumption); (case k2 => with_reducible assumption); (case k3 => omega); k_whole); (try dsimp only); (try k_fold))))
  trivial
theorem news_base {h₀ h : Heap} {L : Addr} {p : Addr × Obj} {ps : Array Value} {nx own : Led} (N : News h₀ L h (p :: tabLed ps nx own)) : News h₀ L h (tabLed ps nx (p :: own)) := fun q hq => N q (by
  simp only [tabLed, List.mem_cons, List.mem_append] at hq ⊢
  rcases hq with h | h | h | h
  · exact .inr (.inl h)
  · exact .inr (.inr (.inl h))
  · exact .inl h
  · exact .inr (.inr (.inr h)))
theorem lines_61 : True := by
  (k_with "mine step" => (first | (k_unfold; (try dsimp only)) | (k_unmd; k_unfold; (try dsimp only)) | (k_end; wrow_close) | walk1 | (dsimp only; walk1) | (leave1; walk_say "STEP leave1"; try dsimp only) | fail "no step"))
  trivial
theorem lines_62 : True := by
  (k_with "subscriptTail Name Slice ref ref" => ((k_here; (with_reducible show wpAny _ _ (subscriptTail _ (PySem.Expr.Slice none (some _) none _) (Value.ref _) (Value.ref _)) _ _ _); k_dflt (
   (refine' kmk_slice_ints ?F ?N ?l ?p ?q ?i ?m ?c ?_ ?s ?t ?z);
   (case F => (k_asm)); (case N => (k_asm)); (case l => (exact Fr.lst (by k_asm) (by with_reducible assumption))); (case p => (exact IsPart.none)); (case q => (exact IsPart.int _ _)); (case i => (with_reducible assumption)); (case m => (exact kmk_upto (by with_reducible assumption) (by decide))); (case c => (exact List.length_take ..)); (case s => (with_unfolding_all rfl)); (case t => (kmk_pure)); (case z => (refine kmk_sz (by with_reducible assumption) ?_; rw [sizeLine_eq]; omega))); intro D' ws' h' F' N' l1 hI' hC' hL'; (try simp only [Int.reduceToNat] at hI' hC' hL'); (try k_lt l1); (try k_sweep))))
  trivial
theorem lines_63 : True := by
  (k_with "subscriptTail Name Slice ref ref" => ((k_here; (with_reducible show wpAny _ _ (subscriptTail _ (PySem.Expr.Slice (some _) none none _) (Value.ref _) (Value.ref _)) _ _ _); k_dflt (
   refine' kmk_slice_ints ?F ?N ?l ?p ?q ?i ?m ?c ?_ ?s ?t ?z;
   (case F => (k_asm)); (case N => (k_asm)); (case l => (exact News.isList (by k_asm) (by k_mem))); (case p => (exact IsPart.int _ _)); (case q => (exact IsPart.none)); (case i => (l_ints)); (case m => (exact kmk_from (by l_ints) (by omega))); (case c => (exact List.length_drop ..)); (case s => (with_unfolding_all rfl)); (case t => (kmk_pure)); (case z => (show (3 : Nat) ≤ sizeLine; rw [sizeLine_eq]; decide))); intro D' ws' h' F' N' l1 hI' hC' hL'; (try k_lt l1); (try k_sweep))))
  trivial
theorem law_holds : PySem.Challenge.rw_xm0940_01.Holds := hd (by
  k_go0
  (all_goals try k_fold)
  repeat' (first | ((fail_if_success (with_reducible show wpAny _ _ (exec (Stmt.For _ _ _ _ _) _) _ _ _)); walk_at "mine step"))
  (rename Fr _ _ _ _ => lF')
  k_dflt (refine' For_invVF lF' ?f1 ?f2 ?_; (case f1 => exact rfl); (case f2 => exact rfl))
  repeat' (first | ((fail_if_success (with_reducible show wpAny _ _ (pyIter (Value.ref _)) _ _ _)); walk_at "mine step"))
  (rename News _ _ _ _ => N9)
  (rename IsRange _ _ _ _ _ _ _ _ => rgX)
  (rename Fr _ _ _ _ => F9)
  k_dflt (
    refine' law_outer (ps₀ := #[]) (nx₀ := []) (base := []) ?hh rgX ?hs ?hn ?hb F9 ?hN tab_nil ?m1 ?m2 ?m3 ?m4 ?m5 ?m6 ?b1 ?b2 ?b3 ?b4 ?b5 ?b6 ?_ ?_;
    (case hh => exact rfl); (case hs => decide); (case hn => exact rfl); (case hb => intro p hp; cases hp); (case hN => refine kst_newsOf N9 ?_; intro p hp; rw [List.mem_singleton.mp hp]; repeat (first | exact List.Mem.head _ | apply List.Mem.tail));
    (case m1 => exact rfl); (case m2 => exact rfl); (case m3 => exact rfl); (case m4 => exact rfl); (case m5 => exact rfl); (case m6 => exact rfl))
  (case b1 => exact (bnd3 _).1)
  (case b2 => exact (bnd3 _).2)
  (case b3 => exact (bnd3 _).1)
  (case b4 => exact (bnd3 _).2)
  (case b5 => exact (bnd7 _).1)
  (case b6 => exact (bnd7 _).2)
  · intro i v many j k deeds first row mt jt kt ft rt dt u ps nx h tk own hi hI hT ho F1 N1
    have j1 := hI.j1
    have j2 := hI.j2
    have k1 := hI.k1
    have k2 := hI.k2
    have hra := run_a j k
    (rename CodeHd _ _ _ => cH)
    (dsimp only at cH)
    repeat' (first | ((fail_if_success (with_reducible show TurnPost _ _ _ _ _ _ _ _)); (fail_if_success (with_reducible show wpAny _ _ (call (Value.ref 458) _) _ _ _)); walk_at "mine step"))
    · (rename TabOK _ _ => hT9)
      (rename News _ _ _ _ => N9)
      (rename ∀ p : Addr × Obj, p ∈ own → p ∈ _ => hs9)
      (rename ∀ p : Addr × Obj, p ∈ _ → p.1 ≠ 448 => h49)
      (rename many = 1 => e1)
      dsimp only [TurnPost]
      exact turn_end (by k_asm) N9 hT9 h49 (by repeat (first | exact List.Mem.head _ | apply List.Mem.tail)) (fun p hp => by repeat (first | assumption | apply List.Mem.tail)) (fun p hp => by have hp := hs9 p hp; repeat (first | assumption | apply List.Mem.tail))
        ⟨many, deeds, row, _, _, _, hI.stay e1, List.forall_mem_cons.mpr ⟨rfl, List.forall_mem_cons.mpr ⟨rfl, List.forall_mem_cons.mpr ⟨rfl, List.forall_mem_cons.mpr ⟨rfl, List.forall_mem_cons.mpr ⟨rfl, List.forall_mem_cons.mpr ⟨rfl, List.forall_mem_nil _⟩⟩⟩⟩⟩⟩⟩
    · have hm2 : 2 ≤ many := by have := hI.m1; omega
      have hm11 := hI.le11 hi
      k_dflt (
       refine' CT.use (c_rows ?h0 ?h1 ?h2 ?h3 ?h4 ?h5) ?zB ?zF ?zX ?zN ?zT ?zK ?zd ?zu ?_;
       walk_at "mine frames";
       (case h0 => omega); (case h1 => omega); (case h2 => omega); (case h3 => omega); (case h4 => omega); (case h5 => omega);
       (case zd => walk_at "mine room"); (case zu => walk_at "mine room"))
      intro v' nw' h' tk' hp' F' N'
      obtain ⟨r, ys, e1, e2, hys, hlt⟩ := hp'
      subst e1
      subst e2
      repeat' (first | ((fail_if_success (with_reducible show TurnPost _ _ _ _ _ _ _ _)); (fail_if_success (with_reducible show wpAny _ _ (exec (Stmt.For _ _ _ _ _) _) _ _ _)); walk_at "mine step"))
      (rename Fr _ _ _ _ => lF')
      k_dflt (refine' For_invVF lF' ?f1 ?f2 ?_; (case f1 => exact rfl); (case f2 => exact rfl))
      repeat' (first | ((fail_if_success (with_reducible show wpAny _ _ (pyIter (Value.ref _)) _ _ _)); walk_at "mine step"))
      (rename Fr _ _ _ _ => F9)
      (rename News _ _ _ _ => N9)
      have hla := law_at j1 j2 k1 k2 hm2 hm11
      k_dflt (
       refine' law_inner (base := (r, _) :: own) (fin := Txt.mul (Str.ofString "a") (goalOf many j k)) ?hh (List.Mem.head _) hys ?hb F9 (news_base N9) hT ?m1 ?m2 ?m3 ?m4 ?m5 ?m6 ?m7 ?hc hI.run hI.ok ?_ ?d12 ?_;
       (case hh => exact rfl); (case m1 => exact rfl); (case m2 => exact rfl); (case m3 => exact rfl); (case m4 => exact rfl); (case m5 => exact rfl); (case m6 => exact rfl); (case m7 => exact rfl))
      (case hb => exact List.forall_mem_cons.mpr ⟨Nat.ne_of_gt hlt.1, ho⟩)
      (case hc => rw [hI.row_is]; exact hla.1)
      (case d12 => have := hI.d1; omega)
      · intro row' y deeds' rt' dt' yt u' ps' nx' h' tk' own' hrun hlen hoky hd0 hdm hT' ho' F' N'
        clear hys hla
        repeat' (first | ((fail_if_success (with_reducible show TurnPost _ _ _ _ _ _ _ _)); walk_at "mine step"))
        (rename TabOK _ _ => hT9)
        (rename News _ _ _ _ => N9)
        (rename ∀ p : Addr × Obj, p ∈ own' → p ∈ _ => hs9)
        (rename ∀ p : Addr × Obj, p ∈ _ → p.1 ≠ 448 => h49)
        dsimp only [TurnPost]
        exact turn_end (by k_asm) N9 hT9 h49 (by repeat (first | exact List.Mem.head _ | apply List.Mem.tail)) (fun p hp => by repeat (first | assumption | apply List.Mem.tail)) (fun p hp => by have hp := hs9 p hp; repeat (first | assumption | apply List.Mem.tail))
          ⟨_, _, List.forall_mem_cons.mpr ⟨rfl, List.forall_mem_cons.mpr ⟨rfl, List.forall_mem_cons.mpr ⟨rfl, List.forall_mem_cons.mpr ⟨rfl, List.forall_mem_cons.mpr ⟨rfl, List.forall_mem_cons.mpr ⟨rfl, List.forall_mem_cons.mpr ⟨rfl, List.forall_mem_nil _⟩⟩⟩⟩⟩⟩⟩⟩
      · intro deeds' rt' dt' u' ps' nx' h' tk' hde hrun hflen hfok hT' F' N'
        have hyl := hys.length_eq
        clear hys
        subst hde
        have hmv := hI.move hi hm2 hla.2.1 rfl hrun hflen hfok
        have hvb : many.fmod 2 < 2 := by rw [Int.fmod_eq_emod_of_nonneg _ (by decide)]; omega
        have hsz : (ys.toArray.size : Int) = many + many.fmod 2 := by rw [List.size_toArray, hyl]; exact hla.2.1
        have hf : many.fdiv 2 = many / 2 := Int.fdiv_eq_ediv_of_nonneg _ (by omega)
        have hq1 := mul_bnd (by omega : 0 ≤ j) j2 (show 0 ≤ many.fdiv 2 by omega) (by omega)
        have hq2 := mul_bnd (by omega : 0 ≤ k) k2 (show 0 ≤ many.fdiv 2 + 1 by omega) (by omega)
        repeat' (first | ((fail_if_success (with_reducible show TurnPost _ _ _ _ _ _ _ _)); (fail_if_success (with_reducible show wpAny _ _ (compareOp _ (Value.str _ _) _) _ _ _)); (fail_if_success (with_reducible show wpAny _ _ (binaryOp _ (Value.str _ _) _) _ _ _)); walk_at "mine step"))
        · have hgo : goalOf many j k = j * many.fdiv 2 := by rw [goalOf, if_pos (by assumption)]
          simp only [hgo] at *
          clear hgo
          repeat' (first | ((fail_if_success (with_reducible show TurnPost _ _ _ _ _ _ _ _)); walk_at "mine step"))
          (rename News _ _ _ _ => N9)
          dsimp only [TurnPost]
          exact turn_end (by k_asm) N9 hT'.1 (fun p hp => (hT'.2 p hp).1) (List.Mem.head _) (fun p hp => List.Mem.tail _ (List.mem_append_left _ hp)) (fun p hp => List.Mem.tail _ (List.mem_append_right _ (List.Mem.tail _ hp)))
            ⟨_, _, _, _, _, _, hmv, List.forall_mem_cons.mpr ⟨rfl, List.forall_mem_cons.mpr ⟨rfl, List.forall_mem_cons.mpr ⟨rfl, List.forall_mem_cons.mpr ⟨rfl, List.forall_mem_cons.mpr ⟨rfl, List.forall_mem_cons.mpr ⟨rfl, List.forall_mem_nil _⟩⟩⟩⟩⟩⟩⟩
        · have hgo : goalOf many j k = k * (many.fdiv 2 + 1) - 1 := by rw [goalOf, if_neg (by assumption)]
          simp only [hgo] at *
          clear hgo
          repeat' (first | ((fail_if_success (with_reducible show TurnPost _ _ _ _ _ _ _ _)); walk_at "mine step"))
          (rename News _ _ _ _ => N9)
          dsimp only [TurnPost]
          exact turn_end (by k_asm) N9 hT'.1 (fun p hp => (hT'.2 p hp).1) (List.Mem.head _) (fun p hp => List.Mem.tail _ (List.mem_append_left _ hp)) (fun p hp => List.Mem.tail _ (List.mem_append_right _ (List.Mem.tail _ hp)))
            ⟨_, _, _, _, _, _, hmv, List.forall_mem_cons.mpr ⟨rfl, List.forall_mem_cons.mpr ⟨rfl, List.forall_mem_cons.mpr ⟨rfl, List.forall_mem_cons.mpr ⟨rfl, List.forall_mem_cons.mpr ⟨rfl, List.forall_mem_cons.mpr ⟨rfl, List.forall_mem_nil _⟩⟩⟩⟩⟩⟩⟩
  · intro many j k deeds first row mt jt kt ft rt dt u ps nx h tk hI hT F1 N1
    have j1 := hI.j1
    have j2 := hI.j2
    have k1 := hI.k1
    have k2 := hI.k2
    have hd0 := hI.run.1
    have hd1 := hI.d1
    have hflen := hI.flen
    have hok := hI.ok
    have hrun := run_all hI.run
    have hnil : ∀ p ∈ ([] : Led), p.1 ≠ 448 := fun _ hp => nomatch hp
    (rename CodeHd _ _ _ => cH)
    (dsimp only at cH)
    repeat' (first | (walk_at "mine step")))
end Mine
theorem PySem.Challenge.cw_xm0940_01_holds : PySem.Challenge.rw_xm0940_01.Holds :=
  Mine.law_holds
