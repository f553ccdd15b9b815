import PyProof.Rows.All
import Wide.All
import OpenK.AllK
import Wide.FinOn
import Lean
import PySem.Challenge.RW_no0279_01
set_option Elab.async false
set_option linter.all false
set_option maxRecDepth 100000
set_option genSizeOf false
set_option bootstrap.genMatcherCode false
set_option backward.match.sparseCases false
set_option compiler.extract_closed false
section
open PySem PySem.W PyProof.Rows
set_option maxHeartbeats 2000000
namespace P279h
noncomputable def keep (ks : List Nat) (l : List Stmt) : List Stmt := ks.filterMap fun i => l[i]?
noncomputable def view : Program := { PySem.Challenge.pw_no0279_01 with main := { PySem.Challenge.pw_no0279_01.main with body := keep [96] PySem.Challenge.pw_no0279_01.main.body } }
open PySem.W.Fast
noncomputable def stepR (ok : Thread → Bool) (f : SharedT → Thread → Option (SharedT × Thread)) (ih : SharedT → Thread → Option SharedT) (s : SharedT) (t : Thread) : Option SharedT := match through t with
  | true => some s
  | false => match ok t with
    | false => none
    | true => match f s t with
      | some (s', t') => ih s' t'
      | none => none
noncomputable def runT (p : Program) (w : World) (n₀ : Nat) (ann : Option Value) (n : Nat) : SharedT → Thread → Option SharedT :=
  Nat.rec (motive := fun _ => SharedT → Thread → Option SharedT) (fun _ _ => none) (fun _ => stepR (tw6613529449190102663 n₀ ann) (tw10156331382660048174 (tw11892475500146522536 tw14364793385576792824) p w)) n
theorem runT_of {p : Program} {w : World} {n₀ : Nat} {ann : Option Value} {n : Nat} : ∀ {s s' : SharedT} {t : Thread}, runT p w n₀ ann n s t = some s' → topRun treeTable p w n₀ ann n s.abs t = some s'.abs := by
  induction n with
  | zero => intro s s' t h; cases h
  | succ n ih =>
    intro s s' t h
    have h : stepR (tw6613529449190102663 n₀ ann) (tw10156331382660048174 (tw11892475500146522536 tw14364793385576792824) p w) (runT p w n₀ ann n) s t = some s' := h
    rw [← te6613529449190102663, ← te10156331382660048174, ← te11892475500146522536, ← te14364793385576792824] at h
    unfold stepR at h
    unfold topRun
    cases ht : through t with
    | true => rw [ht] at h; cases h; rfl
    | false =>
      rw [ht] at h
      cases hk : stepOk n₀ ann t with
      | false => rw [hk] at h; cases h
      | true =>
        rw [hk] at h
        cases hs : stepT (denote treeTable) p w s t with
        | none => rw [hs] at h; cases h
        | some r => obtain ⟨s₂, t₂⟩ := r; rw [hs] at h; rw [stepT_spec hs]; exact ih h
noncomputable def bootT (P : Params) : BT := ([boot_o_0 P, boot_o_1 P, boot_o_2 P, boot_o_3 P, boot_o_4 P, boot_o_5 P, boot_o_6 P, boot_o_7 P, boot_o_8 P, boot_o_9 P, boot_o_10 P].zipIdx).foldl (fun t x => t.ins x.2 x.1) .nil
noncomputable def s0 (P : Params) (os : OsState) : SharedT := ⟨bootT P, 11, {}, #[], boot_drawn, boot_toks, os⟩
theorem s0_abs (P : Params) (os : OsState) : (s0 P os).abs = ⟨boot_heap P, Array.mk [], boot_drawn, boot_toks, os⟩ := by kernel_rfl
theorem size (w : World) : ((boot_heap w.params).isNs mainGlobals && (Array.mk [] : Array GenState).size == 0, (boot_heap w.params).objs.size, (boot_heap w.params).nsMap mainGlobals "__annotations__") = (true, 11, some (.ref 6)) := by kernel_rfl
theorem opens {N : Nat} (hN : Nat.ble 600 N = true) : ∀ w : World, (fencedOpening treeTable PySem.Challenge.pw_no0279_01 w N).map (fun s => (s.heap, s.gens, s.drawn, s.toks)) = some (boot_heap w.params, Array.mk [], boot_drawn, boot_toks) :=
  boot_open (by kernel_rfl) hN (fun s => by kernel_rfl)
end P279h
namespace P279h
open PySem.W.Fast
noncomputable abbrev pw : Program := PySem.Challenge.pw_no0279_01
noncomputable def lo : List Str := ["F77Error", "LexFault", "SyntaxFault", "CheckFault", "INTEGER", "REAL", "DOUBLE", "COMPLEX", "LOGICAL", "CHARACTER", "LETTERS_lex", "DIGITS_lex", "DOTTED", "TRUTHS", "SIGNS", "MOST_NAME", "MOST_DIGITS", "run_of", "dotted_at", "told_pair", "power_at", "number_at", "quoted_at", "name_at", "point_at", "token_at", "tokens_of", "kind_at", "is_op", "need_op", "need_name", "need_int", "need_end", "close_at", "EQUIVALENCE", "NEGATION", "RELATION", "SUM", "POWER", "PRIORITIES", "priority_at", "parse_expr", "parse_binary", "parse_first", "parse_primary", "constant_of", "parse_bracket", "part_end", "is_complex", "complex_part", "parse_named", "is_cut", "parse_cut", "parse_arguments", "depths", "closing", "split_open", "DIGITS_specs", "MOST_DIMENSIONS", "parse_bound", "parse_dims", "parse_length", "head_length", "parse_item", "parse_typed", "parse_character", "TYPE_WORDS", "parse_letter", "parse_letters", "parse_rule", "parse_implicit", "LETTERS_implicit", "Implicit", "tell_letters", "told_rules", "_law_letters", "_law_digits", "_law_words", "_law_take", "_law_row", "_law_runs", "_law_size", "_law_rules", "_law_simple", "_law_add", "_law_short", "_law_length_right"].map Str.ofString
noncomputable def mods : List Str := tw5923862056798008813 pw.main.body
noncomputable def xt (s : Shared) : Bool := xlAt view [] s && recOk (RowW.records (PySem.Challenge.rw_no0279_01.row.toRowW)) s
noncomputable def st (P : Params) (s : Shared) : Bool := staticsOk mods (boot_heap P) s.heap && namesBound pw s.heap && gensDone s && laidKept (boot_heap P) s.heap
noncomputable abbrev wf (w : World) (b : Bool) : World := w.withFollow "special-get-raises" b
noncomputable abbrev looks (P : Params) (s : Shared) := (st P s, tw4187177175401517315 view lo mods xt true s)
noncomputable abbrev good := (true, openGood view lo)
noncomputable abbrev nVars : Str := { cps := { toList := [118, 97, 114, 115] } }
noncomputable abbrev nDir : Str := { cps := { toList := [100, 105, 114] } }
noncomputable abbrev nLocals : Str := { cps := { toList := [108, 111, 99, 97, 108, 115] } }
theorem rd_v : tw13343964577679436407 pw pw.main.body nVars = false := by kernel_rfl
theorem rd_d : tw13343964577679436407 pw pw.main.body nDir = false := by kernel_rfl
theorem rd_l : tw13343964577679436407 pw pw.main.body nLocals = false := by kernel_rfl
theorem filterR_no {f : Str → Bool} {a : Str} {l : List Str} (h : f a = false) (k : R.filterR f l = []) : R.filterR f (a :: l) = [] := by
  show @Bool.rec (fun _ => List Str) (R.filterR f l) (a :: R.filterR f l) (f a) = _
  rw [h]; exact k
theorem bare0 : R.filterR (tw13343964577679436407 pw pw.main.body) [nVars, nDir, nLocals] = [] := filterR_no rd_v (filterR_no rd_d (filterR_no rd_l rfl))
theorem road {p : Program} {st : Bool} {l : List Str} (h : R.filterR (tw13343964577679436407 p p.main.body) l = []) (k : tw8326940854005059898 { strict := st, foot := none, bare := [] } p.main.body = true) : tw8326940854005059898 { strict := st, foot := none, bare := R.filterR (tw13343964577679436407 p p.main.body) l } p.main.body = true := by
  rw [h]; exact k
theorem road0 : tw8326940854005059898 { strict := !R.allR (tw5923862056798008813 pw.main.body) (tw3471404346716756564 tw17691160309236699985), foot := none, bare := [] } pw.main.body = true := by kernel_rfl
theorem looks0 : tw12908688711261696721 pw = true :=
  look_both (look_both (look_both (look_both (by decide +kernel) (by decide +kernel)) (by decide +kernel)) (road bare0 road0)) (by decide +kernel)
theorem part0 : tw2436336058641802641 (tw2368527892694137696 PySem.Challenge.rw_no0279_01) = true :=
  look_both (look_both (look_both (look_both (look_both (look_both (look_both (look_both (look_both (look_both (look_both (look_both (look_both looks0 rfl) rfl) rfl) rfl) rfl) rfl) rfl) rfl) rfl) rfl) rfl) rfl) rfl
theorem said : OpenLaw.wellSaid PySem.Challenge.rw_no0279_01 = true :=
  (congrFun te9446332074065402090 _).trans <| look_both (look_both (look_both (look_both (look_both (look_both (look_both (look_both (look_both (look_both (look_both (look_both (look_both (look_both (look_both (look_both (look_both (look_both (look_both (look_both part0 (by decide +kernel)) (by decide +kernel)) (by decide +kernel)) (by decide +kernel)) (by decide +kernel)) (by decide +kernel)) (by decide +kernel)) (by decide +kernel)) (by decide +kernel)) (by decide +kernel)) (by decide +kernel)) (by decide +kernel)) (by decide +kernel)) (by decide +kernel)) (by decide +kernel)) (by decide +kernel)) (by decide +kernel)) (by decide +kernel)) (by decide +kernel)) (by decide +kernel)
theorem wm0 : TablesWhole.wModule TablesWhole.holds pw.main = true := by rw [te6116379765354995101]; kernel_rfl
theorem bare1 : pw.bare := ⟨rfl, rfl, rfl, rfl, rfl, show TablesWhole.holds.all [TablesWhole.wModule TablesWhole.holds pw.main, _, _, _] = true by rw [wm0]; rfl⟩
theorem xt_1 (s : Shared) (e : xt s = true) : xlAt view [] s = true := (Bool.and_eq_true_iff.mp e).1
theorem xt_2 (s : Shared) (e : xt s = true) : recOk (RowW.records (PySem.Challenge.rw_no0279_01.row.toRowW)) s = true := (Bool.and_eq_true_iff.mp e).2
theorem split {r : OpenRow} (hw : r.toRowW.promised) (hc : r.toRowW.promised → r.Holds) : r.Holds := hc hw
local macro_rules | `(tactic| o_law) => `(tactic| refine holds_law said fun said => ?_)
local macro_rules | `(tactic| o_head $_) => do
  let hw := Lean.mkIdent `hw
  let hc := Lean.mkIdent `hc
  `(tactic| refine split ?$hw ?$hc)
open_top hd0 for PySem.Challenge.rw_no0279_01
noncomputable def hkL : List Addr := (hd0.heap_1 { strHash := fun _ => 0, shareClass := fun _ => 0, mergeTok := id, idOf := fun _ => 0, idOfShared := fun _ _ => 0, followText := fun _ => true, idOfImm := fun _ => 0 }).map (·.1)
theorem hk_as (P : Params) : hkL = (hd0.heap_1 P).map (·.1) := by kernel_rfl
noncomputable def hk : Hook := kHook hd0.heap_1 hkL hk_as
noncomputable def lookK (s : SharedT) (a : Addr) : Option (Option Obj) := match Nat.blt a s.n with
  | true => (s.tree.get a).map alive
  | false => none
theorem lookK_of {s : SharedT} {a : Addr} {x : Option Obj} (h : lookK s a = some x) : s.abs.heap.get? a = x := by
  unfold lookK at h
  cases e : Nat.blt a s.n with
  | false => rw [e] at h; cases h
  | true => rw [e] at h; obtain ⟨o, ho, rfl⟩ := Option.map_eq_some_iff.mp h; exact abs_get (Nat.le_of_ble_eq_true e) ho
theorem obs_of {w : World} {s : SharedT} (h : (hd0.heap_1 w.params).map (fun p => lookK s p.1) = (hd0.heap_1 w.params).map fun p => some (some p.2)) : hk.obs s.abs = hk.val w := by
  show hkL.map s.abs.heap.get? = (hd0.heap_1 w.params).map fun p => some p.2
  rw [hk_as w.params, List.map_map]
  exact List.map_congr_left fun p hp => lookK_of (List.map_inj_left.mp h p hp)
noncomputable def ends (N : Nat) (w : World) (os : OsState) : Option SharedT := runT pw w 11 (some (.ref 6)) N (s0 w.params os) (topStub pw)
noncomputable def shows (w : World) (s : SharedT) := (looks w.params s.abs, (hd0.heap_1 w.params).map fun p => lookK s p.1)
noncomputable def due (w : World) := (good, (hd0.heap_1 w.params).map fun p => some (some p.2))
theorem seen_of {N : Nat} {w : World} {os : OsState} (h : (ends N w os).map (shows w) = some (due w)) : ∃ s, ends N w os = some s ∧ looks w.params s.abs = good ∧ hk.obs s.abs = hk.val w := by
  obtain ⟨s, r, l⟩ := Option.map_eq_some_iff.mp h
  obtain ⟨l1, l2⟩ := Prod.mk.inj l
  exact ⟨s, r, l1, obs_of l2⟩
theorem top_f (w : World) (os : OsState) : (ends 7342 (wf w false) os).map (shows (wf w false)) = some (due (wf w false)) := by kernel_rfl
theorem top_t (w : World) (os : OsState) : (ends 7342 (wf w true) os).map (shows (wf w true)) = some (due (wf w true)) := by kernel_rfl
theorem left_at {N : Nat} (hN : Nat.ble 600 N = true) {w : World} (A : ∀ os, (ends N w os).map (shows w) = some (due w)) :
    (openEnds treeTable pw w N).map (fun s => (openSeen view lo (importedModules pw.main.body) xt true s, hk.obs s)) = some (openGood view lo, hk.val w) := by
  obtain ⟨⟨h, gs, d, k, os⟩, e, e'⟩ := Option.map_eq_some_iff.mp (opens hN w)
  obtain ⟨rfl, rfl, rfl, rfl⟩ : h = boot_heap w.params ∧ gs = Array.mk [] ∧ d = boot_drawn ∧ k = boot_toks := by simpa using e'
  obtain ⟨z1, z2, z3⟩ : _ ∧ _ ∧ _ := by simpa only [Prod.mk.injEq] using size w
  obtain ⟨s, r, l, l'⟩ := seen_of (A os)
  obtain ⟨l1, l2⟩ := Prod.mk.inj l
  unfold st at l1
  unfold mods at l1 l2
  rw [← te5923862056798008813] at l1 l2
  rw [← te4187177175401517315] at l2
  have r := runT_of r
  rw [s0_abs] at r
  have t : topFrom treeTable pw w N ⟨boot_heap w.params, Array.mk [], boot_drawn, boot_toks, os⟩ = some s.abs := by
    unfold topFrom
    dsimp only
    rw [z1, z2, z3, r]
    show (match staticsOk (importedModules PySem.Challenge.pw_no0279_01.main.body) (boot_heap w.params) s.abs.heap && namesBound PySem.Challenge.pw_no0279_01 s.abs.heap && gensDone s.abs && laidKept (boot_heap w.params) s.abs.heap with | true => _ | false => _) = _
    rw [l1]
  unfold openEnds
  rw [e]
  show (topFrom treeTable PySem.Challenge.pw_no0279_01 w N _).map _ = _
  rw [t]
  exact congrArg some (Prod.ext l2 l')
theorem left : LeftO pw view lo xt hk.obs hk.val 7342 := fun w =>
  byRow2 "special-get-raises" (P := fun w => (openEnds treeTable pw w 7342).map (fun s => (openSeen view lo (importedModules pw.main.body) xt true s, hk.obs s)) = some (openGood view lo, hk.val w)) (fun w => left_at rfl (top_f w)) (fun w => left_at rfl (top_t w)) w
noncomputable def hd := fun W => hd0 fun hw => holds_open (r := PySem.Challenge.rw_no0279_01.row) (q := view) (loose := lo) (Xt := xt) (XP := XL view []) (Yf := hk.obs) (Ya := hk.val) (YP := hk.says) (N := 7342) left hk.of hk.keeps (fun s e => xl_of s (xt_1 s e)) XL.keeps (by rfl) (by rfl) (by rfl) (fun s e => recFacts_of (xt_2 s e)) (by rfl) (row_said said) (by decide +kernel) bare1 hw W
end P279h
end
section
open PySem PySem.W PyProof.Rows PySem.Spec PySem.Calls
namespace P279
theorem ar_sh {a b c : Nat} (ha : c ≤ a) (hb : c ≤ b) : b - c + 1 - (a - c) = b + 1 - a := by rw [← Nat.sub_add_comm hb, Nat.sub_sub_sub_cancel_right ha]
theorem ar_shZ {a b c : Nat} (ha : c ≤ a) (hb : c ≤ b) : (((b - c : Nat) : Int) + 1 - ((a - c : Nat) : Int)).toNat = b + 1 - a := (Int.toNat_sub (b - c + 1) (a - c)).trans (ar_sh ha hb)
theorem ar_lt {a b q : Nat} (ha : 65 ≤ a) (hb : b ≤ 90) (h : q < b + 1 - a) : a - 65 + q < 26 := by omega
theorem ar_ts {n st : Nat} (h : 65 ≤ st) : 65 + n + 1 - st = n + 1 - (st - 65) := by
  obtain ⟨k, rfl⟩ := Nat.exists_eq_add_of_le h
  rw [Nat.add_sub_cancel_left, Nat.add_assoc, Nat.add_sub_add_left]
theorem ar_tn (a l : Nat) : ((a + l : Nat) : Int).toNat - (a : Int).toNat = l := by rw [Int.toNat_natCast, Int.toNat_natCast, Nat.add_sub_cancel_left]
theorem ar_m1 {l : Nat} (h : 0 < l) : ((-1 : Int) + l).toNat = l - 1 := by lia
theorem ar_m2 {l : Nat} (h : 0 < l) : ((-1 : Int) + l).toNat - (1 : Int).toNat = l - 2 := by rw [ar_m1 h]; rfl
theorem td_len {α : Type} {x : List α} {n : Nat} (a b : Nat) (h : x.length ≤ n) : ((x.drop a).take b).length ≤ n := by
  rw [List.length_take, List.length_drop]; exact Nat.le_trans (Nat.min_le_right _ _) (Nat.le_trans (Nat.sub_le _ _) h)
theorem ar_st {n i : Nat} (h : i < n) : n - i = n - (i + 1) + 1 := by lia
noncomputable abbrev BM := Addr → Option Obj
noncomputable abbrev Mut := List (Addr × List PyData)
noncomputable abbrev tupOf (vs : Array Value) (n : Nat) : Obj := { cls := .type "tuple", data := .seq vs n }
mutual
inductive V (B : BM) : Value → PyData → Prop
  | none : V B .none .none
  | bool (b : Bool) : V B (.bool b) (.bool b)
  | int (i : Int) (t : Tok) : V B (.int i t) (.int i)
  | str (x : Str) (t : Tok) : V B (.str x t) (.str x)
  | list {a : Addr} {vs : Array Value} {n : Nat} {ds : List PyData} : B a = some (listOf vs n) → Vs B vs.toList ds → V B (.ref a) (.list ds)
  | tuple {a : Addr} {vs : Array Value} {n : Nat} {ds : List PyData} : B a = some (tupOf vs n) → Vs B vs.toList ds → V B (.ref a) (.tuple ds)
inductive Vs (B : BM) : List Value → List PyData → Prop
  | nil : Vs B [] []
  | cons {v : Value} {d : PyData} {vs : List Value} {ds : List PyData} : V B v d → Vs B vs ds → Vs B (v :: vs) (d :: ds)
end
noncomputable def BLe (B B' : BM) : Prop := ∀ a o, B a = some o → B' a = some o
theorem BLe.refl (B : BM) : BLe B B := fun _ _ e => e
theorem BLe.trans {B B' B'' : BM} (x : BLe B B') (y : BLe B' B'') : BLe B B'' := fun a o e => y a o (x a o e)
theorem V.mono2 {B B' : BM} (hl : ∀ b vs n, B b = some (listOf vs n) → B' b = some (listOf vs n)) (ht : ∀ b vs n, B b = some (tupOf vs n) → B' b = some (tupOf vs n)) {v : Value} {d : PyData} (h : V B v d) : V B' v d :=
  V.rec (motive_1 := fun v d _ => V B' v d) (motive_2 := fun vs ds _ => Vs B' vs ds) .none .bool .int .str (fun h _ r => .list (hl _ _ _ h) r) (fun h _ r => .tuple (ht _ _ _ h) r) .nil (fun _ _ a b => .cons a b) h
theorem Vs.mono2 {B B' : BM} (hl : ∀ b vs n, B b = some (listOf vs n) → B' b = some (listOf vs n)) (ht : ∀ b vs n, B b = some (tupOf vs n) → B' b = some (tupOf vs n)) {vs : List Value} {ds : List PyData} (h : Vs B vs ds) : Vs B' vs ds := Vs.rec (motive_1 := fun v d _ => V B' v d) (motive_2 := fun vs ds _ => Vs B' vs ds) .none .bool .int .str (fun h _ r => .list (hl _ _ _ h) r) (fun h _ r => .tuple (ht _ _ _ h) r) .nil (fun _ _ a b => .cons a b) h
theorem V.mono {B B' : BM} (x : BLe B B') {v : Value} {d : PyData} (h : V B v d) : V B' v d := h.mono2 (fun _ _ _ => x _ _) (fun _ _ _ => x _ _)
theorem Vs.mono {B B' : BM} (x : BLe B B') {vs : List Value} {ds : List PyData} (h : Vs B vs ds) : Vs B' vs ds := h.mono2 (fun _ _ _ => x _ _) (fun _ _ _ => x _ _)
noncomputable def KeepB (B : BM) (h : Heap) : Prop := ∀ a o, B a = some o → h.get? a = some o
theorem V.reads {B : BM} {h : Heap} (x : KeepB B h) {v : Value} {d : PyData} (H : V B v d) : ∃ as, Reads h v d as :=
  V.rec (motive_1 := fun v d _ => ∃ as, Reads h v d as) (motive_2 := fun vs ds _ => ∃ as, ReadsAll h vs ds as) ⟨_, Reads.none⟩ (fun b => ⟨_, Reads.bool b⟩) (fun i t => ⟨_, Reads.int i t⟩) (fun y t => ⟨_, Reads.str y t⟩) (fun g _ r => r.elim fun _ q => ⟨_, Reads.list (x _ _ g) rfl rfl q⟩) (fun g _ r => r.elim fun _ q => ⟨_, Reads.tuple (x _ _ g) rfl rfl q⟩) ⟨_, ReadsAll.nil⟩ (fun _ _ a b => a.elim fun _ q => b.elim fun _ p => ⟨_, ReadsAll.cons q p⟩) H
theorem Vs.reads {B : BM} {h : Heap} (x : KeepB B h) {vs : List Value} {ds : List PyData} (H : Vs B vs ds) : ∃ as, ReadsAll h vs ds as :=
  Vs.rec (motive_1 := fun v d _ => ∃ as, Reads h v d as) (motive_2 := fun vs ds _ => ∃ as, ReadsAll h vs ds as) ⟨_, Reads.none⟩ (fun b => ⟨_, Reads.bool b⟩) (fun i t => ⟨_, Reads.int i t⟩) (fun y t => ⟨_, Reads.str y t⟩) (fun g _ r => r.elim fun _ q => ⟨_, Reads.list (x _ _ g) rfl rfl q⟩) (fun g _ r => r.elim fun _ q => ⟨_, Reads.tuple (x _ _ g) rfl rfl q⟩) ⟨_, ReadsAll.nil⟩ (fun _ _ a b => a.elim fun _ q => b.elim fun _ p => ⟨_, ReadsAll.cons q p⟩) H
section
variable {B : BM} {v : Value} {d : PyData} {vs ws : List Value} {ds es : List PyData}
theorem Vs.length (h : Vs B vs ds) : vs.length = ds.length := by
  induction vs generalizing ds with
  | nil => cases h; rfl
  | cons v vs ih =>
    cases h with
    | cons _ r => rw [List.length_cons, List.length_cons, ih r]
theorem Vs.append (h : Vs B vs ds) (k : Vs B ws es) : Vs B (vs ++ ws) (ds ++ es) := by
  induction vs generalizing ds with
  | nil => cases h; exact k
  | cons v vs ih =>
    cases h with
    | cons h r => exact .cons h (ih r)
theorem Vs.one (h : V B v d) : Vs B [v] [d] := .cons h .nil
theorem Vs.get (h : Vs B vs ds) {k : Nat} {d : PyData} (hk : ds[k]? = some d) : ∃ v, vs[k]? = some v ∧ V B v d := by
  induction vs generalizing ds k with
  | nil => cases h; simp at hk
  | cons v vs ih =>
    cases h with
    | cons h r =>
      cases k with
      | zero => simp at hk; subst hk; exact ⟨v, rfl, h⟩
      | succ k => simp at hk; simpa using ih r hk
theorem Vs.get' (h : Vs B vs ds) {k : Nat} {v : Value} (hk : vs[k]? = some v) : ∃ d, ds[k]? = some d ∧ V B v d := by
  induction vs generalizing ds k with
  | nil => simp at hk
  | cons w vs ih =>
    cases h with
    | cons h r =>
      cases k with
      | zero => simp at hk; subst hk; exact ⟨_, rfl, h⟩
      | succ k => simp at hk; simpa using ih r hk
theorem Vs.set (h : Vs B vs ds) (k : Nat) (hv : V B v d) : Vs B (vs.set k v) (ds.set k d) := by
  induction vs generalizing ds k with
  | nil => cases h; exact .nil
  | cons w vs ih =>
    cases h with
    | cons h r =>
      cases k with
      | zero => exact .cons hv r
      | succ k => exact .cons h (ih r k)
theorem Vs.drop (h : Vs B vs ds) (k : Nat) : Vs B (vs.drop k) (ds.drop k) := by
  induction vs generalizing ds k with
  | nil => cases h; simpa using Vs.nil
  | cons w vs ih =>
    cases h with
    | cons h r =>
      cases k with
      | zero => exact .cons h r
      | succ k => exact ih r k
theorem Vs.take (h : Vs B vs ds) (k : Nat) : Vs B (vs.take k) (ds.take k) := by
  induction vs generalizing ds k with
  | nil => cases h; simpa using Vs.nil
  | cons w vs ih =>
    cases h with
    | cons h r =>
      cases k with
      | zero => exact .nil
      | succ k => exact .cons h (ih r k)
theorem Vs.eraseIdx (h : Vs B vs ds) (k : Nat) : Vs B (vs.eraseIdx k) (ds.eraseIdx k) := by
  induction vs generalizing ds k with
  | nil => cases h; simpa using Vs.nil
  | cons w vs ih =>
    cases h with
    | cons h r =>
      cases k with
      | zero => exact r
      | succ k => exact .cons h (ih r k)
end
inductive D where
  | t (d : PyData)
  | loc (a : Addr)
  | rng (lo hi : Int)
  | inst (x r t : Addr)
noncomputable def IsRng (o : Obj) (lo hi : Int) : Prop := ∃ t u w, o = { cls := .type "range", dict := none, data := .fields #[.int lo t, .int hi u, .int 1 w], slots := #[] }
noncomputable def IsInst (C : Addr) (B : BM) (x r t : Addr) : Prop := ∃ dx es n, B x = some (instObj C dx) ∧ B dx = some (dictOf es n) ∧ getL "rules" es = some (some (.ref r)) ∧ (r ≠ t → getL "told" es = some (some (.ref t))) ∧
  getL "add" es = some none ∧ getL "of" es = some none
noncomputable def VD (C : Addr) (B : BM) (v : Value) : D → Prop
  | .t d => V B v d
  | .loc a => v = .ref a
  | .rng lo hi => ∃ a o, v = .ref a ∧ B a = some o ∧ IsRng o lo hi
  | .inst x r t => v = .ref x ∧ IsInst C B x r t
theorem VD.mono {C : Addr} {B B' : BM} {v : Value} {d : D} (x : BLe B B') (h : VD C B v d) : VD C B' v d := by
  cases d with
  | t d => exact V.mono x h
  | loc a => exact h
  | rng lo hi => obtain ⟨a, o, e, q, r⟩ := h; exact ⟨a, o, e, x _ _ q, r⟩
  | inst y r t => obtain ⟨e, dx, es, n, a, b, c⟩ := h; exact ⟨e, dx, es, n, x _ _ a, x _ _ b, c⟩
noncomputable abbrev Loc := List (Str × D)
noncomputable def Loc.get : Loc → Str → Option D
  | [], _ => none
  | (y, d) :: r, x => if x = y then some d else Loc.get r x
noncomputable abbrev frs (fr : List Env) : List Addr := fr.filterMap (·.frame)
structure Trans (own frA : List Addr) (μ : Mut) (B : BM) (s : Shared) (μ' : Mut) (B' : BM) (s' : Shared) : Prop where
  le : BLe B B'
  newB : ∀ a, B' a ≠ none → B a ≠ none ∨ a ∈ μ.map (·.1) ∨ s.heap.get? a = none
  newM : ∀ a, a ∈ μ'.map (·.1) → a ∈ μ.map (·.1) ∨ s.heap.get? a = none
  keep : ∀ b o, s.heap.get? b = some o → b ∉ μ.map (·.1) → b ∉ own → (b ∉ frA → s'.heap.get? b = some o) ∧ ∃ sl, s'.heap.get? b = some { o with slots := sl }
  live : ∀ b, s.heap.get? b ≠ none → s'.heap.get? b ≠ none
  gens : s'.gens = s.gens
  os : s'.os = s.os
  drawn : s'.drawn = s.drawn
theorem Trans.refl (own frA : List Addr) (μ : Mut) (B : BM) (s : Shared) : Trans own frA μ B s μ B s :=
  ⟨BLe.refl _, fun _ h => .inl h, fun _ h => .inl h, fun b o e _ _ => ⟨fun _ => e, o.slots, e⟩, fun _ h => h, rfl, rfl, rfl⟩
theorem Trans.trans {own frA : List Addr} {μ₁ μ₂ μ₃ : Mut} {B₁ B₂ B₃ : BM} {s₁ s₂ s₃ : Shared}
    (x : Trans own frA μ₁ B₁ s₁ μ₂ B₂ s₂) (y : Trans own frA μ₂ B₂ s₂ μ₃ B₃ s₃) : Trans own frA μ₁ B₁ s₁ μ₃ B₃ s₃ where
  le := x.le.trans y.le
  newB := fun a h => by
    rcases y.newB a h with h | h | h
    · exact x.newB a h
    · exact .inr (x.newM a h)
    · refine .inr (.inr ?_)
      cases q : s₁.heap.get? a with
      | none => rfl
      | some o => exact absurd h (x.live a (by rw [q]; exact nofun))
  newM := fun a h => by
    rcases y.newM a h with h | h
    · exact x.newM a h
    · refine .inr ?_
      cases q : s₁.heap.get? a with
      | none => rfl
      | some o => exact absurd h (x.live a (by rw [q]; exact nofun))
  keep := fun b o e hm ho => by
    have k1 := x.keep b o e hm ho
    obtain ⟨sl, e2⟩ := k1.2
    have hm2 : b ∉ μ₂.map (·.1) := fun h => by
      rcases x.newM b h with h | h
      · exact hm h
      · rw [e] at h; cases h
    have k2 := y.keep b _ e2 hm2 ho
    refine ⟨fun hf => (y.keep b o (k1.1 hf) hm2 ho).1 hf, ?_⟩
    obtain ⟨sl', e3⟩ := k2.2
    exact ⟨sl', e3⟩
  live := fun b h => y.live b (x.live b h)
  gens := y.gens.trans x.gens
  os := y.os.trans x.os
  drawn := y.drawn.trans x.drawn
end P279
end
section
open PySem PySem.W PyProof.Rows PySem.Spec PySem.Calls
namespace P279
inductive Cl | lex | syn | chk
  deriving DecidableEq
structure Cfg where
  prog : Program
  w : World
  K : Frag
  h₀ : Heap
  mg : Str → Option Value
  mb : Str → Option Value
  C : Addr
  X : Cl → Addr
noncomputable abbrev Cfg.M (G : Cfg) : Model := model G.prog G.w
structure GF (G : Cfg) : Prop where
  kin : G.K.In G.h₀
  g : G.h₀.Ns mainGlobals G.mg
  b : G.h₀.Ns builtinsNs G.mb
  lim : G.h₀.NoLimit
  blt : ∀ x : Str, x ≠ "__name__" → G.mb x = bootBuiltins x
noncomputable def emptyHeap : Heap := {}
theorem emptyHeap_get (a : Addr) : emptyHeap.get? a = none := by simp [emptyHeap, Heap.get?]
structure BInv (G : Cfg) (fr : List Env) (μ : Mut) (B : BM) (s : Shared) : Prop where
  gf : GF G
  base : ∀ a o, G.h₀.get? a = some o → B a = some o
  keep : KeepB B s.heap
  frB : ∀ a ∈ frs fr, B a = none
  mu : ∀ p ∈ μ, B p.1 = none ∧ ∃ n vs, s.heap.get? p.1 = some (listOf vs n) ∧ Vs B vs.toList p.2
  nd : (μ.map (·.1)).Nodup
  fun_ : s.heap.FunFrames emptyHeap fr
structure Act where
  A : Around
  env : Env
  fr : List Env
  own : List Addr
noncomputable def Room (A : Around) (n : Nat) : Prop := A.depth + 2 * n + 60 ≤ 900 ∧ A.units + 8 * n + 500 ≤ 9000
structure Act.Ok (c : Act) : Prop where
  frames : c.A.frames = some c.fr
  handled : c.A.handled = none
  kind : c.env.scope.kind = .function
  globals : c.env.globals = mainGlobals
  builtins : c.env.builtins = builtinsNs
  head : ∃ e r L, c.fr = e :: r ∧ e.frame = some L ∧ c.env.frame = some L
  room : Room c.A 0
  ownL : c.env.locals ∈ c.own
  cinj : ∀ x y a, c.env.cells.lookup x = some a → c.env.cells.lookup y = some a → x = y
noncomputable abbrev Act.priv (c : Act) : List Addr := c.own ++ (frs c.fr ++ c.env.cells.map (·.2))
noncomputable def LocOk (G : Cfg) (c : Act) (m : Loc) (B : BM) (h : Heap) : Prop :=
  ∃ mr, h.Ns c.env.locals mr ∧ ∀ x d, m.get x = some d → ∃ v, VD G.C B v d ∧
    ((c.env.kindOf x = some .local ∧ mr x = some v) ∨ (c.env.kindOf x = some .cell ∧ ∃ ca, c.env.cells.lookup x = some ca ∧ h.IsCell ca (some v)))
structure Inv (G : Cfg) (c : Act) (m : Loc) (μ : Mut) (B : BM) (s : Shared) : Prop extends BInv G c.fr μ B s where
  ok : c.Ok
  loc : LocOk G c m B s.heap
  live : ∀ a ∈ c.priv, s.heap.get? a ≠ none
  privB : ∀ a ∈ c.priv, B a = none
  privM : ∀ a ∈ c.priv, a ∉ μ.map (·.1)
  cellOk : ∀ p ∈ c.env.cells, ∃ v, s.heap.IsCell p.2 v
noncomputable def clV (G : Cfg) (k : Cl) : Value := .ref (G.X k)
noncomputable def Raised (fr : List Env) (cls : Value) (e : Addr) (h₁ h' : Heap) : Prop :=
  ((∀ b o, h₁.get? b = some o → h'.get? b = some o) ∧ h₁.get? e = none ∧ ∃ oe vs a0, h'.get? e = some oe ∧ oe.cls = cls ∧ oe.data = .fields vs ∧ vs[0]? = some a0 ∧ vs[1]? = some .none) ∨
  (∃ a0, Heap.FlyingW (hideAll h₁ (frs fr)) fr e cls a0 h' ∧ h₁.UpToSlots h') ∨
  (∃ a0 env r L, fr = env :: r ∧ env.frame = some L ∧ Heap.HeldW (hideAll h₁ (frs fr)) fr e cls a0 L h' ∧ h₁.UpToSlots h')
noncomputable abbrev TransC (c : Act) := Trans c.own (frs c.fr)
section
variable (G : Cfg) (c : Act)
noncomputable abbrev KQ {α β : Type} (rel : BM → α → β → Prop) (μ : Mut) (B : BM) (s : Shared) (Q : β → Loc → Mut → Prop) (Qr : α → Shared → Prop) : Prop :=
  ∀ a b m' μ' B' s', TransC c μ B s μ' B' s' → Inv G c m' μ' B' s' → rel B' a b → Q b m' μ' → Qr a s'
noncomputable abbrev KE (μ : Mut) (B : BM) (s : Shared) (E : Cl → Loc → Mut → Prop) (Er : Value → Shared → Prop) : Prop :=
  ∀ k e m' μ' B' s₁ s', TransC c μ B s μ' B' s₁ → Inv G c m' μ' B' s₁ → s'.gens = s₁.gens → s'.os = s₁.os → s'.drawn = s₁.drawn → Raised c.fr (clV G k) e s₁.heap s'.heap → E k m' μ' → Er (.ref e) s'
noncomputable def WP {α β : Type} (rel : BM → α → β → Prop) (t : Sem α) (μ : Mut) (B : BM) (s : Shared) (Q : β → Loc → Mut → Prop) (E : Cl → Loc → Mut → Prop) : Prop :=
  ∀ (Qr : α → Shared → Prop) (Er : Value → Shared → Prop), PassesOwn G.M c.A c.env Er → KQ G c rel μ B s Q Qr → KE G c μ B s E Er → wpAny G.M c.A t Qr Er s
end
section
variable {G : Cfg} {c : Act} {α β γ δ : Type} {rel : BM → α → β → Prop} {rel₂ : BM → γ → δ → Prop} {t : Sem α} {m : Loc} {μ μ₂ : Mut} {B B₂ : BM} {s s₂ : Shared} {Q Q' : β → Loc → Mut → Prop} {E E' : Cl → Loc → Mut → Prop} {Q₂ : δ → Loc → Mut → Prop}
theorem WP.mono (h : WP G c rel t μ B s Q E) (hQ : ∀ b m μ, Q b m μ → Q' b m μ) (hE : ∀ k m μ, E k m μ → E' k m μ) : WP G c rel t μ B s Q' E' :=
  fun Qr Er hp q e => h Qr Er hp (fun a b m' μ' B' s' T I R x => q a b m' μ' B' s' T I R (hQ _ _ _ x)) fun k a m' μ' B' s₁ s' T I g o d R x => e k a m' μ' B' s₁ s' T I g o d R (hE _ _ _ x)
theorem WP.after (T : TransC c μ B s μ₂ B₂ s₂) {Qr : α → Shared → Prop} {Er : Value → Shared → Prop} (h : WP G c rel t μ₂ B₂ s₂ Q E) (hp : PassesOwn G.M c.A c.env Er)
    (hQ : ∀ a b m' μ' B' s', TransC c μ B s μ' B' s' → TransC c μ₂ B₂ s₂ μ' B' s' → Inv G c m' μ' B' s' → rel B' a b → Q b m' μ' → Qr a s')
    (hE : ∀ k e m' μ' B' s₁ s', TransC c μ B s μ' B' s₁ → Inv G c m' μ' B' s₁ → s'.gens = s₁.gens → s'.os = s₁.os → s'.drawn = s₁.drawn → Raised c.fr (clV G k) e s₁.heap s'.heap → E k m' μ' → Er (.ref e) s') :
    wpAny G.M c.A t Qr Er s₂ :=
  h Qr Er hp (fun a b m' μ' B' s' T' I R x => hQ a b m' μ' B' s' (T.trans T') T' I R x) fun k e m' μ' B' s₁ s' T' I g o d R x => hE k e m' μ' B' s₁ s' (T.trans T') I g o d R x
theorem WP.pure {a : α} {b : β} (I : Inv G c m μ B s) (hr : rel B a b) (h : Q b m μ) : WP G c rel (pure a) μ B s Q E :=
  fun _ _ _ q _ => wpAny_pure (q a b m μ B s (Trans.refl ..) I hr h)
end
section
variable {G : Cfg} {c : Act} {fr : List Env} {m : Loc} {μ : Mut} {B : BM} {s : Shared} {h' : Heap} {tk : Nat}
theorem FunFrames.live {h base : Heap} {l : List Env} (x : h.FunFrames base l) {a : Addr} (ha : a ∈ frs l) : ∃ o, h.get? a = some o ∧ ∀ vs, o.data ≠ .fields vs := (x.mem ha).2
theorem funFrames_keep {h h' base : Heap} (k : ∀ b o, h.get? b = some o → (∀ vs, o.data ≠ .fields vs) → ∃ o', h'.get? b = some o' ∧ ∀ vs, o'.data ≠ .fields vs) {l : List Env}
    (hl : h.FunFrames base l) : h'.FunFrames base l := by
  induction l with
  | nil => trivial
  | cons env rest ih =>
    obtain ⟨hk, ⟨L, o, hf, hn, ho, hd⟩, hr⟩ := hl
    obtain ⟨o', ho', hd'⟩ := k L o ho hd
    exact ⟨hk, ⟨L, o', hf, hn, ho', hd'⟩, ih hr⟩
theorem frs_tail {env : Env} {M : Addr} {fr : List Env} (h : M ∈ frs fr) : M ∈ frs (env :: fr) := (List.mem_filterMap.mp h).elim fun e q => List.mem_filterMap.mpr ⟨e, .tail _ q.1, q.2⟩
theorem frs_head {env : Env} {L : Addr} {fr : List Env} (h : env.frame = some L) : L ∈ frs (env :: fr) := List.mem_filterMap.mpr ⟨env, .head _, h⟩
theorem funFrames_at {h h' base : Heap} {l : List Env} (k : ∀ L ∈ frs l, ∀ o, h.get? L = some o → (∀ vs, o.data ≠ .fields vs) → ∃ o', h'.get? L = some o' ∧ ∀ vs, o'.data ≠ .fields vs) (H : h.FunFrames base l) : h'.FunFrames base l := by
  induction l with
  | nil => trivial
  | cons env rest ih => exact ⟨H.1, H.2.1.elim fun L q => q.elim fun o q => (k L (frs_head q.1) o q.2.2.1 q.2.2.2).elim fun o' q' => ⟨L, o', q.1, q.2.1, q'.1, q'.2⟩, ih (fun M hM => k M (frs_tail hM)) H.2.2⟩
theorem lk_mem {α β : Type} [BEq α] [LawfulBEq α] {x : α} {e : β} {l : List (α × β)} (h : l.lookup x = some e) : (x, e) ∈ l :=
  (List.lookup_eq_some_iff.mp h).elim fun _ q => q.elim fun _ q => q.1 ▸ List.mem_append_right _ (.head _)
theorem lookup_snd {x : Str} {ca : Addr} {l : List (Str × Addr)} (h : l.lookup x = some ca) : ca ∈ l.map (·.2) := List.mem_map_of_mem (f := (·.2)) (lk_mem h)
theorem BInv.same (I : BInv G fr μ B s) (k : ∀ a o, s.heap.get? a = some o → (B a ≠ none ∨ a ∈ μ.map (·.1) ∨ a ∈ frs fr) → h'.get? a = some o) : BInv G fr μ B { s with heap := h', toks := tk } where
  gf := I.gf
  base := I.base
  keep := fun a o e => k a o (I.keep a o e) (.inl (by rw [e]; exact nofun))
  frB := I.frB
  mu := fun p hp => by
    obtain ⟨h1, n, vs, h2, h3⟩ := I.mu p hp
    exact ⟨h1, n, vs, k _ _ h2 (.inr (.inl (List.mem_map_of_mem hp))), h3⟩
  nd := I.nd
  fun_ := by
    have go : ∀ l : List Env, (∀ a ∈ frs l, a ∈ frs fr) → s.heap.FunFrames emptyHeap l → h'.FunFrames emptyHeap l := by
      intro l
      induction l with
      | nil => intro _ _; trivial
      | cons e r ih =>
        intro hm ⟨hk, ⟨L, o, hf, hn, ho, hd⟩, hr⟩
        refine ⟨hk, ⟨L, o, hf, hn, k _ _ ho (.inr (.inr (hm L (by simp [frs, hf])))), hd⟩, ih (fun a ha => hm a ?_) hr⟩
        simp only [frs, List.filterMap_cons, hf] at ha ⊢
        exact List.mem_cons_of_mem _ ha
    exact go fr (fun _ h => h) I.fun_
theorem Inv.same (I : Inv G c m μ B s) (k : ∀ a o, s.heap.get? a = some o → (B a ≠ none ∨ a ∈ μ.map (·.1) ∨ a ∈ c.priv) → h'.get? a = some o) : Inv G c m μ B { s with heap := h', toks := tk } where
  toBInv := I.toBInv.same fun a o e h => k a o e (by
    rcases h with h | h | h
    · exact .inl h
    · exact .inr (.inl h)
    · exact .inr (.inr (List.mem_append_right _ (List.mem_append_left _ h))))
  ok := I.ok
  loc := by
    obtain ⟨mr, hn, hm⟩ := I.loc
    have hL : c.env.locals ∈ c.priv := List.mem_append_left _ I.ok.ownL
    refine ⟨mr, ?_, fun x d e => ?_⟩
    · obtain ⟨o, es, ep, ho, r⟩ := hn
      exact ⟨o, es, ep, k _ _ ho (.inr (.inr hL)), r⟩
    · obtain ⟨v, hv, h⟩ := hm x d e
      refine ⟨v, hv, h.imp id fun ⟨hk, ca, hc, o, ho, hd⟩ => ⟨hk, ca, hc, o, k _ _ ho (.inr (.inr ?_)), hd⟩⟩
      have hmem : ∀ (l : List (Str × Addr)), l.lookup x = some ca → ca ∈ l.map (·.2) := by
        intro l
        induction l with
        | nil => intro h; simp at h
        | cons p r ih =>
          intro h
          obtain ⟨y, b⟩ := p
          rw [List.lookup_cons] at h
          split at h
          · cases h; simp
          · exact List.mem_cons_of_mem _ (ih h)
      exact List.mem_append_right _ (List.mem_append_right _ (hmem _ hc))
  live := fun a ha => by
    have := I.live a ha
    cases q : s.heap.get? a with
    | none => exact absurd q this
    | some o => show h'.get? a ≠ none; rw [k a o q (.inr (.inr ha))]; exact nofun
  privB := I.privB
  privM := I.privM
  cellOk := fun p hp => by
    obtain ⟨v, o, ho, hd⟩ := I.cellOk p hp
    exact ⟨v, o, k _ _ ho (.inr (.inr (List.mem_append_right _ (List.mem_append_right _ (List.mem_map_of_mem hp))))), hd⟩
theorem Inv.turn {m' : Loc} (I : Inv G c m μ B s) (k : ∀ a o, s.heap.get? a = some o → a ∉ c.own → h'.get? a = some o)
    (ko : ∀ a ∈ c.own, ∀ o, s.heap.get? a = some o → ∃ o', h'.get? a = some o' ∧ ((∀ vs, o.data ≠ .fields vs) → ∀ vs, o'.data ≠ .fields vs)) (hl : LocOk G c m' B h') (hcell : ∀ p ∈ c.env.cells, ∃ v, h'.IsCell p.2 v) :
    Inv G c m' μ B { s with heap := h', toks := tk } where
  gf := I.gf
  base := I.base
  keep := fun a o e => k a o (I.keep a o e) fun h => by rw [I.privB a (List.mem_append_left _ h)] at e; cases e
  frB := I.frB
  mu := fun p hp => by
    obtain ⟨h1, n, vs, h2, h3⟩ := I.mu p hp
    exact ⟨h1, n, vs, k _ _ h2 fun h => I.privM _ (List.mem_append_left _ h) (List.mem_map_of_mem hp), h3⟩
  nd := I.nd
  fun_ := funFrames_keep (fun b o hb hnf => by
    by_cases q : b ∈ c.own
    · obtain ⟨o', ho', hd'⟩ := ko b q o hb
      exact ⟨o', ho', hd' hnf⟩
    · exact ⟨o, k b o hb q, hnf⟩) I.fun_
  ok := I.ok
  loc := hl
  live := fun a ha => by
    have := I.live a ha
    cases q : s.heap.get? a with
    | none => exact absurd q this
    | some o =>
      show h'.get? a ≠ none
      by_cases w : a ∈ c.own
      · obtain ⟨o', ho', _⟩ := ko a w o q
        rw [ho']; exact nofun
      · rw [k a o q w]; exact nofun
  privB := I.privB
  privM := I.privM
  cellOk := hcell
theorem Trans.turn {own frA : List Addr} (k : ∀ a o, s.heap.get? a = some o → a ∉ own → h'.get? a = some o) (ko : ∀ a ∈ own, ∀ o, s.heap.get? a = some o → ∃ o', h'.get? a = some o') :
    Trans own frA μ B s μ B { s with heap := h', toks := tk } :=
  ⟨BLe.refl _, fun _ h => .inl h, fun _ h => .inl h, fun b o e _ ho => ⟨fun _ => k b o e ho, o.slots, k b o e ho⟩, fun b h => by
    cases q : s.heap.get? b with
    | none => exact absurd q h
    | some o =>
      show h'.get? b ≠ none
      by_cases w : b ∈ own
      · obtain ⟨o', ho'⟩ := ko b w o q
        rw [ho']; exact nofun
      · rw [k b o q w]; exact nofun, rfl, rfl, rfl⟩
theorem Inv.ext (I : Inv G c m μ B s) (k : ∀ a o, s.heap.get? a = some o → h'.get? a = some o) : Inv G c m μ B { s with heap := h', toks := tk } := I.same fun a o e _ => k a o e
theorem BInv.ext (I : BInv G fr μ B s) (k : ∀ a o, s.heap.get? a = some o → h'.get? a = some o) : BInv G fr μ B { s with heap := h', toks := tk } := I.same fun a o e _ => k a o e
theorem Inv.toks (I : Inv G c m μ B s) : Inv G c m μ B { s with toks := tk } := I.ext (h' := s.heap) fun _ _ e => e
theorem Trans.ext {own frA : List Addr} (k : ∀ a o, s.heap.get? a = some o → h'.get? a = some o) : Trans own frA μ B s μ B { s with heap := h', toks := tk } :=
  ⟨BLe.refl _, fun _ h => .inl h, fun _ h => .inl h, fun b o e _ _ => ⟨fun _ => k b o e, o.slots, k b o e⟩, fun b h => by
    cases q : s.heap.get? b with
    | none => exact absurd q h
    | some o => show h'.get? b ≠ none; rw [k b o q]; exact nofun, rfl, rfl, rfl⟩
theorem Trans.toks {own frA : List Addr} : Trans own frA μ B s μ B { s with toks := tk } := Trans.ext (h' := s.heap) fun _ _ e => e
noncomputable def BM.put (B : BM) (a : Addr) (o : Obj) : BM := fun b => if b = a then some o else B b
theorem BM.put_le {B : BM} {a : Addr} {o : Obj} (h : B a = none) : BLe B (B.put a o) := fun b x e => by
  unfold BM.put
  by_cases q : b = a
  · rw [q, h] at e; cases e
  · rw [if_neg q]; exact e
theorem BM.put_self {B : BM} {a : Addr} {o : Obj} : B.put a o a = some o := by simp [BM.put]
theorem BM.put_ne {B : BM} {a b : Addr} {o : Obj} (h : B.put a o b ≠ none) : b = a ∨ B b ≠ none := by
  unfold BM.put at h
  by_cases q : b = a
  · exact .inl q
  · rw [if_neg q] at h; exact .inr h
theorem BInv.new (I : BInv G fr μ B s) {a : Addr} {o : Obj} (k : ∀ a o, s.heap.get? a = some o → h'.get? a = some o) (ha : s.heap.get? a = none) (ho : h'.get? a = some o) :
    BInv G fr μ (B.put a o) { s with heap := h', toks := tk } := by
  have hB : B a = none := by
    cases q : B a with
    | none => rfl
    | some x => have := I.keep a x q; rw [ha] at this; cases this
  have J := I.ext (tk := tk) k
  refine ⟨J.gf, fun b x e => BM.put_le hB b x (J.base b x e), fun b x e => ?_, fun b hb => ?_, fun p hp => ?_, J.nd, J.fun_⟩
  · unfold BM.put at e
    by_cases q : b = a
    · rw [if_pos q] at e; cases e; rw [q]; exact ho
    · rw [if_neg q] at e; exact J.keep b x e
  · unfold BM.put
    rw [if_neg, J.frB b hb]
    rintro rfl
    obtain ⟨x, hx, _⟩ := FunFrames.live I.fun_ hb
    rw [ha] at hx; cases hx
  · obtain ⟨h1, n, vs, h2, h3⟩ := J.mu p hp
    refine ⟨?_, n, vs, h2, h3.mono (BM.put_le hB)⟩
    unfold BM.put
    rw [if_neg, h1]
    rintro rfl
    obtain ⟨_, n', vs', h2', _⟩ := I.mu p hp
    rw [ha] at h2'; cases h2'
theorem Inv.new (I : Inv G c m μ B s) {a : Addr} {o : Obj} (k : ∀ a o, s.heap.get? a = some o → h'.get? a = some o) (ha : s.heap.get? a = none) (ho : h'.get? a = some o) :
    Inv G c m μ (B.put a o) { s with heap := h', toks := tk } := by
  have hB : B a = none := by
    cases q : B a with
    | none => rfl
    | some x => have := I.keep a x q; rw [ha] at this; cases this
  have J := I.ext (tk := tk) k
  refine ⟨I.toBInv.new k ha ho, J.ok, ?_, J.live, fun b hb => ?_, J.privM, J.cellOk⟩
  · obtain ⟨mr, hn, hm⟩ := J.loc
    exact ⟨mr, hn, fun x d e => let ⟨v, hv, h⟩ := hm x d e; ⟨v, hv.mono (BM.put_le hB), h⟩⟩
  · unfold BM.put
    rw [if_neg, J.privB b hb]
    rintro rfl
    exact I.live b hb ha
theorem Trans.new {own frA : List Addr} {a : Addr} {o : Obj} (k : ∀ a o, s.heap.get? a = some o → h'.get? a = some o) (hB : B a = none) (ha : s.heap.get? a = none) :
    Trans own frA μ B s μ (B.put a o) { s with heap := h', toks := tk } := by
  have T : Trans own frA μ B s μ B { s with heap := h', toks := tk } := Trans.ext k
  refine ⟨BM.put_le hB, fun b h => ?_, T.newM, T.keep, T.live, rfl, rfl, rfl⟩
  rcases BM.put_ne h with rfl | h
  · exact .inr (.inr ha)
  · exact .inl h
theorem BInv.noB (I : BInv G fr μ B s) {a : Addr} (ha : s.heap.get? a = none) : B a = none := by
  cases q : B a with
  | none => rfl
  | some x => have := I.keep a x q; rw [ha] at this; cases this
theorem BInv.newMut (I : BInv G fr μ B s) {a : Addr} {n : Nat} {vs : Array Value} {ds : List PyData} (k : ∀ a o, s.heap.get? a = some o → h'.get? a = some o) (ha : s.heap.get? a = none) (ho : h'.get? a = some (listOf vs n)) (hv : Vs B vs.toList ds) :
    BInv G fr ((a, ds) :: μ) B { s with heap := h', toks := tk } := by
  have J := I.ext (tk := tk) k
  refine ⟨J.gf, J.base, J.keep, J.frB, fun p hp => ?_, ?_, J.fun_⟩
  · rcases List.mem_cons.mp hp with rfl | hp
    · exact ⟨I.noB ha, n, vs, ho, hv⟩
    · exact J.mu p hp
  · rw [List.map_cons]
    refine List.nodup_cons.mpr ⟨fun hm => ?_, J.nd⟩
    obtain ⟨p, hp, e⟩ := List.mem_map.mp hm
    obtain ⟨_, n', vs', h2', _⟩ := I.mu p hp
    dsimp only at e
    rw [e, ha] at h2'; cases h2'
theorem Inv.newMut (I : Inv G c m μ B s) {a : Addr} {n : Nat} {vs : Array Value} {ds : List PyData} (k : ∀ a o, s.heap.get? a = some o → h'.get? a = some o) (ha : s.heap.get? a = none) (ho : h'.get? a = some (listOf vs n)) (hv : Vs B vs.toList ds) :
    Inv G c m ((a, ds) :: μ) B { s with heap := h', toks := tk } := by
  have J := I.ext (tk := tk) k
  refine ⟨I.toBInv.newMut k ha ho hv, J.ok, J.loc, J.live, J.privB, fun b hb hm => ?_, J.cellOk⟩
  rw [List.map_cons] at hm
  rcases List.mem_cons.mp hm with rfl | hm
  · exact I.live _ hb ha
  · exact I.privM b hb hm
theorem Trans.newMut {own frA : List Addr} {a : Addr} {ds : List PyData} (k : ∀ a o, s.heap.get? a = some o → h'.get? a = some o) (ha : s.heap.get? a = none) :
    Trans own frA μ B s ((a, ds) :: μ) B { s with heap := h', toks := tk } := by
  have T : Trans own frA μ B s μ B { s with heap := h', toks := tk } := Trans.ext k
  refine ⟨T.le, T.newB, fun b h => ?_, T.keep, T.live, rfl, rfl, rfl⟩
  rw [List.map_cons] at h
  rcases List.mem_cons.mp h with rfl | h
  · exact .inr ha
  · exact .inl h
end
end P279
end
section
open PySem PySem.W PyProof.Rows PySem.Spec PySem.Calls
namespace P279
section
variable (G : Cfg) (c : Act)
noncomputable def WX {α β : Type} (rel : BM → α → β → Prop) (t : Sem α) (m : Loc) (μ : Mut) (B : BM) (s : Shared) (Q : β → Mut → Prop) (E : Cl → Mut → Prop) : Prop :=
  WP G c rel t μ B s (fun b m' μ' => m' = m ∧ Q b μ') (fun k m' μ' => m' = m ∧ E k μ')
noncomputable abbrev rB : BM → Bool → Bool → Prop := fun _ a b => a = b
inductive VDs (C : Addr) (B : BM) : List Value → List D → Prop
  | nil : VDs C B [] []
  | cons {v : Value} {d : D} {vs : List Value} {ds : List D} : VD C B v d → VDs C B vs ds → VDs C B (v :: vs) (d :: ds)
noncomputable def WE (e : Expr) (m : Loc) (μ : Mut) (Q : D → Mut → Prop) (E : Cl → Mut → Prop) : Prop :=
  ∀ B s, Inv G c m μ B s → WX G c (VD G.C) (eval e c.env) m μ B s Q E
noncomputable def WB (e : Expr) (m : Loc) (μ : Mut) (Q : Bool → Mut → Prop) (E : Cl → Mut → Prop) : Prop :=
  ∀ B s, Inv G c m μ B s → WX G c rB (isTrue e c.env (eval e c.env)) m μ B s Q E
noncomputable def WEs (pos : Pos) (es : List Expr) (m : Loc) (μ : Mut) (Q : List D → Mut → Prop) (E : Cl → Mut → Prop) : Prop :=
  ∀ B s, Inv G c m μ B s → WX G c (VDs G.C) (spliced (backTo pos (starEach es c.env))) m μ B s Q E
noncomputable def S1 (t : Value → Sem Value) (d : D) (m : Loc) (μ : Mut) (Q : D → Mut → Prop) (E : Cl → Mut → Prop) : Prop :=
  ∀ B s v, Inv G c m μ B s → VD G.C B v d → WX G c (VD G.C) (t v) m μ B s Q E
noncomputable def SB (t : Value → Sem Bool) (d : D) (m : Loc) (μ : Mut) (Q : Bool → Mut → Prop) (E : Cl → Mut → Prop) : Prop :=
  ∀ B s v, Inv G c m μ B s → VD G.C B v d → WX G c rB (t v) m μ B s Q E
noncomputable def S2 (t : Value → Value → Sem Value) (d₁ d₂ : D) (m : Loc) (μ : Mut) (Q : D → Mut → Prop) (E : Cl → Mut → Prop) : Prop :=
  ∀ B s v₁ v₂, Inv G c m μ B s → VD G.C B v₁ d₁ → VD G.C B v₂ d₂ → WX G c (VD G.C) (t v₁ v₂) m μ B s Q E
end
theorem VDs.mono {C : Addr} {B B' : BM} (x : BLe B B') {vs : List Value} {ds : List D} (h : VDs C B vs ds) : VDs C B' vs ds := by
  induction h with
  | nil => exact .nil
  | cons h _ ih => exact .cons (h.mono x) ih
theorem VDs.length {C : Addr} {B : BM} {vs : List Value} {ds : List D} (h : VDs C B vs ds) : vs.length = ds.length := by
  induction h with
  | nil => rfl
  | cons _ _ ih => simp [ih]
section
variable {G : Cfg} {c : Act} {α β γ δ : Type} {rel : BM → α → β → Prop} {rel₂ : BM → γ → δ → Prop} {t : Sem α} {m : Loc} {μ μ₂ : Mut} {B B₂ : BM} {s s₂ : Shared} {Q Q' : β → Mut → Prop} {E E' : Cl → Mut → Prop} {Q₂ : δ → Mut → Prop}
theorem WX.mono (h : WX G c rel t m μ B s Q E) (hQ : ∀ b μ, Q b μ → Q' b μ) (hE : ∀ k μ, E k μ → E' k μ) : WX G c rel t m μ B s Q' E' :=
  WP.mono h (fun _ _ _ x => ⟨x.1, hQ _ _ x.2⟩) fun _ _ _ x => ⟨x.1, hE _ _ x.2⟩
theorem WX.pure {a : α} {b : β} (I : Inv G c m μ B s) (hr : rel B a b) (h : Q b μ) : WX G c rel (Pure.pure a) m μ B s Q E := WP.pure I hr ⟨rfl, h⟩
theorem WX.use (h : WX G c rel t m μ₂ B₂ s₂ Q E) (T : TransC c μ B s μ₂ B₂ s₂) {Qr : α → Shared → Prop} {Er : Value → Shared → Prop} (hp : PassesOwn G.M c.A c.env Er)
    (hE : ∀ k e m' μ' B' s₁ s', TransC c μ B s μ' B' s₁ → Inv G c m' μ' B' s₁ → s'.gens = s₁.gens → s'.os = s₁.os → s'.drawn = s₁.drawn → Raised c.fr (clV G k) e s₁.heap s'.heap → (m' = m ∧ E k μ') → Er (.ref e) s')
    (hQ : ∀ a b μ' B' s', TransC c μ B s μ' B' s' → TransC c μ₂ B₂ s₂ μ' B' s' → Inv G c m μ' B' s' → rel B' a b → Q b μ' → Qr a s') :
    wpAny G.M c.A t Qr Er s₂ :=
  WP.after T h hp (fun a b m' μ' B' s' T1 T2 I R x => by obtain ⟨rfl, x⟩ := x; exact hQ a b μ' B' s' T1 T2 I R x) hE
theorem WX.of_toks (I : Inv G c m μ B s) (h : ∀ (Qr : α → Shared → Prop) (Er : Value → Shared → Prop), (∀ a tk b, rel B a b → Q b μ → Qr a { s with toks := tk }) → wpAny G.M c.A t Qr Er s) : WX G c rel t m μ B s Q E :=
  fun Qr Er _ q _ => h Qr Er fun a tk b hr hq => q a b m μ B _ Trans.toks I.toks hr ⟨rfl, hq⟩
theorem WX.of_new (I : Inv G c m μ B s) (h : ∀ (Qr : α → Shared → Prop) (Er : Value → Shared → Prop), (∀ a h' tk b x o, (∀ a o, s.heap.get? a = some o → h'.get? a = some o) → s.heap.get? x = none → h'.get? x = some o → rel (B.put x o) a b → Q b μ → Qr a { s with heap := h', toks := tk }) → wpAny G.M c.A t Qr Er s) : WX G c rel t m μ B s Q E :=
  fun Qr Er _ q _ => h Qr Er fun a h' tk b x o k hx ho hr hq => q a b m μ _ _ (Trans.new k (I.noB hx) hx) (I.new k hx ho) hr ⟨rfl, hq⟩
end
section
variable {G : Cfg} {c : Act} {m : Loc} {μ : Mut} {E : Cl → Mut → Prop} {Q : D → Mut → Prop}
theorem WE.mono {e : Expr} {Q' : D → Mut → Prop} {E' : Cl → Mut → Prop} (h : WE G c e m μ Q E) (hQ : ∀ b μ, Q b μ → Q' b μ) (hE : ∀ k μ, E k μ → E' k μ) : WE G c e m μ Q' E' := fun B s I => (h B s I).mono hQ hE
theorem WE_Local {x : Str} {pos : Pos} {d : D} (hm : m.get x = some d) (h : Q d μ) (hd : (x == ("__debug__" : Str)) = false := by decide) : WE G c (.Name x pos) m μ Q E := by
  intro B s I
  refine WX.of_toks I fun Qr Er q => ?_
  obtain ⟨mr, hn, hl⟩ := I.loc
  obtain ⟨v, hv, h'⟩ := hl x d hm
  refine wpAny_Name ?_ hd
  rcases h' with ⟨hk, hv'⟩ | ⟨hk, ca, hc, hcell⟩
  · exact wpAny_loadName_local I.ok.kind hk hn hv' (q v s.toks d hv h)
  · exact wpAny_loadName_cell I.ok.kind hk hc hcell (q v s.toks d hv h)
noncomputable def GName (G : Cfg) (x : Str) (d : PyData) : Prop := ∃ v, nsIn G.K mainGlobals x = some (some v) ∧ ∀ B : BM, (∀ a o, G.h₀.get? a = some o → B a = some o) → V B v d
theorem Inv.ns (I : Inv G c m μ B s) : s.heap.Ns mainGlobals G.mg := I.gf.g.keeps fun b o e => I.keep b o (I.base b o e)
theorem Inv.nsb (I : Inv G c m μ B s) : s.heap.Ns builtinsNs G.mb := I.gf.b.keeps fun b o e => I.keep b o (I.base b o e)
theorem Inv.kin (I : Inv G c m μ B s) : G.K.In s.heap := I.gf.kin.keeps fun b o e => I.keep b o (I.base b o e)
theorem WE_Global {x : Str} {pos : Pos} {d : PyData} (hx : c.env.kindOf x = some .globalImplicit) (e : GName G x d) (h : Q (.t d) μ) (hd : (x == ("__debug__" : Str)) = false := by decide) : WE G c (.Name x pos) m μ Q E := by
  intro B s I
  refine WX.of_toks I fun Qr Er q => ?_
  obtain ⟨v, e, hv⟩ := e
  refine Name_function_global I.ok.kind hx (loadGlobal_global (I.ok.globals ▸ I.ns) (mg_of I.gf.kin I.gf.g e) (q v s.toks (.t d) (hv B I.base) h)) hd
theorem WE_Int {i : Int} {k : Nat} {pos : Pos} (h : Q (.t (.int i)) μ) : WE G c (.Constant (.int i) k pos) m μ Q E := fun _ _ I =>
  WX.of_toks I fun _ _ q => wpAny_Constant_int (q _ _ (.t (.int i)) (V.int i _) h)
theorem WE_Str {x : Str} {k : Nat} {pos : Pos} (h : Q (.t (.str x)) μ) : WE G c (.Constant (.str x) k pos) m μ Q E := fun _ _ I =>
  WX.of_toks I fun _ _ q => wpAny_Constant_str (q _ _ (.t (.str x)) (V.str x _) h)
theorem WE_None {k : Nat} {pos : Pos} (h : Q (.t .none) μ) : WE G c (.Constant .none k pos) m μ Q E := fun _ s I =>
  WX.of_toks I fun _ _ q => wpAny_Constant_none (q _ s.toks (.t .none) V.none h)
theorem WE_Bool {b : Bool} {k : Nat} {pos : Pos} (h : Q (.t (.bool b)) μ) : WE G c (.Constant (.bool b) k pos) m μ Q E := fun _ s I =>
  WX.of_toks I fun _ _ q => wpAny_Constant_bool (q _ s.toks (.t (.bool b)) (V.bool b) h)
theorem WE_BinOp {l r : Expr} {op : Operator} {pos : Pos} (h : WE G c l m μ (fun d₁ μ₁ => WE G c r m μ₁ (fun d₂ μ₂ => S2 G c (binaryOp op) d₁ d₂ m μ₂ Q E) E) E) : WE G c (.BinOp l op r pos) m μ Q E := by
  intro B s I Qr Er hp q e
  refine wpAny_BinOp (WX.use (h B s I) (Trans.refl ..) hp e fun v₁ d₁ μ₁ B₁ s₁ T₁ _ I₁ V₁ h₁ => ?_)
  refine WX.use (h₁ B₁ s₁ I₁) T₁ hp e fun v₂ d₂ μ₂ B₂ s₂ T₂ U I₂ V₂ h₂ => ?_
  exact WX.use (h₂ B₂ s₂ v₁ v₂ I₂ (V₁.mono U.le) V₂) T₂ hp e fun a b μ' B' s' T _ I' R x => q a b m μ' B' s' T I' R ⟨rfl, x⟩
theorem WE_Compare {l r : Expr} {op : CmpOp} {pos : Pos} (h : WE G c l m μ (fun d₁ μ₁ => WE G c r m μ₁ (fun d₂ μ₂ => S2 G c (compareOp op) d₁ d₂ m μ₂ Q E) E) E)
    (hm : behindInMarks op r = false := by with_unfolding_all rfl) : WE G c (.Compare l [op] [r] pos) m μ Q E := by
  intro B s I Qr Er hp q e
  refine wpAny_Compare1 (WX.use (h B s I) (Trans.refl ..) hp e fun v₁ d₁ μ₁ B₁ s₁ T₁ _ I₁ V₁ h₁ => ?_) hm
  refine WX.use (h₁ B₁ s₁ I₁) T₁ hp e fun v₂ d₂ μ₂ B₂ s₂ T₂ U I₂ V₂ h₂ => ?_
  exact WX.use (h₂ B₂ s₂ v₁ v₂ I₂ (V₁.mono U.le) V₂) T₂ hp e fun a b μ' B' s' T _ I' R x => q a b m μ' B' s' T I' R ⟨rfl, x⟩
theorem WE_UnaryOp {x : Expr} {op : UnaryOp} {pos : Pos} (h : WE G c x m μ (fun d μ₁ => S1 G c (unaryOp op) d m μ₁ Q E) E) : WE G c (.UnaryOp op x pos) m μ Q E := by
  intro B s I Qr Er hp q e
  refine wpAny_UnaryOp (WX.use (h B s I) (Trans.refl ..) hp e fun v₁ d₁ μ₁ B₁ s₁ T₁ _ I₁ V₁ h₁ => ?_)
  exact WX.use (h₁ B₁ s₁ v₁ I₁ V₁) T₁ hp e fun a b μ' B' s' T _ I' R x => q a b m μ' B' s' T I' R ⟨rfl, x⟩
theorem WE_IfExp {t b o : Expr} {pos : Pos} (h : WB G c t m μ (fun v μ₁ => if v = true then WE G c b m μ₁ Q E else WE G c o m μ₁ Q E) E) : WE G c (.IfExp t b o pos) m μ Q E := by
  intro B s I Qr Er hp q e
  refine wpAny_IfExp (WX.use (h B s I) (Trans.refl ..) hp e fun v₁ d₁ μ₁ B₁ s₁ T₁ _ I₁ V₁ h₁ => ?_)
  cases V₁
  cases v₁
  · exact WX.use (h₁ B₁ s₁ I₁) T₁ hp e fun a b μ' B' s' T _ I' R x => q a b m μ' B' s' T I' R ⟨rfl, x⟩
  · exact WX.use (h₁ B₁ s₁ I₁) T₁ hp e fun a b μ' B' s' T _ I' R x => q a b m μ' B' s' T I' R ⟨rfl, x⟩
variable {Qb : Bool → Mut → Prop}
theorem WB.mono {e : Expr} {Q' : Bool → Mut → Prop} {E' : Cl → Mut → Prop} (h : WB G c e m μ Qb E) (hQ : ∀ b μ, Qb b μ → Q' b μ) (hE : ∀ k μ, E k μ → E' k μ) : WB G c e m μ Q' E' := fun B s I => (h B s I).mono hQ hE
theorem WB_value {x : Expr} (h : WE G c x m μ (fun d μ₁ => SB G c truthy d m μ₁ Qb E) E)
    (he : ∀ whole, isTrue x c.env whole = (do let v ← whole; standAt x.pos; holding [v] (truthy v)) := by intro _; rfl) : WB G c x m μ Qb E := by
  intro B s I Qr Er hp q e
  refine wpAny_isTrue_value (WX.use (h B s I) (Trans.refl ..) hp e fun v₁ d₁ μ₁ B₁ s₁ T₁ _ I₁ V₁ h₁ => ?_) (he _)
  exact WX.use (h₁ B₁ s₁ v₁ I₁ V₁) T₁ hp e fun a b μ' B' s' T _ I' R x => q a b m μ' B' s' T I' R ⟨rfl, x⟩
theorem WB_Compare {l r : Expr} {op : CmpOp} {pos : Pos} (h : WE G c l m μ (fun d₁ μ₁ => WE G c r m μ₁ (fun d₂ μ₂ => S2 G c (compareOp op) d₁ d₂ m μ₂ (fun d μ₃ => SB G c truthy d m μ₃ Qb E) E) E) E)
    (hm : behindInMarks op r = false := by with_unfolding_all rfl) : WB G c (.Compare l [op] [r] pos) m μ Qb E := by
  intro B s I Qr Er hp q e
  refine wpAny_isTrue_Compare1 (WX.use (h B s I) (Trans.refl ..) hp e fun v₁ d₁ μ₁ B₁ s₁ T₁ _ I₁ V₁ h₁ => ?_) hm
  refine WX.use (h₁ B₁ s₁ I₁) T₁ hp e fun v₂ d₂ μ₂ B₂ s₂ T₂ U I₂ V₂ h₂ => ?_
  refine WX.use (h₂ B₂ s₂ v₁ v₂ I₂ (V₁.mono U.le) V₂) T₂ hp e fun v₃ d₃ μ₃ B₃ s₃ T₃ _ I₃ V₃ h₃ => ?_
  exact WX.use (h₃ B₃ s₃ v₃ I₃ V₃) T₃ hp e fun a b μ' B' s' T _ I' R x => q a b m μ' B' s' T I' R ⟨rfl, x⟩
theorem WB_Not {x : Expr} {pos : Pos} (h : WB G c x m μ (fun b μ₁ => Qb (!b) μ₁) E) : WB G c (.UnaryOp .Not x pos) m μ Qb E := by
  intro B s I Qr Er hp q e
  refine wpAny_isTrue_Not (WX.use (h B s I) (Trans.refl ..) hp e fun a b μ' B' s' T _ I' R x => ?_)
  cases R
  exact q _ _ m μ' B' s' T I' rfl ⟨rfl, x⟩
noncomputable def WAll (G : Cfg) (c : Act) (op : BoolOp) (es : List Expr) (m : Loc) (μ : Mut) (Q : Bool → Mut → Prop) (E : Cl → Mut → Prop) : Prop :=
  ∀ B s, Inv G c m μ B s → WX G c rB (allTrue op es c.env) m μ B s Q E
theorem WB_BoolOp {op : BoolOp} {es : List Expr} {pos : Pos} (h : WAll G c op es m μ Qb E) : WB G c (.BoolOp op es pos) m μ Qb E := fun B s I Qr Er hp q e =>
  wpAny_isTrue_BoolOp (h B s I Qr Er hp q e)
theorem WAll_And_nil (h : Qb true μ) : WAll G c .And [] m μ Qb E := fun B s I => WX.of_toks I fun _ _ q => wpAny_allTrue_And_nil (q _ s.toks _ rfl h)
theorem WAll_Or_nil (h : Qb false μ) : WAll G c .Or [] m μ Qb E := fun B s I => WX.of_toks I fun _ _ q => wpAny_allTrue_Or_nil (q _ s.toks _ rfl h)
theorem WAll_And {x : Expr} {es : List Expr} (h : WB G c x m μ (fun b μ₁ => if b = true then WAll G c .And es m μ₁ Qb E else Qb false μ₁) E) : WAll G c .And (x :: es) m μ Qb E := by
  intro B s I Qr Er hp q e
  refine wpAny_allTrue_And_cons (WX.use (h B s I) (Trans.refl ..) hp e fun a b μ' B' s' T _ I' R x => ?_)
  cases R
  cases a
  · exact q _ _ m μ' B' s' T I' rfl ⟨rfl, x⟩
  · exact WX.use (x B' s' I') T hp e fun a b μ' B' s' T _ I' R x => q a b m μ' B' s' T I' R ⟨rfl, x⟩
theorem WAll_Or {x : Expr} {es : List Expr} (h : WB G c x m μ (fun b μ₁ => if b = true then Qb true μ₁ else WAll G c .Or es m μ₁ Qb E) E) : WAll G c .Or (x :: es) m μ Qb E := by
  intro B s I Qr Er hp q e
  refine wpAny_allTrue_Or_cons (WX.use (h B s I) (Trans.refl ..) hp e fun a b μ' B' s' T _ I' R x => ?_)
  cases R
  cases a
  · exact WX.use (x B' s' I') T hp e fun a b μ' B' s' T _ I' R x => q a b m μ' B' s' T I' R ⟨rfl, x⟩
  · exact q _ _ m μ' B' s' T I' rfl ⟨rfl, x⟩
theorem WEs_nil {pos : Pos} {Ql : List D → Mut → Prop} (h : Ql [] μ) : WEs G c pos [] m μ Ql E := fun B s I =>
  WX.of_toks I fun _ _ q => wpAny_items_nil (q _ s.toks [] .nil h)
theorem WEs_cons {pos : Pos} {x : Expr} {es : List Expr} {Ql : List D → Mut → Prop} (h : WE G c x m μ (fun d μ₁ => WEs G c pos es m μ₁ (fun ds μ₂ => Ql (d :: ds) μ₂) E) E)
    (he : starEach (x :: es) c.env = (false, eval x c.env) :: starEach es c.env := by rfl) : WEs G c pos (x :: es) m μ Ql E := by
  intro B s I Qr Er hp q e
  refine wpAny_items_cons (WX.use (h B s I) (Trans.refl ..) hp e fun v₁ d₁ μ₁ B₁ s₁ T₁ _ I₁ V₁ h₁ => ?_) he
  exact WX.use (h₁ B₁ s₁ I₁) T₁ hp e fun a b μ' B' s' T U I' R x => q _ _ m μ' B' s' T I' (.cons (V₁.mono U.le) R) ⟨rfl, x⟩
noncomputable def trees : List D → Option (List PyData)
  | [] => some []
  | .t d :: r => (trees r).map (d :: ·)
  | _ :: _ => none
theorem VDs.trees {C : Addr} {B : BM} {vs : List Value} {ds : List D} (h : VDs C B vs ds) : ∀ {es : List PyData}, P279.trees ds = some es → Vs B vs es := by
  induction h with
  | nil => intro es e; cases e; exact .nil
  | @cons v d vs ds h _ ih =>
    intro es e
    cases d with
    | t d =>
      obtain ⟨r, hr, rfl⟩ := Option.map_eq_some_iff.mp (show (P279.trees _).map (d :: ·) = some es from e)
      exact .cons h (ih hr)
    | _ => cases e
theorem WE_Tuple {es : List Expr} {k : Nat} {pos : Pos} (h : WEs G c pos es m μ (fun ds μ₁ => ∃ ps, trees ds = some ps ∧ ps.length ≤ 1000 ∧ Q (.t (.tuple ps)) μ₁) E) : WE G c (.Tuple es k pos) m μ Q E := by
  intro B s I Qr Er hp q e
  refine wpAny_Tuple (WX.use (h B s I) (Trans.refl ..) hp e fun vs ds μ₁ B₁ s₁ T₁ _ I₁ V₁ h₁ => ?_)
  obtain ⟨ps, hps, hl, hq⟩ := h₁
  have hv := V₁.trees hps
  refine ⟨by rw [hv.length, sizeLine_eq]; exact Nat.le_trans ‹_› (by decide), ?_⟩
  have k : ∀ a o, s₁.heap.get? a = some o → (s₁.heap.push { cls := .type "tuple", data := .seq vs.toArray }).get? a = some o := fun _ _ e => Heap.get?_push_of_some _ e
  have hn : s₁.heap.get? s₁.heap.objs.size = none := Heap.get?_none_of_le (Nat.le_refl _)
  have ho := Heap.get?_push_size s₁.heap (o := { cls := .type "tuple", data := .seq vs.toArray }) rfl
  exact q _ (.t (.tuple ps)) m μ₁ _ _ (T₁.trans (Trans.new (tk := s₁.toks) k (I₁.noB hn) hn)) (I₁.new (tk := s₁.toks) k hn ho) (V.tuple (vs := vs.toArray) BM.put_self (hv.mono (BM.put_le (I₁.noB hn)))) ⟨rfl, hq⟩
theorem WE_List {es : List Expr} {pos : Pos} (h : WEs G c pos es m μ (fun ds μ₁ => ∃ ps, trees ds = some ps ∧ ps.length ≤ 1000 ∧ Q (.t (.list ps)) μ₁) E) : WE G c (.List es pos) m μ Q E := by
  intro B s I Qr Er hp q e
  refine wpAny_List (WX.use (h B s I) (Trans.refl ..) hp e fun vs ds μ₁ B₁ s₁ T₁ _ I₁ V₁ h₁ => ?_)
  obtain ⟨ps, hps, hl, hq⟩ := h₁
  have hv := V₁.trees hps
  refine ⟨by rw [hv.length, sizeLine_eq]; exact Nat.le_trans ‹_› (by decide), ?_⟩
  have k : ∀ a o, s₁.heap.get? a = some o → (s₁.heap.push { cls := .type "list", data := .seq vs.toArray }).get? a = some o := fun _ _ e => Heap.get?_push_of_some _ e
  have hn : s₁.heap.get? s₁.heap.objs.size = none := Heap.get?_none_of_le (Nat.le_refl _)
  have ho := Heap.get?_push_size s₁.heap (o := { cls := .type "list", data := .seq vs.toArray }) rfl
  exact q _ (.t (.list ps)) m μ₁ _ _ (T₁.trans (Trans.new (tk := s₁.toks) k (I₁.noB hn) hn)) (I₁.new (tk := s₁.toks) k hn ho) (V.list (vs := vs.toArray) BM.put_self (hv.mono (BM.put_le (I₁.noB hn)))) ⟨rfl, hq⟩
theorem WE_ListMut {es : List Expr} {pos : Pos} (h : WEs G c pos es m μ (fun ds μ₁ => ∃ ps, trees ds = some ps ∧ ps.length ≤ 1000 ∧ ∀ a, a ∉ μ₁.map (·.1) → Q (.loc a) ((a, ps) :: μ₁)) E) : WE G c (.List es pos) m μ Q E := by
  intro B s I Qr Er hp q e
  refine wpAny_List (WX.use (h B s I) (Trans.refl ..) hp e fun vs ds μ₁ B₁ s₁ T₁ _ I₁ V₁ h₁ => ?_)
  obtain ⟨ps, hps, hl, hq⟩ := h₁
  have hv := V₁.trees hps
  refine ⟨by rw [hv.length, sizeLine_eq]; exact Nat.le_trans ‹_› (by decide), ?_⟩
  have k : ∀ a o, s₁.heap.get? a = some o → (s₁.heap.push { cls := .type "list", data := .seq vs.toArray }).get? a = some o := fun _ _ e => Heap.get?_push_of_some _ e
  have hn : s₁.heap.get? s₁.heap.objs.size = none := Heap.get?_none_of_le (Nat.le_refl _)
  have ho := Heap.get?_push_size s₁.heap (o := { cls := .type "list", data := .seq vs.toArray }) rfl
  have I' := I₁.newMut (tk := s₁.toks) k hn ho hv
  exact q _ (.loc s₁.heap.objs.size) m _ _ _ (T₁.trans (Trans.newMut (tk := s₁.toks) k hn)) I' rfl ⟨rfl, hq _ (List.nodup_cons.mp I'.nd).1⟩
end
end P279
end
section
open PySem PySem.W PyProof.Rows PySem.Spec PySem.Calls
namespace P279
noncomputable abbrev S (l : List Nat) : Str := ⟨l.toArray⟩
theorem S_length (l : List Nat) : (S l).length = l.length := by simp [S, Str.length]
theorem S_inj {l l' : List Nat} (h : S l = S l') : l = l' := by
  have := congrArg (fun x => x.cps.toList) h
  simpa using this
theorem S_of (x : Str) : S x.cps.toList = x := rfl
noncomputable def allNews (h : Heap) (L : Addr) : List (Addr × Obj) := (List.range h.objs.size).filterMap fun a => if a = L then none else (h.get? a).map fun o => (a, o)
theorem mem_allNews {h : Heap} {L a : Addr} {o : Obj} (e : h.get? a = some o) (n : a ≠ L) : (a, o) ∈ allNews h L := by
  refine List.mem_filterMap.mpr ⟨a, List.mem_range.mpr (Heap.lt_size e), ?_⟩
  rw [if_neg n, e]; rfl
theorem of_allNews {h : Heap} {L : Addr} {p : Addr × Obj} (hp : p ∈ allNews h L) : h.get? p.1 = some p.2 ∧ p.1 ≠ L := by
  obtain ⟨a, _, e⟩ := List.mem_filterMap.mp hp
  by_cases q : a = L
  · rw [if_pos q] at e; cases e
  · rw [if_neg q] at e
    obtain ⟨o, ho, rfl⟩ := Option.map_eq_some_iff.mp e
    exact ⟨ho, q⟩
section
variable {G : Cfg} {c : Act} {m : Loc} {μ : Mut} {B : BM} {s : Shared} {h' : Heap} {tk : Nat}
theorem Inv.rows (I : Inv G c m μ B s) : ∃ mr, Fr emptyHeap c.env.locals s.heap mr ∧ News emptyHeap c.env.locals s.heap (allNews s.heap c.env.locals) ∧
    (∀ h' tk, Fr emptyHeap c.env.locals h' mr → News emptyHeap c.env.locals h' (allNews s.heap c.env.locals) → Inv G c m μ B { s with heap := h', toks := tk } ∧ TransC c μ B s μ B { s with heap := h', toks := tk }) := by
  obtain ⟨mr, hn, hm⟩ := I.loc
  refine ⟨mr, ⟨hn, fun b o e => (by rw [emptyHeap_get] at e; cases e), Nat.zero_le _⟩, fun p hp => ⟨(of_allNews hp).1, (of_allNews hp).2, emptyHeap_get _⟩, fun h' tk F N => ?_⟩
  have k : ∀ a o, s.heap.get? a = some o → a ≠ c.env.locals → h'.get? a = some o := fun a o e n => (N _ (mem_allNews e n)).1
  obtain ⟨oL, es, ep, hLo, hLd, r⟩ := F.ns
  have hL := I.ok.ownL
  have ko : ∀ a ∈ c.own, ∀ o, s.heap.get? a = some o → ∃ o', h'.get? a = some o' ∧ ((∀ vs, o.data ≠ .fields vs) → ∀ vs, o'.data ≠ .fields vs) := fun a _ o e => by
    by_cases q : a = c.env.locals
    · rw [q]; exact ⟨oL, hLo, fun _ vs z => by rw [hLd] at z; cases z⟩
    · exact ⟨o, k a o e q, fun z => z⟩
  have kn : ∀ a o, s.heap.get? a = some o → a ∉ c.own → h'.get? a = some o := fun a o e n => k a o e fun q => n (q ▸ hL)
  refine ⟨I.turn kn ko ⟨mr, F.ns, fun x d e => ?_⟩ (fun p hp => ?_), Trans.turn kn fun a ha o e => let ⟨o', h, _⟩ := ko a ha o e; ⟨o', h⟩⟩
  rotate_left
  · obtain ⟨v, o, ho, hd⟩ := I.cellOk p hp
    refine ⟨v, o, k _ _ ho fun q => ?_, hd⟩
    obtain ⟨o0, _, _, h0, hd0, _⟩ := hn
    rw [q, h0] at ho
    cases ho
    rw [hd0] at hd; cases hd
  obtain ⟨v, hv, h⟩ := hm x d e
  refine ⟨v, hv, h.imp id fun ⟨hk, ca, hc, o, ho, hd⟩ => ⟨hk, ca, hc, o, k _ _ ho fun q => ?_, hd⟩⟩
  obtain ⟨o0, _, _, h0, hd0, _⟩ := hn
  rw [q, h0] at ho
  cases ho
  rw [hd0] at hd; cases hd
end
noncomputable def res (μ : Mut) : D → Option PyData
  | .t d => some d
  | .loc a => (μ.lookup a).map .list
  | _ => none
theorem lookup_mem {μ : Mut} {a : Addr} {ds : List PyData} (h : μ.lookup a = some ds) : (a, ds) ∈ μ := lk_mem h
section
variable {G : Cfg} {c : Act} {fr : List Env} {m : Loc} {μ : Mut} {B : BM} {s : Shared} {v : Value} {d : D} {p : PyData}
theorem BInv.reads (I : BInv G fr μ B s) (hv : VD G.C B v d) (h : res μ d = some p) : ∃ as, Reads s.heap v p as := by
  cases d with
  | t d => cases h; exact V.reads I.keep hv
  | loc a =>
    obtain ⟨ds, hl, rfl⟩ := Option.map_eq_some_iff.mp (show (μ.lookup a).map PyData.list = some p from h)
    obtain ⟨_, n, vs, ho, hvs⟩ := I.mu _ (lookup_mem hl)
    obtain ⟨as, q⟩ := Vs.reads I.keep hvs
    cases hv
    exact ⟨_, Reads.list ho rfl rfl q⟩
  | _ => cases h
noncomputable def asList (μ : Mut) : D → Option (List PyData)
  | .t (.list ds) => some ds
  | .loc a => μ.lookup a
  | _ => none
theorem BInv.isL (I : BInv G fr μ B s) {ds : List PyData} (hv : VD G.C B v d) (h : asList μ d = some ds) : ∃ a vs n, v = .ref a ∧ s.heap.get? a = some (listOf vs n) ∧ Vs B vs.toList ds := by
  cases d with
  | t d =>
    cases d with
    | list _ =>
      cases h
      cases hv with
      | list ha hvs => exact ⟨_, _, _, rfl, I.keep _ _ ha, hvs⟩
    | _ => cases h
  | loc a =>
    obtain ⟨_, n, vs, ho, hvs⟩ := I.mu _ (lookup_mem h)
    exact ⟨a, vs, n, hv, ho, hvs⟩
  | _ => cases h
theorem V.tuple_inv {ds : List PyData} (hv : V B v (.tuple ds)) : ∃ a vs n, v = .ref a ∧ B a = some (tupOf vs n) ∧ Vs B vs.toList ds := by
  cases hv with
  | tuple ha hvs => exact ⟨_, _, _, rfl, ha, hvs⟩
theorem V.list_inv {ds : List PyData} (hv : V B v (.list ds)) : ∃ a vs n, v = .ref a ∧ B a = some (listOf vs n) ∧ Vs B vs.toList ds := by
  cases hv with
  | list ha hvs => exact ⟨_, _, _, rfl, ha, hvs⟩
end
section
variable {G : Cfg} {c : Act} {m : Loc} {μ : Mut} {E : Cl → Mut → Prop} {Q : D → Mut → Prop} {Qb : Bool → Mut → Prop} {a b : Int} {x y : List Nat}
theorem V.int_inv {B : BM} {v : Value} (h : V B v (.int a)) : ∃ t, v = .int a t := by cases h; exact ⟨_, rfl⟩
theorem V.str_inv {B : BM} {v : Value} {x : Str} (h : V B v (.str x)) : ∃ t, v = .str x t := by cases h; exact ⟨_, rfl⟩
theorem S2_ii {t : Value → Value → Sem Value} {p : PyData} (h : Q (.t p) μ) (H : ∀ ta tb s Qr Er, (∀ v tk, (∀ B, V B v p) → Qr v { s with toks := tk }) → wpAny G.M c.A (t (.int a ta) (.int b tb)) Qr Er s) : S2 G c t (.t (.int a)) (.t (.int b)) m μ Q E :=
  fun B s v w I hv hw => (V.int_inv hv).elim fun ta e1 => (V.int_inv hw).elim fun tb e2 => by
    rw [e1, e2]
    exact WX.of_toks I fun Qr Er q => H ta tb s Qr Er fun v tk hv => q _ tk (.t p) (hv B) h
theorem S2_ss {t : Value → Value → Sem Value} {x y : Str} {p : PyData} (h : Q (.t p) μ) (H : ∀ ta tb s Qr Er, (∀ v tk, (∀ B, V B v p) → Qr v { s with toks := tk }) → wpAny G.M c.A (t (.str x ta) (.str y tb)) Qr Er s) : S2 G c t (.t (.str x)) (.t (.str y)) m μ Q E :=
  fun B s v w I hv hw => (V.str_inv hv).elim fun ta e1 => (V.str_inv hw).elim fun tb e2 => by
    rw [e1, e2]
    exact WX.of_toks I fun Qr Er q => H ta tb s Qr Er fun v tk hv => q _ tk (.t p) (hv B) h
theorem S2_add (h : Q (.t (.int (a + b))) μ) : S2 G c (binaryOp .Add) (.t (.int a)) (.t (.int b)) m μ Q E :=
  S2_ii h fun ta tb s Qr Er q => P.add_int (q _ _ fun _ => V.int _ _)
theorem S2_sub (h : Q (.t (.int (a - b))) μ) : S2 G c (binaryOp .Sub) (.t (.int a)) (.t (.int b)) m μ Q E :=
  S2_ii h fun ta tb s Qr Er q => P.sub_int (q _ _ fun _ => V.int _ _)
theorem S2_mul (ha : -(2 ^ 63) < a ∧ a < 2 ^ 63) (h : Q (.t (.int (a * b))) μ) : S2 G c (binaryOp .Mult) (.t (.int a)) (.t (.int b)) m μ Q E :=
  S2_ii h fun ta tb s Qr Er q => P.mul_int (q _ _ fun _ => V.int _ _) (IntMulOk.of_left (intBits_le_64 (by lia) (by lia)))
theorem S2_mod (hb : b ≠ 0) (h : Q (.t (.int (a.fmod b))) μ) : S2 G c (binaryOp .Mod) (.t (.int a)) (.t (.int b)) m μ Q E :=
  S2_ii h fun ta tb s Qr Er q => mod_int hb (q _ _ fun _ => V.int _ _)
theorem S2_div (hb : b ≠ 0) (hs : b.natAbs < 1073741824) (h : Q (.t (.int (a.fdiv b))) μ) : S2 G c (binaryOp .FloorDiv) (.t (.int a)) (.t (.int b)) m μ Q E :=
  S2_ii h fun ta tb s Qr Er q => floordiv_int hb (q _ _ fun _ => V.int _ _) (.inl (PyProof.noPylong_small hs))
theorem S2_idiv (hb : b ≠ 0) (hs : b.natAbs < 1073741824) (h : Q (.t (.int (a.fdiv b))) μ) : S2 G c (inplaceOp .FloorDiv) (.t (.int a)) (.t (.int b)) m μ Q E :=
  S2_ii h fun ta tb s Qr Er q => ifloordiv_int hb (q _ _ fun _ => V.int _ _) (.inl (PyProof.noPylong_small hs))
theorem S2_iadd (h : Q (.t (.int (a + b))) μ) : S2 G c (inplaceOp .Add) (.t (.int a)) (.t (.int b)) m μ Q E :=
  S2_ii h fun ta tb s Qr Er q => P.iadd_int (q _ _ fun _ => V.int _ _)
theorem S2_isub (h : Q (.t (.int (a - b))) μ) : S2 G c (inplaceOp .Sub) (.t (.int a)) (.t (.int b)) m μ Q E :=
  S2_ii h fun ta tb s Qr Er q => P.isub_int (q _ _ fun _ => V.int _ _)
theorem S2_pow10 (h : Q (.t (.int (10 ^ 60))) μ) : S2 G c (binaryOp .Pow) (.t (.int 10)) (.t (.int 60)) m μ Q E :=
  S2_ii h fun ta tb s Qr Er q => pow_int (by decide) (by decide +kernel) (q _ _ fun _ => V.int _ _)
theorem S1_neg (h : Q (.t (.int (-a))) μ) : S1 G c (unaryOp .USub) (.t (.int a)) m μ Q E := by
  intro B s v I hv; cases hv
  exact WX.of_toks I fun _ _ q => P.neg_int (q _ _ (.t (.int _)) (V.int _ _) h)
theorem S2_eqI (h : Q (.t (.bool (a == b))) μ) : S2 G c (compareOp .Eq) (.t (.int a)) (.t (.int b)) m μ Q E :=
  S2_ii h fun ta tb s Qr Er q => P.eq_int (q _ s.toks fun _ => V.bool _)
theorem S2_neI (h : Q (.t (.bool (a != b))) μ) : S2 G c (compareOp .NotEq) (.t (.int a)) (.t (.int b)) m μ Q E :=
  S2_ii h fun ta tb s Qr Er q => P.ne_int (q _ s.toks fun _ => V.bool _)
theorem S2_lt (h : Q (.t (.bool (decide (a < b)))) μ) : S2 G c (compareOp .Lt) (.t (.int a)) (.t (.int b)) m μ Q E :=
  S2_ii h fun ta tb s Qr Er q => P.lt_int (q _ s.toks fun _ => V.bool _)
theorem S2_le (h : Q (.t (.bool (decide (a ≤ b)))) μ) : S2 G c (compareOp .LtE) (.t (.int a)) (.t (.int b)) m μ Q E :=
  S2_ii h fun ta tb s Qr Er q => P.le_int (q _ s.toks fun _ => V.bool _)
theorem S2_gt (h : Q (.t (.bool (decide (a > b)))) μ) : S2 G c (compareOp .Gt) (.t (.int a)) (.t (.int b)) m μ Q E :=
  S2_ii h fun ta tb s Qr Er q => P.gt_int (q _ s.toks fun _ => V.bool _)
theorem S2_ge (h : Q (.t (.bool (decide (a ≥ b)))) μ) : S2 G c (compareOp .GtE) (.t (.int a)) (.t (.int b)) m μ Q E :=
  S2_ii h fun ta tb s Qr Er q => P.ge_int (q _ s.toks fun _ => V.bool _)
theorem SB_bool {b : Bool} (h : Qb b μ) : SB G c truthy (.t (.bool b)) m μ Qb E := by
  intro B s v I hv; cases hv
  exact WX.of_toks I fun _ _ q => wpAny_truthy_bool (q _ s.toks b rfl h)
theorem S1_not {b : Bool} (h : Q (.t (.bool (!b))) μ) : S1 G c (unaryOp .Not) (.t (.bool b)) m μ Q E := by
  intro B s v I hv; cases hv
  exact WX.of_toks I fun _ _ q => not_value (wpAny_truthy_bool (q _ s.toks (.t (.bool _)) (V.bool _) h))
noncomputable def isNone : D → Bool
  | .t .none => true
  | _ => false
theorem VD.none_beq {C : Addr} {B : BM} {v : Value} {d : D} (h : VD C B v d) : (v == .none) = isNone d := by
  cases d with
  | t d => cases h <;> rfl
  | loc a => cases h; rfl
  | rng lo hi => obtain ⟨a, o, rfl, _⟩ := h; rfl
  | inst x r t => obtain ⟨rfl, _⟩ := h; rfl
theorem S2_isNone {d : D} (h : Q (.t (.bool (isNone d))) μ) : S2 G c (compareOp .Is) d (.t .none) m μ Q E := by
  intro B s v w I hv hw; cases hw
  exact WX.of_toks I fun _ _ q => is_none (q _ s.toks (.t (.bool _)) (V.bool _) (by rw [hv.none_beq]; exact h))
theorem S2_isNotNone {d : D} (h : Q (.t (.bool (!isNone d))) μ) : S2 G c (compareOp .IsNot) d (.t .none) m μ Q E := by
  intro B s v w I hv hw; cases hw
  exact WX.of_toks I fun _ _ q => isNot_none (q _ s.toks (.t (.bool _)) (V.bool _) (by rw [hv.none_beq]; exact h))
theorem S2_eq {d e : D} {p q : PyData} (hd : res μ d = some p) (he : res μ e = some q) (sp : SeqAt.shaped p = true) (sq : SeqAt.shaped q = true) (h : Q (.t (.bool (PyData.eqv p q))) μ) : S2 G c (compareOp .Eq) d e m μ Q E := by
  intro B s v w I hv hw
  obtain ⟨as, r₁⟩ := I.reads hv hd
  obtain ⟨bs, r₂⟩ := I.reads hw he
  have hr := I.ok.room.2
  have hc : cLine = 9900 := rfl
  exact WX.of_toks I fun _ _ q => eq_dataH r₁ r₂ sp sq (by lia) (q _ s.toks (.t (.bool _)) (V.bool _) h)
theorem S2_ne {d e : D} {p q : PyData} (hd : res μ d = some p) (he : res μ e = some q) (sp : SeqAt.shaped p = true) (sq : SeqAt.shaped q = true) (h : Q (.t (.bool (!PyData.eqv p q))) μ) : S2 G c (compareOp .NotEq) d e m μ Q E := by
  intro B s v w I hv hw
  obtain ⟨as, r₁⟩ := I.reads hv hd
  obtain ⟨bs, r₂⟩ := I.reads hw he
  have hr := I.ok.room.2
  have hc : cLine = 9900 := rfl
  exact WX.of_toks I fun _ _ q => ne_dataH r₁ r₂ sp sq (by lia) (q _ s.toks (.t (.bool _)) (V.bool _) h)
theorem S2_eqS {x y : Str} (h : Q (.t (.bool (x == y))) μ) : S2 G c (compareOp .Eq) (.t (.str x)) (.t (.str y)) m μ Q E :=
  S2_ss h fun ta tb s Qr Er q => PyProof.Rows.eq_str (q _ s.toks fun _ => V.bool _)
theorem S2_neS {x y : Str} (h : Q (.t (.bool (x != y))) μ) : S2 G c (compareOp .NotEq) (.t (.str x)) (.t (.str y)) m μ Q E :=
  S2_ss h fun ta tb s Qr Er q => PyProof.Rows.ne_str (q _ s.toks fun _ => V.bool _)
theorem S2_addS {x y : Str} (hl : x.length + y.length ≤ 16777216) (h : Q (.t (.str (x ++ y))) μ) : S2 G c (binaryOp .Add) (.t (.str x)) (.t (.str y)) m μ Q E :=
  S2_ss h fun ta tb s Qr Er q => PyProof.Rows.add_str (fun t' tk => q _ tk fun _ => V.str _ _) (by rw [sizeLine_eq]; omega)
theorem S2_inS {x : Str} {n : Nat} (h : Q (.t (.bool (decide (n ∈ x.cps.toList)))) μ) : S2 G c (compareOp .In) (.t (.str (S [n]))) (.t (.str x)) m μ Q E :=
  S2_ss h fun ta tb s Qr Er q => PyProof.Rows.in_str (q _ s.toks fun _ => by rw [show S [n] = ⟨#[n]⟩ from rfl, StrLaws.found_one]; exact V.bool _)
theorem S2_notInS {x : Str} {n : Nat} (h : Q (.t (.bool (!decide (n ∈ x.cps.toList)))) μ) : S2 G c (compareOp .NotIn) (.t (.str (S [n]))) (.t (.str x)) m μ Q E :=
  S2_ss h fun ta tb s Qr Er q => PyProof.Rows.notIn_str (q _ s.toks fun _ => by rw [show S [n] = ⟨#[n]⟩ from rfl, StrLaws.found_one]; exact V.bool _)
theorem S2_addL {d e : D} {ds es : List PyData} (hd : asList μ d = some ds) (he : asList μ e = some es) (hl : ds.length + es.length ≤ 1000000) (h : Q (.t (.list (ds ++ es))) μ) : S2 G c (binaryOp .Add) d e m μ Q E := by
  intro B s v w I hv hw
  obtain ⟨a, vs, n, rfl, ha, hvs⟩ := I.isL hv hd
  obtain ⟨b, ws, n', rfl, hb, hws⟩ := I.isL hw he
  have l1 := hvs.length
  have l2 := hws.length
  rw [Array.length_toList] at l1 l2
  refine WX.of_new I fun _ _ q => P.add_list ha hb (q _ _ s.toks (.t (.list (ds ++ es))) _ _ (fun _ _ e => Heap.get?_push_of_some _ e) (Heap.get?_none_of_le (Nat.le_refl _)) (Heap.get?_push_size _ rfl) ?_ h) (by rw [l1, l2, sizeLine_eq]; exact Nat.le_trans ‹_› (by decide))
  have hB : B s.heap.objs.size = none := I.noB (Heap.get?_none_of_le (Nat.le_refl _))
  exact V.list BM.put_self (by rw [Array.toList_append]; exact (hvs.append hws).mono (BM.put_le hB))
theorem S2_mulL {ds : List PyData} {k : Int} (h0 : 0 ≤ k) (hk : k ≤ 1000) (hl : ds.length ≤ 1000) (h : ∀ a, a ∉ μ.map (·.1) → Q (.loc a) ((a, (List.replicate k.toNat ds).flatten) :: μ)) : S2 G c (binaryOp .Mult) (.t (.list ds)) (.t (.int k)) m μ Q E := by
  intro B s v w I hv hw; cases hw
  obtain ⟨a, vs, n, rfl, ha, hvs⟩ := hv.list_inv
  have l1 := hvs.length
  rw [Array.length_toList] at l1
  obtain ⟨mr, F, N, back⟩ := I.rows
  intro Qr Er hp q e
  have hsz : vs.size * k.toNat ≤ 1000 * 1000 := Nat.mul_le_mul (by lia) (by lia)
  refine PyProof.Rows.mul_list F N (I.keep _ _ ha) (by lia) (by lia) (by exact Nat.le_trans ‹_› (by decide)) fun h' F' N' => ?_
  obtain ⟨I', T⟩ := back h' s.toks F' fun p hp => N' p (List.mem_cons_of_mem _ hp)
  have hfl : (List.foldl (fun x1 x2 => x1 ++ x2) #[] (List.replicate (if vs.isEmpty = true then 0 else k.toNat) vs)) = (List.replicate k.toNat vs.toList).flatten.toArray := listMul_foldl_if vs k.toNat
  have ho := (N' _ (.head _)).1
  dsimp only at ho
  rw [hfl] at ho
  have hn : s.heap.get? s.heap.objs.size = none := Heap.get?_none_of_le (Nat.le_refl _)
  have hflat : ∀ j, Vs B (List.replicate j vs.toList).flatten (List.replicate j ds).flatten := by
    intro j
    induction j with
    | zero => exact .nil
    | succ j ih => rw [List.replicate_succ, List.replicate_succ, List.flatten_cons, List.flatten_cons]; exact hvs.append ih
  have I2 : Inv G c m ((s.heap.objs.size, (List.replicate k.toNat ds).flatten) :: μ) B { s with heap := h' } := by
    refine ⟨⟨I'.gf, I'.base, I'.keep, I'.frB, fun p hp => ?_, ?_, I'.fun_⟩, I'.ok, I'.loc, I'.live, I'.privB, fun b hb hm => ?_, I'.cellOk⟩
    · rcases List.mem_cons.mp hp with rfl | hp
      · exact ⟨I.noB hn, 0, _, ho, by simpa using hflat k.toNat⟩
      · exact I'.mu p hp
    · rw [List.map_cons]
      refine List.nodup_cons.mpr ⟨fun hm => ?_, I'.nd⟩
      obtain ⟨p, hp, e⟩ := List.mem_map.mp hm
      obtain ⟨_, n', vs', h2', _⟩ := I.mu p hp
      dsimp only at e
      rw [e, hn] at h2'; cases h2'
    · rw [List.map_cons] at hm
      rcases List.mem_cons.mp hm with rfl | hm
      · exact I.live _ hb hn
      · exact I'.privM b hb hm
  have T2 : TransC c μ B s ((s.heap.objs.size, (List.replicate k.toNat ds).flatten) :: μ) B { s with heap := h' } := by
    refine ⟨T.le, T.newB, fun b h => ?_, T.keep, T.live, rfl, rfl, rfl⟩
    rw [List.map_cons] at h
    rcases List.mem_cons.mp h with rfl | h
    · exact .inr hn
    · exact .inl h
  exact q _ (.loc _) m _ _ _ T2 I2 rfl ⟨rfl, h _ (List.nodup_cons.mp I2.nd).1⟩
end
end P279
end
section
open PySem PySem.W PyProof.Rows PySem.Spec PySem.Calls
namespace P279
noncomputable def clipN (v : Option Int) (dflt n : Nat) : Nat := match v with
  | none => dflt
  | some i => (max 0 (min (if i < 0 then i + n else i) (n : Int))).toNat
noncomputable def slc {α : Type} (l : List α) (lo hi : Option Int) : List α := (l.drop (clipN lo 0 l.length)).take (clipN hi l.length l.length - clipN lo 0 l.length)
theorem clip_pos {k : Int} {d n : Nat} (h : 0 ≤ k) : clipN (some k) d n = min k.toNat n := by
  obtain ⟨a, rfl⟩ := Int.eq_ofNat_of_zero_le h
  show (max 0 (min (if (a : Int) < 0 then (a : Int) + n else a) (n : Int))).toNat = min a n
  rw [if_neg (Int.not_lt.mpr h)]
  rcases Nat.le_total a n with q | q
  · rw [Nat.min_eq_left q, Int.min_eq_left (Int.ofNat_le.mpr q), Int.max_eq_right (Int.natCast_nonneg _), Int.toNat_natCast]
  · rw [Nat.min_eq_right q, Int.min_eq_right (Int.ofNat_le.mpr q), Int.max_eq_right (Int.natCast_nonneg _), Int.toNat_natCast]
theorem clip_neg {k : Int} {d n : Nat} (h : k < 0) : clipN (some k) d n = (k + n).toNat := by
  show (max 0 (min (if k < 0 then k + n else k) (n : Int))).toNat = _
  rw [if_pos h, Int.min_eq_left (by lia)]
  rcases Int.le_total 0 (k + n) with q | q
  · rw [Int.max_eq_right q]
  · rw [Int.max_eq_left q, Int.toNat_of_nonpos q]; rfl
theorem drop_min {α : Type} {X : List α} {i n : Nat} (hX : X.length ≤ n) : X.drop (min i n) = X.drop i := by
  rcases Nat.le_total i n with h | h
  · rw [Nat.min_eq_left h]
  · rw [Nat.min_eq_right h, List.drop_of_length_le hX, List.drop_of_length_le (Nat.le_trans hX h)]
theorem slc_to {α : Type} (l : List α) (k : Int) (h : 0 ≤ k) : slc l none (some k) = l.take k.toNat := by
  show (l.drop 0).take (clipN (some k) l.length l.length - 0) = _
  rw [clip_pos h, List.drop_zero, Nat.sub_zero, ← List.take_eq_take_min]
theorem slc_from {α : Type} (l : List α) (k : Int) (h : 0 ≤ k) : slc l (some k) none = l.drop k.toNat := by
  show (l.drop (clipN (some k) 0 l.length)).take (l.length - clipN (some k) 0 l.length) = _
  rw [clip_pos h, ← List.drop_take, List.take_length, drop_min (Nat.le_refl _)]
theorem slc_mid {α : Type} (l : List α) (i k : Int) (h : 0 ≤ i) (hk : 0 ≤ k) : slc l (some i) (some k) = (l.drop i.toNat).take (k.toNat - i.toNat) := by
  show (l.drop (clipN (some i) 0 l.length)).take (clipN (some k) l.length l.length - clipN (some i) 0 l.length) = _
  rw [clip_pos h, clip_pos hk, ← List.drop_take, drop_min (List.length_take_le' ..), ← List.take_eq_take_min, List.drop_take]
theorem slc_neg {α : Type} (l : List α) (i k : Int) (h : 0 ≤ i) (hk : k < 0) : slc l (some i) (some k) = (l.drop i.toNat).take ((k + l.length).toNat - i.toNat) := by
  show (l.drop (clipN (some i) 0 l.length)).take (clipN (some k) l.length l.length - clipN (some i) 0 l.length) = _
  rw [clip_pos h, clip_neg hk, ← List.drop_take, drop_min (List.length_take_le' ..), List.drop_take]
theorem neg1 : ∀ n : Nat, ((-1 : Int) + n).toNat = n - 1
  | 0 => rfl
  | n + 1 => by rw [show (-1 : Int) + ((n + 1 : Nat) : Int) = n by lia]; rfl
theorem strSlice_eq (lo hi : Option Int) (n : Nat) : Builtin.Str.strSliceIndices lo hi 1 n = sliceRange (clipN lo 0 n : Nat) (clipN hi n n : Nat) 1 := by
  unfold Builtin.Str.strSliceIndices
  have e : ∀ (v : Option Int) (d : Nat), (match v with | none => (d : Int) | some i => max 0 (min (if i < 0 then i + (n : Int) else i) (n : Int))) = ((clipN v d n : Nat) : Int) := by
    intro v d
    cases v with
    | none => rfl
    | some i => exact (Int.toNat_of_nonneg (Int.le_max_left ..)).symm
  have h0 := e lo 0
  have h1 := e hi n
  simp only [show (1 : Int) > 0 by decide, if_true]
  rw [← h0, ← h1]
  rfl
theorem slicePicked_eq (x : Str) (l u : Option (Int × Tok)) : (slicePicked x l u none).filterMap (x.cps[·]?) = slc x.cps.toList (l.map (·.1)) (u.map (·.1)) := by
  unfold slicePicked
  simp only [Option.map_none, Option.getD_none]
  rw [strSlice_eq, sliceRange_one, pick_run]
  simp [slc, Str.length]
theorem slicePicked_len (x : Str) (l u : Option (Int × Tok)) : (slicePicked x l u none).length = clipN (u.map (·.1)) x.length x.length - clipN (l.map (·.1)) 0 x.length := by
  unfold slicePicked
  simp only [Option.map_none, Option.getD_none]
  rw [strSlice_eq, sliceRange_one]
  simp
theorem clipN_le (v : Option Int) (d n : Nat) (h : d ≤ n) : clipN v d n ≤ n := by
  cases v with
  | none => exact h
  | some i =>
    rcases Int.lt_or_le i 0 with q | q
    · rw [clip_neg q]; exact Int.toNat_le.mpr (by lia)
    · rw [clip_pos q]; exact Nat.min_le_right ..
theorem slc_sub {α : Type} (l : List α) (lo hi : Option Int) : (slc l lo hi).Sublist l := (List.take_sublist ..).trans (List.drop_sublist ..)
theorem slc_length_le {α : Type} (l : List α) (lo hi : Option Int) : (slc l lo hi).length ≤ l.length := (slc_sub l lo hi).length_le
theorem sliceMade_post {x : Str} {t : Tok} {l u : Option (Int × Tok)} {s : Shared} {Q : Value → Shared → Prop} (hl : x.length ≤ sizeLine) (h : ∀ t' tk, Q (.str (S (slc x.cps.toList (l.map (·.1)) (u.map (·.1)))) t') { s with toks := tk }) :
    (sliceMade x t l u none).post Q s := by
  unfold sliceMade
  simp only [Option.map_none, Option.getD_none]
  split
  · rename_i q
    have q2 : (slicePicked x l u none).length = x.length := by simpa using q
    rw [slicePicked_len] at q2
    have hx : S (slc x.cps.toList (l.map (·.1)) (u.map (·.1))) = x := by
      have hl : x.cps.toList.length = x.length := rfl
      rw [(slc_sub _ _ _).eq_of_length (by unfold slc; rw [List.length_take, List.length_drop, hl, Nat.min_eq_left (Nat.sub_le_sub_right (clipN_le _ _ _ (Nat.le_refl _)) _), q2])]
    have := h t s.toks
    rw [hx] at this
    exact this
  · refine ⟨?_, ?_⟩
    · show (S _).length ≤ _
      rw [S_length, slicePicked_eq]
      exact Nat.le_trans (slc_length_le ..) (by simpa [Str.length] using hl)
    · show Q (.str (S _) _) _
      rw [slicePicked_eq]
      exact h _ _
section
variable {G : Cfg} {c : Act} {m : Loc} {μ : Mut} {E : Cl → Mut → Prop} {Q : D → Mut → Prop}
noncomputable def WPart (G : Cfg) (c : Act) (e : Option Expr) (m : Loc) (μ : Mut) (Q : Option Int → Mut → Prop) (E : Cl → Mut → Prop) : Prop := match e with
  | none => Q none μ
  | some e => WE G c e m μ (fun d μ₁ => ∃ i, d = .t (.int i) ∧ Q (some i) μ₁) E
theorem WPart.go {e : Option Expr} {Qp : Option Int → Mut → Prop} (h : WPart G c e m μ Qp E) {B : BM} {s : Shared} (I : Inv G c m μ B s) :
    WX G c (fun _ v i => ∃ p, v = partValue p ∧ p.map (·.1) = i) (evalPart e c.env) m μ B s Qp E := by
  cases e with
  | none => exact WX.pure I ⟨none, rfl, rfl⟩ h
  | some e =>
    intro Qr Er hp q e'
    refine WX.use (h B s I) (Trans.refl ..) hp e' fun v d μ₁ B₁ s₁ T₁ _ I₁ V₁ h₁ => ?_
    obtain ⟨i, rfl, hq⟩ := h₁
    cases V₁
    exact q _ _ m μ₁ B₁ s₁ T₁ I₁ ⟨some (i, _), rfl, rfl⟩ ⟨rfl, hq⟩
theorem WE_SliceStr {value : Expr} {lower upper : Option Expr} {p pos : Pos}
    (h : WE G c value m μ (fun d μ₁ => ∃ x : List Nat, d = .t (.str (S x)) ∧ x.length ≤ 16777216 ∧ WPart G c lower m μ₁ (fun lo μ₂ => WPart G c upper m μ₂ (fun hi μ₃ => Q (.t (.str (S (slc x lo hi)))) μ₃) E) E) E)
    (ht : ∀ o r, letTemporaryGo value o r = pure () := by intro _ _; rfl) : WE G c (.Subscript value (.Slice lower upper none p) pos) m μ Q E := by
  intro B s I Qr Er hp q e
  refine wpAny_Subscript_str_slice (WX.use (h B s I) (Trans.refl ..) hp e fun v₁ d₁ μ₁ B₁ s₁ T₁ _ I₁ V₁ h₁ => ?_) ht
  obtain ⟨x, rfl, hl, h₁⟩ := h₁
  cases V₁
  refine WX.use (h₁.go I₁) T₁ hp e fun v₂ lo μ₂ B₂ s₂ T₂ _ I₂ V₂ h₂ => ?_
  obtain ⟨pl, rfl, rfl⟩ := V₂
  refine WX.use (h₂.go I₂) T₂ hp e fun v₃ hi μ₃ B₃ s₃ T₃ _ I₃ V₃ h₃ => ?_
  obtain ⟨pu, rfl, rfl⟩ := V₃
  refine ⟨_, _, pl, pu, rfl, rfl, rfl, ?_⟩
  refine sliceMade_post (by rw [S_length, sizeLine_eq]; exact hl) fun t' tk => ?_
  have k : ∀ a o, s₃.heap.get? a = some o → (s₃.heap.push { cls := .type "slice", data := .fields #[partValue pl, partValue pu, .none] }).get? a = some o := fun _ _ e => Heap.get?_push_of_some _ e
  exact q _ (.t (.str _)) m μ₃ B₃ _ (T₃.trans (Trans.ext (tk := tk) k)) (I₃.ext (tk := tk) k) (V.str _ _) ⟨rfl, h₃⟩
noncomputable def SI (G : Cfg) (c : Act) (d₁ d₂ : D) (m : Loc) (μ : Mut) (Q : D → Mut → Prop) (E : Cl → Mut → Prop) : Prop :=
  ∀ B s v₁ v₂, Inv G c m μ B s → VD G.C B v₁ d₁ → VD G.C B v₂ d₂ → (∃ T id, s.TypeIs v₁ T ∧ typeLookup (.type T) "__getitem__" = pure (some (.builtin id))) ∧ WX G c (VD G.C) (getItem v₁ v₂) m μ B s Q E
theorem WE_Subscript {value slice : Expr} {pos : Pos} (h : WE G c value m μ (fun d₁ μ₁ => WE G c slice m μ₁ (fun d₂ μ₂ => SI G c d₁ d₂ m μ₂ Q E) E) E)
    (hs : ∀ o i, subscripted slice false o i = operate [o, i] (getItem o i) := by intro _ _; rfl) : WE G c (.Subscript value slice pos) m μ Q E := by
  intro B s I Qr Er hp q e
  refine Subscript_ (WX.use (h B s I) (Trans.refl ..) hp e fun v₁ d₁ μ₁ B₁ s₁ T₁ _ I₁ V₁ h₁ => ?_)
  refine WX.use (h₁ B₁ s₁ I₁) T₁ hp e fun v₂ d₂ μ₂ B₂ s₂ T₂ U I₂ V₂ h₂ => ?_
  obtain ⟨⟨T, id, hT, hl⟩, hg⟩ := h₂ B₂ s₂ v₁ v₂ I₂ (V₁.mono U.le) V₂
  exact tail_any hT hl (WX.use hg T₂ hp e fun a b μ' B' s' T _ I' R x => q a b m μ' B' s' T I' R ⟨rfl, x⟩) (hs _ _)
theorem SI_str {x : List Nat} {i : Int} {n : Nat} (h0 : 0 ≤ i) (hi : i < 2 ^ 63) (hx : x[i.toNat]? = some n) (h : Q (.t (.str (S [n]))) μ) : SI G c (.t (.str (S x))) (.t (.int i)) m μ Q E := by
  intro B s v w I hv hw; cases hv; cases hw
  refine ⟨⟨"str", _, typeIs_str _ _ _, F.slot_str_getitem.lookup⟩, WX.of_toks I fun _ _ q => PyProof.Rows.getItem_str (c := n) ?_ ?_ (q _ _ (.t (.str _)) (V.str (S [n]) _) h)⟩
  · simp; lia
  · have hlt : i.toNat < x.length := by
      rcases Nat.lt_or_ge i.toNat x.length with h | h
      · exact h
      · rw [List.getElem?_eq_none h] at hx; cases hx
    rw [S_length, seqIndex_of h0 (by lia)]
    simpa using hx
theorem SI_list {d : D} {ds : List PyData} {i : Int} {p : PyData} (hd : asList μ d = some ds) (h0 : 0 ≤ i) (hi : i < 2 ^ 63) (hx : ds[i.toNat]? = some p) (h : Q (.t p) μ) : SI G c d (.t (.int i)) m μ Q E := by
  intro B s v w I hv hw; cases hw
  obtain ⟨a, vs, n, rfl, ha, hvs⟩ := I.isL hv hd
  obtain ⟨u, hu, hV⟩ := hvs.get hx
  have hL : s.heap.IsList a vs := ⟨_, ha, rfl, n, rfl⟩
  exact ⟨⟨"list", _, hL.typeIs, F.slot_list_getitem.lookup⟩, WX.of_toks I fun _ _ q => wpAny_getItem_list hL h0 hi (by simpa using hu) (q _ s.toks (.t p) hV h)⟩
theorem SI_last {d : D} {ds : List PyData} {p : PyData} (hd : asList μ d = some ds) (hl : ds.length ≤ 1000000) (hx : ds.getLast? = some p) (h : Q (.t p) μ) : SI G c d (.t (.int (-1))) m μ Q E := by
  intro B s v w I hv hw; cases hw
  obtain ⟨a, vs, n, rfl, ha, hvs⟩ := I.isL hv hd
  have hlen := hvs.length
  rw [Array.length_toList] at hlen
  rw [List.getLast?_eq_getElem?] at hx
  obtain ⟨u, hu, hV⟩ := hvs.get hx
  have hpos : 0 < ds.length := by
    cases ds with
    | nil => simp at hx
    | cons => simp
  have hL : s.heap.IsList a vs := ⟨_, ha, rfl, n, rfl⟩
  refine ⟨⟨"list", _, hL.typeIs, F.slot_list_getitem.lookup⟩, WX.of_toks I fun _ _ q => wpAny_getItem_list_neg (x := u) hL (by decide) (by lia) (by decide) ?_ (q _ s.toks (.t p) hV h)⟩
  rw [neg1, hlen]; simpa using hu
theorem SI_tuple {ds : List PyData} {i : Int} {p : PyData} (h0 : 0 ≤ i) (hi : i < 2 ^ 63) (hx : ds[i.toNat]? = some p) (h : Q (.t p) μ) : SI G c (.t (.tuple ds)) (.t (.int i)) m μ Q E := by
  intro B s v w I hv hw; cases hw
  obtain ⟨a, vs, n, rfl, ha, hvs⟩ := V.tuple_inv hv
  have ha := I.keep _ _ ha
  obtain ⟨u, hu, hV⟩ := hvs.get hx
  have hlt : i.toNat < vs.size := by
    have h1 := hvs.length
    rw [Array.length_toList] at h1
    rcases Nat.lt_or_ge i.toNat ds.length with h | h
    · lia
    · rw [List.getElem?_eq_none h] at hx; cases hx
  refine ⟨⟨"tuple", _, ⟨_, ha, rfl⟩, F.slot_tuple_getitem.lookup⟩, WX.of_toks I fun _ _ q => PyProof.Rows.getItem_tuple (x := u) ⟨_, ha, rfl, n, rfl⟩ (by lia) (by omega) (seqIndex_of h0 (by lia)) (by simpa using hu) (q _ s.toks (.t p) hV h)⟩
end
end P279
end
section
open PySem PySem.W PyProof.Rows PySem.Spec PySem.Calls
namespace P279
noncomputable def Mut.upd (μ : Mut) (a : Addr) (ds : List PyData) : Mut := μ.map fun p => if p.1 = a then (a, ds) else p
theorem Mut.upd_dom (μ : Mut) (a : Addr) (ds : List PyData) : (μ.upd a ds).map (·.1) = μ.map (·.1) := by
  unfold Mut.upd
  rw [List.map_map]
  refine List.map_congr_left fun p _ => ?_
  show (if p.1 = a then (a, ds) else p).1 = p.1
  split
  · rename_i h; exact h.symm
  · rfl
noncomputable def SL (G : Cfg) (c : Act) (t : List Value → Sem Value) (ds : List D) (m : Loc) (μ : Mut) (Q : D → Mut → Prop) (E : Cl → Mut → Prop) : Prop :=
  ∀ B s vs, Inv G c m μ B s → VDs G.C B vs ds → WX G c (VD G.C) (t vs) m μ B s Q E
section
variable {G : Cfg} {c : Act} {m : Loc} {μ : Mut} {B : BM} {s : Shared} {E : Cl → Mut → Prop} {Q : D → Mut → Prop}
theorem Inv.updMut {h' : Heap} {tk : Nat} (I : Inv G c m μ B s) {a : Addr} {es ds : List PyData} (ha : (a, es) ∈ μ) {n : Nat} {vs : Array Value} (hs : Heap.SameBut a s.heap h') (ho : h'.get? a = some (listOf vs n)) (hv : Vs B vs.toList ds) :
    Inv G c m (μ.upd a ds) B { s with heap := h', toks := tk } := by
  have hB := (I.mu _ ha).1
  have hm := List.mem_map_of_mem (f := (·.1)) ha
  have np : a ∉ c.priv := fun h => I.privM a h hm
  have nB : ∀ b o, B b = some o → b ≠ a := fun b o e q => by rw [q, hB] at e; cases e
  refine ⟨⟨I.gf, I.base, fun b o e => (hs.2 b (nB b o e)).trans (I.keep b o e), I.frB, fun p hp => ?_, by rw [Mut.upd_dom]; exact I.nd, ?_⟩, I.ok, ?_, fun b hb => ?_, I.privB, fun b hb => by rw [Mut.upd_dom]; exact I.privM b hb, fun p hp => ?_⟩
  · obtain ⟨q, hq, e⟩ := List.mem_map.mp hp
    by_cases z : q.1 = a
    · rw [if_pos z] at e
      subst e
      exact ⟨hB, n, vs, ho, hv⟩
    · rw [if_neg z] at e
      subst e
      obtain ⟨h1, n', vs', h2, h3⟩ := I.mu q hq
      exact ⟨h1, n', vs', (hs.2 _ z).trans h2, h3⟩
  · exact funFrames_at (fun L hL o ho hd => ⟨o, (hs.2 L fun q => np (q ▸ List.mem_append_right _ (List.mem_append_left _ hL))).trans ho, hd⟩) I.fun_
  · obtain ⟨mr, hn, hl⟩ := I.loc
    have hL : c.env.locals ≠ a := fun q => np (q ▸ List.mem_append_left _ I.ok.ownL)
    refine ⟨mr, hn.sameBut hs hL, fun x d e => ?_⟩
    obtain ⟨v, hv, h⟩ := hl x d e
    refine ⟨v, hv, h.imp id fun ⟨hk, ca, hc, o, ho, hd⟩ => ⟨hk, ca, hc, o, (hs.2 ca fun q => np (q ▸ List.mem_append_right _ (List.mem_append_right _ (lookup_snd hc)))).trans ho, hd⟩⟩
  · have := I.live b hb
    rw [← hs.2 b fun q => np (q ▸ hb)] at this
    exact this
  · obtain ⟨v, o, ho, hd⟩ := I.cellOk p hp
    exact ⟨v, o, (hs.2 _ fun q => np (q ▸ List.mem_append_right _ (List.mem_append_right _ (List.mem_map_of_mem hp)))).trans ho, hd⟩
theorem Trans.updMut {own frA : List Addr} {h' : Heap} {tk : Nat} {a : Addr} {es ds : List PyData} (ha : (a, es) ∈ μ) (hs : Heap.SameBut a s.heap h') {o : Obj} (ho : h'.get? a = some o) :
    Trans own frA μ B s (μ.upd a ds) B { s with heap := h', toks := tk } := by
  have hm := List.mem_map_of_mem (f := (·.1)) ha
  refine ⟨BLe.refl _, fun _ h => .inl h, fun b h => .inl (by rw [Mut.upd_dom] at h; exact h), fun b o e hb _ => ?_, fun b hb => ?_, rfl, rfl, rfl⟩
  · have : b ≠ a := fun q => hb (q ▸ hm)
    have := (hs.2 b this).trans e
    exact ⟨fun _ => this, o.slots, this⟩
  · show h'.get? b ≠ none
    by_cases z : b = a
    · rw [z, ho]; exact nofun
    · rw [hs.2 b z]; exact hb
theorem evalArgs_go {f : Value} {pos : Pos} {es : List Expr} {Ql : List D → Mut → Prop} (h : WEs G c pos es m μ Ql E) (he : ∀ x r, es = x :: r → starEach (x :: r) c.env = (false, eval x c.env) :: starEach r c.env) (I : Inv G c m μ B s) :
    WX G c (fun B (a : Args) ds => a.kw = [] ∧ VDs G.C B a.pos ds) (evalArgs f true (backTo pos (starEach es c.env)) []) m μ B s Ql E := by
  intro Qr Er hp q e
  cases es with
  | nil =>
    have h' := h B s I (fun vs s' => Qr ⟨vs, []⟩ s') Er hp (fun a b m' μ' B' s' T I' R x => q ⟨a, []⟩ b m' μ' B' s' T I' ⟨rfl, R⟩ x) e
    unfold evalArgs
    show wpAny _ _ (spliced (backTo pos (starEach [] c.env)) >>= _) _ _ _
    refine wpAny_bind (wpAny_mono h' (fun vs s' h' => ?_) fun _ _ x => x)
    refine wpAny_bind (wpAny_pure ?_)
    refine wpAny_holding ?_
    exact wpAny_bind (wpAny_pure (wpAny_pure h'))
  | cons x r =>
    have hx := he x r rfl
    rw [hx]
    have h' := h B s I
    rw [hx] at h'
    exact evalArgs_plain (h' (fun vs s' => Qr ⟨vs, []⟩ s') Er hp (fun a b m' μ' B' s' T I' R x => q ⟨a, []⟩ b m' μ' B' s' T I' ⟨rfl, R⟩ x) e)
end
end P279
namespace P279
section
variable {G : Cfg} {c : Act} {m : Loc} {μ : Mut} {B : BM} {s : Shared} {E : Cl → Mut → Prop} {Q : D → Mut → Prop}
noncomputable def GBlt (G : Cfg) (x : Str) (v : Value) : Prop := nsIn G.K mainGlobals x = some none ∧ bootBuiltins x = some v ∧ x ≠ "__name__"
theorem WE_CallBuiltin {x : Str} {np pos : Pos} {es : List Expr} {id : String} (hx : c.env.kindOf x = some .globalImplicit) (g : GBlt G x (.builtin id))
    (h : WEs G c pos es m μ (fun ds μ₁ => SL G c (fun vs => call (.builtin id) vs) ds m μ₁ Q E) E)
    (he : ∀ x r, es = x :: r → starEach (x :: r) c.env = (false, eval x c.env) :: starEach r c.env := by intro _ _ h; cases h; rfl)
    (hp : (backTo pos (starEach es c.env)).any (·.1) = false := by rfl) (hd : (x == ("__debug__" : Str)) = false := by decide) : WE G c (.Call (.Name x np) es [] pos) m μ Q E := by
  intro B s I Qr Er hpo q e
  refine wpAny_Call_ofName ?_
  refine Name_function_global I.ok.kind hx (loadGlobal_builtin (I.ok.globals ▸ I.ns) (mg_none_of I.gf.kin I.gf.g g.1) (I.ok.builtins ▸ I.nsb) ((I.gf.blt x g.2.2).trans g.2.1) ?_) hd
  refine Calls.callWith_builtin hp ?_
  refine WX.use (evalArgs_go h he I) (Trans.refl ..) hpo e fun a ds μ' B' s' T _ I' R x => ?_
  obtain ⟨hk, hv⟩ := R
  rw [hk]
  exact WX.use (x B' s' _ I' hv) T hpo e fun a b μ' B' s' T _ I' R x => q a b m μ' B' s' T I' R ⟨rfl, x⟩
theorem WE_CallType {x : Str} {np pos : Pos} {es : List Expr} {id : String} (hx : c.env.kindOf x = some .globalImplicit) (g : GBlt G x (.type id))
    (h : WEs G c pos es m μ (fun ds μ₁ => SL G c (fun vs => call (.type id) vs) ds m μ₁ Q E) E)
    (he : ∀ x r, es = x :: r → starEach (x :: r) c.env = (false, eval x c.env) :: starEach r c.env := by intro _ _ h; cases h; rfl)
    (hp : (backTo pos (starEach es c.env)).any (·.1) = false := by rfl) (hd : (x == ("__debug__" : Str)) = false := by decide) : WE G c (.Call (.Name x np) es [] pos) m μ Q E := by
  intro B s I Qr Er hpo q e
  refine wpAny_Call_ofName ?_
  refine Name_function_global I.ok.kind hx (loadGlobal_builtin (I.ok.globals ▸ I.ns) (mg_none_of I.gf.kin I.gf.g g.1) (I.ok.builtins ▸ I.nsb) ((I.gf.blt x g.2.2).trans g.2.1) ?_) hd
  refine PyProof.Rows.callWith_type hp ?_
  refine WX.use (evalArgs_go h he I) (Trans.refl ..) hpo e fun a ds μ' B' s' T _ I' R x => ?_
  obtain ⟨hk, hv⟩ := R
  rw [hk]
  exact WX.use (x B' s' _ I' hv) T hpo e fun a b μ' B' s' T _ I' R x => q a b m μ' B' s' T I' R ⟨rfl, x⟩
noncomputable def tyD (μ : Mut) : D → Option String
  | .t (.str _) => some "str"
  | .t (.list _) => some "list"
  | .loc a => if a ∈ μ.map (·.1) then some "list" else none
  | _ => none
theorem BInv.tyD {fr : List Env} (I : BInv G fr μ B s) {v : Value} {d : D} {T : String} (hv : VD G.C B v d) (h : P279.tyD μ d = some T) : s.TypeIs v T ∧ ∀ a, v = .ref a → ∃ ob, s.heap.get? a = some ob ∧ ob.dict = none := by
  cases d with
  | t d =>
    cases d with
    | str _ => cases h; cases hv; exact ⟨typeIs_str _ _ _, fun _ e => nomatch e⟩
    | list _ =>
      cases h
      cases hv with
      | list ha _ => exact ⟨⟨_, I.keep _ _ ha, rfl⟩, fun _ e => by cases e; exact ⟨_, I.keep _ _ ha, rfl⟩⟩
    | _ => cases h
  | loc a =>
    have h : (if a ∈ μ.map (·.1) then some "list" else none) = some T := h
    by_cases hm : a ∈ μ.map (·.1)
    · rw [if_pos hm] at h
      cases h
      obtain ⟨p, hp, rfl⟩ := List.mem_map.mp hm
      obtain ⟨_, n, vs, ho, _⟩ := I.mu p hp
      cases hv
      exact ⟨⟨_, ho, rfl⟩, fun _ e => by cases e; exact ⟨_, ho, rfl⟩⟩
    · rw [if_neg hm] at h; cases h
  | _ => cases h
theorem WE_Method {o : Expr} {name : Str} {apos pos : Pos} {es : List Expr} {T id : String} (pa : PlainAttrs T) (slot : Slot T name id) (hty : typeOf (.builtin id) = pure (.type "method_descriptor"))
    (h : WE G c o m μ (fun d μ₁ => tyD μ₁ d = some T ∧ WEs G c pos es m μ₁ (fun ds μ₂ => SL G c (fun vs => call (.builtin id) vs) (d :: ds) m μ₂ Q E) E) E)
    (hbase : attributeBase o name c.env (eval o c.env) = eval o c.env := by rfl)
    (hfew : ((backTo pos (starEach es c.env)).all (fun x => !x.1) && (backToKw pos (keywordEach [] c.env)).all (fun x => x.1.isSome)
      && decide (es.length + ([] : List Keyword).length + (if ([] : List Keyword).isEmpty then 0 else 1) < 30)) = true := by rfl)
    (hline : (apos.endLine == pos.line) = true := by rfl)
    (he : ∀ x r, es = x :: r → starEach (x :: r) c.env = (false, eval x c.env) :: starEach r c.env := by intro _ _ h; cases h; rfl)
    (hp : (backTo pos (starEach es c.env)).any (·.1) = false := by rfl) : WE G c (.Call (.Attribute o name apos) es [] pos) m μ Q E := by
  intro B s I Qr Er hpo q e
  refine wpAny_Call_method_lateS hbase hfew hline (WX.use (h B s I) (Trans.refl ..) hpo e fun v₁ d₁ μ₁ B₁ s₁ T₁ _ I₁ V₁ h₁ => ?_)
  obtain ⟨hT, h₁⟩ := h₁
  obtain ⟨hT, hd⟩ := I₁.tyD V₁ hT
  refine ⟨T, id, pa, slot, hty, hT, hd, ?_⟩
  refine Calls.callWith_builtin hp ?_
  refine WX.use (evalArgs_go h₁ he I₁) T₁ hpo e fun a ds μ' B' s' T' U I' R x => ?_
  obtain ⟨hk, hv⟩ := R
  rw [hk]
  exact WX.use (x B' s' _ I' (.cons (V₁.mono U.le) hv)) T' hpo e fun a b μ' B' s' T _ I' R x => q a b m μ' B' s' T I' R ⟨rfl, x⟩
theorem VDs.one {C : Addr} {vs : List Value} {d : D} (h : VDs C B vs [d]) : ∃ v, vs = [v] ∧ VD C B v d := by
  cases h with
  | cons h r => cases r; exact ⟨_, rfl, h⟩
theorem VDs.two {C : Addr} {vs : List Value} {d e : D} (h : VDs C B vs [d, e]) : ∃ v w, vs = [v, w] ∧ VD C B v d ∧ VD C B w e := by
  cases h with
  | cons h r =>
    obtain ⟨w, rfl, hw⟩ := r.one
    exact ⟨_, _, rfl, h, hw⟩
theorem VDs.three {C : Addr} {vs : List Value} {d e f : D} (h : VDs C B vs [d, e, f]) : ∃ v w u, vs = [v, w, u] ∧ VD C B v d ∧ VD C B w e ∧ VD C B u f := by
  cases h with
  | cons h r =>
    obtain ⟨w, u, rfl, hw, hu⟩ := r.two
    exact ⟨_, _, _, rfl, h, hw, hu⟩
theorem SL_len_str {x : List Nat} (hl : x.length ≤ 16777216) (h : Q (.t (.int x.length)) μ) : SL G c (fun vs => call (.builtin "len") vs) [.t (.str (S x))] m μ Q E := by
  intro B s vs I hvv
  obtain ⟨v, rfl, hv⟩ := hvv.one
  cases hv
  exact WX.of_toks I fun _ _ q => len_str (by rw [S_length]; lia) (q _ _ (.t (.int _)) (V.int _ _) (by rw [S_length]; exact h))
theorem SL_len_list {d : D} {ds : List PyData} (hd : asList μ d = some ds) (hl : ds.length ≤ 1000000) (h : Q (.t (.int ds.length)) μ) : SL G c (fun vs => call (.builtin "len") vs) [d] m μ Q E := by
  intro B s vs I hvv
  obtain ⟨v, rfl, hv⟩ := hvv.one
  obtain ⟨a, vs, n, rfl, ha, hvs⟩ := I.isL hv hd
  have hlen := hvs.length
  rw [Array.length_toList] at hlen
  exact WX.of_toks I fun _ _ q => call_len_list ⟨_, ha, rfl, n, rfl⟩ (by lia) (q _ _ (.t (.int ds.length)) (by rw [hlen]; exact V.int _ _) h)
theorem SL_abs {i : Int} (h : Q (.t (.int (if i < 0 then -i else i))) μ) : SL G c (fun vs => call (.builtin "abs") vs) [.t (.int i)] m μ Q E := by
  intro B s vs I hvv
  obtain ⟨v, rfl, hv⟩ := hvv.one
  cases hv
  exact WX.of_toks I fun _ _ q => call_abs_int fun u tk => q _ _ (.t (.int _)) (V.int _ _) h
theorem SL_range1 {n : Int} (h : Q (.rng 0 n) μ) : SL G c (fun vs => call (.type "range") vs) [.t (.int n)] m μ Q E := by
  intro B s vs I hvv
  obtain ⟨v, rfl, hv⟩ := hvv.one
  cases hv
  refine WX.of_new I fun _ _ q => call_range_1 (q _ _ _ (.rng 0 n) _ _ (fun _ _ e => Heap.get?_push_of_some _ e) (Heap.get?_none_of_le (Nat.le_refl _)) (Heap.get?_push_size _ rfl) ⟨_, _, rfl, BM.put_self, _, _, _, rfl⟩ h)
theorem SL_range2 {a n : Int} (h : Q (.rng a n) μ) : SL G c (fun vs => call (.type "range") vs) [.t (.int a), .t (.int n)] m μ Q E := by
  intro B s vs I hvv
  obtain ⟨v, w, rfl, hv, hw⟩ := hvv.two
  cases hv; cases hw
  refine WX.of_new I fun _ _ q => call_range_2 (q _ _ _ (.rng a n) _ _ (fun _ _ e => Heap.get?_push_of_some _ e) (Heap.get?_none_of_le (Nat.le_refl _)) (Heap.get?_push_size _ rfl) ⟨_, _, rfl, BM.put_self, _, _, _, rfl⟩ h)
theorem SL_int {x : List Nat} (hd : NumText.AllDigits x) (h0 : x ≠ []) (hl : x.length ≤ 640) (h : Q (.t (.int (NumText.digitsVal x : Nat))) μ) : SL G c (fun vs => call (.type "int") vs) [.t (.str (S x))] m μ Q E := by
  intro B s vs I hvv
  obtain ⟨v, rfl, hv⟩ := hvv.one
  cases hv
  exact WX.of_toks I fun _ _ q => KIN.call_text (intText_digits (x := S x) hd h0 (by rw [S_length]; exact Nat.le_trans ‹_› (by decide))) (by rw [S_length]; exact hl) (q _ _ (.t (.int _)) (V.int _ _) h)
theorem SL_str {i : Int} (hi : i.natAbs.log2 < 1920) (h : Q (.t (.str (toString i : String))) μ) : SL G c (fun vs => call (.type "str") vs) [.t (.int i)] m μ Q E := by
  intro B s vs I hvv
  obtain ⟨v, rfl, hv⟩ := hvv.one
  cases hv
  exact WX.of_toks I fun _ _ q => P.str_of_int hi (q _ _ (.t (.str _)) (V.str _ _) h)
theorem SL_append {a : Addr} {ds : List PyData} {p : PyData} (ha : μ.lookup a = some ds) (hl : ds.length ≤ 1000000) (h : Q (.t .none) (μ.upd a (ds ++ [p]))) : SL G c (fun vs => call (.builtin "list.append") vs) [.loc a, .t p] m μ Q E := by
  intro B s vs I hvv
  obtain ⟨v, w, rfl, hv, hw⟩ := hvv.two
  cases hv
  obtain ⟨_, n, vs, ho, hvs⟩ := I.mu _ (lookup_mem ha)
  dsimp only at ho hvs
  have hlen := hvs.length
  rw [Array.length_toList] at hlen
  intro Qr Er hp q e
  refine wpAny_list_append_plain ⟨n, ho⟩ (fun h' hP hs => ?_) (by rw [sizeLine_eq]; lia)
  obtain ⟨n', hP⟩ := hP
  have hv' : Vs B (vs.push w).toList (ds ++ [p]) := by rw [Array.toList_push]; exact hvs.append (.one hw)
  exact q _ (.t .none) m _ B _ (Trans.updMut (tk := s.toks) (lookup_mem ha) hs hP) (I.updMut (tk := s.toks) (lookup_mem ha) hs hP hv') V.none ⟨rfl, h⟩
theorem SL_pop0 {a : Addr} {ds : List PyData} {p : PyData} (ha : μ.lookup a = some (p :: ds)) (hl : ds.length ≤ 1000000) (h : Q (.t p) (μ.upd a ds)) : SL G c (fun vs => call (.builtin "list.pop") vs) [.loc a, .t (.int 0)] m μ Q E := by
  intro B s vs I hvv
  obtain ⟨v, w, rfl, hv, hw⟩ := hvv.two
  cases hv; cases hw
  obtain ⟨_, n, vs, ho, hvs⟩ := I.mu _ (lookup_mem ha)
  dsimp only at ho hvs
  have hlen := hvs.length
  rw [Array.length_toList] at hlen
  obtain ⟨l⟩ := vs
  cases hvs with
  | cons hV hvs =>
    rename_i v vs
    intro Qr Er hp q e
    refine call_meets F.slot_list_pop ⟨_, ho, rfl⟩ F.entry_list_pop (F.args_list_pop_2 _ _) (MeetsSeq.list_pop_at a _ n 0 _ 0 v rfl (by simp [seqIndex?]) (by simp) (by simp at hlen ⊢; rw [sizeLine_eq]; lia)) ⟨ho, ?_⟩
    have ho' := IsL.update ho (fun xs => xs.eraseIdxIfInBounds 0)
    have hs : Heap.SameBut a s.heap (s.heap.update a (Obj.mapSeq fun xs => xs.eraseIdxIfInBounds 0)) := Heap.SameBut.update ..
    have e0 : ((⟨v :: vs⟩ : Array Value).eraseIdxIfInBounds 0).toList = vs := by simp [Array.eraseIdxIfInBounds]
    refine q _ (.t p) m _ B _ (Trans.updMut (tk := s.toks) (lookup_mem ha) hs ho') (I.updMut (tk := s.toks) (lookup_mem ha) hs ho' ?_) hV ⟨rfl, h⟩
    rw [e0]; exact hvs
theorem SL_pop {a : Addr} {ds : List PyData} {p : PyData} (ha : μ.lookup a = some (ds ++ [p])) (hl : ds.length ≤ 1000000) (h : Q (.t p) (μ.upd a ds)) : SL G c (fun vs => call (.builtin "list.pop") vs) [.loc a] m μ Q E := by
  intro B s vs I hvv
  obtain ⟨v, rfl, hv⟩ := hvv.one
  cases hv
  obtain ⟨_, n, vs, ho, hvs⟩ := I.mu _ (lookup_mem ha)
  dsimp only at ho hvs
  have hlen := hvs.length
  rw [Array.length_toList] at hlen
  simp only [List.length_append, List.length_cons, List.length_nil] at hlen
  obtain ⟨v, hv, hV⟩ := hvs.get (k := ds.length) (d := p) (by simp)
  have hsz : vs.size - 1 = ds.length := by lia
  intro Qr Er hp q e
  refine call_meets F.slot_list_pop ⟨_, ho, rfl⟩ F.entry_list_pop (F.args_list_pop_1 _) (MeetsSeq.list_pop_last a _ n v (by rw [hsz]; simpa using hv) (by rw [sizeLine_eq]; lia)) ⟨ho, ?_⟩
  have ho' := IsL.update ho (fun xs => xs.eraseIdxIfInBounds (vs.size - 1))
  have hs : Heap.SameBut a s.heap (s.heap.update a (Obj.mapSeq fun xs => xs.eraseIdxIfInBounds (vs.size - 1))) := Heap.SameBut.update ..
  refine q _ (.t p) m _ B _ (Trans.updMut (tk := s.toks) (lookup_mem ha) hs ho') (I.updMut (tk := s.toks) (lookup_mem ha) hs ho' ?_) hV ⟨rfl, h⟩
  have e0 : (vs.eraseIdxIfInBounds (vs.size - 1)).toList = vs.toList.eraseIdx (vs.size - 1) := by
    unfold Array.eraseIdxIfInBounds
    split
    · simp
    · rename_i z
      exact absurd (by lia) z
  rw [e0, hsz]
  have := hvs.eraseIdx ds.length
  rw [show (ds ++ [p]).eraseIdx ds.length = ds by rw [List.eraseIdx_append_of_length_le (Nat.le_refl _)]; simp] at this
  exact this
end
end P279
end
section
open PySem PySem.W PyProof.Rows PySem.Spec PySem.Calls
namespace P279
inductive Fl | next | brk | cont | ret (d : D)
noncomputable def rF (C : Addr) (B : BM) : Flow → Fl → Prop
  | .next, .next => True
  | .brk, .brk => True
  | .cont, .cont => True
  | .ret v, .ret d => VD C B v d
  | _, _ => False
noncomputable abbrev rU : BM → Unit → Unit → Prop := fun _ _ _ => True
section
variable (G : Cfg) (c : Act)
noncomputable def WS (st : Stmt) (m : Loc) (μ : Mut) (Q : Fl → Loc → Mut → Prop) (E : Cl → Loc → Mut → Prop) : Prop :=
  ∀ B s, Inv G c m μ B s → WP G c (rF G.C) (exec st c.env) μ B s Q E
noncomputable def WSs (sts : List Stmt) (m : Loc) (μ : Mut) (Q : Fl → Loc → Mut → Prop) (E : Cl → Loc → Mut → Prop) : Prop :=
  ∀ B s, Inv G c m μ B s → WP G c (rF G.C) (execs sts c.env) μ B s Q E
noncomputable def WA (t : Expr) (d : D) (m : Loc) (μ : Mut) (Q : Loc → Mut → Prop) (E : Cl → Loc → Mut → Prop) : Prop :=
  ∀ B s v, Inv G c m μ B s → VD G.C B v d → WP G c rU (assign t c.env v) μ B s (fun _ => Q) E
noncomputable def WAs (ts : List Expr) (ds : List D) (m : Loc) (μ : Mut) (Q : Loc → Mut → Prop) (E : Cl → Loc → Mut → Prop) : Prop :=
  ∀ B s vs, Inv G c m μ B s → VDs G.C B vs ds → WP G c rU (assignInOrder ((assignEach ts c.env).map (·.2)) vs) μ B s (fun _ => Q) E
end
section
variable {G : Cfg} {c : Act} {α β : Type} {rel : BM → α → β → Prop} {t : Sem α} {m : Loc} {μ μ₂ : Mut} {B B₂ : BM} {s s₂ : Shared} {E : Cl → Loc → Mut → Prop} {Q : Fl → Loc → Mut → Prop}
theorem WSs.mono {sts : List Stmt} {Q' : Fl → Loc → Mut → Prop} {E' : Cl → Loc → Mut → Prop} (h : WSs G c sts m μ Q E) (hQ : ∀ f m μ, Q f m μ → Q' f m μ) (hE : ∀ k m μ, E k m μ → E' k m μ) : WSs G c sts m μ Q' E' := fun B s I => (h B s I).mono hQ hE
theorem WS.mono {st : Stmt} {Q' : Fl → Loc → Mut → Prop} {E' : Cl → Loc → Mut → Prop} (h : WS G c st m μ Q E) (hQ : ∀ f m μ, Q f m μ → Q' f m μ) (hE : ∀ k m μ, E k m μ → E' k m μ) : WS G c st m μ Q' E' := fun B s I => (h B s I).mono hQ hE
noncomputable def Loc.Le (m m' : Loc) : Prop := ∀ x d, m.get x = some d → m'.get x = some d
theorem Inv.weaken {m' : Loc} (I : Inv G c m μ B s) (h : Loc.Le m' m) : Inv G c m' μ B s :=
  { I with loc := let ⟨mr, hn, hl⟩ := I.loc; ⟨mr, hn, fun x d e => hl x d (h x d e)⟩ }
theorem WSs.weaken {sts : List Stmt} {m' : Loc} (h : WSs G c sts m' μ Q E) (hm : Loc.Le m' m) : WSs G c sts m μ Q E := fun B s I => h B s (I.weaken hm)
theorem store_get {x y : Str} {d : D} {m : Loc} : Loc.get ((x, d) :: m) y = if y = x then some d else m.get y := rfl
theorem WStoreA {A' : Around} {x : Str} {d : D} {Qm : Loc → Mut → Prop} (hx : c.env.kindOf x = some .local ∨ (c.env.kindOf x = some .cell ∧ ∃ ca, c.env.cells.lookup x = some ca ∧ ca ∈ c.own))
    {v : Value} (I : Inv G c m μ B s) (hv : VD G.C B v d) (h : Qm ((x, d) :: m) μ) {Qr : Unit → Shared → Prop} {Er : Value → Shared → Prop}
    (q : ∀ (a b : Unit) m' μ' B' s', TransC c μ B s μ' B' s' → Inv G c m' μ' B' s' → True → Qm m' μ' → Qr a s') : wpAny G.M A' (storeName c.env x v) Qr Er s := by
  obtain ⟨mr, hn, hl⟩ := I.loc
  have hLown := I.ok.ownL
  rcases hx with hx | ⟨hx, ca, hc, hown⟩
  · refine wpAny_storeName_local hx hn (fun h' hn' hs => ?_) (by rw [I.ok.kind]; rfl)
    have k : ∀ a o, s.heap.get? a = some o → a ∉ c.own → h'.get? a = some o := fun a o e n => (hs.2 a fun q => n (q ▸ hLown)).trans e
    obtain ⟨oL, es, ep, hLo, hLd, _⟩ := id hn'
    have ko : ∀ a ∈ c.own, ∀ o, s.heap.get? a = some o → ∃ o', h'.get? a = some o' ∧ ((∀ vs, o.data ≠ .fields vs) → ∀ vs, o'.data ≠ .fields vs) := fun a _ o e => by
      by_cases z : a = c.env.locals
      · rw [z]; exact ⟨oL, hLo, fun _ vs w => by rw [hLd] at w; cases w⟩
      · exact ⟨o, (hs.2 a z).trans e, fun w => w⟩
    have cne : ∀ ca v, s.heap.IsCell ca v → ca ≠ c.env.locals := by
      rintro ca v ⟨o, ho, hd⟩ rfl
      obtain ⟨o', es', ep', ho', hd', _⟩ := hn
      rw [ho] at ho'; cases ho'
      rw [hd] at hd'; cases hd'
    have I' : Inv G c ((x, d) :: m) μ B { s with heap := h', toks := s.toks + 1 } := by
      refine I.turn k ko ⟨_, hn', fun y d' e => ?_⟩ fun p hp => ?_
      · rw [store_get] at e
        by_cases z : y = x
        · rw [if_pos z] at e
          cases e
          exact ⟨v, hv, .inl ⟨z ▸ hx, by rw [if_pos z]⟩⟩
        · rw [if_neg z] at e
          obtain ⟨w, hw, hh⟩ := hl y d' e
          refine ⟨w, hw, hh.imp (fun ⟨a, b⟩ => ⟨a, by rw [if_neg z]; exact b⟩) fun ⟨a, ca, b, i⟩ => ⟨a, ca, b, i.sameBut hs (cne _ _ i)⟩⟩
      · obtain ⟨w, i⟩ := I.cellOk p hp
        exact ⟨w, i.sameBut hs (cne _ _ i)⟩
    exact q () () _ μ B _ (Trans.turn k fun a ha o e => let ⟨o', h, _⟩ := ko a ha o e; ⟨o', h⟩) I' trivial h
  · obtain ⟨v₀, hcell⟩ : ∃ v₀, s.heap.IsCell ca v₀ := by
      have hmem : ∀ (l : List (Str × Addr)), l.lookup x = some ca → (x, ca) ∈ l := by
        intro l
        induction l with
        | nil => intro h; cases h
        | cons p r ih =>
          intro h
          obtain ⟨y, b⟩ := p
          rw [List.lookup_cons] at h
          split at h
          · rename_i q; cases h; rw [beq_iff_eq.mp q]; exact .head _
          · exact .tail _ (ih h)
      exact I.cellOk _ (hmem _ hc)
    refine wpAny_storeName_cell I.ok.kind hx hc hcell fun h' hcell' hs => ?_
    obtain ⟨o', ho', hd'⟩ := id hcell'
    have k : ∀ a o, s.heap.get? a = some o → a ∉ c.own → h'.get? a = some o := fun a o e n => (hs.2 a fun q => n (q ▸ hown)).trans e
    have ko : ∀ a ∈ c.own, ∀ o, s.heap.get? a = some o → ∃ o', h'.get? a = some o' ∧ ((∀ vs, o.data ≠ .fields vs) → ∀ vs, o'.data ≠ .fields vs) := fun a _ o e => by
      by_cases z : a = ca
      · rw [z]; exact ⟨o', ho', fun _ vs w => by rw [hd'] at w; cases w⟩
      · exact ⟨o, (hs.2 a z).trans e, fun w => w⟩
    have hLc : c.env.locals ≠ ca := by
      rintro z
      obtain ⟨o, ho, hd⟩ := hcell
      obtain ⟨o2, es', ep', ho2, hd2, _⟩ := hn
      rw [z, ho] at ho2; cases ho2
      rw [hd] at hd2; cases hd2
    have I' : Inv G c ((x, d) :: m) μ B { s with heap := h', toks := s.toks } := by
      refine I.turn k ko ⟨mr, hn.sameBut hs hLc, fun y d' e => ?_⟩ fun p hp => ?_
      · rw [store_get] at e
        by_cases z : y = x
        · rw [if_pos z] at e
          cases e
          exact ⟨v, hv, .inr ⟨z ▸ hx, ca, z ▸ hc, hcell'⟩⟩
        · rw [if_neg z] at e
          obtain ⟨w, hw, hh⟩ := hl y d' e
          refine ⟨w, hw, hh.imp id fun ⟨a, cb, b, i⟩ => ⟨a, cb, b, ?_⟩⟩
          exact i.sameBut hs fun zz => z (I.ok.cinj _ _ _ (zz ▸ b) hc)
      · by_cases zz : p.2 = ca
        · exact ⟨some v, zz ▸ hcell'⟩
        · obtain ⟨w, i⟩ := I.cellOk p hp
          exact ⟨w, i.sameBut hs zz⟩
    exact q () () _ μ B _ (Trans.turn (tk := s.toks) k fun a ha o e => let ⟨o', h, _⟩ := ko a ha o e; ⟨o', h⟩) I' trivial h
theorem WStore {x : Str} {d : D} {Qm : Loc → Mut → Prop} (hx : c.env.kindOf x = some .local ∨ (c.env.kindOf x = some .cell ∧ ∃ ca, c.env.cells.lookup x = some ca ∧ ca ∈ c.own))
    {v : Value} (I : Inv G c m μ B s) (hv : VD G.C B v d) (h : Qm ((x, d) :: m) μ) : WP G c rU (storeName c.env x v) μ B s (fun _ => Qm) E :=
  fun _ _ _ q _ => WStoreA hx I hv h q
theorem WA_Name {x : Str} {pos : Pos} {d : D} {Qm : Loc → Mut → Prop} (hx : c.env.kindOf x = some .local ∨ (c.env.kindOf x = some .cell ∧ ∃ ca, c.env.cells.lookup x = some ca ∧ ca ∈ c.own)) (h : Qm ((x, d) :: m) μ) : WA G c (.Name x pos) d m μ Qm E :=
  fun B s v I hv Qr Er hp q e => wpAny_assign_Name (WStore hx I hv h Qr Er hp q e)
theorem WAs_nil {Qm : Loc → Mut → Prop} (h : Qm m μ) : WAs G c [] [] m μ Qm E := by
  intro B s vs I hv
  cases hv
  exact WP.pure (b := ()) I trivial h
theorem WAs_cons {t : Expr} {ts : List Expr} {d : D} {ds : List D} {Qm : Loc → Mut → Prop} (h : WA G c t d m μ (fun m' μ' => WAs G c ts ds m' μ' Qm E) E)
    (he : assignEach (t :: ts) c.env = (false, assign t c.env) :: assignEach ts c.env := by rfl) : WAs G c (t :: ts) (d :: ds) m μ Qm E := by
  intro B s vs I hv
  cases hv with
  | cons hv hvs =>
    rename_i v vs
    rw [he]
    intro Qr Er hp q e
    show wpAny G.M c.A (holding vs (assign t c.env v) >>= fun _ => assignInOrder ((assignEach ts c.env).map (·.2)) vs) Qr Er s
    refine wpAny_bind (wpAny_holding (WP.after (Trans.refl ..) (h B s v I hv) hp (fun a b m' μ' B' s' T U I' R x => ?_) e))
    exact WP.after T (x B' s' vs I' (hvs.mono U.le)) hp (fun a b m' μ' B' s' T _ I' R x => q a b m' μ' B' s' T I' R x) e
theorem Vs.vds {C : Addr} {B : BM} {vs : List Value} {ds : List PyData} (h : Vs B vs ds) : VDs C B vs (ds.map .t) := by
  induction vs generalizing ds with
  | nil => cases h; exact .nil
  | cons v vs ih =>
    cases h with
    | cons h r => exact .cons h (ih r)
theorem WA_Tuple {ts : List Expr} {k : Nat} {pos : Pos} {ds : List PyData} {Qm : Loc → Mut → Prop} (hn : (assignEach ts c.env).length = ds.length) (hstar : (assignEach ts c.env).findIdx? (·.1) = none)
    (h : WAs G c ts (ds.map .t) m μ Qm E) : WA G c (.Tuple ts k pos) (.t (.tuple ds)) m μ Qm E := by
  intro B s v I hv Qr Er hp q e
  obtain ⟨a, vs, n, rfl, ha, hvs⟩ := V.tuple_inv hv
  have hlen := hvs.length
  rw [Array.length_toList] at hlen
  refine wpAny_assign_Tuple I.ok.handled ⟨_, I.keep _ _ ha, rfl, n, rfl⟩ (by rw [hn, hlen]) hstar fun h' hs => ?_
  have k : ∀ a o, s.heap.get? a = some o → h'.get? a = some o := fun a o e => hs a o (Nat.ne_of_lt (Heap.lt_size e)) e
  exact WP.after (Trans.ext (tk := s.toks) k) (h B _ vs.toList (I.ext (tk := s.toks) k) hvs.vds) hp (fun a b m' μ' B' s' T _ I' R x => q a b m' μ' B' s' T I' R x) e
theorem WA_Item {o i : Expr} {p : PyData} {Qm : Loc → Mut → Prop}
    (h : WE G c o m μ (fun d₁ μ₁ => WE G c i m μ₁ (fun d₂ μ₂ => ∃ a ds j, d₁ = .loc a ∧ μ₂.lookup a = some ds ∧ ds.length ≤ 1000000 ∧ (d₂ = .t (.int (j : Nat)) ∧ j < ds.length ∨ d₂ = .t (.int (-1)) ∧ j + 1 = ds.length) ∧ Qm m (μ₂.upd a (ds.set j p))) (fun k μ => E k m μ)) (fun k μ => E k m μ)) :
    ∀ B s v, Inv G c m μ B s → V B v p → ∀ (Qr : Unit → Shared → Prop) (Er : Value → Shared → Prop), PassesOwn G.M c.A c.env Er →
    (∀ m' μ' B' s', TransC c μ B s μ' B' s' → Inv G c m' μ' B' s' → Qm m' μ' → Qr () s') →
    (∀ k e m' μ' B' s₁ s', TransC c μ B s μ' B' s₁ → Inv G c m' μ' B' s₁ → s'.gens = s₁.gens → s'.os = s₁.os → s'.drawn = s₁.drawn → Raised c.fr (clV G k) e s₁.heap s'.heap → E k m' μ' → Er (.ref e) s') →
    wpAny G.M c.A (eval o c.env) (fun ov s₂ => wpAny G.M c.A (eval i c.env) (fun iv s₃ => wpAny G.M c.A (setItem ov iv v) Qr Er s₃) Er s₂) Er s := by
  intro B s v I hv Qr Er hp q e
  have e' : ∀ k e m' μ' B' s₁ s', TransC c μ B s μ' B' s₁ → Inv G c m' μ' B' s₁ → s'.gens = s₁.gens → s'.os = s₁.os → s'.drawn = s₁.drawn → Raised c.fr (clV G k) e s₁.heap s'.heap → (m' = m ∧ E k m μ') → Er (.ref e) s' :=
    fun k a m' μ' B' s₁ s' T I' g o d R x => e k a m' μ' B' s₁ s' T I' g o d R (x.1 ▸ x.2)
  refine WX.use (h B s I) (Trans.refl ..) hp e' fun v₁ d₁ μ₁ B₁ s₁ T₁ _ I₁ V₁ h₁ => ?_
  refine WX.use (h₁ B₁ s₁ I₁) T₁ hp e' fun v₂ d₂ μ₂ B₂ s₂ T₂ U I₂ V₂ h₂ => ?_
  obtain ⟨a, ds, j, rfl, hl, hlen, hj, hq⟩ := h₂
  cases V₁
  obtain ⟨_, n, vs, ho, hvs⟩ := I₂.mu _ (lookup_mem hl)
  dsimp only at ho hvs
  have hsz := hvs.length
  rw [Array.length_toList] at hsz
  have hv' := (hv.mono T₂.le)
  have ho' := IsL.update ho (fun xs => xs.setIfInBounds j v)
  have hs : Heap.SameBut a s₂.heap (s₂.heap.update a (Obj.mapSeq fun xs => xs.setIfInBounds j v)) := Heap.SameBut.update ..
  have hve : Vs B₂ (vs.setIfInBounds j v).toList (ds.set j p) := by
    rw [Array.toList_setIfInBounds]
    exact hvs.set j hv'
  have fin := q m _ B₂ _ (T₂.trans (Trans.updMut (tk := s₂.toks) (lookup_mem hl) hs ho')) (I₂.updMut (tk := s₂.toks) (lookup_mem hl) hs ho' hve) hq
  rcases hj with ⟨rfl, hj⟩ | ⟨rfl, hj⟩
  · cases V₂
    refine ki_setAt ho (Int.natCast_nonneg _) (by lia) (by lia) ?_
    exact fin
  · cases V₂
    refine ki_setBack ho (by decide) (by lia) (by decide) ?_
    have : ((-1 : Int) + (vs.size : Int)).toNat = j := by lia
    rw [this]
    exact fin
end
end P279
end
section
open PySem PySem.W PyProof.Rows PySem.Spec PySem.Calls
namespace P279
section
variable {G : Cfg} {c : Act} {m : Loc} {μ : Mut} {B : BM} {s : Shared} {E : Cl → Loc → Mut → Prop} {Q : Fl → Loc → Mut → Prop}
theorem WX.useS {α β : Type} {rel : BM → α → β → Prop} {t : Sem α} {Qx : β → Mut → Prop} {μ₂ : Mut} {B₂ : BM} {s₂ : Shared} (h : WX G c rel t m μ₂ B₂ s₂ Qx (fun k μ => E k m μ)) (T : TransC c μ B s μ₂ B₂ s₂) {Qr : α → Shared → Prop} {Er : Value → Shared → Prop} (hp : PassesOwn G.M c.A c.env Er)
    (hE : ∀ k e m' μ' B' s₁ s', TransC c μ B s μ' B' s₁ → Inv G c m' μ' B' s₁ → s'.gens = s₁.gens → s'.os = s₁.os → s'.drawn = s₁.drawn → Raised c.fr (clV G k) e s₁.heap s'.heap → E k m' μ' → Er (.ref e) s')
    (hQ : ∀ a b μ' B' s', TransC c μ B s μ' B' s' → TransC c μ₂ B₂ s₂ μ' B' s' → Inv G c m μ' B' s' → rel B' a b → Qx b μ' → Qr a s') :
    wpAny G.M c.A t Qr Er s₂ :=
  WX.use h T hp (fun k e m' μ' B' s₁ s' T I g o d R x => hE k e m' μ' B' s₁ s' T I g o d R (x.1 ▸ x.2)) hQ
theorem WSs_nil (h : Q .next m μ) : WSs G c [] m μ Q E := fun B s I Qr Er hp q e => wpAny_execs_nil (q .next .next m μ B s (Trans.refl ..) I trivial h)
theorem WSs_cons {st : Stmt} {sts : List Stmt} (h : WS G c st m μ (fun f m' μ' => match f with | .next => WSs G c sts m' μ' Q E | f => Q f m' μ') E) : WSs G c (st :: sts) m μ Q E := by
  intro B s I Qr Er hp q e
  refine wpAny_execs_cons (h B s I _ Er hp (fun a f m' μ' B' s' T I' R x => ?_) e)
  cases a <;> cases f <;> first | exact R.elim | skip
  · exact WP.after T (x B' s' I') hp (fun a b m' μ' B' s' T _ I' R x => q a b m' μ' B' s' T I' R x) e
  · exact q _ .brk m' μ' B' s' T I' R x
  · exact q _ .cont m' μ' B' s' T I' R x
  · rename_i v d
    exact q _ (.ret d) m' μ' B' s' T I' R x
theorem WS_Assign {t value : Expr} {pos : Pos} (h : WE G c value m μ (fun d μ₁ => WA G c t d m μ₁ (fun m' μ' => Q .next m' μ') E) (fun k μ => E k m μ))
    (hs : swapsWithSole [t] value pos.line c.env = pure false := by rfl) (hw : swappedStores [t] value c.env = pure none := by rfl)
    (ht : (assignEach [t] c.env).map (·.2) = [assign t c.env] := by rfl) : WS G c (.Assign [t] value pos) m μ Q E := by
  intro B s I Qr Er hp q e
  refine wpAny_Assign_stores (WX.useS (h B s I) (Trans.refl ..) hp e fun v d μ₁ B₁ s₁ T₁ _ I₁ V₁ h₁ => ?_) hs hw
  rw [ht]
  exact WP.after T₁ (h₁ B₁ s₁ v I₁ V₁) hp (fun a b m' μ' B' s' T _ I' R x => q .next .next m' μ' B' s' T I' trivial x) e
theorem WS_AssignItem {o i value : Expr} {pos' pos : Pos} (h : WE G c value m μ (fun d μ₀ => ∃ p, d = .t p ∧
      WE G c o m μ₀ (fun d₁ μ₁ => WE G c i m μ₁ (fun d₂ μ₂ => ∃ a ds j, d₁ = .loc a ∧ μ₂.lookup a = some ds ∧ ds.length ≤ 1000000 ∧ (d₂ = .t (.int (j : Nat)) ∧ j < ds.length ∨ d₂ = .t (.int (-1)) ∧ j + 1 = ds.length) ∧ Q .next m (μ₂.upd a (ds.set j p))) (fun k μ => E k m μ)) (fun k μ => E k m μ)) (fun k μ => E k m μ))
    (hs : swapsWith value (some (.Subscript o i pos')) pos.line c.env = pure false := by rfl) : WS G c (.Assign [.Subscript o i pos'] value pos) m μ Q E := by
  intro B s I Qr Er hp q e
  refine wpAny_Assign_Subscript (WX.useS (h B s I) (Trans.refl ..) hp e fun v d μ₁ B₁ s₁ T₁ _ I₁ V₁ h₁ => ?_) hs
  obtain ⟨p, rfl, h₁⟩ := h₁
  exact WA_Item (Qm := fun m' μ' => Q .next m' μ') (E := E) h₁ B₁ s₁ v I₁ V₁ _ Er hp (fun m' μ' B' s' T I' x => q .next .next m' μ' B' s' (T₁.trans T) I' trivial x)
    fun k a m' μ' B' s₁ s' T I' g o d R x => e k a m' μ' B' s₁ s' (T₁.trans T) I' g o d R x
theorem WS_AugName {x : Str} {op : Operator} {value : Expr} {pos' pos : Pos} {d₀ : D} (hm : m.get x = some d₀)
    (hx : c.env.kindOf x = some .local)
    (h : WE G c value m μ (fun d μ₁ => S2 G c (inplaceOp op) d₀ d m μ₁ (fun r μ₂ => Q .next ((x, r) :: m) μ₂) (fun k μ => E k m μ)) (fun k μ => E k m μ)) : WS G c (.AugAssign (.Name x pos') op value pos) m μ Q E := by
  intro B s I Qr Er hp q e
  obtain ⟨mr, hn, hl⟩ := I.loc
  obtain ⟨v₀, hv₀, h'⟩ := hl x d₀ hm
  have hv' : mr x = some v₀ := by
    rcases h' with ⟨_, hv'⟩ | ⟨hk, _⟩
    · exact hv'
    · rw [hx] at hk; cases hk
  refine wpAny_AugAssign_Name (wpAny_loadName_local I.ok.kind hx hn hv' ?_)
  refine WX.useS (h B s I) (Trans.refl ..) hp e fun v d μ₁ B₁ s₁ T₁ _ I₁ V₁ h₁ => ?_
  refine WX.useS (h₁ B₁ s₁ v₀ v I₁ (hv₀.mono T₁.le) V₁) T₁ hp e fun r d' μ₂ B₂ s₂ T₂ _ I₂ V₂ h₂ => ?_
  exact WP.after T₂ (WStore (Qm := fun m' μ' => Q .next m' μ') (E := E) (.inl hx) I₂ V₂ h₂) hp (fun a b m' μ' B' s' T _ I' R x => q .next .next m' μ' B' s' T I' trivial x) e
theorem WS_If {t : Expr} {b o : List Stmt} {pos : Pos} (h : WB G c t m μ (fun v μ₁ => if v = true then WSs G c b m μ₁ Q E else WSs G c o m μ₁ Q E) (fun k μ => E k m μ)) : WS G c (.If t b o pos) m μ Q E := by
  intro B s I Qr Er hp q e
  refine wpAny_If (WX.useS (h B s I) (Trans.refl ..) hp e fun v b' μ₁ B₁ s₁ T₁ _ I₁ V₁ h₁ => ?_)
  cases V₁
  cases v
  · exact WP.after T₁ (h₁ B₁ s₁ I₁) hp (fun a b m' μ' B' s' T _ I' R x => q a b m' μ' B' s' T I' R x) e
  · exact WP.after T₁ (h₁ B₁ s₁ I₁) hp (fun a b m' μ' B' s' T _ I' R x => q a b m' μ' B' s' T I' R x) e
theorem WS_Return {x : Expr} {pos : Pos} (h : WE G c x m μ (fun d μ₁ => Q (.ret d) m μ₁) (fun k μ => E k m μ)) : WS G c (.Return (some x) pos) m μ Q E := by
  intro B s I Qr Er hp q e
  exact wpAny_Return_some (WX.useS (h B s I) (Trans.refl ..) hp e fun v d μ₁ B₁ s₁ T₁ _ I₁ V₁ h₁ => q (.ret v) (.ret d) m μ₁ B₁ s₁ T₁ I₁ V₁ h₁)
theorem WS_Break {pos : Pos} (h : Q .brk m μ) : WS G c (.Break pos) m μ Q E := fun B s I Qr Er hp q e => wpAny_Break (q .brk .brk m μ B s (Trans.refl ..) I trivial h)
theorem WS_Continue {pos : Pos} (h : Q .cont m μ) : WS G c (.Continue pos) m μ Q E := fun B s I Qr Er hp q e => wpAny_Continue (q .cont .cont m μ B s (Trans.refl ..) I trivial h)
theorem WS_Pass {pos : Pos} (h : Q .next m μ) : WS G c (.Pass pos) m μ Q E := fun B s I Qr Er hp q e => wpAny_Pass (q .next .next m μ B s (Trans.refl ..) I trivial h)
noncomputable def Mut.del (μ : Mut) (a : Addr) : Mut := μ.filter fun p => p.1 ≠ a
theorem WS_While {t : Expr} {b o : List Stmt} {pos : Pos} (J : Nat → Loc → Mut → Prop) (h0 : ∃ n, J n m μ)
    (turn : ∀ n m μ, J n m μ → WB G c t m μ (fun v μ₁ => if v = true then WSs G c b m μ₁ (fun f m' μ' => match f with | .next | .cont => ∃ n', n' < n ∧ J n' m' μ' | .brk => Q .next m' μ' | .ret d => Q (.ret d) m' μ') E else WSs G c o m μ₁ Q E) (fun k μ => E k m μ)) : WS G c (.While t b o pos) m μ Q E := by
  intro B s I Qr Er hp q e
  obtain ⟨n, h0⟩ := h0
  refine wpAny_While (codeAny_whileLoop (fun n s' => ∃ m' μ' B', TransC c μ B s μ' B' s' ∧ Inv G c m' μ' B' s' ∧ J n m' μ') (fun n s' hI => ?_) n ⟨m, μ, B, Trans.refl .., I, h0⟩)
  obtain ⟨m', μ', B', T, I', hJ⟩ := hI
  refine wpAny_passesOwn hp ?_
  refine WX.useS (turn n m' μ' hJ B' s' I') T hp e fun v b' μ₁ B₁ s₁ T₁ _ I₁ V₁ h₁ => ?_
  cases V₁
  cases v
  · refine wpAny_passesOwn hp ?_
    exact WP.after T₁ (h₁ B₁ s₁ I₁) hp (fun a b m' μ' B' s' T _ I' R x => q a b m' μ' B' s' T I' R x) e
  · refine wpAny_passesOwn hp ?_
    refine WP.after T₁ (h₁ B₁ s₁ I₁) hp (fun a f m' μ' B' s' T _ I' R x => ?_) e
    cases a <;> cases f <;> first | exact R.elim | skip
    · obtain ⟨n', hn, x⟩ := x; exact ⟨n', hn, m', μ', B', T, I', x⟩
    · exact q .next .next m' μ' B' s' T I' trivial x
    · obtain ⟨n', hn, x⟩ := x; exact ⟨n', hn, m', μ', B', T, I', x⟩
    · rename_i v d
      exact q _ (.ret d) m' μ' B' s' T I' R x
end
noncomputable def itItems : D → Option (List D)
  | .t (.list ds) => some (ds.map .t)
  | .t (.tuple ds) => some (ds.map .t)
  | .t (.str x) => some (x.cps.toList.map fun n => .t (.str (S [n])))
  | .rng lo hi => some ((List.range (hi - lo).toNat).map fun (k : Nat) => .t (.int (lo + k)))
  | _ => none
noncomputable def itOk : D → Prop
  | .rng lo hi => -(2 ^ 61) ≤ lo ∧ lo ≤ 2 ^ 61 ∧ -(2 ^ 61) ≤ hi ∧ hi ≤ 2 ^ 61
  | _ => True
noncomputable def ItSt (d : D) (v : Value) (i : Nat) (h : Heap) (a : Addr) : Prop := match d with
  | .t (.list _) => ∃ l, v = .ref l ∧ h.IsListIter a l i
  | .t (.tuple _) => ∃ l, v = .ref l ∧ h.IsTupleIter a l i
  | .t (.str _) => ∃ x t, v = .str x t ∧ h.IsStrIter a (if x.cps.all (· < 128) then "str_ascii_iterator" else "str_iterator") x t i
  | .rng lo hi => IsRangeIter h a (lo + i) (max (hi - lo) 0 - i) 1
  | _ => False
theorem ItSt.at {d : D} {v : Value} {i : Nat} {h h' : Heap} {a : Addr} (x : ItSt d v i h a) (k : ∀ o, h.get? a = some o → h'.get? a = some o) : ItSt d v i h' a := by
  cases d with
  | t d =>
    cases d <;> first
      | (obtain ⟨l, rfl, o, ho, r⟩ := x; exact ⟨l, rfl, o, k o ho, r⟩)
      | (obtain ⟨y, t, rfl, o, ho, r⟩ := x; exact ⟨y, t, rfl, o, k o ho, r⟩)
      | exact x.elim
  | rng lo hi => exact k _ x
  | _ => exact x.elim
theorem ItSt.some {d : D} {v : Value} {i : Nat} {h : Heap} {a : Addr} (x : ItSt d v i h a) : ∃ o, h.get? a = some o := by
  cases d with
  | t d =>
    cases d <;> first
      | (obtain ⟨l, rfl, o, ho, r⟩ := x; exact ⟨o, ho⟩)
      | (obtain ⟨y, t, rfl, o, ho, r⟩ := x; exact ⟨o, ho⟩)
      | exact x.elim
  | rng lo hi => exact ⟨_, x⟩
  | _ => exact x.elim
section
variable {G : Cfg} {c : Act} {fr : List Env} {m : Loc} {μ : Mut} {B : BM} {s : Shared} {A : Around} {E : Value → Shared → Prop}
theorem range_small {lo hi : Int} (h : itOk (.rng lo hi)) : Builtin.Range.small lo hi 1 = true := by
  obtain ⟨h1, h2, h3, h4⟩ := h
  have hr := rangeSize_one lo hi
  unfold Builtin.Range.small
  rw [hr]
  simp only [Builtin.Range.rangeFitsLong, Bool.and_eq_true, Bool.or_eq_true, decide_eq_true_eq, beq_iff_eq]
  split <;> simp <;> omega
theorem It_iter {d : D} {v : Value} {items : List D} (I : BInv G fr μ B s) (hv : VD G.C B v d) (hi : itItems d = some items) (ok : itOk d) {Q : Value → Shared → Prop}
    (h : ∀ a h', (∀ b o, s.heap.get? b = some o → h'.get? b = some o) → s.heap.get? a = none → ItSt d v 0 h' a → Q (.ref a) { s with heap := h' }) : wpAny G.M A (pyIter v) Q E s := by
  have hn : s.heap.get? s.heap.objs.size = none := Heap.get?_none_of_le (Nat.le_refl _)
  have k : ∀ o : Obj, ∀ b x, s.heap.get? b = some x → (s.heap.push o).get? b = some x := fun o b x e => Heap.get?_push_of_some _ e
  cases d with
  | t d =>
    cases d <;> first | (cases hi; done) | replace hi := Option.some.inj hi
    · rename_i x
      cases hv
      by_cases ha : x.cps.all (· < 128) = true
      · refine wpAny_pyIter_ascii ha (h _ _ (k _) hn ⟨x, _, rfl, ?_⟩)
        rw [if_pos ha]
        exact ⟨_, Heap.get?_push_size _ rfl, rfl, rfl⟩
      · refine wpAny_pyIter_wide (by simpa using ha) (h _ _ (k _) hn ⟨x, _, rfl, ?_⟩)
        rw [if_neg ha]
        exact ⟨_, Heap.get?_push_size _ rfl, rfl, rfl⟩
    · obtain ⟨a, vs, n, rfl, ha, hvs⟩ := V.list_inv hv
      exact wpAny_pyIter_list ⟨_, I.keep _ _ ha, rfl, n, rfl⟩ (h _ _ (k _) hn ⟨a, rfl, _, Heap.get?_push_size _ rfl, rfl, rfl⟩)
    · obtain ⟨a, vs, n, rfl, ha, hvs⟩ := V.tuple_inv hv
      exact wpAny_pyIter_tuple ⟨_, I.keep _ _ ha, rfl, n, rfl⟩ (h _ _ (k _) hn ⟨a, rfl, _, Heap.get?_push_size _ rfl, rfl, rfl⟩)
  | rng lo hi' =>
    obtain ⟨a, o, rfl, ha, t, u, w, rfl⟩ := hv
    refine wpAny_pyIter_range (I.keep _ _ ha) (range_small ok) (h _ _ (k _) hn ?_)
    have e : Builtin.Range.rangeSize lo hi' 1 = max (hi' - lo) 0 := by
      rw [rangeSize_one]
      split <;> lia
    show IsRangeIter _ _ (lo + ((0 : Nat) : Int)) (max (hi' - lo) 0 - ((0 : Nat) : Int)) 1
    rw [← e]
    simp only [Int.natCast_zero, Int.add_zero, Int.sub_zero]
    exact Heap.get?_push_size _ rfl
  | _ => cases hi
theorem It_next {d : D} {v : Value} {items : List D} {i : Nat} {a : Addr} (hA : A.handled = none) (I : BInv G fr μ B s) (hv : VD G.C B v d) (hi : itItems d = some items) (st : ItSt d v i s.heap a) (hle : i ≤ items.length) {Q : Option Value → Shared → Prop}
    (some_ : ∀ x, items[i]? = some x → ∀ w h' tk, VD G.C B w x → Heap.SameBut a s.heap h' → ItSt d v (i + 1) h' a → Q (some w) { s with heap := h', toks := tk })
    (none_ : i = items.length → ∀ h', Heap.ExtBut a s.heap h' → Q none { s with heap := h' }) : wpAny G.M A (pyNext (.ref a)) Q E s := by
  cases d with
  | t d =>
    cases d <;> first | (cases hi; done) | replace hi := Option.some.inj hi
    · rename_i x
      obtain ⟨x', t, rfl, st⟩ := st
      cases hv
      subst hi
      have hlen : x.cps.toList.length = x.cps.size := by simp
      rw [List.length_map] at hle
      by_cases ha : x.cps.all (· < 128) = true
      · rw [if_pos ha] at st
        rcases Nat.lt_or_ge i x.cps.toList.length with hlt | hge
        · have hx : x.cps[i]? = some x.cps.toList[i] := by rw [← Array.getElem?_toList]; exact List.getElem?_eq_getElem hlt
          refine wpAny_pyNext_ascii_item st hx fun h' hst hs => some_ (.t (.str (S [x.cps.toList[i]]))) (by rw [List.getElem?_map, List.getElem?_eq_getElem hlt]; rfl) _ _ _ (V.str (S [x.cps.toList[i]]) _) hs ⟨x, t, rfl, ?_⟩
          rw [if_pos ha]; exact hst
        · refine wpAny_pyNext_ascii_end hA st (by rw [Array.getElem?_eq_none]; omega) fun h' hs => none_ (by rw [List.length_map]; lia) h' hs
      · rw [if_neg ha] at st
        rcases Nat.lt_or_ge i x.cps.toList.length with hlt | hge
        · have hx : x.cps[i]? = some x.cps.toList[i] := by rw [← Array.getElem?_toList]; exact List.getElem?_eq_getElem hlt
          refine wpAny_pyNext_wide_item st hx fun h' hst hs => some_ (.t (.str (S [x.cps.toList[i]]))) (by rw [List.getElem?_map, List.getElem?_eq_getElem hlt]; rfl) _ _ _ (V.str (S [x.cps.toList[i]]) _) hs ⟨x, t, rfl, ?_⟩
          rw [if_neg ha]; exact hst
        · refine wpAny_pyNext_wide_end hA st (by rw [Array.getElem?_eq_none]; omega) fun h' hs => none_ (by rw [List.length_map]; lia) h' hs
    · obtain ⟨l, vs, n, rfl, hl, hvs⟩ := V.list_inv hv
      obtain ⟨l', e', st⟩ := st
      cases e'
      subst hi
      rw [List.length_map] at hle
      have hL : s.heap.IsList l vs := ⟨_, I.keep _ _ hl, rfl, n, rfl⟩
      have hlen := hvs.length
      rw [Array.length_toList] at hlen
      rcases Nat.lt_or_ge i vs.size with hlt | hge
      · obtain ⟨p, hp, hV⟩ := hvs.get' (k := i) (v := vs[i]) (by rw [Array.getElem?_toList]; exact Array.getElem?_eq_getElem hlt)
        exact wpAny_pyNext_list_item st hL (Array.getElem?_eq_getElem hlt) fun h' hst hs => some_ (.t p) (by rw [List.getElem?_map, hp]; rfl) _ _ s.toks hV hs ⟨l, rfl, hst⟩
      · exact wpAny_pyNext_list_end hA st hL (Array.getElem?_eq_none hge) fun h' hs => none_ (by rw [List.length_map]; lia) h' hs
    · obtain ⟨l, vs, n, rfl, hl, hvs⟩ := V.tuple_inv hv
      obtain ⟨l', e', st⟩ := st
      cases e'
      subst hi
      rw [List.length_map] at hle
      have hL : s.heap.IsTuple l vs := ⟨_, I.keep _ _ hl, rfl, n, rfl⟩
      have hlen := hvs.length
      rw [Array.length_toList] at hlen
      rcases Nat.lt_or_ge i vs.size with hlt | hge
      · obtain ⟨p, hp, hV⟩ := hvs.get' (k := i) (v := vs[i]) (by rw [Array.getElem?_toList]; exact Array.getElem?_eq_getElem hlt)
        exact wpAny_pyNext_tuple_item st hL (Array.getElem?_eq_getElem hlt) fun h' hst hs => some_ (.t p) (by rw [List.getElem?_map, hp]; rfl) _ _ s.toks hV hs ⟨l, rfl, hst⟩
      · exact wpAny_pyNext_tuple_end hA st hL (Array.getElem?_eq_none hge) fun h' hs => none_ (by rw [List.length_map]; lia) h' hs
  | rng lo hi' =>
    replace hi := Option.some.inj hi
    subst hi
    rw [List.length_map, List.length_range] at hle
    rcases Nat.lt_or_ge i (hi' - lo).toNat with hlt | hge
    · refine wpAny_pyNext_range_item st (by omega) fun h' hst hs => some_ (.t (.int (lo + i))) (by rw [List.getElem?_map, List.getElem?_range hlt]; rfl) _ _ _ (V.int _ _) hs ?_
      have e1 : lo + (i : Int) + 1 = lo + ((i + 1 : Nat) : Int) := by lia
      have e2 : max (hi' - lo) 0 - (i : Int) - 1 = max (hi' - lo) 0 - ((i + 1 : Nat) : Int) := by lia
      rw [e1, e2] at hst
      exact hst
    · exact wpAny_pyNext_range_end hA st (by omega) fun h' hs => none_ (by rw [List.length_map, List.length_range]; lia) h' hs
  | _ => exact st.elim
end
section
variable {G : Cfg} {c : Act} {m : Loc} {μ : Mut} {B : BM} {s : Shared} {E : Cl → Loc → Mut → Prop} {Q : Fl → Loc → Mut → Prop}
set_option backward.match.sparseCases true in
theorem letGo_ok {target : Expr} {a : Addr} {v w : Value} {d : D} {i : Nat} {Qu : Unit → Shared → Prop} {Er : Value → Shared → Prop} (st : ItSt d w i s.heap a) (h : Qu () s) : wpAny G.M c.A (letOwnedTupleGo target (.ref a) v) Qu Er s := by
  have key : ∀ o, s.heap.get? a = some o → (∃ n vs, o.cls = .type n ∧ o.data = .fields vs ∧ (["enumerate", "zip", "dict_itemiterator", "dict_reverseitemiterator", "odict_iterator", "itertools.zip_longest", "itertools.pairwise"].contains n) = false) →
      ∀ b : Addr, wpAny G.M c.A (do
        let o ← load a
        match o.cls, o.data with
        | .type n, .fields vs =>
          if (["enumerate", "zip", "dict_itemiterator", "dict_reverseitemiterator", "odict_iterator", "itertools.zip_longest", "itertools.pairwise"].contains n && vs[0]? == some (rawInt b)) = true then do
            rule "for.unpacks-the-owned-tuple"
            updateField a 0 .none
          else pure ()
        | _, _ => pure ()) Qu Er s := by
    rintro o ho ⟨n, vs, hc, hd, hn⟩ b
    refine wpAny_bind (wpAny_load ho ?_)
    rw [hc, hd]
    simp only [hn, Bool.false_and, Bool.false_eq_true, if_false]
    exact wpAny_pure h
  have obj : ∃ o, s.heap.get? a = some o ∧ ∃ n vs, o.cls = .type n ∧ o.data = .fields vs ∧ (["enumerate", "zip", "dict_itemiterator", "dict_reverseitemiterator", "odict_iterator", "itertools.zip_longest", "itertools.pairwise"].contains n) = false := by
    cases d with
    | t d =>
      cases d <;> first
        | (obtain ⟨l, rfl, o, ho, hc, hd⟩ := st; exact ⟨o, ho, _, _, hc, hd, by decide⟩)
        | (obtain ⟨y, t, rfl, o, ho, hc, hd⟩ := st; refine ⟨o, ho, _, _, hc, hd, ?_⟩; split <;> decide)
        | exact st.elim
    | rng lo hi => exact ⟨_, st, _, _, rfl, rfl, by decide⟩
    | _ => exact st.elim
  obtain ⟨o, ho, hk⟩ := obj
  cases target with
  | Tuple _ _ => cases v with
    | ref b => exact key o ho hk b
    | _ => exact wpAny_pure h
  | List _ _ => cases v with
    | ref b => exact key o ho hk b
    | _ => exact wpAny_pure h
  | _ => exact wpAny_pure h
theorem Trans.touch {own frA : List Addr} {μ' : Mut} {B' : BM} {s' : Shared} {h' : Heap} {tk : Nat} {a : Addr} (T : Trans own frA μ B s μ' B' s') (ha : s.heap.get? a = none) (k : ∀ b o, b ≠ a → s'.heap.get? b = some o → h'.get? b = some o) :
    Trans own frA μ B s μ' B' { s' with heap := h', toks := tk } where
  le := T.le
  newB := T.newB
  newM := T.newM
  keep := fun b o e hm ho => by
    have hb : b ≠ a := fun q => by rw [q, ha] at e; cases e
    obtain ⟨k1, sl, k2⟩ := T.keep b o e hm ho
    exact ⟨fun hf => k b o hb (k1 hf), sl, k b _ hb k2⟩
  live := fun b h => by
    have hb : b ≠ a := fun q => h (q ▸ ha)
    have := T.live b h
    cases q : s'.heap.get? b with
    | none => exact absurd q this
    | some o => show h'.get? b ≠ none; rw [k b o hb q]; exact nofun
  gens := T.gens
  os := T.os
  drawn := T.drawn
theorem Inv.touch {h' : Heap} {tk : Nat} {a : Addr} (I : Inv G c m μ B s) (hB : B a = none) (hm : a ∉ μ.map (·.1)) (hp : a ∉ c.priv) (k : ∀ b o, b ≠ a → s.heap.get? b = some o → h'.get? b = some o) :
    Inv G c m μ B { s with heap := h', toks := tk } := I.same fun b o e h => k b o (fun q => by
      rw [q] at h
      rcases h with h | h | h
      · exact h hB
      · exact hm h
      · exact hp h) e
theorem Inv.off (I : Inv G c m μ B s) {a : Addr} (ha : s.heap.get? a = none) : B a = none ∧ a ∉ μ.map (·.1) ∧ a ∉ c.priv := by
  refine ⟨I.noB ha, fun h => ?_, fun h => I.live a h ha⟩
  obtain ⟨p, hp, rfl⟩ := List.mem_map.mp h
  obtain ⟨_, n, vs, ho, _⟩ := I.mu p hp
  rw [ha] at ho; cases ho
theorem Trans.off {own frA : List Addr} {μ' : Mut} {B' : BM} {s' : Shared} (T : Trans own frA μ B s μ' B' s') {a : Addr} (hl : s.heap.get? a ≠ none) (hB : B a = none) (hm : a ∉ μ.map (·.1)) : B' a = none ∧ a ∉ μ'.map (·.1) := by
  refine ⟨?_, fun h => ?_⟩
  · cases q : B' a with
    | none => rfl
    | some o =>
      rcases T.newB a (by rw [q]; exact nofun) with h | h | h
      · exact absurd hB h
      · exact absurd h hm
      · exact absurd h hl
  · rcases T.newM a h with h | h
    · exact hm h
    · exact hl h
noncomputable def ForSpec (G : Cfg) (c : Act) (t : Expr) (b o : List Stmt) (items : List D) (m : Loc) (μ : Mut) (Q : Fl → Loc → Mut → Prop) (E : Cl → Loc → Mut → Prop) : Prop :=
  ∃ J : List D → Loc → Mut → Prop, J [] m μ ∧
    (∀ done x rest m' μ', items = done ++ x :: rest → J done m' μ' → WA G c t x m' μ' (fun m₂ μ₂ => WSs G c b m₂ μ₂ (fun f m₃ μ₃ => match f with | .next | .cont => J (done ++ [x]) m₃ μ₃ | .brk => Q .next m₃ μ₃ | .ret d => Q (.ret d) m₃ μ₃) E) E) ∧
    (∀ m' μ', J items m' μ' → WSs G c o m' μ' Q E)
theorem WS_For {t it : Expr} {b o : List Stmt} {pos : Pos}
    (h : WE G c it m μ (fun d μ₁ => ∃ items, itItems d = some items ∧ itOk d ∧ ForSpec G c t b o items m μ₁ Q E) (fun k μ => E k m μ))
    (hs : ∀ x, foldedSetIterable it c.env x = pure x := by intro _; rfl) : WS G c (.For t it b o pos) m μ Q E := by
  intro B s I Qr Er hp q e
  refine wpAny_For (WX.useS (h B s I) (Trans.refl ..) hp e fun v d μ₁ B₁ s₁ T₁ _ I₁ V₁ h₁ => ?_) hs
  obtain ⟨items, hi, ok, J, j0, turn, fin⟩ := h₁
  refine It_iter I₁.toBInv V₁ hi ok fun a h' hk ha st => ?_
  obtain ⟨aB, aM, aP⟩ := I₁.off ha
  have I₂ : Inv G c m μ₁ B₁ { s₁ with heap := h' } := I₁.ext (tk := s₁.toks) hk
  have U₂ : TransC c μ₁ B₁ s₁ μ₁ B₁ { s₁ with heap := h' } := Trans.ext (tk := s₁.toks) hk
  obtain ⟨FI, hFI⟩ : ∃ FI : Nat → Shared → Prop, FI = fun n s' => ∃ done rest m' μ' B', items = done ++ rest ∧ rest.length = n ∧ TransC c μ₁ B₁ s₁ μ' B' s' ∧ Inv G c m' μ' B' s' ∧ ItSt d v done.length s'.heap a ∧ J done m' μ' ∧ B' a = none ∧ a ∉ μ'.map (·.1) := ⟨_, rfl⟩
  refine codeAny_forLoop_any FI (fun n s' hI => ?_) items.length (by rw [hFI]; exact ⟨[], items, m, μ₁, B₁, rfl, rfl, U₂, I₂, st, j0, aB, aM⟩)
  rw [hFI] at hI
  obtain ⟨done, rest, m', μ', B', he, hn, U, I', st', hJ, bB, bM⟩ := hI
  refine wpAny_passesOwn hp ?_
  refine It_next I'.ok.handled I'.toBInv (V₁.mono U.le) hi st' (by rw [he, List.length_append]; lia) ?_ ?_
  · intro x hx w h₂ tk hV hsb st₂
    rw [he, List.getElem?_append_right (Nat.le_refl _), Nat.sub_self] at hx
    cases rest with
    | nil => cases hx
    | cons y rest =>
      simp only [List.getElem?_cons_zero, Option.some.injEq] at hx
      subst hx
      have k2 : ∀ b o, b ≠ a → s'.heap.get? b = some o → h₂.get? b = some o := fun b o hb e => (hsb.2 b hb).trans e
      have I₃ : Inv G c m' μ' B' { s' with heap := h₂, toks := tk } := I'.touch bB bM aP k2
      have U₃ : TransC c μ₁ B₁ s₁ μ' B' { s' with heap := h₂, toks := tk } := U.touch ha k2
      refine letGo_ok (d := d) (w := v) (i := done.length + 1) st₂ ?_
      refine wpAny_passesOwn hp ?_
      obtain ⟨oa, hoa⟩ := st₂.some
      have la : ({ s' with heap := h₂, toks := tk } : Shared).heap.get? a ≠ none := by
        show h₂.get? a ≠ none
        rw [hoa]; exact nofun
      refine WP.after (T₁.trans U₃) (turn done y rest m' μ' he hJ B' _ w I₃ hV) hp (fun _ _ m₄ μ₄ B₄ s₄ T₄ U₄ I₄ _ h₄ => ?_) e
      refine wpAny_passesOwn hp ?_
      have off4 := U₄.off la bB bM
      have keep4 := (U₄.keep a _ hoa bM (fun z => aP (List.mem_append_left _ z))).1 (fun z => aP (List.mem_append_right _ (List.mem_append_left _ z)))
      refine WP.after T₄ (h₄ B₄ s₄ I₄) hp (fun r f m₅ μ₅ B₅ s₅ T₅ U₅ I₅ R x => ?_) e
      have V₅ : TransC c μ₁ B₁ s₁ μ₅ B₅ s₅ := U₃.trans (U₄.trans U₅)
      have off5 := U₅.off (by rw [keep4]; exact nofun) off4.1 off4.2
      have keep5 := (U₅.keep a _ keep4 off4.2 (fun z => aP (List.mem_append_left _ z))).1 (fun z => aP (List.mem_append_right _ (List.mem_append_left _ z)))
      have st5 : ItSt d v (done ++ [y]).length s₅.heap a := by
        rw [List.length_append]
        refine st₂.at fun o ho => ?_
        rw [hoa] at ho
        cases ho
        exact keep5
      have next : J (done ++ [y]) m₅ μ₅ → ∃ n', n' < n ∧ FI n' s₅ := fun hj =>
        ⟨rest.length, by rw [← hn, List.length_cons]; exact Nat.lt_succ_self _, by rw [hFI]; exact ⟨done ++ [y], rest, m₅, μ₅, B₅, by rw [he, List.append_assoc]; rfl, rfl, V₅, I₅, st5, hj, off5.1, off5.2⟩⟩
      cases r <;> cases f <;> first | exact R.elim | skip
      · exact next x
      · exact q .next .next m₅ μ₅ B₅ s₅ T₅ I₅ trivial x
      · exact next x
      · rename_i v' d'
        exact q _ (.ret d') m₅ μ₅ B₅ s₅ T₅ I₅ R x
  · intro hend h₂ hsb
    have hr : rest = [] := by
      rw [he, List.length_append] at hend
      exact List.eq_nil_of_length_eq_zero (by lia)
    subst hr
    rw [List.append_nil] at he
    subst he
    have k2 : ∀ b o, b ≠ a → s'.heap.get? b = some o → h₂.get? b = some o := fun b o hb e => hsb b o hb e
    have I₃ : Inv G c m' μ' B' { s' with heap := h₂ } := I'.touch (tk := s'.toks) bB bM aP k2
    have U₃ : TransC c μ₁ B₁ s₁ μ' B' { s' with heap := h₂ } := U.touch (tk := s'.toks) ha k2
    refine wpAny_passesOwn hp ?_
    exact WP.after (T₁.trans U₃) (fin m' μ' hJ B' _ I₃) hp (fun a b m' μ' B' s' T _ I' R x => q a b m' μ' B' s' T I' R x) e
end
end P279
end
section
open PySem PySem.W PyProof.Rows PySem.Spec PySem.Calls
namespace P279
noncomputable def CallOK (G : Cfg) (f : Addr) (args : List D) (μ : Mut) (n : Nat) (Q : D → Mut → Prop) (E : Cl → Mut → Prop) : Prop :=
  ∀ (A : Around) (fr : List Env) (B : BM) (s : Shared) (vals : List Value) (R : Result → Shared → Prop),
    Room A n → A.frames = some fr → A.handled = none → BInv G fr μ B s → (∀ a ∈ frs fr, a ∉ μ.map (·.1)) → VDs G.C B vals args →
    (∀ v d μ' B' s', Trans [] (frs fr) μ B s μ' B' s' → BInv G fr μ' B' s' → VD G.C B' v d → Q d μ' → R (.ok (.ret v)) s') →
    (∀ k e μ' B' s₁ s', Trans [] (frs fr) μ B s μ' B' s₁ → BInv G fr μ' B' s₁ → s'.gens = s₁.gens → s'.os = s₁.os → s'.drawn = s₁.drawn → Raised fr (clV G k) e s₁.heap s'.heap → E k μ' → R (.error (.ref e)) s') →
    codeAny G.M A (.call (.ref f) ⟨vals, []⟩) R s
theorem CallOK.mono {G : Cfg} {f : Addr} {args : List D} {μ : Mut} {n n' : Nat} {Q Q' : D → Mut → Prop} {E E' : Cl → Mut → Prop} (h : CallOK G f args μ n Q E) (hn : n ≤ n') (hQ : ∀ d μ, Q d μ → Q' d μ) (hE : ∀ k μ, E k μ → E' k μ) : CallOK G f args μ n' Q' E' :=
  fun A fr B s vals R hr hf hh I hfm hv q e => h A fr B s vals R ⟨by have := hr.1; lia, by have := hr.2; lia⟩ hf hh I hfm hv (fun v d μ' B' s' T I R x => q v d μ' B' s' T I R (hQ _ _ x)) fun k a μ' B' s₁ s' T I g o d R x => e k a μ' B' s₁ s' T I g o d R (hE _ _ x)
section
variable {G : Cfg} {c : Act} {fr : List Env} {m : Loc} {μ μc μr μ' : Mut} {B B' : BM} {s s' : Shared}
theorem BInv.sub (I : BInv G fr μ B s) (hs : ∀ p ∈ μ', p ∈ μ) (hn : (μ'.map (·.1)).Nodup) : BInv G fr μ' B s := ⟨I.gf, I.base, I.keep, I.frB, fun p hp => I.mu p (hs p hp), hn, I.fun_⟩
theorem mem_dom {μ : Mut} {a : Addr} (h : a ∈ μ.map (·.1)) : ∃ ds, (a, ds) ∈ μ := by
  obtain ⟨p, hp, rfl⟩ := List.mem_map.mp h
  exact ⟨p.2, hp⟩
theorem BInv.liveM (I : BInv G fr μ B s) {a : Addr} (h : a ∈ μ.map (·.1)) : s.heap.get? a ≠ none := by
  obtain ⟨ds, hm⟩ := mem_dom h
  obtain ⟨_, n, vs, ho, _⟩ := I.mu _ hm
  dsimp only at ho
  rw [ho]; exact nofun
theorem Inv.back (I : Inv G c m (μc ++ μr) B s) (T : Trans [] (frs c.fr) μc B s μ' B' s') (J : BInv G c.fr μ' B' s') : Inv G c m (μ' ++ μr) B' s' ∧ TransC c (μc ++ μr) B s (μ' ++ μr) B' s' := by
  have nd := I.nd
  rw [List.map_append] at nd
  obtain ⟨n1, n2, n3⟩ := List.nodup_append.mp nd
  have notc : ∀ a ∈ μr.map (·.1), a ∉ μc.map (·.1) := fun a ha hc => n3 a hc a ha rfl
  have kr : ∀ a o, a ∈ c.priv ∨ a ∈ μr.map (·.1) → s.heap.get? a = some o → ∃ sl, s'.heap.get? a = some { o with slots := sl } := fun a o h e => by
    refine (T.keep a o e (fun hc => ?_) (by simp)).2
    rcases h with h | h
    · exact I.privM a h (by rw [List.map_append]; exact List.mem_append_left _ hc)
    · exact notc a h hc
  have nB : ∀ a, a ∈ c.priv ∨ a ∈ μr.map (·.1) → B' a = none := fun a h => by
    cases q : B' a with
    | none => rfl
    | some o =>
      exfalso
      rcases T.newB a (by rw [q]; exact nofun) with z | z | z
      · rcases h with h | h
        · exact z (I.privB a h)
        · obtain ⟨ds, hm⟩ := mem_dom h
          exact z (I.mu _ (List.mem_append_right _ hm)).1
      · rcases h with h | h
        · exact I.privM a h (by rw [List.map_append]; exact List.mem_append_left _ z)
        · exact notc a h z
      · rcases h with h | h
        · exact I.live a h z
        · exact I.liveM (by rw [List.map_append]; exact List.mem_append_right _ h) z
  have nM : ∀ a, a ∈ c.priv ∨ a ∈ μr.map (·.1) → a ∉ μ'.map (·.1) := fun a h z => by
    rcases T.newM a z with z | z
    · rcases h with h | h
      · exact I.privM a h (by rw [List.map_append]; exact List.mem_append_left _ z)
      · exact notc a h z
    · rcases h with h | h
      · exact I.live a h z
      · exact I.liveM (by rw [List.map_append]; exact List.mem_append_right _ h) z
  have key : Inv G c m (μ' ++ μr) B' s' := by
    refine ⟨⟨J.gf, J.base, J.keep, J.frB, fun p hp => ?_, ?_, J.fun_⟩, I.ok, ?_, fun a ha => T.live a (I.live a ha), fun a ha => nB a (.inl ha), fun a ha hm => ?_, fun p hp => ?_⟩
    · rcases List.mem_append.mp hp with hp | hp
      · exact J.mu p hp
      · obtain ⟨h1, n, vs, h2, h3⟩ := I.mu p (List.mem_append_right _ hp)
        have hd := List.mem_map_of_mem (f := (·.1)) hp
        refine ⟨nB _ (.inr hd), n, vs, ?_, h3.mono T.le⟩
        have k := T.keep _ _ h2 (notc _ hd) (by simp)
        exact k.1 fun hf => I.privM p.1 (List.mem_append_right _ (List.mem_append_left _ hf)) (by rw [List.map_append]; exact List.mem_append_right _ hd)
    · rw [List.map_append]
      exact List.nodup_append.mpr ⟨J.nd, n2, fun a ha b hb hab => nM b (.inr hb) (hab ▸ ha)⟩
    · obtain ⟨mr, hn, hl⟩ := I.loc
      refine ⟨mr, ?_, fun x d e => ?_⟩
      · obtain ⟨o, es, ep, ho, hd, r⟩ := hn
        obtain ⟨sl, h⟩ := kr _ _ (.inl (List.mem_append_left _ I.ok.ownL)) ho
        exact ⟨_, es, ep, h, hd, r⟩
      · obtain ⟨v, hv, h⟩ := hl x d e
        refine ⟨v, hv.mono T.le, h.imp id fun ⟨hk, ca, hc, o, ho, hd⟩ => ⟨hk, ca, hc, ?_⟩⟩
        obtain ⟨sl, h⟩ := kr _ _ (.inl (List.mem_append_right _ (List.mem_append_right _ (lookup_snd hc)))) ho
        exact ⟨_, h, hd⟩
    · rw [List.map_append] at hm
      rcases List.mem_append.mp hm with hm | hm
      · exact nM a (.inl ha) hm
      · exact I.privM a ha (by rw [List.map_append]; exact List.mem_append_right _ hm)
    · obtain ⟨v, o, ho, hd⟩ := I.cellOk p hp
      obtain ⟨sl, h⟩ := kr _ _ (.inl (List.mem_append_right _ (List.mem_append_right _ (List.mem_map_of_mem hp)))) ho
      exact ⟨v, _, h, hd⟩
  refine ⟨key, T.le, fun a h => ?_, fun a h => ?_, fun b o e hm ho => T.keep b o e (fun hc => hm (by rw [List.map_append]; exact List.mem_append_left _ hc)) (by simp), T.live, T.gens, T.os, T.drawn⟩
  · rcases T.newB a h with h | h | h
    · exact .inl h
    · exact .inr (.inl (by rw [List.map_append]; exact List.mem_append_left _ h))
    · exact .inr (.inr h)
  · rw [List.map_append] at h ⊢
    rcases List.mem_append.mp h with h | h
    · exact (T.newM a h).imp (fun h => List.mem_append_left _ h) id
    · exact .inl (List.mem_append_right _ h)
theorem Inv.perm {μ₂ : Mut} (I : Inv G c m μ B s) (h : μ.Perm μ₂) : Inv G c m μ₂ B s :=
  { I with mu := fun p hp => I.mu p (h.mem_iff.mpr hp), nd := (h.map _).nodup_iff.mp I.nd, privM := fun a ha hm => I.privM a ha ((h.map _).mem_iff.mpr hm) }
theorem Trans.perm {own frA : List Addr} {μ₂ : Mut} (T : Trans own frA μ₂ B s μ' B' s') (h : μ.Perm μ₂) : Trans own frA μ B s μ' B' s' :=
  ⟨T.le, fun a x => (T.newB a x).imp id fun z => z.imp (fun z => (h.map _).mem_iff.mpr z) id, fun a x => (T.newM a x).imp (fun z => (h.map _).mem_iff.mpr z) id,
    fun b o e hm ho => T.keep b o e (fun z => hm ((h.map _).mem_iff.mpr z)) ho, T.live, T.gens, T.os, T.drawn⟩
theorem SL_call {f : Addr} {ds : List D} {n : Nat} {Q : D → Mut → Prop} {E : Cl → Mut → Prop} (hp : μ.Perm (μc ++ μr)) (hr : Room c.A n) (h : CallOK G f ds μc n (fun d μ' => Q d (μ' ++ μr)) (fun k μ' => E k (μ' ++ μr))) : SL G c (fun vs => call (.ref f) vs) ds m μ Q E := by
  intro B s vs I hv Qr Er hpo q e
  have I₀ := I.perm hp
  refine wpAny_call (h c.A c.fr B s vs _ hr I.ok.frames I.ok.handled (I₀.toBInv.sub (fun p hp => List.mem_append_left _ hp) ?_) (fun a ha hm => I₀.privM a (List.mem_append_right _ (List.mem_append_left _ ha)) (by rw [List.map_append]; exact List.mem_append_left _ hm)) hv ?_ ?_)
  · have := I₀.nd
    rw [List.map_append] at this
    exact (List.nodup_append.mp this).1
  · intro v d μ' B' s' T J V x
    obtain ⟨I', T'⟩ := I₀.back T J
    exact q v d m _ B' s' (T'.perm hp) I' V ⟨rfl, x⟩
  · intro k a μ' B' s₁ s' T J g o d R x
    obtain ⟨I', T'⟩ := I₀.back T J
    exact e k a m _ B' s₁ s' (T'.perm hp) I' g o d R ⟨rfl, x⟩
theorem WE_Call {x : Str} {np pos : Pos} {es : List Expr} {f : Addr} {Q : D → Mut → Prop} {E : Cl → Mut → Prop} (hx : c.env.kindOf x = some .globalImplicit) (g : nsIn G.K mainGlobals x = some (some (.ref f))) (kp : keepIn G.K (.ref f) = true)
    (h : WEs G c pos es m μ (fun ds μ₁ => SL G c (fun vs => call (.ref f) vs) ds m μ₁ Q E) E)
    (he : ∀ x r, es = x :: r → starEach (x :: r) c.env = (false, eval x c.env) :: starEach r c.env := by intro _ _ h; cases h; rfl)
    (hp : (backTo pos (starEach es c.env)).any (·.1) = false := by rfl) (hd : (x == ("__debug__" : Str)) = false := by decide) : WE G c (.Call (.Name x np) es [] pos) m μ Q E := by
  intro B s I Qr Er hpo q e
  refine wpAny_Call_ofName ?_
  refine Name_function_global I.ok.kind hx (loadGlobal_global (I.ok.globals ▸ I.ns) (mg_of I.gf.kin I.gf.g g) ?_) hd
  refine callWith_of (P := fun h => G.K.In h) (by rw [hp]; rfl) (keeps_K kp) ?_
  refine WX.use (evalArgs_go h he I) (Trans.refl ..) hpo e fun a ds μ' B' s' T _ I' R x => ?_
  obtain ⟨hk, hv⟩ := R
  refine ⟨I'.kin, ?_⟩
  rw [hk]
  exact WX.use (x B' s' _ I' hv) T hpo e fun a b μ' B' s' T _ I' R x => q a b m μ' B' s' T I' R ⟨rfl, x⟩
end
end P279
end
section
open PySem PySem.W PyProof.Rows PySem.Spec PySem.Calls
namespace P279
theorem funFrames_base {h b b' : Heap} {l : List Env} (k : ∀ a ∈ frs l, b'.get? a = none) (H : h.FunFrames b l) : h.FunFrames b' l := by
  induction l with
  | nil => trivial
  | cons env rest ih => exact ⟨H.1, H.2.1.elim fun L q => q.elim fun o q => ⟨L, o, q.1, k L (frs_head q.1), q.2.2⟩, ih (fun M hM => k M (frs_tail hM)) H.2.2⟩
theorem frs_cons {env : Env} {L : Addr} {fr : List Env} (h : env.frame = some L) : frs (env :: fr) = L :: frs fr := by simp [frs, h]
section
variable {G : Cfg} {c : Act} {fr : List Env} {env : Env} {L : Addr} {m : Loc} {μ μ' : Mut} {B B' : BM} {s s' s₁ : Shared}
theorem BInv.pop (I : BInv G (env :: fr) μ B s) : BInv G fr μ B s :=
  ⟨I.gf, I.base, I.keep, fun a ha => I.frB a (by
    cases q : env.frame with
    | none => simpa [frs, q] using ha
    | some L => rw [frs_cons q]; exact List.mem_cons_of_mem _ ha), I.mu, I.nd, I.fun_.2.2⟩
theorem BInv.hide (I : BInv G fr μ B s) (hB : B L = none) (hM : L ∉ μ.map (·.1)) (hF : L ∉ frs fr) : BInv G fr μ B { s with heap := s.heap.hide L } :=
  I.same (tk := s.toks) fun a o e h => (Heap.hide_ne _ (by
    rintro rfl
    rcases h with h | h | h
    · exact h hB
    · exact hM h
    · exact hF h)).trans e
theorem Trans.out {h₁ : Heap} {tk : Nat} (k : ∀ b o, s.heap.get? b = some o → h₁.get? b = some o) (hL : s.heap.get? L = none) (hf : env.frame = some L)
    (T : Trans [L] (frs (env :: fr)) μ B { s with heap := h₁, toks := tk } μ' B' s') : Trans [] (frs fr) μ B s μ' B' s' := by
  have nk : ∀ a, h₁.get? a = none → s.heap.get? a = none := fun a e => by
    cases q : s.heap.get? a with
    | none => rfl
    | some o => rw [k a o q] at e; cases e
  have ne : ∀ b o, s.heap.get? b = some o → b ≠ L := by rintro b o e rfl; rw [hL] at e; cases e
  refine ⟨T.le, fun a h => (T.newB a h).imp id fun z => z.imp id (nk a), fun a h => (T.newM a h).imp id (nk a), fun b o e hm _ => ?_, fun b h => ?_, T.gens, T.os, T.drawn⟩
  · have x := T.keep b o (k b o e) hm (by simpa using ne b o e)
    refine ⟨fun hf' => x.1 ?_, x.2⟩
    rw [frs_cons hf]
    simp only [List.mem_cons, not_or]
    exact ⟨ne b o e, hf'⟩
  · cases q : s.heap.get? b with
    | none => exact absurd q h
    | some o => exact T.live b (by show h₁.get? b ≠ none; rw [k b o q]; exact nofun)
theorem Trans.hide {fa : List Addr} (T : Trans [] fa μ B s μ' B' s₁) (hL : s.heap.get? L = none) : Trans [] fa μ B s μ' B' { s₁ with heap := s₁.heap.hide L } := by
  have ne : ∀ b o, s.heap.get? b = some o → b ≠ L := by rintro b o e rfl; rw [hL] at e; cases e
  refine ⟨T.le, T.newB, T.newM, fun b o e hm ho => ?_, fun b h => ?_, T.gens, T.os, T.drawn⟩
  · have x := T.keep b o e hm ho
    exact ⟨fun hf => (Heap.hide_ne _ (ne b o e)).trans (x.1 hf), let ⟨sl, h⟩ := x.2; ⟨sl, (Heap.hide_ne _ (ne b o e)).trans h⟩⟩
  · cases q : s.heap.get? b with
    | none => exact absurd q h
    | some o =>
      show (s₁.heap.hide L).get? b ≠ none
      rw [Heap.hide_ne _ (ne b o q)]
      exact T.live b h
theorem Raised.leave {A : Around} {cls : Value} {e : Addr} {E : Value → Shared → Prop} {Q : Unit → Shared → Prop} (hfr : A.frames = some (env :: fr)) (hf : env.frame = some L) (hfun : s₁.heap.FunFrames emptyHeap (env :: fr)) (h : Raised (env :: fr) cls e s₁.heap s'.heap)
    (hQ : ∀ h', Raised fr cls e (s₁.heap.hide L) h' → Q () { s' with heap := h' }) : wpAny G.M A (leaving env (.ref e)) Q E s' := by
  rcases h with ⟨k, hn, oe, vs, a0, he, rfl, hd, h0, h1⟩ | ⟨a0, hfl, hup⟩ | ⟨a0, _, _, L', rfl', hf', hh, hup⟩
  · have st : (hideAll s₁.heap (frs (env :: fr))).StaysIn s'.heap := fun b o e => k b o (of_hideAll _ e)
    have hen : (hideAll s₁.heap (frs (env :: fr))).get? e = none := by
      cases q : (hideAll s₁.heap (frs (env :: fr))).get? e with
      | none => rfl
      | some o => have := of_hideAll _ q; rw [hn] at this; cases this
    have fl : s'.heap.FunFrames (hideAll s₁.heap (frs (env :: fr))) (env :: fr) := funFrames_base (fun a ha => hideAll_none _ ha) (funFrames_keep (fun b o e h => ⟨o, k b o e, h⟩) hfun)
    refine wpAny_leaving_firstW hfr fl hf he st hen hd h1 h0 fun h' ⟨x1, x2, x3, x4⟩ => hQ h' (.inr (.inl ⟨a0, ?_, fun b o e hnf => x4 b o (k b o (Heap.of_hide e)) hnf⟩))
    rw [frs_cons hf] at x1 x2 x3 hen
    exact ⟨x1, hen, x2.2.2, x3⟩
  · refine wpAny_leaves_onW hfr hf hfl fun h' hfl' hup' => hQ h' (.inr (.inl ⟨a0, ?_, fun b o e hnf => ?_⟩))
    · rw [frs_cons hf] at hfl'
      exact hfl'
    · obtain ⟨sl, h1⟩ := hup b o (Heap.of_hide e) hnf
      obtain ⟨sl', h2⟩ := hup' b _ h1 hnf
      exact ⟨sl', h2⟩
  · cases rfl'
    rw [hf] at hf'; cases hf'
    unfold leaving
    refine wpAny_bind (wpAny_noteFrame_againW hf hh.2.2.2 ?_)
    refine wpAny_landsW hh fun h' hfl hup' => hQ h' (.inr (.inl ⟨a0, ?_, fun b o e hnf => ?_⟩))
    · obtain ⟨k1, k2, ⟨_, _, k3⟩, k4⟩ := hfl
      rw [frs_cons hf] at k1 k2 k3 k4
      exact ⟨k1, k2, k3, k4⟩
    · obtain ⟨sl, h1⟩ := hup b o (Heap.of_hide e) hnf
      obtain ⟨sl', h2⟩ := hup' b _ h1 hnf
      exact ⟨sl', h2⟩
end
section
variable {G : Cfg} {μ : Mut} {name qual : Str} {params : Arguments} {body : List Stmt} {scope : Scope} {dV kV doc pm cdv ct oc : Value} {an od : Option Addr} {osl : Array (Option Value)} {f : Addr}
theorem revLookup {x : Str} {v : Value} {l : List (Str × Value)} (hn : (l.map (·.1)).Nodup) (h : (x, v) ∈ l) : l.lookup x = some v := by
  induction l with
  | nil => cases h
  | cons z μ ih =>
    rw [List.map_cons, List.nodup_cons] at hn
    rcases List.mem_cons.mp h with h | hm
    · rw [← h]; exact List.lookup_cons_self
    · have : x ≠ z.1 := fun e => hn.1 (e ▸ List.mem_map_of_mem (f := (·.1)) hm)
      rw [← ih hn.2 hm]
      show (match x == z.1 with | true => some z.2 | false => μ.lookup x) = _
      rw [beq_false_of_ne this]
theorem Loc.get_mem {x : Str} {d : D} {m : Loc} (h : m.get x = some d) : (x, d) ∈ m := by
  induction m with
  | nil => cases h
  | cons z r ih =>
    have h : (if x = z.1 then some z.2 else Loc.get r x) = some d := h
    by_cases q : x = z.1
    · rw [if_pos q] at h; cases h; rw [q]; exact .head _
    · rw [if_neg q] at h; exact .tail _ (ih h)
theorem zip_mem {C : Addr} {B : BM} {x : Str} {d : D} {ns : List Str} {ds : List D} {vs : List Value} (H : VDs C B vs ds) (h : (x, d) ∈ ns.zip ds) : ∃ v, (x, v) ∈ ns.zip vs ∧ VD C B v d := by
  induction H generalizing ns with
  | nil => rw [List.zip_nil_right] at h; cases h
  | cons hv hr ih =>
    cases ns with
    | nil => cases h
    | cons n ns =>
      rw [List.zip_cons_cons] at h ⊢
      rcases List.mem_cons.mp h with h | h
      · cases h; exact ⟨_, .head _, hv⟩
      · exact (ih h).elim fun w q => ⟨w, .tail _ q.1, q.2⟩
theorem map_zip_fst {α β : Type} : ∀ {ns : List α} {vs : List β}, vs.length = ns.length → (ns.zip vs).map (·.1) = ns
  | [], _, _ => by simp
  | n :: ns, [], h => by cases h
  | n :: ns, v :: vs, h => by simp only [List.zip_cons_cons, List.map_cons]; rw [map_zip_fst (by simpa using h)]
noncomputable abbrev actOf (A : Around) (fr : List Env) (qual : Str) (scope : Scope) (L f : Addr) (cdv : Value) : Act :=
  ⟨A.deeper (envOf qual scope L f cdv), envOf qual scope L f cdv, envOf qual scope L f cdv :: fr, [L]⟩
noncomputable def flRet : Fl → D
  | .ret d => d
  | _ => .t .none
theorem CallOK.of_body {ds : List D} {n : Nat} {Q : D → Mut → Prop} {E : Cl → Mut → Prop} (names : List Str)
    (ho : G.K.lookup f = some ⟨oc, od, .func (fnOf name qual params body scope dV kV doc pm an cdv ct), osl⟩) (hcd : codeIn G.K cdv qual = true)
    (hbind : ∀ vals : List Value, vals.length = names.length → bindArgs (fnOf name qual params body scope dV kV doc pm an cdv ct) ⟨vals, []⟩ = pure (names.zip vals))
    (hlen : ds.length = names.length) (hnd : names.Nodup) (hloc : ∀ x ∈ names, scope.names.lookup x = some .local) (hcell : ∀ x ∈ scope.names, x.2 ≠ .cell)
    (h : ∀ A fr L, Room (actOf A fr qual scope L f cdv).A n → WSs G (actOf A fr qual scope L f cdv) body (names.zip ds) μ (fun fl _ μ' => Q (flRet fl) μ') (fun k _ μ' => E k μ'))
    (hco : scope.isCoroutine = false := by rfl) (hgen : scope.isGenerator = false := by rfl) (hk : scope.kind = .function := by rfl) : CallOK G f ds μ (n + 1) Q E := by
  intro A fr B s vals R hr hfr hh I hfm hv q e
  have hlv : vals.length = names.length := hv.length.trans hlen
  have hm : ((names.zip vals).map (·.1)) = names := map_zip_fst hlv
  refine codeAny_call_def (fd := fnOf name qual params body scope dV kV doc pm an cdv ct) (body := body) (binds := names.zip vals) ?_ ((I.gf.kin.keeps (fun b o e => I.keep b o (I.base b o e))) _ _ ho) rfl (I.gf.lim.keeps (fun b o e => I.keep b o (I.base b o e))) (codeRec_of (I.gf.kin.keeps (fun b o e => I.keep b o (I.base b o e))) hcd) rfl (.of_eq (hbind vals hlv)) hcell (fun x hx => hloc _ ?_) (fun h₁ hns hk₁ => ?_) hco hgen hk
  · have := hr.1; unfold recursionLimit; lia
  · rw [← hm]; exact List.mem_map_of_mem hx
  show wpAny G.M (A.deeper (envOf qual scope s.heap.objs.size f cdv)) (execs body (envOf qual scope s.heap.objs.size f cdv)) _ _ _
  generalize hL : s.heap.objs.size = L at hns
  have hfresh : s.heap.get? L = none := by rw [← hL]; exact Heap.StaysIn.fresh (base := s.heap) (h := s.heap) fun b o e => e
  obtain ⟨oL, es, ep, hLo, hLd, hLl, hLr⟩ := id hns
  have fund : ∀ a ∈ frs fr, ∃ o, s.heap.get? a = some o := fun a ha => let ⟨o, h, _⟩ := FunFrames.live I.fun_ ha; ⟨o, h⟩
  have hLfr : L ∉ frs fr := fun hm => by obtain ⟨o, ho⟩ := fund L hm; rw [hfresh] at ho; cases ho
  have Irm : BInv G fr μ B { s with heap := h₁, toks := s.toks + (names.zip vals).length } := I.ext hk₁
  have I₀ : Inv G (actOf A fr qual scope L f cdv) (names.zip ds) μ B { s with heap := h₁, toks := s.toks + (names.zip vals).length } := by
    refine ⟨⟨Irm.gf, Irm.base, Irm.keep, fun a ha => ?_, Irm.mu, Irm.nd, ⟨by show scope.kind ≠ .module; rw [hk]; decide, ⟨L, oL, rfl, emptyHeap_get L, hLo, by rw [hLd]; exact nofun⟩, Irm.fun_⟩⟩,
      ⟨?_, hh, hk, rfl, rfl, ⟨_, _, L, rfl, rfl, rfl⟩, ?_, List.Mem.head _, fun x y a hx => nomatch hx⟩, ⟨_, hns, fun x d hx => ?_⟩, fun a ha => ?_, fun a ha => ?_, fun a ha => ?_, fun p hp => nomatch hp⟩
    · rw [frs_cons (L := L) rfl] at ha
      rcases List.mem_cons.mp ha with rfl | ha
      · exact I.noB hfresh
      · exact I.frB a ha
    · show A.frames.map _ = _; rw [hfr]; rfl
    · refine ⟨?_, ?_⟩
      · have := hr.1; show A.depth + 1 + _ + _ ≤ _; lia
      · have := hr.2; show A.units + 3 + _ + _ ≤ _; lia
    · obtain ⟨v, hz, hvd⟩ := zip_mem hv (Loc.get_mem hx)
      refine ⟨v, hvd, .inl ⟨hloc x (by rw [← hm]; exact List.mem_map_of_mem (f := (·.1)) hz), ?_⟩⟩
      refine revLookup ?_ (List.mem_reverse.mpr hz)
      rw [List.map_reverse, hm]
      exact (List.reverse_perm _).nodup_iff.mpr hnd
    all_goals
      have ha1 : a ∈ [L] ++ ((L :: frs fr) ++ ([] : List Addr)) := ha
      have ha' : a = L ∨ a ∈ frs fr := by simpa using ha1
    · rcases ha' with rfl | ha'
      · show h₁.get? _ ≠ none; rw [hLo]; exact nofun
      · obtain ⟨o, ho⟩ := fund a ha'; show h₁.get? _ ≠ none; rw [hk₁ a o ho]; exact nofun
    · rcases ha' with rfl | ha'
      · exact I.noB hfresh
      · exact I.frB a ha'
    · rcases ha' with rfl | ha'
      · intro hM; exact I.liveM hM hfresh
      · exact hfm a ha'
  refine h A fr L ?_ B _ I₀ _ _ PassesOwn.leaving (fun a fl m' μ' B' s' T I' rel x => ?_) (fun k e' m' μ' B' s₁ s' T I' g o d R' x => ?_)
  · refine ⟨?_, ?_⟩
    · have := hr.1; show A.depth + 1 + _ + _ ≤ _; lia
    · have := hr.2; show A.units + 3 + _ + _ ≤ _; lia
  · have T' := Trans.out (env := envOf qual scope L f cdv) hk₁ hfresh rfl T
    have J : BInv G fr μ' B' s' := BInv.pop I'.toBInv
    cases a <;> cases fl <;> first | exact rel.elim | skip
    · exact q .none (.t .none) μ' B' s' T' J V.none x
    · exact q .none (.t .none) μ' B' s' T' J V.none x
    · exact q .none (.t .none) μ' B' s' T' J V.none x
    · exact q _ _ μ' B' s' T' J rel x
  · have T' := Trans.out (env := envOf qual scope L f cdv) hk₁ hfresh rfl T
    have J : BInv G fr μ' B' s₁ := BInv.pop I'.toBInv
    have hLp : L ∈ (actOf A fr qual scope L f cdv).priv := List.mem_append_left _ (.head _)
    refine Raised.leave (by show A.frames.map _ = _; rw [hfr]; rfl) rfl I'.fun_ R' fun h' R'' => ?_
    exact e k e' μ' B' _ _ (T'.hide hfresh) (J.hide (I'.privB L hLp) (I'.privM L hLp) hLfr) g o d R'' x
end
end P279
end
section
open PySem PySem.W PyProof.Rows PySem.Spec PySem.Calls Builtin Builtin.ObjectAttr
set_option maxHeartbeats 1000000
namespace P279
structure ExcLine (C : Addr) (bm : List Value) : Prop where
  exc : bm.contains (.type "Exception") = true
  attr : bm.contains (.type "AttributeError") = false
  name : bm.contains (.type "NameError") = false
  base : bm.contains (.type "BaseException") = true
  object : bm.contains (.type "object") = true
  pass : ∀ self, refuseLoop self "__setattr__" (.ref C :: bm) = pure ()
noncomputable abbrev excObj (C a0 : Addr) (dx : Option Addr) : Obj := { cls := .ref C, dict := dx, data := .fields #[.ref a0, .none, .none, .none, .bool false, .none] }
section
variable {prog : Program} {w : World} {A : Around} {E : Value → Shared → Prop} {R : Result → Shared → Prop} {h : Heap} {g : Array GenState} {d : Drawn} {t : Nat} {os : OsState} {env : Env}
variable {nm q : Str} {C N : Addr} {bs bm : List Value} {hdct : Bool} {sn : List Str} {sub : List Value} {ab : Bool} {col : Option Bool} {dd : Option Addr} {k0 k1 k2 k3 k5 : Option Value}
noncomputable abbrev nE : String := "Exception.__new__"
theorem exc_check {M : Model} (X : ExcLine C bm) {rest : List Value} {Q : Unit → Shared → Prop} (hC : h.get? C = some (excClassObj nm q C N bs bm hdct sn sub ab col dd k0 k1 k2 k3 k5 nE))
    (hq : Q () ⟨h, g, d, t, os⟩) : wpAny M A (checkBuiltinCall nE ⟨.ref C :: rest, []⟩) Q E ⟨h, g, d, t, os⟩ := by
  have Fn := PySem.F.excBase_Exception
  have hcont : (Value.ref C :: bm).contains (.type "Exception") = true := by rw [List.contains_cons, X.exc, Bool.or_true]
  have hstar := Fn.noStar
  simp only [checkBuiltinCall, Fn.newKind, Fn.newSplit, Fn.newRow]
  repeat (first | refine wpAny_loadPart_at hC ?_ | (refine wpAny_isSubtype_exc hC ?_; rw [hcont]) | refine wpAny_staticBase_exc hC ?_ | refine wpAny_madeBy_exc hC ?_ | simp only [bne_self_eq_false, Bool.false_eq_true, if_false] | wp_step)
  exact hq
theorem exc_new (X : ExcLine C bm) {rest : List Value} (hC : h.get? C = some (excClassObj nm q C N bs bm hdct sn sub ab col dd k0 k1 k2 k3 k5 nE))
    (hq : R (.ok (.ret (.ref (h.objs.size + 1)))) ⟨(h.push { cls := .type "tuple", data := .seq rest.toArray }).push (excObj C h.objs.size none), g, d, t, os⟩) (hrest : rest.length ≤ sizeLine) :
    codeAny (model prog w) A (.builtin nE ⟨.ref C :: rest, []⟩) R ⟨h, g, d, t, os⟩ := by
  have Fn := PySem.F.excBase_Exception
  have hends := Fn.ends
  have hcB : (Value.ref C :: bm).contains (.type "Exception") = true := by rw [List.contains_cons, X.exc, Bool.or_true]
  have hcA : (Value.ref C :: bm).contains (.type "AttributeError") = false := by rw [List.contains_cons, X.attr]; rfl
  have hcN : (Value.ref C :: bm).contains (.type "NameError") = false := by rw [List.contains_cons, X.name]; rfl
  refine codeAny_builtinAt Fn.entry ?_
  unfold Builtin.«BaseException.__new__»
  refine PySem.wpAt_bind ?_
  show PySem.wpAt _ _ _ (stack >>= _) _ _ _
  refine PySem.wpAt_bind (PySem.wpAt_stack fun p below => PySem.wpAt_of_wpAny ?_)
  wp_walk
  refine PySem.wpAt_of_wpAny ?_
  rw [Fn.owner]
  repeat (first | with_reducible refine wpAny_madeHere_exc Fn.canon hC ?_ | with_reducible refine wpAny_loadPart_at hC ?_ | (with_reducible refine wpAny_isSubtype_exc hC ?_; first | rw [hcB] | rw [hcA] | rw [hcN]) | wp_step)
  show R _ _
  rw [Heap.size_push]
  exact hq
theorem exc_make (X : ExcLine C bm) {rest : List Value} {fI : Addr} {oI : Obj} {Q : Value → Shared → Prop}
    (hC : h.get? C = some (excClassObj nm q C N bs bm hdct sn sub ab col dd k0 k1 k2 k3 k5 nE)) (hi : Looks (model prog w) h (typeLookup (.ref C) "__init__") (some (.ref fI)))
    (hfI : h.get? fI = some oI) (hfc : oI.cls = .type "function") (hrest : rest.length ≤ sizeLine)
    (hq : ∀ h' e a0, (∀ b o, h.get? b = some o → h'.get? b = some o) → h.get? e = none → h'.get? e = some (excObj C a0 none) → h.get? a0 = none →
      wpAny (model prog w) (A.under (.builtin "type.__call__" ⟨.ref C :: rest, []⟩)) (call (.ref fI) (.ref e :: rest)) (fun r s' => r = .none ∧ Q (.ref e) s') E ⟨h', g, d, t, os⟩) :
    wpAny (model prog w) A (call (.ref C) rest) Q E ⟨h, g, d, t, os⟩ := by
  have Fn := PySem.F.excBase_Exception
  have f1 := tc_lookup
  have f2 := tc_bind (.ref C)
  have hT : (⟨h, g, d, t, os⟩ : Shared).TypeIs (.ref C) "type" := ⟨_, hC, rfl⟩
  refine wpAny_call (codeAny_of_tree ?_)
  show wpAny _ _ (callAny (.ref C) _) _ _ _
  repeat (any_goals (first | assumption | with_reducible refine wpAny_loadPart_at hC ?_ | wp_step))
  refine ⟨rfl, ?_⟩
  refine codeAny_call_builtin_at (Code.quiet_builtin _ (by decide +kernel)) entry_typeCall (wpAny_check_type_call_sub hC ?_)
  repeat (first | with_reducible refine wpAny_loadPart_at hC ?_ | with_reducible refine wpAny_madeBy_exc hC ?_ | wp_step)
  refine codeAny_call_builtin_code (Code.quiet_builtin _ Fn.quiet) (exc_check (rest := rest) X hC ?_)
  refine exc_new (rest := rest) X hC ?_ hrest
  show wpAny _ _ _ _ _ _
  have kk : ∀ b o, h.get? b = some o → ((h.push { cls := .type "tuple", data := .seq rest.toArray }).push (excObj C h.objs.size none)).get? b = some o := fun b o e => Heap.get?_push_of_some _ (Heap.get?_push_of_some _ e)
  have hC₁ := kk _ _ hC
  have hfI₁ := kk _ _ hfI
  have hget : ((h.push { cls := .type "tuple", data := .seq rest.toArray }).push (excObj C h.objs.size none)).get? (h.objs.size + 1) = some { cls := .ref C, data := .fields #[.ref h.objs.size, .none, .none, .none, .bool false, .none] } := by heap_get
  have hcC : (Value.ref C :: bm).contains (.ref C) = true := by simp
  unfold isInstance
  repeat (first | with_reducible refine wpAny_loadPart_at hget ?_ | (with_reducible refine wpAny_isSubtype_exc hC₁ ?_; rw [hcC]) | wp_step)
  refine (hi.keeps kk).here ?_
  refine wpAny_holding (wpAny_bind ?_)
  unfold bindSpecial
  refine wpAny_bind (wpAny_typeOf (T := "function") ⟨_, hfI₁, hfc⟩ ?_)
  rw [if_pos (by decide)]
  refine wpAny_pure (wpAny_bind (wpAny_mono (hq _ (h.objs.size + 1) h.objs.size kk (Heap.get?_none_of_le (Nat.le_succ _)) hget (Heap.get?_none_of_le (Nat.le_refl _))) (fun r s' hr => ?_) fun _ _ x => x))
  obtain ⟨rfl, hQ⟩ := hr
  wp_walk
  exact hQ
theorem exc_raise {s : Shared} {x : Sem Value} {Q : Flow → Shared → Prop} {M : Model} (X : ExcLine C bm) (hh : A.handled = none)
    (hx : wpAny M A x (fun v s₁ => ∃ e oe vs, v = .ref e ∧ s₁.heap.get? C = some (excClassObj nm q C N bs bm hdct sn sub ab col dd k0 k1 k2 k3 k5 nE) ∧
      s₁.heap.get? e = some oe ∧ oe.cls = .ref C ∧ oe.data = .fields vs ∧ vs[1]? = some .none ∧ E (.ref e) s₁) E s) :
    wpAny M A (raiseStmt env (some x) none) Q E s := by
  have hcB : (Value.ref C :: bm).contains (.type "BaseException") = true := by rw [List.contains_cons, X.base, Bool.or_true]
  unfold raiseStmt
  refine wpAny_bind (wpAny_mono hx (fun v s₁ h₁ => ?_) fun _ _ x => x)
  obtain ⟨e, oe, vs, rfl, hC, he, hcls, hd, h1, hE⟩ := h₁
  obtain ⟨hp, g, d, tk, os⟩ := s₁
  obtain ⟨oc, od, oda, osl⟩ := oe
  dsimp only at hcls hd he hC hE
  subst hcls hd
  repeat (first | with_reducible refine wpAny_loadPart_at he ?_ | with_reducible refine wpAny_loadPart_at hC ?_ | (with_reducible refine wpAny_isSubtype_exc hC ?_; rw [hcB]) | wp_step)
  rw [h1]
  refine wpAny_pure ?_
  rw [if_neg (by decide)]
  exact wpAny_pure (wpAny_raiseNew_none hh hE)
end
end P279
end
section
open PySem PySem.W PyProof.Rows PySem.Spec PySem.Calls Builtin Builtin.ObjectAttr
set_option maxHeartbeats 1000000
namespace P279
section
variable {prog : Program} {w : World} {A : Around} {E : Value → Shared → Prop} {R : Result → Shared → Prop} {h : Heap} {g : Array GenState} {d : Drawn} {t : Nat} {os : OsState} {env : Env}
variable {nm q : Str} {C N : Addr} {bs bm : List Value} {hdct : Bool} {sn : List Str} {sub : List Value} {ab : Bool} {col : Option Bool} {dd : Option Addr} {k0 k1 k2 k3 k5 : Option Value}
theorem exc_store {K : Frag} {s : Shared} {x : Addr} {cd : ClassData} {ns : List Str} {mA : Str → Option Value} {name : Str} {v : Value} {Q : Unit → Shared → Prop} (hcd : clsIn K C = some cd) (hdi : cd.hasDict = true) (hmro : cd.mro = .ref C :: bm) (X : ExcLine C bm) (I : K.In s.heap)
    (hs : findIn K (.ref C) "__setattr__" = some (some (.builtin "object.__setattr__"))) (hn : findIn K (.ref C) name = some none)
    (J : s.heap.Inst x C mA)
    (hq : ∀ h' tk', h'.Inst x C (fun y => if y = name then some v else mA y) →
      (∀ b o, b ≠ x → (∀ o₀ dx, s.heap.get? x = some o₀ → o₀.dict = some dx → b ≠ dx) → s.heap.get? b = some o → h'.get? b = some o) →
      (∀ o₀, s.heap.get? x = some o₀ → ∃ o₁, h'.get? x = some o₁ ∧ o₁.cls = o₀.cls ∧ o₁.data = o₀.data ∧ (∀ dx, o₀.dict = some dx → o₁.dict = some dx) ∧ (o₀.dict = none → ∃ dx, o₁.dict = some dx ∧ s.heap.get? dx = none)) → Q () { s with heap := h', toks := tk' }) (hw : Within mA ns) (hsz : ns.length ≤ 100) :
    wpAny (model prog w) A (setAttr (.ref x) name v) Q E s := by
  obtain ⟨o, hx, hc, hnc, hd⟩ := J
  have SF := PySem.F.store_object
  have hT : ∀ {M : Model}, Looks M s.heap (typeOf (.ref x)) (.ref C) := fun {M} => by
    have := (Looks.ld (M := M) (part := some headPart) hx)
    refine (Looks.ld hx).andThen ?_
    rw [hc]; exact .now
  have hm : Looks (model prog w) s.heap (mroOf (.ref C)) (.ref C :: bm) := by
    rw [← hmro]
    exact (looks_clsIn I hcd).andThen .now
  have sub : Looks (model prog w) s.heap (isInstance (.ref x) (.type "object")) true := hT.andThen (looks_mroIn I (by unfold mroIn; rw [hcd, Option.bind_some, hmro, if_neg (by simp), List.contains_cons, X.object, Bool.or_true]))
  refine wpAny_bind (wpAny_mkText (wpAny_bind (wpAny_bind (wpAny_bind (hT _ _ _ _ (fun _ _ e => e) (looks_findIn I hs _ _ _ _ (fun _ _ e => e) (wpAny_holding ?_)))))))
  rw [SF.slot.bind]
  refine wpAny_bind (wpAny_pure (wpAny_bind (wpAny_call ?_)))
  refine codeAny_call_builtin SF.slot.plain SF.entry (@W.check_slot (model prog w) _ _ _ "object.__setattr__" "object" "__setattr__" (.ref x) [.str name s.toks, v] [] _ SF.kind SF.split sub (SF.args (.ref x) (.str name s.toks) v) ?_)
  show wpAny _ _ (Builtin.«object.__setattr__» ⟨[.ref x, .str name s.toks, v], []⟩) _ _ _
  rw [W.osa_eq, refuse_eq]
  refine wpAny_bind (wpAny_bind (hT.at (wpAny_bind (hm.at ?_))))
  rw [X.pass]
  refine wpAny_pure (wpAny_bind (hT.at (wpAny_bind ((looks_findIn I hn).at (wpAny_bind (wpAny_pure ?_))))))
  show wpAny _ _ (ownDictForStores (.ref x) >>= _) _ _ _
  refine wpAny_bind ?_
  unfold ownDictForStores
  show wpAny _ _ (instanceDict x true) _ _ _
  unfold instanceDict
  refine wpAny_bind (wpAny_loadPart (s := ⟨s.heap, _, _, _, _⟩) hx ?_)
  rw [hc]
  refine wpAny_bind ((looks_clsIn I hcd).at ?_)
  rw [hdi]
  have hx₀ : (⟨s.heap, s.gens, s.drawn, s.toks + 1, s.os⟩ : Shared).heap.get? x = some o := hx
  rw [if_neg (by decide)]
  rcases hd with ⟨hdn, hmA⟩ | ⟨dx, hdx, hne, hns⟩
  · dsimp only
    rw [hdn, if_neg (by simp [typeHasDict])]
    have hx₁ : (s.heap.push { cls := .type "dict", data := .dict #[] }).get? x = some o := Heap.get?_push_of_some _ hx
    have hxs : x ≠ s.heap.objs.size := Nat.ne_of_lt (Heap.lt_size hx)
    have fin : wpAny (model prog w) A.in1 (alloc { cls := Value.type "dict", data := Data.dict #[] } >>= fun d => update x (fun o => { cls := o.cls, dict := some d, data := o.data, slots := o.slots }) >>= fun _ => dictMade (.ref C) x d)
        (fun a s' => wpAny (model prog w) A.in1 (match a with
        | some d => storeInDict d (Value.str name s.toks) name v
        | none => noDictFor (Value.ref x) (Value.ref C) name (none : Option Value).isSome)
        (fun fin s' => match fin with
          | .done (.ret _) => Q () s' | _ => False) (fun e s' => E e s') s') (fun e s' => E e s') ⟨s.heap, s.gens, s.drawn, s.toks + 1, s.os⟩ := by
      refine wpAny_bind (wpAny_alloc' ?_)
      refine wpAny_bind (wpAny_update' hx₁ ?_)
      refine wpAny_pure ?_
      have hgd : ((s.heap.push { cls := .type "dict", data := .dict #[] }).update x fun o => { cls := o.cls, dict := some s.heap.objs.size, data := o.data, slots := o.slots }).get? s.heap.objs.size
          = some { cls := .type "dict", data := .dict #[] } :=
        (Heap.get?_update_ne _ _ _ _ hxs.symm).trans (Heap.get?_push_at rfl rfl)
      have hnd : ((s.heap.push { cls := .type "dict", data := .dict #[] }).update x fun o => { cls := o.cls, dict := some s.heap.objs.size, data := o.data, slots := o.slots }).Ns s.heap.objs.size (fun _ => none) :=
        ⟨_, #[], _, hgd, rfl, fun e he => absurd he (by simp), fun _ => rfl⟩
      show wpAny _ _ (storeInDict s.heap.objs.size (.str name s.toks) name v) _ _ _
      unfold storeInDict newKeyGuard
      refine wpAny_bind (wpAny_pure (wpAny_bind (wpAny_nsSet1 (Heap.Ns1.of_empty hnd) fun h' hn' hs => ?_)))
      obtain ⟨oD, esD, epD, hoD, hdD, hcD⟩ := hn'.count (Within.cons name v Within.nil)
      refine wpAny_bind (wpAny_lookBehind hoD (by rw [hdD]; exact pastItsLine_dict (Nat.le_trans hcD (by rw [List.length_cons, List.length_nil, sizeLine_eq]; decide))) ?_)
      refine wpAny_pure ?_
      have hx' : h'.get? x = some { cls := o.cls, dict := some s.heap.objs.size, data := o.data, slots := o.slots } := ?_
      refine hq h' _ ⟨{ cls := o.cls, dict := some s.heap.objs.size, data := o.data, slots := o.slots }, hx', hc, hnc, .inr ⟨s.heap.objs.size, rfl, hxs.symm, ?_⟩⟩ (fun b ob hbx _ hb => ?_)
        (fun o₀ h₀ => by
          obtain rfl : o = o₀ := Option.some.inj (hx.symm.trans h₀)
          exact ⟨_, hx', rfl, rfl, (by intro dx e; rw [hdn] at e; cases e), fun _ => ⟨_, rfl, Heap.get?_none_of_le (Nat.le_refl _)⟩⟩)
      · obtain ⟨o', es, ep, e1, e2, e3, eu, e4⟩ := hn'
        exact ⟨o', es, ep, e1, e2, e3, eu, fun y => by rw [e4 y]; by_cases hy : y = name <;> simp [hy, hmA]⟩
      · exact (hs.2 b (Nat.ne_of_lt (Heap.lt_size hb))).trans ((Heap.get?_update_ne _ _ _ _ hbx).trans (Heap.get?_push_of_some _ hb))
      · refine (hs.2 x hxs).trans (Heap.get?_update_self _ hx₁ ?_)
        have hfr := (Heap.get?_some_iff.mp hx).2
        obtain ⟨oc, od, odt, osl⟩ := o
        cases odt <;> first | rfl | exact hfr
    cases hdt : o.data with
    | cls c => exact absurd hdt (hnc c)
    | _ =>
      dsimp only
      refine wpAny_mono fin (fun a s' z => wpAny_mono z (fun f s'' y => ?_) fun _ _ y => y) fun _ _ y => y
      rcases f with f | c
      · cases f <;> first | exact y.elim | exact wpAny_pure (wpAny_pure y)
      · exact y.elim
  · dsimp only
    rw [hdx]
    refine wpAny_pure ?_
    show wpAny _ _ (storeInDict dx (.str name s.toks) name v) _ _ _
    unfold storeInDict newKeyGuard
    refine wpAny_bind (wpAny_pure (wpAny_bind (wpAny_nsSet1 hns fun h' hn' hs => ?_)))
    obtain ⟨oD, esD, epD, hoD, hdD, hcD⟩ := hn'.count (Within.cons name v hw)
    refine wpAny_bind (wpAny_lookBehind hoD (by rw [hdD]; exact pastItsLine_dict (Nat.le_trans hcD (by rw [List.length_cons, sizeLine_eq]; lia))) ?_)
    refine wpAny_pure (wpAny_pure (wpAny_pure ?_))
    refine hq h' _ ⟨o, (hs.2 x hne.symm).trans hx, hc, hnc, .inr ⟨dx, hdx, hne, hn'⟩⟩ (fun b ob _ hbd hb => ?_)
      (fun o₀ h₀ => ⟨o₀, (hs.2 x hne.symm).trans h₀, rfl, rfl, fun _ e => e, fun e => by
          obtain rfl : o = o₀ := Option.some.inj (hx.symm.trans h₀)
          rw [hdx] at e; cases e⟩)
    exact (hs.2 b (hbd o dx hx hdx)).trans hb
end
end P279
end
section
open PySem PySem.W PyProof.Rows PySem.Spec PySem.Calls Builtin Builtin.ObjectAttr
set_option maxHeartbeats 1000000
namespace P279
structure ExIn (h : Heap) (C x : Addr) (mA : Str → Option Value) : Prop where
  inst : h.Inst x C mA
  obj : ∃ o, ∃ a0 : Addr, h.get? x = some o ∧ o.cls = .ref C ∧ o.data = .fields #[.ref a0, .none, .none, .none, .bool false, .none]
noncomputable def About (h h' : Heap) (x : Addr) : Prop :=
  (∀ b o, b ≠ x → (∀ o₀ dx, h.get? x = some o₀ → o₀.dict = some dx → b ≠ dx) → h.get? b = some o → h'.get? b = some o) ∧
  (∀ o₀, h.get? x = some o₀ → ∃ o₁, h'.get? x = some o₁ ∧ (∀ dx, o₀.dict = some dx → o₁.dict = some dx) ∧ (o₀.dict = none → ∀ dx, o₁.dict = some dx → h.get? dx = none))
section
variable {prog : Program} {w : World} {A : Around} {E : Value → Shared → Prop} {s : Shared}
variable {K : Frag} {C x : Addr} {bm : List Value} {cd : ClassData} {ns : List Str} {mA : Str → Option Value} {name : Str} {v : Value}
theorem ExIn.store {Q : Unit → Shared → Prop} (hcd : clsIn K C = some cd) (hdi : cd.hasDict = true) (hmro : cd.mro = .ref C :: bm) (X : ExcLine C bm) (I : K.In s.heap)
    (hs : findIn K (.ref C) "__setattr__" = some (some (.builtin "object.__setattr__"))) (hn : findIn K (.ref C) name = some none) (J : ExIn s.heap C x mA) (hw : Within mA ns) (hsz : ns.length ≤ 100)
    (hq : ∀ h' tk', ExIn h' C x (fun y => if y = name then some v else mA y) → About s.heap h' x → Q () { s with heap := h', toks := tk' }) :
    wpAny (model prog w) A (setAttr (.ref x) name v) Q E s := by
  obtain ⟨o, a0, ho, hc, hd⟩ := J.obj
  refine exc_store hcd hdi hmro X I hs hn J.inst (fun h' tk' J' k1 k2 => ?_) hw hsz
  obtain ⟨o₁, e1, e2, e3, e4, e5⟩ := k2 o ho
  refine hq h' tk' ⟨J', o₁, a0, e1, e2.trans hc, e3.trans hd⟩ ⟨k1, fun o₀ e₀ => ?_⟩
  rw [ho] at e₀; cases e₀
  refine ⟨o₁, e1, e4, fun q dx z => ?_⟩
  obtain ⟨dy, z1, z2⟩ := e5 q
  rw [z] at z1; cases z1; exact z2
theorem ExIn.base {R : Result → Shared → Prop} (hcd : clsIn K C = some cd) (hmro : cd.mro = .ref C :: bm) (X : ExcLine C bm) (I : K.In s.heap) (J : ExIn s.heap C x mA)
    (hq : ∀ h', ExIn h' C x mA → About s.heap h' x → (∀ b o, b ≠ x → s.heap.get? b = some o → h'.get? b = some o) → R (.ok (.ret .none)) { s with heap := h' }) :
    codeAny (model prog w) A (.call (.builtin "Exception.__init__") ⟨[.ref x, v], []⟩) R s := by
  obtain ⟨o, a0, ho, hc, hd⟩ := J.obj
  have F := PySem.F.excBase_Exception
  have hT : Looks (model prog w) s.heap (typeOf (.ref x)) (.ref C) := by
    refine (Looks.ld ho).andThen ?_
    rw [hc]; exact .now
  have sub : Looks (model prog w) s.heap (isInstance (.ref x) (.type "Exception")) true := hT.andThen (looks_mroIn I (by unfold mroIn; rw [hcd, Option.bind_some, hmro, if_neg (by simp), List.contains_cons, X.exc, Bool.or_true]))
  have chk : ∀ {A : Around} {Q : Unit → Shared → Prop} {E : Value → Shared → Prop}, Q () s → wpAny (model prog w) A (checkBuiltinCall "Exception.__init__" ⟨[.ref x, v], []⟩) Q E s := fun {A Q E} q => by
    have hshort := F.noStar
    simp only [checkBuiltinCall, F.initKind, F.initSplit, F.initRow]
    refine wpAny_bind (sub.here ?_)
    simp only [Bool.not_true, Bool.false_eq_true, if_false]
    obtain ⟨hp, g, d, t, os⟩ := s
    have hcl := looks_clsIn (M := model prog w) I hcd
    repeat (first | rw [hc] | with_reducible refine hcl.at ?_ | wp_step)
    exact q
  refine codeAny_call_builtin F.init.plain F.initEntry (chk ?_)
  obtain ⟨hp, g, d, t, os⟩ := s
  obtain ⟨oc, od, oda, osl⟩ := o
  dsimp only at ho hc hd
  subst hc hd
  unfold Builtin.«BaseException.__init__»
  wp_walk
  have hxs : x ≠ hp.objs.size := Nat.ne_of_lt (Heap.lt_size ho)
  have hx₁ := Heap.get?_push_of_some (o := { cls := .type "tuple", data := .seq #[v] }) ho
  refine hq _ ⟨?_, _, _, Heap.get?_update_self _ hx₁ rfl, rfl, rfl⟩ ⟨fun b ob n1 n2 e => ?_, fun o₀ e₀ => ?_⟩ fun b ob n1 e => ?_
  · obtain ⟨o', ho', hc', hnc, hd'⟩ := J.inst
    rw [ho] at ho'; cases ho'
    refine ⟨_, Heap.get?_update_self _ hx₁ rfl, rfl, (by intro _ z; cases z), ?_⟩
    rcases hd' with ⟨q1, q2⟩ | ⟨dx, q1, q2, q3⟩
    · exact .inl ⟨q1, q2⟩
    · refine .inr ⟨dx, q1, q2, ?_⟩
      obtain ⟨oo, es, ep, r1, r2⟩ := q3
      exact ⟨oo, es, ep, (Heap.get?_update_other _ _ (Ne.symm q2)).trans (Heap.get?_push_of_some _ r1), r2⟩
  · exact (Heap.get?_update_other _ _ (Ne.symm n1)).trans (Heap.get?_push_of_some _ e)
  · rw [ho] at e₀; cases e₀
    exact ⟨_, Heap.get?_update_self _ hx₁ rfl, fun _ q => q, fun q dx z => by
      have z' : od = some dx := z
      have q' : od = none := q
      rw [q'] at z'; cases z'⟩
  · exact (Heap.get?_update_other _ _ (Ne.symm n1)).trans (Heap.get?_push_of_some _ e)
end
end P279
end
section
open PySem PySem.W PyProof.Rows PySem.Spec PySem.Calls Builtin Builtin.ObjectAttr
set_option maxHeartbeats 1000000
namespace P279
noncomputable def Off (h : Heap) (x b : Addr) : Prop := b ≠ x ∧ ∀ o₀ dx, h.get? x = some o₀ → o₀.dict = some dx → b ≠ dx
theorem Off.about {h h' : Heap} {x b : Addr} {o : Obj} (f : Off h x b) (a : About h h' x) (hx : h.get? x = some o) (hb : h.get? b ≠ none) : Off h' x b := by
  refine ⟨f.1, fun o₁ dx e z q => ?_⟩
  obtain ⟨o₂, e2, k1, k2⟩ := a.2 o hx
  rw [e] at e2; cases e2
  cases w : o.dict with
  | none => exact hb (q ▸ k2 w dx z)
  | some dy =>
    have := k1 dy w
    rw [z] at this; cases this
    exact f.2 o dx hx w q
theorem Off.ext {h h' : Heap} {x b : Addr} {o : Obj} (f : Off h x b) (k : ∀ b o, h.get? b = some o → h'.get? b = some o) (hx : h.get? x = some o) : Off h' x b :=
  ⟨f.1, fun o₁ dx e z => f.2 o dx hx (by rw [k _ _ hx] at e; cases e; exact z)⟩
structure Mk (h₀ h : Heap) (C x : Addr) (mA : Str → Option Value) : Prop where
  ex : ExIn h C x mA
  keep : ∀ b o, h₀.get? b = some o → h.get? b = some o
  off : ∀ b, h₀.get? b ≠ none → Off h x b
theorem Mk.about {h₀ h h' : Heap} {C x : Addr} {mA mA' : Str → Option Value} (m : Mk h₀ h C x mA) (a : About h h' x) (e : ExIn h' C x mA') : Mk h₀ h' C x mA' := by
  obtain ⟨o, a0, ho, _⟩ := m.ex.obj
  exact ⟨e, fun b o e => let f := m.off b (by rw [e]; exact nofun); a.1 b o f.1 f.2 (m.keep b o e), fun b hb => (m.off b hb).about a ho fun z => by
    cases q : h₀.get? b with
    | none => exact hb q
    | some ob => rw [m.keep b ob q] at z; cases z⟩
theorem ExIn.ext {h h' : Heap} {C x : Addr} {mA : Str → Option Value} (e : ExIn h C x mA) (k : ∀ b o, h.get? b = some o → h'.get? b = some o) : ExIn h' C x mA := by
  obtain ⟨⟨o, ho, hc, hnc, hd⟩, o', a0, ho', hc', hd'⟩ := e
  refine ⟨⟨o, k _ _ ho, hc, hnc, hd.imp id fun q => q.elim fun d q => ⟨d, q.1, q.2.1, q.2.2.elim fun oo r => r.elim fun es r => r.elim fun ep r => ⟨oo, es, ep, k _ _ r.1, r.2⟩⟩⟩, o', a0, k _ _ ho', hc', hd'⟩
theorem Mk.ext {h₀ h h' : Heap} {C x : Addr} {mA : Str → Option Value} (m : Mk h₀ h C x mA) (k : ∀ b o, h.get? b = some o → h'.get? b = some o) : Mk h₀ h' C x mA := by
  obtain ⟨o, a0, ho, _⟩ := m.ex.obj
  exact ⟨m.ex.ext k, fun b o e => k b o (m.keep b o e), fun b hb => (m.off b hb).ext k ho⟩
structure Hs (G : Cfg) (h : Heap) : Prop where
  kin : G.K.In h
  g : h.Ns mainGlobals G.mg
  b : h.Ns builtinsNs G.mb
  lim : h.NoLimit
theorem Hs.keeps {G : Cfg} {h h' : Heap} (x : Hs G h) (k : ∀ b o, h.get? b = some o → h'.get? b = some o) : Hs G h' := ⟨x.kin.keeps k, x.g.keeps k, x.b.keeps k, x.lim.keeps k⟩
theorem BInv.hs {G : Cfg} {fr : List Env} {μ : Mut} {B : BM} {s : Shared} (I : BInv G fr μ B s) : Hs G s.heap :=
  (⟨I.gf.kin, I.gf.g, I.gf.b, I.gf.lim⟩ : Hs G G.h₀).keeps fun b o e => I.keep b o (I.base b o e)
structure ExCls (K : Frag) (C : Addr) : Prop where
  obj : ∃ nm q N bs bm sn sub ab col dd k0 k1 k2 k3 k5, K.lookup C = some (excClassObj nm q C N bs bm true sn sub ab col dd k0 k1 k2 k3 k5 nE) ∧ ExcLine C bm
  sa : findIn K (.ref C) "__setattr__" = some (some (.builtin "object.__setattr__"))
  noText : findIn K (.ref C) "text" = some none
  noAt : findIn K (.ref C) "at" = some none
section
variable {G : Cfg} {A : Around} {s : Shared} {h₀ : Heap} {C x f : Addr} {mA : Str → Option Value} {ns : List Str} {R : Result → Shared → Prop} {v u : Value}
variable {qual : Str} {params : Arguments} {scope : Scope} {dV kV doc pm cdv ct oc : Value} {an od : Option Addr} {osl : Array (Option Value)}
noncomputable def body77 : List Stmt := [.Expr (.Call (.Attribute (.Name "Exception" ⟨5, 8, 5, 17⟩) "__init__" ⟨5, 8, 5, 26⟩) [.Name "self" ⟨5, 27, 5, 31⟩, .Name "text" ⟨5, 33, 5, 37⟩] [] ⟨5, 8, 5, 38⟩) ⟨5, 8, 5, 38⟩, .Assign [.Attribute (.Name "self" ⟨6, 8, 6, 12⟩) "text" ⟨6, 8, 6, 17⟩] (.Name "text" ⟨6, 20, 6, 24⟩) ⟨6, 8, 6, 24⟩]
noncomputable def scope77 : Scope := { kind := .function, names := [("self", .local), ("text", .local), ("Exception", .globalImplicit)], isGenerator := false, isCoroutine := false }
theorem ld_local {env : Env} {m : Str → Option Value} {y : Str} {p : Pos} {Q : Value → Shared → Prop} {E : Value → Shared → Prop} (hk : env.scope.kind = .function) (hn : s.heap.Ns env.locals m) (hl : env.kindOf y = some .local) (hv : m y = some v) (h : Q v s) (hd : (y == ("__debug__" : Str)) = false := by decide) :
    wpAny G.M A (eval (.Name y p) env) Q E s := wpAny_Name (wpAny_loadName_local hk hl hn hv h) hd
theorem init77 (gf : GF G) (ho : G.K.lookup f = some ⟨oc, od, .func (fnOf "__init__" qual params
      body77 scope dV kV doc pm an cdv ct), osl⟩)
    (hcd : codeIn G.K cdv qual = true) (hs : scope = scope77)
    (hbind : ∀ a b : Value, bindArgs (fnOf "__init__" qual params
      body77 scope dV kV doc pm an cdv ct) ⟨[a, b], []⟩ = pure [(("self" : Str), a), (("text" : Str), b)])
    (gE : GBlt G "Exception" (.type "Exception")) (XC : ExCls G.K C) (HS : Hs G h₀) (hdep : A.depth + 10 ≤ 900)
    (J : Mk h₀ s.heap C x mA) (hw : Within mA ns) (hsz : ns.length ≤ 100)
    (hq : ∀ h' tk', Mk h₀ h' C x (fun y => if y = "text" then some v else mA y) → R (.ok (.ret .none)) { s with heap := h', toks := tk' }) :
    codeAny G.M A (.call (.ref f) ⟨[.ref x, v], []⟩) R s := by
  subst hs
  obtain ⟨nm, q, N, bs, bm, sn, sub, ab, col, dd, k0, k1, k2, k3, k5, hC, X⟩ := XC.obj
  have hci : ∃ cd, clsIn G.K C = some cd ∧ cd.hasDict = true ∧ cd.mro = .ref C :: bm := ⟨_, by unfold clsIn; rw [hC], rfl, rfl⟩
  obtain ⟨cd, hci, hdi, hmro⟩ := hci
  have H := HS.keeps J.keep
  refine codeAny_call_def (binds := [(("self" : Str), .ref x), (("text" : Str), v)]) (by unfold recursionLimit; lia) (H.kin _ _ ho) rfl H.lim (codeRec_of H.kin hcd) rfl (.of_eq (hbind _ _)) (show ∀ y ∈ scope77.names, y.2 ≠ .cell by decide) (by intro y hy; simp only [List.mem_cons, List.not_mem_nil, or_false] at hy; rcases hy with rfl | rfl <;> rfl) fun h₁ hns hk₁ => ?_
  generalize henv : callEnv _ _ _ = env
  have e1 : env.scope.kind = .function := by rw [← henv]; rfl
  have e2 : env.kindOf "self" = some .local := by rw [← henv]; rfl
  have e3 : env.kindOf "text" = some .local := by rw [← henv]; rfl
  have e4 : env.kindOf "Exception" = some .globalImplicit := by rw [← henv]; rfl
  have e5 : env.locals = s.heap.objs.size := by rw [← henv]; rfl
  have e6 : env.globals = mainGlobals := by rw [← henv]; rfl
  have e7 : env.builtins = builtinsNs := by rw [← henv]; rfl
  rw [← e5] at hns
  have J₁ := J.ext hk₁
  have H₁ := HS.keeps J₁.keep
  obtain ⟨ox, a0, hox, _⟩ := J₁.ex.obj
  have offL : Off h₁ x env.locals := by
    have hL : s.heap.get? env.locals = none := by rw [e5]; exact Heap.get?_none_of_le (Nat.le_refl _)
    obtain ⟨o2, a2, h2, _⟩ := J.ex.obj
    refine ⟨(by intro z; rw [z, h2] at hL; cases hL), fun o₀ dx z1 z2 z => ?_⟩
    rw [hk₁ _ _ h2] at z1; cases z1
    obtain ⟨o3, h3, _, _, h4⟩ := J.ex.inst
    rw [h2] at h3; cases h3
    rcases h4 with ⟨h4, _⟩ | ⟨dy, h4, _, o5, _, _, h5, _⟩
    · rw [h4] at z2; cases z2
    · rw [h4] at z2; cases z2
      rw [z, h5] at hL; cases hL
  have e8 : interactive env = false := by rw [← henv]; rfl
  have FR : Fr emptyHeap env.locals h₁ (fun y => List.lookup y [(("self" : Str), Value.ref x), (("text" : Str), v)].reverse) := ⟨hns, fun b o e => (by rw [emptyHeap_get] at e; cases e), Nat.zero_le _⟩
  unfold body77
  refine wpAny_execs_cons (wpAny_Expr (W.methodCall_KW (Name_function_global e1 e4 (loadGlobal_builtin (e6 ▸ H₁.g) (mg_none_of gf.kin gf.g gE.1) (e7 ▸ H₁.b) ((gf.blt _ gE.2.2).trans gE.2.1) ?_) (by decide))) (hi := e8))
  refine W.method_type (K := []) (v := .builtin "Exception.__init__") FR (fun a o e => by cases e) (by kernel_rfl) (by decide +kernel) (by kernel_rfl) (by decide +kernel) ?_
  refine Calls.callWith_builtin (by rfl) ?_
  refine evalArgs_plain ?_
  refine wpAny_items_cons (ld_local e1 hns e2 rfl ?_) (by rfl)
  refine wpAny_items_cons (ld_local e1 hns e3 rfl ?_) (by rfl)
  refine wpAny_items_nil ?_
  refine wpAny_call (ExIn.base hci hmro X H₁.kin J₁.ex fun h₂ J₂ a₂ _ => ?_)
  have J₂' := J₁.about a₂ J₂
  have H₂ := HS.keeps J₂'.keep
  have offL₂ : Off h₂ x env.locals := offL.about a₂ hox (by obtain ⟨oL, _, _, hLo, _⟩ := hns; rw [hLo]; exact nofun)
  have hns₂ : h₂.Ns env.locals (fun y => List.lookup y [(("self" : Str), Value.ref x), (("text" : Str), v)].reverse) := by
    obtain ⟨oL, es, ep, hLo, r⟩ := hns
    exact ⟨oL, es, ep, a₂.1 _ _ offL.1 offL.2 hLo, r⟩
  refine wpAny_execs_cons (plainObj_wpAny_Assign_Attribute (ld_local e1 hns₂ e3 rfl (ld_local e1 hns₂ e2 rfl ?_)) (by rfl))
  refine J₂'.ex.store hci hdi hmro X H₂.kin XC.sa XC.noText hw hsz fun h₃ tk₃ J₃ a₃ => ?_
  refine wpAny_execs_nil ?_
  exact hq h₃ tk₃ (J₂'.about a₃ J₃)
end
end P279
end
section
open PySem PySem.W PyProof.Rows PySem.Spec PySem.Calls Builtin Builtin.ObjectAttr
set_option maxHeartbeats 1000000
namespace P279
theorem hide_self' (h : Heap) (a : Addr) : (h.hide a).get? a = none := by
  cases q : (h.hide a).get? a with
  | none => rfl
  | some o =>
    have := q
    simp [Heap.hide_self] at this
theorem Mk.grow {h₀ h : Heap} {C x : Addr} {mA : Str → Option Value} (m : Mk h₀ h C x mA) :
    ∃ hB : Heap, (∀ b o, h₀.get? b = some o → hB.get? b = some o) ∧ Mk hB h C x mA ∧ ∀ b o, Off h x b → h.get? b = some o → hB.get? b = some o := by
  obtain ⟨o, ho, hc, hnc, hd⟩ := m.ex.inst
  have ne : ∀ b o, h₀.get? b = some o → Off h x b := fun b o e => m.off b (by rw [e]; exact nofun)
  rcases hd with ⟨hd, _⟩ | ⟨dx, hd, hdx, _⟩
  · have hid : ∀ b, b ≠ x → (h.hide x).get? b = h.get? b := fun b hb => Heap.hide_ne _ hb
    refine ⟨h.hide x, fun b ob e => (hid b (ne b ob e).1).trans (m.keep b ob e), ⟨m.ex, fun b ob e => Heap.of_hide e, fun b hb => ⟨?_, fun o₀ dx e z => ?_⟩⟩, fun b ob f e => (hid b f.1).trans e⟩
    · rintro rfl; exact hb (hide_self' _ _)
    · rw [ho] at e; cases e; rw [hd] at z; cases z
  · have hid : ∀ b, b ≠ x → b ≠ dx → ((h.hide x).hide dx).get? b = h.get? b := fun b hb hb' => (Heap.hide_ne _ hb').trans (Heap.hide_ne _ hb)
    refine ⟨(h.hide x).hide dx, fun b ob e => (hid b (ne b ob e).1 ((ne b ob e).2 o dx ho hd)).trans (m.keep b ob e), ⟨m.ex, fun b ob e => Heap.of_hide (Heap.of_hide e), fun b hb => ⟨?_, fun o₀ dy e z q => ?_⟩⟩, fun b ob f e => (hid b f.1 (f.2 o dx ho hd)).trans e⟩
    · rintro rfl
      cases q : ((h.hide b).hide dx).get? b with
      | none => exact hb q
      | some ob => have := Heap.of_hide q; rw [hide_self'] at this; cases this
    · rw [ho] at e; cases e; rw [hd] at z; cases z
      rw [q] at hb; exact hb (hide_self' _ _)
theorem Mk.less {h₀ hB h : Heap} {C x : Addr} {mA : Str → Option Value} (k : ∀ b o, h₀.get? b = some o → hB.get? b = some o) (m : Mk hB h C x mA) : Mk h₀ h C x mA :=
  ⟨m.ex, fun b o e => m.keep b o (k b o e), fun b hb => m.off b (by
    cases q : h₀.get? b with
    | none => exact absurd q hb
    | some o => rw [k b o q]; exact nofun)⟩
section
variable {G : Cfg} {A : Around} {s : Shared} {h₀ : Heap} {C x f f77 C77 : Addr} {mA : Str → Option Value} {ns : List Str} {R : Result → Shared → Prop} {v u : Value}
variable {qual : Str} {params : Arguments} {scope : Scope} {dV kV doc pm cdv ct oc : Value} {an od : Option Addr} {osl : Array (Option Value)}
noncomputable def bodyLex : List Stmt := [.Expr (.Call (.Attribute (.Name "F77Error" ⟨10, 8, 10, 16⟩) "__init__" ⟨10, 8, 10, 25⟩) [.Name "self" ⟨10, 26, 10, 30⟩, .Name "text" ⟨10, 32, 10, 36⟩] [] ⟨10, 8, 10, 37⟩) ⟨10, 8, 10, 37⟩,
  .Assign [.Attribute (.Name "self" ⟨11, 8, 11, 12⟩) "at" ⟨11, 8, 11, 15⟩] (.Name "at" ⟨11, 18, 11, 20⟩) ⟨11, 8, 11, 20⟩]
noncomputable def scopeLex : Scope := { kind := .function, names := [("self", .local), ("at", .local), ("text", .local), ("F77Error", .globalImplicit)], isGenerator := false, isCoroutine := false }
noncomputable def Init77OK (G : Cfg) (f : Addr) : Prop := ∀ (A : Around) (s : Shared) (h₀ : Heap) (C x : Addr) (mA : Str → Option Value) (ns : List Str) (R : Result → Shared → Prop) (v : Value), ExCls G.K C → Hs G h₀ → A.depth + 10 ≤ 900 → Mk h₀ s.heap C x mA → Within mA ns → ns.length ≤ 100 →
  (∀ h' tk', Mk h₀ h' C x (fun y => if y = "text" then some v else mA y) → R (.ok (.ret .none)) { s with heap := h', toks := tk' }) → codeAny G.M A (.call (.ref f) ⟨[.ref x, v], []⟩) R s
theorem initLex (gf : GF G) (ho : G.K.lookup f = some ⟨oc, od, .func (fnOf "__init__" qual params bodyLex scope dV kV doc pm an cdv ct), osl⟩)
    (hcd : codeIn G.K cdv qual = true) (hs : scope = scopeLex)
    (hbind : ∀ a b c : Value, bindArgs (fnOf "__init__" qual params bodyLex scope dV kV doc pm an cdv ct) ⟨[a, b, c], []⟩ = pure [(("self" : Str), a), (("at" : Str), b), (("text" : Str), c)])
    (g77 : nsIn G.K mainGlobals "F77Error" = some (some (.ref C77))) (hg : specialIn G.K (.ref C77) "__getattribute__" = some (some (.builtin "type.__getattribute__"))) (hrd : readsIn G.K C77 (.type "type") = true)
    (hfc : findCls G.K (.ref C77) (.type "type") "__init__" = some (.val (.ref f77))) (hkp : keepIn G.K (.ref f77) = true) (ok77 : Init77OK G f77)
    (XC : ExCls G.K C) (HS : Hs G h₀) (hdep : A.depth + 20 ≤ 900)
    (J : Mk h₀ s.heap C x mA) (hw : Within mA ns) (hsz : ns.length ≤ 90)
    (hq : ∀ h' tk', Mk h₀ h' C x (fun y => if y = "at" then some v else if y = "text" then some u else mA y) → R (.ok (.ret .none)) { s with heap := h', toks := tk' }) :
    codeAny G.M A (.call (.ref f) ⟨[.ref x, v, u], []⟩) R s := by
  subst hs
  obtain ⟨nm, q, N, bs, bm, sn, sub, ab, col, dd, k0, k1, k2, k3, k5, hC, X⟩ := XC.obj
  have hci : ∃ cd, clsIn G.K C = some cd ∧ cd.hasDict = true ∧ cd.mro = .ref C :: bm := ⟨_, by unfold clsIn; rw [hC], rfl, rfl⟩
  obtain ⟨cd, hci, hdi, hmro⟩ := hci
  have H := HS.keeps J.keep
  refine codeAny_call_def (binds := [(("self" : Str), .ref x), (("at" : Str), v), (("text" : Str), u)]) (by unfold recursionLimit; lia) (H.kin _ _ ho) rfl H.lim (codeRec_of H.kin hcd) rfl (.of_eq (hbind _ _ _)) (show ∀ y ∈ scopeLex.names, y.2 ≠ .cell by decide) (by intro y hy; simp only [List.mem_cons, List.not_mem_nil, or_false] at hy; rcases hy with rfl | rfl | rfl <;> rfl) fun h₁ hns hk₁ => ?_
  generalize henv : callEnv _ _ _ = env
  have e1 : env.scope.kind = .function := by rw [← henv]; rfl
  have e2 : env.kindOf "self" = some .local := by rw [← henv]; rfl
  have e3 : env.kindOf "text" = some .local := by rw [← henv]; rfl
  have e3' : env.kindOf "at" = some .local := by rw [← henv]; rfl
  have e4 : env.kindOf "F77Error" = some .globalImplicit := by rw [← henv]; rfl
  have e5 : env.locals = s.heap.objs.size := by rw [← henv]; rfl
  have e6 : env.globals = mainGlobals := by rw [← henv]; rfl
  rw [← e5] at hns
  have J₁ := J.ext hk₁
  have H₁ := HS.keeps J₁.keep
  have offL : Off h₁ x env.locals := by
    have hL : s.heap.get? env.locals = none := by rw [e5]; exact Heap.get?_none_of_le (Nat.le_refl _)
    obtain ⟨o2, a2, h2, _⟩ := J.ex.obj
    refine ⟨(by intro z; rw [z, h2] at hL; cases hL), fun o₀ dx z1 z2 z => ?_⟩
    rw [hk₁ _ _ h2] at z1; cases z1
    obtain ⟨o3, h3, _, _, h4⟩ := J.ex.inst
    rw [h2] at h3; cases h3
    rcases h4 with ⟨h4, _⟩ | ⟨dy, h4, _, o5, _, _, h5, _⟩
    · rw [h4] at z2; cases z2
    · rw [h4] at z2; cases z2
      rw [z, h5] at hL; cases hL
  have e8 : interactive env = false := by rw [← henv]; rfl
  -- the frame's own object, with what was there before
  obtain ⟨oL, es, ep, hLo, hLr⟩ := id hns
  obtain ⟨hB, kB, JB, LB⟩ := J₁.grow
  have HB := HS.keeps kB
  have lB := LB _ _ offL hLo
  unfold bodyLex
  refine wpAny_execs_cons (wpAny_Expr (W.methodCall_KW (Name_function_global e1 e4 (loadGlobal_global (e6 ▸ H₁.g) (mg_of gf.kin gf.g g77) ?_) (by decide))) (hi := e8))
  refine W.method_cls H₁.kin hg (W.cls_value H₁.kin hrd hfc rfl ?_)
  refine W.callWith_of (P := fun h => G.K.In h) (by rfl) (fun h hh => keeps_K hkp h hh) ?_
  refine evalArgs_plain ?_
  refine wpAny_items_cons (ld_local e1 hns e2 rfl ?_) (by rfl)
  refine wpAny_items_cons (ld_local e1 hns e3 rfl ?_) (by rfl)
  refine wpAny_items_nil ?_
  refine ⟨H₁.kin, ?_⟩
  refine wpAny_call (ok77 _ _ hB C x mA ns _ u XC HB ?_ JB hw (by exact Nat.le_trans ‹_› (by decide)) fun h₂ tk₂ J₂ => ?_)
  · rw [← henv]; show A.depth + 1 + 10 ≤ 900; lia
  have H₂ := HB.keeps J₂.keep
  have hns₂ : h₂.Ns env.locals (fun y => List.lookup y [(("self" : Str), Value.ref x), (("at" : Str), v), (("text" : Str), u)].reverse) := ⟨oL, es, ep, J₂.keep _ _ lB, hLr⟩
  refine wpAny_execs_cons (plainObj_wpAny_Assign_Attribute (ld_local e1 hns₂ e3' rfl (ld_local e1 hns₂ e2 rfl ?_)) (by rfl))
  refine J₂.ex.store hci hdi hmro X H₂.kin XC.sa XC.noAt (Within.cons "text" u hw) (by rw [List.length_cons]; lia) fun h₃ tk₃ J₃ a₃ => ?_
  refine wpAny_execs_nil ?_
  exact hq h₃ tk₃ ((J₂.about a₃ J₃).less kB)
end
end P279
end
section
open PySem PySem.W PyProof.Rows PySem.Spec PySem.Calls Builtin Builtin.ObjectAttr
set_option maxHeartbeats 1000000
namespace P279
noncomputable def MakesOK (G : Cfg) (k : Cl) (n : Nat) : Prop := ∀ (A : Around) (s : Shared) (vals : List Value) (Q : Value → Shared → Prop) (E : Value → Shared → Prop), A.depth + 40 ≤ 900 → Hs G s.heap → vals.length = n →
  (∀ h' tk' e, (∀ b o, s.heap.get? b = some o → h'.get? b = some o) → s.heap.get? e = none → (∃ oe vs a0, h'.get? e = some oe ∧ oe.cls = clV G k ∧ oe.data = .fields vs ∧ vs[0]? = some a0 ∧ vs[1]? = some .none) → Q (.ref e) { s with heap := h', toks := tk' }) →
  wpAny G.M A (call (clV G k) vals) Q E s
theorem ExIn.new {h : Heap} {C e a0 : Addr} (he : h.get? e = some (excObj C a0 none)) : ExIn h C e (fun _ => none) :=
  ⟨⟨_, he, rfl, (fun _ z => nomatch z), Or.inl ⟨rfl, fun _ => rfl⟩⟩, _, a0, he, rfl, rfl⟩
theorem Mk.new {h₀ h : Heap} {C e a0 : Addr} (k : ∀ b o, h₀.get? b = some o → h.get? b = some o) (hn : h₀.get? e = none) (he : h.get? e = some (excObj C a0 none)) : Mk h₀ h C e (fun _ => none) :=
  ⟨ExIn.new he, k, fun b hb => ⟨fun q => hb (q ▸ hn), fun o dx z1 z2 => by rw [he] at z1; cases z1; cases z2⟩⟩
section
variable {G : Cfg} {k : Cl} {f : Addr}
theorem makes_one {oI : Obj} (XC : ExCls G.K (G.X k)) (hi : findIn G.K (clV G k) "__init__" = some (some (.ref f))) (hf : G.K.lookup f = some oI) (hfc : oI.cls = .type "function") (ok : Init77OK G f) : MakesOK G k 1 := by
  intro A s vals Q E hd H hl hq
  obtain ⟨v, rfl⟩ : ∃ v, vals = [v] := by
    cases vals with
    | nil => cases hl
    | cons v r => cases r with | nil => exact ⟨v, rfl⟩ | cons _ _ => simp at hl
  obtain ⟨nm, q, N, bs, bm, sn, sub, ab, col, dd, k0, k1, k2, k3, k5, hC, X⟩ := XC.obj
  obtain ⟨hp, g, d, t, os⟩ := s
  refine exc_make X (H.kin _ _ hC) (looks_findIn H.kin hi) (H.kin _ _ hf) hfc (by rw [sizeLine_eq]; simp) fun h' e a0 kk hn he _ => ?_
  refine wpAny_call (ok _ _ hp (G.X k) e _ [] _ v XC H ?_ (Mk.new kk hn he) Within.nil (by simp) fun h₂ tk₂ J => ?_)
  · have := depth_under_make A (G.X k) [v]
    lia
  · obtain ⟨o, a1, ho, hc, hd'⟩ := J.ex.obj
    exact ⟨rfl, hq h₂ tk₂ e J.keep hn ⟨o, _, _, ho, hc, hd', rfl, rfl⟩⟩
noncomputable def InitLexOK (G : Cfg) (f : Addr) : Prop := ∀ (A : Around) (s : Shared) (h₀ : Heap) (C x : Addr) (mA : Str → Option Value) (ns : List Str) (R : Result → Shared → Prop) (v u : Value), ExCls G.K C → Hs G h₀ → A.depth + 20 ≤ 900 → Mk h₀ s.heap C x mA → Within mA ns → ns.length ≤ 90 →
  (∀ h' tk', Mk h₀ h' C x (fun y => if y = "at" then some v else if y = "text" then some u else mA y) → R (.ok (.ret .none)) { s with heap := h', toks := tk' }) → codeAny G.M A (.call (.ref f) ⟨[.ref x, v, u], []⟩) R s
theorem makes_two {oI : Obj} (XC : ExCls G.K (G.X k)) (hi : findIn G.K (clV G k) "__init__" = some (some (.ref f))) (hf : G.K.lookup f = some oI) (hfc : oI.cls = .type "function") (ok : InitLexOK G f) : MakesOK G k 2 := by
  intro A s vals Q E hd H hl hq
  obtain ⟨v, u, rfl⟩ : ∃ v u, vals = [v, u] := by
    cases vals with
    | nil => cases hl
    | cons v r => cases r with
      | nil => simp at hl
      | cons u r => cases r with | nil => exact ⟨v, u, rfl⟩ | cons _ _ => simp at hl
  obtain ⟨nm, q, N, bs, bm, sn, sub, ab, col, dd, k0, k1, k2, k3, k5, hC, X⟩ := XC.obj
  obtain ⟨hp, g, d, t, os⟩ := s
  refine exc_make X (H.kin _ _ hC) (looks_findIn H.kin hi) (H.kin _ _ hf) hfc (by rw [sizeLine_eq]; simp) fun h' e a0 kk hn he _ => ?_
  refine wpAny_call (ok _ _ hp (G.X k) e _ [] _ v u XC H ?_ (Mk.new kk hn he) Within.nil (by simp) fun h₂ tk₂ J => ?_)
  · have := depth_under_make A (G.X k) [v, u]
    lia
  · obtain ⟨o, a1, ho, hc, hd'⟩ := J.ex.obj
    exact ⟨rfl, hq h₂ tk₂ e J.keep hn ⟨o, _, _, ho, hc, hd', rfl, rfl⟩⟩
end
section
variable {G : Cfg} {c : Act} {m : Loc} {μ : Mut} {E : Cl → Loc → Mut → Prop} {Q : Fl → Loc → Mut → Prop} {k : Cl}
theorem WS_Raise {x : Str} {np cpos pos : Pos} {es : List Expr} {n : Nat} (hx : c.env.kindOf x = some .globalImplicit) (g : nsIn G.K mainGlobals x = some (some (clV G k))) (kp : keepIn G.K (clV G k) = true) (XC : ExCls G.K (G.X k)) (mk : MakesOK G k n)
    (h : WEs G c cpos es m μ (fun ds μ₁ => ds.length = n ∧ E k m μ₁) (fun k μ => E k m μ))
    (he : ∀ x r, es = x :: r → starEach (x :: r) c.env = (false, eval x c.env) :: starEach r c.env := by intro _ _ h; cases h; rfl)
    (hp : (backTo cpos (starEach es c.env)).any (·.1) = false := by rfl) (hd : (x == ("__debug__" : Str)) = false := by decide) : WS G c (.Raise (some (.Call (.Name x np) es [] cpos)) none pos) m μ Q E := by
  intro B s I Qr Er hpo q e
  obtain ⟨nm, qn, N, bs, bm, sn, sub, ab, col, dd, k0, k1, k2, k3, k5, hC, X⟩ := XC.obj
  rw [arm_exec_Raise]
  refine wpAny_bind (wpAny_standAt ?_)
  refine exc_raise (nm := nm) (q := qn) (N := N) (bs := bs) (hdct := true) (sn := sn) (sub := sub) (ab := ab) (col := col) (dd := dd) (k0 := k0) (k1 := k1) (k2 := k2) (k3 := k3) (k5 := k5) X I.ok.handled ?_
  refine wpAny_bind (m := eval (.Call (.Name x np) es [] cpos) c.env) (wpAny_Call_ofName ?_)
  refine Name_function_global I.ok.kind hx (loadGlobal_global (I.ok.globals ▸ I.ns) (mg_of I.gf.kin I.gf.g g) ?_) hd
  refine callWith_of (P := fun h => G.K.In h) (by rw [hp]; rfl) (keeps_K kp) ?_
  refine WX.useS (evalArgs_go h he I) (Trans.refl ..) hpo e fun a ds μ' B' s' T _ I' R x => ?_
  obtain ⟨hk, hv⟩ := R
  refine ⟨I'.kin, ?_⟩
  rw [hk]
  refine mk c.A s' _ _ _ (by have := I'.ok.room.1; lia) I'.toBInv.hs (hv.length.trans x.1) fun h' tk' ea kk hn hobj => ?_
  refine wpAny_bind (wpAny_standAt (wpAny_pure ?_))
  obtain ⟨oe, vs, a0, h1, h2, h3, h4, h5⟩ := hobj
  exact ⟨ea, oe, vs, rfl, kk _ _ (I'.kin _ _ hC), h1, h2, h3, h5, e k ea m μ' B' s' _ T I' rfl rfl rfl (.inl ⟨kk, hn, oe, vs, a0, h1, h2, h3, h4, h5⟩) x.2⟩
end
end P279
end
section
open PySem PySem.W PyProof.Rows PySem.Spec PySem.Calls
namespace P279
theorem sub_dom {μ μ' : Mut} (h : μ'.Sublist μ) : (μ'.map (·.1)).Sublist (μ.map (·.1)) := h.map _
section
variable {G : Cfg} {c : Act} {fr : List Env} {m : Loc} {μ μ₁ μ' : Mut} {B B' : BM} {s s' : Shared}
theorem BInv.drop (I : BInv G fr μ B s) (h : μ'.Sublist μ) : BInv G fr μ' B s := I.sub (fun _ hp => h.mem hp) ((sub_dom h).nodup I.nd)
theorem Inv.drop (I : Inv G c m μ B s) (h : μ'.Sublist μ) : Inv G c m μ' B s :=
  { I with toBInv := I.toBInv.drop h, privM := fun a ha hm => I.privM a ha ((sub_dom h).mem hm) }
theorem Trans.drop {own frA : List Addr} (T : Trans own frA μ B s μ₁ B' s') (h : μ'.Sublist μ₁) : Trans own frA μ B s μ' B' s' :=
  ⟨T.le, T.newB, fun a ha => T.newM a ((sub_dom h).mem ha), T.keep, T.live, T.gens, T.os, T.drawn⟩
theorem del_sub (μ : Mut) (a : Addr) : (μ.del a).Sublist μ := List.filter_sublist
theorem del_not (μ : Mut) (a : Addr) : a ∉ (μ.del a).map (·.1) := by
  intro h
  obtain ⟨p, hp, rfl⟩ := List.mem_map.mp h
  have := (List.mem_filter.mp hp).2
  simp at this
theorem Inv.freeze {a : Addr} {ds : List PyData} (I : Inv G c m μ B s) (h : μ.lookup a = some ds) :
    ∃ B', Inv G c m (μ.del a) B' s ∧ TransC c μ B s (μ.del a) B' s ∧ V B' (.ref a) (.list ds) ∧ BLe B B' := by
  obtain ⟨hB, n, vs, ho, hv⟩ := I.mu _ (lookup_mem h)
  dsimp only at hB ho hv
  have hdom : a ∈ μ.map (·.1) := List.mem_map_of_mem (f := (·.1)) (lookup_mem h)
  have hp : a ∉ c.priv := fun z => I.privM a z hdom
  have le := BM.put_le (o := listOf vs n) hB
  have I₁ := I.drop (del_sub μ a)
  refine ⟨B.put a (listOf vs n), ⟨⟨I₁.gf, fun b o e => le b o (I.base b o e), fun b o e => ?_, fun b hb => ?_, fun p hp => ?_, I₁.nd, I₁.fun_⟩, I.ok, ?_, I.live, fun b hb => ?_, I₁.privM, I.cellOk⟩, ?_, V.list BM.put_self (hv.mono le), le⟩
  · unfold BM.put at e
    by_cases q : b = a
    · rw [if_pos q] at e; cases e; rw [q]; exact ho
    · rw [if_neg q] at e; exact I.keep b o e
  · have : b ≠ a := by rintro rfl; exact hp (List.mem_append_right _ (List.mem_append_left _ hb))
    unfold BM.put
    rw [if_neg this]; exact I.frB b hb
  · obtain ⟨h1, n', vs', h2, h3⟩ := I₁.mu p hp
    refine ⟨?_, n', vs', h2, h3.mono le⟩
    have : p.1 ≠ a := by 
      intro q
      have := List.mem_map_of_mem (f := (·.1)) hp
      rw [q] at this
      exact del_not μ a this
    unfold BM.put
    rw [if_neg this]; exact h1
  · obtain ⟨mr, hn, hl⟩ := I.loc
    exact ⟨mr, hn, fun x d e => let ⟨v, hv, r⟩ := hl x d e; ⟨v, hv.mono le, r⟩⟩
  · have : b ≠ a := by rintro rfl; exact hp hb
    unfold BM.put
    rw [if_neg this]; exact I.privB b hb
  · refine ⟨le, fun b hb => ?_, fun b hb => .inl ((sub_dom (del_sub μ a)).mem hb), fun b o e _ _ => ⟨fun _ => e, o.slots, e⟩, fun _ h => h, rfl, rfl, rfl⟩
    rcases BM.put_ne hb with rfl | hb
    · exact .inr (.inl hdom)
    · exact .inl hb
end
section
variable {G : Cfg} {c : Act} {m : Loc} {μ : Mut} {E : Cl → Mut → Prop} {Q : D → Mut → Prop}
theorem WX.settle {α β : Type} {rel : BM → α → β → Prop} {t : Sem α} {B : BM} {s : Shared} {Q Q' : β → Mut → Prop} (h : WX G c rel t m μ B s Q' E)
    (hs : ∀ a b μ₁ B₁ s₁, Inv G c m μ₁ B₁ s₁ → rel B₁ a b → Q' b μ₁ → ∃ b' μ₂ B₂, Inv G c m μ₂ B₂ s₁ ∧ TransC c μ₁ B₁ s₁ μ₂ B₂ s₁ ∧ rel B₂ a b' ∧ Q b' μ₂) : WX G c rel t m μ B s Q E := by
  intro Qr Er hp q e
  refine WX.use h (Trans.refl ..) hp e fun a b μ₁ B₁ s₁ T₁ _ I₁ R₁ h₁ => ?_
  obtain ⟨b', μ₂, B₂, I₂, T₂, R₂, h₂⟩ := hs a b μ₁ B₁ s₁ I₁ R₁ h₁
  exact q a b' m μ₂ B₂ s₁ (T₁.trans T₂) I₂ R₂ ⟨rfl, h₂⟩
theorem WE_freeze {e : Expr} (h : WE G c e m μ (fun d μ₁ => ∃ a ds, d = .loc a ∧ μ₁.lookup a = some ds ∧ Q (.t (.list ds)) (μ₁.del a)) E) : WE G c e m μ Q E := fun B s I =>
  (h B s I).settle fun v d μ₁ B₁ s₁ I₁ R h₁ => by
    obtain ⟨a, ds, rfl, hl, hq⟩ := h₁
    cases R
    obtain ⟨B', I', T', V', _⟩ := I₁.freeze hl
    exact ⟨.t (.list ds), _, B', I', T', V', hq⟩
theorem lookup_head {a : Addr} {ds : List PyData} {μ : Mut} : List.lookup a ((a, ds) :: μ) = some ds := by rw [List.lookup_cons]; simp
theorem upd_head {a : Addr} {ds es : List PyData} {μ : Mut} (h : a ∉ μ.map (·.1)) : Mut.upd ((a, ds) :: μ) a es = (a, es) :: μ := by
  unfold Mut.upd
  rw [List.map_cons, if_pos rfl]
  congr 1
  have : μ.map (fun p => if p.1 = a then (a, es) else p) = μ.map id := List.map_congr_left fun p hp => by
    have : p.1 ≠ a := by intro q; exact h (q ▸ List.mem_map_of_mem (f := (·.1)) hp)
    rw [if_neg this]; rfl
  rw [this, List.map_id]
theorem del_head {a : Addr} {ds : List PyData} {μ : Mut} (h : a ∉ μ.map (·.1)) : Mut.del ((a, ds) :: μ) a = μ := by
  unfold Mut.del
  rw [List.filter_cons, if_neg (by simp)]
  refine List.filter_eq_self.mpr fun p hp => ?_
  have : p.1 ≠ a := by intro q; exact h (q ▸ List.mem_map_of_mem (f := (·.1)) hp)
  simpa using this
end
theorem CallOK.dropped {G : Cfg} {f : Addr} {args : List D} {μ : Mut} {n : Nat} {Q : D → Mut → Prop} {E : Cl → Mut → Prop} (h : CallOK G f args μ n (fun d μ' => ∃ μ'', μ''.Sublist μ' ∧ Q d μ'') (fun k μ' => ∃ μ'', μ''.Sublist μ' ∧ E k μ'')) : CallOK G f args μ n Q E :=
  fun A fr B s vals R hr hf hh I hfm hv q e => h A fr B s vals R hr hf hh I hfm hv
    (fun v d μ' B' s' T J hV x => by obtain ⟨μ'', hs, x⟩ := x; exact q v d μ'' B' s' (T.drop hs) (J.drop hs) hV x)
    fun k a μ' B' s₁ s' T J g o d R x => by obtain ⟨μ'', hs, x⟩ := x; exact e k a μ'' B' s₁ s' (T.drop hs) (J.drop hs) g o d R x
end P279
end
section
open PySem PySem.W PyProof.Rows PySem.Spec PySem.Calls
namespace P279
theorem bindL_other {k : Str → Option NameKind} {x : Str} : ∀ {l : List (Str × Value)} {m : Str → Option Value}, x ∉ l.map (·.1) → bindL k l m x = m x
  | [], _, _ => rfl
  | (n, v) :: r, m, h => by
    rw [List.map_cons, List.mem_cons, not_or] at h
    show bindL k r (if k n = some .local then fun y => if y = n then some v else m y else m) x = m x
    rw [bindL_other h.2]
    split
    · exact if_neg h.1
    · rfl
theorem bindL_at {k : Str → Option NameKind} {x : Str} {v : Value} (hk : k x = some .local) : ∀ {l : List (Str × Value)} {m : Str → Option Value}, (l.map (·.1)).Nodup → (x, v) ∈ l → bindL k l m x = some v
  | [], _, _, h => nomatch h
  | (n, w) :: r, m, hn, h => by
    rw [List.map_cons, List.nodup_cons] at hn
    show bindL k r (if k n = some .local then fun y => if y = n then some w else m y else m) x = some v
    rcases List.mem_cons.mp h with h | h
    · cases h
      rw [bindL_other hn.1, if_pos hk]; exact if_pos rfl
    · exact bindL_at hk hn.2 h
theorem bindC_other {k : Str → Option NameKind} {x : Str} : ∀ {l : List (Str × Value)} {m : Str → Option Value}, x ∉ l.map (·.1) → bindC k l m x = m x
  | [], _, _ => rfl
  | (n, v) :: r, m, h => by
    rw [List.map_cons, List.mem_cons, not_or] at h
    show bindC k r (if k n = some .local then m else fun y => if y = n then some v else m y) x = m x
    rw [bindC_other h.2]
    split
    · rfl
    · exact if_neg h.1
theorem bindC_at {k : Str → Option NameKind} {x : Str} {v : Value} (hk : k x = some .cell) : ∀ {l : List (Str × Value)} {m : Str → Option Value}, (l.map (·.1)).Nodup → (x, v) ∈ l → bindC k l m x = some v
  | [], _, _, h => nomatch h
  | (n, w) :: r, m, hn, h => by
    rw [List.map_cons, List.nodup_cons] at hn
    show bindC k r (if k n = some .local then m else fun y => if y = n then some w else m y) x = some v
    rcases List.mem_cons.mp h with h | h
    · cases h
      rw [bindC_other hn.1, if_neg (by rw [hk]; decide)]; exact if_pos rfl
    · exact bindC_at hk hn.2 h
noncomputable abbrev actOfC (A : Around) (fr : List Env) (qual : Str) (scope : Scope) (L f : Addr) (cdv : Value) : Act :=
  ⟨A.deeper (envOfC qual scope L f cdv), envOfC qual scope L f cdv, envOfC qual scope L f cdv :: fr, [L, L + 1]⟩
section
variable {G : Cfg} {μ μ' : Mut} {B B' : BM} {s s' : Shared} {name qual : Str} {params : Arguments} {body : List Stmt} {scope : Scope} {dV kV doc pm cdv ct oc : Value} {an od : Option Addr} {osl : Array (Option Value)} {f : Addr} {fr : List Env} {env : Env} {L : Addr}
theorem Trans.outC {h₁ : Heap} {tk : Nat} (k : ∀ b o, s.heap.get? b = some o → h₁.get? b = some o) (hL : s.heap.get? L = none) (hL' : s.heap.get? (L + 1) = none) (hf : env.frame = some L)
    (T : Trans [L, L + 1] (frs (env :: fr)) μ B { s with heap := h₁, toks := tk } μ' B' s') : Trans [] (frs fr) μ B s μ' B' s' := by
  have nk : ∀ a, h₁.get? a = none → s.heap.get? a = none := fun a e => by
    cases q : s.heap.get? a with
    | none => rfl
    | some o => rw [k a o q] at e; cases e
  have ne : ∀ b o, s.heap.get? b = some o → b ≠ L ∧ b ≠ L + 1 := by
    intro b o e
    constructor
    · rintro rfl; rw [hL] at e; cases e
    · rintro rfl; rw [hL'] at e; cases e
  refine ⟨T.le, fun a h => (T.newB a h).imp id fun z => z.imp id (nk a), fun a h => (T.newM a h).imp id (nk a), fun b o e hm _ => ?_, fun b h => ?_, T.gens, T.os, T.drawn⟩
  · have x := T.keep b o (k b o e) hm (by simpa using ne b o e)
    refine ⟨fun hf' => x.1 ?_, x.2⟩
    rw [frs_cons hf]
    simp only [List.mem_cons, not_or]
    exact ⟨(ne b o e).1, hf'⟩
  · cases q : s.heap.get? b with
    | none => exact absurd q h
    | some o => exact T.live b (by show h₁.get? b ≠ none; rw [k b o q]; exact nofun)
theorem CallOK.of_bodyC {ds : List D} {n : Nat} {Q : D → Mut → Prop} {E : Cl → Mut → Prop} (names : List Str) (cn : Str)
    (ho : G.K.lookup f = some ⟨oc, od, .func (fnOf name qual params body scope dV kV doc pm an cdv ct), osl⟩) (hcd : codeIn G.K cdv qual = true)
    (hbind : ∀ vals : List Value, vals.length = names.length → bindArgs (fnOf name qual params body scope dV kV doc pm an cdv ct) ⟨vals, []⟩ = pure (names.zip vals))
    (hlen : ds.length = names.length) (hnd : names.Nodup) (hcs : ∀ L, cellsFrom (L + 1) scope.names [] = [(cn, L + 1)]) (hloc : ∀ x ∈ names, scope.names.lookup x = some .local ∨ (scope.names.lookup x = some .cell ∧ x = cn))
    (h : ∀ A fr L, Room (actOfC A fr qual scope L f cdv).A n → WSs G (actOfC A fr qual scope L f cdv) body (names.zip ds) μ (fun fl _ μ' => Q (flRet fl) μ') (fun k _ μ' => E k μ'))
    (hco : scope.isCoroutine = false := by rfl) (hgen : scope.isGenerator = false := by rfl) (hk : scope.kind = .function := by rfl) : CallOK G f ds μ (n + 1) Q E := by
  intro A fr B s vals R hr hfr hh I hfm hv q e
  have hlv : vals.length = names.length := hv.length.trans hlen
  have hm : ((names.zip vals).map (·.1)) = names := map_zip_fst hlv
  have hin : ∀ x ∈ names.zip vals, x.1 ∈ names := fun x hx => by rw [← hm]; exact List.mem_map_of_mem hx
  refine codeAny_call_cells (fd := fnOf name qual params body scope dV kV doc pm an cdv ct) (body := body) (binds := names.zip vals) (by have := hr.1; unfold recursionLimit; lia) ((I.gf.kin.keeps (fun b o e => I.keep b o (I.base b o e))) _ _ ho) rfl (I.gf.lim.keeps (fun b o e => I.keep b o (I.base b o e))) (codeRec_of (I.gf.kin.keeps (fun b o e => I.keep b o (I.base b o e))) hcd) rfl (hbind vals hlv) rfl (fun x hx => ?_) (fun s₁ X => ?_) hco hgen hk
  · refine (hloc _ (hin x hx)).imp id fun ⟨a, b⟩ => ⟨a, ?_⟩
    show ((cellsFrom (s.heap.objs.size + 1) scope.names []).lookup x.1).isSome = true
    rw [hcs, b]; simp
  show wpAny G.M (A.deeper (envOfC qual scope s.heap.objs.size f cdv)) (execs body (envOfC qual scope s.heap.objs.size f cdv)) _ _ _
  have X : InCallC s (envOfC qual scope s.heap.objs.size f cdv).locals (bindL (envOfC qual scope s.heap.objs.size f cdv).kindOf (names.zip vals) fun _ => none) (envOfC qual scope s.heap.objs.size f cdv).cells (bindC (envOfC qual scope s.heap.objs.size f cdv).kindOf (names.zip vals) fun _ => none) s₁ := X
  generalize hL : s.heap.objs.size = L at X
  have hfresh : s.heap.get? L = none := Heap.get?_none_of_le (by lia)
  have hfresh' : s.heap.get? (L + 1) = none := Heap.get?_none_of_le (by lia)
  have hcells : (envOfC qual scope L f cdv).cells = [(cn, L + 1)] := hcs L
  have hns := X.toInCall.ns
  have hcell : s₁.heap.IsCell (L + 1) (bindC (envOfC qual scope L f cdv).kindOf (names.zip vals) (fun _ => none) cn) := X.cell cn (L + 1) (by rw [hcells]; simp)
  obtain ⟨h₁, tk, rfl, hk₁⟩ := X.done
  dsimp only at hns hcell
  obtain ⟨oL, es, ep, hLo, hLd, hLl, hLr⟩ := id hns
  have hLo : h₁.get? L = some oL := hLo
  obtain ⟨oC, hCo, hCd⟩ := id hcell
  have fund : ∀ a ∈ frs fr, ∃ o, s.heap.get? a = some o := fun a ha => let ⟨o, h, _⟩ := FunFrames.live I.fun_ ha; ⟨o, h⟩
  have hLfr : L ∉ frs fr := fun hm => by obtain ⟨o, ho⟩ := fund L hm; rw [hfresh] at ho; cases ho
  have Irm : BInv G fr μ B { s with heap := h₁, toks := tk } := I.ext hk₁
  have privs : ∀ a, a ∈ (actOfC A fr qual scope L f cdv).priv → a = L ∨ a = L + 1 ∨ a ∈ frs fr := fun a ha => by
    have ha1 : a ∈ [L, L + 1] ++ ((L :: frs fr) ++ ((envOfC qual scope L f cdv).cells.map (·.2))) := ha
    rw [hcells] at ha1
    simp at ha1
    rcases ha1 with h | h | h | h | h <;> simp [h]
  have I₀ : Inv G (actOfC A fr qual scope L f cdv) (names.zip ds) μ B { s with heap := h₁, toks := tk } := by
    refine ⟨⟨Irm.gf, Irm.base, Irm.keep, fun a ha => ?_, Irm.mu, Irm.nd, ⟨by show scope.kind ≠ .module; rw [hk]; decide, ⟨L, oL, rfl, emptyHeap_get L, hLo, by rw [hLd]; exact nofun⟩, Irm.fun_⟩⟩,
      ⟨?_, hh, hk, rfl, rfl, ⟨_, _, L, rfl, rfl, rfl⟩, ?_, List.Mem.head _, fun x y a hx hy => ?_⟩, ⟨_, hns, fun x d hx => ?_⟩, fun a ha => ?_, fun a ha => ?_, fun a ha => ?_, fun p hp => ?_⟩
    · rw [frs_cons (L := L) rfl] at ha
      rcases List.mem_cons.mp ha with rfl | ha
      · exact I.noB hfresh
      · exact I.frB a ha
    · show A.frames.map _ = _; rw [hfr]; rfl
    · refine ⟨?_, ?_⟩
      · have := hr.1; show A.depth + 1 + _ + _ ≤ _; lia
      · have := hr.2; show A.units + 3 + _ + _ ≤ _; lia
    · rw [hcells] at hx hy
      rw [List.lookup_cons] at hx hy
      split at hx
      · split at hy
        · rename_i q1 _ q2; rw [beq_iff_eq.mp q1, beq_iff_eq.mp q2]
        · cases hy
      · cases hx
    · obtain ⟨v, hz, hvd⟩ := zip_mem hv (Loc.get_mem hx)
      have hnd' : ((names.zip vals).map (·.1)).Nodup := by rw [hm]; exact hnd
      refine ⟨v, hvd, ?_⟩
      rcases hloc x (hin _ hz) with hl | ⟨hl, rfl⟩
      · exact .inl ⟨hl, bindL_at hl hnd' hz⟩
      · refine .inr ⟨hl, L + 1, by rw [hcells]; simp, ?_⟩
        rw [bindC_at hl hnd' hz] at hcell
        exact hcell
    · rcases privs a ha with rfl | rfl | ha'
      · show h₁.get? _ ≠ none; rw [hLo]; exact nofun
      · show h₁.get? _ ≠ none; rw [hCo]; exact nofun
      · obtain ⟨o, ho⟩ := fund a ha'; show h₁.get? _ ≠ none; rw [hk₁ a o ho]; exact nofun
    · rcases privs a ha with rfl | rfl | ha'
      · exact I.noB hfresh
      · exact I.noB hfresh'
      · exact I.frB a ha'
    · rcases privs a ha with rfl | rfl | ha'
      · intro hM; exact I.liveM hM hfresh
      · intro hM; exact I.liveM hM hfresh'
      · exact hfm a ha'
    · rw [hcells] at hp
      simp at hp
      subst hp
      exact ⟨_, hcell⟩
  refine h A fr L ?_ B _ I₀ _ _ PassesOwn.leaving (fun a fl m' μ' B' s' T I' rel x => ?_) (fun k e' m' μ' B' s₁ s' T I' g o d R' x => ?_)
  · refine ⟨?_, ?_⟩
    · have := hr.1; show A.depth + 1 + _ + _ ≤ _; lia
    · have := hr.2; show A.units + 3 + _ + _ ≤ _; lia
  · have T' := Trans.outC (env := envOfC qual scope L f cdv) hk₁ hfresh hfresh' rfl T
    have J : BInv G fr μ' B' s' := BInv.pop I'.toBInv
    cases a <;> cases fl <;> first | exact rel.elim | skip
    · exact q .none (.t .none) μ' B' s' T' J V.none x
    · exact q .none (.t .none) μ' B' s' T' J V.none x
    · exact q .none (.t .none) μ' B' s' T' J V.none x
    · exact q _ _ μ' B' s' T' J rel x
  · have T' := Trans.outC (env := envOfC qual scope L f cdv) hk₁ hfresh hfresh' rfl T
    have J : BInv G fr μ' B' s₁ := BInv.pop I'.toBInv
    have hLp : L ∈ (actOfC A fr qual scope L f cdv).priv := List.mem_append_left _ (.head _)
    refine Raised.leave (by show A.frames.map _ = _; rw [hfr]; rfl) rfl I'.fun_ R' fun h' R'' => ?_
    exact e k e' μ' B' _ _ (T'.hide hfresh) (J.hide (I'.privB L hLp) (I'.privM L hLp) hLfr) g o d R'' x
end
end P279
end
section
open PySem PySem.W PyProof.Rows PySem.Spec PySem.Calls
namespace P279
theorem noteFrame_congr {x : Value} {env env' : Env} (h : env.frame = env'.frame) : noteFrame x env = noteFrame x env' := by
  unfold noteFrame PySem.frameOf
  rw [h]
section
variable {M : Model} {A : Around} {fr r : List Env} {env e0 : Env} {L e : Addr} {cls a0 : Value} {s₁ s s' : Shared} {base : Heap}
theorem Raised.noted {E : Value → Shared → Prop} {Q : Unit → Shared → Prop} (hfr : A.frames = some fr) (hd : fr = e0 :: r) (hf0 : e0.frame = some L) (hf : env.frame = some L) (hfun : s₁.heap.FunFrames emptyHeap fr) (h : Raised fr cls e s₁.heap s'.heap)
    (hQ : ∀ h' a0, Heap.HeldW (hideAll s₁.heap (frs fr)) fr e cls a0 L h' → s₁.heap.UpToSlots h' → Q () { s' with heap := h' }) : wpAny M A (noteFrame (.ref e) env) Q E s' := by
  rw [noteFrame_congr (hf.trans hf0.symm)]
  subst hd
  rcases h with ⟨k, hn, oe, vs, a0, he, rfl, hd, h0, h1⟩ | ⟨a0, hfl, hup⟩ | ⟨a0, _, _, L', rfl', hf', hh, hup⟩
  · have st : (hideAll s₁.heap (frs (e0 :: r))).StaysIn s'.heap := fun b o e => k b o (of_hideAll _ e)
    have hen : (hideAll s₁.heap (frs (e0 :: r))).get? e = none := by
      cases q : (hideAll s₁.heap (frs (e0 :: r))).get? e with
      | none => rfl
      | some o => have := of_hideAll _ q; rw [hn] at this; cases this
    have fl : s'.heap.FunFrames (hideAll s₁.heap (frs (e0 :: r))) (e0 :: r) := funFrames_base (fun a ha => hideAll_none _ ha) (funFrames_keep (fun b o e h => ⟨o, k b o e, h⟩) hfun)
    unfold noteFrame
    simp only [hf0]
    refine wpAny_bind (wpAny_field he hd h1 ?_)
    rw [if_neg (by decide)]
    refine wpAny_entryW hfr fl hf0 he st hen hd (Array.getElem?_eq_some_iff.mp h1).1 h0 fun h' ⟨x1, x2, x3, x4⟩ => ?_
    exact hQ h' a0 ⟨x1, hen, x2, x3⟩ fun b o e hnf => x4 b o (k b o e) hnf
  · refine wpAny_looks_onW hfr hf0 hfl fun h' hh hup' => hQ h' a0 hh (hup.trans hup')
  · cases rfl'
    rw [hf0] at hf'; cases hf'
    refine wpAny_noteFrame_againW hf0 hh.2.2.2 ?_
    exact hQ s'.heap a0 hh hup
theorem held_passOn {α : Type} {E : Value → Shared → Prop} {Q : α → Shared → Prop} {w : String} (hf : env.frame = some L) (hh : Heap.HeldW base fr e cls a0 L s.heap)
    (hE : ∀ h', Heap.HeldW base fr e cls a0 L h' → s.heap.UpToSlots h' → E (.ref e) { s with heap := h' }) : wpAny M A (PySem.passOn w (.ref e) env : Sem α) Q E s := by
  obtain ⟨hkb, hen, hl, oe, vs, T, oT, ts, he, hcls, hd, h1, hnT, hTe, hT, hdT, h3⟩ := hh
  have hsz3 : 3 < ts.size := (Array.getElem?_eq_some_iff.mp h3).1
  have other : ∀ b, b ≠ T → (s.heap.update T (Obj.mapFields (·.setIfInBounds 3 (rawInt L)))).get? b = s.heap.get? b := fun b hb => Heap.get?_update_other _ _ (Ne.symm hb)
  have noRecord : ∀ b o, s.heap.get? b = some o → (∀ vs, o.data ≠ .fields vs) → b ≠ T := fun b o hb hnf q => by
    rw [q, hT] at hb; injection hb with hb; subst hb; exact hnf ts hdT
  unfold PySem.passOn setFlight
  refine wpAny_bind (wpAny_field he hd h1 ?_)
  rw [if_neg (by simp)]
  refine wpAny_bind (wpAny_bind (wpAny_field he hd h1 ?_))
  rw [if_pos (show (Value.ref T != Value.none) = true from by simp), hf]
  refine wpAny_setField hT hdT hsz3 (wpAny_throw (hE _ ⟨fun b o hbo => (other b fun q => by rw [q, hnT] at hbo; cases hbo).trans (hkb b o hbo), hen,
    hl.of_keeps fun b o hb hnf => ⟨o, (other b (noRecord b o hb hnf)).trans hb, rfl⟩, ?_⟩ fun b o hb hnf => ⟨o.slots, (other b (noRecord b o hb hnf)).trans hb⟩))
  exact ⟨oe, vs, T, _, _, (other e (Ne.symm hTe)).trans he, hcls, hd, h1, hnT, hTe, Heap.get?_update_self _ hT (Obj.isFreed_of_fields (Obj.data_mapFields hdT _)), Obj.data_mapFields hdT _, by simp [hsz3]⟩
theorem funFrames_at' {h h' base : Heap} {l : List Env} (H : h.FunFrames base l) (k : ∀ L ∈ frs l, ∀ o, h.get? L = some o → (∀ vs, o.data ≠ .fields vs) → ∃ o', h'.get? L = some o' ∧ ∀ vs, o'.data ≠ .fields vs) : h'.FunFrames base l := funFrames_at k H
theorem held_but {C : Addr} {h₁ h h' : Heap} {oC : Obj} (hC : h₁.get? C = some oC) (hCd : ∀ vs, oC.data ≠ .fields vs) (hCf : C ∉ frs fr) (hh : Heap.HeldW (hideAll h₁ (frs fr)) fr e cls a0 L h) (hup : h₁.UpToSlots h) (hs : Heap.SameBut C h h') :
    Heap.HeldW (hideAll (h₁.hide C) (frs fr)) fr e cls a0 L h' ∧ (h₁.hide C).UpToSlots h' := by
  obtain ⟨hkb, hen, hl, oe, vs, T, oT, ts, he, hcls, hd, h1, hnT, hTe, hT, hdT, h3⟩ := hh
  have sub : ∀ b o, (hideAll (h₁.hide C) (frs fr)).get? b = some o → b ≠ C ∧ (hideAll h₁ (frs fr)).get? b = some o := fun b o e => by
    have e1 := of_hideAll _ e
    have hb : b ≠ C := by
      rintro rfl
      rw [hide_self'] at e1; cases e1
    refine ⟨hb, hideAll_get _ (Heap.of_hide e1) fun hm => ?_⟩
    rw [hideAll_none _ hm] at e; cases e
  obtain ⟨slC, hC'⟩ := hup C oC hC hCd
  have nfC : ∀ o, h.get? C = some o → ∀ vs, o.data ≠ .fields vs := fun o e vs z => by rw [hC'] at e; cases e; exact hCd vs z
  have eC : e ≠ C := by rintro rfl; exact nfC _ he _ hd
  have TC : T ≠ C := by rintro rfl; exact nfC _ hT _ hdT
  have nn : ∀ b, (hideAll h₁ (frs fr)).get? b = none → (hideAll (h₁.hide C) (frs fr)).get? b = none := fun b e => by
    cases q : (hideAll (h₁.hide C) (frs fr)).get? b with
    | none => rfl
    | some o => rw [(sub b o q).2] at e; cases e
  refine ⟨⟨fun b o e => (hs.2 b (sub b o e).1).trans (hkb b o (sub b o e).2), nn _ hen, ?_, oe, vs, T, oT, ts, (hs.2 e eC).trans he, hcls, hd, h1, nn _ hnT, hTe, (hs.2 T TC).trans hT, hdT, h3⟩, fun b o e hnf => ?_⟩
  · have : h.FunFrames (hideAll (h₁.hide C) (frs fr)) fr := funFrames_base (fun a ha => hideAll_none _ ha) hl
    refine funFrames_at' this fun L hL o ho hd => ⟨o, (hs.2 L (by rintro rfl; exact hCf hL)).trans ho, hd⟩
  · have hb : b ≠ C := by rintro rfl; rw [hide_self'] at e; cases e
    obtain ⟨sl, h2⟩ := hup b o (Heap.of_hide e) hnf
    exact ⟨sl, (hs.2 b hb).trans h2⟩
end
end P279
end
section
open PySem PySem.W PyProof.Rows PySem.Spec PySem.Calls
namespace P279
noncomputable abbrev compAct (c : Act) (scope : Scope) (cl : List (Str × Addr)) (C : Addr) : Act := ⟨c.A, compEnvC scope cl C c.env, c.fr, [C]⟩
section
variable {G : Cfg} {c : Act} {fr : List Env} {m : Loc} {μ μ' : Mut} {B B' : BM} {s s' : Shared} {C : Addr}
theorem kept_priv {ow : List Addr} (I : Inv G c m μ B s) (hC : ∀ x ∈ ow, x ∉ c.priv) (T : Trans ow (frs c.fr) μ B s μ' B' s') {a : Addr} {o : Obj} (h : a ∈ c.priv) (e : s.heap.get? a = some o) : ∃ sl, s'.heap.get? a = some { o with slots := sl } :=
  (T.keep a o e (fun hc => I.privM a h hc) (fun z => hC a z h)).2
theorem Inv.backC {ow : List Addr} (I : Inv G c m μ B s) (hC : ∀ x ∈ ow, x ∉ c.priv) (T : Trans ow (frs c.fr) μ B s μ' B' s') (J : BInv G c.fr μ' B' s') : Inv G c m μ' B' s' := by
  have nB : ∀ a, a ∈ c.priv → B' a = none := fun a h => by
    cases q : B' a with
    | none => rfl
    | some o =>
      exfalso
      rcases T.newB a (by rw [q]; exact nofun) with z | z | z
      · exact z (I.privB a h)
      · exact I.privM a h z
      · exact I.live a h z
  refine ⟨J, I.ok, ?_, fun a ha => T.live a (I.live a ha), nB, fun a ha hm => ?_, fun p hp => ?_⟩
  · obtain ⟨mr, hn, hl⟩ := I.loc
    refine ⟨mr, ?_, fun x d e => ?_⟩
    · obtain ⟨o, es, ep, ho, hd, r⟩ := hn
      obtain ⟨sl, h⟩ := kept_priv I hC T (List.mem_append_left _ I.ok.ownL) ho
      exact ⟨_, es, ep, h, hd, r⟩
    · obtain ⟨v, hv, h⟩ := hl x d e
      refine ⟨v, hv.mono T.le, h.imp id fun ⟨hk, ca, hc, o, ho, hd⟩ => ⟨hk, ca, hc, ?_⟩⟩
      obtain ⟨sl, h⟩ := kept_priv I hC T (List.mem_append_right _ (List.mem_append_right _ (lookup_snd hc))) ho
      exact ⟨_, h, hd⟩
  · rcases T.newM a hm with z | z
    · exact I.privM a ha z
    · exact I.live a ha z
  · obtain ⟨v, o, ho, hd⟩ := I.cellOk p hp
    obtain ⟨sl, h⟩ := kept_priv I hC T (List.mem_append_right _ (List.mem_append_right _ (List.mem_map_of_mem hp))) ho
    exact ⟨v, _, h, hd⟩
noncomputable def WIfs (G : Cfg) (c : Act) (ifs : List Expr) (m : Loc) (μ : Mut) (Q : Bool → Mut → Prop) (E : Cl → Mut → Prop) : Prop :=
  ∀ B s, Inv G c m μ B s → WX G c rB (forIn ifs true fun x r => if r = true then do let ok ← isTrue x c.env (eval x c.env); pure (ForInStep.yield ok) else pure (ForInStep.yield r)) m μ B s Q E
theorem WIfs_nil {Qb : Bool → Mut → Prop} {E : Cl → Mut → Prop} (h : Qb true μ) : WIfs G c [] m μ Qb E := fun B s I => WX.of_toks I fun _ _ q => wpAny_tests_nil (q _ s.toks _ rfl h)
theorem WIfs_one {x : Expr} {Qb : Bool → Mut → Prop} {E : Cl → Mut → Prop} (h : WB G c x m μ Qb E) : WIfs G c [x] m μ Qb E := fun B s I Qr Er hp q e => wpAny_tests_one (h B s I Qr Er hp q e)
noncomputable def CompSpec (G : Cfg) (c : Act) (scope : Scope) (cl : List (Str × Addr)) (m₀ : Loc) (x : Str) (ifs : List Expr) (elt : Expr) (items : List D) (μ : Mut) (Q : D → Mut → Prop) (E : Cl → Mut → Prop) : Prop :=
  ∃ J : List D → List PyData → Prop, J [] [] ∧ (∀ done out, J done out → out.length ≤ done.length) ∧
    (∀ done y rest out, items = done ++ y :: rest → J done out → ∀ C D, D ∉ μ.map (·.1) →
      WIfs G (compAct c scope cl C) ifs ((x, y) :: m₀) ((D, out) :: μ) (fun b μ' => μ' = (D, out) :: μ ∧ if b = true then
        WE G (compAct c scope cl C) elt ((x, y) :: m₀) ((D, out) :: μ) (fun d μ'' => μ'' = (D, out) :: μ ∧ ∃ p, d = .t p ∧ J (done ++ [y]) (out ++ [p])) (fun k μ'' => ∃ μ₃, μ₃.Sublist μ'' ∧ E k μ₃)
        else J (done ++ [y]) out) (fun k μ'' => ∃ μ₃, μ₃.Sublist μ'' ∧ E k μ₃)) ∧
    ∀ out, J items out → ∀ a, a ∉ μ.map (·.1) → Q (.loc a) ((a, out) :: μ)
end
theorem wpAny_pyIter_self {prog : Program} {w : World} {A : Around} {E : Value → Shared → Prop} {s : Shared} {d : D} {v : Value} {i : Nat} {a : Addr} {Q : Value → Shared → Prop} (st : ItSt d v i s.heap a) (h : Q (.ref a) s) : wpAny (model prog w) A (pyIter (.ref a)) Q E s := by
  cases d with
  | t d =>
    cases d with
    | str x =>
      obtain ⟨x', t, rfl, hst⟩ := st
      split at hst
      · exact wpAny_pyIter_striter_ascii hst h
      · exact wpAny_pyIter_striter_wide hst h
    | list ds => obtain ⟨l, rfl, hst⟩ := st; exact wpAny_pyIter_listiter hst h
    | tuple ds => obtain ⟨l, rfl, hst⟩ := st; exact wpAny_pyIter_tupleiter hst h
    | _ => exact st.elim
  | rng lo hi =>
    have hT : s.TypeIs (.ref a) "range_iterator" := ⟨_, st, rfl⟩
    refine wpAny_pyIter_slot hT F.slot_range_iterator_iter (wpAny_call_entry F.slot_range_iterator_iter hT F.entry_range_iterator_iter ?_ (F.args_range_iterator_iter_1 _))
    show wpAny _ _ (ret (.ref a)) _ _ s
    exact wpAny_pure ⟨_, rfl, "range_iterator", _, hT, F.slot_range_iterator_next.lookup, h⟩
  | _ => exact st.elim
end P279
end
section
open PySem PySem.W PyProof.Rows PySem.Spec PySem.Calls
set_option maxHeartbeats 1000000
namespace P279
theorem comp_open {M : Model} {A : Around} {E : Value → Shared → Prop} {s : Shared} {env : Env} {e : Expr} {scope : Scope} {pos : Pos} {newAcc first : Sem Value} {g : Comprehension} {gs : List Comprehension} {cl : List (Str × Addr)} {Q : Value → Shared → Prop}
    (hcl : clausesOf e = g :: gs) (hs : ∀ x, foldedSetIterable g.iter env x = pure x) (hclos : closureFor scope env = pure cl)
    (hkind : scope.kind = .function) (hnames : ∀ x ∈ scope.names, x.2 = .local → scope.names.lookup x.1 = some .local)
    (h : wpAny M A first (fun x s₁ => wpAny M A (pyIter x) (fun it s₂ => wpAny M A newAcc (fun acc s₃ =>
      wpAny M A (newFunctionEnv scope env.globals cl [] env.qual none .none (some env)) (fun cenv s₄ =>
        codeAny M A (.compStart e 0 it acc { cenv with scope := relabel scope env }) (fun r s' => match r with
          | .ok _ => ∃ m, s'.heap.Ns cenv.locals m ∧ ∀ h', Heap.SameBut cenv.locals s'.heap h' → Q acc { s' with heap := h' }
          | .error x => ∃ m, s'.heap.Ns cenv.locals m ∧ ∀ h', Heap.SameBut cenv.locals s'.heap h' → wpAny M A (PySem.passOn "comprehension.variables-let-go" x { cenv with scope := relabel scope env }) Q E { s' with heap := h' }) s₄) E s₃) E s₂) E s₁) E s) :
    wpAny M A (comprehension e scope env pos newAcc false first) Q E s := by
  unfold comprehension
  rw [hclos, hcl]
  refine wpAny_bind (wpAny_mono h (fun x s₁ h₁ => wpAny_bind (wpAny_standAt (wpAny_bind (wpAny_of_eq (hs x) (wpAny_bind (wpAny_holding (wpAny_mono h₁ (fun it s₂ h₂ =>
    wpAny_standIf (wpAny_bind (wpAny_mono h₂ (fun acc s₃ h₃ => wpAny_bind (wpAny_pure (wpAny_bind (wpAny_mono h₃ (fun cenv s₄ h₄ => ?_) fun _ _ h' => h')))) fun _ _ h' => h')))
      fun _ _ h' => h'))))))) fun _ _ h' => h')
  dsimp only
  have hv : ∀ x ∈ (scope.names.filter fun x => (x.2 == .local || x.2 == .cell) && x.1 != (".0" : Str)).reverse, x.2 = .local →
      Env.kindOf { cenv with scope := relabel scope env } x.1 = some .local := fun x hx hl => lookup_relabel_local (hnames x (List.mem_filter.mp (List.mem_reverse.mp hx)).1 hl)
  refine wpAny_holding (wpAny_bind (wpAny_attempt (wpAny_holding (wpAny_run (codeAny_mono h₄ fun r s' hr => ?_)))))
  cases r <;> obtain ⟨m, hn, hr⟩ := hr
  case ok f => exact wpAny_bind (wpAny_holding (wpAny_comp_letGo (cenv := { cenv with scope := relabel scope env }) hkind _ s' m hv hn fun h' m' _ hs' => wpAny_pure (hr h' hs')))
  case error x => exact wpAny_bind (wpAny_holding (wpAny_comp_letGo (cenv := { cenv with scope := relabel scope env }) hkind _ s' m hv hn fun h' m' _ hs' => hr h' hs'))
section
variable {G : Cfg} {c : Act} {m : Loc} {μ : Mut} {E : Cl → Mut → Prop} {Q : D → Mut → Prop}
theorem Inv.comp {scope : Scope} {cl : List (Str × Addr)} {m₀ : Loc} {B : BM} {s : Shared} {C : Addr} {mr : Str → Option Value} (I : Inv G c m μ B s) (hcl : cl = [] ∨ cl = c.env.cells)
    (hm₀ : ∀ y d, m₀.get y = some d → m.get y = some d ∧ c.env.kindOf y = some .cell ∧ (relabel scope c.env).names.lookup y = some .cell ∧ cl = c.env.cells)
    (hkind : scope.kind = .function) (hns : s.heap.Ns C mr) (c1 : B C = none) (c2 : C ∉ μ.map (·.1)) : Inv G (compAct c scope cl C) m₀ μ B s := by
  have hcl' : ∀ p ∈ cl, p ∈ c.env.cells := by rcases hcl with rfl | rfl <;> simp
  have pr : ∀ b, b ∈ (compAct c scope cl C).priv → b = C ∨ b ∈ c.priv := fun b hb => by
    rcases List.mem_append.mp (show b ∈ [C] ++ (frs c.fr ++ cl.map (·.2)) from hb) with hb1 | hb1
    · exact .inl (List.mem_singleton.mp hb1)
    · rcases List.mem_append.mp hb1 with hb1 | hb1
      · exact .inr (List.mem_append_right _ (List.mem_append_left _ hb1))
      · obtain ⟨p, hp, rfl⟩ := List.mem_map.mp hb1
        exact .inr (List.mem_append_right _ (List.mem_append_right _ (List.mem_map_of_mem (hcl' p hp))))
  refine ⟨I.toBInv, ⟨I.ok.frames, I.ok.handled, hkind, I.ok.globals, I.ok.builtins, I.ok.head, I.ok.room, List.mem_singleton.mpr rfl, ?_⟩, ⟨_, hns, fun y d hy => ?_⟩, fun b hb => ?_, fun b hb => ?_, fun b hb => ?_, fun p hp => I.cellOk p (hcl' p hp)⟩
  · intro y z ca h1 h2
    rcases hcl with rfl | rfl
    · exact nomatch (show List.lookup y [] = some ca from h1)
    · exact I.ok.cinj _ _ _ h1 h2
  · obtain ⟨e1, e2, e3, e4⟩ := hm₀ y d hy
    obtain ⟨_, _, hl⟩ := I.loc
    obtain ⟨w, hw, hh⟩ := hl y d e1
    rcases hh with ⟨hk, _⟩ | ⟨_, ca, hca, hcv⟩
    · rw [e2] at hk; cases hk
    · exact ⟨w, hw, .inr ⟨e3, ca, by show cl.lookup y = some ca; rw [e4]; exact hca, hcv⟩⟩
  · rcases pr b hb with e | hb
    · obtain ⟨oC, _, _, hCo, _⟩ := hns; rw [e, hCo]; exact nofun
    · exact I.live b hb
  · rcases pr b hb with e | hb
    · rw [e]; exact c1
    · exact I.privB b hb
  · rcases pr b hb with e | hb
    · rw [e]; exact c2
    · exact I.privM b hb
inductive CRes (G : Cfg) (c : Act) (scope : Scope) (cl : List (Str × Addr)) (C : Addr) (E : Cl → Mut → Prop) (J : List D → List PyData → Prop) (items : List D) (Dl : Addr) (μ₁ : Mut) (B₁ : BM) (s₁ : Shared) (L : Addr) : Result → Shared → Prop
  | ok {f : Flow} {out : List PyData} {m' : Loc} {B' : BM} {s' : Shared} : J items out → Inv G (compAct c scope cl C) m' ((Dl, out) :: μ₁) B' s' → Trans [C] (frs c.fr) μ₁ B₁ s₁ ((Dl, out) :: μ₁) B' s' → CRes G c scope cl C E J items Dl μ₁ B₁ s₁ L (.ok f) s'
  | err {k : Cl} {ea : Addr} {m' : Loc} {μ' : Mut} {B' : BM} {s₂ s' : Shared} {a0 : Value} : E k μ' → Inv G (compAct c scope cl C) m' μ' B' s₂ → Trans [C] (frs c.fr) μ₁ B₁ s₁ μ' B' s₂ → s'.gens = s₂.gens → s'.os = s₂.os → s'.drawn = s₂.drawn →
      Heap.HeldW (hideAll s₂.heap (frs c.fr)) c.fr ea (clV G k) a0 L s'.heap → s₂.heap.UpToSlots s'.heap → CRes G c scope cl C E J items Dl μ₁ B₁ s₁ L (.error (.ref ea)) s'
theorem comp_core {elt iter : Expr} {x : Str} {px : Pos} {ifs : List Expr} {scope : Scope} {pos : Pos} {cl : List (Str × Addr)} {m₀ : Loc} {B B₁ : BM} {s s₁ : Shared} {μ₁ : Mut} {v : Value} {d : D} {Qf : Value → Shared → Prop} {Er : Value → Shared → Prop} {OK : Value → Env → Shared → Prop} {items : List D}
    (hcl : cl = [] ∨ cl = c.env.cells) (hm₀ : ∀ y d, m₀.get y = some d → m.get y = some d ∧ c.env.kindOf y = some .cell ∧ (relabel scope c.env).names.lookup y = some .cell ∧ cl = c.env.cells)
    (hx : scope.names.lookup x = some .local) (hcell : ∀ y ∈ scope.names, y.2 ≠ .cell) (hkind : scope.kind = .function)
    (I : Inv G c m μ B s) (T₁ : TransC c μ B s μ₁ B₁ s₁) (I₁ : Inv G c m μ₁ B₁ s₁) (V₁ : VD G.C B₁ v d) (hi : itItems d = some items) (ok : itOk d) (hlen : items.length ≤ 10000) {J : List D → List PyData → Prop} (j0 : J [] []) (jlen : ∀ done out, J done out → out.length ≤ done.length)
    (turn : ∀ done y rest out, items = done ++ y :: rest → J done out → ∀ C D, D ∉ μ₁.map (·.1) →
      WIfs G (compAct c scope cl C) ifs ((x, y) :: m₀) ((D, out) :: μ₁) (fun b μ' => μ' = (D, out) :: μ₁ ∧ if b = true then
        WE G (compAct c scope cl C) elt ((x, y) :: m₀) ((D, out) :: μ₁) (fun d μ'' => μ'' = (D, out) :: μ₁ ∧ ∃ p, d = .t p ∧ J (done ++ [y]) (out ++ [p])) (fun k μ'' => ∃ μ₃, μ₃.Sublist μ'' ∧ E k μ₃)
        else J (done ++ [y]) out) (fun k μ'' => ∃ μ₃, μ₃.Sublist μ'' ∧ E k μ₃))
    (e : ∀ k e μ' B' s₁ s', TransC c μ B s μ' B' s₁ → Inv G c m μ' B' s₁ → s'.gens = s₁.gens → s'.os = s₁.os → s'.drawn = s₁.drawn → Raised c.fr (clV G k) e s₁.heap s'.heap → E k μ' → Er (.ref e) s')
    (q : ∀ (C Dl : Addr) out m' B' s', J items out → Dl ∉ μ₁.map (·.1) → C ∉ c.priv → s.heap.get? C = none → Inv G (compAct c scope cl C) m' ((Dl, out) :: μ₁) B' s' → Inv G c m ((Dl, out) :: μ₁) B' s' → TransC c μ B s ((Dl, out) :: μ₁) B' s' → OK (.ref Dl) (compEnvC scope cl C c.env) s') :
    wpAny G.M c.A (pyIter v) (fun it s₂ => wpAny G.M c.A (newList []) (fun acc s₃ => wpAny G.M c.A (newFunctionEnv scope c.env.globals cl [] c.env.qual none .none (some c.env)) (fun cenv s₄ =>
      codeAny G.M c.A (.compStart (.ListComp elt [⟨.Name x px, iter, ifs, 0⟩] scope pos) 0 it acc { cenv with scope := relabel scope c.env }) (fun r s' => match r with
        | .ok _ => OK acc { cenv with scope := relabel scope c.env } s'
        | .error x => ∃ m, s'.heap.Ns cenv.locals m ∧ ∀ h', Heap.SameBut cenv.locals s'.heap h' → wpAny G.M c.A (PySem.passOn "comprehension.variables-let-go" x { cenv with scope := relabel scope c.env }) Qf Er { s' with heap := h' }) s₄) Er s₃) Er s₂) Er s₁ := by
  refine It_iter I₁.toBInv V₁ hi ok fun a h' hk ha st => ?_
  obtain ⟨aB, aM, aP⟩ := I₁.off ha
  have I₂ : Inv G c m μ₁ B₁ { s₁ with heap := h' } := I₁.ext (tk := s₁.toks) hk
  have U₂ : TransC c μ₁ B₁ s₁ μ₁ B₁ { s₁ with heap := h' } := Trans.ext (tk := s₁.toks) hk
  refine wpAny_newObj_type (wpAny_newFunctionEnv hcell (by intro y hy; simp at hy) (fun h₃ hns₃ hsb₃ => ?_) hkind)
  dsimp only at hns₃ hsb₃ ⊢
  generalize hH2 : h'.push { cls := .type "list", dict := none, data := .seq ([] : List Value).toArray } = H2 at hns₃ hsb₃ ⊢
  generalize hCe : H2.objs.size = C at hns₃ hsb₃ ⊢
  have hCs : C = h'.objs.size + 1 := by rw [← hCe, ← hH2, Heap.size_push]
  have hDn0 : h'.get? h'.objs.size = none := Heap.get?_none_of_le (Nat.le_refl _)
  have hCn : h'.get? C = none := Heap.get?_none_of_le (by rw [hCs]; exact Nat.le_succ _)
  obtain ⟨Dl, hDe⟩ : ∃ Dl, Dl = h'.objs.size := ⟨_, rfl⟩
  rw [← hDe] at hDn0 hCs ⊢
  have hDn : h'.get? Dl = none := hDn0
  have hDC : Dl ≠ C := by rw [hCs]; exact Nat.ne_of_lt (Nat.lt_succ_self _)
  have old : ∀ b o, h'.get? b = some o → h₃.get? b = some o := fun b o e => by
    exact hsb₃.extBut b o (by rintro rfl; rw [hCn] at e; cases e) (Heap.get?_push_of_some _ (hH2 ▸ Heap.get?_push_of_some _ e))
  have hacc : h₃.get? Dl = some (listOf #[] 0) := hsb₃.extBut _ _ hDC (Heap.get?_push_of_some _ (by rw [← hH2, hDe]; exact Heap.get?_push_size _ rfl))
  have I₃ : Inv G c m ((Dl, []) :: μ₁) B₁ { s₁ with heap := h₃, toks := s₁.toks + ([] : List (Str × Value)).length } := Inv.newMut (s := { s₁ with heap := h' }) I₂ old hDn hacc .nil
  have U₃ : TransC c μ₁ B₁ { s₁ with heap := h' } ((Dl, []) :: μ₁) B₁ { s₁ with heap := h₃, toks := s₁.toks + ([] : List (Str × Value)).length } := Trans.newMut (s := { s₁ with heap := h' }) old hDn
  obtain ⟨offC1, offC2, offC3⟩ := I₂.off (a := C) hCn
  have hDdom : Dl ∉ μ₁.map (·.1) := (I₂.off (a := Dl) hDn).2.1
  have I₄ : Inv G (compAct c scope cl C) m₀ ((Dl, []) :: μ₁) B₁ { s₁ with heap := h₃, toks := s₁.toks + ([] : List (Str × Value)).length } :=
    I₃.comp hcl hm₀ hkind hns₃ offC1 (by rw [List.map_cons, List.mem_cons, not_or]; exact ⟨Ne.symm hDC, offC2⟩)
  have stA : ItSt d v 0 h₃ a := st.at fun o ho => old a o ho
  have aC : a ≠ C := by
    rintro rfl
    obtain ⟨oa, hoa⟩ := st.some
    rw [hCn] at hoa; cases hoa
  have aD : a ∉ ((Dl, ([] : List PyData)) :: μ₁).map (·.1) := by
    rw [List.map_cons, List.mem_cons, not_or]
    refine ⟨?_, aM⟩
    rintro rfl
    obtain ⟨oa, hoa⟩ := st.some
    rw [hDn] at hoa; cases hoa
  have aP4 : a ∉ (compAct c scope cl C).priv := fun hb => by
    have hb1 : a ∈ [C] ++ (frs c.fr ++ cl.map (·.2)) := hb
    rcases List.mem_append.mp hb1 with hb1 | hb1
    · exact aC (by simpa using hb1)
    · rcases List.mem_append.mp hb1 with hb1 | hb1
      · exact aP (List.mem_append_right _ (List.mem_append_left _ hb1))
      · obtain ⟨p, hp, rfl⟩ := List.mem_map.mp hb1
        exact aP (List.mem_append_right _ (List.mem_append_right _ (List.mem_map_of_mem (by rcases hcl with rfl | rfl <;> first | (simp at hp) | exact hp))))
  obtain ⟨e0, r0, L, hfr0, hf0, hfe⟩ := I.ok.head
  have hV3 : VD G.C B₁ v d := V₁
  -- the way out
  generalize hs3 : ({ s₁ with heap := h₃, toks := s₁.toks + ([] : List (Str × Value)).length } : Shared) = s₃ at I₃ U₃ I₄
  have hs3h : s₃.heap = h₃ := by rw [← hs3]
  have U4 : Trans [C] (frs c.fr) μ₁ B₁ s₁ ((Dl, []) :: μ₁) B₁ s₃ := by
    rw [← hs3]
    exact (Trans.ext (s := s₁) (tk := s₁.toks) hk).trans (Trans.newMut (s := { s₁ with heap := h' }) old hDn)
  have hC1 : s₁.heap.get? C = none := by
    cases q : s₁.heap.get? C with
    | none => rfl
    | some o => rw [hk C o q] at hCn; cases hCn
  have out : ∀ {μ₂ : Mut} {B₂ : BM} {s₂ : Shared}, Trans [C] (frs c.fr) μ₁ B₁ s₁ μ₂ B₂ s₂ → BInv G c.fr μ₂ B₂ s₂ → Inv G c m μ₂ B₂ s₂ ∧ TransC c μ B s μ₂ B₂ s₂ := fun T J =>
    ⟨I₁.backC (by intro z hz; rw [List.mem_singleton] at hz; subst hz; exact offC3) T J,
      T₁.trans ⟨T.le, T.newB, T.newM, fun b o e hm ho => T.keep b o e hm (fun z => by rw [List.mem_singleton] at z; subst z; rw [hC1] at e; cases e), T.live, T.gens, T.os, T.drawn⟩⟩
  obtain ⟨RR, hRR⟩ : ∃ RR : Result → Shared → Prop, RR = CRes G c scope cl C E J items Dl μ₁ B₁ s₁ L := ⟨_, rfl⟩
  have loop : codeAny G.M c.A (.compStart (.ListComp elt [⟨.Name x px, iter, ifs, 0⟩] scope pos) 0 (.ref a) (.ref Dl) (compEnvC scope cl C c.env)) RR s₃ := by
    -- an exception on its way out of a turn
    have hp' : PassesOwn G.M c.A (compEnvC scope cl C c.env) (notedBy G.M c.A (compEnvC scope cl C c.env) fun e s' => RR (.error e) s') := PassesOwn.looking
    have e' : ∀ k ea m' μ' B' s₂ s', Trans [C] (frs c.fr) μ₁ B₁ s₁ μ' B' s₂ → Inv G (compAct c scope cl C) m' μ' B' s₂ → s'.gens = s₂.gens → s'.os = s₂.os → s'.drawn = s₂.drawn → Raised c.fr (clV G k) ea s₂.heap s'.heap → (∃ μ₃, μ₃.Sublist μ' ∧ E k μ₃) →
        notedBy G.M c.A (compEnvC scope cl C c.env) (fun e s' => RR (.error e) s') (.ref ea) s' := fun k ea m' μ' B' s₂ s' T' I' g1 g2 g3 R' hE => by
      obtain ⟨μ₃, hs3', hE⟩ := hE
      refine Raised.noted (L := L) I.ok.frames hfr0 hf0 hfe I'.fun_ R' fun h₄ a0 hh hup => ?_
      rw [hRR]; exact .err hE (I'.drop hs3') (T'.drop hs3') g1 g2 g3 hh hup
    have lp : codeAny G.M c.A (.compLoop (.ListComp elt [⟨.Name x px, iter, ifs, 0⟩] scope pos) 0 (.ref a) (.ref Dl) (compEnvC scope cl C c.env)) RR s₃ := by
      obtain ⟨FI, hFI⟩ : ∃ FI : Nat → Shared → Prop, FI = fun n s' => ∃ done rest out m' B', items = done ++ rest ∧ rest.length = n ∧ J done out ∧ Loc.Le m₀ m' ∧ Trans [C] (frs c.fr) μ₁ B₁ s₁ ((Dl, out) :: μ₁) B' s' ∧ Inv G (compAct c scope cl C) m' ((Dl, out) :: μ₁) B' s' ∧ ItSt d v done.length s'.heap a ∧ B' a = none := ⟨_, rfl⟩
      refine codeAny_compLoop_tests FI (fun n s' hI => ?_) items.length (by rw [hFI]; exact ⟨[], items, [], m₀, B₁, rfl, rfl, j0, fun _ _ h => h, U4, I₄, hs3h ▸ stA, aB⟩)
      rw [hFI] at hI
      obtain ⟨done, rest, out, m', B', he, hn, hJ, hm', U, I', st', bB⟩ := hI
      have bM : a ∉ ((Dl, out) :: μ₁).map (·.1) := aD
      have le0 : done.length ≤ 10000 := by rw [he, List.length_append] at hlen; lia
      refine It_next I'.ok.handled I'.toBInv (hV3.mono U.le) hi st' (by rw [he, List.length_append]; lia) ?_ ?_
      · intro y hy w h₂ tk hV hsb st₂
        rw [he, List.getElem?_append_right (Nat.le_refl _), Nat.sub_self] at hy
        cases rest with
        | nil => cases hy
        | cons y' rest =>
          simp only [List.getElem?_cons_zero, Option.some.injEq] at hy
          subst hy
          have k2 : ∀ b o, b ≠ a → s'.heap.get? b = some o → h₂.get? b = some o := fun b o hb e => (hsb.2 b hb).trans e
          have I₅ : Inv G (compAct c scope cl C) m' ((Dl, out) :: μ₁) B' { s' with heap := h₂, toks := tk } := I'.touch bB bM aP4 k2
          obtain ⟨oa, hoa⟩ := st₂.some
          have U₅ : Trans [C] (frs c.fr) μ₁ B₁ s₁ ((Dl, out) :: μ₁) B' { s' with heap := h₂, toks := tk } := U.touch ha k2
          obtain hturn := turn done y' rest out he hJ C Dl hDdom
          refine wpAny_assign_Name ?_
          refine WP.after (c := compAct c scope cl C) (Q := fun _ mm μμ => mm = (x, y') :: m' ∧ μμ = (Dl, out) :: μ₁) (E := fun _ _ _ => False) (Trans.refl ..) (WStore (c := compAct c scope cl C) (.inl (lookup_relabel_local hx)) I₅ hV ⟨rfl, rfl⟩) hp' (fun _ _ m₆ μ₆ B₆ s₆ T₆ _ I₆ _ h₆ => ?_) (fun _ _ _ _ _ _ _ _ _ _ _ _ _ h => h.elim)
          obtain ⟨rfl, rfl⟩ := h₆
          have T₆' : Trans [C] (frs c.fr) μ₁ B₁ s₁ ((Dl, out) :: μ₁) B₆ s₆ := U₅.trans T₆
          have le1 : Loc.Le m₀ ((x, y') :: m₀) := fun z d' hz => by
            rw [store_get, if_neg]
            · exact hz
            · rintro rfl
              have q1 := (hm₀ _ _ hz).2.2.1
              have q2 : (relabel scope c.env).names.lookup z = some .local := lookup_relabel_local hx
              rw [q2] at q1; cases q1
          have wk : Loc.Le ((x, y') :: m₀) ((x, y') :: m') := fun z d' hz => by
            rw [store_get] at hz ⊢
            split
            · rename_i q; rw [if_pos q] at hz; exact hz
            · rename_i q; rw [if_neg q] at hz; exact hm' z d' hz
          have keep6 := (T₆.keep a _ hoa bM (fun z => aC (by simpa using z))).1 (fun z => aP (List.mem_append_right _ (List.mem_append_left _ z)))
          have bB6 : B₆ a = none := (T₆.off (by show h₂.get? a ≠ none; rw [hoa]; exact nofun) bB bM).1
          have again : ∀ {out' : List PyData} {m₉ : Loc} {B₉ : BM} {s₉ : Shared}, J (done ++ [y']) out' → Loc.Le m₀ m₉ → Trans [C] (frs c.fr) ((Dl, out) :: μ₁) B₆ s₆ ((Dl, out') :: μ₁) B₉ s₉ → Inv G (compAct c scope cl C) m₉ ((Dl, out') :: μ₁) B₉ s₉ →
              ∃ n', n' < n ∧ FI n' s₉ := fun hj hle T₉ I₉ => by
            have keep9 := (T₉.keep a _ keep6 bM (fun z => aC (by simpa using z))).1 (fun z => aP (List.mem_append_right _ (List.mem_append_left _ z)))
            refine ⟨rest.length, by rw [← hn, List.length_cons]; exact Nat.lt_succ_self _, ?_⟩
            rw [hFI]
            refine ⟨done ++ [y'], rest, _, _, _, by rw [he, List.append_assoc]; rfl, rfl, hj, hle, T₆'.trans T₉, I₉, ?_, (T₉.off (by rw [keep6]; exact nofun) bB6 bM).1⟩
            rw [List.length_append]
            refine st₂.at fun o ho => ?_
            rw [hoa] at ho
            cases ho
            exact keep9
          refine WP.after (c := compAct c scope cl C) (Trans.refl ..) (hturn B₆ s₆ (I₆.weaken wk)) hp' (fun b b' m₇ μ₇ B₇ s₇ T₇ _ I₇ R₇ h₇ => ?_) fun k ea m'' μ'' B'' s₂ s₄ T'' I'' g1 g2 g3 R'' x'' => e' k ea m'' μ'' B'' s₂ s₄ (T₆'.trans T'') I'' g1 g2 g3 R'' x''.2
          obtain ⟨rfl, rfl, h₇⟩ := h₇
          cases R₇
          cases b with
          | false => exact again h₇ le1 T₇ I₇
          | true =>
            rw [if_pos rfl] at h₇ ⊢
            refine WP.after (c := compAct c scope cl C) T₇ (h₇ B₇ s₇ I₇) hp' (fun xv xd m₈ μ₈ B₈ s₈ T₈ _ I₈ R₈ h₈ => ?_) fun k ea m'' μ'' B'' s₂ s₄ T'' I'' g1 g2 g3 R'' x'' => e' k ea m'' μ'' B'' s₂ s₄ (T₆'.trans T'') I'' g1 g2 g3 R'' x''.2
            obtain ⟨rfl, rfl, p, rfl, hj⟩ := h₈
            have hout := jlen _ _ hJ
            refine WP.after (c := compAct c scope cl C) T₈ ((SL_append (c := compAct c scope cl C) (Q := fun d μ' => μ' = (Dl, out ++ [p]) :: μ₁) (E := fun _ _ => False) lookup_head (by lia) (upd_head hDdom)) B₈ s₈ [.ref Dl, xv] I₈ (.cons (d := .loc Dl) rfl (.cons R₈ .nil))) hp' (fun _ _ m₉ μ₉ B₉ s₉ T₉ _ I₉ _ h₉ => ?_) (fun _ _ _ _ _ _ _ _ _ _ _ _ _ h => h.2.elim)
            obtain ⟨rfl, rfl⟩ := h₉
            exact again hj le1 T₉ I₉
      · intro hend h₂ hsb
        have hr : rest = [] := by
          rw [he, List.length_append] at hend
          exact List.eq_nil_of_length_eq_zero (by lia)
        subst hr
        rw [List.append_nil] at he
        subst he
        have k2 : ∀ b o, b ≠ a → s'.heap.get? b = some o → h₂.get? b = some o := fun b o hb e => hsb b o hb e
        have I₅ : Inv G (compAct c scope cl C) m' ((Dl, out) :: μ₁) B' { s' with heap := h₂ } := I'.touch (tk := s'.toks) bB bM aP4 k2
        rw [hRR]; exact .ok hJ I₅ (U.touch (tk := s'.toks) ha k2)
    exact codeAny_compStart_list lp (wpAny_pyIter_self (hs3h ▸ stA) lp)
  have hCs0 : s.heap.get? C = none := by
    cases q : s.heap.get? C with
    | none => rfl
    | some o => exact absurd hCn ((T₁.trans U₂).live C (by rw [q]; exact nofun))
  refine codeAny_mono loop fun r s' hr => ?_
  rw [hRR] at hr
  cases hr with
  | ok hJ I' T' =>
    obtain ⟨J₁, J₂⟩ := out T' I'.toBInv
    exact q C Dl _ _ _ s' hJ hDdom offC3 hCs0 I' J₁ J₂
  | @err k ea m' μ' B' s₂ _ a0 hE I' T' g1 g2 g3 hh hup =>
    obtain ⟨mC, hnC, _⟩ := I'.loc
    refine ⟨mC, hup.ns hnC, fun h₄ hs₄ => ?_⟩
    obtain ⟨J₁, J₂⟩ := out T' I'.toBInv
    have hs₄ : Heap.SameBut C s'.heap h₄ := hs₄
    have hCp : C ∈ (compAct c scope cl C).priv := List.mem_append_left _ (by simp)
    obtain ⟨oC, _, _, hCo, hCd, _⟩ := hnC
    have hCf : C ∉ frs c.fr := fun z => offC3 (List.mem_append_right _ (List.mem_append_left _ z))
    obtain ⟨hh', hup'⟩ := held_but (oC := oC) hCo (fun vs z => by rw [hCd] at z; cases z) hCf hh hup hs₄
    have kh : ∀ b o, b ≠ C → s₂.heap.get? b = some o → (s₂.heap.hide C).get? b = some o := fun b o hb e => (Heap.hide_ne _ hb).trans e
    refine held_passOn (s := { s' with heap := h₄ }) hfe hh' fun h₅ hh₅ hup₅ => ?_
    exact e k ea μ' B' { s₂ with heap := s₂.heap.hide C } _ (J₂.touch (tk := s₂.toks) hCs0 kh) (J₁.touch (tk := s₂.toks) (I'.privB C hCp) (I'.privM C hCp) offC3 kh) g1 g2 g3 (.inr (.inr ⟨a0, e0, r0, L, hfr0, hf0, hh₅, hup'.trans hup₅⟩)) hE
theorem WE_ListComp {elt iter : Expr} {x : Str} {px : Pos} {ifs : List Expr} {scope : Scope} {pos : Pos} (cl : List (Str × Addr)) (m₀ : Loc)
    (hclos : closureFor scope c.env = pure cl) (hcl : cl = [] ∨ cl = c.env.cells)
    (hm₀ : ∀ y d, m₀.get y = some d → m.get y = some d ∧ c.env.kindOf y = some .cell ∧ (relabel scope c.env).names.lookup y = some .cell ∧ cl = c.env.cells)
    (h : WE G c iter m μ (fun d μ₁ => ∃ items, itItems d = some items ∧ itOk d ∧ items.length ≤ 10000 ∧ CompSpec G c scope cl m₀ x ifs elt items μ₁ Q E) E)
    (hx : scope.names.lookup x = some .local := by rfl) (hcell : ∀ y ∈ scope.names, y.2 ≠ .cell := by decide) (hkind : scope.kind = .function := by rfl)
    (hnames : ∀ y ∈ scope.names, y.2 = .local → scope.names.lookup y.1 = some .local := by decide)
    (hs : ∀ x, foldedSetIterable iter c.env x = pure x := by intro _; rfl) : WE G c (.ListComp elt [⟨.Name x px, iter, ifs, 0⟩] scope pos) m μ Q E := by
  intro B s I Qr Er hp q e
  rw [eval_ListComp]
  refine comp_open rfl hs hclos hkind hnames ?_
  show wpAny G.M c.A (eval iter c.env) _ _ _
  refine WX.use (h B s I) (Trans.refl ..) hp e fun v d μ₁ B₁ s₁ T₁ _ I₁ V₁ h₁ => ?_
  obtain ⟨items, hi, ok, hlen, J, j0, jlen, turn, fin⟩ := h₁
  refine comp_core (OK := fun acc env s' => ∃ m, s'.heap.Ns env.locals m ∧ ∀ h', Heap.SameBut env.locals s'.heap h' → Qr acc { s' with heap := h' }) hcl hm₀ hx hcell hkind I T₁ I₁ V₁ hi ok hlen j0 jlen turn (fun k ea μ' B' s₁ s' a1 a2 a3 a4 a5 a6 h => e k ea m μ' B' s₁ s' a1 a2 a3 a4 a5 a6 ⟨rfl, h⟩) fun C Dl out m' B' s' hJ hDl hCp hC I' J₁ J₂ => ?_
  obtain ⟨mC, hnC, _⟩ := I'.loc
  refine ⟨mC, hnC, fun h₄ hs₄ => ?_⟩
  have k4 : ∀ b o, b ≠ C → s'.heap.get? b = some o → h₄.get? b = some o := fun b o hb e => (hs₄.2 b hb).trans e
  have hCp' : C ∈ (compAct c scope cl C).priv := List.mem_append_left _ (List.mem_singleton.mpr rfl)
  exact q _ (.loc Dl) m _ B' _ (J₂.touch (tk := s'.toks) hC k4) (J₁.touch (tk := s'.toks) (I'.privB C hCp') (I'.privM C hCp') hCp k4) rfl ⟨rfl, fin out hJ Dl hDl⟩
end
end P279
end
section
open PySem PySem.W PyProof.Rows PySem.Spec PySem.Calls
namespace P279
structure InstCls (K : Frag) (C : Addr) : Prop where
  get : ∀ name, plainGet K C name = true
  hasDict : hasDictIn K C = true
  sa : findIn K (.ref C) "__setattr__" = some (some (.builtin "object.__setattr__"))
  over : plainOver K C = true
  noRules : findIn K (.ref C) "rules" = some none
  noTold : findIn K (.ref C) "told" = some none
section
variable {G : Cfg} {c : Act} {m : Loc} {μ : Mut} {E : Cl → Mut → Prop} {Q : D → Mut → Prop} {x r t : Addr}
theorem Inv.inst {B : BM} {s : Shared} {v : Value} (I : Inv G c m μ B s) (hv : VD G.C B v (.inst x r t)) : v = .ref x ∧ ∃ dx es n, W.InstAt s.heap x (instObj G.C dx) G.C (some (dictOf es n)) ∧ getL "rules" es = some (some (.ref r)) ∧ (r ≠ t → getL "told" es = some (some (.ref t))) ∧ getL "add" es = some none ∧ getL "of" es = some none := by
  obtain ⟨rfl, dx, es, n, h1, h2, h3⟩ := hv
  exact ⟨rfl, dx, es, n, ⟨I.keep _ _ h1, rfl, rfl, I.keep _ _ h2⟩, h3⟩
theorem attr_findObj {dx : Addr} {es : List DictEntry} {n : Nat} {name : Str} {v : Value} {K : Frag} {C : Addr} (X : InstCls K C) (hn : findIn K (.ref C) name = some none) (hl : getL name es = some (some v)) : W.findObj K C (some (dictOf es n)) name = some (.value v) :=
  W.findObj_own X.hasDict hn rfl hl
theorem WE_Attr {y : Str} {yp pos : Pos} {name : Str} {d' : D} (X : InstCls G.K G.C) (hn : (name = "rules" ∧ d' = .loc r) ∨ (name = "told" ∧ r ≠ t ∧ d' = .loc t))
    (h : WE G c (.Name y yp) m μ (fun d μ₁ => d = .inst x r t ∧ Q d' μ₁) E) : WE G c (.Attribute (.Name y yp) name pos) m μ Q E := by
  intro B s I Qr Er hp q e
  refine Attribute_name (WX.use (h B s I) (Trans.refl ..) hp e fun v d μ₁ B₁ s₁ T₁ _ I₁ V₁ h₁ => ?_)
  obtain ⟨rfl, hq⟩ := h₁
  obtain ⟨rfl, dx, es, n, J, e1, e2, _⟩ := I₁.inst V₁
  rcases hn with ⟨rfl, rfl⟩ | ⟨rfl, hrt, rfl⟩
  · exact W.get_value I₁.kin J (plainGet_of (X.get "rules")).1 (attr_findObj (dx := dx) X X.noRules e1) rfl (q _ (.loc r) m μ₁ B₁ _ (T₁.trans Trans.toks) I₁.toks rfl ⟨rfl, hq⟩)
  · exact W.get_value I₁.kin J (plainGet_of (X.get "told")).1 (attr_findObj (dx := dx) X X.noTold (e2 hrt)) rfl (q _ (.loc t) m μ₁ B₁ _ (T₁.trans Trans.toks) I₁.toks rfl ⟨rfl, hq⟩)
theorem WE_InstMethod {y : Str} {yp apos pos : Pos} {name : Str} {es : List Expr} {f : Addr} (X : InstCls G.K G.C) (hn : name = "add" ∨ name = "of") (hf : findIn G.K (.ref G.C) name = some (some (.ref f))) (hfn : isFn G.K (.ref f) = true) (kp : keepIn G.K (.ref f) = true)
    (h : WE G c (.Name y yp) m μ (fun d μ₁ => d = .inst x r t ∧ WEs G c pos es m μ₁ (fun ds μ₂ => SL G c (fun vs => call (.ref f) vs) (.inst x r t :: ds) m μ₂ Q E) E) E)
    (he : ∀ x r, es = x :: r → starEach (x :: r) c.env = (false, eval x c.env) :: starEach r c.env := by intro _ _ h; cases h; rfl)
    (hp : (backTo pos (starEach es c.env)).any (·.1) = false := by rfl)
    {pl : Sem Bool} (hev : eval (.Call (.Attribute (.Name y yp) name apos) es [] pos) c.env = (do
      let ov ← eval (.Name y yp) c.env
      standAt apos.atName
      let (f, first) ← holding [ov] (getMethod ov name pl)
      callWith pos f first (backTo pos (starEach es c.env)) (backToKw pos (keywordEach [] c.env))) := by rfl) : WE G c (.Call (.Attribute (.Name y yp) name apos) es [] pos) m μ Q E := by
  intro B s I Qr Er hpo q e
  refine W.methodCall_KW (pl := pl) (WX.use (h B s I) (Trans.refl ..) hpo e fun v d μ₁ B₁ s₁ T₁ _ I₁ V₁ h₁ => ?_) hev
  obtain ⟨rfl, hq⟩ := h₁
  obtain ⟨rfl, dx, es', n, J, e1, e2, e3, e4⟩ := I₁.inst V₁
  have hsh : W.shadowIn (some (dictOf es' n)) name = some false := by
    show (lookIn name (dictOf es' n)).map _ = _
    rw [lookIn_dict]
    rcases hn with rfl | rfl
    · rw [e3]; rfl
    · rw [e4]; rfl
  refine W.method_fn I₁.kin J (plainGet_of (X.get name)).1 (plainGet_of (X.get name)).2 hf (beq_iff_eq.mp hfn) hsh ?_
  refine callWith_of (P := fun h => G.K.In h) (by rw [hp]; rfl) (keeps_K kp) ?_
  refine WX.use (evalArgs_go hq he I₁) T₁ hpo e fun a ds μ' B' s' T U I' R z => ?_
  obtain ⟨hk, hv⟩ := R
  refine ⟨I'.kin, ?_⟩
  rw [hk]
  exact WX.use (z B' s' _ I' (.cons (V₁.mono U.le) hv)) T hpo e fun a b μ' B' s' T _ I' R x => q a b m μ' B' s' T I' R ⟨rfl, x⟩
end
end P279
end
section
open PySem PySem.W PyProof.Rows PySem.Spec PySem.Calls Builtin Builtin.ObjectAttr
namespace P279
theorem inst_set {prog : Program} {w : World} {A : Around} {E : Value → Shared → Prop} {K : Frag} {C x dx : Addr} {es : List DictEntry} {n : Nat} {name : Str} {v : Value} {s : Shared} {Q : Unit → Shared → Prop} (X : K.In s.heap) (Y : InstCls K C) (hn : findIn K (.ref C) name = some none)
    (hx : s.heap.get? x = some (instObj C dx)) (hd : s.heap.get? dx = some (dictOf es n)) (hl : (getL name es).isSome = true) (hz : ∀ hsh key, (putL name hsh key v es).length ≤ 1000)
    (h : ∀ h' tk hsh tkk, Heap.SameBut dx s.heap h' → h'.get? dx = some (dictOf (putL name hsh (.str name tkk) v es) (putN name es n)) → Q () { s with heap := h', toks := tk }) : wpAny (model prog w) A (setAttr (.ref x) name v) Q E s := by
  have I : W.InstAt s.heap x (instObj C dx) C (some (dictOf es n)) := ⟨hx, rfl, rfl, hd⟩
  refine W.set_plain X I Y.sa ?_
  refine W.osa_open (s := { s with toks := s.toks + 1 }) X I Y.over (r := none) (by unfold takerIn; rw [hn]; rfl) fun b => ?_
  obtain ⟨cd, hc, hd'⟩ := any_some Y.hasDict
  refine wpAny_bind (wpAny_pure (wpAny_bind (wpAny_bind (wpAny_loadPart (s := { s with toks := s.toks + 1 }) hx (wpAny_bind ((looks_clsIn X hc).at ?_))))))
  rw [hd']
  refine wpAny_pure (a := some dx) (wpAny_bind (wpAny_pure (wpAny_bind ?_)))
  unfold nsSet
  refine wpAny_bind (wpAny_bind (wpAny_askSetting (wpAny_pure (wpAny_bind (wpAny_mkText (wpAny_bind (wpAny_loadPart (s := { s with toks := s.toks + 1 + 1 }) hd ?_)))))))
  have c : (!es.toArray.any (·.key.isStr name) && es.toArray.any (·.refKey)) = false := by
    rw [← Array.any_toList, ← Array.any_toList]
    unfold getL at hl
    split at hl
    · rename_i en he
      rw [List.any_eq_true.mpr ⟨en, List.mem_of_find?_eq_some he, List.find?_some he⟩]; rfl
    · split at hl
      · cases hl
      · rename_i z; rw [Bool.not_eq_true] at z; rw [z, Bool.and_false]
  dsimp only
  rw [aRefKeyMayBeTheName_at, c]
  rw [if_neg (by decide)]
  have hfd : (Obj.putName name (if name.cps.isEmpty = true then 0 else reduceHash ((model prog w).w.params.strHash name.cps)) (Value.str name (s.toks + 1)) v (dictOf es n)) = dictOf (putL name (if name.cps.isEmpty = true then 0 else reduceHash ((model prog w).w.params.strHash name.cps)) (.str name (s.toks + 1)) v es) (putN name es n) := W.putName_dict ..
  refine wpAny_updatePart (s := { s with toks := s.toks + 1 + 1 }) hd ?_
  have hself : (s.heap.update dx (Obj.putName name (if name.cps.isEmpty = true then 0 else reduceHash ((model prog w).w.params.strHash name.cps)) (Value.str name (s.toks + 1)) v)).get? dx = some (dictOf (putL name (if name.cps.isEmpty = true then 0 else reduceHash ((model prog w).w.params.strHash name.cps)) (.str name (s.toks + 1)) v es) (putN name es n)) := by
    rw [← hfd]
    exact Heap.get?_update_self _ hd (by rw [hfd]; rfl)
  refine wpAny_bind (wpAny_lookBehind hself (pastItsLine_dict (by rw [List.size_toArray, sizeLine_eq]; exact Nat.le_trans (hz _ _) (by decide))) ?_)
  exact wpAny_pure (h _ _ _ _ (Heap.SameBut.update ..) hself)
theorem Vs.but {B B' : BM} {a : Addr} {es : List DictEntry} {n : Nat} (ha : B a = some (dictOf es n)) (k : ∀ b o, b ≠ a → B b = some o → B' b = some o) {vs : List Value} {ds : List PyData} (h : Vs B vs ds) : Vs B' vs ds :=
  h.mono2 (fun b vs m h => k _ _ (fun e => nomatch congrArg Obj.data (Option.some.inj (ha.symm.trans ((congrArg B e).symm.trans h)))) h) (fun b vs m h => k _ _ (fun e => nomatch congrArg Obj.data (Option.some.inj (ha.symm.trans ((congrArg B e).symm.trans h)))) h)
section
variable {G : Cfg} {c : Act} {fr : List Env} {m : Loc} {μ μ' : Mut} {B B' : BM} {s s' : Shared} {a : Addr} {o : Obj}
theorem Inv.add (I : Inv G c m μ B s) (hB : B a = none) (ho : s.heap.get? a = some o) (hm : a ∉ μ.map (·.1)) (hp : a ∉ c.priv) : Inv G c m μ (B.put a o) s := by
  have le := BM.put_le (o := o) hB
  have off : ∀ {b}, b ≠ a → B.put a o b = B b := fun {b} h => by unfold BM.put; rw [if_neg h]
  refine ⟨⟨I.gf, fun b x e => le b x (I.base b x e), fun b x e => ?_, fun b hb => ?_, fun p hp' => ?_, I.nd, I.fun_⟩, I.ok, ?_, I.live, fun b hb => ?_, I.privM, I.cellOk⟩
  · by_cases q : b = a
    · rw [q] at e ⊢; rw [BM.put_self] at e; cases e; exact ho
    · rw [off q] at e; exact I.keep b x e
  · rw [off (by rintro rfl; exact hp (List.mem_append_right _ (List.mem_append_left _ hb)))]; exact I.frB b hb
  · obtain ⟨h1, n, vs, h2, h3⟩ := I.mu p hp'
    refine ⟨?_, n, vs, h2, h3.mono le⟩
    rw [off (by intro q; exact hm (q ▸ List.mem_map_of_mem (f := (·.1)) hp'))]; exact h1
  · obtain ⟨mr, hn, hl⟩ := I.loc
    exact ⟨mr, hn, fun x d e => let ⟨v, hv, r⟩ := hl x d e; ⟨v, hv.mono le, r⟩⟩
  · rw [off (by rintro rfl; exact hp hb)]; exact I.privB b hb
theorem Trans.add {own frA : List Addr} (T : Trans own frA μ B s μ' B' s') (ha : s.heap.get? a = none) (hB : B' a = none) : Trans own frA μ B s μ' (B'.put a o) s' :=
  ⟨T.le.trans (BM.put_le hB), fun b hb => by
    rcases BM.put_ne hb with rfl | hb
    · exact .inr (.inr ha)
    · exact T.newB b hb, T.newM, T.keep, T.live, T.gens, T.os, T.drawn⟩
theorem init_body {c : Act} {B : BM} {s₀ s₂ : Shared} {x dx : Addr} {e1 e3 : Expr} {st2 : Stmt} {p1 p2 p3 p4 p5 p6 : Pos} {l1 l2 l3 : List PyData} {Qf : Flow → Shared → Prop} {E : Value → Shared → Prop} (Y : InstCls G.K G.C) (hE : PassesOwn G.M c.A c.env E)
    (hs1 : swapsWith e1 (some (.Attribute (.Name "self" p1) "rules" p2)) p3.line c.env = pure false) (hs3 : swapsWith e3 (some (.Attribute (.Name "self" p4) "told" p5)) p6.line c.env = pure false)
    (h1 : WE G c e1 [(("self" : Str), .loc x)] [] (fun d μ' => ∃ r, d = .loc r ∧ μ' = [(r, l1)]) (fun _ _ => False))
    (h2 : ∀ r, WS G c st2 [(("self" : Str), .inst x r r)] [(r, l1)] (fun fl m' μ' => fl = .next ∧ m'.get "self" = some (.inst x r r) ∧ μ' = [(r, l2)]) (fun _ _ _ => False))
    (h3 : ∀ m r, WE G c e3 m [(r, l2)] (fun d μ' => ∃ t, d = .loc t ∧ r ≠ t ∧ μ' = [(t, l3), (r, l2)]) (fun _ _ => False))
    (I₀ : Inv G c [(("self" : Str), .loc x)] [] B s₂) (T0 : TransC c [] B s₀ [] B s₂) (xp : x ∉ c.priv) (dp : dx ∉ c.priv) (xf : x ∉ frs c.fr) (df : dx ∉ frs c.fr) (hxd : x ≠ dx)
    (hx2 : s₂.heap.get? x = some (instObj G.C dx)) (hd2 : s₂.heap.get? dx = some (dictOf [] 0)) (xL1 : x ∉ c.own) (dL1 : dx ∉ c.own) (fx0 : s₀.heap.get? x = none) (fd0 : s₀.heap.get? dx = none) (xB : B x = none) (dB : B dx = none)
    (q : ∀ r t B' s', BInv G c.fr [(t, l3), (r, l2)] B' s' → TransC c [] B s₀ [(t, l3), (r, l2)] B' s' → r ≠ t → IsInst G.C B' x r t → Qf .next s') :
    wpAny G.M c.A (execs [.Assign [.Attribute (.Name "self" p1) "rules" p2] e1 p3, st2, .Assign [.Attribute (.Name "self" p4) "told" p5] e3 p6] c.env) Qf E s₂ := by
  -- the first store
  refine wpAny_execs_cons (plainObj_wpAny_Assign_Attribute (WX.use (c := c) (h1 B _ I₀) T0 hE (fun _ _ _ _ _ _ _ _ _ _ _ _ _ hx => hx.2.elim) fun v d μ₁ B₁ s₃ T₁ U₁ I₁ V₁ h₁ => ?_) hs1)
  obtain ⟨r, rfl, rfl⟩ := h₁
  cases V₁
  refine WX.use (c := c) ((WE_Local (G := G) (c := c) (m := [(("self" : Str), .loc x)]) (μ := [(r, l1)]) (x := "self") (pos := p1) (d := .loc x) (Q := fun d μ => d = .loc x ∧ μ = [(r, l1)]) (E := fun _ _ => False) rfl ⟨rfl, rfl⟩ (by decide)) B₁ s₃ I₁) T₁ hE (fun _ _ _ _ _ _ _ _ _ _ _ _ _ hx => hx.2.elim) fun v d μ₂ B₂ s₄ T₂ U₂ I₂ V₂ h₂ => ?_
  obtain ⟨rfl, rfl⟩ := h₂
  cases V₂
  have U₂' := U₁.trans U₂
  have rx : x ∉ ([(r, l1)] : Mut).map (·.1) := fun hm => by
    rcases U₂'.newM x hm with z | z
    · simp at z
    · rw [hx2] at z; cases z
  have rd : dx ∉ ([(r, l1)] : Mut).map (·.1) := fun hm => by
    rcases U₂'.newM dx hm with z | z
    · simp at z
    · rw [hd2] at z; cases z
  have hx4 := (U₂'.keep x _ hx2 (by simp) xL1).1 xf
  have hd4 := (U₂'.keep dx _ hd2 (by simp) dL1).1 df
  have xB2 : B₂ x = none := (U₂'.off (by rw [hx2]; exact nofun) xB (by simp)).1
  have dB2 : B₂ dx = none := (U₂'.off (by rw [hd2]; exact nofun) dB (by simp)).1
  refine inst_set I₂.kin Y Y.noRules hx4 hd4 rfl (fun _ _ => by simp [putL]) fun h₅ tk₅ hsh key hsb hd5 => ?_
  have k5 : ∀ b o, b ≠ dx → s₄.heap.get? b = some o → h₅.get? b = some o := fun b o hb e => (hsb.2 b hb).trans e
  have I₅ : Inv G c [(("self" : Str), .loc x)] [(r, l1)] B₂ { s₄ with heap := h₅, toks := tk₅ } := I₂.touch dB2 rd dp k5
  have T₅ := T₂.touch (h' := h₅) (tk := tk₅) fd0 k5
  have hx5 : h₅.get? x = some (instObj G.C dx) := k5 _ _ hxd hx4
  have I₆ := (I₅.add (a := x) xB2 hx5 rx xp).add (a := dx) (o := dictOf (putL "rules" hsh (.str "rules" key) (.ref r) []) (putN "rules" [] 0)) (by unfold BM.put; rw [if_neg (Ne.symm hxd)]; exact dB2) hd5 rd dp
  have T₆ := (T₅.add (a := x) (o := instObj G.C dx) fx0 xB2).add (a := dx) (o := dictOf (putL "rules" hsh (.str "rules" key) (.ref r) []) (putN "rules" [] 0)) fd0 (by unfold BM.put; rw [if_neg (Ne.symm hxd)]; exact dB2)
  generalize hB6 : (B₂.put x (instObj G.C dx)).put dx (dictOf (putL "rules" hsh (.str "rules" key) (.ref r) []) (putN "rules" [] 0)) = B₆ at I₆ T₆
  have b6x : B₆ x = some (instObj G.C dx) := by rw [← hB6]; unfold BM.put; rw [if_neg hxd, if_pos rfl]
  have b6d : B₆ dx = some (dictOf (putL "rules" hsh (.str "rules" key) (.ref r) []) (putN "rules" [] 0)) := by rw [← hB6]; exact BM.put_self
  have inst6 : IsInst G.C B₆ x r r := ⟨dx, _, _, b6x, b6d, by rfl, fun h => absurd rfl h, by rfl, by rfl⟩
  have I₇ : Inv G c [(("self" : Str), .inst x r r)] [(r, l1)] B₆ { s₄ with heap := h₅, toks := tk₅ } := by
    refine { I₆ with loc := ?_ }
    obtain ⟨mr, hn, hl⟩ := I₆.loc
    refine ⟨mr, hn, fun y d hy => ?_⟩
    rw [store_get] at hy
    split at hy
    · rename_i q; subst q; cases hy
      obtain ⟨v, hv, h⟩ := hl "self" (.loc x) rfl
      cases hv
      exact ⟨.ref x, ⟨rfl, inst6⟩, h⟩
    · cases hy
  -- the loop
  refine wpAny_execs_cons (WP.after (c := c) T₆ (h2 r B₆ _ I₇) hE (fun fa fl m₈ μ₈ B₈ s₈ T₈ U₈ I₈ R₈ h₈ => ?_) (fun _ _ _ _ _ _ _ _ _ _ _ _ _ hx => hx.elim))
  obtain ⟨rfl, hself, rfl⟩ := h₈
  cases fa <;> first | exact R₈.elim | skip
  dsimp only
  -- the second store
  refine wpAny_execs_cons (plainObj_wpAny_Assign_Attribute (WX.use (c := c) (h3 m₈ r B₈ _ I₈) T₈ hE (fun _ _ _ _ _ _ _ _ _ _ _ _ _ hx => hx.2.elim) fun v d μ₉ B₉ s₉ T₉ U₉ I₉ V₉ h₉ => ?_) hs3)
  obtain ⟨t, rfl, hrt, rfl⟩ := h₉
  cases V₉
  refine WX.use (c := c) ((WE_Local (G := G) (c := c) (m := m₈) (μ := [(t, l3), (r, l2)]) (x := "self") (pos := p4) (d := .inst x r r) (Q := fun d μ => d = .inst x r r ∧ μ = [(t, l3), (r, l2)]) (E := fun _ _ => False) hself ⟨rfl, rfl⟩ (by decide)) B₉ s₉ I₉) T₉ hE (fun _ _ _ _ _ _ _ _ _ _ _ _ _ hx => hx.2.elim) fun v d μ₁₀ B₁₀ s₁₀ T₁₀ U₁₀ I₁₀ V₁₀ h₁₀ => ?_
  obtain ⟨rfl, rfl⟩ := h₁₀
  obtain ⟨rfl, _⟩ := V₁₀
  have le : BLe B₆ B₁₀ := (U₈.le.trans U₉.le).trans U₁₀.le
  have bx := le _ _ b6x
  have bd := le _ _ b6d
  refine inst_set I₁₀.kin Y Y.noTold (I₁₀.keep _ _ bx) (I₁₀.keep _ _ bd) (by rfl) (fun _ _ => by simp [putL]; split <;> simp) fun h₁₁ tk₁₁ hsh' key' hsb' hd11 => ?_
  have k11 : ∀ b o, b ≠ dx → s₁₀.heap.get? b = some o → h₁₁.get? b = some o := fun b o hb e => (hsb'.2 b hb).trans e
  refine wpAny_execs_nil ?_
  obtain ⟨B₁₁, hB11⟩ : ∃ B₁₁ : BM, B₁₁ = fun b => if b = dx then some (dictOf (putL "told" hsh' (.str "told" key') (.ref t) (putL "rules" hsh (.str "rules" key) (.ref r) [])) (putN "told" (putL "rules" hsh (.str "rules" key) (.ref r) []) (putN "rules" [] 0))) else B₁₀ b := ⟨_, rfl⟩
  have bo : ∀ b, b ≠ dx → B₁₁ b = B₁₀ b := fun b h => by rw [hB11]; exact if_neg h
  have bs : B₁₁ dx = some (dictOf (putL "told" hsh' (.str "told" key') (.ref t) (putL "rules" hsh (.str "rules" key) (.ref r) [])) (putN "told" (putL "rules" hsh (.str "rules" key) (.ref r) []) (putN "rules" [] 0))) := by rw [hB11]; exact if_pos rfl
  have kV : ∀ b o, b ≠ dx → B₁₀ b = some o → B₁₁ b = some o := fun b o hb e => (bo b hb).trans e
  have J₁₀ : BInv G c.fr [(t, l3), (r, l2)] B₁₀ s₁₀ := I₁₀.toBInv
  have nd : ∀ b, B₁₀ b = none → B₁₁ b = none := fun b e => by
    rw [bo b (by rintro rfl; rw [bd] at e; cases e)]; exact e
  have J : BInv G c.fr [(t, l3), (r, l2)] B₁₁ { s₁₀ with heap := h₁₁, toks := tk₁₁ } := by
    refine ⟨J₁₀.gf, fun b o e => ?_, fun b o e => ?_, fun b hb => nd b (J₁₀.frB b hb), fun p hp => ?_, J₁₀.nd, ?_⟩
    · have hb : b ≠ dx := by
        rintro rfl
        have := I₀.base _ _ e
        rw [dB] at this; cases this
      exact kV b o hb (J₁₀.base b o e)
    · by_cases hb : b = dx
      · rw [hb] at e ⊢; rw [bs] at e; cases e; exact hd11
      · rw [bo b hb] at e; exact k11 b o hb (J₁₀.keep b o e)
    · obtain ⟨z1, n', vs', z2, z3⟩ := J₁₀.mu p hp
      have hb : p.1 ≠ dx := by intro q; rw [q, bd] at z1; cases z1
      exact ⟨nd _ z1, n', vs', k11 _ _ hb z2, z3.but bd kV⟩
    · exact funFrames_at (fun L' hL' o ho hd => ⟨o, k11 L' o (by rintro rfl; have := J₁₀.frB _ hL'; rw [bd] at this; cases this) ho, hd⟩) J₁₀.fun_
  have TT : TransC c [] B s₀ [(t, l3), (r, l2)] B₁₁ { s₁₀ with heap := h₁₁, toks := tk₁₁ } := by
    have T := T₁₀.touch (h' := h₁₁) (tk := tk₁₁) fd0 k11
    refine ⟨fun b o e => kV b o (by rintro rfl; rw [dB] at e; cases e) (T.le b o e), fun b hb => ?_, T.newM, T.keep, T.live, T.gens, T.os, T.drawn⟩
    by_cases hbd : b = dx
    · subst hbd; exact .inr (.inr fd0)
    · rw [bo b hbd] at hb; exact T.newB b hb
  exact q r t B₁₁ _ J TT hrt ⟨dx, _, _, kV _ _ hxd bx, bs, by rfl, fun _ => by rfl, by rfl, by rfl⟩
theorem make_inst {name qual : Str} {params : Arguments} {scope : Scope} {dV kV doc pm cdv ct oc : Value} {an od : Option Addr} {osl : Array (Option Value)} {fI : Addr} {e1 e3 : Expr} {st2 : Stmt} {p1 p2 p3 p4 p5 p6 : Pos} {l1 l2 l3 : List PyData} {n : Nat}
    (Y : InstCls G.K G.C) (hm : makesIn G.K G.C = true) (hi : findIn G.K (.ref G.C) "__init__" = some (some (.ref fI))) (hfn : typeIn G.K (.ref fI) = some (.type "function"))
    (ho : G.K.lookup fI = some ⟨oc, od, .func (fnOf name qual params [.Assign [.Attribute (.Name "self" p1) "rules" p2] e1 p3, st2, .Assign [.Attribute (.Name "self" p4) "told" p5] e3 p6] scope dV kV doc pm an cdv ct), osl⟩) (hcd : codeIn G.K cdv qual = true)
    (hbind : ∀ v : Value, bindArgs (fnOf name qual params [.Assign [.Attribute (.Name "self" p1) "rules" p2] e1 p3, st2, .Assign [.Attribute (.Name "self" p4) "told" p5] e3 p6] scope dV kV doc pm an cdv ct) ⟨[v], []⟩ = pure [(("self" : Str), v)])
    (hloc : scope.names.lookup ("self" : Str) = some .local) (hcell : ∀ x ∈ scope.names, x.2 ≠ .cell)
    (hs1 : ∀ env, swapsWith e1 (some (.Attribute (.Name "self" p1) "rules" p2)) p3.line env = pure false) (hs3 : ∀ env, swapsWith e3 (some (.Attribute (.Name "self" p4) "told" p5)) p6.line env = pure false)
    (h1 : ∀ A fr L x, Room (actOf A fr qual scope L fI cdv).A n → WE G (actOf A fr qual scope L fI cdv) e1 [(("self" : Str), .loc x)] [] (fun d μ' => ∃ r, d = .loc r ∧ μ' = [(r, l1)]) (fun _ _ => False))
    (h2 : ∀ A fr L x r, Room (actOf A fr qual scope L fI cdv).A n → WS G (actOf A fr qual scope L fI cdv) st2 [(("self" : Str), .inst x r r)] [(r, l1)] (fun fl m' μ' => fl = .next ∧ m'.get "self" = some (.inst x r r) ∧ μ' = [(r, l2)]) (fun _ _ _ => False))
    (h3 : ∀ A fr L m r, Room (actOf A fr qual scope L fI cdv).A n → WE G (actOf A fr qual scope L fI cdv) e3 m [(r, l2)] (fun d μ' => ∃ t, d = .loc t ∧ r ≠ t ∧ μ' = [(t, l3), (r, l2)]) (fun _ _ => False))
    (hco : scope.isCoroutine = false := by rfl) (hgen : scope.isGenerator = false := by rfl) (hk : scope.kind = .function := by rfl) :
    CallOK G G.C [] [] (n + 2) (fun d μ' => ∃ x r t, d = .inst x r t ∧ r ≠ t ∧ μ' = [(t, l3), (r, l2)]) (fun _ _ => False) := by
  intro A fr B s vals R hr hfr hh I hfm hv q e
  cases hv
  have X : G.K.In s.heap := I.hs.kin
  obtain ⟨hp, g, d, tk, os⟩ := s
  refine W.make_core (rest := []) (makes_of X hm) (looks_findIn X hi) (fun self => bind_fn X self hfn) (.inl rfl) ?_
  obtain ⟨dx, hdx⟩ : ∃ dx, dx = hp.objs.size := ⟨_, rfl⟩
  rw [← hdx]
  generalize hx : dx + 1 = x
  have fx : hp.get? x = none := Heap.get?_none_of_le (by rw [← hx, hdx]; exact Nat.le_succ _)
  have fd : hp.get? dx = none := Heap.get?_none_of_le (by rw [hdx]; exact Nat.le_refl _)
  have hxd : x ≠ dx := by rw [← hx]; exact Nat.succ_ne_self _
  generalize hH : (hp.push emptyDict).push (instObj G.C dx) = H
  have kH : ∀ b o, hp.get? b = some o → H.get? b = some o := fun b o e => by rw [← hH]; exact Heap.get?_push_of_some _ (Heap.get?_push_of_some _ e)
  have Hx : H.get? x = some (instObj G.C dx) := by
    rw [← hH, ← hx, hdx]
    have := Heap.get?_push_size (hp.push emptyDict) (o := instObj G.C hp.objs.size) rfl
    rw [Heap.size_push] at this
    exact this
  have Hd : H.get? dx = some (dictOf [] 0) := by
    rw [← hH, hdx]
    exact Heap.get?_push_of_some _ (Heap.get?_push_size _ rfl)
  have HS : Hs G H := I.hs.keeps kH
  refine codeAny_call_def (binds := [(("self" : Str), .ref x)]) ?_ (HS.kin _ _ ho) rfl HS.lim (codeRec_of HS.kin hcd) rfl (.of_eq (hbind _)) hcell (by intro y hy; rw [List.mem_singleton] at hy; subst hy; exact hloc) (fun h₂ hns hk₂ => ?_) hco hgen hk
  · have := hr.1; have h' := depth_under_make A G.C []; unfold recursionLimit; lia
  show wpAny G.M ((A.under (Code.builtin "type.__call__" { pos := [Value.ref G.C] })).deeper (envOf qual scope H.objs.size fI cdv)) (execs _ (envOf qual scope H.objs.size fI cdv)) _ _ { heap := h₂, gens := g, drawn := d, toks := tk + 1, os := os }
  obtain ⟨L, hL⟩ : ∃ L, L = H.objs.size := ⟨_, rfl⟩
  have hns : h₂.Ns L (fun x_1 => List.lookup x_1 [(("self" : Str), Value.ref x)].reverse) := by rw [hL]; exact hns
  rw [← hL]
  have fL : H.get? L = none := Heap.get?_none_of_le (by rw [hL]; exact Nat.le_refl _)
  have fL0 : hp.get? L = none := by
    cases q : hp.get? L with
    | none => rfl
    | some o => rw [kH L o q] at fL; cases fL
  have k2 : ∀ b o, hp.get? b = some o → h₂.get? b = some o := fun b o e => hk₂ b o (kH b o e)
  have xL : x ≠ L := by rintro rfl; rw [Hx] at fL; cases fL
  have dL : dx ≠ L := by rintro rfl; rw [Hd] at fL; cases fL
  have fund : ∀ a ∈ frs fr, ∃ o, hp.get? a = some o := fun a ha => let ⟨o, h, _⟩ := FunFrames.live I.fun_ ha; ⟨o, h⟩
  have nfr : ∀ b, hp.get? b = none → b ∉ frs fr := fun b h hm => by obtain ⟨o, ho⟩ := fund b hm; rw [h] at ho; cases ho
  obtain ⟨oL, es, ep, hLo, hLd, hLl, hLr⟩ := id hns
  obtain ⟨A₁, hA₁⟩ : ∃ A₁, A₁ = A.under (Code.builtin "type.__call__" { pos := [Value.ref G.C] }) := ⟨_, rfl⟩
  have hfr₁ : A₁.frames = some fr := by rw [hA₁]; exact hfr
  have hh₁ : A₁.handled = none := by rw [hA₁]; exact hh
  have hd₁ : A₁.depth = A.depth + 1 := by rw [hA₁]; exact depth_under_make A G.C []
  have hu₁ : A₁.units ≤ A.units + 5 := by rw [hA₁]; have := units_under_make A G.C []; lia
  rw [← hA₁]
  have Irm : BInv G fr [] B { heap := h₂, gens := g, drawn := d, toks := tk + 1, os := os } := BInv.ext (s := { heap := hp, gens := g, drawn := d, toks := tk, os := os }) I k2
  have rm : Room (actOf A₁ fr qual scope L fI cdv).A n := by
    refine ⟨?_, ?_⟩
    · have := hr.1; show A₁.depth + 1 + _ + _ ≤ _; lia
    · have := hr.2; show A₁.units + 3 + _ + _ ≤ _; lia
  have privs : ∀ a, a ∈ (actOf A₁ fr qual scope L fI cdv).priv → a = L ∨ a ∈ frs fr := fun a ha => by
    have ha1 : a ∈ [L] ++ ((L :: frs fr) ++ ([] : List Addr)) := ha
    simpa using ha1
  have I₀ : Inv G (actOf A₁ fr qual scope L fI cdv) [(("self" : Str), .loc x)] [] B { heap := h₂, gens := g, drawn := d, toks := tk + 1, os := os } := by
    refine ⟨⟨Irm.gf, Irm.base, Irm.keep, fun a ha => ?_, Irm.mu, Irm.nd, ⟨by show scope.kind ≠ .module; rw [hk]; decide, ⟨L, oL, rfl, emptyHeap_get L, hLo, by rw [hLd]; exact nofun⟩, Irm.fun_⟩⟩,
      ⟨?_, hh₁, hk, rfl, rfl, ⟨_, _, L, rfl, rfl, rfl⟩, ⟨by have := rm.1; lia, by have := rm.2; lia⟩, List.Mem.head _, fun x y a hx => nomatch hx⟩, ⟨_, hns, fun y d hy => ?_⟩, fun a ha => ?_, fun a ha => ?_, fun a ha => by simp, fun p hp => nomatch hp⟩
    · rw [frs_cons (L := L) rfl] at ha
      rcases List.mem_cons.mp ha with rfl | ha
      · exact I.noB fL0
      · exact I.frB a ha
    · show A₁.frames.map _ = _; rw [hfr₁]; rfl
    · rw [store_get] at hy
      split at hy
      · rename_i q; subst q; cases hy; exact ⟨.ref x, rfl, .inl ⟨hloc, rfl⟩⟩
      · cases hy
    · rcases privs a ha with rfl | ha'
      · show h₂.get? _ ≠ none; rw [hLo]; exact nofun
      · obtain ⟨o, ho⟩ := fund a ha'; show h₂.get? _ ≠ none; rw [k2 a o ho]; exact nofun
    · rcases privs a ha with rfl | ha'
      · exact I.noB fL0
      · exact I.frB a ha'
  have xp : x ∉ (actOf A₁ fr qual scope L fI cdv).priv := fun h => (privs x h).elim xL (nfr x fx)
  have dp : dx ∉ (actOf A₁ fr qual scope L fI cdv).priv := fun h => (privs dx h).elim dL (nfr dx fd)
  generalize hs2 : ({ heap := h₂, gens := g, drawn := d, toks := tk + 1, os := os } : Shared) = s₂ at I₀ ⊢
  have hs2h : s₂.heap = h₂ := by rw [← hs2]
  generalize hs0 : ({ heap := hp, gens := g, drawn := d, toks := tk, os := os } : Shared) = s₀ at I q
  have hs0h : s₀.heap = hp := by rw [← hs0]
  have T0 : Trans [L] (frs ((actOf A₁ fr qual scope L fI cdv).env :: fr)) [] B s₀ [] B s₂ := by
    rw [← hs0, ← hs2]
    exact Trans.ext (s := { heap := hp, gens := g, drawn := d, toks := tk, os := os }) k2
  have fx0 : s₀.heap.get? x = none := by rw [hs0h]; exact fx
  have fd0 : s₀.heap.get? dx = none := by rw [hs0h]; exact fd
  have nofr : ∀ b, b ≠ L → hp.get? b = none → b ∉ frs ((actOf A₁ fr qual scope L fI cdv).env :: fr) := fun b h1 h2 hm => by
    rw [frs_cons (L := L) rfl] at hm
    rcases List.mem_cons.mp hm with h | h
    · exact h1 h
    · exact nfr b h2 h
  have xf := nofr x xL fx
  have df := nofr dx dL fd
  have hx2 : s₂.heap.get? x = some (instObj G.C dx) := by rw [hs2h]; exact hk₂ _ _ Hx
  have hd2 : s₂.heap.get? dx = some (dictOf [] 0) := by rw [hs2h]; exact hk₂ _ _ Hd
  have xL1 : x ∉ [L] := by simpa using xL
  have dL1 : dx ∉ [L] := by simpa using dL
  have xB : B x = none := I.noB fx0
  have dB : B dx = none := I.noB fd0
  refine init_body (c := actOf A₁ fr qual scope L fI cdv) Y PassesOwn.leaving (hs1 _) (hs3 _) (h1 A₁ fr L x rm) (fun r => h2 A₁ fr L x r rm) (fun m r => h3 A₁ fr L m r rm) I₀ T0 xp dp xf df hxd hx2 hd2 xL1 dL1 fx0 fd0 xB dB fun r t B' s' J TT hrt hI => ?_
  have TO := Trans.out (env := (actOf A₁ fr qual scope L fI cdv).env) (fr := fr) (h₁ := s₀.heap) (tk := s₀.toks) (s := s₀) (L := L) (fun _ _ e => e) (by rw [hs0h]; exact fL0) rfl TT
  exact ⟨rfl, q (.ref x) (.inst x r t) [(t, l3), (r, l2)] B' s' TO (BInv.pop J) ⟨rfl, hI⟩ ⟨x, r, t, rfl, hrt, rfl⟩⟩
end
end P279
end
section
open PySem PySem.W PyProof.Rows PySem.Spec PySem.Calls
namespace P279
section
variable {G : Cfg} {c : Act} {m : Loc} {μ μ' : Mut} {B B' : BM} {s s₁ : Shared} {h₆ : Heap} {tk : Nat}
theorem kept_caught (I : Inv G c m μ B s) (hst : (hideAll s.heap (frs c.fr)).StaysIn h₆) (hup : s.heap.UpToSlots h₆) {a : Addr} {o : Obj} (h : s.heap.get? a = some o) : (a ∉ frs c.fr → h₆.get? a = some o) ∧ ∃ sl, h₆.get? a = some { o with slots := sl } := by
  have k1 : a ∉ frs c.fr → h₆.get? a = some o := fun hf => hst a o (hideAll_get _ h hf)
  refine ⟨k1, ?_⟩
  by_cases hf : a ∈ frs c.fr
  · obtain ⟨o', ho', hd⟩ := FunFrames.live I.fun_ hf
    rw [h] at ho'; cases ho'
    exact hup a o h hd
  · exact ⟨o.slots, k1 hf⟩
theorem Inv.caught (I : Inv G c m μ B s) (hst : (hideAll s.heap (frs c.fr)).StaysIn h₆) (hup : s.heap.UpToSlots h₆) (hfn : h₆.FunFrames (hideAll s.heap (frs c.fr)) c.fr) : Inv G c m μ B { s with heap := h₆, toks := tk } := by
  have K := fun {a o} (h : s.heap.get? a = some o) => kept_caught I hst hup h
  refine ⟨⟨I.gf, I.base, fun a o e => ?_, I.frB, fun p hp => ?_, I.nd, funFrames_base (fun a _ => emptyHeap_get a) hfn⟩, I.ok, ?_, fun a ha => ?_, I.privB, I.privM, fun p hp => ?_⟩
  · exact (K (I.keep a o e)).1 fun hf => by rw [I.frB a hf] at e; cases e
  · obtain ⟨h1, n, vs, h2, h3⟩ := I.mu p hp
    exact ⟨h1, n, vs, (K h2).1 fun hf => I.privM _ (List.mem_append_right _ (List.mem_append_left _ hf)) (List.mem_map_of_mem (f := (·.1)) hp), h3⟩
  · obtain ⟨mr, hn, hl⟩ := I.loc
    refine ⟨mr, ?_, fun x d e => ?_⟩
    · obtain ⟨o, es, ep, ho, hd, r⟩ := hn
      obtain ⟨sl, h⟩ := (K ho).2
      exact ⟨_, es, ep, h, hd, r⟩
    · obtain ⟨v, hv, h⟩ := hl x d e
      refine ⟨v, hv, h.imp id fun ⟨hk, ca, hc, o, ho, hd⟩ => ⟨hk, ca, hc, ?_⟩⟩
      obtain ⟨sl, h⟩ := (K ho).2
      exact ⟨_, h, hd⟩
  · cases q : s.heap.get? a with
    | none => exact absurd q (I.live a ha)
    | some o => obtain ⟨sl, h⟩ := (K q).2; show h₆.get? a ≠ none; rw [h]; exact nofun
  · obtain ⟨v, o, ho, hd⟩ := I.cellOk p hp
    obtain ⟨sl, h⟩ := (K ho).2
    exact ⟨v, _, h, hd⟩
theorem Trans.caught (T : TransC c μ' B' s₁ μ B s) (I : Inv G c m μ B s) (hst : (hideAll s.heap (frs c.fr)).StaysIn h₆) (hup : s.heap.UpToSlots h₆) : TransC c μ' B' s₁ μ B { s with heap := h₆, toks := tk } := by
  have K := fun {a o} (h : s.heap.get? a = some o) => kept_caught I hst hup h
  refine ⟨T.le, T.newB, T.newM, fun b o e hm ho => ?_, fun b hb => ?_, T.gens, T.os, T.drawn⟩
  · obtain ⟨k1, sl, k2⟩ := T.keep b o e hm ho
    obtain ⟨sl', k3⟩ := (K k2).2
    exact ⟨fun hf => (K (k1 hf)).1 hf, sl', k3⟩
  · have := T.live b hb
    cases q : s.heap.get? b with
    | none => exact absurd q this
    | some o => obtain ⟨sl, h⟩ := (K q).2; show h₆.get? b ≠ none; rw [h]; exact nofun
end
noncomputable def WSsM (G : Cfg) (c : Act) (sts : List Stmt) (m : Loc) (μ : Mut) (Q : Fl → Loc → Mut → Prop) : Prop :=
  ∀ (ea : Addr) B s, Inv G c m μ B s → ∀ (Qr : Flow → Shared → Prop) (Er : Value → Shared → Prop), (∀ a f m' μ' B' s', TransC c μ B s μ' B' s' → Inv G c m' μ' B' s' → rF G.C B' a f → Q f m' μ' → Qr a s') → wpAny G.M (c.A.mark (some (.ref ea))) (execs sts c.env) Qr Er s
section
variable {G : Cfg} {c : Act} {m : Loc} {μ : Mut} {Q : Fl → Loc → Mut → Prop} {E : Cl → Loc → Mut → Prop}
theorem WSsM_set {x : Str} {k : Const} {n : Nat} {p₁ p₂ p₃ : Pos} {d : D} (hx : c.env.kindOf x = some .local) (hk : (k = .none ∧ d = .t .none) ∨ (∃ b, k = .bool b ∧ d = .t (.bool b))) (h : Q .next ((x, d) :: m) μ) : WSsM G c [.Assign [.Name x p₁] (.Constant k n p₂) p₃] m μ Q := by
  intro ea B s I Qr Er q
  have key : ∀ v, VD G.C B v d → wpAny G.M (c.A.mark (some (.ref ea))) (eval (.Constant k n p₂) c.env) (fun w s' => w = v ∧ s' = s) Er s → wpAny G.M (c.A.mark (some (.ref ea))) (execs [.Assign [.Name x p₁] (.Constant k n p₂) p₃] c.env) Qr Er s := fun v hv hw => by
    refine wpAny_execs_cons (wpAny_Assign_stores (wpAny_mono hw (fun w s' hw' => ?_) fun _ _ e => e) (by rfl) (by rfl))
    obtain ⟨rfl, rfl⟩ := hw'
    show wpAny _ _ (assign (.Name x p₁) c.env w) _ _ _
    refine wpAny_assign_Name (WStoreA (d := d) (Qm := fun m' μ' => m' = (x, d) :: m ∧ μ' = μ) (.inl hx) I hv ⟨rfl, rfl⟩ fun _ _ m' μ' B' s₂ T' I' _ h' => ?_)
    obtain ⟨rfl, rfl⟩ := h'
    exact wpAny_execs_nil (q .next .next _ _ B' s₂ T' I' trivial h)
  rcases hk with ⟨rfl, rfl⟩ | ⟨b, rfl, rfl⟩
  · exact key .none V.none (wpAny_Constant_none ⟨rfl, rfl⟩)
  · exact key (.bool b) (V.bool b) (wpAny_Constant_bool ⟨rfl, rfl⟩)
theorem WSsM_retEq {x : Str} {i j : Int} {n : Nat} {p₁ p₂ p₃ p₄ : Pos} (hx : c.env.kindOf x = some .local) (hm : m.get x = some (.t (.int i))) (h : Q (.ret (.t (.bool (i == j)))) m μ) (hd : (x == ("__debug__" : Str)) = false := by decide) : WSsM G c [.Return (some (.Compare (.Name x p₁) [.Eq] [.Constant (.int j) n p₂] p₃)) p₄] m μ Q := by
  intro ea B s I Qr Er q
  obtain ⟨mr, hn, hl⟩ := I.loc
  obtain ⟨v, hv, h'⟩ := hl x _ hm
  have hv' : mr x = some v := by
    rcases h' with ⟨_, hv'⟩ | ⟨hk, _⟩
    · exact hv'
    · rw [hx] at hk; cases hk
  cases hv
  refine wpAny_execs_cons (wpAny_Return_some (wpAny_Compare1 (wpAny_Name (wpAny_loadName_local I.ok.kind hx hn hv' ?_) hd) (by with_unfolding_all rfl)))
  refine wpAny_Constant_int ?_
  refine P.eq_int ?_
  exact q _ (.ret (.t (.bool (i == j)))) m μ B _ Trans.toks I.toks (V.bool _) h
structure Catches (K : Frag) (X Dc : Addr) : Prop where
  sub : mroIn K X (.ref Dc) = some true
  base : mroIn K Dc (.type "BaseException") = some true
  typ : typeIn K (.ref Dc) = some (.type "type")
noncomputable def IsCls (K : Frag) (C : Addr) : Prop := ∃ c d cd sl, K.lookup C = some (Obj.mk c d (.cls cd) sl)
theorem excMatches_ok {prog : Program} {w : World} {A : Around} {Er : Value → Shared → Prop} {K : Frag} {X Dc e : Addr} {oe : Obj} {s : Shared} {Qb : Bool → Shared → Prop} (I : K.In s.heap) (C : Catches K X Dc) (hc : IsCls K Dc) (he : s.heap.get? e = some oe) (hcls : oe.cls = .ref X) (h : Qb true s) :
    wpAny (model prog w) A (excMatches (.ref e) (.ref Dc)) Qb Er s := by
  obtain ⟨_, _, _, _, ho⟩ := hc
  have f := tc_notTuple
  have L1 : Looks (model prog w) s.heap (typeOf (.ref Dc)) (.type "type") := looks_typeIn I C.typ
  have L2 : Looks (model prog w) s.heap (isInstance (.ref Dc) (.type "tuple")) false := L1.andThen (Looks.of_pure tc_notTuple)
  have L3 : Looks (model prog w) s.heap (typeOf (.ref e)) (.ref X) := by
    refine (Looks.ld he).andThen ?_
    rw [hcls]; exact .now
  have L4 : Looks (model prog w) s.heap (isSubtype (.ref Dc) (.type "BaseException")) true := looks_mroIn I C.base
  have L5 : Looks (model prog w) s.heap (isSubtype (.ref X) (.ref Dc)) true := looks_mroIn I C.sub
  have L6 : Looks (model prog w) s.heap (isType (.ref Dc)) true := (Looks.ld (I _ _ ho)).andThen .now
  unfold excMatches
  refine wpAny_bind (L2.here ?_)
  dsimp only
  rw [if_neg (by decide)]
  refine wpAny_bind (wpAny_pure ?_)
  simp only [List.forIn_cons, List.forIn_nil]
  unfold isExcClass
  refine wpAny_bind (wpAny_bind (wpAny_bind (wpAny_bind (L6.here ?_))))
  rw [if_pos rfl]
  refine L4.here ?_
  simp only [Bool.not_true, Bool.false_eq_true, if_false]
  refine wpAny_pure (wpAny_pure (wpAny_bind (L3.here (wpAny_bind (wpAny_bind (wpAny_bind (L5.here ?_)))))))
  rw [if_pos rfl]
  exact wpAny_pure (wpAny_pure (wpAny_pure h))
theorem WS_Try {body suite : List Stmt} {b₀ : Stmt} {x : Str} {np hpos pos : Pos} {Dc : Addr} (hx : c.env.kindOf x = some .globalImplicit) (g : nsIn G.K mainGlobals x = some (some (.ref Dc))) (hcd : IsCls G.K Dc)
    (h : WSs G c body m μ (fun f m' μ' => Q f m' μ') (fun k m' μ' => Catches G.K (G.X k) Dc ∧ WSsM G c (b₀ :: suite) m' μ' Q))
    (hd : (x == ("__debug__" : Str)) = false := by decide) : WS G c (.Try body [.ExceptHandler (some (.Name x np)) none (b₀ :: suite) hpos] [] [] pos) m μ Q E := by
  intro B s I Qr Er hp q e
  refine wpAny_Try_except ?_
  refine h B s I _ _ PassesOwn.looking (fun a f m' μ' B' s' T I' R hq => ?_) (fun k ea m' μ' B' s₁ s' T I' g1 g2 g3 R hq => ?_)
  · cases a <;> cases f <;> first | exact R.elim | skip
    · exact wpAny_execs_nil (q .next .next m' μ' B' s' T I' trivial hq)
    · exact q _ .brk m' μ' B' s' T I' R hq
    · exact q _ .cont m' μ' B' s' T I' R hq
    · rename_i v d
      exact q _ (.ret d) m' μ' B' s' T I' R hq
  · obtain ⟨hC, hq⟩ := hq
    obtain ⟨e0, r0, L, hfr0, hf0, hfe⟩ := I'.ok.head
    refine Raised.noted (L := L) I'.ok.frames hfr0 hf0 hfe I'.fun_ R fun h₄ a0 hh₄ hup₄ => ?_
    refine wpAny_landsW (s := { s' with heap := h₄ }) hh₄ fun h₅ hfl₅ hup₅ => ?_
    have up5 := hup₄.trans hup₅
    have K5 : Hs G h₅ := by
      have H := (⟨I'.gf.kin, I'.gf.g, I'.gf.b, I'.gf.lim⟩ : Hs G G.h₀)
      refine H.keeps fun b o eb => (kept_caught I' hfl₅.1 up5 (I'.keep b o (I'.base b o eb))).1 fun hf => ?_
      have := I'.frB b hf
      rw [I'.base b o eb] at this; cases this
    refine wpAny_handleBy_cons (codeAny_handlers_test (Name_function_global I'.ok.kind hx (loadGlobal_global (I'.ok.globals ▸ K5.g) (mg_of I'.gf.kin I'.gf.g g) ?_) hd)) (by intro z; cases z)
    obtain ⟨oe, hoe, hcl⟩ := hfl₅.there
    refine excMatches_ok (s := { s' with heap := h₅ }) K5.kin hC hcd hoe hcl ?_
    refine codeAny_handlers_suite (lands_againW (s := { s' with heap := h₅ }) hfl₅ fun h₆ hfl₆ hup₆ => ?_)
    have up6 := up5.trans hup₆
    have I6 := I'.caught (tk := s'.toks) hfl₆.1 up6 hfl₆.2.2.1
    have T6 := T.caught (tk := s'.toks) I' hfl₆.1 up6
    have es : ({ s' with heap := h₆ } : Shared) = { s₁ with heap := h₆, toks := s'.toks } := by
      obtain ⟨_, _, _, _, _⟩ := s'
      obtain ⟨_, _, _, _, _⟩ := s₁
      dsimp only at g1 g2 g3 ⊢
      rw [g1, g2, g3]
    show wpAny _ _ _ _ _ ({ s' with heap := h₆ } : Shared)
    rw [es]
    exact hq ea B' _ I6 _ _ fun a f m₂ μ₂ B₂ s₂ T₂ I₂ R₂ h₂ => q a f m₂ μ₂ B₂ s₂ (T6.trans T₂) I₂ R₂ h₂
end
end P279
end
section
open PySem PySem.W PyProof.Rows PySem.Spec PySem.Calls PySem.Builtin PySem.Builtin.Str
namespace P279
section
variable {prog : Program} {w : World} {A : Around} {E : Value → Shared → Prop} {s : Shared} {x y : Str} {t u : Tok} {Q : Value → Shared → Prop}
theorem split_new (hy : (y.length == 0) = false) (hx : x.length ≤ 1000000)
    (hq : ∀ l tk, l.map (·.1) = Txt.split x y → Q (.ref s.heap.objs.size) { s with heap := s.heap.push { cls := .type "list", data := .seq (strValues l).toArray }, toks := tk }) :
    wpAny (model prog w) A (call (.builtin "str.split") [.str x t, .str y u]) Q E s := by
  have hw : (partsBetween x (occurrences x y 0 x.length (x.length + 1)) y.length).length ≤ sizeLine := by
    rw [sizeLine_eq, StrLaws.partsBetween_eq]
    have h1 : ∀ (cuts : List Nat) (a w : Nat), (StrLaws.partsFrom x w a cuts).length = cuts.length + 1 := by
      intro cuts
      induction cuts with
      | nil => intro _ _; rfl
      | cons c r ih => intro a w; show (StrLaws.partsFrom x w (c + w) r).length + 1 = _; rw [ih]; rfl
    rw [h1]
    have := StrLaws.occ_length_le x y 0 x.length (x.length + 1)
    lia
  cases h1 : (decide (x.length < y.length) || decide (strKind x < strKind y))
  · cases hf : (occurrences x y 0 x.length (x.length + 1)).isEmpty
    · refine call_meets F.slot_str_split (typeIs_str _ _ _) F.entry_str_split (F.args_str_split_2 _ _) (meets_str_split_sep x y t u h1 hy hf (by rw [sizeLine_eq]; exact Nat.le_trans ‹_› (by decide)) hw) ?_
      have := hq (numbered s.toks (partsBetween x (occurrences x y 0 x.length (x.length + 1)) y.length))
      show wants Q E _ { s with toks := _, heap := s.heap.push { cls := .type "list", data := .seq (strsFrom s.toks (partsBetween x (occurrences x y 0 x.length (x.length + 1)) y.length)).toArray } }
      rw [strsFrom_eq]
      exact this _ ((numbered_texts _ _).trans ((if_neg (by rw [h1]; decide)).trans (if_neg (by rw [hf]; decide))).symm)
    · exact call_meets F.slot_str_split (typeIs_str _ _ _) F.entry_str_split (F.args_str_split_2 _ _) (meets_str_split_not_found x y t u h1 hy hf)
        (hq [(x, t)] _ ((if_neg (by rw [h1]; decide)).trans (if_pos hf)).symm)
  · exact call_meets F.slot_str_split (typeIs_str _ _ _) F.entry_str_split (F.args_str_split_2 _ _) (meets_str_split_cannot_occur x y t u h1)
      (hq [(x, t)] _ (if_pos h1).symm)
end
section
variable {G : Cfg} {c : Act} {m : Loc} {μ : Mut} {E : Cl → Mut → Prop} {Q : D → Mut → Prop} {x y : Str}
theorem SL_find1 (h : Q (.t (.int (Txt.find x y))) μ) : SL G c (fun vs => call (.builtin "str.find") vs) [.t (.str x), .t (.str y)] m μ Q E := by
  intro B s vs I hvv
  obtain ⟨v, w, rfl, hv, hw⟩ := hvv.two
  cases hv; cases hw
  exact WX.of_toks I fun _ _ q => call_gives F.slot_str_find (typeIs_str _ _ _) F.entry_str_find (F.args_str_find_2 _ _) (gives_str_find _ _ _ _) (q _ _ (.t (.int _)) (V.int _ _) h)
theorem SL_find3 {i : Int} (h : Q (.t (.int (Txt.find3 x y i))) μ) : SL G c (fun vs => call (.builtin "str.find") vs) [.t (.str x), .t (.str y), .t (.int i)] m μ Q E := by
  intro B s vs I hvv
  obtain ⟨v, w, u, rfl, hv, hw, hu⟩ := hvv.three
  cases hv; cases hw; cases hu
  exact WX.of_toks I fun _ _ q => SC.find3 (q _ _ (.t (.int _)) (V.int _ _) h)
theorem SL_index (h0 : 0 ≤ Txt.find x y) (h : Q (.t (.int (Txt.find x y))) μ) : SL G c (fun vs => call (.builtin "str.index") vs) [.t (.str x), .t (.str y)] m μ Q E := by
  intro B s vs I hvv
  obtain ⟨v, w, rfl, hv, hw⟩ := hvv.two
  cases hv; cases hw
  exact WX.of_toks I fun _ _ q => PyProof.Rows.index_or I.ok.handled (fun e _ => by rw [e] at h0; cases h0) fun _ _ => q _ _ (.t (.int _)) (V.int _ _) h
theorem vs_strs {B : BM} {ys : List Str} {vs : List Value} (H : Vs B vs (ys.map .str)) : StrsAre vs ys := by
  induction ys generalizing vs with
  | nil => cases H; exact .nil
  | cons y ys ih =>
    cases H with
    | cons h r => cases h; exact .cons _ _ (ih r)
theorem SL_join {d : D} {ys : List Str} (hd : asList μ d = some (ys.map .str)) (hl : (ys.map (·.length)).sum + ys.length * x.length ≤ 16777216) (h : Q (.t (.str (Txt.join x ys))) μ) : SL G c (fun vs => call (.builtin "str.join") vs) [.t (.str x), d] m μ Q E := by
  intro B s vs I hvv
  obtain ⟨v, w, rfl, hv, hw⟩ := hvv.two
  cases hv
  obtain ⟨a, vs, n, rfl, ha, hvs⟩ := I.isL hw hd
  exact WX.of_toks I fun _ _ q => join_list ⟨_, ha, rfl, n, rfl⟩ (vs_strs hvs) hl fun t' k => q _ k (.t (.str _)) (V.str _ _) h
theorem strs_vs {B : BM} : ∀ (l : List (Str × Tok)), Vs B (strValues l) ((l.map (·.1)).map .str)
  | [] => .nil
  | (x, t) :: r => .cons (V.str x t) (strs_vs r)
theorem SL_split (hy : (y.length == 0) = false) (hx : x.length ≤ 1000000) (h : Q (.t (.list ((Txt.split x y).map .str))) μ) : SL G c (fun vs => call (.builtin "str.split") vs) [.t (.str x), .t (.str y)] m μ Q E := by
  intro B s vs I hvv
  obtain ⟨v, w, rfl, hv, hw⟩ := hvv.two
  cases hv; cases hw
  refine WX.of_new I fun _ _ q => split_new hy hx fun l tk hl => ?_
  refine q _ _ tk (.t (.list ((Txt.split x y).map .str))) s.heap.objs.size _ (fun _ _ e => Heap.get?_push_of_some _ e) (Heap.get?_none_of_le (Nat.le_refl _)) (Heap.get?_push_size _ rfl) (V.list (n := 0) BM.put_self ?_) h
  rw [← hl]
  exact strs_vs l
end
end P279
end
section
open PySem PySem.W PyProof.Rows PySem.Spec PySem.Calls PySem.Builtin PySem.Builtin.Str
namespace P279
section
variable {G : Cfg} {c : Act} {m : Loc} {μ : Mut} {E : Cl → Mut → Prop} {Q : D → Mut → Prop} {Qb : Bool → Mut → Prop}
noncomputable def WBo (G : Cfg) (c : Act) (pos : Pos) (op : BoolOp) (es : List Expr) (m : Loc) (μ : Mut) (Q : D → Mut → Prop) (E : Cl → Mut → Prop) : Prop :=
  ∀ B s, Inv G c m μ B s → WX G c (VD G.C) (boolOp pos op (evalEach es c.env)) m μ B s Q E
theorem WE_BoolOp {op : BoolOp} {es : List Expr} {pos : Pos} (h : WBo G c pos op es m μ Q E) : WE G c (.BoolOp op es pos) m μ Q E := fun B s I => by
  have := h B s I
  rw [← arm_eval_BoolOp] at this
  exact this
theorem WBo_one {op : BoolOp} {x : Expr} {pos : Pos} (h : WE G c x m μ Q E) : WBo G c pos op [x] m μ Q E := fun B s I => h B s I
set_option backward.match.sparseCases true in
theorem WBo_And {x y : Expr} {es : List Expr} {pos : Pos} (h : WE G c x m μ (fun d μ₁ => ∃ b, d = .t (.bool b) ∧ if b = true then WBo G c pos .And (y :: es) m μ₁ Q E else Q (.t (.bool false)) μ₁) E) : WBo G c pos .And (x :: y :: es) m μ Q E := by
  intro B s I Qr Er hp q e
  show wpAny G.M c.A (do
    let v ← eval x c.env
    standAt pos
    let t ← PySem.holding [v] (truthy v)
    match BoolOp.And, t with
    | .And, false | .Or, true => pure v
    | _, _ => boolOp pos .And (evalEach (y :: es) c.env)) Qr Er s
  refine wpAny_bind (WX.use (h B s I) (Trans.refl ..) hp e fun v d μ₁ B₁ s₁ T₁ _ I₁ V₁ h₁ => ?_)
  obtain ⟨b, rfl, h₁⟩ := h₁
  cases V₁
  refine wpAny_bind (wpAny_standAt (wpAny_bind (wpAny_holding (wpAny_truthy_bool ?_))))
  cases b
  · exact wpAny_pure (q (.bool false) (.t (.bool false)) m μ₁ B₁ s₁ T₁ I₁ (V.bool _) ⟨rfl, h₁⟩)
  · exact WX.use (h₁ B₁ s₁ I₁) T₁ hp e fun a b μ' B' s' T _ I' R x => q a b m μ' B' s' T I' R ⟨rfl, x⟩
set_option backward.match.sparseCases true in
theorem WBo_Or {x y : Expr} {es : List Expr} {pos : Pos} (h : WE G c x m μ (fun d μ₁ => ∃ b, d = .t (.bool b) ∧ if b = true then Q (.t (.bool true)) μ₁ else WBo G c pos .Or (y :: es) m μ₁ Q E) E) : WBo G c pos .Or (x :: y :: es) m μ Q E := by
  intro B s I Qr Er hp q e
  show wpAny G.M c.A (do
    let v ← eval x c.env
    standAt pos
    let t ← PySem.holding [v] (truthy v)
    match BoolOp.Or, t with
    | .And, false | .Or, true => pure v
    | _, _ => boolOp pos .Or (evalEach (y :: es) c.env)) Qr Er s
  refine wpAny_bind (WX.use (h B s I) (Trans.refl ..) hp e fun v d μ₁ B₁ s₁ T₁ _ I₁ V₁ h₁ => ?_)
  obtain ⟨b, rfl, h₁⟩ := h₁
  cases V₁
  refine wpAny_bind (wpAny_standAt (wpAny_bind (wpAny_holding (wpAny_truthy_bool ?_))))
  cases b
  · exact WX.use (h₁ B₁ s₁ I₁) T₁ hp e fun a b μ' B' s' T _ I' R x => q a b m μ' B' s' T I' R ⟨rfl, x⟩
  · exact wpAny_pure (q (.bool true) (.t (.bool true)) m μ₁ B₁ s₁ T₁ I₁ (V.bool _) ⟨rfl, h₁⟩)
theorem WB_Between {l r₁ r₂ : Expr} {pos : Pos} {a b k : Int} (h : WE G c l m μ (fun d₁ μ₁ => d₁ = .t (.int a) ∧ WE G c r₁ m μ₁ (fun d₂ μ₂ => d₂ = .t (.int b) ∧ if a ≤ b then WE G c r₂ m μ₂ (fun d₃ μ₃ => d₃ = .t (.int k) ∧ Qb (decide (b ≤ k)) μ₃) E else Qb false μ₂) E) E)
    (hm : lastMarks [CmpOp.LtE, .LtE] [r₁, r₂] = false := by with_unfolding_all rfl) : WB G c (.Compare l [.LtE, .LtE] [r₁, r₂] pos) m μ Qb E := by
  intro B s I Qr Er hp q e
  refine isTrue_chain (WX.use (h B s I) (Trans.refl ..) hp e fun v₁ d₁ μ₁ B₁ s₁ T₁ _ I₁ V₁ h₁ => ?_) hm
  obtain ⟨rfl, h₁⟩ := h₁
  cases V₁
  refine test_link (WX.use (h₁ B₁ s₁ I₁) T₁ hp e fun v₂ d₂ μ₂ B₂ s₂ T₂ _ I₂ V₂ h₂ => ?_)
  obtain ⟨rfl, h₂⟩ := h₂
  cases V₂
  refine P.le_int ?_
  refine wpAny_truthy_bool ?_
  by_cases hab : a ≤ b
  · rw [if_pos hab] at h₂
    rw [decide_eq_true hab, if_pos rfl]
    show wpAny _ _ (testChain pos _ [.LtE] [eval r₂ c.env]) _ _ _
    refine test_last (WX.use (h₂ B₂ s₂ I₂) T₂ hp e fun v₃ d₃ μ₃ B₃ s₃ T₃ _ I₃ V₃ h₃ => ?_)
    obtain ⟨rfl, h₃⟩ := h₃
    cases V₃
    refine P.le_int (wpAny_truthy_bool ?_)
    exact q _ _ m μ₃ B₃ s₃ T₃ I₃ rfl ⟨rfl, h₃⟩
  · rw [if_neg hab] at h₂
    rw [decide_eq_false hab, if_neg (by decide)]
    exact q _ _ m μ₂ B₂ s₂ T₂ I₂ rfl ⟨rfl, h₂⟩
theorem SL_len_rng {lo hi : Int} (ok : itOk (.rng lo hi)) (h : Q (.t (.int (max (hi - lo) 0))) μ) : SL G c (fun vs => call (.builtin "len") vs) [.rng lo hi] m μ Q E := by
  intro B s vs I hvv
  obtain ⟨v, rfl, hv⟩ := hvv.one
  obtain ⟨a, o, rfl, ha, t, u, w, rfl⟩ := hv
  have hr : Builtin.Range.rangeSize lo hi 1 = (((hi - lo).toNat : Nat) : Int) := by
    rw [rangeSize_one]
    split <;> lia
  obtain ⟨o1, o2, o3, o4⟩ := ok
  refine WX.of_toks I fun _ _ q => call_len_range (I.keep _ _ ha) hr (by lia) (q _ _ (.t (.int _)) (V.int _ _) ?_)
  have : (((hi - lo).toNat : Nat) : Int) = max (hi - lo) 0 := by lia
  rw [this]; exact h
theorem SI_strLast {x : List Nat} {n : Nat} (hl : x.length ≤ 1000000) (hx : x.getLast? = some n) (h : Q (.t (.str (S [n]))) μ) : SI G c (.t (.str (S x))) (.t (.int (-1))) m μ Q E := by
  intro B s v w I hv hw; cases hv; cases hw
  have hpos : 0 < x.length := by
    cases x with
    | nil => simp at hx
    | cons => simp
  refine ⟨⟨"str", _, typeIs_str _ _ _, F.slot_str_getitem.lookup⟩, WX.of_toks I fun _ _ q => PyProof.Rows.getItem_str (c := n) (by decide) ?_ (q _ _ (.t (.str _)) (V.str (S [n]) _) h)⟩
  rw [S_length, StrLaws.seqIndex_neg (by decide) (by lia)]
  rw [List.getLast?_eq_getElem?] at hx
  have : ((-1 : Int) + (x.length : Int)).toNat = x.length - 1 := ar_m1 (by assumption)
  rw [Option.bind_some, this]
  simpa using hx
theorem S2_inS_nil {x : Str} (h : Q (.t (.bool true)) μ) : S2 G c (compareOp .In) (.t (.str (S []))) (.t (.str x)) m μ Q E := by
  intro B s v w I hv hw; cases hv; cases hw
  refine WX.of_toks I fun _ _ q => PyProof.Rows.in_str (q _ s.toks (.t (.bool _)) (V.bool _) ?_)
  have : (!(occurrences x (S []) 0 x.length 1).isEmpty) = true := (StrLaws.found_iff x (S [])).mpr ⟨0, by simp [S, Str.length], by rw [StrLaws.subAt_eq]; simp [S, Str.length]⟩
  rw [this]; exact h
theorem slicePick_eq (vs : Array Value) (lo hi : Option Int) : (slicePick vs lo hi none).toList = slc vs.toList lo hi := by
  have e : sliceBounds lo hi none vs.size = (((clipN lo 0 vs.size : Nat) : Int), ((clipN hi vs.size vs.size : Nat) : Int), (1 : Int)) := by
    unfold sliceBounds
    have e0 : ∀ (v : Option Int) (d : Nat), (match v with | none => (d : Int) | some i => max 0 (min (if i < 0 then i + (vs.size : Int) else i) (vs.size : Int))) = ((clipN v d vs.size : Nat) : Int) := by
      intro v d
      cases v with
      | none => rfl
      | some i => exact (Int.toNat_of_nonneg (Int.le_max_left ..)).symm
    have h0 := e0 lo 0
    have h1 := e0 hi vs.size
    simp only [Option.getD_none, show (1 : Int) > 0 by decide, if_true]
    rw [← h0, ← h1]
    rfl
  unfold slicePick
  rw [e]
  dsimp only
  rw [sliceRange_one, pick_run]
  simp [slc]
theorem WE_SliceList {value : Expr} {lower upper : Option Expr} {p pos : Pos}
    (h : WE G c value m μ (fun d μ₁ => ∃ ds, d = .t (.list ds) ∧ ds.length ≤ 1000000 ∧ WPart G c lower m μ₁ (fun lo μ₂ => WPart G c upper m μ₂ (fun hi μ₃ => Q (.t (.list (slc ds lo hi))) μ₃) E) E) E)
    (ht : ∀ o r, letTemporaryGo value o r = pure () := by intro _ _; rfl) : WE G c (.Subscript value (.Slice lower upper none p) pos) m μ Q E := by
  intro B s I Qr Er hp q e
  refine wpAny_Subscript_Slice (T := "list") list_getitem_lookup (WX.use (h B s I) (Trans.refl ..) hp e fun v₁ d₁ μ₁ B₁ s₁ T₁ _ I₁ V₁ h₁ => ?_) ht
  obtain ⟨ds, rfl, hl, h₁⟩ := h₁
  obtain ⟨a, vs, n, rfl, ha, hvs⟩ := V.list_inv V₁
  refine wpAny_Slice (WX.use (h₁.go I₁) T₁ hp e fun v₂ lo μ₂ B₂ s₂ T₂ U₂ I₂ V₂ h₂ => ?_)
  obtain ⟨pl, rfl, rfl⟩ := V₂
  refine WX.use (h₂.go I₂) T₂ hp e fun v₃ hi μ₃ B₃ s₃ T₃ U₃ I₃ V₃ h₃ => ?_
  obtain ⟨pu, rfl, rfl⟩ := V₃
  rw [evalPart_none]
  have ha3 := I₃.keep _ _ ((U₂.trans U₃).le _ _ ha)
  have hL : s₃.heap.IsList a vs := ⟨_, ha3, rfl, n, rfl⟩
  have part : ∀ p : Option (Int × Tok), IsPart (partValue p) (p.map (·.1)) := fun p => by
    cases p with
    | none => exact .none
    | some p => obtain ⟨i, t⟩ := p; exact .int i t
  have k1 : ∀ (o : Obj) b x, s₃.heap.get? b = some x → (s₃.heap.push o).get? b = some x := fun o b x e => Heap.get?_push_of_some _ e
  have hlen := hvs.length
  rw [Array.length_toList] at hlen
  refine wpAny_pure ⟨(hL.push _).typeIs, wpAny_getItem_list_slice (hL.push _) (Heap.IsSliceOf.new ..) (part pl) (part pu) .none (by simp) ?_ (by rw [sizeLine_eq]; lia)⟩
  have hsl := slicePick_eq vs (pl.map (·.1)) (pu.map (·.1))
  have hv3 : Vs B₃ (slicePick vs (pl.map (·.1)) (pu.map (·.1)) none).toList (slc ds (pl.map (·.1)) (pu.map (·.1))) := by
    rw [hsl]
    unfold slc
    rw [hvs.length]
    exact ((hvs.mono (U₂.trans U₃).le).drop _).take _
  generalize hsl2 : slicePick vs (pl.map (·.1)) (pu.map (·.1)) none = its at hv3 ⊢
  generalize hH : (s₃.heap.push { cls := Value.type "slice", data := Data.fields #[partValue pl, partValue pu, Value.none] }) = H
  have kH : ∀ b o, s₃.heap.get? b = some o → H.get? b = some o := fun b o e => by rw [← hH]; exact Heap.get?_push_of_some _ e
  have hn0 : H.get? H.objs.size = none := Heap.get?_none_of_le (Nat.le_refl _)
  have hn : s₃.heap.get? H.objs.size = none := by
    cases q : s₃.heap.get? H.objs.size with
    | none => rfl
    | some o => rw [kH _ _ q] at hn0; cases hn0
  have k4 : ∀ b o, s₃.heap.get? b = some o → (H.push { cls := Value.type "list", data := Data.seq its }).get? b = some o := fun b o e => Heap.get?_push_of_some _ (kH b o e)
  have ho : (H.push { cls := Value.type "list", data := Data.seq its }).get? H.objs.size = some (listOf its 0) := Heap.get?_push_size _ rfl
  exact q (.ref H.objs.size) (.t (.list (slc ds (pl.map (·.1)) (pu.map (·.1))))) m μ₃ _ _ (T₃.trans (Trans.new (tk := s₃.toks) k4 (I₃.noB hn) hn)) (I₃.new (tk := s₃.toks) k4 hn ho) (V.list BM.put_self (hv3.mono (BM.put_le (I₃.noB hn)))) ⟨rfl, h₃⟩
end
end P279
end
section
open PySem PySem.W PyProof.Rows PySem.Spec PySem.Calls
namespace P279
section
variable {prog : Program} {w : World} {A : Around} {E : Value → Shared → Prop} {s : Shared}
theorem adj_to (b n : Nat) (hb : b ≤ n) : Builtin.Slice.sliceAdjust none (some (b : Int)) 1 (n : Int) = (0, (b : Int)) := by
  unfold Builtin.Slice.sliceAdjust
  simp only [show ¬ ((1 : Int) < 0) by decide, if_false, show ¬ ((b : Int) < 0) by lia]
  congr 1
  lia
theorem plc_to (b : Nat) : Builtin.Slice.slicePlaces 0 (b : Int) 1 = b := by
  unfold Builtin.Slice.slicePlaces
  simp only [show (1 : Int) > 0 by decide, if_true, Int.ediv_one]
  split <;> lia
theorem applied_to {sl : Addr} {b n : Nat} {u : Tok} {Q : Int × Int × Nat → Shared → Prop} (hs : s.heap.IsSliceOf sl .none (.int b u) .none) (hb : b ≤ n) (h : Q (0, 1, b) s) :
    wpAny (model prog w) A (Builtin.Slice.sliceApplied (.ref sl) (pure (n : Int))) Q E s := by
  obtain ⟨os, hos, hcs, hds⟩ := id hs
  unfold Builtin.Slice.sliceApplied Builtin.Slice.sliceFields
  refine wpAny_bind (wpAny_bind (wpAny_field hos hds (x := .none) rfl (wpAny_bind (wpAny_field hos hds (x := .int b u) rfl (wpAny_bind (wpAny_field hos hds (x := .none) rfl (wpAny_pure ?_)))))))
  refine wpAny_bind (slicePart_none ?_)
  show wpAny _ _ (if ((1 : Int) == 0) = true then _ else _) _ _ s
  rw [if_neg (by decide)]
  refine wpAny_bind (slicePart_none (wpAny_bind (slicePart_int (wpAny_bind (wpAny_pure ?_)))))
  show wpAny _ _ (match Builtin.Slice.sliceAdjust none (some (b : Int)) 1 (n : Int) with | (lo, hi) => pure (lo, (1 : Int), Builtin.Slice.slicePlaces lo hi 1)) _ _ s
  rw [adj_to b n hb]
  show wpAny _ _ (pure ((0 : Int), (1 : Int), Builtin.Slice.slicePlaces 0 (b : Int) 1)) _ _ s
  rw [plc_to b]
  exact wpAny_pure h
theorem pick_to (xs : Array Value) (b : Nat) : ((List.range b).filterMap fun (k : Nat) => xs[((0 : Int) + (k : Int) * 1).toNat]?).toArray = (xs.toList.take b).toArray := by
  have e : (fun (k : Nat) => xs[((0 : Int) + (k : Int) * 1).toNat]?) = fun k => xs[0 + k]? := by
    funext k
    have : ((0 : Int) + (k : Int) * 1).toNat = 0 + k := by lia
    rw [this]
  rw [e]
  have := pick_run xs 0 b
  rw [List.filterMap_map] at this
  rw [show ((fun x => xs[x]?) ∘ fun x => 0 + x) = fun k => xs[0 + k]? from rfl] at this
  rw [this]; simp
theorem getItem_tup_to {t sl : Addr} {items : Array Value} {b : Nat} {u : Tok} {Q : Value → Shared → Prop} (ht : IsTup s.heap t items) (hs : s.heap.IsSliceOf sl .none (.int b u) .none) (hb : b < items.size) (hsz : items.size ≤ 1000000)
    (h : Q (.ref s.heap.objs.size) { s with heap := s.heap.push { cls := .type "tuple", data := .seq (items.toList.take b).toArray } }) : wpAny (model prog w) A (getItem (.ref t) (.ref sl)) Q E s := by
  have hdrop : sizeOk (.seq (items.toList.take b).toArray) := by
    show (items.toList.take b).toArray.size ≤ sizeLine
    rw [List.size_toArray, List.length_take, Array.length_toList, sizeLine_eq]
    lia
  obtain ⟨os, hos, hcs, hds⟩ := id hs
  have hTs : s.TypeIs (.ref sl) "slice" := ⟨os, hos, hcs⟩
  unfold getItem
  try with_reducible refine wpAny_holding ?_
  first | refine wpAny_bind (wpAny_pure ?_) | skip
  refine wpAny_bind (wpAny_sequenceKey ht.typeIs (by decide) ?_)
  refine wpAny_bind (wpAny_callSpecial?_slot (name := Str.ofString "__getitem__") ht.typeIs slot_tuple_getitem
    (wpAny_call_entry slot_tuple_getitem ht.typeIs entry_tuple_getitem ?_ (args_tuple_getitem _ _)))
  show wpAny _ _ (Builtin.Tuple.tupleItemsOf (.ref t) >>= _) _ _ s
  refine wpAny_bind (tupleItemsOf_ ht ?_)
  refine wpAny_bind (wpAny_typeOf hTs ?_)
  rw [if_pos (by decide)]
  refine wpAny_bind (applied_to hs (Nat.le_of_lt hb) ?_)
  have hno : ¬ (((0 : Int) == 0 && (1 : Int) == 1 && b == items.size) = true) := by
    have : (b == items.size) = false := by rw [beq_eq_false_iff_ne]; lia
    rw [this]; simp
  show wpAny _ _ (if ((0 : Int) == 0 && (1 : Int) == 1 && b == items.size) = true then _ else _) _ _ s
  rw [if_neg hno, pick_to items b]
  first
    | exact wpAny_bind (m := Builtin.Tuple.tupleExact _) (wpAny_newObj_type (wpAny_pure ⟨_, rfl, wpAny_pure h⟩) hdrop)
    | exact wpAny_bind (m := Builtin.Tuple.tupleExact _) (wpAny_newObj_type (wpAny_bind (wpAny_pure (wpAny_pure ⟨_, rfl, wpAny_pure h⟩))) hdrop)
    | exact wpAny_bind (wpAny_bind (m := Builtin.Tuple.tupleExact _) (wpAny_newObj_type (wpAny_pure (wpAny_pure ⟨_, rfl, wpAny_pure h⟩)) hdrop))
    | exact wpAny_bind (wpAny_bind (m := Builtin.Tuple.tupleExact _) (wpAny_newObj_type (wpAny_pure ⟨_, rfl, wpAny_pure h⟩) hdrop))
end
theorem subscript_cut {M : Model} {A : Around} {E : Value → Shared → Prop} {s : Shared} {env : Env} {prog : Program} {w : World} (hM : M = model prog w) {value : Expr} {lower upper : Option Expr} {p pos : Pos} {T id : String} {Q : Value → Shared → Prop}
    (hl : typeLookup (.type T) "__getitem__" = pure (some (.builtin id)))
    (h : wpAny M A (eval value env) (fun o s₁ => wpAny M A (eval (.Slice lower upper none p) env) (fun i s₂ => s₂.TypeIs o T ∧ wpAny M A (getItem o i) Q E s₂) E s₁) E s) :
    wpAny M A (eval (.Subscript value (.Slice lower upper none p) pos) env) Q E s := by
  subst hM
  rw [eval_Subscript]
  refine wpAny_bind (wpAny_mono h (fun o s₁ h₁ => wpAny_bind (wpAny_holding (wpAny_mono h₁ (fun i s₂ h₂ => wpAny_bind (wpAny_standAt ?_)) fun _ _ x => x)))
    fun _ _ x => x)
  have fin : wpAny (model prog w) A (operate [i, o] (getItem o i)) (fun r s₃ => wpAny (model prog w) A (letTemporaryGo value o r >>= fun _ => pure r) Q E s₃) E s₂ :=
    wpAny_operating (wpAny_mono h₂.2 (fun r s₃ h₃ => wpAny_bind (wpAny_letTemporaryGo (wpAny_pure h₃))) fun _ _ x => x)
  first
    | (refine wpAny_bind ?_
       rw [getitemInPython_of_ne h₂.1.not_modules]
       refine wpAny_bind (wpAny_specialOf h₂.1 hl ?_)
       first
         | exact wpAny_pure (wpAny_bind fin)
         | exact wpAny_bind (wpAny_pure (wpAny_bind fin))
         | exact wpAny_bind fin)
    | (refine wpAny_bind (wpAny_specialOf h₂.1 hl ?_)
       first
         | exact wpAny_bind (wpAny_pure (wpAny_bind fin))
         | exact wpAny_bind fin)
section
variable {G : Cfg} {c : Act} {m : Loc} {μ : Mut} {E : Cl → Mut → Prop} {Q : D → Mut → Prop}
theorem WE_SliceTup {value upper : Expr} {p pos : Pos}
    (h : WE G c value m μ (fun d μ₁ => ∃ ds, d = .t (.tuple ds) ∧ ds.length ≤ 1000000 ∧ WE G c upper m μ₁ (fun d₂ μ₂ => ∃ b : Nat, d₂ = .t (.int b) ∧ b < ds.length ∧ Q (.t (.tuple (ds.take b))) μ₂) E) E) : WE G c (.Subscript value (.Slice none (some upper) none p) pos) m μ Q E := by
  intro B s I Qr Er hp q e
  refine subscript_cut (T := "tuple") rfl slot_tuple_getitem.lookup (WX.use (h B s I) (Trans.refl ..) hp e fun v₁ d₁ μ₁ B₁ s₁ T₁ _ I₁ V₁ h₁ => ?_)
  obtain ⟨ds, rfl, hl, h₁⟩ := h₁
  obtain ⟨a, vs, n, rfl, ha, hvs⟩ := V.tuple_inv V₁
  refine wpAny_Slice ?_
  rw [evalPart_none]
  refine wpAny_pure ?_
  refine WX.use (h₁ B₁ s₁ I₁) T₁ hp e fun v₃ d₃ μ₃ B₃ s₃ T₃ U₃ I₃ V₃ h₃ => ?_
  obtain ⟨b, rfl, hb, h₃⟩ := h₃
  cases V₃
  rename_i u
  have ha3 := I₃.keep _ _ (U₃.le _ _ ha)
  have hL : IsTup s₃.heap a vs := ⟨_, ha3, rfl, n, rfl⟩
  have hlen := hvs.length
  rw [Array.length_toList] at hlen
  have hL2 : IsTup (s₃.heap.push { cls := Value.type "slice", data := Data.fields #[.none, .int (b : Int) u, Value.none] }) a vs := hL.keeps fun _ _ e => Heap.get?_push_of_some _ e
  refine wpAny_pure ⟨hL2.typeIs, getItem_tup_to hL2 (Heap.IsSliceOf.new ..) (by lia) (by lia) ?_⟩
  have hv3 : Vs B₃ (vs.toList.take b).toArray.toList (ds.take b) := by
    show Vs B₃ (vs.toList.take b) (ds.take b)
    exact (hvs.mono U₃.le).take _
  generalize hsl2 : (vs.toList.take b).toArray = its at hv3 ⊢
  generalize hH : (s₃.heap.push { cls := Value.type "slice", data := Data.fields #[.none, .int (b : Int) u, Value.none] }) = H
  have kH : ∀ b o, s₃.heap.get? b = some o → H.get? b = some o := fun b o e => by rw [← hH]; exact Heap.get?_push_of_some _ e
  have hn0 : H.get? H.objs.size = none := Heap.get?_none_of_le (Nat.le_refl _)
  have hn : s₃.heap.get? H.objs.size = none := by
    cases q : s₃.heap.get? H.objs.size with
    | none => rfl
    | some o => rw [kH _ _ q] at hn0; cases hn0
  have k4 : ∀ b o, s₃.heap.get? b = some o → (H.push { cls := Value.type "tuple", data := Data.seq its }).get? b = some o := fun b o e => Heap.get?_push_of_some _ (kH b o e)
  have ho : (H.push { cls := Value.type "tuple", data := Data.seq its }).get? H.objs.size = some (tupOf its 0) := Heap.get?_push_size _ rfl
  exact q (.ref H.objs.size) (.t (.tuple (ds.take b))) m μ₃ _ _ (T₃.trans (Trans.new (tk := s₃.toks) k4 (I₃.noB hn) hn)) (I₃.new (tk := s₃.toks) k4 hn ho) (V.tuple BM.put_self (hv3.mono (BM.put_le (I₃.noB hn)))) ⟨rfl, h₃⟩
end
end P279
end
section
open PySem PySem.W PyProof.Rows PySem.Spec PySem.Calls
set_option maxHeartbeats 1000000
namespace P279
theorem comp_openU {M : Model} {A : Around} {E : Value → Shared → Prop} {s : Shared} {env : Env} {e : Expr} {scope : Scope} {pos : Pos} {newAcc first : Sem Value} {g : Comprehension} {gs : List Comprehension} {cl : List (Str × Addr)} {u : Value → Sem Unit} {Q : Value → Shared → Prop}
    (hcl : clausesOf e = g :: gs) (hs : ∀ x, foldedSetIterable g.iter env x = pure x) (hclos : closureFor scope env = pure cl)
    (hkind : scope.kind = .function) (hnames : ∀ x ∈ scope.names, x.2 = .local → scope.names.lookup x.1 = some .local)
    (h : wpAny M A first (fun x s₁ => wpAny M A (pyIter x) (fun it s₂ => wpAny M A newAcc (fun acc s₃ =>
      wpAny M A (newFunctionEnv scope env.globals cl [] env.qual none .none (some env)) (fun cenv s₄ =>
        codeAny M A (.compStart e 0 it acc { cenv with scope := relabel scope env }) (fun r s' => match r with
          | .ok _ => wpAny M A (u acc) (fun _ s'' => ∃ m, s''.heap.Ns cenv.locals m ∧ ∀ h', Heap.SameBut cenv.locals s''.heap h' → Q .none { s'' with heap := h' }) E s'
          | .error x => ∃ m, s'.heap.Ns cenv.locals m ∧ ∀ h', Heap.SameBut cenv.locals s'.heap h' → wpAny M A (PySem.passOn "comprehension.variables-let-go" x { cenv with scope := relabel scope env }) Q E { s' with heap := h' }) s₄) E s₃) E s₂) E s₁) E s) :
    wpAny M A (comprehension e scope env pos newAcc false first (some u)) Q E s := by
  unfold comprehension
  rw [hclos, hcl]
  refine wpAny_bind (wpAny_mono h (fun x s₁ h₁ => wpAny_bind (wpAny_standAt (wpAny_bind (wpAny_of_eq (hs x) (wpAny_bind (wpAny_holding (wpAny_mono h₁ (fun it s₂ h₂ =>
    wpAny_standIf (wpAny_bind (wpAny_mono h₂ (fun acc s₃ h₃ => wpAny_bind (wpAny_pure (wpAny_bind (wpAny_mono h₃ (fun cenv s₄ h₄ => ?_) fun _ _ h' => h')))) fun _ _ h' => h')))
      fun _ _ h' => h'))))))) fun _ _ h' => h')
  dsimp only
  have hv : ∀ x ∈ (scope.names.filter fun x => (x.2 == .local || x.2 == .cell) && x.1 != (".0" : Str)).reverse, x.2 = .local →
      Env.kindOf { cenv with scope := relabel scope env } x.1 = some .local := fun x hx hl => lookup_relabel_local (hnames x (List.mem_filter.mp (List.mem_reverse.mp hx)).1 hl)
  refine wpAny_holding (wpAny_bind (wpAny_attempt (wpAny_holding (wpAny_run (codeAny_mono h₄ fun r s' hr => ?_)))))
  have hv' : ∀ x ∈ (scope.names.filter fun x => (x.2 == .local || x.2 == .cell) && x.1 != (".0" : Str)).reverse.drop 1 ++ (scope.names.filter fun x => (x.2 == .local || x.2 == .cell) && x.1 != (".0" : Str)).reverse.take 1,
      x.2 = .local → Env.kindOf { cenv with scope := relabel scope env } x.1 = some .local := fun x hx hl => by
    rcases List.mem_append.mp hx with h1 | h1
    · exact hv x (List.mem_of_mem_drop h1) hl
    · exact hv x (List.mem_of_mem_take h1) hl
  cases r with
  | ok f =>
    refine wpAny_bind (wpAny_rule (wpAny_bind (wpAny_holding (wpAny_mono hr (fun _ s'' hr' => ?_) fun _ _ h' => h'))))
    obtain ⟨m, hn, hr'⟩ := hr'
    exact wpAny_bind (wpAny_comp_letGo (cenv := { cenv with scope := relabel scope env }) hkind _ s'' m hv' hn fun h' m' _ hs' => wpAny_pure (hr' h' hs'))
  | error x =>
    obtain ⟨m, hn, hr⟩ := hr
    exact wpAny_bind (wpAny_holding (wpAny_comp_letGo (cenv := { cenv with scope := relabel scope env }) hkind _ s' m hv hn fun h' m' _ hs' => hr h' hs'))
section
variable {G : Cfg} {c : Act} {m : Loc} {μ : Mut} {E : Cl → Loc → Mut → Prop} {Q : Fl → Loc → Mut → Prop}
theorem WS_AssignComp {elt iter : Expr} {x y : Str} {px py spos : Pos} {ifs : List Expr} {scope : Scope} {pos : Pos} (cl : List (Str × Addr)) (m₀ : Loc)
    (hclos : closureFor scope c.env = pure cl) (hcl : cl = [] ∨ cl = c.env.cells)
    (hm₀ : ∀ y d, m₀.get y = some d → m.get y = some d ∧ c.env.kindOf y = some .cell ∧ (relabel scope c.env).names.lookup y = some .cell ∧ cl = c.env.cells)
    (hy : c.env.kindOf y = some .local)
    (h : WE G c iter m μ (fun d μ₁ => ∃ items, itItems d = some items ∧ itOk d ∧ items.length ≤ 10000 ∧ CompSpec G c scope cl m₀ x ifs elt items μ₁ (fun d μ' => Q .next ((y, d) :: m) μ') (fun k μ => E k m μ)) (fun k μ => E k m μ))
    (hx : scope.names.lookup x = some .local := by rfl) (hcell : ∀ y ∈ scope.names, y.2 ≠ .cell := by decide) (hkind : scope.kind = .function := by rfl)
    (hnames : ∀ y ∈ scope.names, y.2 = .local → scope.names.lookup y.1 = some .local := by decide)
    (hs : ∀ x, foldedSetIterable iter c.env x = pure x := by intro _; rfl)
    (hsw : swapsWith (.ListComp elt [⟨.Name x px, iter, ifs, 0⟩] scope pos) (some (.Name y py)) spos.line c.env = pure true := by rfl) : WS G c (.Assign [.Name y py] (.ListComp elt [⟨.Name x px, iter, ifs, 0⟩] scope pos) spos) m μ Q E := by
  intro B s I Qr Er hp q e
  rw [exec_Assign_Name_used _ _ _ _ hsw]
  refine wpAny_bind (wpAny_standAt (wpAny_bind ?_))
  show wpAny _ c.A (do let _ ← comprehension (.ListComp elt [⟨.Name x px, iter, ifs, 0⟩] scope pos) scope c.env _ (newList []) false (eval iter c.env) (some (assign (.Name y py) c.env))) _ _ s
  refine wpAny_bind (wpAny_mono (comp_openU (u := assign (.Name y py) c.env) (Q := fun _ s' => Qr .next s') rfl hs hclos hkind hnames ?_) (fun _ s' hq => wpAny_pure (wpAny_pure hq)) fun _ _ e => e)
  refine WX.useS (h B s I) (Trans.refl ..) hp e fun v d μ₁ B₁ s₁ T₁ _ I₁ V₁ h₁ => ?_
  obtain ⟨items, hi, ok, hlen, J, j0, jlen, turn, fin⟩ := h₁
  refine comp_core (OK := fun acc env s' => wpAny G.M c.A (assign (.Name y py) c.env acc) (fun _ s'' => ∃ m, s''.heap.Ns env.locals m ∧ ∀ h', Heap.SameBut env.locals s''.heap h' → Qr .next { s'' with heap := h' }) Er s') hcl hm₀ hx hcell hkind I T₁ I₁ V₁ hi ok hlen j0 jlen turn (fun k ea μ' B' s₁ s' a1 a2 a3 a4 a5 a6 h => e k ea m μ' B' s₁ s' a1 a2 a3 a4 a5 a6 h) fun C Dl out m' B' s' hJ hDl hCp hC I' J₁ J₂ => ?_
  obtain ⟨mC, hnC, _⟩ := I'.loc
  refine wpAny_assign_Name ?_
  refine WStoreA (c := c) (Qm := fun m' μ' => Q .next m' μ') (.inl hy) J₁ (d := .loc Dl) rfl (fin out hJ Dl hDl) fun _ _ m₆ μ₆ B₆ s₆ T₆ I₆ _ h₆ => ?_
  obtain ⟨oC, es, ep, hCo, hCr⟩ := hnC
  have hCp' : C ∈ (compAct c scope cl C).priv := List.mem_append_left _ (List.mem_singleton.mpr rfl)
  have hC6 := (T₆.keep C oC hCo (I'.privM C hCp') (fun z => hCp (List.mem_append_left _ z))).1 (fun z => hCp (List.mem_append_right _ (List.mem_append_left _ z)))
  refine ⟨mC, ⟨oC, es, ep, hC6, hCr⟩, fun h₄ hs₄ => ?_⟩
  have k4 : ∀ b o, b ≠ C → s₆.heap.get? b = some o → h₄.get? b = some o := fun b o hb e => (hs₄.2 b hb).trans e
  have hCo2 : s'.heap.get? C = some oC := hCo
  obtain ⟨z1, z2⟩ := T₆.off (a := C) (by rw [hCo2]; exact nofun) (I'.privB C hCp') (I'.privM C hCp')
  exact q .next .next m₆ μ₆ B₆ _ ((J₂.trans T₆).touch (tk := s₆.toks) hC k4) (I₆.touch (tk := s₆.toks) z1 z2 hCp k4) trivial h₆
end
end P279
end
section
open PySem PySem.W PyProof.Rows PySem.Spec PySem.Calls PySem.Builtin PySem.Builtin.Str
namespace P279
noncomputable abbrev KK (P : Params) : Frag := P279h.hd0.heap_1 P
noncomputable def GG (w : World) (h₀ : Heap) (mg mb : Str → Option Value) : Cfg :=
  { prog := PySem.Challenge.pw_no0279_01, w := w, K := KK w.params, h₀ := h₀, mg := mg, mb := mb, C := 431, X := fun k => match k with | .lex => 51 | .syn => 63 | .chk => 75 }
end P279
end
section
open PySem PySem.W PyProof.Rows PySem.Spec PySem.Calls PySem.Builtin PySem.Builtin.Str
namespace P279
set_option genSizeOf false
set_option genInjectivity false
inductive Op where
  | call (f : Addr) (ds : List D)
  | blt (id : String) (ds : List D)
  | typ (id : String) (ds : List D)
  | bin (o : Operator) (a b : D)
  | cmp (o : CmpOp) (a b : D)
  | inp (o : Operator) (a b : D)
  | item (a b : D)
  | cut (x : List Nat) (lo hi : Option Int)
  | put (a b : D) (q : PyData)
  | ex (e : Expr)
inductive T where
  | fail
  | done (P : Prop)
  | ite (b : Bool) (x y : T)
  | ask (P : Prop) (k : T)
  | raise (cl : Cl) (m : Loc) (μ : Mut)
  | op (o : Op) (m : Loc) (μ : Mut) (k : D → Mut → T)
  | st (s : Stmt) (m : Loc) (μ : Mut) (k : Fl → Loc → Mut → T)
structure Fr where
  G : Cfg
  c : Act
  E : Cl → Loc → Mut → Prop
noncomputable def Op.Tri (Γ : Fr) (m : Loc) (μ : Mut) (Q : D → Mut → Prop) (E : Cl → Mut → Prop) : Op → Prop
  | .call f ds => SL Γ.G Γ.c (fun vs => PySem.call (.ref f) vs) ds m μ Q E
  | .blt i ds => SL Γ.G Γ.c (fun vs => PySem.call (.builtin i) vs) ds m μ Q E
  | .typ i ds => SL Γ.G Γ.c (fun vs => PySem.call (.type i) vs) ds m μ Q E
  | .bin o a b => S2 Γ.G Γ.c (binaryOp o) a b m μ Q E
  | .cmp o a b => S2 Γ.G Γ.c (compareOp o) a b m μ Q E
  | .inp o a b => S2 Γ.G Γ.c (inplaceOp o) a b m μ Q E
  | .item a b => SI Γ.G Γ.c a b m μ Q E
  | .cut x lo hi => Q (.t (.str (S (slc x lo hi)))) μ
  | .put d₁ d₂ q => ∃ a ds j, d₁ = .loc a ∧ μ.lookup a = some ds ∧ ds.length ≤ 1000000 ∧ (d₂ = .t (.int (j : Nat)) ∧ j < ds.length ∨ d₂ = .t (.int (-1)) ∧ j + 1 = ds.length) ∧ Q (.t .none) (μ.upd a (ds.set j q))
  | .ex e => WE Γ.G Γ.c e m μ Q E
noncomputable def Good (Γ : Fr) : T → Prop
  | .fail => False
  | .done P => P
  | .ite b x y => (b = true → Good Γ x) ∧ (b = false → Good Γ y)
  | .ask P k => P ∧ Good Γ k
  | .raise cl m μ => Γ.E cl m μ
  | .op o m μ k => o.Tri Γ m μ (fun d μ => Good Γ (k d μ)) (fun cl μ => Γ.E cl m μ)
  | .st s m μ k => WS Γ.G Γ.c s m μ (fun fl m μ => Good Γ (k fl m μ)) Γ.E
inductive Job where
  | e (x : Expr) (m : Loc) (μ : Mut) (k : D → Mut → T)
  | b (x : Expr) (m : Loc) (μ : Mut) (kt kf : Mut → T)
  | es (xs : List Expr) (m : Loc) (μ : Mut) (k : List D → Mut → T)
  | al (o : BoolOp) (xs : List Expr) (m : Loc) (μ : Mut) (kt kf : Mut → T)
  | bo (o : BoolOp) (xs : List Expr) (m : Loc) (μ : Mut) (k : D → Mut → T)
  | ss (sts : List Stmt) (m : Loc) (μ : Mut) (k : Fl → Loc → Mut → T)
noncomputable def Fr.Qb (Γ : Fr) (kt kf : Mut → T) (b : Bool) (μ : Mut) : Prop := match b with
  | true => Good Γ (kt μ)
  | false => Good Γ (kf μ)
noncomputable def Means (Γ : Fr) : Job → Prop
  | .e x m μ k => WE Γ.G Γ.c x m μ (fun d μ => Good Γ (k d μ)) (fun cl μ => Γ.E cl m μ)
  | .b x m μ kt kf => WB Γ.G Γ.c x m μ (Γ.Qb kt kf) (fun cl μ => Γ.E cl m μ)
  | .es xs m μ k => ∀ pos, WEs Γ.G Γ.c pos xs m μ (fun d μ => Good Γ (k d μ)) (fun cl μ => Γ.E cl m μ)
  | .al o xs m μ kt kf => WAll Γ.G Γ.c o xs m μ (Γ.Qb kt kf) (fun cl μ => Γ.E cl m μ)
  | .bo o xs m μ k => ∀ pos, WBo Γ.G Γ.c pos o xs m μ (fun d μ => Good Γ (k d μ)) (fun cl μ => Γ.E cl m μ)
  | .ss sts m μ k => WSs Γ.G Γ.c sts m μ (fun fl m μ => Good Γ (k fl m μ)) Γ.E
inductive Ent where
  | loc
  | cell
  | fre
  | val (d : PyData)
  | own (f : Addr)
  | blt (i : String)
  | typ (i : String)
  | exc (cl : Cl)
  | oth
noncomputable def optM {α : Type} (o : Option α) (f : α → T) (z : T) : T := match o with
  | some a => f a
  | none => z
noncomputable def boolM (b : Bool) (x y : T) : T := match b with
  | true => x
  | false => y
noncomputable def boolO {α : Type} (b : Bool) (x : Option α) : Option α := match b with
  | true => x
  | false => none
noncomputable def orO {α : Type} (x y : Option α) : Option α := match x with
  | some a => some a
  | none => y
noncomputable def dI : D → Option Int
  | .t (.int a) => some a
  | _ => none
noncomputable def dS : D → Option Str
  | .t (.str a) => some a
  | _ => none
noncomputable def dB : D → Option Bool
  | .t (.bool a) => some a
  | _ => none
noncomputable def dL : D → Option (List PyData)
  | .t (.list a) => some a
  | _ => none
noncomputable def dT : D → Option (List PyData)
  | .t (.tuple a) => some a
  | _ => none
noncomputable def dP : D → Option PyData
  | .t p => some p
  | _ => none
noncomputable def dX : D → Option (Addr × Addr × Addr)
  | .inst x r t => some (x, r, t)
  | _ => none
noncomputable def iN : Int → Option Nat
  | .ofNat n => some n
  | .negSucc _ => none
noncomputable def one {α : Type} : List α → Option α
  | [a] => some a
  | _ => none
noncomputable def two {α : Type} : List α → Option (α × α)
  | [a, b] => some (a, b)
  | _ => none
noncomputable def eN : Expr → Option Str
  | .Name x _ => some x
  | _ => none
noncomputable def eA : Expr → Option (Expr × Str × Pos)
  | .Attribute o nm ap => some (o, nm, ap)
  | _ => none
noncomputable def eS : Expr → Option (Option Expr × Option Expr × Option Expr)
  | .Slice lo hi st _ => some (lo, hi, st)
  | _ => none
noncomputable def eC : Expr → Option Const
  | .Constant c _ _ => some c
  | _ => none
noncomputable def eT : Expr → Option (List Expr)
  | .Tuple ts _ _ => some ts
  | _ => none
noncomputable def eB : Expr → Option (Expr × Expr)
  | .Subscript a b _ => some (a, b)
  | _ => none
noncomputable def eF : Expr → Option (Expr × List Expr × List Keyword)
  | .Call f es ks _ => some (f, es, ks)
  | _ => none
noncomputable def isSub : Expr → Bool
  | .Subscript _ _ _ => true
  | _ => false
noncomputable def isCl : Expr → Bool
  | .Call _ _ _ _ => true
  | _ => false
noncomputable def isStar : Expr → Bool
  | .Starred _ _ => true
  | _ => false
noncomputable def cI : Const → Option Int
  | .int a => some a
  | _ => none
noncomputable def isLE : CmpOp → Bool
  | .LtE => true
  | _ => false
noncomputable def Ent.isL : Ent → Bool
  | .loc => true
  | .cell => true
  | .fre => true
  | _ => false
noncomputable def Ent.isA : Ent → Bool
  | .loc => true
  | .cell => true
  | _ => false
noncomputable def Ent.isLo : Ent → Bool
  | .loc => true
  | _ => false
noncomputable def Ent.ex : Ent → Option Cl
  | .exc cl => some cl
  | _ => none
noncomputable def Ent.vl : Ent → Option PyData
  | .val d => some d
  | _ => none
section
variable (sc : List (Str × Ent)) (rec : Job → T)
noncomputable def vname (x : Str) (m : Loc) (k : D → T) : T := optM (sc.lookup x) (fun e => boolM e.isL (optM (m.get x) k .fail) (optM e.vl (fun d => k (.t d)) .fail)) .fail
noncomputable def vconst (c : Const) (k : D → T) : T := match c with
  | .int i => k (.t (.int i))
  | .str x => k (.t (.str x))
  | .none => k (.t .none)
  | .bool b => k (.t (.bool b))
  | _ => .fail
noncomputable def binI (o : Operator) (a b : Int) : Option Int := match o with
  | .Add => some (a + b)
  | .Sub => some (a - b)
  | _ => none
noncomputable def bin2 (o : Operator) (a b : D) : Option Int := (dI b).bind fun y => (dI a).bind fun x => binI o x y
noncomputable def vbin (o : Operator) (a b : D) (m : Loc) (μ : Mut) (k : D → Mut → T) : T := optM (bin2 o a b) (fun z => k (.t (.int z)) μ) (.op (.bin o a b) m μ k)
noncomputable def vinp (o : Operator) (a b : D) (m : Loc) (μ : Mut) (k : D → Mut → T) : T := optM (bin2 o a b) (fun z => k (.t (.int z)) μ) (.op (.inp o a b) m μ k)
noncomputable def icmp (o : CmpOp) (a b : Int) : Option Bool := match o with
  | .Eq => some (a == b)
  | .NotEq => some (a != b)
  | .Lt => some (decide (a < b))
  | .LtE => some (decide (a ≤ b))
  | .Gt => some (decide (a > b))
  | .GtE => some (decide (a ≥ b))
  | _ => none
noncomputable def scmp (o : CmpOp) (a b : Str) : Option Bool := match o with
  | .Eq => some (a == b)
  | .NotEq => some (a != b)
  | .In => (one a.cps.toList).map fun n => decide (n ∈ b.cps.toList)
  | .NotIn => (one a.cps.toList).map fun n => !decide (n ∈ b.cps.toList)
  | _ => none
noncomputable def ncmp (o : CmpOp) (a : D) : Option Bool := match o with
  | .Is => some (isNone a)
  | .IsNot => some (!isNone a)
  | _ => none
noncomputable def cmpV (o : CmpOp) (a b : D) : Option Bool := orO ((dI b).bind fun y => (dI a).bind fun x => icmp o x y) (orO ((dS b).bind fun y => (dS a).bind fun x => scmp o x y) (boolO (isNone b) (ncmp o a)))
noncomputable def vcmp (o : CmpOp) (a b : D) (m : Loc) (μ : Mut) (k : D → Mut → T) : T := optM (cmpV o a b) (fun v => k (.t (.bool v)) μ) (.op (.cmp o a b) m μ k)
noncomputable def asB (d : D) (k : Bool → T) : T := optM (dB d) k .fail
noncomputable def vun (o : UnaryOp) (d : D) (k : D → T) : T := match o with
  | .USub => optM (dI d) (fun a => k (.t (.int (-a)))) .fail
  | .Not => optM (dB d) (fun a => k (.t (.bool (!a)))) .fail
  | _ => .fail
noncomputable def vcompare (l : Expr) (os : List CmpOp) (rs : List Expr) (m : Loc) (μ : Mut) (k : D → Mut → T) (z : T) : T := optM (one os) (fun o => optM (one rs) (fun r => boolM (behindInMarks o r) z (rec (.e l m μ fun a μ₁ => rec (.e r m μ₁ fun b μ₂ => vcmp o a b m μ₂ k)))) z) z
noncomputable def noStar : List Expr → Bool
  | [] => true
  | x :: r => !isStar x && noStar r
noncomputable def vlen (d : D) (m : Loc) (μ : Mut) (k : D → Mut → T) : T := optM (dS d) (fun x => .ask (x.cps.toList.length ≤ 16777216) (k (.t (.int x.cps.toList.length)) μ)) (optM (dL d) (fun ds => .ask (ds.length ≤ 1000000) (k (.t (.int ds.length)) μ)) (.op (.blt "len" [d]) m μ k))
noncomputable def rngV (ds : List D) : Option (Int × Int) := orO ((one ds).bind fun a => (dI a).map fun x => (0, x)) ((two ds).bind fun p => (dI p.1).bind fun x => (dI p.2).map fun y => (x, y))
noncomputable def vcall (t : Ent) (ds : List D) (m : Loc) (μ : Mut) (k : D → Mut → T) : T := match t with
  | .own f => .op (.call f ds) m μ k
  | .blt i => boolM (decide (i = "len")) (optM (one ds) (fun d => vlen d m μ k) (.op (.blt i ds) m μ k)) (.op (.blt i ds) m μ k)
  | .typ i => boolM (decide (i = "range")) (optM (rngV ds) (fun r => k (.rng r.1 r.2) μ) (.op (.typ i ds) m μ k)) (.op (.typ i ds) m μ k)
  | _ => .fail
noncomputable def isFnE : Ent → Bool
  | .own _ => true
  | .blt _ => true
  | .typ _ => true
  | _ => false
noncomputable def methS (nm : Str) : Option String :=
  if nm = "find" then some "str.find" else if nm = "index" then some "str.index" else if nm = "split" then some "str.split" else if nm = "join" then some "str.join" else none
noncomputable def methL (nm : Str) : Option String := if nm = "append" then some "list.append" else if nm = "pop" then some "list.pop" else none
noncomputable def okBase : Expr → Bool
  | .Name _ _ => true
  | .Constant _ _ _ => true
  | .Subscript _ _ _ => true
  | _ => false
noncomputable def vstr (d : D) (k : T) : T := optM (dS d) (fun _ => k) .fail
noncomputable def vmeth (o : Expr) (nm : Str) (es : List Expr) (m : Loc) (μ : Mut) (k : D → Mut → T) (z : T) : T :=
  optM (methS nm) (fun i => rec (.e o m μ fun d μ₁ => vstr d (rec (.es es m μ₁ fun ds μ₂ => .op (.blt i (d :: ds)) m μ₂ k))))
    (optM (methL nm) (fun i => rec (.e o m μ fun d μ₁ => .ask (tyD μ₁ d = some "list") (rec (.es es m μ₁ fun ds μ₂ => .op (.blt i (d :: ds)) m μ₂ k)))) z)
noncomputable def vcallE (f : Expr) (es : List Expr) (ks : List Keyword) (ps : Pos) (m : Loc) (μ : Mut) (k : D → Mut → T) (z : T) : T :=
  boolM ks.isEmpty (optM (eA f) (fun p => boolM (noStar es && (p.2.2.endLine == ps.line) && okBase p.1 && decide (es.length < 30)) (vmeth rec p.1 p.2.1 es m μ k z) z)
    (optM (eN f) (fun g => optM (sc.lookup g) (fun t => boolM (noStar es && isFnE t) (rec (.es es m μ fun ds μ₁ => vcall t ds m μ₁ k)) z) z) z)) z
noncomputable def isLit : Expr → Bool
  | .Constant _ _ _ => true
  | _ => false
noncomputable def itV (lit : Bool) (a b : D) : Option PyData := boolO lit ((dT a).bind fun ds => ((dI b).bind iN).bind fun i => boolO (decide (i < 1000)) ds[i]?)
noncomputable def vitem (lit : Bool) (a b : D) (m : Loc) (μ : Mut) (k : D → Mut → T) : T := optM (itV lit a b) (fun q => k (.t q) μ) (.op (.item a b) m μ k)
noncomputable def vpart (e : Option Expr) (m : Loc) (μ : Mut) (k : Option Int → Mut → T) : T := optM e (fun e => rec (.e e m μ fun d μ₁ => optM (dI d) (fun i => k (some i) μ₁) .fail)) (k none μ)
noncomputable def vslice (y : Str) (lo hi : Option Expr) (m : Loc) (μ : Mut) (k : D → Mut → T) (z : T) : T := optM (sc.lookup y) (fun _ => optM ((m.get y).bind dS) (fun x => .ask (x.cps.toList.length ≤ 16777216) (vpart rec lo m μ fun l μ₁ => vpart rec hi m μ₁ fun h μ₂ => .op (.cut x.cps.toList l h) m μ₂ k)) z) z
noncomputable def vcutT (u : Expr) (d : D) (m : Loc) (μ : Mut) (k : D → Mut → T) : T := optM (dT d) (fun ds => .ask (ds.length ≤ 1000000) (rec (.e u m μ fun d₂ μ₂ => optM ((dI d₂).bind iN) (fun b => .ask (b < ds.length) (k (.t (.tuple (ds.take b))) μ₂)) .fail))) .fail
noncomputable def vattr (v : Expr) (nm : Str) (m : Loc) (μ : Mut) (k : D → Mut → T) (z : T) : T := optM (eN v) (fun y => optM (sc.lookup y) (fun _ => optM ((m.get y).bind dX) (fun p => boolM (decide (nm = "rules")) (k (.loc p.2.1) μ) (boolM (decide (nm = "told")) (.ask (p.2.1 ≠ p.2.2) (k (.loc p.2.2) μ)) z)) z) z) z
noncomputable def vsub (v s : Expr) (m : Loc) (μ : Mut) (k : D → Mut → T) (z : T) : T :=
  optM (eS s) (fun p => optM p.2.2 (fun _ => z) (optM (eN v) (fun y => vslice sc rec y p.1 p.2.1 m μ k z) (boolM (isSub v) (optM p.1 (fun _ => z) (optM p.2.1 (fun u => rec (.e v m μ fun d μ₁ => vcutT rec u d m μ₁ k)) z)) z)))
    (rec (.e v m μ fun a μ₁ => rec (.e s m μ₁ fun b μ₂ => vitem (isLit s) a b m μ₂ k)))
noncomputable def vtup (ds : List D) (k : D → T) : T := optM (trees ds) (fun ps => boolM (Nat.ble ps.length 1000) (k (.t (.tuple ps))) .fail) .fail
noncomputable def vfl (ds : List D) (k : D → T) : T := optM (trees ds) (fun ps => boolM (Nat.ble ps.length 1000) (k (.t (.list ps))) .fail) .fail
noncomputable def stE (x : Expr) (m : Loc) (μ : Mut) (k : D → Mut → T) : T := match x with
  | .Name x _ => vname sc x m fun d => k d μ
  | .Constant c _ _ => vconst c fun d => k d μ
  | .BinOp l o r _ => rec (.e l m μ fun a μ₁ => rec (.e r m μ₁ fun b μ₂ => vbin o a b m μ₂ k))
  | .Compare l os rs ps => vcompare rec l os rs m μ k (.op (.ex (.Compare l os rs ps)) m μ k)
  | .UnaryOp o x _ => rec (.e x m μ fun d μ₁ => vun o d fun d => k d μ₁)
  | .IfExp t b o _ => rec (.b t m μ (fun μ₁ => rec (.e b m μ₁ k)) (fun μ₁ => rec (.e o m μ₁ k)))
  | .Call f es ks ps => vcallE sc rec f es ks ps m μ k (.op (.ex (.Call f es ks ps)) m μ k)
  | .Subscript v s ps => vsub sc rec v s m μ k (.op (.ex (.Subscript v s ps)) m μ k)
  | .Tuple es _ _ => rec (.es es m μ fun ds μ₁ => vtup ds fun d => k d μ₁)
  | .BoolOp o es _ => rec (.bo o es m μ k)
  | .Attribute v nm ps => vattr sc v nm m μ k (.op (.ex (.Attribute v nm ps)) m μ k)
  | x => .op (.ex x) m μ k
noncomputable def getI (e : Expr) : Option Int := (eC e).bind cI
noncomputable def getN (m : Loc) (e : Expr) : Option Int := (eN e).bind fun x => (sc.lookup x).bind fun _ => (m.get x).bind dI
noncomputable def vbetw (l : Expr) (os : List CmpOp) (rs : List Expr) (m : Loc) (μ : Mut) (kt kf : Mut → T) : T :=
  optM (two os) (fun p => boolM (isLE p.1 && isLE p.2) (optM (two rs) (fun q => optM (getI l) (fun a => optM (getN sc m q.1) (fun b => optM (getI q.2) (fun k => .ite (decide (a ≤ b)) (.ite (decide (b ≤ k)) (kt μ) (kf μ)) (kf μ)) .fail) .fail) .fail) .fail) .fail) .fail
noncomputable def stB (x : Expr) (m : Loc) (μ : Mut) (kt kf : Mut → T) : T := match x with
  | .UnaryOp .Not x _ => rec (.b x m μ kf kt)
  | .BoolOp o es _ => rec (.al o es m μ kt kf)
  | .Compare l os rs _ => vcompare rec l os rs m μ (fun d μ₁ => asB d fun b => .ite b (kt μ₁) (kf μ₁)) (vbetw sc l os rs m μ kt kf)
  | .Name x ps => rec (.e (.Name x ps) m μ fun d μ₁ => asB d fun b => .ite b (kt μ₁) (kf μ₁))
  | .Call f es ks ps => rec (.e (.Call f es ks ps) m μ fun d μ₁ => asB d fun b => .ite b (kt μ₁) (kf μ₁))
  | .Subscript v s ps => rec (.e (.Subscript v s ps) m μ fun d μ₁ => asB d fun b => .ite b (kt μ₁) (kf μ₁))
  | _ => .fail
noncomputable def stEs (xs : List Expr) (m : Loc) (μ : Mut) (k : List D → Mut → T) : T := match xs with
  | [] => k [] μ
  | x :: r => boolM (isStar x) .fail (rec (.e x m μ fun d μ₁ => rec (.es r m μ₁ fun ds μ₂ => k (d :: ds) μ₂)))
noncomputable def stAl (o : BoolOp) (xs : List Expr) (m : Loc) (μ : Mut) (kt kf : Mut → T) : T := match o with
  | .And => match xs with
    | [] => kt μ
    | x :: r => rec (.b x m μ (fun μ₁ => rec (.al .And r m μ₁ kt kf)) kf)
  | .Or => match xs with
    | [] => kf μ
    | x :: r => rec (.b x m μ kt (fun μ₁ => rec (.al .Or r m μ₁ kt kf)))
noncomputable def stBo (o : BoolOp) (xs : List Expr) (m : Loc) (μ : Mut) (k : D → Mut → T) : T := match o, xs with
  | _, [] => .fail
  | _, [x] => rec (.e x m μ k)
  | .And, x :: y :: r => rec (.e x m μ fun d μ₁ => asB d fun b => .ite b (rec (.bo .And (y :: r) m μ₁ k)) (k (.t (.bool false)) μ₁))
  | .Or, x :: y :: r => rec (.e x m μ fun d μ₁ => asB d fun b => .ite b (k (.t (.bool true)) μ₁) (rec (.bo .Or (y :: r) m μ₁ k)))
noncomputable def isComp : Expr → Bool
  | .ListComp .. => true
  | .SetComp .. => true
  | .DictComp .. => true
  | _ => false
noncomputable def asgEach : List Expr → List PyData → Loc → Option Loc
  | [], [], m => some m
  | t :: ts, q :: qs, m => (eN t).bind fun x => (sc.lookup x).bind fun e => boolO e.isA (asgEach ts qs ((x, .t q) :: m))
  | _, _, _ => none
noncomputable def asg (t : Expr) (d : D) (m : Loc) : Option Loc := orO ((eN t).bind fun x => (sc.lookup x).bind fun e => boolO e.isA (some ((x, d) :: m))) ((eT t).bind fun ts => (dT d).bind fun ps => asgEach sc ts ps m)
noncomputable def nx (rest : List Stmt) (k : Fl → Loc → Mut → T) (f : Fl) (m : Loc) (μ : Mut) : T := match f with
  | .next => rec (.ss rest m μ k)
  | f => k f m μ
noncomputable def okAsg (t v : Expr) : Bool := ((eN t).isSome && !isComp v) || ((eT t).isSome && isCl v)
noncomputable def isIf : Expr → Bool
  | .BoolOp _ _ _ => true
  | .IfExp _ _ _ _ => true
  | _ => false
noncomputable def isFork2 : Expr → Bool
  | .BinOp l _ r _ => isIf l || isIf r
  | e => isIf e
noncomputable def isFork : Expr → Bool
  | .BinOp l _ r _ => isFork2 l || isIf r
  | .Call _ es _ _ => es.any isIf
  | e => isIf e
noncomputable def vval (v : Expr) (m : Loc) (μ : Mut) (k : D → Mut → T) : T := boolM (isFork v) (.op (.ex v) m μ k) (rec (.e v m μ k))
noncomputable def vasg (ts : List Expr) (v : Expr) (m : Loc) (μ : Mut) (rest : List Stmt) (k : Fl → Loc → Mut → T) (z : T) : T := optM (one ts) (fun t => boolM (okAsg t v) (vval rec v m μ fun d μ₁ => optM (asg sc t d m) (fun m' => rec (.ss rest m' μ₁ k)) .fail) z) z
noncomputable def asT (d : D) (k : PyData → T) : T := optM (dP d) k .fail
noncomputable def vasgA (ts : List Expr) (v : Expr) (m : Loc) (μ : Mut) (rest : List Stmt) (k : Fl → Loc → Mut → T) (z : T) : T :=
  optM ((one ts).bind eB) (fun p => boolM (isComp v) z (rec (.e v m μ fun d μ₀ => asT d fun q => rec (.e p.1 m μ₀ fun d₁ μ₁ => rec (.e p.2 m μ₁ fun d₂ μ₂ => .op (.put d₁ d₂ q) m μ₂ fun _ μ₃ => rec (.ss rest m μ₃ k))))))
    (vasg sc rec ts v m μ rest k z)
noncomputable def Cl.ar : Cl → Nat
  | .lex => 2
  | _ => 1
noncomputable def vraise (x : Option Expr) (m : Loc) (μ : Mut) : T :=
  optM (x.bind eF) (fun p => boolM p.2.2.isEmpty (optM (eN p.1) (fun g => boolM (noStar p.2.1) (optM ((sc.lookup g).bind Ent.ex) (fun cl => rec (.es p.2.1 m μ fun ds μ₁ => boolM (decide (ds.length = cl.ar)) (.raise cl m μ₁) .fail)) .fail) .fail) .fail) .fail) .fail
noncomputable def vexpr (v : Expr) (m : Loc) (μ : Mut) (k : Mut → T) (z : T) : T := boolM (isCl v) (rec (.e v m μ fun _ μ₁ => k μ₁)) z
noncomputable def vret (d : D) (μ : Mut) (k : D → Mut → T) : T := match d with
  | .loc a => match μ with
    | (a', ds) :: μr => .ask (a = a' ∧ a' ∉ μr.map (·.1)) (k (.t (.list ds)) μr)
    | [] => .fail
  | d => k d μ
noncomputable def jump1 : Stmt → Bool
  | .Return _ _ => true
  | .Raise _ _ _ => true
  | .Break _ => true
  | .Continue _ => true
  | _ => false
noncomputable def jumps (l : List Stmt) : Bool := l.getLast?.any jump1
noncomputable def isForkT : Expr → Bool
  | .Compare _ _ rs _ => rs.any isIf
  | _ => false
noncomputable def vif (t : Expr) (b o : List Stmt) (m : Loc) (μ : Mut) (k : Fl → Loc → Mut → T) : T :=
  rec (.b t m μ (fun μ₁ => rec (.ss b m μ₁ k)) (fun μ₁ => rec (.ss o m μ₁ k)))
noncomputable def stSs (sts : List Stmt) (m : Loc) (μ : Mut) (k : Fl → Loc → Mut → T) : T := match sts with
  | [] => k .next m μ
  | s :: rest => match s with
    | .Assign ts v ps => vasgA sc rec ts v m μ rest k (.st (.Assign ts v ps) m μ (nx rec rest k))
    | .AugAssign t o v _ => optM (eN t) (fun x => optM (sc.lookup x) (fun e => boolM e.isLo (optM (m.get x) (fun d₀ => vval rec v m μ (fun d μ₁ => vinp o d₀ d m μ₁ fun d μ₂ => rec (.ss rest ((x, d) :: m) μ₂ k))) .fail) .fail) .fail) .fail
    | .If t b o ps => boolM (rest.isEmpty || ((jumps b || jumps o) && !isForkT t)) (vif rec t b o m μ (nx rec rest k)) (.st (.If t b o ps) m μ (nx rec rest k))
    | .Return (some x) _ => boolM (isCl x) (rec (.e x m μ fun d μ₁ => k (.ret d) m μ₁)) (rec (.e x m μ fun d μ₁ => vret d μ₁ fun d μ₂ => k (.ret d) m μ₂))
    | .Break _ => k .brk m μ
    | .Continue _ => k .cont m μ
    | .Pass _ => rec (.ss rest m μ k)
    | .Raise x none _ => vraise sc rec x m μ
    | .Expr v ps => vexpr rec v m μ (fun μ₁ => rec (.ss rest m μ₁ k)) (.st (.Expr v ps) m μ (nx rec rest k))
    | s => .st s m μ (nx rec rest k)
noncomputable def step (j : Job) : T := match j with
  | .e x m μ k => stE sc rec x m μ k
  | .b x m μ kt kf => stB sc rec x m μ kt kf
  | .es xs m μ k => stEs rec xs m μ k
  | .al o xs m μ kt kf => stAl rec o xs m μ kt kf
  | .bo o xs m μ k => stBo rec o xs m μ k
  | .ss sts m μ k => stSs sc rec sts m μ k
end
noncomputable def vc (sc : List (Str × Ent)) (n : Nat) : Job → T := Nat.rec (fun _ => .fail) (fun _ r => step sc r) n
end P279
end
section
open PySem PySem.W PyProof.Rows PySem.Spec PySem.Calls PySem.Builtin PySem.Builtin.Str
namespace P279
noncomputable def Ent.kind : Ent → NameKind
  | .loc => .local
  | .cell => .cell
  | .fre => .cell
  | _ => .globalImplicit
noncomputable def GOk (G : Cfg) (x : Str) : Ent → Prop
  | .val d => GName G x d
  | .own f => nsIn G.K mainGlobals x = some (some (.ref f)) ∧ keepIn G.K (.ref f) = true
  | .blt i => GBlt G x (.builtin i)
  | .typ i => GBlt G x (.type i)
  | .exc cl => nsIn G.K mainGlobals x = some (some (clV G cl)) ∧ keepIn G.K (clV G cl) = true ∧ ExCls G.K (G.X cl) ∧ MakesOK G cl cl.ar
  | _ => True
noncomputable def AllOk (G : Cfg) : List (Str × Ent) → Prop
  | [] => True
  | x :: r => GOk G x.1 x.2 ∧ AllOk G r
theorem AllOk.mem {G : Cfg} {x : Str} {e : Ent} {l : List (Str × Ent)} (H : AllOk G l) (h : (x, e) ∈ l) : GOk G x e := by
  induction l with
  | nil => cases h
  | cons y r ih =>
    rcases List.mem_cons.mp h with h | h
    · rw [← h] at H; exact H.1
    · exact ih H.2 h
theorem AllOk.get {G : Cfg} {x : Str} {e : Ent} {l : List (Str × Ent)} (H : AllOk G l) (h : l.lookup x = some e) : GOk G x e := H.mem (lk_mem h)
noncomputable abbrev kinds (sc : List (Str × Ent)) : List (Str × NameKind) := sc.map fun x => (x.1, x.2.kind)
theorem kinds_get {x : Str} {e : Ent} {l : List (Str × Ent)} (h : l.lookup x = some e) : (kinds l).lookup x = some e.kind := by
  induction l with
  | nil => cases h
  | cons y r ih =>
    obtain ⟨y, f⟩ := y
    show List.lookup x ((y, f.kind) :: kinds r) = _
    rw [List.lookup_cons] at h ⊢
    cases hq : x == y with
    | true => rw [hq] at h; cases h; rfl
    | false => rw [hq] at h; exact ih h
structure Fr.Ok (Γ : Fr) (sc : List (Str × Ent)) : Prop where
  names : Γ.c.env.scope.names = kinds sc
  all : AllOk Γ.G sc
  dbg : sc.lookup ("__debug__" : Str) = none
  inter : interactive Γ.c.env = false
  inst : InstCls Γ.G.K Γ.G.C
  cells : ∀ x, sc.lookup x = some .cell → ∃ ca, Γ.c.env.cells.lookup x = some ca ∧ ca ∈ Γ.c.own
theorem Fr.Ok.kind {Γ : Fr} {sc : List (Str × Ent)} (ok : Γ.Ok sc) {x : Str} {e : Ent} (h : sc.lookup x = some e) : Γ.c.env.kindOf x = some e.kind := by
  unfold Env.kindOf; rw [ok.names]; exact kinds_get h
theorem Fr.Ok.asg {Γ : Fr} {sc : List (Str × Ent)} (ok : Γ.Ok sc) {x : Str} {e : Ent} (h : sc.lookup x = some e) (he : e = .loc ∨ e = .cell) : Γ.c.env.kindOf x = some .local ∨ (Γ.c.env.kindOf x = some .cell ∧ ∃ ca, Γ.c.env.cells.lookup x = some ca ∧ ca ∈ Γ.c.own) := by
  rcases he with rfl | rfl
  · exact .inl (ok.kind h)
  · exact .inr ⟨ok.kind h, ok.cells _ h⟩
theorem Fr.Ok.nd {Γ : Fr} {sc : List (Str × Ent)} (ok : Γ.Ok sc) {x : Str} {e : Ent} (h : sc.lookup x = some e) : (x == ("__debug__" : Str)) = false := by
  rw [beq_eq_false_iff_ne]; rintro rfl; rw [ok.dbg] at h; cases h
theorem nn {α : Type} {a : α} {P : Prop} (h : none = some a) : P := nomatch h
theorem bf {P : Prop} (h : false = true) : P := nomatch h
section
variable {d : D} {e : Expr}
theorem dI_eq {a : Int} (h : dI d = some a) : d = .t (.int a) := D.casesOn (motive := fun d => dI d = some a → d = .t (.int a)) d (fun p => PyData.casesOn (motive_1 := fun p => dI (.t p) = some a → D.t p = .t (.int a)) p (fun h => nn h) (fun _ h => nn h) (fun _ h => congrArg (fun a => D.t (.int a)) (Option.some.inj h)) (fun _ h => nn h) (fun _ h => nn h) (fun _ h => nn h) (fun _ h => nn h)) (fun _ h => nn h) (fun _ _ h => nn h) (fun _ _ _ h => nn h) h
theorem dS_eq {a : Str} (h : dS d = some a) : d = .t (.str a) := D.casesOn (motive := fun d => dS d = some a → d = .t (.str a)) d (fun p => PyData.casesOn (motive_1 := fun p => dS (.t p) = some a → D.t p = .t (.str a)) p (fun h => nn h) (fun _ h => nn h) (fun _ h => nn h) (fun _ h => congrArg (fun a => D.t (.str a)) (Option.some.inj h)) (fun _ h => nn h) (fun _ h => nn h) (fun _ h => nn h)) (fun _ h => nn h) (fun _ _ h => nn h) (fun _ _ _ h => nn h) h
theorem dB_eq {a : Bool} (h : dB d = some a) : d = .t (.bool a) := D.casesOn (motive := fun d => dB d = some a → d = .t (.bool a)) d (fun p => PyData.casesOn (motive_1 := fun p => dB (.t p) = some a → D.t p = .t (.bool a)) p (fun h => nn h) (fun _ h => congrArg (fun a => D.t (.bool a)) (Option.some.inj h)) (fun _ h => nn h) (fun _ h => nn h) (fun _ h => nn h) (fun _ h => nn h) (fun _ h => nn h)) (fun _ h => nn h) (fun _ _ h => nn h) (fun _ _ _ h => nn h) h
theorem dL_eq {a : List PyData} (h : dL d = some a) : d = .t (.list a) := D.casesOn (motive := fun d => dL d = some a → d = .t (.list a)) d (fun p => PyData.casesOn (motive_1 := fun p => dL (.t p) = some a → D.t p = .t (.list a)) p (fun h => nn h) (fun _ h => nn h) (fun _ h => nn h) (fun _ h => nn h) (fun _ h => congrArg (fun a => D.t (.list a)) (Option.some.inj h)) (fun _ h => nn h) (fun _ h => nn h)) (fun _ h => nn h) (fun _ _ h => nn h) (fun _ _ _ h => nn h) h
theorem dT_eq {a : List PyData} (h : dT d = some a) : d = .t (.tuple a) := D.casesOn (motive := fun d => dT d = some a → d = .t (.tuple a)) d (fun p => PyData.casesOn (motive_1 := fun p => dT (.t p) = some a → D.t p = .t (.tuple a)) p (fun h => nn h) (fun _ h => nn h) (fun _ h => nn h) (fun _ h => nn h) (fun _ h => nn h) (fun _ h => congrArg (fun a => D.t (.tuple a)) (Option.some.inj h)) (fun _ h => nn h)) (fun _ h => nn h) (fun _ _ h => nn h) (fun _ _ _ h => nn h) h
theorem dP_eq {a : PyData} (h : dP d = some a) : d = .t a := D.casesOn (motive := fun d => dP d = some a → d = .t a) d (fun _ h => congrArg D.t (Option.some.inj h)) (fun _ h => nn h) (fun _ _ h => nn h) (fun _ _ _ h => nn h) h
theorem dX_eq {a : Addr × Addr × Addr} (h : dX d = some a) : d = .inst a.1 a.2.1 a.2.2 := D.casesOn (motive := fun d => dX d = some a → d = .inst a.1 a.2.1 a.2.2) d (fun _ h => nn h) (fun _ h => nn h) (fun _ _ h => nn h) (fun _ _ _ h => congrArg (fun a => D.inst a.1 a.2.1 a.2.2) (Option.some.inj h)) h
theorem isNone_eq (h : isNone d = true) : d = .t .none := D.casesOn (motive := fun d => isNone d = true → d = .t .none) d (fun p => PyData.casesOn (motive_1 := fun p => isNone (.t p) = true → D.t p = .t .none) p (fun _ => rfl) (fun _ h => bf h) (fun _ h => bf h) (fun _ h => bf h) (fun _ h => bf h) (fun _ h => bf h) (fun _ h => bf h)) (fun _ h => bf h) (fun _ _ h => bf h) (fun _ _ _ h => bf h) h
theorem iN_eq {i : Int} {n : Nat} (h : iN i = some n) : i = n := Int.casesOn (motive := fun i => iN i = some n → i = n) i (fun _ h => congrArg (fun n : Nat => (n : Int)) (Option.some.inj h)) (fun _ h => nn h) h
theorem one_eq {α : Type} {l : List α} {a : α} (h : one l = some a) : l = [a] := List.casesOn (motive := fun l => one l = some a → l = [a]) l (fun h => nn h) (fun b r => List.casesOn (motive := fun r => one (b :: r) = some a → b :: r = [a]) r (fun h => congrArg (fun a => [a]) (Option.some.inj h)) (fun _ _ h => nn h)) h
theorem two_eq {α : Type} {l : List α} {a : α × α} (h : two l = some a) : l = [a.1, a.2] := List.casesOn (motive := fun l => two l = some a → l = [a.1, a.2]) l (fun h => nn h) (fun b r => List.casesOn (motive := fun r => two (b :: r) = some a → b :: r = [a.1, a.2]) r (fun h => nn h) (fun c r => List.casesOn (motive := fun r => two (b :: c :: r) = some a → b :: c :: r = [a.1, a.2]) r (fun h => congrArg (fun a => [a.1, a.2]) (Option.some.inj h)) (fun _ _ h => nn h))) h
theorem eN_eq {x : Str} (h : eN e = some x) : ∃ p, e = .Name x p := Expr.casesOn (motive_1 := fun e => eN e = some x → ∃ p, e = .Name x p) e (fun _ _ _ h => nn h) (fun _ _ _ h => nn h) (fun _ _ _ _ h => nn h) (fun _ _ _ h => nn h) (fun _ _ _ _ h => nn h) (fun _ _ _ _ h => nn h) (fun _ _ _ h => nn h) (fun _ _ _ h => nn h) (fun _ _ _ _ h => nn h) (fun _ _ _ _ h => nn h) (fun _ _ _ _ _ h => nn h) (fun _ _ _ _ h => nn h) (fun _ _ h => nn h) (fun _ _ h => nn h) (fun _ _ h => nn h) (fun _ _ _ _ h => nn h) (fun _ _ _ _ h => nn h) (fun _ _ _ _ h => nn h) (fun _ _ h => nn h) (fun _ _ _ h => nn h) (fun _ _ _ h => nn h) (fun _ _ _ h => nn h) (fun _ _ h => nn h) (fun _ p h => ⟨p, congrArg (fun x => Expr.Name x p) (Option.some.inj h)⟩) (fun _ _ h => nn h) (fun _ _ _ h => nn h) (fun _ _ _ _ h => nn h) h
theorem eA_eq {a : Expr × Str × Pos} (h : eA e = some a) : e = .Attribute a.1 a.2.1 a.2.2 := Expr.casesOn (motive_1 := fun e => eA e = some a → e = .Attribute a.1 a.2.1 a.2.2) e (fun _ _ _ h => nn h) (fun _ _ _ h => nn h) (fun _ _ _ _ h => nn h) (fun _ _ _ h => nn h) (fun _ _ _ _ h => nn h) (fun _ _ _ _ h => nn h) (fun _ _ _ h => nn h) (fun _ _ _ h => nn h) (fun _ _ _ _ h => nn h) (fun _ _ _ _ h => nn h) (fun _ _ _ _ _ h => nn h) (fun _ _ _ _ h => nn h) (fun _ _ h => nn h) (fun _ _ h => nn h) (fun _ _ h => nn h) (fun _ _ _ _ h => nn h) (fun _ _ _ _ h => nn h) (fun _ _ _ _ h => nn h) (fun _ _ h => nn h) (fun _ _ _ h => nn h) (fun _ _ _ h => congrArg (fun a => Expr.Attribute a.1 a.2.1 a.2.2) (Option.some.inj h)) (fun _ _ _ h => nn h) (fun _ _ h => nn h) (fun _ _ h => nn h) (fun _ _ h => nn h) (fun _ _ _ h => nn h) (fun _ _ _ _ h => nn h) h
theorem eS_eq {a : Option Expr × Option Expr × Option Expr} (h : eS e = some a) : ∃ p, e = .Slice a.1 a.2.1 a.2.2 p := Expr.casesOn (motive_1 := fun e => eS e = some a → ∃ p, e = .Slice a.1 a.2.1 a.2.2 p) e (fun _ _ _ h => nn h) (fun _ _ _ h => nn h) (fun _ _ _ _ h => nn h) (fun _ _ _ h => nn h) (fun _ _ _ _ h => nn h) (fun _ _ _ _ h => nn h) (fun _ _ _ h => nn h) (fun _ _ _ h => nn h) (fun _ _ _ _ h => nn h) (fun _ _ _ _ h => nn h) (fun _ _ _ _ _ h => nn h) (fun _ _ _ _ h => nn h) (fun _ _ h => nn h) (fun _ _ h => nn h) (fun _ _ h => nn h) (fun _ _ _ _ h => nn h) (fun _ _ _ _ h => nn h) (fun _ _ _ _ h => nn h) (fun _ _ h => nn h) (fun _ _ _ h => nn h) (fun _ _ _ h => nn h) (fun _ _ _ h => nn h) (fun _ _ h => nn h) (fun _ _ h => nn h) (fun _ _ h => nn h) (fun _ _ _ h => nn h) (fun _ _ _ p h => ⟨p, congrArg (fun a => Expr.Slice a.1 a.2.1 a.2.2 p) (Option.some.inj h)⟩) h
theorem eC_eq {a : Const} (h : eC e = some a) : ∃ n p, e = .Constant a n p := Expr.casesOn (motive_1 := fun e => eC e = some a → ∃ n p, e = .Constant a n p) e (fun _ _ _ h => nn h) (fun _ _ _ h => nn h) (fun _ _ _ _ h => nn h) (fun _ _ _ h => nn h) (fun _ _ _ _ h => nn h) (fun _ _ _ _ h => nn h) (fun _ _ _ h => nn h) (fun _ _ _ h => nn h) (fun _ _ _ _ h => nn h) (fun _ _ _ _ h => nn h) (fun _ _ _ _ _ h => nn h) (fun _ _ _ _ h => nn h) (fun _ _ h => nn h) (fun _ _ h => nn h) (fun _ _ h => nn h) (fun _ _ _ _ h => nn h) (fun _ _ _ _ h => nn h) (fun _ _ _ _ h => nn h) (fun _ _ h => nn h) (fun _ n p h => ⟨n, p, congrArg (fun a => Expr.Constant a n p) (Option.some.inj h)⟩) (fun _ _ _ h => nn h) (fun _ _ _ h => nn h) (fun _ _ h => nn h) (fun _ _ h => nn h) (fun _ _ h => nn h) (fun _ _ _ h => nn h) (fun _ _ _ _ h => nn h) h
theorem eT_eq {a : List Expr} (h : eT e = some a) : ∃ n p, e = .Tuple a n p := Expr.casesOn (motive_1 := fun e => eT e = some a → ∃ n p, e = .Tuple a n p) e (fun _ _ _ h => nn h) (fun _ _ _ h => nn h) (fun _ _ _ _ h => nn h) (fun _ _ _ h => nn h) (fun _ _ _ _ h => nn h) (fun _ _ _ _ h => nn h) (fun _ _ _ h => nn h) (fun _ _ _ h => nn h) (fun _ _ _ _ h => nn h) (fun _ _ _ _ h => nn h) (fun _ _ _ _ _ h => nn h) (fun _ _ _ _ h => nn h) (fun _ _ h => nn h) (fun _ _ h => nn h) (fun _ _ h => nn h) (fun _ _ _ _ h => nn h) (fun _ _ _ _ h => nn h) (fun _ _ _ _ h => nn h) (fun _ _ h => nn h) (fun _ _ _ h => nn h) (fun _ _ _ h => nn h) (fun _ _ _ h => nn h) (fun _ _ h => nn h) (fun _ _ h => nn h) (fun _ _ h => nn h) (fun _ n p h => ⟨n, p, congrArg (fun a => Expr.Tuple a n p) (Option.some.inj h)⟩) (fun _ _ _ _ h => nn h) h
theorem sub_eq (h : isSub e = true) : ∃ a b c, e = .Subscript a b c := Expr.casesOn (motive_1 := fun e => isSub e = true → ∃ a b c, e = .Subscript a b c) e (fun _ _ _ h => bf h) (fun _ _ _ h => bf h) (fun _ _ _ _ h => bf h) (fun _ _ _ h => bf h) (fun _ _ _ _ h => bf h) (fun _ _ _ _ h => bf h) (fun _ _ _ h => bf h) (fun _ _ _ h => bf h) (fun _ _ _ _ h => bf h) (fun _ _ _ _ h => bf h) (fun _ _ _ _ _ h => bf h) (fun _ _ _ _ h => bf h) (fun _ _ h => bf h) (fun _ _ h => bf h) (fun _ _ h => bf h) (fun _ _ _ _ h => bf h) (fun _ _ _ _ h => bf h) (fun _ _ _ _ h => bf h) (fun _ _ h => bf h) (fun _ _ _ h => bf h) (fun _ _ _ h => bf h) (fun a b c _ => ⟨a, b, c, rfl⟩) (fun _ _ h => bf h) (fun _ _ h => bf h) (fun _ _ h => bf h) (fun _ _ _ h => bf h) (fun _ _ _ _ h => bf h) h
theorem isCl_eq (h : isCl e = true) : ∃ a b c p, e = .Call a b c p := Expr.casesOn (motive_1 := fun e => isCl e = true → ∃ a b c p, e = .Call a b c p) e (fun _ _ _ h => bf h) (fun _ _ _ h => bf h) (fun _ _ _ _ h => bf h) (fun _ _ _ h => bf h) (fun _ _ _ _ h => bf h) (fun _ _ _ _ h => bf h) (fun _ _ _ h => bf h) (fun _ _ _ h => bf h) (fun _ _ _ _ h => bf h) (fun _ _ _ _ h => bf h) (fun _ _ _ _ _ h => bf h) (fun _ _ _ _ h => bf h) (fun _ _ h => bf h) (fun _ _ h => bf h) (fun _ _ h => bf h) (fun _ _ _ _ h => bf h) (fun a b c p _ => ⟨a, b, c, p, rfl⟩) (fun _ _ _ _ h => bf h) (fun _ _ h => bf h) (fun _ _ _ h => bf h) (fun _ _ _ h => bf h) (fun _ _ _ h => bf h) (fun _ _ h => bf h) (fun _ _ h => bf h) (fun _ _ h => bf h) (fun _ _ _ h => bf h) (fun _ _ _ _ h => bf h) h
theorem eB_eq {a : Expr × Expr} (h : eB e = some a) : ∃ p, e = .Subscript a.1 a.2 p := Expr.casesOn (motive_1 := fun e => eB e = some a → ∃ p, e = .Subscript a.1 a.2 p) e (fun _ _ _ h => nn h) (fun _ _ _ h => nn h) (fun _ _ _ _ h => nn h) (fun _ _ _ h => nn h) (fun _ _ _ _ h => nn h) (fun _ _ _ _ h => nn h) (fun _ _ _ h => nn h) (fun _ _ _ h => nn h) (fun _ _ _ _ h => nn h) (fun _ _ _ _ h => nn h) (fun _ _ _ _ _ h => nn h) (fun _ _ _ _ h => nn h) (fun _ _ h => nn h) (fun _ _ h => nn h) (fun _ _ h => nn h) (fun _ _ _ _ h => nn h) (fun _ _ _ _ h => nn h) (fun _ _ _ _ h => nn h) (fun _ _ h => nn h) (fun _ _ _ h => nn h) (fun _ _ _ h => nn h) (fun _ _ p h => ⟨p, congrArg (fun a => Expr.Subscript a.1 a.2 p) (Option.some.inj h)⟩) (fun _ _ h => nn h) (fun _ _ h => nn h) (fun _ _ h => nn h) (fun _ _ _ h => nn h) (fun _ _ _ _ h => nn h) h
theorem eF_eq {a : Expr × List Expr × List Keyword} (h : eF e = some a) : ∃ p, e = .Call a.1 a.2.1 a.2.2 p := Expr.casesOn (motive_1 := fun e => eF e = some a → ∃ p, e = .Call a.1 a.2.1 a.2.2 p) e (fun _ _ _ h => nn h) (fun _ _ _ h => nn h) (fun _ _ _ _ h => nn h) (fun _ _ _ h => nn h) (fun _ _ _ _ h => nn h) (fun _ _ _ _ h => nn h) (fun _ _ _ h => nn h) (fun _ _ _ h => nn h) (fun _ _ _ _ h => nn h) (fun _ _ _ _ h => nn h) (fun _ _ _ _ _ h => nn h) (fun _ _ _ _ h => nn h) (fun _ _ h => nn h) (fun _ _ h => nn h) (fun _ _ h => nn h) (fun _ _ _ _ h => nn h) (fun _ _ _ p h => ⟨p, congrArg (fun a => Expr.Call a.1 a.2.1 a.2.2 p) (Option.some.inj h)⟩) (fun _ _ _ _ h => nn h) (fun _ _ h => nn h) (fun _ _ _ h => nn h) (fun _ _ _ h => nn h) (fun _ _ _ h => nn h) (fun _ _ h => nn h) (fun _ _ h => nn h) (fun _ _ h => nn h) (fun _ _ _ h => nn h) (fun _ _ _ _ h => nn h) h
theorem sub_plain (h : eS e = none) : ∀ o i, subscripted e false o i = operate [o, i] (getItem o i) := Expr.casesOn (motive_1 := fun e => eS e = none → ∀ o i, subscripted e false o i = operate [o, i] (getItem o i)) e (fun _ _ _ _ _ _ => rfl) (fun _ _ _ _ _ _ => rfl) (fun _ _ _ _ _ _ _ => rfl) (fun _ _ _ _ _ _ => rfl) (fun _ _ _ _ _ _ _ => rfl) (fun _ _ _ _ _ _ _ => rfl) (fun _ _ _ _ _ _ => rfl) (fun _ _ _ _ _ _ => rfl) (fun _ _ _ _ _ _ _ => rfl) (fun _ _ _ _ _ _ _ => rfl) (fun _ _ _ _ _ _ _ _ => rfl) (fun _ _ _ _ _ _ _ => rfl) (fun _ _ _ _ _ => rfl) (fun _ _ _ _ _ => rfl) (fun _ _ _ _ _ => rfl) (fun _ _ _ _ _ _ _ => rfl) (fun _ _ _ _ _ _ _ => rfl) (fun _ _ _ _ _ _ _ => rfl) (fun _ _ _ _ _ => rfl) (fun _ _ _ _ _ _ => rfl) (fun _ _ _ _ _ _ => rfl) (fun _ _ _ _ _ _ => rfl) (fun _ _ _ _ _ => rfl) (fun _ _ _ _ _ => rfl) (fun _ _ _ _ _ => rfl) (fun _ _ _ _ _ _ => rfl) (fun _ _ _ _ h => nomatch h) h
theorem star_cons {r : List Expr} {env : Env} (h : isStar e = false) : starEach (e :: r) env = (false, eval e env) :: starEach r env := Expr.casesOn (motive_1 := fun e => isStar e = false → starEach (e :: r) env = (false, eval e env) :: starEach r env) e (fun _ _ _ _ => rfl) (fun _ _ _ _ => rfl) (fun _ _ _ _ _ => rfl) (fun _ _ _ _ => rfl) (fun _ _ _ _ _ => rfl) (fun _ _ _ _ _ => rfl) (fun _ _ _ _ => rfl) (fun _ _ _ _ => rfl) (fun _ _ _ _ _ => rfl) (fun _ _ _ _ _ => rfl) (fun _ _ _ _ _ _ => rfl) (fun _ _ _ _ _ => rfl) (fun _ _ _ => rfl) (fun _ _ _ => rfl) (fun _ _ _ => rfl) (fun _ _ _ _ _ => rfl) (fun _ _ _ _ _ => rfl) (fun _ _ _ _ _ => rfl) (fun _ _ _ => rfl) (fun _ _ _ _ => rfl) (fun _ _ _ _ => rfl) (fun _ _ _ _ => rfl) (fun _ _ h => nomatch h) (fun _ _ _ => rfl) (fun _ _ _ => rfl) (fun _ _ _ _ => rfl) (fun _ _ _ _ _ => rfl) h
theorem cI_eq {c : Const} {a : Int} (h : cI c = some a) : c = .int a := by cases c <;> first | exact nn h | exact congrArg Const.int (Option.some.inj h)
theorem isLE_eq {o : CmpOp} (h : isLE o = true) : o = .LtE := by cases o <;> first | rfl | exact bf h
theorem vl_eq {t : Ent} {d : PyData} (h : t.vl = some d) : t = .val d := by cases t <;> first | exact nn h | exact congrArg Ent.val (Option.some.inj h)
theorem isLo_eq {t : Ent} (h : t.isLo = true) : t = .loc := by cases t <;> first | rfl | exact bf h
theorem ex_eq {t : Ent} {cl : Cl} (h : t.ex = some cl) : t = .exc cl := by cases t <;> first | exact nn h | exact congrArg Ent.exc (Option.some.inj h)
theorem isA_eq {t : Ent} (h : t.isA = true) : t = .loc ∨ t = .cell := by cases t <;> first | exact .inl rfl | exact .inr rfl | exact bf h
theorem bindE {α β : Type} {o : Option α} {f : α → Option β} {b : β} (h : o.bind f = some b) : ∃ a, o = some a ∧ f a = some b := Option.bind_eq_some_iff.mp h
theorem boolE {α : Type} {b : Bool} {x : Option α} {a : α} (h : boolO b x = some a) : b = true ∧ x = some a := by
  cases b
  · exact nn h
  · exact ⟨rfl, h⟩
theorem orE {α : Type} {x y : Option α} {a : α} (h : orO x y = some a) : x = some a ∨ y = some a := by
  cases x
  · exact .inr h
  · exact .inl h
theorem optE {α : Type} {Γ : Fr} {o : Option α} {f : α → T} {z : T} {P : Prop} (h : Good Γ (optM o f z)) (h1 : ∀ a, o = some a → Good Γ (f a) → P) (h2 : o = none → Good Γ z → P) : P := by
  cases o
  · exact h2 rfl h
  · exact h1 _ rfl h
theorem optF {α : Type} {Γ : Fr} {o : Option α} {f : α → T} {P : Prop} (h : Good Γ (optM o f .fail)) (h1 : ∀ a, o = some a → Good Γ (f a) → P) : P := optE h h1 fun _ h => h.elim
theorem bolE {Γ : Fr} {b : Bool} {x y : T} {P : Prop} (h : Good Γ (boolM b x y)) (h1 : b = true → Good Γ x → P) (h2 : b = false → Good Γ y → P) : P := by
  cases b
  · exact h2 rfl h
  · exact h1 rfl h
end
theorem noStar_tail {x : Expr} {r : List Expr} (h : noStar (x :: r) = true) : isStar x = false ∧ noStar r = true := by
  have h : (!isStar x && noStar r) = true := h
  rw [Bool.and_eq_true, Bool.not_eq_true'] at h
  exact h
theorem noStar_he {es : List Expr} {env : Env} (h : noStar es = true) : ∀ x r, es = x :: r → starEach (x :: r) env = (false, eval x env) :: starEach r env := fun x r e => star_cons (noStar_tail (e ▸ h)).1
theorem noStar_hp {pos : Pos} {env : Env} : ∀ {es : List Expr}, noStar es = true → (backTo pos (starEach es env)).any (·.1) = false
  | [], _ => rfl
  | x :: r, h => by
    rw [star_cons (noStar_tail h).1]
    exact noStar_hp (pos := pos) (env := env) (noStar_tail h).2
theorem swaps_no {x : Str} {px : Pos} {v : Expr} {k : Nat} {env : Env} (h : isComp v = false) : swapsWithSole [.Name x px] v k env = pure false := Expr.casesOn (motive_1 := fun v => isComp v = false → swapsWithSole [.Name x px] v k env = pure false) v (fun _ _ _ _ => rfl) (fun _ _ _ _ => rfl) (fun _ _ _ _ _ => rfl) (fun _ _ _ _ => rfl) (fun _ _ _ _ _ => rfl) (fun _ _ _ _ _ => rfl) (fun _ _ _ _ => rfl) (fun _ _ _ _ => rfl) (fun _ _ _ _ h => nomatch h) (fun _ _ _ _ h => nomatch h) (fun _ _ _ _ _ h => nomatch h) (fun _ _ _ _ _ => rfl) (fun _ _ _ => rfl) (fun _ _ _ => rfl) (fun _ _ _ => rfl) (fun _ _ _ _ _ => rfl) (fun _ _ _ _ _ => rfl) (fun _ _ _ _ _ => rfl) (fun _ _ _ => rfl) (fun _ _ _ _ => rfl) (fun _ _ _ _ => rfl) (fun _ _ _ _ => rfl) (fun _ _ _ => rfl) (fun _ _ _ => rfl) (fun _ _ _ => rfl) (fun _ _ _ _ => rfl) (fun _ _ _ _ _ => rfl) h
theorem stores_no {x : Str} {px : Pos} {v : Expr} {env : Env} : swappedStores [.Name x px] v env = pure none := Expr.casesOn (motive_1 := fun v => swappedStores [.Name x px] v env = pure none) v (fun _ _ _ => rfl) (fun _ _ _ => rfl) (fun _ _ _ _ => rfl) (fun _ _ _ => rfl) (fun _ _ _ _ => rfl) (fun _ _ _ _ => rfl) (fun _ _ _ => rfl) (fun _ _ _ => rfl) (fun _ _ _ _ => rfl) (fun _ _ _ _ => rfl) (fun _ _ _ _ _ => rfl) (fun _ _ _ _ => rfl) (fun _ _ => rfl) (fun _ _ => rfl) (fun _ _ => rfl) (fun _ _ _ _ => rfl) (fun _ _ _ _ => rfl) (fun _ _ _ _ => rfl) (fun _ _ => rfl) (fun _ _ _ => rfl) (fun _ _ _ => rfl) (fun _ _ _ => rfl) (fun _ _ => rfl) (fun _ _ => rfl) (fun _ _ => rfl) (fun _ _ _ => rfl) (fun _ _ _ _ => rfl)
section
variable {Γ : Fr} {sc : List (Str × Ent)} {rec : Job → T} {m : Loc} {μ : Mut} {k : D → Mut → T}
noncomputable abbrev Fr.Q (Γ : Fr) (k : D → Mut → T) : D → Mut → Prop := fun d μ => Good Γ (k d μ)
noncomputable abbrev Fr.Em (Γ : Fr) (m : Loc) : Cl → Mut → Prop := fun cl μ => Γ.E cl m μ
theorem vname_sound (ok : Γ.Ok sc) {x : Str} {ps : Pos} (h : Good Γ (vname sc x m fun d => k d μ)) : WE Γ.G Γ.c (.Name x ps) m μ (Γ.Q k) (Γ.Em m) :=
  optF h fun e hs h => bolE h (fun _ h => optF h fun d hm h => WE_Local hm h (ok.nd hs)) (fun _ h => optF h fun d hv h => by
    rw [vl_eq hv] at hs
    exact WE_Global (ok.kind hs) (ok.all.get hs) h (ok.nd hs))
theorem vconst_sound {c : Const} {n : Nat} {ps : Pos} {k : D → Mut → T} (h : Good Γ (vconst c fun d => k d μ)) : WE Γ.G Γ.c (.Constant c n ps) m μ (Γ.Q k) (Γ.Em m) := by
  cases c with
  | int i => exact WE_Int h
  | str x => exact WE_Str h
  | none => exact WE_None h
  | bool b => exact WE_Bool h
  | _ => exact h.elim
theorem bin2_eq {o : Operator} {a b : D} {z : Int} (h : bin2 o a b = some z) : ∃ x y, a = .t (.int x) ∧ b = .t (.int y) ∧ ((o = .Add ∧ z = x + y) ∨ (o = .Sub ∧ z = x - y)) := by
  obtain ⟨y, hy, h⟩ := bindE h
  obtain ⟨x, hx, h⟩ := bindE h
  refine ⟨x, y, dI_eq hx, dI_eq hy, ?_⟩
  cases o <;> first | exact nn h | exact .inl ⟨rfl, (Option.some.inj h).symm⟩ | exact .inr ⟨rfl, (Option.some.inj h).symm⟩
theorem vbin_sound {o : Operator} {a b : D} (h : Good Γ (vbin o a b m μ k)) : S2 Γ.G Γ.c (binaryOp o) a b m μ (Γ.Q k) (Γ.Em m) :=
  optE h (fun z e h => by
    obtain ⟨x, y, h1, h2, h3⟩ := bin2_eq e
    rw [h1, h2]
    rcases h3 with ⟨h3, h4⟩ | ⟨h3, h4⟩ <;> rw [h3] <;> rw [h4] at h
    · exact S2_add h
    · exact S2_sub h) fun _ h => h
theorem vinp_sound {o : Operator} {a b : D} (h : Good Γ (vinp o a b m μ k)) : S2 Γ.G Γ.c (inplaceOp o) a b m μ (Γ.Q k) (Γ.Em m) :=
  optE h (fun z e h => by
    obtain ⟨x, y, h1, h2, h3⟩ := bin2_eq e
    rw [h1, h2]
    rcases h3 with ⟨h3, h4⟩ | ⟨h3, h4⟩ <;> rw [h3] <;> rw [h4] at h
    · exact S2_iadd h
    · exact S2_isub h) fun _ h => h
theorem icmp_sound {o : CmpOp} {a b : Int} {v : Bool} (e : icmp o a b = some v) (h : Good Γ (k (.t (.bool v)) μ)) : S2 Γ.G Γ.c (compareOp o) (.t (.int a)) (.t (.int b)) m μ (Γ.Q k) (Γ.Em m) := by
  cases o <;> cases e
  · exact S2_eqI h
  · exact S2_neI h
  · exact S2_lt h
  · exact S2_le h
  · exact S2_gt h
  · exact S2_ge h
theorem mapE {α β : Type} {o : Option α} {f : α → β} {b : β} (h : o.map f = some b) : ∃ a, o = some a ∧ f a = b := Option.map_eq_some_iff.mp h
theorem scmp_sound {o : CmpOp} {a b : Str} {v : Bool} (e : scmp o a b = some v) (h : Good Γ (k (.t (.bool v)) μ)) : S2 Γ.G Γ.c (compareOp o) (.t (.str a)) (.t (.str b)) m μ (Γ.Q k) (Γ.Em m) := by
  have sg : ∀ {n : Nat}, one a.cps.toList = some n → a = S [n] := fun h => by rw [← one_eq h, S_of]
  cases o <;> first | exact nn e | skip
  · rw [← Option.some.inj e] at h; exact S2_eqS h
  · rw [← Option.some.inj e] at h; exact S2_neS h
  · obtain ⟨n, h1, h2⟩ := mapE e
    rw [sg h1]; rw [← h2] at h; exact S2_inS h
  · obtain ⟨n, h1, h2⟩ := mapE e
    rw [sg h1]; rw [← h2] at h; exact S2_notInS h
theorem ncmp_sound {o : CmpOp} {a : D} {v : Bool} (e : ncmp o a = some v) (h : Good Γ (k (.t (.bool v)) μ)) : S2 Γ.G Γ.c (compareOp o) a (.t .none) m μ (Γ.Q k) (Γ.Em m) := by
  cases o <;> first | exact nn e | skip
  · rw [← Option.some.inj e] at h; exact S2_isNone h
  · rw [← Option.some.inj e] at h; exact S2_isNotNone h
theorem vcmp_sound {o : CmpOp} {a b : D} (h : Good Γ (vcmp o a b m μ k)) : S2 Γ.G Γ.c (compareOp o) a b m μ (Γ.Q k) (Γ.Em m) :=
  optE h (fun v e h => by
    rcases orE e with e | e
    · obtain ⟨y, hy, e⟩ := bindE e
      obtain ⟨x, hx, e⟩ := bindE e
      rw [dI_eq hx, dI_eq hy]; exact icmp_sound e h
    · rcases orE e with e | e
      · obtain ⟨y, hy, e⟩ := bindE e
        obtain ⟨x, hx, e⟩ := bindE e
        rw [dS_eq hx, dS_eq hy]; exact scmp_sound e h
      · obtain ⟨hb, e⟩ := boolE e
        rw [isNone_eq hb]; exact ncmp_sound e h) fun _ h => h
theorem vcompare_sound (hr : ∀ j, Good Γ (rec j) → Means Γ j) {l : Expr} {os : List CmpOp} {rs : List Expr} {ps : Pos} {z : T} (hz : Good Γ z → WE Γ.G Γ.c (.Compare l os rs ps) m μ (Γ.Q k) (Γ.Em m)) (h : Good Γ (vcompare rec l os rs m μ k z)) : WE Γ.G Γ.c (.Compare l os rs ps) m μ (Γ.Q k) (Γ.Em m) :=
  optE h (fun o ho h => optE h (fun r hr' h => bolE h (fun _ h => hz h) fun hb h => by
    rw [one_eq ho, one_eq hr']
    exact WE_Compare (WE.mono (hr _ h) (fun a μ₁ h => WE.mono (hr _ h) (fun b μ₂ h => vcmp_sound h) fun _ _ x => x) fun _ _ x => x) hb) fun _ h => hz h) fun _ h => hz h
theorem asB_sound {d : D} {kb : Bool → T} (h : Good Γ (asB d kb)) : ∃ b, d = .t (.bool b) ∧ Good Γ (kb b) := optF h fun b e h => ⟨b, dB_eq e, h⟩
theorem asB_tru {d : D} {kt kf : Mut → T} (h : Good Γ (asB d fun b => .ite b (kt μ) (kf μ))) : SB Γ.G Γ.c truthy d m μ (Γ.Qb kt kf) (Γ.Em m) := by
  obtain ⟨b, rfl, h⟩ := asB_sound h
  refine SB_bool ?_
  cases b
  · exact h.2 rfl
  · exact h.1 rfl
theorem getN_sound (ok : Γ.Ok sc) {e : Expr} {b : Int} {Q : D → Mut → Prop} {E : Cl → Mut → Prop} (hb : getN sc m e = some b) (h : Q (.t (.int b)) μ) : WE Γ.G Γ.c e m μ Q E := by
  obtain ⟨x, hx, hb⟩ := bindE hb
  obtain ⟨t, hs, hb⟩ := bindE hb
  obtain ⟨d, hm, hb⟩ := bindE hb
  obtain ⟨p, e⟩ := eN_eq hx
  rw [e]
  rw [dI_eq hb] at hm
  exact WE_Local hm h (ok.nd hs)
theorem getI_sound {e : Expr} {b : Int} {Q : D → Mut → Prop} {E : Cl → Mut → Prop} (hb : getI e = some b) (h : Q (.t (.int b)) μ) : (∃ n p, e = .Constant (.int b) n p) ∧ WE Γ.G Γ.c e m μ Q E := by
  obtain ⟨c, hc, hb⟩ := bindE hb
  obtain ⟨n, p, e⟩ := eC_eq hc
  rw [cI_eq hb] at e
  refine ⟨⟨n, p, e⟩, ?_⟩
  rw [e]
  exact WE_Int h
theorem vbetw_sound (ok : Γ.Ok sc) {l : Expr} {os : List CmpOp} {rs : List Expr} {ps : Pos} {kt kf : Mut → T} (h : Good Γ (vbetw sc l os rs m μ kt kf)) : WB Γ.G Γ.c (.Compare l os rs ps) m μ (Γ.Qb kt kf) (Γ.Em m) :=
  optF h fun p hp h => bolE h (fun hl h => optF h fun q hq h => optF h fun a ha h => optF h fun b hb h => optF h fun k hk h => by
    rw [Bool.and_eq_true] at hl
    rw [two_eq hp, two_eq hq, isLE_eq hl.1, isLE_eq hl.2]
    have hm : lastMarks [CmpOp.LtE, .LtE] [q.1, q.2] = false := by
      obtain ⟨⟨n, p, e⟩, _⟩ := getI_sound (Γ := Γ) (m := m) (μ := μ) (Q := fun _ _ => True) (E := fun _ _ => True) hk trivial
      rw [e]; rfl
    refine WB_Between (a := a) (b := b) (k := k) (getI_sound ha ⟨rfl, getN_sound ok hb ⟨rfl, ?_⟩⟩).2 hm
    by_cases hab : a ≤ b
    · rw [if_pos hab]
      refine (getI_sound hk ⟨rfl, ?_⟩).2
      have h := h.1 (decide_eq_true hab)
      cases hbk : decide (b ≤ k)
      · exact h.2 hbk
      · exact h.1 hbk
    · rw [if_neg hab]
      exact h.2 (decide_eq_false hab)) fun _ h => h.elim
theorem vcompareB_sound (ok : Γ.Ok sc) (hr : ∀ j, Good Γ (rec j) → Means Γ j) {l : Expr} {os : List CmpOp} {rs : List Expr} {ps : Pos} {kt kf : Mut → T} (h : Good Γ (vcompare rec l os rs m μ (fun d μ₁ => asB d fun b => .ite b (kt μ₁) (kf μ₁)) (vbetw sc l os rs m μ kt kf))) : WB Γ.G Γ.c (.Compare l os rs ps) m μ (Γ.Qb kt kf) (Γ.Em m) :=
  optE h (fun o ho h => optE h (fun r hr' h => bolE h (fun _ h => vbetw_sound ok h) fun hb h => by
    rw [one_eq ho, one_eq hr']
    refine WB_Compare (WE.mono (hr _ h) (fun a μ₁ h => WE.mono (hr _ h) (fun b μ₂ h => ?_) fun _ _ x => x) fun _ _ x => x) hb
    exact fun B s v₁ v₂ I V₁ V₂ => (vcmp_sound h B s v₁ v₂ I V₁ V₂).mono (fun d μ₃ h => asB_tru h) fun _ _ x => x) fun _ h => vbetw_sound ok h) fun _ h => vbetw_sound ok h
theorem vlen_sound {d : D} (h : Good Γ (vlen d m μ k)) : SL Γ.G Γ.c (fun vs => PySem.call (.builtin "len") vs) [d] m μ (Γ.Q k) (Γ.Em m) :=
  optE h (fun x e h => by rw [dS_eq e, ← S_of x]; exact SL_len_str h.1 h.2) fun _ h => optE h (fun ds e h => by rw [dL_eq e]; exact SL_len_list rfl h.1 h.2) fun _ h => h
theorem vcall_blt {i : String} {ds : List D} (h : Good Γ (vcall (.blt i) ds m μ k)) : SL Γ.G Γ.c (fun vs => PySem.call (.builtin i) vs) ds m μ (Γ.Q k) (Γ.Em m) :=
  bolE h (fun hi h => optE h (fun d e h => by rw [one_eq e, of_decide_eq_true hi]; exact vlen_sound h) fun _ h => h) fun _ h => h
theorem vcall_typ {i : String} {ds : List D} (h : Good Γ (vcall (.typ i) ds m μ k)) : SL Γ.G Γ.c (fun vs => PySem.call (.type i) vs) ds m μ (Γ.Q k) (Γ.Em m) :=
  bolE h (fun hi h => optE h (fun r e h => by
    rw [of_decide_eq_true hi]
    rcases orE e with e | e
    · obtain ⟨a, ha, e⟩ := bindE e
      obtain ⟨x, hx, e⟩ := mapE e
      rw [one_eq ha, dI_eq hx]; rw [← e] at h; exact SL_range1 h
    · obtain ⟨p, hp, e⟩ := bindE e
      obtain ⟨x, hx, e⟩ := bindE e
      obtain ⟨y, hy, e⟩ := mapE e
      rw [two_eq hp, dI_eq hx, dI_eq hy]; rw [← e] at h; exact SL_range2 h) fun _ h => h) fun _ h => h
theorem noStar_all {pos : Pos} {env : Env} : ∀ {es : List Expr}, noStar es = true → (backTo pos (starEach es env)).all (fun x => !x.1) = true
  | [], _ => rfl
  | x :: r, h => by
    rw [star_cons (noStar_tail h).1]
    exact noStar_all (pos := pos) (env := env) (noStar_tail h).2
theorem base_ok {o : Expr} {nm : Str} {env : Env} (h : okBase o = true) : attributeBase o nm env (eval o env) = eval o env := Expr.casesOn (motive_1 := fun o => okBase o = true → attributeBase o nm env (eval o env) = eval o env) o (fun _ _ _ h => bf h) (fun _ _ _ h => bf h) (fun _ _ _ _ h => bf h) (fun _ _ _ h => bf h) (fun _ _ _ _ h => bf h) (fun _ _ _ _ h => bf h) (fun _ _ _ h => bf h) (fun _ _ _ h => bf h) (fun _ _ _ _ h => bf h) (fun _ _ _ _ h => bf h) (fun _ _ _ _ _ h => bf h) (fun _ _ _ _ h => bf h) (fun _ _ h => bf h) (fun _ _ h => bf h) (fun _ _ h => bf h) (fun _ _ _ _ h => bf h) (fun _ _ _ _ h => bf h) (fun _ _ _ _ h => bf h) (fun _ _ h => bf h) (fun _ _ _ _ => rfl) (fun _ _ _ h => bf h) (fun _ _ _ _ => rfl) (fun _ _ h => bf h) (fun _ _ _ => rfl) (fun _ _ h => bf h) (fun _ _ _ h => bf h) (fun _ _ _ _ h => bf h) h
theorem meth_str {nm : Str} {i : String} (h : methS nm = some i) : Slot "str" nm i ∧ typeOf (.builtin i) = pure (.type "method_descriptor") := by
  unfold methS at h
  split at h
  · rename_i e; rw [e, ← Option.some.inj h]; exact ⟨F.slot_str_find, F.type_str_find⟩
  · split at h
    · rename_i e; rw [e, ← Option.some.inj h]; exact ⟨F.slot_str_index, F.type_str_index⟩
    · split at h
      · rename_i e; rw [e, ← Option.some.inj h]; exact ⟨F.slot_str_split, F.type_str_split⟩
      · split at h
        · rename_i e; rw [e, ← Option.some.inj h]; exact ⟨F.slot_str_join, F.type_str_join⟩
        · exact nn h
theorem meth_list {nm : Str} {i : String} (h : methL nm = some i) : Slot "list" nm i ∧ typeOf (.builtin i) = pure (.type "method_descriptor") := by
  unfold methL at h
  split at h
  · rename_i e; rw [e, ← Option.some.inj h]; exact ⟨F.slot_list_append, type_list_append⟩
  · split at h
    · rename_i e; rw [e, ← Option.some.inj h]; exact ⟨F.slot_list_pop, F.type_list_pop⟩
    · exact nn h
theorem vmeth_sound (hr : ∀ j, Good Γ (rec j) → Means Γ j) {o : Expr} {nm : Str} {es : List Expr} {ap ps : Pos} {z : T} (hz : Good Γ z → WE Γ.G Γ.c (.Call (.Attribute o nm ap) es [] ps) m μ (Γ.Q k) (Γ.Em m)) (hs : noStar es = true) (hl : (ap.endLine == ps.line) = true) (ho : okBase o = true) (hn : es.length < 30) (h : Good Γ (vmeth rec o nm es m μ k z)) : WE Γ.G Γ.c (.Call (.Attribute o nm ap) es [] ps) m μ (Γ.Q k) (Γ.Em m) := by
  have hf : ((backTo ps (starEach es Γ.c.env)).all (fun x => !x.1) && (backToKw ps (keywordEach [] Γ.c.env)).all (fun x => x.1.isSome) && decide (es.length + ([] : List Keyword).length + (if ([] : List Keyword).isEmpty then 0 else 1) < 30)) = true := by
    rw [noStar_all hs]; exact decide_eq_true hn
  refine optE h (fun i hi h => ?_) fun _ h => optE h (fun i hi h => ?_) fun _ h => hz h
  · exact WE_Method F.plainAttrs_str (meth_str hi).1 (meth_str hi).2 (WE.mono (hr _ h) (fun d μ₁ h => optF h fun x e h => ⟨by rw [dS_eq e]; rfl, hr _ h ps⟩) fun _ _ x => x) (base_ok ho) hf hl (noStar_he hs) (noStar_hp hs)
  · exact WE_Method F.plainAttrs_list (meth_list hi).1 (meth_list hi).2 (WE.mono (hr _ h) (fun d μ₁ h => ⟨h.1, hr _ h.2 ps⟩) fun _ _ x => x) (base_ok ho) hf hl (noStar_he hs) (noStar_hp hs)
theorem fn_sound (ok : Γ.Ok sc) {g : Str} {np ps : Pos} {es : List Expr} {t : Ent} (hl : sc.lookup g = some t) (hs : noStar es = true) (ht : isFnE t = true) (mn : WEs Γ.G Γ.c ps es m μ (fun ds μ₁ => Good Γ (vcall t ds m μ₁ k)) (Γ.Em m)) : WE Γ.G Γ.c (.Call (.Name g np) es [] ps) m μ (Γ.Q k) (Γ.Em m) := by
  have G₁ := ok.all.get hl
  have k₁ := ok.kind hl
  have mn' : ∀ {Q : List D → Mut → Prop}, (∀ ds μ₁, Good Γ (vcall t ds m μ₁ k) → Q ds μ₁) → WEs Γ.G Γ.c ps es m μ Q (Γ.Em m) := fun hq B s I => (mn B s I).mono hq fun _ _ x => x
  cases t with
  | own f => exact WE_Call k₁ G₁.1 G₁.2 mn (noStar_he hs) (noStar_hp hs) (ok.nd hl)
  | blt i => exact WE_CallBuiltin k₁ G₁ (mn' fun _ _ h => vcall_blt h) (noStar_he hs) (noStar_hp hs) (ok.nd hl)
  | typ i => exact WE_CallType k₁ G₁ (mn' fun _ _ h => vcall_typ h) (noStar_he hs) (noStar_hp hs) (ok.nd hl)
  | _ => exact bf ht
theorem vcallE_sound (ok : Γ.Ok sc) (hr : ∀ j, Good Γ (rec j) → Means Γ j) {f : Expr} {es : List Expr} {ks : List Keyword} {ps : Pos} {z : T} (hz : Good Γ z → WE Γ.G Γ.c (.Call f es ks ps) m μ (Γ.Q k) (Γ.Em m)) (h : Good Γ (vcallE sc rec f es ks ps m μ k z)) : WE Γ.G Γ.c (.Call f es ks ps) m μ (Γ.Q k) (Γ.Em m) :=
  bolE h (fun hk h => by
    rw [List.isEmpty_iff.mp hk] at hz ⊢
    refine optE h (fun p hp h => bolE h (fun hb h => ?_) fun _ h => hz h) fun _ h => optE h (fun g hg h => optE h (fun t hl h => bolE h (fun hs h => ?_) fun _ h => hz h) fun _ h => hz h) fun _ h => hz h
    · rw [eA_eq hp] at hz ⊢
      simp only [Bool.and_eq_true, decide_eq_true_eq] at hb
      exact vmeth_sound hr hz hb.1.1.1 hb.1.1.2 hb.1.2 hb.2 h
    · obtain ⟨np, e⟩ := eN_eq hg
      rw [Bool.and_eq_true] at hs
      rw [e]
      exact fn_sound ok hl hs.1 hs.2 (hr _ h ps)) fun _ h => hz h
theorem vitem_sound {lit : Bool} {a b : D} (h : Good Γ (vitem lit a b m μ k)) : SI Γ.G Γ.c a b m μ (Γ.Q k) (Γ.Em m) :=
  optE h (fun q e h => by
    obtain ⟨_, e⟩ := boolE e
    obtain ⟨ds, hd, e⟩ := bindE e
    obtain ⟨i, hi, e⟩ := bindE e
    obtain ⟨n, hn, hi⟩ := bindE hi
    obtain ⟨hl, e⟩ := boolE e
    have hl := of_decide_eq_true hl
    rw [dT_eq hd, dI_eq hn, iN_eq hi]
    exact SI_tuple (Int.natCast_nonneg _) (by omega) e h) fun _ h => h
theorem vpart_sound (hr : ∀ j, Good Γ (rec j) → Means Γ j) {e : Option Expr} {kp : Option Int → Mut → T} (h : Good Γ (vpart rec e m μ kp)) : WPart Γ.G Γ.c e m μ (fun i μ => Good Γ (kp i μ)) (Γ.Em m) := by
  cases e with
  | none => exact h
  | some e => exact WE.mono (hr _ h) (fun d μ₁ h => optF h fun i e h => ⟨i, dI_eq e, h⟩) fun _ _ x => x
theorem vslice_sound (ok : Γ.Ok sc) (hr : ∀ j, Good Γ (rec j) → Means Γ j) {y : Str} {lo hi : Option Expr} {np sp ps : Pos} {z : T} (hz : Good Γ z → WE Γ.G Γ.c (.Subscript (.Name y np) (.Slice lo hi none sp) ps) m μ (Γ.Q k) (Γ.Em m)) (h : Good Γ (vslice sc rec y lo hi m μ k z)) : WE Γ.G Γ.c (.Subscript (.Name y np) (.Slice lo hi none sp) ps) m μ (Γ.Q k) (Γ.Em m) :=
  optE h (fun t hs h => optE h (fun x e h => by
    obtain ⟨d, hm, e⟩ := bindE e
    rw [dS_eq e] at hm
    refine WE_SliceStr (WE_Local hm ⟨x.cps.toList, rfl, h.1, ?_⟩ (ok.nd hs))
    have mn : ∀ {e : Option Expr} {μ : Mut} {Q Q' : Option Int → Mut → Prop}, WPart Γ.G Γ.c e m μ Q (Γ.Em m) → (∀ i μ, Q i μ → Q' i μ) → WPart Γ.G Γ.c e m μ Q' (Γ.Em m) := by
      intro e μ Q Q' hw hq
      cases e with
      | none => exact hq _ _ hw
      | some e => exact WE.mono hw (fun d μ₁ h => h.elim fun i h => ⟨i, h.1, hq _ _ h.2⟩) fun _ _ x => x
    exact mn (vpart_sound hr h.2) fun i μ₁ h => vpart_sound (kp := fun h μ₂ => .op (.cut x.cps.toList i h) m μ₂ k) hr h) fun _ h => hz h) fun _ h => hz h
theorem vcutT_sound (hr : ∀ j, Good Γ (rec j) → Means Γ j) {u : Expr} {d : D} (h : Good Γ (vcutT rec u d m μ k)) : ∃ ds, d = .t (.tuple ds) ∧ ds.length ≤ 1000000 ∧ WE Γ.G Γ.c u m μ (fun d₂ μ₂ => ∃ b : Nat, d₂ = .t (.int b) ∧ b < ds.length ∧ Γ.Q k (.t (.tuple (ds.take b))) μ₂) (Γ.Em m) :=
  optF h fun ds e h => ⟨ds, dT_eq e, h.1, WE.mono (hr _ h.2) (fun d₂ μ₂ h => optF h fun b e h => (bindE e).elim fun i e => ⟨b, by rw [dI_eq e.1, iN_eq e.2], h.1, h.2⟩) fun _ _ x => x⟩
theorem vattr_sound (ok : Γ.Ok sc) {v : Expr} {nm : Str} {ps : Pos} {z : T} (hz : Good Γ z → WE Γ.G Γ.c (.Attribute v nm ps) m μ (Γ.Q k) (Γ.Em m)) (h : Good Γ (vattr sc v nm m μ k z)) : WE Γ.G Γ.c (.Attribute v nm ps) m μ (Γ.Q k) (Γ.Em m) :=
  optE h (fun y hy h => optE h (fun t hx h => optE h (fun p hp h => by
    obtain ⟨d, hm, hp⟩ := bindE hp
    rw [dX_eq hp] at hm
    obtain ⟨np, e⟩ := eN_eq hy
    refine bolE h (fun hn h => ?_) fun _ h => bolE h (fun hn h => ?_) fun _ h => hz h
    · rw [e]; exact WE_Attr ok.inst (.inl ⟨of_decide_eq_true hn, rfl⟩) (WE_Local hm ⟨rfl, h⟩ (ok.nd hx))
    · rw [e]; exact WE_Attr ok.inst (.inr ⟨of_decide_eq_true hn, h.1, rfl⟩) (WE_Local hm ⟨rfl, h.2⟩ (ok.nd hx))) fun _ h => hz h) fun _ h => hz h) fun _ h => hz h
theorem vsub_sound (ok : Γ.Ok sc) (hr : ∀ j, Good Γ (rec j) → Means Γ j) {v s : Expr} {ps : Pos} {z : T} (hz : Good Γ z → WE Γ.G Γ.c (.Subscript v s ps) m μ (Γ.Q k) (Γ.Em m)) (h : Good Γ (vsub sc rec v s m μ k z)) : WE Γ.G Γ.c (.Subscript v s ps) m μ (Γ.Q k) (Γ.Em m) :=
  optE h (fun p hp h => optE h (fun _ _ h => hz h) fun hst h => by
    obtain ⟨sp, e⟩ := eS_eq hp
    rw [hst] at e
    refine optE h (fun y hy h => ?_) fun _ h => bolE h (fun hv h => optE h (fun _ _ h => hz h) fun hlo h => optE h (fun u hu h => ?_) fun _ h => hz h) fun _ h => hz h
    · obtain ⟨np, e'⟩ := eN_eq hy
      rw [e, e'] at hz ⊢
      exact vslice_sound ok hr hz h
    · obtain ⟨a, b, c, e'⟩ := sub_eq hv
      rw [e, hlo, hu, e']
      rw [e'] at h
      exact WE_SliceTup (WE.mono (hr _ h) (fun d μ₁ h => vcutT_sound hr h) fun _ _ x => x)) fun hn h =>
    WE_Subscript (WE.mono (hr _ h) (fun a μ₁ h => WE.mono (hr _ h) (fun b μ₂ h => vitem_sound h) fun _ _ x => x) fun _ _ x => x) (sub_plain hn)
theorem vtup_sound {ds : List D} (h : Good Γ (vtup ds fun d => k d μ)) : ∃ ps, trees ds = some ps ∧ ps.length ≤ 1000 ∧ Good Γ (k (.t (.tuple ps)) μ) := optF h fun ps e h => bolE h (fun hl h => ⟨ps, e, Nat.le_of_ble_eq_true hl, h⟩) fun _ h => h.elim
theorem vfl_sound {ds : List D} (h : Good Γ (vfl ds fun d => k d μ)) : ∃ ps, trees ds = some ps ∧ ps.length ≤ 1000 ∧ Good Γ (k (.t (.list ps)) μ) := optF h fun ps e h => bolE h (fun hl h => ⟨ps, e, Nat.le_of_ble_eq_true hl, h⟩) fun _ h => h.elim
theorem stE_sound (ok : Γ.Ok sc) (hr : ∀ j, Good Γ (rec j) → Means Γ j) {x : Expr} (h : Good Γ (stE sc rec x m μ k)) : WE Γ.G Γ.c x m μ (Γ.Q k) (Γ.Em m) := by
  cases x with
  | Name x ps => exact vname_sound ok h
  | Constant c n ps => exact vconst_sound h
  | BinOp l o r ps => exact WE_BinOp (WE.mono (hr _ h) (fun a μ₁ h => WE.mono (hr _ h) (fun b μ₂ h => vbin_sound h) fun _ _ x => x) fun _ _ x => x)
  | Compare l os rs ps => exact vcompare_sound hr id h
  | UnaryOp o x ps =>
    refine WE_UnaryOp (WE.mono (hr _ h) (fun d μ₁ h => ?_) fun _ _ x => x)
    cases o with
    | USub => exact optF h fun a e h => by rw [dI_eq e]; exact S1_neg h
    | Not => exact optF h fun a e h => by rw [dB_eq e]; exact S1_not h
    | _ => exact h.elim
  | IfExp t b o ps =>
    refine WE_IfExp (WB.mono (hr _ h) (fun v μ₁ h => ?_) fun _ _ x => x)
    cases v
    · rw [if_neg Bool.false_ne_true]; exact hr _ h
    · rw [if_pos rfl]; exact hr _ h
  | Call f es ks ps => exact vcallE_sound ok hr id h
  | Subscript v s ps => exact vsub_sound ok hr id h
  | Tuple es n ps => exact WE_Tuple fun B s I => (hr _ h ps B s I).mono (fun ds μ₁ h => vtup_sound h) fun _ _ x => x
  | BoolOp o es ps => exact WE_BoolOp (hr _ h ps)
  | Attribute v nm ps => exact vattr_sound ok (z := .op (.ex (.Attribute v nm ps)) m μ k) id h
  | _ => exact h
theorem stB_sound (ok : Γ.Ok sc) (hr : ∀ j, Good Γ (rec j) → Means Γ j) {x : Expr} {kt kf : Mut → T} (h : Good Γ (stB sc rec x m μ kt kf)) : WB Γ.G Γ.c x m μ (Γ.Qb kt kf) (Γ.Em m) := by
  have vl : (∀ whole, isTrue x Γ.c.env whole = (do let v ← whole; standAt x.pos; holding [v] (truthy v))) → Good Γ (rec (.e x m μ fun d μ₁ => asB d fun b => .ite b (kt μ₁) (kf μ₁))) → WB Γ.G Γ.c x m μ (Γ.Qb kt kf) (Γ.Em m) := fun he h =>
    WB_value (WE.mono (hr _ h) (fun d μ₁ h => asB_tru h) fun _ _ x => x) he
  cases x with
  | UnaryOp o x ps =>
    cases o with
    | Not => exact WB_Not (WB.mono (hr _ h) (fun b μ₁ h => by cases b <;> exact h) fun _ _ x => x)
    | _ => exact h.elim
  | BoolOp o es ps => exact WB_BoolOp (hr _ h)
  | Compare l os rs ps => exact vcompareB_sound ok hr h
  | Name x ps => exact vl (fun _ => rfl) h
  | Call f es ks ps => exact vl (fun _ => rfl) h
  | Subscript v s ps => exact vl (fun _ => rfl) h
  | _ => exact h.elim
theorem stEs_sound (hr : ∀ j, Good Γ (rec j) → Means Γ j) {xs : List Expr} {kl : List D → Mut → T} {pos : Pos} (h : Good Γ (stEs rec xs m μ kl)) : WEs Γ.G Γ.c pos xs m μ (fun d μ => Good Γ (kl d μ)) (Γ.Em m) := by
  cases xs with
  | nil => exact WEs_nil h
  | cons x r =>
    exact bolE h (fun _ h => h.elim) fun hs h => WEs_cons (WE.mono (hr _ h) (fun d μ₁ h => hr _ h pos) fun _ _ x => x) (star_cons hs)
theorem stAl_sound (hr : ∀ j, Good Γ (rec j) → Means Γ j) {o : BoolOp} {xs : List Expr} {kt kf : Mut → T} (h : Good Γ (stAl rec o xs m μ kt kf)) : WAll Γ.G Γ.c o xs m μ (Γ.Qb kt kf) (Γ.Em m) := by
  cases o <;> cases xs
  · exact WAll_And_nil h
  · refine WAll_And (WB.mono (hr _ h) (fun b μ₁ h => ?_) fun _ _ x => x)
    cases b
    · exact h
    · exact hr _ h
  · exact WAll_Or_nil h
  · refine WAll_Or (WB.mono (hr _ h) (fun b μ₁ h => ?_) fun _ _ x => x)
    cases b
    · exact hr _ h
    · exact h
theorem stBo_sound (hr : ∀ j, Good Γ (rec j) → Means Γ j) {o : BoolOp} {xs : List Expr} {pos : Pos} (h : Good Γ (stBo rec o xs m μ k)) : WBo Γ.G Γ.c pos o xs m μ (Γ.Q k) (Γ.Em m) := by
  cases xs with
  | nil => cases o <;> exact h.elim
  | cons x r =>
    cases r with
    | nil => cases o <;> exact WBo_one (hr _ h)
    | cons y r =>
      cases o
      · refine WBo_And (WE.mono (hr _ h) (fun d μ₁ h => ?_) fun _ _ x => x)
        obtain ⟨b, rfl, h⟩ := asB_sound h
        refine ⟨b, rfl, ?_⟩
        split
        · rename_i hv; exact hr _ (h.1 hv) pos
        · rename_i hv; exact h.2 (by simpa using hv)
      · refine WBo_Or (WE.mono (hr _ h) (fun d μ₁ h => ?_) fun _ _ x => x)
        obtain ⟨b, rfl, h⟩ := asB_sound h
        refine ⟨b, rfl, ?_⟩
        split
        · rename_i hv; exact h.1 hv
        · rename_i hv; exact hr _ (h.2 (by simpa using hv)) pos
end
end P279
end
section
open PySem PySem.W PyProof.Rows PySem.Spec PySem.Calls PySem.Builtin PySem.Builtin.Str
namespace P279
section
variable {Γ : Fr} {sc : List (Str × Ent)} {rec : Job → T} {m : Loc} {μ : Mut} {k : Fl → Loc → Mut → T}
noncomputable abbrev Fr.R (Γ : Fr) (k : Fl → Loc → Mut → T) : Fl → Loc → Mut → Prop := fun f m μ => Good Γ (k f m μ)
theorem asgEach_sound (ok : Γ.Ok sc) {ts : List Expr} : ∀ {qs : List PyData} {m m' : Loc} {Qm : Loc → Mut → Prop}, asgEach sc ts qs m = some m' → Qm m' μ → WAs Γ.G Γ.c ts (qs.map .t) m μ Qm Γ.E ∧ (assignEach ts Γ.c.env).length = qs.length ∧ (assignEach ts Γ.c.env).findIdx? (·.1) = none := by
  induction ts with
  | nil =>
    intro qs m m' Qm e h
    cases qs with
    | nil => rw [← Option.some.inj e] at h; exact ⟨WAs_nil h, rfl, rfl⟩
    | cons q qs => exact nn e
  | cons t ts ih =>
    intro qs m m' Qm e h
    cases qs with
    | nil => exact nn e
    | cons q qs =>
      obtain ⟨x, hx, e⟩ := bindE e
      obtain ⟨en, hs, e⟩ := bindE e
      obtain ⟨he, e⟩ := boolE e
      obtain ⟨ps, et⟩ := eN_eq hx
      obtain ⟨h1, h2, h3⟩ := ih e h
      rw [et]
      refine ⟨WAs_cons (WA_Name (ok.asg hs (isA_eq he)) h1), congrArg Nat.succ h2, ?_⟩
      show List.findIdx? _ ((false, _) :: assignEach ts Γ.c.env) = none
      rw [List.findIdx?_cons, h3]; rfl
theorem asg_sound (ok : Γ.Ok sc) {t : Expr} {d : D} {m' : Loc} {Qm : Loc → Mut → Prop} (e : asg sc t d m = some m') (h : Qm m' μ) : WA Γ.G Γ.c t d m μ Qm Γ.E := by
  rcases orE e with e | e
  · obtain ⟨x, hx, e⟩ := bindE e
    obtain ⟨en, hs, e⟩ := bindE e
    obtain ⟨he, e⟩ := boolE e
    obtain ⟨ps, et⟩ := eN_eq hx
    rw [et]
    rw [← Option.some.inj e] at h
    exact WA_Name (ok.asg hs (isA_eq he)) h
  · obtain ⟨ts, ht, e⟩ := bindE e
    obtain ⟨qs, hd, e⟩ := bindE e
    obtain ⟨n, ps, et⟩ := eT_eq ht
    obtain ⟨h1, h2, h3⟩ := asgEach_sound ok e h
    rw [et, dT_eq hd]
    exact WA_Tuple h2 h3 h1
theorem nx_sound (hr : ∀ j, Good Γ (rec j) → Means Γ j) {rest : List Stmt} (f : Fl) (m' : Loc) (μ' : Mut) : Γ.R (nx rec rest k) f m' μ' → match f with | .next => WSs Γ.G Γ.c rest m' μ' (Γ.R k) Γ.E | f => Γ.R k f m' μ' := by
  intro h
  cases f <;> first | exact hr _ h | exact h
theorem nx_cons (hr : ∀ j, Good Γ (rec j) → Means Γ j) {s : Stmt} {rest : List Stmt} (h : WS Γ.G Γ.c s m μ (Γ.R (nx rec rest k)) Γ.E) : WSs Γ.G Γ.c (s :: rest) m μ (Γ.R k) Γ.E :=
  WSs_cons (WS.mono h (nx_sound hr) fun _ _ _ x => x)
theorem okAsg_sound {t v : Expr} {n : Nat} {env : Env} (h : okAsg t v = true) : swapsWithSole [t] v n env = pure false ∧ swappedStores [t] v env = pure none ∧ (assignEach [t] env).map (·.2) = [assign t env] := by
  rcases Bool.or_eq_true_iff.mp h with h | h
  · obtain ⟨h1, h2⟩ := Bool.and_eq_true_iff.mp h
    obtain ⟨x, hx⟩ := Option.isSome_iff_exists.mp h1
    obtain ⟨ps, e⟩ := eN_eq hx
    rw [e]
    exact ⟨swaps_no (by rw [Bool.not_eq_true'] at h2; exact h2), stores_no, rfl⟩
  · obtain ⟨h1, h2⟩ := Bool.and_eq_true_iff.mp h
    obtain ⟨x, hx⟩ := Option.isSome_iff_exists.mp h1
    obtain ⟨n, ps, e⟩ := eT_eq hx
    obtain ⟨a, b, c, p, e'⟩ := isCl_eq h2
    rw [e, e']
    exact ⟨rfl, rfl, rfl⟩
theorem vval_sound (hr : ∀ j, Good Γ (rec j) → Means Γ j) {v : Expr} {k : D → Mut → T} (h : Good Γ (vval rec v m μ k)) : WE Γ.G Γ.c v m μ (Γ.Q k) (Γ.Em m) := bolE h (fun _ h => h) fun _ h => hr _ h
theorem vasg_sound (ok : Γ.Ok sc) (hr : ∀ j, Good Γ (rec j) → Means Γ j) {ts : List Expr} {v : Expr} {ps : Pos} {rest : List Stmt} {z : T} (hz : Good Γ z → WSs Γ.G Γ.c (.Assign ts v ps :: rest) m μ (Γ.R k) Γ.E) (h : Good Γ (vasg sc rec ts v m μ rest k z)) : WSs Γ.G Γ.c (.Assign ts v ps :: rest) m μ (Γ.R k) Γ.E :=
  optE h (fun t ht h => bolE h (fun ho h => by
    obtain ⟨h1, h2, h3⟩ := okAsg_sound (n := ps.line) (env := Γ.c.env) ho
    rw [one_eq ht]
    exact WSs_cons (WS_Assign (WE.mono (vval_sound hr h) (fun d μ₁ h => optF h fun m' e h => asg_sound (Qm := fun m' μ' => WSs Γ.G Γ.c rest m' μ' (Γ.R k) Γ.E) ok e (hr _ h)) fun _ _ x => x) h1 h2 h3)) fun _ h => hz h) fun _ h => hz h
theorem vraise_sound (ok : Γ.Ok sc) (hr : ∀ j, Good Γ (rec j) → Means Γ j) {x : Option Expr} {ps : Pos} {Q : Fl → Loc → Mut → Prop} (h : Good Γ (vraise sc rec x m μ)) : WS Γ.G Γ.c (.Raise x none ps) m μ Q Γ.E :=
  optF h fun p hp h => bolE h (fun hk h => optF h fun g hg h => bolE h (fun hs h => optF h fun cl hl h => by
    obtain ⟨e, he, hp⟩ := bindE hp
    obtain ⟨cpos, hp⟩ := eF_eq hp
    obtain ⟨np, hg⟩ := eN_eq hg
    obtain ⟨t, ht, hl⟩ := bindE hl
    rw [ex_eq hl] at ht
    obtain ⟨G₁, G₂, G₃, G₄⟩ := ok.all.get ht
    rw [he, hp, hg, List.isEmpty_iff.mp hk]
    exact WS_Raise (ok.kind ht) G₁ G₂ G₃ G₄ (fun B s I => (hr _ h cpos B s I).mono (fun ds μ₁ h => bolE h (fun hl h => ⟨of_decide_eq_true hl, h⟩) fun _ h => h.elim) fun _ _ x => x) (noStar_he hs) (noStar_hp hs) (ok.nd ht)) fun _ h => h.elim) fun _ h => h.elim
theorem tyD_head {a : Addr} {ds : List PyData} {μ : Mut} : tyD ((a, ds) :: μ) (.loc a) = some "list" := if_pos (List.Mem.head _)
theorem WS_ExprAny {G : Cfg} {c : Act} {E : Cl → Loc → Mut → Prop} {Q : Fl → Loc → Mut → Prop} {x : Expr} {pos : Pos} (h : WE G c x m μ (fun d μ₁ => Q .next m μ₁) (fun k μ => E k m μ)) (hi : interactive c.env = false) (hs : swapsWith x none pos.line c.env = pure false) : WS G c (.Expr x pos) m μ Q E := by
  intro B s I Qr Er hp q e
  exact wpAny_Expr_any (WX.useS (h B s I) (Trans.refl ..) hp e fun v d μ₁ B₁ s₁ T₁ _ I₁ V₁ h₁ => q .next .next m μ₁ B₁ s₁ T₁ I₁ trivial h₁) hi hs
theorem vexpr_sound (ok : Γ.Ok sc) (hr : ∀ j, Good Γ (rec j) → Means Γ j) {v : Expr} {ps : Pos} {Q : Fl → Loc → Mut → Prop} {ku : Mut → T} {z : T} (hz : Good Γ z → WS Γ.G Γ.c (.Expr v ps) m μ Q Γ.E) (hq : ∀ μ', Good Γ (ku μ') → Q .next m μ') (h : Good Γ (vexpr rec v m μ ku z)) : WS Γ.G Γ.c (.Expr v ps) m μ Q Γ.E :=
  bolE h (fun hc h => WS_ExprAny (WE.mono (hr _ h) (fun _ μ₁ h => hq μ₁ h) fun _ _ x => x) ok.inter (by
    obtain ⟨a, b, c, p, e⟩ := isCl_eq hc
    rw [e]; rfl)) fun _ h => hz h
theorem vif_sound (hr : ∀ j, Good Γ (rec j) → Means Γ j) {t : Expr} {b o : List Stmt} {ps : Pos} (h : Good Γ (vif rec t b o m μ k)) : WS Γ.G Γ.c (.If t b o ps) m μ (Γ.R k) Γ.E := by
  refine WS_If (WB.mono (hr _ h) (fun v μ₁ h => ?_) fun _ _ x => x)
  cases v
  · exact hr _ h
  · exact hr _ h
theorem vret_sound {e : Expr} {k : D → Mut → T} {E : Cl → Mut → Prop} (h : WE Γ.G Γ.c e m μ (fun d μ => Good Γ (vret d μ k)) E) : WE Γ.G Γ.c e m μ (Γ.Q k) E := fun B s I =>
  (h B s I).settle fun v d μ₁ B₁ s₁ I₁ R h₁ => by
    have id' : Good Γ (k d μ₁) → ∃ b' μ₂ B₂, Inv Γ.G Γ.c m μ₂ B₂ s₁ ∧ TransC Γ.c μ₁ B₁ s₁ μ₂ B₂ s₁ ∧ VD Γ.G.C B₂ v b' ∧ Γ.Q k b' μ₂ := fun h => ⟨d, μ₁, B₁, I₁, Trans.refl .., R, h⟩
    cases d with
    | loc a =>
      cases μ₁ with
      | nil => exact h₁.elim
      | cons x μr =>
        obtain ⟨⟨rfl, hn⟩, h₁⟩ := h₁
        cases R
        obtain ⟨B', I', T', V', _⟩ := I₁.freeze (a := x.1) lookup_head
        rw [del_head hn] at I' T'
        exact ⟨.t (.list x.2), _, B', I', T', V', h₁⟩
    | _ => exact id' h₁
theorem asT_sound {d : D} {kq : PyData → T} (h : Good Γ (asT d kq)) : ∃ q, d = .t q ∧ Good Γ (kq q) := optF h fun q e h => ⟨q, dP_eq e, h⟩
theorem swaps_item {v o i : Expr} {pi : Pos} {n : Nat} {env : Env} (h : isComp v = false) : swapsWith v (some (.Subscript o i pi)) n env = pure false := Expr.casesOn (motive_1 := fun v => isComp v = false → swapsWith v (some (.Subscript o i pi)) n env = pure false) v (fun _ _ _ _ => rfl) (fun _ _ _ _ => rfl) (fun _ _ _ _ _ => rfl) (fun _ _ _ _ => rfl) (fun _ _ _ _ _ => rfl) (fun _ _ _ _ _ => rfl) (fun _ _ _ _ => rfl) (fun _ _ _ _ => rfl) (fun _ _ _ _ h => nomatch h) (fun _ _ _ _ h => nomatch h) (fun _ _ _ _ _ h => nomatch h) (fun _ _ _ _ _ => rfl) (fun _ _ _ => rfl) (fun _ _ _ => rfl) (fun _ _ _ => rfl) (fun _ _ _ _ _ => rfl) (fun _ _ _ _ _ => rfl) (fun _ _ _ _ _ => rfl) (fun _ _ _ => rfl) (fun _ _ _ _ => rfl) (fun _ _ _ _ => rfl) (fun _ _ _ _ => rfl) (fun _ _ _ => rfl) (fun _ _ _ => rfl) (fun _ _ _ => rfl) (fun _ _ _ _ => rfl) (fun _ _ _ _ _ => rfl) h
theorem vasgA_sound (ok : Γ.Ok sc) (hr : ∀ j, Good Γ (rec j) → Means Γ j) {ts : List Expr} {v : Expr} {ps : Pos} {rest : List Stmt} {z : T} (hz : Good Γ z → WSs Γ.G Γ.c (.Assign ts v ps :: rest) m μ (Γ.R k) Γ.E) (h : Good Γ (vasgA sc rec ts v m μ rest k z)) : WSs Γ.G Γ.c (.Assign ts v ps :: rest) m μ (Γ.R k) Γ.E :=
  optE h (fun p hp h => bolE h (fun _ h => hz h) fun hc h => by
    obtain ⟨t, ht, hp⟩ := bindE hp
    obtain ⟨sp, e⟩ := eB_eq hp
    rw [one_eq ht, e]
    refine WSs_cons (WS_AssignItem (WE.mono (hr _ h) (fun d μ₀ h => ?_) fun _ _ x => x) (swaps_item hc))
    obtain ⟨q, hd, h⟩ := asT_sound h
    refine ⟨q, hd, WE.mono (hr _ h) (fun d₁ μ₁ h => WE.mono (hr _ h) (fun d₂ μ₂ h => ?_) fun _ _ x => x) fun _ _ x => x⟩
    obtain ⟨a, ds, j, h1, h2, h3, h4, h5⟩ := h
    exact ⟨a, ds, j, h1, h2, h3, h4, hr _ h5⟩) fun _ h => vasg_sound ok hr hz h
theorem stSs_sound (ok : Γ.Ok sc) (hr : ∀ j, Good Γ (rec j) → Means Γ j) {sts : List Stmt} (h : Good Γ (stSs sc rec sts m μ k)) : WSs Γ.G Γ.c sts m μ (Γ.R k) Γ.E := by
  cases sts with
  | nil => exact WSs_nil h
  | cons s rest =>
    cases s with
    | Assign ts v ps => exact vasgA_sound (z := .st (.Assign ts v ps) m μ (nx rec rest k)) ok hr (fun h => nx_cons hr h) h
    | AugAssign t o v ps =>
      refine optF h fun x hx h => optF h fun e hs h => bolE h (fun he h => optF h fun d₀ hm h => ?_) fun _ h => h.elim
      rw [isLo_eq he] at hs
      obtain ⟨px, et⟩ := eN_eq hx
      rw [et]
      exact WSs_cons (WS_AugName hm (ok.kind hs) (WE.mono (vval_sound hr h) (fun d μ₁ h B s v₁ v₂ I V₁ V₂ => (vinp_sound h B s v₁ v₂ I V₁ V₂).mono (fun d μ₃ h => hr _ h) fun _ _ x => x) fun _ _ x => x))
    | If t b o ps => exact bolE h (fun _ h => nx_cons hr (vif_sound hr h)) fun _ h => nx_cons hr h
    | Return x ps =>
      cases x with
      | none => exact nx_cons hr h
      | some x => exact bolE h (fun _ h => WSs_cons (WS_Return (hr _ h))) fun _ h => WSs_cons (WS_Return (vret_sound (k := fun d μ => k (.ret d) m μ) (hr _ h)))
    | Break ps => exact WSs_cons (WS_Break h)
    | Continue ps => exact WSs_cons (WS_Continue h)
    | Pass ps => exact WSs_cons (WS_Pass (hr _ h))
    | Raise x c ps =>
      cases c with
      | none => exact WSs_cons (vraise_sound ok hr h)
      | some c => exact nx_cons hr h
    | Expr v ps => exact WSs_cons (vexpr_sound (z := .st (.Expr v ps) m μ (nx rec rest k)) ok hr (fun h => WS.mono (show WS Γ.G Γ.c (.Expr v ps) m μ (Γ.R (nx rec rest k)) Γ.E from h) (nx_sound hr) fun _ _ _ x => x) (fun μ' h => hr (.ss rest m μ' k) h) h)
    | _ => exact nx_cons hr h
theorem vc_sound (ok : Γ.Ok sc) : ∀ (n : Nat) (j : Job), Good Γ (vc sc n j) → Means Γ j
  | 0, j, h => h.elim
  | n + 1, j, h => by
    have hr := vc_sound ok n
    cases j with
    | e x m μ k => exact stE_sound ok hr h
    | b x m μ kt kf => exact stB_sound ok hr h
    | es xs m μ k => exact fun pos => stEs_sound hr h
    | al o xs m μ kt kf => exact stAl_sound hr h
    | bo o xs m μ k => exact fun pos => stBo_sound hr h
    | ss sts m μ k => exact stSs_sound ok hr h
end
end P279
end
section
open PySem PySem.W PyProof.Rows PySem.Spec PySem.Calls PySem.Builtin PySem.Builtin.Str
namespace P279
theorem lenS {α : Type} {l : List α} {n : Nat} (h : l.length = n + 1) : ∃ a r, l = a :: r ∧ r.length = n := by
  cases l with
  | nil => cases h
  | cons a r => exact ⟨a, r, rfl, Nat.succ.inj h⟩
theorem len1 {α : Type} {l : List α} (h : l.length = 1) : ∃ a, l = [a] := by
  obtain ⟨a, r, rfl, h'⟩ := lenS h
  exact ⟨a, congrArg (a :: ·) (List.eq_nil_of_length_eq_zero h')⟩
theorem len2 {α : Type} {l : List α} (h : l.length = 2) : ∃ a b, l = [a, b] := by
  obtain ⟨a, r, rfl, h'⟩ := lenS h
  exact (len1 h').elim fun b e => ⟨a, b, congrArg (a :: ·) e⟩
theorem len3 {α : Type} {l : List α} (h : l.length = 3) : ∃ a b c, l = [a, b, c] := by
  obtain ⟨a, r, rfl, h'⟩ := lenS h
  exact (len2 h').elim fun b e => e.elim fun c e => ⟨a, b, c, congrArg (a :: ·) e⟩
theorem len4 {α : Type} {l : List α} (h : l.length = 4) : ∃ a b c d, l = [a, b, c, d] := by
  obtain ⟨a, r, rfl, h'⟩ := lenS h
  exact (len3 h').elim fun b e => e.elim fun c e => e.elim fun d e => ⟨a, b, c, d, congrArg (a :: ·) e⟩
noncomputable def Ret (G : Cfg) (f : Addr) (args : List D) (n : Nat) (r : Option D) : Prop :=
  CallOK G f args [] n (fun d μ' => μ' = [] ∧ r = some d) (fun k μ' => μ' = [] ∧ r = none ∧ k ≠ .chk)
section
variable {G : Cfg} {c : Act} {m : Loc} {μ : Mut} {E : Cl → Mut → Prop} {Q : D → Mut → Prop}
end
theorem Ret.of_body {G : Cfg} {name qual : Str} {params : Arguments} {body : List Stmt} {scope : Scope} {dV kV doc pm cdv ct oc : Value} {an od : Option Addr} {osl : Array (Option Value)} {f : Addr} {ds : List D} {n : Nat} {r : Option D} (names : List Str)
    (ho : G.K.lookup f = some ⟨oc, od, .func (fnOf name qual params body scope dV kV doc pm an cdv ct), osl⟩) (hcd : codeIn G.K cdv qual = true)
    (hbind : ∀ vals : List Value, vals.length = names.length → bindArgs (fnOf name qual params body scope dV kV doc pm an cdv ct) ⟨vals, []⟩ = pure (names.zip vals))
    (hlen : ds.length = names.length) (hnd : names.Nodup) (hloc : ∀ x ∈ names, scope.names.lookup x = some .local) (hcell : ∀ x ∈ scope.names, x.2 ≠ .cell)
    (h : ∀ A fr L, Room (actOf A fr qual scope L f cdv).A n → WSs G (actOf A fr qual scope L f cdv) body (names.zip ds) [] (fun fl _ _ => r = some (flRet fl)) (fun k _ _ => r = none ∧ k ≠ .chk))
    (hco : scope.isCoroutine = false := by rfl) (hgen : scope.isGenerator = false := by rfl) (hk : scope.kind = .function := by rfl) : Ret G f ds (n + 1) r :=
  CallOK.dropped (CallOK.of_body names ho hcd hbind hlen hnd hloc hcell (fun A fr L hr => (h A fr L hr).mono (fun fl m' μ' hq => ⟨[], List.nil_sublist _, rfl, hq⟩) fun k m' μ' hq => ⟨[], List.nil_sublist _, rfl, hq⟩) hco hgen hk)
theorem gname_str {G : Cfg} {x s : Str} {t : Tok} (h : nsIn G.K mainGlobals x = some (some (.str s t))) : GName G x (.str s) := ⟨_, h, fun B _ => V.str s t⟩
theorem gname_int {G : Cfg} {x : Str} {i : Int} {t : Tok} (h : nsIn G.K mainGlobals x = some (some (.int i t))) : GName G x (.int i) := ⟨_, h, fun B _ => V.int i t⟩
section
variable {w : World} {h₀ : Heap} {mg mb : Str → Option Value}
theorem cls_lex : ExCls (GG w h₀ mg mb).K 51 := ⟨⟨_, _, _, _, _, _, _, _, _, _, _, _, _, _, _, by rfl, ⟨by decide, by decide, by decide, by decide, by decide, fun _ => rfl⟩⟩, by rfl, by rfl, by rfl⟩
theorem cls_syn : ExCls (GG w h₀ mg mb).K 63 := ⟨⟨_, _, _, _, _, _, _, _, _, _, _, _, _, _, _, by rfl, ⟨by decide, by decide, by decide, by decide, by decide, fun _ => rfl⟩⟩, by rfl, by rfl, by rfl⟩
theorem cls_chk : ExCls (GG w h₀ mg mb).K 75 := ⟨⟨_, _, _, _, _, _, _, _, _, _, _, _, _, _, _, by rfl, ⟨by decide, by decide, by decide, by decide, by decide, fun _ => rfl⟩⟩, by rfl, by rfl, by rfl⟩
theorem ok77 (gf : GF (GG w h₀ mg mb)) : Init77OK (GG w h₀ mg mb) 28 := by
  intro A s h C x mA ns R v XC HS hd J hw hs hq
  exact init77 gf (by rfl) (by rfl) rfl (by intro a b; refine Eq.trans (b := pure ?_) ?_ ?_; rotate_left; rfl; refine congrArg pure ?_; rfl) ⟨by rfl, by rfl, by decide⟩ XC HS hd J hw hs hq
theorem okLex (gf : GF (GG w h₀ mg mb)) : InitLexOK (GG w h₀ mg mb) 48 := by
  intro A s h C x mA ns R v u XC HS hd J hw hs hq
  exact initLex (C77 := 31) (f77 := 28) gf (by rfl) (by rfl) rfl (by intro a b c; refine Eq.trans (b := pure ?_) ?_ ?_; rotate_left; rfl; refine congrArg pure ?_; rfl) (by rfl) (by rfl) (by rfl) (by rfl) (by rfl) (ok77 gf) XC HS hd J hw hs hq
theorem mk_lex (gf : GF (GG w h₀ mg mb)) : MakesOK (GG w h₀ mg mb) .lex 2 := makes_two (f := 48) cls_lex (by rfl) (by rfl) (by rfl) (okLex gf)
theorem mk_syn (gf : GF (GG w h₀ mg mb)) : MakesOK (GG w h₀ mg mb) .syn 1 := makes_one (f := 28) cls_syn (by rfl) (by rfl) (by rfl) (ok77 gf)
theorem mk_chk (gf : GF (GG w h₀ mg mb)) : MakesOK (GG w h₀ mg mb) .chk 1 := makes_one (f := 28) cls_chk (by rfl) (by rfl) (by rfl) (ok77 gf)
end
noncomputable def LET : List Nat := [65,66,67,68,69,70,71,72,73,74,75,76,77,78,79,80,81,82,83,84,85,86,87,88,89,90]
noncomputable def DIG : List Nat := [48,49,50,51,52,53,54,55,56,57]
noncomputable def SGN : List Nat := [43,45,42,47,40,41,44,61,58]
theorem S_eq (a b : List Nat) : (S a == S b) = (a == b) := by
  by_cases h : a = b
  · subst h; rw [beq_self_eq_true, beq_self_eq_true]
  · rw [beq_eq_false_iff_ne.mpr h, beq_eq_false_iff_ne]
    intro e; apply h; have := congrArg (fun s : Str => s.cps.toList) e; simpa [S] using this
theorem S_app (a b : List Nat) : S a ++ S b = S (a ++ b) := by
  show (⟨_⟩ : Str) = ⟨_⟩
  simp [S]
theorem S_nil : (("" : Str)) = S [] := rfl
theorem SI_strN {G : Cfg} {c : Act} {m : Loc} {μ : Mut} {E : Cl → Mut → Prop} {Q : D → Mut → Prop} {x : List Nat} {i n : Nat} (hi : i < 2 ^ 63) (hx : x[i]? = some n) (h : Q (.t (.str (S [n]))) μ) : SI G c (.t (.str (S x))) (.t (.int (i : Int))) m μ Q E :=
  SI_str (by omega) (by omega) (by rw [Int.toNat_natCast]; exact hx) h
theorem map_at {α β : Type} {f : α → β} {l : List α} {i : Nat} {y : β} (h : (l.map f)[i]? = some y) : ∃ a, l[i]? = some a ∧ y = f a := by
  rw [List.getElem?_map] at h
  obtain ⟨a, h1, h2⟩ := Option.map_eq_some_iff.mp h
  exact ⟨a, h1, h2.symm⟩
theorem map_at2 {α β γ : Type} {f : α → β} {g : β → γ} {l : List α} {i : Nat} {y : γ} (h : ((l.map f).map g)[i]? = some y) : ∃ a, l[i]? = some a ∧ y = g (f a) := by
  obtain ⟨b, h1, h2⟩ := map_at h
  obtain ⟨a, h3, h4⟩ := map_at h1
  exact ⟨a, h3, by rw [h2, h4]⟩
theorem items_str {x : List Nat} {i : Nat} {y : D} (h : (x.map fun n => D.t (.str (S [n])))[i]? = some y) : ∃ n, x[i]? = some n ∧ y = .t (.str (S [n])) := map_at h
theorem items_rng {lo hi : Int} {i : Nat} {y : D} (h : ((List.range (hi - lo).toNat).map fun (k : Nat) => D.t (.int (lo + k)))[i]? = some y) : i < (hi - lo).toNat ∧ y = .t (.int (lo + i)) := by
  rw [List.getElem?_map] at h
  by_cases hi' : i < (hi - lo).toNat
  · rw [List.getElem?_range hi'] at h; cases h; exact ⟨hi', rfl⟩
  · rw [List.getElem?_eq_none (by simpa using hi')] at h; cases h
noncomputable def txts (ps : List (List Nat)) : List PyData := ps.map fun l => .str (S l)
noncomputable def WRDS : List (List Nat × Nat) := [([73,78,84,69,71,69,82], 0), ([82,69,65,76], 1), ([68,79,85,66,76,69,80,82,69,67,73,83,73,79,78], 2), ([67,79,77,80,76,69,88], 3), ([76,79,71,73,67,65,76], 4), ([67,72,65,82,65,67,84,69,82], 5)]
noncomputable def wordsPy : List PyData := WRDS.map fun p => .tuple [.str (S p.1), .int p.2]
end P279
end
section
open PySem PySem.W PyProof.Rows PySem.Spec PySem.Calls PySem.Builtin PySem.Builtin.Str
namespace P279
noncomputable def T.yes : T → Prop
  | .ite b _ _ => b = true
  | _ => False
noncomputable def T.no : T → Prop
  | .ite b _ _ => b = false
  | _ => False
noncomputable def T.thn : T → T
  | .ite _ x _ => x
  | _ => .fail
noncomputable def T.els : T → T
  | .ite _ _ y => y
  | _ => .fail
noncomputable def T.asks : T → Prop
  | .ask P _ => P
  | _ => False
noncomputable def T.nxt : T → T
  | .ask _ k => k
  | _ => .fail
noncomputable def T.isOp : T → Bool
  | .op _ _ _ _ => true
  | _ => false
noncomputable def T.isSt : T → Bool
  | .st _ _ _ _ => true
  | _ => false
noncomputable def T.o : T → Op
  | .op o _ _ _ => o
  | _ => .cut [] none none
noncomputable def T.m : T → Loc
  | .op _ m _ _ => m
  | .st _ m _ _ => m
  | _ => []
noncomputable def T.mu : T → Mut
  | .op _ _ μ _ => μ
  | .st _ _ μ _ => μ
  | _ => []
noncomputable def T.k : T → D → Mut → T
  | .op _ _ _ k => k
  | _ => fun _ _ => .fail
noncomputable def T.s : T → Stmt
  | .st s _ _ _ => s
  | _ => .Pass ⟨0, 0, 0, 0⟩
noncomputable def T.ks : T → Fl → Loc → Mut → T
  | .st _ _ _ k => k
  | _ => fun _ _ _ => .fail
noncomputable def Op.fn : Op → Addr
  | .call f _ => f
  | _ => 0
noncomputable def Op.as : Op → List D
  | .call _ ds => ds
  | _ => []
noncomputable def Op.isCall : Op → Bool
  | .call _ _ => true
  | _ => false
noncomputable def T.fn (v : T) : Addr := v.o.fn
noncomputable def T.as (v : T) : List D := v.o.as
noncomputable def T.isCall (v : T) : Bool := v.o.isCall
noncomputable def T.opC : T → (Op → Loc → Mut → (D → Mut → T) → T) → T
  | .op o m μ k, f => f o m μ k
  | _, _ => .fail
noncomputable def T.stC : T → (Stmt → Loc → Mut → (Fl → Loc → Mut → T) → T) → T
  | .st s m μ k, f => f s m μ k
  | _, _ => .fail
theorem opC_eq {v : T} {f : Op → Loc → Mut → (D → Mut → T) → T} (h : v.isOp = true) : v.opC f = f v.o v.m v.mu v.k :=
  T.casesOn (motive := fun v => v.isOp = true → v.opC f = f v.o v.m v.mu v.k) v (fun e => Bool.noConfusion e) (fun _ e => Bool.noConfusion e) (fun _ _ _ e => Bool.noConfusion e) (fun _ _ e => Bool.noConfusion e) (fun _ _ _ e => Bool.noConfusion e) (fun _ _ _ _ _ => rfl) (fun _ _ _ _ e => Bool.noConfusion e) h
theorem stC_eq {v : T} {f : Stmt → Loc → Mut → (Fl → Loc → Mut → T) → T} (h : v.isSt = true) : v.stC f = f v.s v.m v.mu v.ks :=
  T.casesOn (motive := fun v => v.isSt = true → v.stC f = f v.s v.m v.mu v.ks) v (fun e => Bool.noConfusion e) (fun _ e => Bool.noConfusion e) (fun _ _ _ e => Bool.noConfusion e) (fun _ _ e => Bool.noConfusion e) (fun _ _ _ e => Bool.noConfusion e) (fun _ _ _ _ e => Bool.noConfusion e) (fun _ _ _ _ _ => rfl) h
noncomputable def T.kc (v : T) (d : D) : T := v.opC fun _ _ μ k => k d μ
noncomputable def T.rs : T → Bool
  | .raise .lex _ _ => true
  | .raise .syn _ _ => true
  | _ => false
theorem callEq : ∀ {o : Op}, o.isCall = true → o = .call o.fn o.as := fun {o} => Op.casesOn (motive := fun o => o.isCall = true → o = .call o.fn o.as) o (fun _ _ _ => rfl) (fun _ _ e => Bool.noConfusion e) (fun _ _ e => Bool.noConfusion e) (fun _ _ _ e => Bool.noConfusion e) (fun _ _ _ e => Bool.noConfusion e) (fun _ _ _ e => Bool.noConfusion e) (fun _ _ e => Bool.noConfusion e) (fun _ _ _ e => Bool.noConfusion e) (fun _ _ _ e => Bool.noConfusion e) (fun _ e => Bool.noConfusion e)
section
variable {Γ : Fr} {v : T}
theorem good_op (e : v.isOp = true) (h : v.o.Tri Γ v.m v.mu (fun d μ => Good Γ (v.k d μ)) (fun cl μ => Γ.E cl v.m μ)) : Good Γ v :=
  T.casesOn (motive := fun v => v.isOp = true → v.o.Tri Γ v.m v.mu (fun d μ => Good Γ (v.k d μ)) (fun cl μ => Γ.E cl v.m μ) → Good Γ v) v (fun e _ => Bool.noConfusion e) (fun _ e _ => Bool.noConfusion e) (fun _ _ _ e _ => Bool.noConfusion e) (fun _ _ e _ => Bool.noConfusion e) (fun _ _ _ e _ => Bool.noConfusion e) (fun _ _ _ _ _ h => h) (fun _ _ _ _ e _ => Bool.noConfusion e) e h
theorem good_st (e : v.isSt = true) (h : WS Γ.G Γ.c v.s v.m v.mu (fun fl m μ => Good Γ (v.ks fl m μ)) Γ.E) : Good Γ v :=
  T.casesOn (motive := fun v => v.isSt = true → WS Γ.G Γ.c v.s v.m v.mu (fun fl m μ => Good Γ (v.ks fl m μ)) Γ.E → Good Γ v) v (fun e _ => Bool.noConfusion e) (fun _ e _ => Bool.noConfusion e) (fun _ _ _ e _ => Bool.noConfusion e) (fun _ _ e _ => Bool.noConfusion e) (fun _ _ _ e _ => Bool.noConfusion e) (fun _ _ _ _ e _ => Bool.noConfusion e) (fun _ _ _ _ _ h => h) e h
theorem op_k {d : D} {μ : Mut} (g : Good Γ (v.k d μ)) : v.isOp = true :=
  T.casesOn (motive := fun v => Good Γ (v.k d μ) → v.isOp = true) v (fun h => h.elim) (fun _ h => h.elim) (fun _ _ _ h => h.elim) (fun _ _ h => h.elim) (fun _ _ _ h => h.elim) (fun _ _ _ _ _ => rfl) (fun _ _ _ _ h => h.elim) g
theorem op_ex {e : Expr} (h : v.o = .ex e) : v.isOp = true :=
  T.casesOn (motive := fun v => v.o = .ex e → v.isOp = true) v (fun h => nomatch h) (fun _ h => nomatch h) (fun _ _ _ h => nomatch h) (fun _ _ h => nomatch h) (fun _ _ _ h => nomatch h) (fun _ _ _ _ _ => rfl) (fun _ _ _ _ h => nomatch h) h
theorem op_call (e : v.isCall = true) : v.isOp = true :=
  T.casesOn (motive := fun v => v.isCall = true → v.isOp = true) v (fun h => Bool.noConfusion h) (fun _ h => Bool.noConfusion h) (fun _ _ _ h => Bool.noConfusion h) (fun _ _ h => Bool.noConfusion h) (fun _ _ _ h => Bool.noConfusion h) (fun _ _ _ _ _ => rfl) (fun _ _ _ _ h => Bool.noConfusion h) e
theorem go_let (h : let w := v; Good Γ w) : Good Γ v := h
theorem go_t (h : T.yes v) (g : Good Γ v.thn) : Good Γ v :=
  T.casesOn (motive := fun v => T.yes v → Good Γ v.thn → Good Γ v) v (fun h _ => h.elim) (fun _ h _ => h.elim) (fun _ _ _ h g => ⟨fun _ => g, fun e => Bool.noConfusion (Eq.trans (Eq.symm h) e)⟩) (fun _ _ h _ => h.elim) (fun _ _ _ h _ => h.elim) (fun _ _ _ _ h _ => h.elim) (fun _ _ _ _ h _ => h.elim) h g
theorem go_f (h : T.no v) (g : Good Γ v.els) : Good Γ v :=
  T.casesOn (motive := fun v => T.no v → Good Γ v.els → Good Γ v) v (fun h _ => h.elim) (fun _ h _ => h.elim) (fun _ _ _ h g => ⟨fun e => Bool.noConfusion (Eq.trans (Eq.symm h) e), fun _ => g⟩) (fun _ _ h _ => h.elim) (fun _ _ _ h _ => h.elim) (fun _ _ _ _ h _ => h.elim) (fun _ _ _ _ h _ => h.elim) h g
theorem yes {b : Bool} (h : b = true) : b = true := h
theorem no {b : Bool} (h : b = false) : b = false := h
theorem go_ask (h : T.asks v) (g : Good Γ v.nxt) : Good Γ v :=
  T.casesOn (motive := fun v => T.asks v → Good Γ v.nxt → Good Γ v) v (fun h _ => h.elim) (fun _ h _ => h.elim) (fun _ _ _ h _ => h.elim) (fun _ _ h g => ⟨h, g⟩) (fun _ _ _ h _ => h.elim) (fun _ _ _ _ h _ => h.elim) (fun _ _ _ _ h _ => h.elim) h g
theorem go_opM (d : D) (μ' : Mut) (h : ∀ Q, Q d μ' → v.o.Tri Γ v.m v.mu Q (fun cl μ => Γ.E cl v.m μ)) (g : Good Γ (v.k d μ')) : Good Γ v := good_op (op_k g) (h _ g)
theorem go_op (d : D) (h : ∀ Q, Q d v.mu → v.o.Tri Γ v.m v.mu Q (fun cl μ => Γ.E cl v.m μ)) (g : Good Γ (v.k d v.mu)) : Good Γ v := good_op (op_k g) (h _ g)
theorem go_slice {x y : List Nat} {lo hi : Option Int} (hl : x.length ≤ 1000) (e : slc x lo hi = y) (g : Good Γ (v.nxt.k (.t (.str (S y))) v.nxt.mu)) (h1 : v.asks = (x.length ≤ 16777216) := by exact rfl) (h2 : v.nxt.o = .cut x lo hi := by exact rfl) : Good Γ v :=
  go_ask (by rw [h1]; exact Nat.le_trans hl (by decide)) (go_op _ (fun Q h => by rw [h2]; show Q (.t (.str (S (slc x lo hi)))) _; rw [e]; exact h) g)
theorem fz {a : Addr} : a = a ∧ a ∉ List.map (·.1) ([] : Mut) := ⟨rfl, nofun⟩
theorem go_append {a : Addr} {ds : List PyData} {q : PyData} (μ' : Mut) (hl : v.mu.lookup a = some ds) (hs : ds.length ≤ 1000000) (hu : v.mu.upd a (ds ++ [q]) = μ') (g : Good Γ (v.k (.t .none) μ')) (e : v.o = .blt "list.append" [.loc a, .t q] := by exact rfl) : Good Γ v :=
  go_opM _ μ' (fun Q h => by rw [e]; exact SL_append hl hs (by rw [hu]; exact h)) g
theorem go_app {a : Addr} {ds : List PyData} {q : PyData} (hs : ds.length ≤ 1000000) (g : Good Γ (v.k (.t .none) [(a, ds ++ [q])])) (h : v.mu = [(a, ds)] := by exact rfl) (e : v.o = .blt "list.append" [.loc a, .t q] := by exact rfl) : Good Γ v :=
  go_append _ (by rw [h]; exact lookup_head) hs (by rw [h]; exact upd_head (by simp)) g e
theorem tyD_of {μ : Mut} {a : Addr} {ds : List PyData} (h : μ.lookup a = some ds) : tyD μ (.loc a) = some "list" := if_pos (List.mem_map_of_mem (lookup_mem h))
theorem go_new (h : ∀ a, a ∉ v.mu.map (·.1) → Good Γ (v.k (.loc a) ((a, []) :: v.mu))) (e : ∃ ps, v.o = .ex (.List [] ps) := by exact ⟨_, rfl⟩) (ho : v.isOp = true := by exact rfl) : Good Γ v :=
  good_op ho (by obtain ⟨ps, e⟩ := e; rw [e]; exact WE_ListMut (WEs_nil ⟨[], rfl, by decide, h⟩))
theorem go_list (g : Good Γ (v.k (.t (.list [])) v.mu)) (e : ∃ ps, v.o = .ex (.List [] ps) := by exact ⟨_, rfl⟩) : Good Γ v :=
  good_op (op_k g) (by obtain ⟨ps, e⟩ := e; rw [e]; exact WE_List (WEs_nil ⟨[], rfl, by decide, g⟩))
theorem go_put {a : Addr} {ds : List PyData} {j : Nat} {q : PyData} (μ' : Mut) (hl : v.mu.lookup a = some ds) (hs : ds.length ≤ 1000000) (hj : j < ds.length) (hu : v.mu.upd a (ds.set j q) = μ') (g : Good Γ (v.k (.t .none) μ')) (e : v.o = .put (.loc a) (.t (.int (j : Nat))) q := by exact rfl) : Good Γ v :=
  go_opM _ μ' (fun Q h => by rw [e]; exact ⟨a, ds, j, rfl, hl, hs, .inl ⟨rfl, hj⟩, by rw [hu]; exact h⟩) g
theorem go_litem {a : Addr} {ds : List PyData} {i : Nat} {q : PyData} (hl : v.mu.lookup a = some ds) (hx : ds[i]? = some q) (hi : i ≤ 2000) (g : Good Γ (v.k (.t q) v.mu)) (e : v.o = .item (.loc a) (.t (.int (i : Int))) := by exact rfl) : Good Γ v :=
  go_op _ (fun Q h => by rw [e]; exact SI_list hl (Int.natCast_nonneg _) (by omega) (by rw [Int.toNat_natCast]; exact hx) h) g
structure Wk (Γ : Fr) (G : Cfg) (n : Nat) : Prop where
  g : Γ.G = G
  r : Room Γ.c.A n
structure Fin (Γ : Fr) (k : Fl → T) (r : Option D) : Prop where
  ret : ∀ {d : D}, r = some d → Good Γ (k (.ret d))
  nxt : r = some (.t .none) → Good Γ (k .next)
  err : ∀ {cl : Cl} {m : Loc} {μ : Mut}, r = none → cl ≠ .chk → Γ.E cl m μ
theorem SL_permQ {G : Cfg} {c : Act} {t : List Value → Sem Value} {ds : List D} {m : Loc} {μ : Mut} {Q : D → Mut → Prop} {E : Cl → Mut → Prop} (h : SL G c t ds m μ (fun d μ' => ∃ μ₂, μ'.Perm μ₂ ∧ Q d μ₂) E) : SL G c t ds m μ Q E := fun B s vs I hv =>
  (h B s vs I hv).settle fun v d μ₁ B₁ s₁ I₁ R h₁ => h₁.elim fun μ₂ h => ⟨d, μ₂, B₁, I₁.perm h.1, Trans.perm (Trans.refl ..) h.1, R, h.2⟩
theorem go_callP {G : Cfg} {n k : Nat} (μc μr : Mut) {Qc : D → Mut → Prop} {Ec : Cl → Mut → Prop} (hf : CallOK G v.fn v.as μc k Qc Ec) (W : Wk Γ G n) (hp : v.mu.Perm (μc ++ μr)) (hQ : ∀ d μ', Qc d μ' → ∃ μ₂, (μ' ++ μr).Perm μ₂ ∧ Good Γ (v.k d μ₂)) (hE : ∀ cl μ', Ec cl μ' → Γ.E cl v.m (μ' ++ μr)) (hv : T.isCall v = true := by exact rfl) (hk : k ≤ n := by decide) : Good Γ v :=
  good_op (op_call hv) (by rw [callEq hv]; rw [← W.g] at hf; exact SL_permQ fun B s vs I hv => SL_call (Q := fun d μ => ∃ μ₂, μ.Perm μ₂ ∧ Good Γ (v.k d μ₂)) (E := fun cl μ => Γ.E cl v.m μ) hp W.r (CallOK.mono hf hk hQ hE) B s vs I hv)
theorem go_callM {G : Cfg} {n k : Nat} (μc μr : Mut) {Qc : D → Mut → Prop} {Ec : Cl → Mut → Prop} (hf : CallOK G v.fn v.as μc k Qc Ec) (W : Wk Γ G n) (hp : v.mu.Perm (μc ++ μr)) (hQ : ∀ d μ', Qc d μ' → Good Γ (v.k d (μ' ++ μr))) (hE : ∀ cl μ', Ec cl μ' → Γ.E cl v.m (μ' ++ μr)) (hv : T.isCall v = true := by exact rfl) (hk : k ≤ n := by decide) : Good Γ v :=
  go_callP μc μr hf W hp (fun d μ' h => ⟨_, List.Perm.refl _, hQ d μ' h⟩) hE hv hk
theorem go_callR {G : Cfg} {n k : Nat} {kb : Fl → T} {r r' : Option D} (hf : Ret G v.fn v.as k r') (W : Wk Γ G n) (F : Fin Γ kb r) (h1 : ∀ d, r' = some d → Good Γ (v.kc d)) (h2 : r' = none → r = none) (hv : T.isCall v = true := by exact rfl) (hk : k ≤ n := by decide) : Good Γ v :=
  go_callM [] v.mu hf W (List.Perm.refl _) (fun d _ h => by have g := h1 d h.2; rw [T.kc, opC_eq (op_call hv)] at g; rw [h.1]; exact g) (fun cl _ h => F.err (h2 h.2.1) h.2.2) hv hk
theorem go_call {G : Cfg} {n k : Nat} {d : D} (hf : Ret G v.fn v.as k (some d)) (W : Wk Γ G n) (g : Good Γ (v.kc d)) (hv : T.isCall v = true := by exact rfl) (hk : k ≤ n := by decide) : Good Γ v :=
  go_callM [] v.mu hf W (List.Perm.refl _) (fun d _ h => by rw [T.kc, opC_eq (op_call hv)] at g; rw [h.1, ← Option.some.inj h.2]; exact g) (fun cl _ h => nomatch h.2.1) hv hk
theorem go_callN {G : Cfg} {n k : Nat} {kb : Fl → T} {r : Option D} (hf : Ret G v.fn v.as k none) (W : Wk Γ G n) (F : Fin Γ kb r) (e : r = none) (hv : T.isCall v = true := by exact rfl) (hk : k ≤ n := by decide) : Good Γ v :=
  go_callR hf W F (fun _ h => nomatch h) (fun _ => e) hv hk
theorem go_tail {G : Cfg} {n k : Nat} {kb : Fl → T} {r : Option D} (hf : Ret G v.fn v.as k r) (W : Wk Γ G n) (F : Fin Γ kb r) (hd : ∀ d, v.kc d = kb (.ret d) := by intro _; exact rfl) (hv : T.isCall v = true := by exact rfl) (hk : k ≤ n := by decide) : Good Γ v :=
  go_callR hf W F (fun d h => by rw [hd]; exact F.ret h) id hv hk
theorem rs_eq (e : v.rs = true) : ∃ cl m μ, v = .raise cl m μ ∧ cl ≠ .chk :=
  T.casesOn (motive := fun v => v.rs = true → ∃ cl m μ, v = .raise cl m μ ∧ cl ≠ .chk) v (fun h => Bool.noConfusion h) (fun _ h => Bool.noConfusion h) (fun _ _ _ h => Bool.noConfusion h) (fun _ _ h => Bool.noConfusion h) (fun cl m μ => Cl.casesOn (motive := fun cl => T.rs (.raise cl m μ) = true → ∃ cl' m' μ', T.raise cl m μ = .raise cl' m' μ' ∧ cl' ≠ .chk) cl (fun _ => ⟨_, _, _, rfl, nofun⟩) (fun _ => ⟨_, _, _, rfl, nofun⟩) (fun h => Bool.noConfusion h)) (fun _ _ _ _ h => Bool.noConfusion h) (fun _ _ _ _ h => Bool.noConfusion h) e
theorem go_raise {kb : Fl → T} {r : Option D} (F : Fin Γ kb r) (e : r = none) (hv : v.rs = true := by exact rfl) : Good Γ v := by
  obtain ⟨cl, m, μ, e', h⟩ := rs_eq hv
  rw [e']; exact F.err e h
end
structure Own (G : Cfg) (p : Params) : Prop where
  ex : ∃ w h₀ mg mb, G = GG w h₀ mg mb ∧ w.params = p
  gf : GF G
theorem Own.K {G : Cfg} {p : Params} (O : Own G p) : G.K = KK p := by
  obtain ⟨w, h₀, mg, mb, e, rfl⟩ := O.ex
  rw [e]; rfl
theorem kinds_cell {x : Str} {sc : List (Str × Ent)} (h : sc.lookup x = some .cell) : ∃ y ∈ kinds sc, y.2 = .cell := ⟨(x, .cell), List.mem_map_of_mem (f := fun x : Str × Ent => (x.1, x.2.kind)) (lk_mem h), rfl⟩
theorem no_cells {sc : List (Str × Ent)} (h : ∀ y ∈ kinds sc, y.2 ≠ .cell) {P : Str → Prop} : ∀ x, sc.lookup x = some .cell → P x := fun x hx => by
  obtain ⟨y, hy, e⟩ := kinds_cell hx
  exact absurd e (h y hy)
theorem inst_cls' {w : World} {h₀ : Heap} {mg mb : Str → Option Value} : InstCls (GG w h₀ mg mb).K (GG w h₀ mg mb).C := ⟨fun name => by rfl, by rfl, by rfl, by rfl, by rfl, by rfl⟩
theorem Own.inst {G : Cfg} {p : Params} (O : Own G p) : InstCls G.K G.C := by
  obtain ⟨w, h₀, mg, mb, rfl, rfl⟩ := O.ex
  exact inst_cls'
theorem call_body {G : Cfg} {p : Params} (O : Own G p) {name qual : Str} {params : Arguments} {body : List Stmt} {scope : Scope} {dV kV doc pm cdv ct oc : Value} {an od : Option Addr} {osl : Array (Option Value)} {f : Addr} {ds : List D} {n : Nat} {μ : Mut} {Q : D → Mut → Prop} {E : Cl → Mut → Prop} (names : List Str)
    (sc : List (Str × Ent)) (ho : (KK p).lookup f = some ⟨oc, od, .func (fnOf name qual params body scope dV kV doc pm an cdv ct), osl⟩) (hcd : codeIn (KK p) cdv qual = true)
    (hbind : ∀ vals : List Value, vals.length = names.length → bindArgs (fnOf name qual params body scope dV kV doc pm an cdv ct) ⟨vals, []⟩ = pure (names.zip vals))
    (hlen : ds.length = names.length) (hnd : names.Nodup) (hloc : ∀ x ∈ names, scope.names.lookup x = some .local) (hcell : ∀ x ∈ scope.names, x.2 ≠ .cell)
    (hdb : sc.lookup ("__debug__" : Str) = none) (hsc : scope.names = kinds sc) (hall : AllOk G sc)
    (h : ∀ (Γ : Fr) (k : Fl → Mut → T), Γ.Ok sc → Wk Γ G n → (∀ fl μ', Q (flRet fl) μ' → Good Γ (k fl μ')) → (∀ cl m μ', E cl μ' → Γ.E cl m μ') → Good Γ (vc sc 99 (.ss body (names.zip ds) μ fun fl _ μ => k fl μ)))
    (hco : scope.isCoroutine = false := by rfl) (hgen : scope.isGenerator = false := by rfl) (hk : scope.kind = .function := by rfl) : CallOK G f ds μ (n + 1) Q E := by
  rw [← O.K] at ho hcd
  refine CallOK.of_body names ho hcd hbind hlen hnd hloc hcell (fun A fr L hr => ?_) hco hgen hk
  have ok : Fr.Ok ⟨G, actOf A fr qual scope L f cdv, fun cl _ μ => E cl μ⟩ sc := ⟨hsc, hall, hdb, by unfold interactive; rw [show (actOf A fr qual scope L f cdv).env.scope.kind = _ from hk]; rfl, O.inst, no_cells (hsc ▸ hcell)⟩
  exact vc_sound ok 99 _ (h ⟨G, actOf A fr qual scope L f cdv, fun cl _ μ => E cl μ⟩ (fun fl μ => .done (Q (flRet fl) μ)) ok ⟨rfl, hr⟩ (fun _ _ h => h) (fun _ _ _ h => h))
noncomputable def isCellE : Ent → Bool
  | .cell => true
  | _ => false
theorem onlycell {cn x : Str} {sc : List (Str × Ent)} (H : sc.all (fun e => !isCellE e.2 || decide (e.1 = cn)) = true) (h : sc.lookup x = some .cell) : x = cn := of_decide_eq_true (show decide (x = cn) = true from List.all_eq_true.mp H _ (lk_mem h))
theorem callC_body {G : Cfg} {p : Params} (O : Own G p) {name qual : Str} {params : Arguments} {body : List Stmt} {scope : Scope} {dV kV doc pm cdv ct oc : Value} {an od : Option Addr} {osl : Array (Option Value)} {f : Addr} {ds : List D} {n : Nat} {μ : Mut} {Q : D → Mut → Prop} {E : Cl → Mut → Prop} (names : List Str) (cn : Str)
    (sc : List (Str × Ent)) (ho : (KK p).lookup f = some ⟨oc, od, .func (fnOf name qual params body scope dV kV doc pm an cdv ct), osl⟩) (hcd : codeIn (KK p) cdv qual = true)
    (hbind : ∀ vals : List Value, vals.length = names.length → bindArgs (fnOf name qual params body scope dV kV doc pm an cdv ct) ⟨vals, []⟩ = pure (names.zip vals))
    (hlen : ds.length = names.length) (hnd : names.Nodup) (hcs : ∀ L, cellsFrom (L + 1) scope.names [] = [(cn, L + 1)]) (hloc : ∀ x ∈ names, scope.names.lookup x = some .local ∨ (scope.names.lookup x = some .cell ∧ x = cn))
    (hdb : sc.lookup ("__debug__" : Str) = none) (hsc : scope.names = kinds sc) (hcc : sc.all (fun e => !isCellE e.2 || decide (e.1 = cn)) = true) (hall : AllOk G sc)
    (h : ∀ (Γ : Fr) (k : Fl → Mut → T) (A : Around) (fr : List Env) (L : Addr), Γ.c = actOfC A fr qual scope L f cdv → Γ.Ok sc → Wk Γ G n → (∀ fl μ', Q (flRet fl) μ' → Good Γ (k fl μ')) → (∀ cl m μ', E cl μ' → Γ.E cl m μ') → Good Γ (vc sc 99 (.ss body (names.zip ds) μ fun fl _ μ => k fl μ)))
    (hco : scope.isCoroutine = false := by rfl) (hgen : scope.isGenerator = false := by rfl) (hk : scope.kind = .function := by rfl) : CallOK G f ds μ (n + 1) Q E := by
  rw [← O.K] at ho hcd
  refine CallOK.of_bodyC names cn ho hcd hbind hlen hnd hcs hloc (fun A fr L hr => ?_) hco hgen hk
  have ok : Fr.Ok ⟨G, actOfC A fr qual scope L f cdv, fun cl _ μ => E cl μ⟩ sc := ⟨hsc, hall, hdb, by unfold interactive; rw [show (actOfC A fr qual scope L f cdv).env.scope.kind = _ from hk]; rfl, O.inst, fun x hx => by
    rw [onlycell hcc hx]
    refine ⟨L + 1, ?_, by simp⟩
    show List.lookup cn (cellsFrom (L + 1) scope.names []) = _
    rw [hcs]; simp⟩
  exact vc_sound ok 99 _ (h ⟨G, actOfC A fr qual scope L f cdv, fun cl _ μ => E cl μ⟩ (fun fl μ => .done (Q (flRet fl) μ)) A fr L rfl ok ⟨rfl, hr⟩ (fun _ _ h => h) (fun _ _ _ h => h))
theorem retC_body {G : Cfg} {p : Params} (O : Own G p) {name qual : Str} {params : Arguments} {body : List Stmt} {scope : Scope} {dV kV doc pm cdv ct oc : Value} {an od : Option Addr} {osl : Array (Option Value)} {f : Addr} {ds : List D} {n : Nat} {r : Option D} (names : List Str) (cn : Str)
    (sc : List (Str × Ent)) (ho : (KK p).lookup f = some ⟨oc, od, .func (fnOf name qual params body scope dV kV doc pm an cdv ct), osl⟩) (hcd : codeIn (KK p) cdv qual = true)
    (hbind : ∀ vals : List Value, vals.length = names.length → bindArgs (fnOf name qual params body scope dV kV doc pm an cdv ct) ⟨vals, []⟩ = pure (names.zip vals))
    (hlen : ds.length = names.length) (hnd : names.Nodup) (hcs : ∀ L, cellsFrom (L + 1) scope.names [] = [(cn, L + 1)]) (hloc : ∀ x ∈ names, scope.names.lookup x = some .local ∨ (scope.names.lookup x = some .cell ∧ x = cn))
    (hdb : sc.lookup ("__debug__" : Str) = none) (hsc : scope.names = kinds sc) (hcc : sc.all (fun e => !isCellE e.2 || decide (e.1 = cn)) = true) (hall : AllOk G sc)
    (h : ∀ (Γ : Fr) (k : Fl → T) (A : Around) (fr : List Env) (L : Addr), Γ.c = actOfC A fr qual scope L f cdv → Γ.Ok sc → Wk Γ G n → Fin Γ k r → Good Γ (vc sc 99 (.ss body (names.zip ds) [] fun fl _ _ => k fl)))
    (hco : scope.isCoroutine = false := by rfl) (hgen : scope.isGenerator = false := by rfl) (hk : scope.kind = .function := by rfl) : Ret G f ds (n + 1) r := by
  rw [← O.K] at ho hcd
  refine CallOK.dropped (CallOK.of_bodyC names cn ho hcd hbind hlen hnd hcs hloc (fun A fr L hr => ?_) hco hgen hk)
  have ok : Fr.Ok ⟨G, actOfC A fr qual scope L f cdv, fun cl _ _ => r = none ∧ cl ≠ .chk⟩ sc := ⟨hsc, hall, hdb, by unfold interactive; rw [show (actOfC A fr qual scope L f cdv).env.scope.kind = _ from hk]; rfl, O.inst, fun x hx => by
    rw [onlycell hcc hx]
    refine ⟨L + 1, ?_, by simp⟩
    show List.lookup cn (cellsFrom (L + 1) scope.names []) = _
    rw [hcs]; simp⟩
  have := vc_sound ok 99 _ (h ⟨G, actOfC A fr qual scope L f cdv, fun cl _ _ => r = none ∧ cl ≠ .chk⟩ (fun fl => .done (r = some (flRet fl))) A fr L rfl ok ⟨rfl, hr⟩ ⟨id, id, fun h hk => ⟨h, hk⟩⟩)
  exact WSs.mono this (fun fl m' μ' hq => ⟨[], List.nil_sublist _, rfl, hq⟩) fun k m' μ' hq => ⟨[], List.nil_sublist _, rfl, hq⟩
theorem ret_body {G : Cfg} {p : Params} (O : Own G p) {name qual : Str} {params : Arguments} {body : List Stmt} {scope : Scope} {dV kV doc pm cdv ct oc : Value} {an od : Option Addr} {osl : Array (Option Value)} {f : Addr} {ds : List D} {n : Nat} {r : Option D} (names : List Str)
    (sc : List (Str × Ent)) (ho : (KK p).lookup f = some ⟨oc, od, .func (fnOf name qual params body scope dV kV doc pm an cdv ct), osl⟩) (hcd : codeIn (KK p) cdv qual = true)
    (hbind : ∀ vals : List Value, vals.length = names.length → bindArgs (fnOf name qual params body scope dV kV doc pm an cdv ct) ⟨vals, []⟩ = pure (names.zip vals))
    (hlen : ds.length = names.length) (hnd : names.Nodup) (hloc : ∀ x ∈ names, scope.names.lookup x = some .local) (hcell : ∀ x ∈ scope.names, x.2 ≠ .cell)
    (hdb : sc.lookup ("__debug__" : Str) = none) (hsc : scope.names = kinds sc) (hall : AllOk G sc)
    (h : ∀ (Γ : Fr) (k : Fl → T), Γ.Ok sc → Wk Γ G n → Fin Γ k r → Good Γ (vc sc 99 (.ss body (names.zip ds) [] fun fl _ _ => k fl)))
    (hco : scope.isCoroutine = false := by rfl) (hgen : scope.isGenerator = false := by rfl) (hk : scope.kind = .function := by rfl) : Ret G f ds (n + 1) r := by
  rw [← O.K] at ho hcd
  refine Ret.of_body names ho hcd hbind hlen hnd hloc hcell (fun A fr L hr => ?_) hco hgen hk
  have ok : Fr.Ok ⟨G, actOf A fr qual scope L f cdv, fun cl _ _ => r = none ∧ cl ≠ .chk⟩ sc := ⟨hsc, hall, hdb, by unfold interactive; rw [show (actOf A fr qual scope L f cdv).env.scope.kind = _ from hk]; rfl, O.inst, no_cells (hsc ▸ hcell)⟩
  have := vc_sound ok 99 _ (h ⟨G, actOf A fr qual scope L f cdv, fun cl _ _ => r = none ∧ cl ≠ .chk⟩ (fun fl => .done (r = some (flRet fl))) ok ⟨rfl, hr⟩ ⟨id, id, fun h hk => ⟨h, hk⟩⟩)
  exact this
end P279
end
section
open PySem PySem.W PyProof.Rows PySem.Spec PySem.Calls PySem.Builtin PySem.Builtin.Str
namespace P279
noncomputable def lk (ag : Loc → Mut → T) (k : Fl → Loc → Mut → T) (f : Fl) (m : Loc) (μ : Mut) : T := match f with
  | .next => ag m μ
  | .cont => ag m μ
  | .brk => k .next m μ
  | .ret d => k (.ret d) m μ
noncomputable def noE : Expr := .Constant .none 0 ⟨0, 0, 0, 0⟩
noncomputable def sV : Stmt → Expr × Expr × List Stmt × List Stmt × Pos
  | .While t b _ p => (t, noE, b, [], p)
  | .For t it b _ p => (t, it, b, [], p)
  | .If t b o p => (t, noE, b, o, p)
  | .Try b _ _ _ p => (noE, noE, b, [], p)
  | _ => (noE, noE, [], [], ⟨0, 0, 0, 0⟩)
noncomputable def sE (s : Stmt) : Expr := (sV s).1
noncomputable def sI (s : Stmt) : Expr := (sV s).2.1
noncomputable def sB (s : Stmt) : List Stmt := (sV s).2.2.1
noncomputable def sO (s : Stmt) : List Stmt := (sV s).2.2.2.1
noncomputable def Stmt.pos' (s : Stmt) : Pos := (sV s).2.2.2.2
noncomputable def oE : Op → Expr
  | .ex e => e
  | _ => noE
noncomputable def eV : Expr → List Expr × Pos
  | .List es p => (es, p)
  | .Call _ es _ p => (es, p)
  | _ => ([], ⟨0, 0, 0, 0⟩)
noncomputable def eL (e : Expr) : List Expr := (eV e).1
noncomputable def ePos (e : Expr) : Pos := (eV e).2
noncomputable def T.turnW (sc : List (Str × Ent)) (v : T) (ag : Loc → Mut → T) (m : Loc) (μ : Mut) : T := v.stC fun s _ _ k => vc sc 99 (.b (sE s) m μ (fun μ₁ => vc sc 99 (.ss (sB s) m μ₁ (lk ag k))) (fun μ₁ => k .next m μ₁))
noncomputable def T.turnF (sc : List (Str × Ent)) (v : T) (x : D) (ag : Loc → Mut → T) (m : Loc) (μ : Mut) : T := v.stC fun s _ _ k => match asg sc (sE s) x m with
  | some m₂ => vc sc 99 (.ss (sB s) m₂ μ (lk ag k))
  | none => .fail
noncomputable def T.iter (sc : List (Str × Ent)) (v : T) (P : D → Mut → Prop) : T := v.stC fun s m μ _ => vc sc 99 (.e (sI s) m μ fun d μ₁ => .done (P d μ₁))
section
variable {Γ : Fr} {sc : List (Str × Ent)} {v : T} {σ : Type}
theorem zip_le {ks : List Str} {ds : List D} {m : Loc} (h : ks.map m.get = ds.map some) : Loc.Le (ks.zip ds) m := by
  intro x d hx
  induction ks generalizing ds with
  | nil => cases hx
  | cons y ks ih =>
    cases ds with
    | nil => cases hx
    | cons e ds =>
      injection h with h1 h2
      have hx' : (if x = y then some e else Loc.get (ks.zip ds) x) = some d := hx
      split at hx'
      · rename_i hxy; cases hx'; rw [hxy]; exact h1
      · exact ih h2 hx'
theorem WSs_settle {G : Cfg} {c : Act} {sts : List Stmt} {m : Loc} {μ : Mut} {Q : Fl → Loc → Mut → Prop} {E : Cl → Loc → Mut → Prop} (h : WSs G c sts m μ (fun f m' μ' => ∃ m'' μ'', Loc.Le m'' m' ∧ μ''.Sublist μ' ∧ Q f m'' μ'') E) : WSs G c sts m μ Q E :=
  fun B s I Qr Er hp q e => h B s I Qr Er hp (fun a b m' μ' B' s' T I' R ⟨m'', μ'', hl, hs, x⟩ => q a b m'' μ'' B' s' (T.drop hs) ((I'.weaken hl).drop hs) R x) e
theorem le_refl {m : Loc} : Loc.Le m m := fun _ _ h => h
theorem lk_sound {st : List Stmt} {m : Loc} {μ : Mut} {k : Fl → Loc → Mut → T} {J : Loc → Mut → Prop} {ag : Loc → Mut → T} (hag : ∀ m μ, Good Γ (ag m μ) → ∃ m' μ', Loc.Le m' m ∧ μ'.Sublist μ ∧ J m' μ') (h : WSs Γ.G Γ.c st m μ (fun f m μ => Good Γ (lk ag k f m μ)) Γ.E) :
    WSs Γ.G Γ.c st m μ (fun f m' μ' => match f with | .next | .cont => J m' μ' | .brk => Γ.R k .next m' μ' | .ret d => Γ.R k (.ret d) m' μ') Γ.E := by
  refine WSs_settle (WSs.mono h (fun f m μ h => ?_) fun _ _ _ x => x)
  cases f with
  | next => exact hag _ _ h
  | cont => exact hag _ _ h
  | brk => exact ⟨m, μ, le_refl, List.Sublist.refl _, h⟩
  | ret d => exact ⟨m, μ, le_refl, List.Sublist.refl _, h⟩
noncomputable def jk (ag : Loc → Mut → T) (k : Fl → Loc → Mut → T) (f : Fl) (m : Loc) (μ : Mut) : T := match f with
  | .next => ag m μ
  | f => k f m μ
noncomputable def T.fork (sc : List (Str × Ent)) (v : T) (ag : Loc → Mut → T) : T := v.stC fun s m μ k => vif (vc sc 99) (sE s) (sB s) (sO s) m μ (jk ag k)
theorem WS_settle {G : Cfg} {c : Act} {s : Stmt} {m : Loc} {μ : Mut} {Q : Fl → Loc → Mut → Prop} {E : Cl → Loc → Mut → Prop} (h : WS G c s m μ (fun f m' μ' => ∃ m'', Loc.Le m'' m' ∧ Q f m'' μ') E) : WS G c s m μ Q E :=
  fun B s I Qr Er hp q e => h B s I Qr Er hp (fun a b m' μ' B' s' T I' R x => x.elim fun m'' x => q a b m'' μ' B' s' T (I'.weaken x.1) R x.2) e
theorem settle_jk {P : σ → Prop} {ks : List Str} {vals : σ → List D} {M : σ → Mut} {k : Fl → Loc → Mut → T} (g : ∀ s, P s → Good Γ (k .next (ks.zip (vals s)) (M s))) (f : Fl) (m : Loc) (μ : Mut)
    (h : Good Γ (jk (fun m μ => .done (∃ s, P s ∧ ks.map m.get = (vals s).map some ∧ μ = M s)) k f m μ)) : ∃ m'', Loc.Le m'' m ∧ Good Γ (k f m'' μ) :=
  Fl.casesOn (motive := fun f => Good Γ (jk (fun m μ => .done (∃ s, P s ∧ ks.map m.get = (vals s).map some ∧ μ = M s)) k f m μ) → ∃ m'', Loc.Le m'' m ∧ Good Γ (k f m'' μ)) f
    (fun h => h.elim fun s h => ⟨_, zip_le h.2.1, h.2.2 ▸ g s h.1⟩) (fun h => ⟨m, le_refl, h⟩) (fun h => ⟨m, le_refl, h⟩) (fun _ h => ⟨m, le_refl, h⟩) h
theorem go_fork (ok : Γ.Ok sc) (ks : List Str) (P : σ → Prop) (vals : σ → List D) (M : σ → Mut)
    (h : ∀ (ag : Loc → Mut → T), (∀ s m μ, P s → ks.map m.get = (vals s).map some → μ = M s → Good Γ (ag m μ)) → Good Γ (v.fork sc ag))
    (g : ∀ s, P s → Good Γ (v.ks .next (ks.zip (vals s)) (M s))) (ho : v.isSt = true := by exact rfl) (hv : v.s = .If (sE v.s) (sB v.s) (sO v.s) (Stmt.pos' v.s) := by exact rfl) : Good Γ v :=
  good_st ho (by
    have h := h (fun m μ => .done (∃ s, P s ∧ ks.map m.get = (vals s).map some ∧ μ = M s)) fun s m μ h1 h2 h3 => ⟨s, h1, h2, h3⟩
    rw [T.fork, stC_eq ho] at h
    rw [hv]
    exact WS_settle (WS.mono (vif_sound (vc_sound ok 99) h) (settle_jk g) fun _ _ _ x => x))
theorem go_if (ok : Γ.Ok sc) (h : Good Γ (v.fork sc (v.ks .next))) (ho : v.isSt = true := by exact rfl) (hv : v.s = .If (sE v.s) (sB v.s) (sO v.s) (Stmt.pos' v.s) := by exact rfl) : Good Γ v :=
  good_st ho (by
    rw [T.fork, stC_eq ho] at h
    rw [hv]
    refine WS.mono (vif_sound (vc_sound ok 99) h) (fun f m μ h => ?_) fun _ _ _ x => x
    exact Fl.casesOn (motive := fun f => Good Γ (jk (v.ks .next) v.ks f m μ) → Good Γ (v.ks f m μ)) f id id id (fun _ => id) h)
noncomputable def T.ev (sc : List (Str × Ent)) (v : T) (k : D → Mut → T) : T := v.opC fun o m μ _ => vc sc 99 (.e (oE o) m μ k)
theorem go_valG (ok : Γ.Ok sc) (P : D → Mut → Prop) (h : ∀ ag : D → Mut → T, (∀ d μ, P d μ → Good Γ (ag d μ)) → Good Γ (v.ev sc ag)) (g : ∀ d μ, P d μ → Good Γ (v.k d μ)) (ho : v.isOp = true := by exact rfl) (hv : v.o = .ex (oE v.o) := by exact rfl) : Good Γ v :=
  good_op ho (by
    have h := h (fun d' μ' => .done (P d' μ')) fun _ _ h => h
    rw [T.ev, opC_eq ho] at h
    rw [hv]; exact WE.mono (vc_sound ok 99 (.e (oE v.o) v.m v.mu fun d' μ' => .done (P d' μ')) h) (fun d' μ' h => g d' μ' h) fun _ _ x => x)
theorem go_val (ok : Γ.Ok sc) (d : D) (h : ∀ ag : D → Mut → T, Good Γ (ag d v.mu) → Good Γ (v.ev sc ag)) (g : Good Γ (v.k d v.mu)) (ho : v.isOp = true := by exact rfl) (hv : v.o = .ex (oE v.o) := by exact rfl) : Good Γ v :=
  go_valG ok (fun d' μ' => d' = d ∧ μ' = v.mu) (fun ag hag => h ag (hag _ _ ⟨rfl, rfl⟩)) (fun _ _ h => by rw [h.1, h.2]; exact g) ho hv
theorem go_while (ok : Γ.Ok sc) (ks : List Str) (P : Nat → σ → Prop) (vals : σ → List D) (M : σ → Mut)
    (h0 : ∃ n s, P n s ∧ ks.map v.m.get = (vals s).map some ∧ v.mu = M s)
    (turn : ∀ n s (ag : Loc → Mut → T), P n s → (∀ n' s' m μ, n' < n → P n' s' → ks.map m.get = (vals s').map some → μ = M s' → Good Γ (ag m μ)) → Good Γ (v.turnW sc ag (ks.zip (vals s)) (M s)))
    (ho : v.isSt = true := by exact rfl) (hv : v.s = .While (sE v.s) (sB v.s) [] (Stmt.pos' v.s) := by exact rfl) : Good Γ v :=
  good_st ho (by
    rw [hv]
    obtain ⟨n, s, hP, hl, hμ⟩ := h0
    refine fun B s' I => (WS_While (Q := Γ.R v.ks) (m := ks.zip (vals s)) (fun n m μ => ∃ s, P n s ∧ m = ks.zip (vals s) ∧ μ = M s) ⟨n, s, hP, rfl, hμ⟩ fun n m μ h => ?_) B s' (I.weaken (zip_le hl))
    obtain ⟨s, hP, h1, h2⟩ := h
    rw [h1, h2]
    have h := turn n s (fun m μ => .done (∃ n' s', n' < n ∧ P n' s' ∧ ks.map m.get = (vals s').map some ∧ μ = M s')) hP (fun n' s' m μ h1 h2 h3 h4 => ⟨n', s', h1, h2, h3, h4⟩)
    rw [T.turnW, stC_eq ho] at h
    refine WB.mono (vc_sound ok 99 (.b (sE v.s) _ _ (fun μ₁ => vc sc 99 (.ss (sB v.s) _ μ₁ (lk _ v.ks))) (fun μ₁ => v.ks .next _ μ₁)) h) (fun x μ₁ h => ?_) fun _ _ x => x
    cases x
    · exact WSs_nil h
    · refine lk_sound (fun m μ q => ?_) (vc_sound ok 99 _ h)
      obtain ⟨n', s', h1, h2, h3, h4⟩ := q
      exact ⟨_, μ, zip_le h3, List.Sublist.refl _, n', h1, s', h2, rfl, h4⟩)
noncomputable def T.wcut (out : Loc → Mut → T) (v : T) : T := v.stC fun s m μ k => .st s m μ (jk out k)
theorem go_whileC (ok : Γ.Ok sc) (ks : List Str) (P : Nat → σ → Prop) (R : σ → Prop) (vals : σ → List D) (M : σ → Mut)
    (h0 : ∃ n s, P n s ∧ ks.map v.m.get = (vals s).map some ∧ v.mu = M s)
    (turn : ∀ n s (ag out : Loc → Mut → T), P n s → (∀ n' s' m μ, n' < n → P n' s' → ks.map m.get = (vals s').map some → μ = M s' → Good Γ (ag m μ)) →
      (∀ s' m μ, R s' → ks.map m.get = (vals s').map some → μ = M s' → Good Γ (out m μ)) → Good Γ ((v.wcut out).turnW sc ag (ks.zip (vals s)) (M s)))
    (fin : ∀ s, R s → Good Γ (v.ks .next (ks.zip (vals s)) (M s)))
    (ho : v.isSt = true := by exact rfl) (hv : v.s = .While (sE v.s) (sB v.s) [] (Stmt.pos' v.s) := by exact rfl) : Good Γ v :=
  good_st ho (WS_settle (WS.mono (show WS Γ.G Γ.c v.s v.m v.mu (Γ.R (jk _ v.ks)) Γ.E from
    go_while (v := .st v.s v.m v.mu (jk (fun m μ => .done (∃ s, R s ∧ ks.map m.get = (vals s).map some ∧ μ = M s)) v.ks)) ok ks P vals M h0
      (fun n s ag hP hag => by have t := turn n s ag (fun m μ => .done (∃ s, R s ∧ ks.map m.get = (vals s).map some ∧ μ = M s)) hP hag fun s' m μ h1 h2 h3 => ⟨s', h1, h2, h3⟩; rw [T.wcut, stC_eq ho] at t; exact t) rfl hv) (settle_jk fin) fun _ _ _ x => x))
theorem WS_ForE {G : Cfg} {c : Act} {m : Loc} {μ : Mut} {E : Cl → Loc → Mut → Prop} {Q : Fl → Loc → Mut → Prop} {t it : Expr} {b o : List Stmt} {pos : Pos} {ι : Type} (items : ι → List D) (J : ι → Nat → Loc → Mut → Prop)
    (h : WE G c it m μ (fun d μ₁ => ∃ w, itItems d = some (items w) ∧ itOk d ∧ J w 0 m μ₁) (fun k μ => E k m μ))
    (turn : ∀ w i x m' μ', (items w)[i]? = some x → J w i m' μ' → WA G c t x m' μ' (fun m₂ μ₂ => WSs G c b m₂ μ₂ (fun f m₃ μ₃ => match f with | .next | .cont => J w (i + 1) m₃ μ₃ | .brk => Q .next m₃ μ₃ | .ret d => Q (.ret d) m₃ μ₃) E) E)
    (fin : ∀ w m' μ', J w (items w).length m' μ' → WSs G c o m' μ' Q E)
    (hs : ∀ x, foldedSetIterable it c.env x = pure x) : WS G c (.For t it b o pos) m μ Q E :=
  WS_For (h.mono (fun d μ₁ hd => hd.elim fun w hd => ⟨items w, hd.1, hd.2.1, fun done m' μ' => J w done.length m' μ', hd.2.2, fun done x rest m' μ' he hJ B s v I hv =>
    (turn w done.length x m' μ' (by rw [he]; simp) hJ B s v I hv).mono (fun _ m₂ μ₂ h => h.mono (fun f m₃ μ₃ q => by dsimp only; rw [show (done ++ [x]).length = done.length + 1 from List.length_append]; exact q) fun _ _ _ x => x) fun _ _ _ x => x, fin w⟩) fun _ _ x => x) hs
theorem go_forE (ok : Γ.Ok sc) {ι : Type} (items : ι → List D) (ks : List Str) (P : ι → Nat → σ → Prop) (vals : σ → List D) (M : σ → Mut)
    (h0 : Good Γ (v.iter sc fun d μ₁ => ∃ w, itItems d = some (items w) ∧ itOk d ∧ ∃ s, P w 0 s ∧ ks.map v.m.get = (vals s).map some ∧ μ₁ = M s))
    (turn : ∀ w i x s (ag : Loc → Mut → T), (items w)[i]? = some x → P w i s → (∀ s' m μ, P w (i + 1) s' → ks.map m.get = (vals s').map some → (M s').Sublist μ → Good Γ (ag m μ)) → Good Γ (v.turnF sc x ag (ks.zip (vals s)) (M s)))
    (fin : ∀ w s, P w (items w).length s → Good Γ (v.ks .next (ks.zip (vals s)) (M s)))
    (ho : v.isSt = true := by exact rfl) (hv : v.s = .For (sE v.s) (sI v.s) (sB v.s) [] (Stmt.pos' v.s) := by exact rfl) (hs : ∀ env x, foldedSetIterable (sI v.s) env x = pure x := by intro _ _; exact rfl) : Good Γ v :=
  good_st ho (by
    rw [T.iter, stC_eq ho] at h0
    rw [hv]
    refine WS_ForE items (fun w i m μ => ∃ s, P w i s ∧ ks.map m.get = (vals s).map some ∧ μ = M s) (vc_sound ok 99 (.e (sI v.s) v.m v.mu _) h0) (fun w i x m μ hx h => ?_) (fun w m μ h => ?_) (hs _)
    · obtain ⟨s, hP, hl, hμ⟩ := h
      rw [hμ]
      have := turn w i x s (fun m μ => .done (∃ s', P w (i + 1) s' ∧ ks.map m.get = (vals s').map some ∧ (M s').Sublist μ)) hx hP (fun s' m μ h1 h2 h3 => ⟨s', h1, h2, h3⟩)
      rw [T.turnF, stC_eq ho] at this
      cases hm₂ : asg sc (sE v.s) x (ks.zip (vals s)) with
      | none => rw [hm₂] at this; exact this.elim
      | some m₂ =>
        rw [hm₂] at this
        refine fun B s' v' I hv => asg_sound (Qm := fun m₂ μ₂ => WSs Γ.G Γ.c (sB v.s) m₂ μ₂ _ Γ.E) ok hm₂ (lk_sound (fun m μ q => ?_) (vc_sound ok 99 _ this)) B s' v' (I.weaken (zip_le hl)) hv
        obtain ⟨s', h1, h2, h3⟩ := q
        exact ⟨m, M s', le_refl, h3, s', h1, h2, rfl⟩
    · obtain ⟨s, hP, hl, hμ⟩ := h
      rw [hμ]
      exact WSs.weaken (WSs_nil (fin w s hP)) (zip_le hl))
theorem go_for (ok : Γ.Ok sc) (items : List D) (ks : List Str) (P : Nat → σ → Prop) (vals : σ → List D) (M : σ → Mut)
    (h0 : Good Γ (v.iter sc fun d μ₁ => ∃ w : Unit, itItems d = some items ∧ itOk d ∧ ∃ s, P 0 s ∧ ks.map v.m.get = (vals s).map some ∧ μ₁ = M s))
    (turn : ∀ i x s (ag : Loc → Mut → T), items[i]? = some x → P i s → (∀ s' m μ, P (i + 1) s' → ks.map m.get = (vals s').map some → μ = M s' → Good Γ (ag m μ)) → Good Γ (v.turnF sc x ag (ks.zip (vals s)) (M s)))
    (fin : ∀ s, P items.length s → Good Γ (v.ks .next (ks.zip (vals s)) (M s)))
    (ho : v.isSt = true := by exact rfl) (hv : v.s = .For (sE v.s) (sI v.s) (sB v.s) [] (Stmt.pos' v.s) := by exact rfl) (hs : ∀ env x, foldedSetIterable (sI v.s) env x = pure x := by intro _ _; exact rfl) : Good Γ v :=
  go_forE ok (fun _ => items) ks (fun _ => P) vals M h0 (fun _ i x s ag h1 h2 hag => turn i x s ag h1 h2 fun s' m μ h3 h4 h5 => hag s' m μ h3 h4 (h5 ▸ List.Sublist.refl _)) (fun _ s h => fin s h) ho hv hs
noncomputable def T.fl (sc : List (Str × Ent)) (v : T) : T := v.opC fun o m μ k => vc sc 99 (.es (eL (oE o)) m μ fun ds μ₁ => vfl ds fun d => k d μ₁)
theorem go_flist (ok : Γ.Ok sc) (h : Good Γ (v.fl sc)) (ho : v.isOp = true := by exact rfl) (hv : v.o = .ex (.List (eL (oE v.o)) (ePos (oE v.o))) := by exact rfl) : Good Γ v :=
  good_op ho (by rw [T.fl, opC_eq ho] at h; rw [hv]; exact WE_List fun B s I => (vc_sound ok 99 (.es (eL (oE v.o)) v.m v.mu fun ds μ₁ => vfl ds fun d => v.k d μ₁) h (ePos (oE v.o)) B s I).mono (fun ds μ₁ h => vfl_sound h) fun _ _ x => x)
noncomputable def T.cturn (sc : List (Str × Ent)) (ifs : List Expr) (elt : Expr) (m : Loc) (μ : Mut) (P : D → Prop) (N : Prop) : T := match ifs with
  | [] => vc sc 99 (.e elt m μ fun d μ₂ => .done (μ₂ = μ ∧ P d))
  | [c] => vc sc 99 (.b c m μ (fun μ₁ => .ask (μ₁ = μ) (vc sc 99 (.e elt m μ fun d μ₂ => .done (μ₂ = μ ∧ P d)))) (fun μ₁ => .done (μ₁ = μ ∧ N)))
  | _ => .fail
theorem nocell {sc : List (Str × Ent)} (H : sc.all (fun e => !isCellE e.2) = true) : ∀ x, sc.lookup x = some .cell → False := fun _ h => Bool.noConfusion (show false = true from List.all_eq_true.mp H _ (lk_mem h))
theorem comp_turn (ok : Γ.Ok sc) {n : Nat} (hr : Room Γ.c.A n) {cl : List (Str × Addr)} {m m₀ : Loc} {μ : Mut} {sc' : List (Str × Ent)} (hall : AllOk Γ.G sc') {elt : Expr} {x : Str} {y : D} {ifs : List Expr} {scope : Scope} {C D' : Addr} {out : List PyData} {Jt : List PyData → Prop} {Jf : Prop}
    (hk : (relabel scope Γ.c.env).names = kinds sc') (hdb : sc'.lookup ("__debug__" : Str) = none) (hnc : ∀ x, sc'.lookup x = some .cell → False) (hkind : scope.kind = .function)
    (ht : ∀ Γ' : Fr, Γ'.Ok sc' → Wk Γ' Γ.G n → (∀ cl m' μ', (∀ m μ, Γ.E cl m μ) → Γ'.E cl m' μ') → Good Γ' (T.cturn sc' ifs elt ((x, y) :: m₀) ((D', out) :: μ) (fun d => ∃ q, d = .t q ∧ Jt (out ++ [q])) Jf)) :
    WIfs Γ.G (compAct Γ.c scope cl C) ifs ((x, y) :: m₀) ((D', out) :: μ) (fun b μ' => μ' = (D', out) :: μ ∧ if b = true then
      WE Γ.G (compAct Γ.c scope cl C) elt ((x, y) :: m₀) ((D', out) :: μ) (fun d μ'' => μ'' = (D', out) :: μ ∧ ∃ p, d = .t p ∧ Jt (out ++ [p])) (fun k μ'' => ∃ μ₃, μ₃.Sublist μ'' ∧ Γ.E k m μ₃)
      else Jf) (fun k μ'' => ∃ μ₃, μ₃.Sublist μ'' ∧ Γ.E k m μ₃) := by
  have ok' : Fr.Ok ⟨Γ.G, compAct Γ.c scope cl C, fun cl _ μ' => ∃ μ₃ : Mut, μ₃.Sublist μ' ∧ Γ.E cl m μ₃⟩ sc' :=
    ⟨hk, hall, hdb, by unfold interactive; rw [show (compAct Γ.c scope cl C).env.scope.kind = _ from hkind]; rfl, ok.inst, fun x hx => (hnc x hx).elim⟩
  have ht := ht _ ok' ⟨rfl, hr⟩ fun cl m' μ' h => ⟨μ', List.Sublist.refl _, h _ _⟩
  cases ifs with
  | nil => exact WIfs_nil ⟨rfl, (if_pos rfl).mpr (vc_sound ok' 99 (.e elt _ _ fun d μ₂ => .done (μ₂ = (D', out) :: μ ∧ ∃ q, d = .t q ∧ Jt (out ++ [q]))) ht)⟩
  | cons c r =>
    cases r with
    | nil =>
      refine WIfs_one (WB.mono (vc_sound ok' 99 (.b c _ _ _ _) ht) (fun b μ₂ h => ?_) fun _ _ x => x)
      cases b
      · exact ⟨h.1, (if_neg Bool.false_ne_true).mpr h.2⟩
      · exact ⟨h.1, (if_pos rfl).mpr (vc_sound ok' 99 (.e elt _ _ fun d μ₂ => .done (μ₂ = (D', out) :: μ ∧ ∃ q, d = .t q ∧ Jt (out ++ [q]))) h.2)⟩
    | cons _ _ => exact ht.elim
theorem go_compG (ok : Γ.Ok sc) {G : Cfg} {n : Nat} (W : Wk Γ G n) (cl : List (Str × Addr)) (m₀ : Loc) (sc' : List (Str × Ent)) (hall : AllOk G sc') {elt iter : Expr} {x : Str} {px pos : Pos} {ifs : List Expr} {scope : Scope}
    (items : List D) (J : Nat → List PyData → Prop) (hv : v.o = .ex (.ListComp elt [⟨.Name x px, iter, ifs, 0⟩] scope pos))
    (h0 : Good Γ (vc sc 99 (.e iter v.m v.mu fun d μ₁ => .done (itItems d = some items ∧ itOk d ∧ μ₁ = v.mu)))) (hlen : items.length ≤ 10000) (hJ : J 0 []) (hJl : ∀ i out, J i out → out.length ≤ i)
    (turn : ∀ i y out (Γ' : Fr) (D' : Addr), D' ∉ v.mu.map (·.1) → items[i]? = some y → J i out → Γ'.Ok sc' → Wk Γ' G n → (∀ cl m' μ', (∀ m μ, Γ.E cl m μ) → Γ'.E cl m' μ') → Good Γ' (T.cturn sc' ifs elt ((x, y) :: m₀) ((D', out) :: v.mu) (fun d => ∃ q, d = .t q ∧ J (i + 1) (out ++ [q])) (J (i + 1) out)))
    (fin : ∀ out, J items.length out → Good Γ (v.k (.t (.list out)) v.mu))
    (hclos : closureFor scope Γ.c.env = pure cl) (hcl : cl = [] ∨ cl = Γ.c.env.cells) (hm₀ : ∀ y d, m₀.get y = some d → v.m.get y = some d ∧ Γ.c.env.kindOf y = some .cell ∧ (relabel scope Γ.c.env).names.lookup y = some .cell ∧ cl = Γ.c.env.cells) (hk : (relabel scope Γ.c.env).names = kinds sc') (hdb : sc'.lookup ("__debug__" : Str) = none := by rfl) (hnc : ∀ x, sc'.lookup x = some .cell → False := by exact nocell (by rfl))
    (hx : scope.names.lookup x = some .local := by rfl) (hcell : ∀ y ∈ scope.names, y.2 ≠ .cell := by decide) (hkind : scope.kind = .function := by rfl)
    (hnames : ∀ y ∈ scope.names, y.2 = .local → scope.names.lookup y.1 = some .local := by decide)
    (hs : ∀ x, foldedSetIterable iter Γ.c.env x = pure x := by intro _; rfl) : Good Γ v := by
  refine good_op (op_ex hv) ?_
  rw [hv]
  obtain ⟨rfl, hr⟩ := W
  refine WE_freeze (WE_ListComp cl m₀ hclos hcl hm₀ (WE.mono (vc_sound ok 99 (.e iter v.m v.mu fun d μ₁ => .done (itItems d = some items ∧ itOk d ∧ μ₁ = v.mu)) h0) (fun d μ₁ h => ?_) fun _ _ x => x) hx hcell hkind hnames hs)
  rw [h.2.2]
  refine ⟨items, h.1, h.2.1, hlen, fun done out => J done.length out, hJ, fun _ _ h => hJl _ _ h, fun done y rest out he hj C D' hD => ?_, fun out hj a ha => ⟨a, out, rfl, lookup_head, by rw [del_head ha]; exact fin out hj⟩⟩
  exact comp_turn (Jt := fun o => J (done ++ [y]).length o) (Jf := J (done ++ [y]).length out) (m := v.m) (μ := v.mu) (cl := cl) ok hr hall hk hdb hnc hkind fun Γ' a b c => by
    rw [show (done ++ [y]).length = done.length + 1 from List.length_append]
    exact turn done.length y out Γ' D' hD (by rw [he]; simp) hj a b c
theorem go_comp (ok : Γ.Ok sc) {G : Cfg} {n : Nat} (W : Wk Γ G n) (sc' : List (Str × Ent)) (hall : AllOk G sc') {elt iter : Expr} {x : Str} {px pos : Pos} {ifs : List Expr} {scope : Scope}
    (items : List D) (J : Nat → List PyData → Prop) (hv : v.o = .ex (.ListComp elt [⟨.Name x px, iter, ifs, 0⟩] scope pos))
    (h0 : Good Γ (vc sc 99 (.e iter v.m v.mu fun d μ₁ => .done (itItems d = some items ∧ itOk d ∧ μ₁ = v.mu)))) (hlen : items.length ≤ 10000) (hJ : J 0 []) (hJl : ∀ i out, J i out → out.length ≤ i)
    (turn : ∀ i y out (Γ' : Fr) (μ' : Mut), items[i]? = some y → J i out → Γ'.Ok sc' → Wk Γ' G n → (∀ cl m' μ', (∀ m μ, Γ.E cl m μ) → Γ'.E cl m' μ') → Good Γ' (T.cturn sc' ifs elt [(x, y)] μ' (fun d => ∃ q, d = .t q ∧ J (i + 1) (out ++ [q])) (J (i + 1) out)))
    (fin : ∀ out, J items.length out → Good Γ (v.k (.t (.list out)) v.mu))
    (hk : ∀ env, (relabel scope env).names = kinds sc' := by intro _; rfl) (hdb : sc'.lookup ("__debug__" : Str) = none := by rfl) (hnc : ∀ x, sc'.lookup x = some .cell → False := by exact nocell (by rfl)) (hclos : closureFor scope Γ.c.env = pure [] := by rfl)
    (hx : scope.names.lookup x = some .local := by rfl) (hcell : ∀ y ∈ scope.names, y.2 ≠ .cell := by decide) (hkind : scope.kind = .function := by rfl)
    (hnames : ∀ y ∈ scope.names, y.2 = .local → scope.names.lookup y.1 = some .local := by decide)
    (hs : ∀ x, foldedSetIterable iter Γ.c.env x = pure x := by intro _; rfl) : Good Γ v :=
  go_compG ok W [] [] sc' hall items J hv h0 hlen hJ hJl (fun i y out Γ' D' _ => turn i y out Γ' ((D', out) :: v.mu)) fin hclos (.inl rfl) (fun y d h => by cases h) (hk _) hdb hnc hx hcell hkind hnames hs
end
end P279
end
section
open PySem PySem.W PyProof.Rows PySem.Spec PySem.Calls PySem.Builtin PySem.Builtin.Str
namespace P279
theorem WS_freezeY {G : Cfg} {c : Act} {st : Stmt} {m : Loc} {μ : Mut} {Q : Fl → Loc → Mut → Prop} {E : Cl → Loc → Mut → Prop} (h : WS G c st m μ (fun fl m' μ' => ∃ y a ds, fl = .next ∧ m'.get y = some (.loc a) ∧ μ'.lookup a = some ds ∧ Q .next ((y, .t (.list ds)) :: m') (μ'.del a)) E) : WS G c st m μ Q E :=
  fun B s I Qr Er hp q e => h B s I Qr Er hp (fun a f m' μ' B' s' T I' R h => h.elim fun y h => h.elim fun ad h => h.elim fun ds h => by
    obtain ⟨rfl, hm, hl, x⟩ := h
    obtain ⟨B'', I'', T'', V'', le⟩ := I'.freeze hl
    have I₂ : Inv G c ((y, .t (.list ds)) :: m') (μ'.del ad) B'' s' := by
      refine { I'' with loc := ?_ }
      obtain ⟨mr, hn, hlo⟩ := I''.loc
      refine ⟨mr, hn, fun z d hz => ?_⟩
      rw [store_get] at hz
      split at hz
      · rename_i e; subst e; cases hz
        obtain ⟨v, hv, r⟩ := hlo z _ hm
        cases hv
        exact ⟨.ref ad, V'', r⟩
      · exact hlo z d hz
    exact q a .next _ _ B'' s' (T.trans T'') I₂ (by cases a <;> exact R) x) e
end P279
namespace P279
theorem go_asgCompM {Γ : Fr} {sc : List (Str × Ent)} {v : T} (ok : Γ.Ok sc) {G : Cfg} {n : Nat} (W : Wk Γ G n) (cl : List (Str × Addr)) (m₀ : Loc) (sc' : List (Str × Ent)) (hall : AllOk G sc') {elt iter : Expr} {x y : Str} {px py pos spos : Pos} {ifs : List Expr} {scope : Scope}
    (items : List D) (J : Nat → List PyData → Prop) (hv : v.s = .Assign [.Name y py] (.ListComp elt [⟨.Name x px, iter, ifs, 0⟩] scope pos) spos)
    (hy : sc.lookup y = some .loc)
    (h0 : Good Γ (vc sc 99 (.e iter v.m v.mu fun d μ₁ => .done (itItems d = some items ∧ itOk d ∧ μ₁ = v.mu)))) (hlen : items.length ≤ 10000) (hJ : J 0 []) (hJl : ∀ i out, J i out → out.length ≤ i)
    (turn : ∀ i z out (Γ' : Fr) (D' : Addr), D' ∉ v.mu.map (·.1) → items[i]? = some z → J i out → Γ'.Ok sc' → Wk Γ' G n → (∀ cl m' μ', (∀ m μ, Γ.E cl m μ) → Γ'.E cl m' μ') → Good Γ' (T.cturn sc' ifs elt ((x, z) :: m₀) ((D', out) :: v.mu) (fun d => ∃ q, d = .t q ∧ J (i + 1) (out ++ [q])) (J (i + 1) out)))
    (fin : ∀ out a, a ∉ v.mu.map (·.1) → J items.length out → Good Γ (v.ks .next ((y, .loc a) :: v.m) ((a, out) :: v.mu)))
    (hclos : closureFor scope Γ.c.env = pure cl) (hcl : cl = [] ∨ cl = Γ.c.env.cells) (hm₀ : ∀ y d, m₀.get y = some d → v.m.get y = some d ∧ Γ.c.env.kindOf y = some .cell ∧ (relabel scope Γ.c.env).names.lookup y = some .cell ∧ cl = Γ.c.env.cells) (hk : (relabel scope Γ.c.env).names = kinds sc') (hdb : sc'.lookup ("__debug__" : Str) = none) (hnc : ∀ x, sc'.lookup x = some .cell → False)
    (hsw : swapsWith (.ListComp elt [⟨.Name x px, iter, ifs, 0⟩] scope pos) (some (.Name y py)) spos.line Γ.c.env = pure true)
    (hx : scope.names.lookup x = some .local := by rfl) (hcell : ∀ y ∈ scope.names, y.2 ≠ .cell := by decide) (hkind : scope.kind = .function := by rfl)
    (hnames : ∀ y ∈ scope.names, y.2 = .local → scope.names.lookup y.1 = some .local := by decide)
    (hs : ∀ x, foldedSetIterable iter Γ.c.env x = pure x := by intro _; rfl) (ho : v.isSt = true := by exact rfl) : Good Γ v := by
  refine good_st ho ?_
  rw [hv]
  obtain ⟨rfl, hr⟩ := W
  refine WS_AssignComp cl m₀ hclos hcl hm₀ (ok.kind hy) (WE.mono (vc_sound ok 99 (.e iter v.m v.mu fun d μ₁ => .done (itItems d = some items ∧ itOk d ∧ μ₁ = v.mu)) h0) (fun d μ₁ h => ?_) fun _ _ x => x) hx hcell hkind hnames hs hsw
  rw [h.2.2]
  refine ⟨items, h.1, h.2.1, hlen, fun done out => J done.length out, hJ, fun _ _ h => hJl _ _ h, fun done y rest out he hj C D' hD => ?_, fun out hj a ha => fin out a ha hj⟩
  exact comp_turn (Jt := fun o => J (done ++ [y]).length o) (Jf := J (done ++ [y]).length out) (m := v.m) (μ := v.mu) (cl := cl) ok hr hall hk hdb hnc hkind fun Γ' a b c => by
    rw [show (done ++ [y]).length = done.length + 1 from List.length_append]
    exact turn done.length y out Γ' D' hD (by rw [he]; simp) hj a b c
theorem go_asgComp {Γ : Fr} {sc : List (Str × Ent)} {v : T} (ok : Γ.Ok sc) {G : Cfg} {n : Nat} (W : Wk Γ G n) (cl : List (Str × Addr)) (m₀ : Loc) (sc' : List (Str × Ent)) (hall : AllOk G sc') {elt iter : Expr} {x y : Str} {px py pos spos : Pos} {ifs : List Expr} {scope : Scope}
    (items : List D) (J : Nat → List PyData → Prop) (hv : v.s = .Assign [.Name y py] (.ListComp elt [⟨.Name x px, iter, ifs, 0⟩] scope pos) spos)
    (hy : sc.lookup y = some .loc)
    (h0 : Good Γ (vc sc 99 (.e iter v.m v.mu fun d μ₁ => .done (itItems d = some items ∧ itOk d ∧ μ₁ = v.mu)))) (hlen : items.length ≤ 10000) (hJ : J 0 []) (hJl : ∀ i out, J i out → out.length ≤ i)
    (turn : ∀ i z out (Γ' : Fr) (μ' : Mut), items[i]? = some z → J i out → Γ'.Ok sc' → Wk Γ' G n → (∀ cl m' μ', (∀ m μ, Γ.E cl m μ) → Γ'.E cl m' μ') → Good Γ' (T.cturn sc' ifs elt ((x, z) :: m₀) μ' (fun d => ∃ q, d = .t q ∧ J (i + 1) (out ++ [q])) (J (i + 1) out)))
    (fin : ∀ out a, J items.length out → Good Γ (v.ks .next ((y, .t (.list out)) :: (y, .loc a) :: v.m) v.mu))
    (hclos : closureFor scope Γ.c.env = pure cl) (hcl : cl = [] ∨ cl = Γ.c.env.cells) (hm₀ : ∀ y d, m₀.get y = some d → v.m.get y = some d ∧ Γ.c.env.kindOf y = some .cell ∧ (relabel scope Γ.c.env).names.lookup y = some .cell ∧ cl = Γ.c.env.cells) (hk : (relabel scope Γ.c.env).names = kinds sc') (hdb : sc'.lookup ("__debug__" : Str) = none) (hnc : ∀ x, sc'.lookup x = some .cell → False)
    (hsw : swapsWith (.ListComp elt [⟨.Name x px, iter, ifs, 0⟩] scope pos) (some (.Name y py)) spos.line Γ.c.env = pure true)
    (hx : scope.names.lookup x = some .local := by rfl) (hcell : ∀ y ∈ scope.names, y.2 ≠ .cell := by decide) (hkind : scope.kind = .function := by rfl)
    (hnames : ∀ y ∈ scope.names, y.2 = .local → scope.names.lookup y.1 = some .local := by decide)
    (hs : ∀ x, foldedSetIterable iter Γ.c.env x = pure x := by intro _; rfl) (ho : v.isSt = true := by exact rfl) : Good Γ v := by
  refine good_st ho (WS_freezeY ?_)
  exact go_asgCompM (v := .st v.s v.m v.mu fun fl m' μ' => .done (∃ y a ds, fl = .next ∧ m'.get y = some (.loc a) ∧ μ'.lookup a = some ds ∧ Good Γ (v.ks .next ((y, .t (.list ds)) :: m') (μ'.del a))))
      ok W cl m₀ sc' hall items J hv hy h0 hlen hJ hJl (fun i z out Γ' D' _ => turn i z out Γ' ((D', out) :: v.mu)) (fun out a ha hj => ⟨y, a, out, rfl, by simp [Loc.get], lookup_head, by rw [del_head ha]; exact fin out a hj⟩) hclos hcl hm₀ hk hdb hnc hsw hx hcell hkind hnames hs rfl
end P279
end
section
open PySem PySem.W PyProof.Rows PySem.Spec PySem.Calls PySem.Builtin PySem.Builtin.Str
namespace P279
section
variable {Γ : Fr} {sc : List (Str × Ent)} {v : T} {σ : Type}
noncomputable def T.isEx : T → Bool
  | .op (.ex _) _ _ _ => true
  | .st _ _ _ _ => true
  | _ => false
theorem go_nd (h : (v.mu.map (·.1)).Nodup → Good Γ v) (hv : v.isEx = true := by exact rfl) : Good Γ v :=
  T.casesOn (motive := fun v => ((v.mu.map (·.1)).Nodup → Good Γ v) → v.isEx = true → Good Γ v) v (fun _ e => Bool.noConfusion e) (fun _ _ e => Bool.noConfusion e) (fun _ _ _ _ e => Bool.noConfusion e) (fun _ _ _ e => Bool.noConfusion e) (fun _ _ _ _ e => Bool.noConfusion e)
    (fun o m μ k => Op.casesOn (motive := fun o => (((T.op o m μ k).mu.map (·.1)).Nodup → Good Γ (.op o m μ k)) → T.isEx (.op o m μ k) = true → Good Γ (.op o m μ k)) o (fun _ _ _ e => Bool.noConfusion e) (fun _ _ _ e => Bool.noConfusion e) (fun _ _ _ e => Bool.noConfusion e) (fun _ _ _ _ e => Bool.noConfusion e) (fun _ _ _ _ e => Bool.noConfusion e) (fun _ _ _ _ e => Bool.noConfusion e) (fun _ _ _ e => Bool.noConfusion e) (fun _ _ _ _ e => Bool.noConfusion e) (fun _ _ _ _ e => Bool.noConfusion e) (fun _ h _ B s I => h I.nd B s I))
    (fun _ _ _ _ h _ B s I => h I.nd B s I) h hv
noncomputable def T.inst (sc : List (Str × Ent)) (v : T) (f : Addr) (d : D) : T := v.opC fun o m μ k => vc sc 99 (.es (eL (oE o)) m μ fun ds μ₁ => .op (.call f (d :: ds)) m μ₁ k)
theorem go_inst (ok : Γ.Ok sc) {G : Cfg} {n : Nat} (W : Wk Γ G n) {y nm : Str} {yp ap pos : Pos} {es : List Expr} {x r t : Addr} {f : Addr} (hv : v.o = .ex (.Call (.Attribute (.Name y yp) nm ap) es [] pos)) (hy : (sc.lookup y).isSome = true) (hm : v.m.get y = some (.inst x r t)) (hn : nm = "add" ∨ nm = "of")
    (hf : findIn G.K (.ref G.C) nm = some (some (.ref f))) (hfn : isFn G.K (.ref f) = true) (kp : keepIn G.K (.ref f) = true) (hes : noStar es = true)
    {pl : Env → Sem Bool} (hev : ∀ env, eval (.Call (.Attribute (.Name y yp) nm ap) es [] pos) env = (do
      let ov ← eval (.Name y yp) env
      standAt ap.atName
      let (f, first) ← holding [ov] (getMethod ov nm (pl env))
      callWith pos f first (backTo pos (starEach es env)) (backToKw pos (keywordEach [] env))))
    (h : Good Γ (v.inst sc f (.inst x r t))) : Good Γ v := by
  refine good_op (op_ex hv) ?_
  obtain ⟨rfl, hr⟩ := W
  obtain ⟨e, he⟩ := Option.isSome_iff_exists.mp hy
  rw [T.inst, opC_eq (op_ex hv)] at h
  rw [hv] at h ⊢
  exact WE_InstMethod ok.inst hn hf hfn kp (WE_Local hm ⟨rfl, vc_sound ok 99 (.es es v.m v.mu fun ds μ₁ => .op (.call f (.inst x r t :: ds)) v.m μ₁ v.k) h pos⟩ (ok.nd he)) (noStar_he hes) (noStar_hp hes) (hev _)
noncomputable def Hd (Γ : Fr) (v : T) (ks : List Str) (P : σ → Prop) (vals : σ → List D) (M : σ → Mut) (sts : List Stmt) (m : Loc) (μ : Mut) : Prop :=
  WSsM Γ.G Γ.c sts m μ (fun f m μ => match f with
    | .next => ∃ s, P s ∧ ks.map m.get = (vals s).map some ∧ μ = M s
    | f => Good Γ (v.ks f m μ))
noncomputable def T.body (sc : List (Str × Ent)) (v : T) (ag : Loc → Mut → T) : T := v.stC fun s m μ _ => vc sc 99 (.ss (sB s) m μ (jk ag fun _ _ _ => .fail))
theorem go_try (ok : Γ.Ok sc) {G : Cfg} {n : Nat} (W : Wk Γ G n) (ks : List Str) (P : σ → Prop) (vals : σ → List D) (M : σ → Mut) {body suite : List Stmt} {b₀ : Stmt} {x : Str} {np hpos pos : Pos} {Dc : Addr}
    (hv : v.s = .Try body [.ExceptHandler (some (.Name x np)) none (b₀ :: suite) hpos] [] [] pos) {en : Ent} (hx : sc.lookup x = some en) (hen : en.kind = .globalImplicit) (g : nsIn G.K mainGlobals x = some (some (.ref Dc))) (hcd : IsCls G.K Dc)
    (h : ∀ (Γ' : Fr) (ag : Loc → Mut → T), Γ'.Ok sc → Wk Γ' G n → (∀ s m μ, P s → ks.map m.get = (vals s).map some → μ = M s → Good Γ' (ag m μ)) →
      (∀ cl m μ, Catches G.K (G.X cl) Dc → Hd Γ v ks P vals M (b₀ :: suite) m μ → Γ'.E cl m μ) → Good Γ' (v.body sc ag))
    (g' : ∀ s, P s → Good Γ (v.ks .next (ks.zip (vals s)) (M s))) (ho : v.isSt = true := by exact rfl) : Good Γ v := by
  refine good_st ho ?_
  obtain ⟨rfl, hr⟩ := W
  have ok' : Fr.Ok ⟨Γ.G, Γ.c, fun cl m' μ' => Catches Γ.G.K (Γ.G.X cl) Dc ∧ Hd Γ v ks P vals M (b₀ :: suite) m' μ'⟩ sc := ⟨ok.names, ok.all, ok.dbg, ok.inter, ok.inst, ok.cells⟩
  have h := h _ (fun m μ => .done (∃ s, P s ∧ ks.map m.get = (vals s).map some ∧ μ = M s)) ok' ⟨rfl, hr⟩ (fun s m μ h1 h2 h3 => ⟨s, h1, h2, h3⟩) (fun cl m μ h1 h2 => ⟨h1, h2⟩)
  rw [T.body, stC_eq ho] at h
  rw [hv] at h ⊢
  refine WS_settle (WS_Try (Q := fun f m μ => ∃ m'', Loc.Le m'' m ∧ Γ.R v.ks f m'' μ) (by rw [ok.kind hx, hen]) g hcd (WSs.mono (vc_sound ok' 99 (.ss body v.m v.mu _) h) (fun f m μ h => ?_) fun cl m μ h => ⟨h.1, fun ea B s I Qr Er q => h.2 ea B s I Qr Er fun a f m' μ' B' s' T I' R hq => q a f m' μ' B' s' T I' R ?_⟩) (ok.nd hx))
  · cases f with
    | next => exact settle_jk g' .next m μ h
    | _ => exact h.elim
  · cases f with
    | next => exact settle_jk g' .next m' μ' hq
    | _ => exact ⟨m', le_refl, hq⟩
theorem go_forC (ok : Γ.Ok sc) {ι : Type} (items : ι → List D) (ks : List Str) (P : ι → Nat → σ → Prop) (R : σ → Prop) (vals : σ → List D) (M : σ → Mut)
    (h0 : Good Γ (v.iter sc fun d μ₁ => ∃ w, itItems d = some (items w) ∧ itOk d ∧ ∃ s, P w 0 s ∧ ks.map v.m.get = (vals s).map some ∧ μ₁ = M s))
    (turn : ∀ w i x s (ag out : Loc → Mut → T), (items w)[i]? = some x → P w i s → (∀ s' m μ, P w (i + 1) s' → ks.map m.get = (vals s').map some → μ = M s' → Good Γ (ag m μ)) →
      (∀ s' m μ, R s' → ks.map m.get = (vals s').map some → μ = M s' → Good Γ (out m μ)) → Good Γ ((v.wcut out).turnF sc x ag (ks.zip (vals s)) (M s)))
    (fin : ∀ w s, P w (items w).length s → R s) (g : ∀ s, R s → Good Γ (v.ks .next (ks.zip (vals s)) (M s))) (hz : ∀ s, ks.map (Loc.get (ks.zip (vals s))) = (vals s).map some := by intro _; rfl) (ho : v.isSt = true := by exact rfl) (hv : v.s = .For (sE v.s) (sI v.s) (sB v.s) [] (Stmt.pos' v.s) := by exact rfl) (hs : ∀ env x, foldedSetIterable (sI v.s) env x = pure x := by intro _ _; exact rfl) : Good Γ v :=
  good_st ho (WS_settle (WS.mono (show WS Γ.G Γ.c v.s v.m v.mu (Γ.R (jk _ v.ks)) Γ.E from
    go_forE (v := .st v.s v.m v.mu (jk (fun m μ => .done (∃ s, R s ∧ ks.map m.get = (vals s).map some ∧ μ = M s)) v.ks)) ok items ks P vals M (by rw [T.iter, stC_eq ho] at h0; exact h0)
      (fun w i x s ag h1 h2 hag => by have t := turn w i x s ag (fun m μ => .done (∃ s, R s ∧ ks.map m.get = (vals s).map some ∧ μ = M s)) h1 h2 (fun s' m μ h3 h4 h5 => hag s' m μ h3 h4 (h5 ▸ List.Sublist.refl _)) fun s' m μ h3 h4 h5 => ⟨s', h3, h4, h5⟩; rw [T.wcut, stC_eq ho] at t; exact t)
      (fun w s h => ⟨s, fin w s h, hz s, rfl⟩) rfl hv hs) (settle_jk g) fun _ _ _ x => x))
end
end P279
end
section
open PySem PySem.W PyProof.Rows PySem.Spec PySem.Calls PySem.Builtin PySem.Builtin.Str
namespace P279
section
variable {G : Cfg} {p : Params} (O : Own G p)
include O
theorem ge_own {x : Str} {f : Addr} (h : nsIn (KK p) mainGlobals x = some (some (.ref f)) ∧ keepIn (KK p) (.ref f) = true) : GOk G x (.own f) := by rw [← O.K] at h; exact h
theorem ge_str {x s : Str} {t : Tok} (h : nsIn (KK p) mainGlobals x = some (some (.str s t))) : GOk G x (.val (.str s)) := by rw [← O.K] at h; exact gname_str h
theorem ge_int {x : Str} {i : Int} {t : Tok} (h : nsIn (KK p) mainGlobals x = some (some (.int i t))) : GOk G x (.val (.int i)) := by rw [← O.K] at h; exact gname_int h
theorem ge_exc {x : Str} {cl : Cl} (h : nsIn (KK p) mainGlobals x = some (some (.ref (match cl with | .lex => 51 | .syn => 63 | .chk => 75))) ∧ keepIn (KK p) (.ref (match cl with | .lex => 51 | .syn => 63 | .chk => 75)) = true) : GOk G x (.exc cl) := by
  have gf := O.gf
  obtain ⟨w, h₀, mg, mb, rfl, rfl⟩ := O.ex
  cases cl
  · exact ⟨h.1, h.2, cls_lex, mk_lex gf⟩
  · exact ⟨h.1, h.2, cls_syn, mk_syn gf⟩
  · exact ⟨h.1, h.2, cls_chk, mk_chk gf⟩
theorem e_TYPE_WORDS : GOk G "TYPE_WORDS" (.val (.list wordsPy)) := by
  have gf := O.gf
  obtain ⟨w, h₀, mg, mb, rfl, rfl⟩ := O.ex
  refine ⟨.ref 374, by rfl, fun B hB => ?_⟩
  refine V.list (hB 374 _ (gf.kin 374 _ (by rfl))) ?_
  refine Vs.cons (V.tuple (hB _ _ (gf.kin _ _ (by rfl))) (Vs.cons (V.str _ _) (Vs.cons (V.int _ _) Vs.nil))) ?_
  refine Vs.cons (V.tuple (hB _ _ (gf.kin _ _ (by rfl))) (Vs.cons (V.str _ _) (Vs.cons (V.int _ _) Vs.nil))) ?_
  refine Vs.cons (V.tuple (hB _ _ (gf.kin _ _ (by rfl))) (Vs.cons (V.str _ _) (Vs.cons (V.int _ _) Vs.nil))) ?_
  refine Vs.cons (V.tuple (hB _ _ (gf.kin _ _ (by rfl))) (Vs.cons (V.str _ _) (Vs.cons (V.int _ _) Vs.nil))) ?_
  refine Vs.cons (V.tuple (hB _ _ (gf.kin _ _ (by rfl))) (Vs.cons (V.str _ _) (Vs.cons (V.int _ _) Vs.nil))) ?_
  refine Vs.cons (V.tuple (hB _ _ (gf.kin _ _ (by rfl))) (Vs.cons (V.str _ _) (Vs.cons (V.int _ _) Vs.nil))) ?_
  exact Vs.nil
theorem e_law_words_L : GOk G "_law_words" (.val (.tuple (txts (WRDS.map (·.1))))) := by
  have gf := O.gf
  obtain ⟨w, h₀, mg, mb, rfl, rfl⟩ := O.ex
  refine ⟨.ref 450, by rfl, fun B hB => ?_⟩
  exact V.tuple (hB 450 _ (gf.kin 450 _ (by rfl))) (Vs.cons (V.str _ _) (Vs.cons (V.str _ _) (Vs.cons (V.str _ _) (Vs.cons (V.str _ _) (Vs.cons (V.str _ _) (Vs.cons (V.str _ _) Vs.nil))))))
theorem e_REAL : GOk G "REAL" (.val (.int 1)) := ge_int O (by rfl)
theorem e_range : GOk G "range" (.typ "range") := ⟨by rw [O.K]; rfl, by rfl, by decide⟩
theorem e_INTEGER : GOk G "INTEGER" (.val (.int 0)) := ge_int O (by rfl)
theorem e_len : GOk G "len" (.blt "len") := ⟨by rw [O.K]; rfl, by rfl, by decide⟩
theorem e_int : GOk G "int" (.typ "int") := ⟨by rw [O.K]; rfl, by rfl, by decide⟩
theorem e_run_of : GOk G "run_of" (.own 86) := ge_own O ⟨by rfl, by rfl⟩
theorem e_DIGITS_lex : GOk G "DIGITS_lex" (.val (.str (S DIG))) := ge_str O (by rfl)
theorem e_MOST_DIGITS : GOk G "MOST_DIGITS" (.val (.int 1000)) := ge_int O (by rfl)
theorem e_LexFault : GOk G "LexFault" (.exc .lex) := ge_exc O ⟨by rfl, by rfl⟩
theorem e_dotted_at : GOk G "dotted_at" (.own 93) := ge_own O ⟨by rfl, by rfl⟩
theorem e_power_at : GOk G "power_at" (.own 107) := ge_own O ⟨by rfl, by rfl⟩
theorem e_told_pair : GOk G "told_pair" (.own 100) := ge_own O ⟨by rfl, by rfl⟩
theorem e_LETTERS_lex : GOk G "LETTERS_lex" (.val (.str (S LET))) := ge_str O (by rfl)
theorem e_MOST_NAME : GOk G "MOST_NAME" (.val (.int 6)) := ge_int O (by rfl)
theorem e_name_at : GOk G "name_at" (.own 128) := ge_own O ⟨by rfl, by rfl⟩
theorem e_number_at : GOk G "number_at" (.own 114) := ge_own O ⟨by rfl, by rfl⟩
theorem e_point_at : GOk G "point_at" (.own 135) := ge_own O ⟨by rfl, by rfl⟩
theorem e_quoted_at : GOk G "quoted_at" (.own 121) := ge_own O ⟨by rfl, by rfl⟩
theorem e_SIGNS : GOk G "SIGNS" (.val (.str (S SGN))) := ge_str O (by rfl)
theorem e_token_at : GOk G "token_at" (.own 142) := ge_own O ⟨by rfl, by rfl⟩
theorem e_is_op : GOk G "is_op" (.own 163) := ge_own O ⟨by rfl, by rfl⟩
theorem e_SyntaxFault : GOk G "SyntaxFault" (.exc .syn) := ge_exc O ⟨by rfl, by rfl⟩
theorem e_kind_at : GOk G "kind_at" (.own 156) := ge_own O ⟨by rfl, by rfl⟩
theorem e_parse_binary : GOk G "parse_binary" (.own 220) := ge_own O ⟨by rfl, by rfl⟩
theorem e_EQUIVALENCE : GOk G "EQUIVALENCE" (.val (.int 1)) := ge_int O (by rfl)
theorem e_parse_first : GOk G "parse_first" (.own 227) := ge_own O ⟨by rfl, by rfl⟩
theorem e_priority_at : GOk G "priority_at" (.own 206) := ge_own O ⟨by rfl, by rfl⟩
theorem e_RELATION : GOk G "RELATION" (.val (.int 5)) := ge_int O (by rfl)
theorem e_POWER : GOk G "POWER" (.val (.int 9)) := ge_int O (by rfl)
theorem e_NEGATION : GOk G "NEGATION" (.val (.int 4)) := ge_int O (by rfl)
theorem e_SUM : GOk G "SUM" (.val (.int 7)) := ge_int O (by rfl)
theorem e_parse_primary : GOk G "parse_primary" (.own 234) := ge_own O ⟨by rfl, by rfl⟩
theorem e_parse_named : GOk G "parse_named" (.own 276) := ge_own O ⟨by rfl, by rfl⟩
theorem e_parse_bracket : GOk G "parse_bracket" (.own 248) := ge_own O ⟨by rfl, by rfl⟩
theorem e_constant_of : GOk G "constant_of" (.own 241) := ge_own O ⟨by rfl, by rfl⟩
theorem e_need_name : GOk G "need_name" (.own 177) := ge_own O ⟨by rfl, by rfl⟩
theorem e_is_cut : GOk G "is_cut" (.own 283) := ge_own O ⟨by rfl, by rfl⟩
theorem e_parse_arguments : GOk G "parse_arguments" (.own 297) := ge_own O ⟨by rfl, by rfl⟩
theorem e_parse_cut : GOk G "parse_cut" (.own 290) := ge_own O ⟨by rfl, by rfl⟩
theorem e_depths : GOk G "depths" (.own 304) := ge_own O ⟨by rfl, by rfl⟩
theorem e_parse_bound : GOk G "parse_bound" (.own 325) := ge_own O ⟨by rfl, by rfl⟩
theorem e_MOST_DIMENSIONS : GOk G "MOST_DIMENSIONS" (.val (.int 7)) := ge_int O (by rfl)
theorem e_need_op : GOk G "need_op" (.own 170) := ge_own O ⟨by rfl, by rfl⟩
theorem e_need_int : GOk G "need_int" (.own 184) := ge_own O ⟨by rfl, by rfl⟩
theorem e_parse_expr : GOk G "parse_expr" (.own 213) := ge_own O ⟨by rfl, by rfl⟩
theorem e_DIGITS_specs : GOk G "DIGITS_specs" (.val (.str (S DIG))) := ge_str O (by rfl)
theorem e_closing : GOk G "closing" (.own 311) := ge_own O ⟨by rfl, by rfl⟩
theorem e_tokens_of : GOk G "tokens_of" (.own 149) := ge_own O ⟨by rfl, by rfl⟩
theorem e_parse_length : GOk G "parse_length" (.own 339) := ge_own O ⟨by rfl, by rfl⟩
theorem e_need_end : GOk G "need_end" (.own 191) := ge_own O ⟨by rfl, by rfl⟩
theorem e_parse_dims : GOk G "parse_dims" (.own 332) := ge_own O ⟨by rfl, by rfl⟩
theorem e_parse_item : GOk G "parse_item" (.own 353) := ge_own O ⟨by rfl, by rfl⟩
theorem e_CHARACTER : GOk G "CHARACTER" (.val (.int 5)) := ge_int O (by rfl)
theorem e_head_length : GOk G "head_length" (.own 346) := ge_own O ⟨by rfl, by rfl⟩
theorem e_parse_typed : GOk G "parse_typed" (.own 360) := ge_own O ⟨by rfl, by rfl⟩
theorem e_parse_letter : GOk G "parse_letter" (.own 381) := ge_own O ⟨by rfl, by rfl⟩
theorem e_parse_letters : GOk G "parse_letters" (.own 388) := ge_own O ⟨by rfl, by rfl⟩
theorem e_split_open : GOk G "split_open" (.own 318) := ge_own O ⟨by rfl, by rfl⟩
theorem e_tell_letters : GOk G "tell_letters" (.own 442) := ge_own O ⟨by rfl, by rfl⟩
theorem e_LETTERS_implicit : GOk G "LETTERS_implicit" (.val (.str (S LET))) := ge_str O (by rfl)
theorem e_CheckFault : GOk G "CheckFault" (.exc .chk) := ge_exc O ⟨by rfl, by rfl⟩
theorem e_law_take_L : GOk G "_law_take" (.own 457) := ge_own O ⟨by rfl, by rfl⟩
theorem e_law_letters_L : GOk G "_law_letters" (.val (.str (S LET))) := ge_str O (by rfl)
theorem e_law_digits_L : GOk G "_law_digits" (.val (.str (S DIG))) := ge_str O (by rfl)
theorem e_law_size_L : GOk G "_law_size" (.own 474) := ge_own O ⟨by rfl, by rfl⟩
theorem e_law_runs_L : GOk G "_law_runs" (.own 469) := ge_own O ⟨by rfl, by rfl⟩
theorem e_parse_character : GOk G "parse_character" (.own 367) := ge_own O ⟨by rfl, by rfl⟩
theorem e_str : GOk G "str" (.typ "str") := ⟨by rw [O.K]; rfl, by rfl, by decide⟩
theorem e_law_row_L : GOk G "_law_row" (.own 464) := ge_own O ⟨by rfl, by rfl⟩
theorem e_law_simple_L : GOk G "_law_simple" (.own 484) := ge_own O ⟨by rfl, by rfl⟩
theorem e_law_rules_L : GOk G "_law_rules" (.own 479) := ge_own O ⟨by rfl, by rfl⟩
theorem e_parse_implicit : GOk G "parse_implicit" (.own 400) := ge_own O ⟨by rfl, by rfl⟩
theorem e_law_add_L : GOk G "_law_add" (.own 489) := ge_own O ⟨by rfl, by rfl⟩
theorem e_told_rules : GOk G "told_rules" (.own 449) := ge_own O ⟨by rfl, by rfl⟩
theorem e_law_short_L : GOk G "_law_short" (.own 496) := ge_own O ⟨by rfl, by rfl⟩
theorem e_law_length_right_L : GOk G "_law_length_right" (.own 503) := ge_own O ⟨by rfl, by rfl⟩
end
noncomputable def t414 : List (Str × Ent) := [("self", .loc), ("place", .loc), ("REAL", .val (.int 1)), ("range", .typ "range"), ("INTEGER", .val (.int 0))]
theorem a414 {G : Cfg} {p : Params} (O : Own G p) : AllOk G t414 := ⟨trivial, trivial, e_REAL O, e_range O, e_INTEGER O, trivial⟩
noncomputable def t86 : List (Str × Ent) := [("text", .loc), ("at", .loc), ("signs", .loc), ("end", .loc), ("len", .blt "len")]
theorem a86 {G : Cfg} {p : Params} (O : Own G p) : AllOk G t86 := ⟨trivial, trivial, trivial, trivial, e_len O, trivial⟩
noncomputable def t100 : List (Str × Ent) := [("digits", .loc), ("power", .loc), ("m", .loc), ("int", .typ "int")]
theorem a100 {G : Cfg} {p : Params} (O : Own G p) : AllOk G t100 := ⟨trivial, trivial, trivial, e_int O, trivial⟩
noncomputable def t107 : List (Str × Ent) := [("text", .loc), ("at", .loc), ("begun", .loc), ("end", .loc), ("power", .loc), ("len", .blt "len"), ("run_of", .own 86), ("DIGITS_lex", .val (.str (S DIG))), ("MOST_DIGITS", .val (.int 1000)), ("LexFault", .exc .lex), ("int", .typ "int")]
theorem a107 {G : Cfg} {p : Params} (O : Own G p) : AllOk G t107 := ⟨trivial, trivial, trivial, trivial, trivial, e_len O, e_run_of O, e_DIGITS_lex O, e_MOST_DIGITS O, e_LexFault O, e_int O, trivial⟩
noncomputable def t114 : List (Str × Ent) := [("text", .loc), ("at", .loc), ("end", .loc), ("digits", .loc), ("fraction", .loc), ("has_point", .loc), ("behind", .loc), ("letter", .loc), ("power", .loc), ("pair", .loc), ("run_of", .own 86), ("DIGITS_lex", .val (.str (S DIG))), ("len", .blt "len"), ("dotted_at", .own 93), ("power_at", .own 107), ("MOST_DIGITS", .val (.int 1000)), ("LexFault", .exc .lex), ("int", .typ "int"), ("told_pair", .own 100)]
theorem a114 {G : Cfg} {p : Params} (O : Own G p) : AllOk G t114 := ⟨trivial, trivial, trivial, trivial, trivial, trivial, trivial, trivial, trivial, trivial, e_run_of O, e_DIGITS_lex O, e_len O, e_dotted_at O, e_power_at O, e_MOST_DIGITS O, e_LexFault O, e_int O, e_told_pair O, trivial⟩
noncomputable def t128 : List (Str × Ent) := [("text", .loc), ("at", .loc), ("end", .loc), ("run_of", .own 86), ("LETTERS_lex", .val (.str (S LET))), ("DIGITS_lex", .val (.str (S DIG))), ("MOST_NAME", .val (.int 6)), ("LexFault", .exc .lex)]
theorem a128 {G : Cfg} {p : Params} (O : Own G p) : AllOk G t128 := ⟨trivial, trivial, trivial, e_run_of O, e_LETTERS_lex O, e_DIGITS_lex O, e_MOST_NAME O, e_LexFault O, trivial⟩
noncomputable def t142 : List (Str × Ent) := [("text", .loc), ("at", .loc), ("sign", .loc), ("end", .loc), ("LETTERS_lex", .val (.str (S LET))), ("name_at", .own 128), ("DIGITS_lex", .val (.str (S DIG))), ("number_at", .own 114), ("point_at", .own 135), ("quoted_at", .own 121), ("SIGNS", .val (.str (S SGN))), ("LexFault", .exc .lex)]
theorem a142 {G : Cfg} {p : Params} (O : Own G p) : AllOk G t142 := ⟨trivial, trivial, trivial, trivial, e_LETTERS_lex O, e_name_at O, e_DIGITS_lex O, e_number_at O, e_point_at O, e_quoted_at O, e_SIGNS O, e_LexFault O, trivial⟩
noncomputable def t149 : List (Str × Ent) := [("squeezed", .loc), ("out", .loc), ("at", .loc), ("token", .loc), ("len", .blt "len"), ("token_at", .own 142)]
theorem a149 {G : Cfg} {p : Params} (O : Own G p) : AllOk G t149 := ⟨trivial, trivial, trivial, trivial, e_len O, e_token_at O, trivial⟩
noncomputable def t156 : List (Str × Ent) := [("tokens", .loc), ("at", .loc), ("len", .blt "len")]
theorem a156 {G : Cfg} {p : Params} (O : Own G p) : AllOk G t156 := ⟨trivial, trivial, e_len O, trivial⟩
noncomputable def t163 : List (Str × Ent) := [("tokens", .loc), ("at", .loc), ("text", .loc), ("len", .blt "len")]
theorem a163 {G : Cfg} {p : Params} (O : Own G p) : AllOk G t163 := ⟨trivial, trivial, trivial, e_len O, trivial⟩
noncomputable def t170 : List (Str × Ent) := [("tokens", .loc), ("at", .loc), ("text", .loc), ("is_op", .own 163), ("SyntaxFault", .exc .syn)]
theorem a170 {G : Cfg} {p : Params} (O : Own G p) : AllOk G t170 := ⟨trivial, trivial, trivial, e_is_op O, e_SyntaxFault O, trivial⟩
noncomputable def t177 : List (Str × Ent) := [("tokens", .loc), ("at", .loc), ("kind_at", .own 156), ("SyntaxFault", .exc .syn)]
theorem a177 {G : Cfg} {p : Params} (O : Own G p) : AllOk G t177 := ⟨trivial, trivial, e_kind_at O, e_SyntaxFault O, trivial⟩
noncomputable def t184 : List (Str × Ent) := [("tokens", .loc), ("at", .loc), ("kind_at", .own 156), ("SyntaxFault", .exc .syn)]
theorem a184 {G : Cfg} {p : Params} (O : Own G p) : AllOk G t184 := ⟨trivial, trivial, e_kind_at O, e_SyntaxFault O, trivial⟩
noncomputable def t191 : List (Str × Ent) := [("tokens", .loc), ("at", .loc), ("len", .blt "len"), ("SyntaxFault", .exc .syn)]
theorem a191 {G : Cfg} {p : Params} (O : Own G p) : AllOk G t191 := ⟨trivial, trivial, e_len O, e_SyntaxFault O, trivial⟩
noncomputable def t206 : List (Str × Ent) := [("tokens", .loc), ("at", .loc), ("kind_at", .own 156), ("PRIORITIES", .oth)]
theorem a206 {G : Cfg} {p : Params} (O : Own G p) : AllOk G t206 := ⟨trivial, trivial, e_kind_at O, trivial, trivial⟩
noncomputable def t213 : List (Str × Ent) := [("tokens", .loc), ("at", .loc), ("parse_binary", .own 220), ("EQUIVALENCE", .val (.int 1))]
theorem a213 {G : Cfg} {p : Params} (O : Own G p) : AllOk G t213 := ⟨trivial, trivial, e_parse_binary O, e_EQUIVALENCE O, trivial⟩
noncomputable def t220 : List (Str × Ent) := [("tokens", .loc), ("at", .loc), ("least", .loc), ("tree", .loc), ("was_relation", .loc), ("level", .loc), ("op", .loc), ("right", .loc), ("parse_first", .own 227), ("priority_at", .own 206), ("RELATION", .val (.int 5)), ("SyntaxFault", .exc .syn), ("POWER", .val (.int 9)), ("parse_binary", .own 220)]
theorem a220 {G : Cfg} {p : Params} (O : Own G p) : AllOk G t220 := ⟨trivial, trivial, trivial, trivial, trivial, trivial, trivial, trivial, e_parse_first O, e_priority_at O, e_RELATION O, e_SyntaxFault O, e_POWER O, e_parse_binary O, trivial⟩
noncomputable def t227 : List (Str × Ent) := [("tokens", .loc), ("at", .loc), ("least", .loc), ("tree", .loc), ("sign", .loc), ("is_op", .own 163), ("NEGATION", .val (.int 4)), ("SyntaxFault", .exc .syn), ("parse_binary", .own 220), ("SUM", .val (.int 7)), ("parse_primary", .own 234)]
theorem a227 {G : Cfg} {p : Params} (O : Own G p) : AllOk G t227 := ⟨trivial, trivial, trivial, trivial, trivial, e_is_op O, e_NEGATION O, e_SyntaxFault O, e_parse_binary O, e_SUM O, e_parse_primary O, trivial⟩
noncomputable def t234 : List (Str × Ent) := [("tokens", .loc), ("at", .loc), ("kind", .loc), ("kind_at", .own 156), ("parse_named", .own 276), ("parse_bracket", .own 248), ("SyntaxFault", .exc .syn), ("constant_of", .own 241)]
theorem a234 {G : Cfg} {p : Params} (O : Own G p) : AllOk G t234 := ⟨trivial, trivial, trivial, e_kind_at O, e_parse_named O, e_parse_bracket O, e_SyntaxFault O, e_constant_of O, trivial⟩
noncomputable def t241 : List (Str × Ent) := [("kind", .loc), ("value", .loc), ("sign", .loc)]
theorem a241 {G : Cfg} {p : Params} (O : Own G p) : AllOk G t241 := ⟨trivial, trivial, trivial, trivial⟩
noncomputable def t276 : List (Str × Ent) := [("tokens", .loc), ("at", .loc), ("name", .loc), ("tree", .loc), ("rows", .loc), ("need_name", .own 177), ("is_op", .own 163), ("is_cut", .own 283), ("parse_arguments", .own 297), ("parse_cut", .own 290)]
theorem a276 {G : Cfg} {p : Params} (O : Own G p) : AllOk G t276 := ⟨trivial, trivial, trivial, trivial, trivial, e_need_name O, e_is_op O, e_is_cut O, e_parse_arguments O, e_parse_cut O, trivial⟩
noncomputable def t304 : List (Str × Ent) := [("row", .loc), ("out", .loc), ("depth", .loc), ("is_inside", .loc), ("sign", .loc)]
theorem a304 {G : Cfg} {p : Params} (O : Own G p) : AllOk G t304 := ⟨trivial, trivial, trivial, trivial, trivial, trivial⟩
noncomputable def t311 : List (Str × Ent) := [("row", .loc), ("at", .loc), ("levels", .loc), ("end", .loc), ("depths", .own 304), ("range", .typ "range"), ("len", .blt "len")]
theorem a311 {G : Cfg} {p : Params} (O : Own G p) : AllOk G t311 := ⟨trivial, trivial, trivial, trivial, e_depths O, e_range O, e_len O, trivial⟩
noncomputable def t318 : List (Str × Ent) := [("row", .loc), ("sign", .loc), ("parts", .loc), ("begin", .loc), ("levels", .loc), ("place", .loc), ("depths", .own 304), ("range", .typ "range"), ("len", .blt "len")]
theorem a318 {G : Cfg} {p : Params} (O : Own G p) : AllOk G t318 := ⟨trivial, trivial, trivial, trivial, trivial, trivial, e_depths O, e_range O, e_len O, trivial⟩
noncomputable def t332 : List (Str × Ent) := [("tokens", .loc), ("at", .loc), ("dims", .loc), ("is_more", .loc), ("bound", .loc), ("is_op", .own 163), ("len", .blt "len"), ("SyntaxFault", .exc .syn), ("parse_bound", .own 325), ("MOST_DIMENSIONS", .val (.int 7)), ("need_op", .own 170)]
theorem a332 {G : Cfg} {p : Params} (O : Own G p) : AllOk G t332 := ⟨trivial, trivial, trivial, trivial, trivial, e_is_op O, e_len O, e_SyntaxFault O, e_parse_bound O, e_MOST_DIMENSIONS O, e_need_op O, trivial⟩
noncomputable def t339 : List (Str × Ent) := [("tokens", .loc), ("at", .loc), ("number", .loc), ("tree", .loc), ("kind_at", .own 156), ("need_int", .own 184), ("SyntaxFault", .exc .syn), ("need_op", .own 170), ("is_op", .own 163), ("parse_expr", .own 213)]
theorem a339 {G : Cfg} {p : Params} (O : Own G p) : AllOk G t339 := ⟨trivial, trivial, trivial, trivial, e_kind_at O, e_need_int O, e_SyntaxFault O, e_need_op O, e_is_op O, e_parse_expr O, trivial⟩
noncomputable def t346 : List (Str × Ent) := [("text", .loc), ("at", .loc), ("tokens", .loc), ("length", .loc), ("end", .loc), ("len", .blt "len"), ("DIGITS_specs", .val (.str (S DIG))), ("closing", .own 311), ("SyntaxFault", .exc .syn), ("tokens_of", .own 149), ("parse_length", .own 339), ("need_end", .own 191)]
theorem a346 {G : Cfg} {p : Params} (O : Own G p) : AllOk G t346 := ⟨trivial, trivial, trivial, trivial, trivial, e_len O, e_DIGITS_specs O, e_closing O, e_SyntaxFault O, e_tokens_of O, e_parse_length O, e_need_end O, trivial⟩
noncomputable def t353 : List (Str × Ent) := [("tokens", .loc), ("at", .loc), ("is_text", .loc), ("name", .loc), ("dims", .loc), ("length", .loc), ("need_name", .own 177), ("parse_dims", .own 332), ("is_op", .own 163), ("parse_length", .own 339)]
theorem a353 {G : Cfg} {p : Params} (O : Own G p) : AllOk G t353 := ⟨trivial, trivial, trivial, trivial, trivial, trivial, e_need_name O, e_parse_dims O, e_is_op O, e_parse_length O, trivial⟩
noncomputable def t360 : List (Str × Ent) := [("kind", .loc), ("length", .loc), ("text", .loc), ("tokens", .loc), ("item", .loc), ("at", .loc), ("items", .loc), ("tokens_of", .own 149), ("parse_item", .own 353), ("CHARACTER", .val (.int 5)), ("is_op", .own 163), ("need_end", .own 191)]
theorem a360 {G : Cfg} {p : Params} (O : Own G p) : AllOk G t360 := ⟨trivial, trivial, trivial, trivial, trivial, trivial, trivial, e_tokens_of O, e_parse_item O, e_CHARACTER O, e_is_op O, e_need_end O, trivial⟩
noncomputable def t367 : List (Str × Ent) := [("text", .loc), ("length", .loc), ("rest", .loc), ("head_length", .own 346), ("parse_typed", .own 360), ("CHARACTER", .val (.int 5))]
theorem a367 {G : Cfg} {p : Params} (O : Own G p) : AllOk G t367 := ⟨trivial, trivial, trivial, e_head_length O, e_parse_typed O, e_CHARACTER O, trivial⟩
noncomputable def t381 : List (Str × Ent) := [("tokens", .loc), ("at", .loc), ("name", .loc), ("need_name", .own 177), ("len", .blt "len"), ("SyntaxFault", .exc .syn)]
theorem a381 {G : Cfg} {p : Params} (O : Own G p) : AllOk G t381 := ⟨trivial, trivial, trivial, e_need_name O, e_len O, e_SyntaxFault O, trivial⟩
noncomputable def t388 : List (Str × Ent) := [("text", .loc), ("tokens", .loc), ("at", .loc), ("letters", .loc), ("is_more", .loc), ("first", .loc), ("last", .loc), ("tokens_of", .own 149), ("need_op", .own 170), ("parse_letter", .own 381), ("is_op", .own 163), ("need_end", .own 191)]
theorem a388 {G : Cfg} {p : Params} (O : Own G p) : AllOk G t388 := ⟨trivial, trivial, trivial, trivial, trivial, trivial, trivial, e_tokens_of O, e_need_op O, e_parse_letter O, e_is_op O, e_need_end O, trivial⟩
noncomputable def t395 : List (Str × Ent) := [("text", .loc), ("word", .loc), ("kind", .loc), ("length", .loc), ("rest", .loc), ("TYPE_WORDS", .val (.list wordsPy)), ("len", .blt "len"), ("CHARACTER", .val (.int 5)), ("head_length", .own 346), ("SyntaxFault", .exc .syn), ("parse_letters", .own 388)]
theorem a395 {G : Cfg} {p : Params} (O : Own G p) : AllOk G t395 := ⟨trivial, trivial, trivial, trivial, trivial, e_TYPE_WORDS O, e_len O, e_CHARACTER O, e_head_length O, e_SyntaxFault O, e_parse_letters O, trivial⟩
noncomputable def t400 : List (Str × Ent) := [("text", .loc), ("split_open", .own 318)]
theorem a400 {G : Cfg} {p : Params} (O : Own G p) : AllOk G t400 := ⟨trivial, e_split_open O, trivial⟩
noncomputable def t421 : List (Str × Ent) := [("self", .loc), ("rules", .loc), ("kind", .loc), ("length", .loc), ("letters", .loc), ("first", .loc), ("last", .loc), ("tell_letters", .own 442), ("LETTERS_implicit", .val (.str (S LET)))]
theorem a421 {G : Cfg} {p : Params} (O : Own G p) : AllOk G t421 := ⟨trivial, trivial, trivial, trivial, trivial, trivial, trivial, e_tell_letters O, e_LETTERS_implicit O, trivial⟩
noncomputable def t428 : List (Str × Ent) := [("self", .loc), ("name", .loc), ("LETTERS_implicit", .val (.str (S LET)))]
theorem a428 {G : Cfg} {p : Params} (O : Own G p) : AllOk G t428 := ⟨trivial, trivial, e_LETTERS_implicit O, trivial⟩
noncomputable def t442 : List (Str × Ent) := [("implicit", .loc), ("rule", .loc), ("low", .loc), ("high", .loc), ("place", .loc), ("CheckFault", .exc .chk), ("range", .typ "range")]
theorem a442 {G : Cfg} {p : Params} (O : Own G p) : AllOk G t442 := ⟨trivial, trivial, trivial, trivial, trivial, e_CheckFault O, e_range O, trivial⟩
noncomputable def t449 : List (Str × Ent) := [("implicit", .loc), ("found", .loc), ("is_run", .loc), ("place", .loc), ("rule", .loc), ("letter", .loc), ("range", .typ "range"), ("LETTERS_implicit", .val (.str (S LET)))]
theorem a449 {G : Cfg} {p : Params} (O : Own G p) : AllOk G t449 := ⟨trivial, trivial, trivial, trivial, trivial, trivial, e_range O, e_LETTERS_implicit O, trivial⟩
noncomputable def t457 : List (Str × Ent) := [("pool", .loc), ("many", .loc), ("digit", .loc), ("len", .blt "len")]
theorem a457 {G : Cfg} {p : Params} (O : Own G p) : AllOk G t457 := ⟨trivial, trivial, trivial, e_len O, trivial⟩
noncomputable def t464 : List (Str × Ent) := [("pool", .loc), ("rules", .loc), ("turn", .loc), ("kind", .loc), ("size", .loc), ("letters", .loc), ("place", .loc), ("first", .loc), ("way", .loc), ("last", .loc), ("text", .loc), ("at", .loc), ("sign", .loc), ("range", .typ "range"), ("_law_take", .own 457), ("_law_letters", .val (.str (S LET))), ("_law_words", .val (.tuple (txts (WRDS.map (·.1))))), ("len", .blt "len")]
theorem a464 {G : Cfg} {p : Params} (O : Own G p) : AllOk G t464 := ⟨trivial, trivial, trivial, trivial, trivial, trivial, trivial, trivial, trivial, trivial, trivial, trivial, trivial, e_range O, e_law_take_L O, e_law_letters_L O, e_law_words_L O, e_len O, trivial⟩
noncomputable def t469 : List (Str × Ent) := [("text", .loc), ("found", .loc), ("part", .loc), ("ends", .loc), ("len", .blt "len")]
theorem a469 {G : Cfg} {p : Params} (O : Own G p) : AllOk G t469 := ⟨trivial, trivial, trivial, trivial, e_len O, trivial⟩
noncomputable def t474 : List (Str × Ent) := [("text", .loc), ("at", .loc), ("end", .loc), ("inner", .loc), ("is_name", .loc), ("len", .blt "len"), ("_law_digits", .val (.str (S DIG))), ("int", .typ "int"), ("_law_letters", .val (.str (S LET)))]
theorem a474 {G : Cfg} {p : Params} (O : Own G p) : AllOk G t474 := ⟨trivial, trivial, trivial, trivial, trivial, e_len O, e_law_digits_L O, e_int O, e_law_letters_L O, trivial⟩
noncomputable def t479 : List (Str × Ent) := [("text", .loc), ("found", .loc), ("depth", .loc), ("start", .loc), ("parts", .loc), ("at", .loc), ("part", .cell), ("kinds", .loc), ("left", .loc), ("is_right", .loc), ("length", .loc), ("letters", .loc), ("range", .typ "range"), ("len", .blt "len"), ("_law_words", .val (.tuple (txts (WRDS.map (·.1))))), ("_law_size", .own 474), ("_law_runs", .own 469)]
theorem a479 {G : Cfg} {p : Params} (O : Own G p) : AllOk G t479 := ⟨trivial, trivial, trivial, trivial, trivial, trivial, trivial, trivial, trivial, trivial, trivial, trivial, e_range O, e_len O, e_law_words_L O, e_law_size_L O, e_law_runs_L O, trivial⟩
noncomputable def t484 : List (Str × Ent) := [("text", .loc), ("at", .loc), ("end", .loc), ("inner", .loc), ("_law_digits", .val (.str (S DIG)))]
theorem a484 {G : Cfg} {p : Params} (O : Own G p) : AllOk G t484 := ⟨trivial, trivial, trivial, trivial, e_law_digits_L O, trivial⟩
noncomputable def t489 : List (Str × Ent) := [("own", .loc), ("told", .cell), ("rules", .loc), ("kind", .loc), ("length", .loc), ("letters", .loc), ("first", .loc), ("last", .loc), ("run", .loc), ("place", .loc), ("range", .typ "range"), ("_law_letters", .val (.str (S LET))), ("len", .blt "len")]
theorem a489 {G : Cfg} {p : Params} (O : Own G p) : AllOk G t489 := ⟨trivial, trivial, trivial, trivial, trivial, trivial, trivial, trivial, trivial, trivial, e_range O, e_law_letters_L O, e_len O, trivial⟩
noncomputable def t496 : List (Str × Ent) := [("own", .loc), ("told", .loc), ("found", .loc), ("place", .loc), ("start", .loc), ("range", .typ "range"), ("_law_letters", .val (.str (S LET)))]
theorem a496 {G : Cfg} {p : Params} (O : Own G p) : AllOk G t496 := ⟨trivial, trivial, trivial, trivial, trivial, e_range O, e_law_letters_L O, trivial⟩
noncomputable def t503 : List (Str × Ent) := [("pool", .loc), ("size", .loc), ("name", .loc), ("comma", .loc), ("heard", .loc), ("_law_take", .own 457), ("parse_character", .own 367), ("str", .typ "str"), ("F77Error", .oth)]
theorem a503 {G : Cfg} {p : Params} (O : Own G p) : AllOk G t503 := ⟨trivial, trivial, trivial, trivial, trivial, e_law_take_L O, e_parse_character O, e_str O, trivial, trivial⟩
noncomputable def t508 : List (Str × Ent) := [("script", .loc), ("pool", .loc), ("implicit", .cell), ("own", .loc), ("told", .loc), ("turn", .loc), ("text", .loc), ("due", .loc), ("heard", .loc), ("is_told", .loc), ("was_told", .loc), ("short", .loc), ("again", .loc), ("Implicit", .oth), ("range", .typ "range"), ("_law_take", .own 457), ("_law_row", .own 464), ("_law_simple", .own 484), ("_law_rules", .own 479), ("parse_implicit", .own 400), ("F77Error", .oth), ("_law_add", .own 489), ("CheckFault", .exc .chk), ("_law_letters", .val (.str (S LET))), ("told_rules", .own 449), ("_law_short", .own 496), ("_law_length_right", .own 503)]
theorem a508 {G : Cfg} {p : Params} (O : Own G p) : AllOk G t508 := ⟨trivial, trivial, trivial, trivial, trivial, trivial, trivial, trivial, trivial, trivial, trivial, trivial, trivial, trivial, e_range O, e_law_take_L O, e_law_row_L O, e_law_simple_L O, e_law_rules_L O, e_parse_implicit O, trivial, e_law_add_L O, e_CheckFault O, e_law_letters_L O, e_told_rules O, e_law_short_L O, e_law_length_right_L O, trivial⟩
end P279
end
section
open PySem PySem.W PyProof.Rows PySem.Spec PySem.Calls PySem.Builtin PySem.Builtin.Str
set_option maxHeartbeats 400000
namespace P279
theorem lok {n : Nat} (h : n ≤ 1000) : n ≤ 16777216 := Nat.le_trans h (by decide)
theorem lok6 {n : Nat} (h : n ≤ 600) : n ≤ 16777216 := Nat.le_trans h (by decide)
theorem go_str {Γ : Fr} {v : T} {x : List Nat} {i n : Nat} (hx : x[i]? = some n) (hi : i < 2 ^ 63) (g : Good Γ (v.k (.t (.str (S [n]))) v.mu)) (e : v.o = .item (.t (.str (S x))) (.t (.int (i : Int))) := by exact rfl) : Good Γ v :=
  go_op _ (fun Q h => by rw [e]; exact SI_strN hi hx h) g
theorem d_lt {a b : Nat} (h : a < b) : decide ((a : Int) < b) = true := decide_eq_true (Int.ofNat_lt.mpr h)
theorem d_nlt {a b : Nat} (h : ¬ a < b) : decide ((a : Int) < b) = false := decide_eq_false fun e => h (Int.ofNat_lt.mp e)
theorem d_ge {a b : Nat} (h : b ≤ a) : decide ((a : Int) ≥ b) = true := decide_eq_true (Int.ofNat_le.mpr h)
theorem d_nge {a b : Nat} (h : a < b) : decide ((a : Int) ≥ b) = false := decide_eq_false fun e => Nat.not_le_of_lt h (Int.ofNat_le.mp e)
theorem d_gt {a b : Nat} (h : b < a) : decide ((a : Int) > b) = true := decide_eq_true (Int.ofNat_lt.mpr h)
theorem d_ngt {a b : Nat} (h : a ≤ b) : decide ((a : Int) > b) = false := decide_eq_false fun e => Nat.not_lt_of_le h (Int.ofNat_lt.mp e)
theorem d_eq {a b : Nat} (h : a = b) : ((a : Int) == b) = true := by rw [h]; exact beq_self_eq_true _
theorem d_neq {a b : Nat} (h : a ≠ b) : ((a : Int) == b) = false := beq_eq_false_iff_ne.mpr fun e => h (Int.ofNat.inj e)
theorem s_eq {a b : List Nat} (h : a = b) : (S a == S b) = true := by rw [h]; exact beq_self_eq_true _
theorem s_neq {a b : List Nat} (h : a ≠ b) : (S a == S b) = false := beq_eq_false_iff_ne.mpr fun e => h (S_inj e)
theorem c_eq {a b : Nat} (h : a = b) : (S [a] == S [b]) = true := s_eq (by rw [h])
theorem c_neq {a b : Nat} (h : a ≠ b) : (S [a] == S [b]) = false := s_neq fun e => h (by injection e)
theorem bind1 {fd : FuncData} {a : Str} (h : ∀ x, bindArgs fd ⟨[x], []⟩ = pure [(a, x)]) : ∀ vals : List Value, vals.length = [a].length → bindArgs fd ⟨vals, []⟩ = pure ([a].zip vals) := by
  intro vals hv; obtain ⟨x, rfl⟩ := len1 hv; exact h x
theorem bind2 {fd : FuncData} {a b : Str} (h : ∀ x y, bindArgs fd ⟨[x, y], []⟩ = pure [(a, x), (b, y)]) : ∀ vals : List Value, vals.length = [a, b].length → bindArgs fd ⟨vals, []⟩ = pure ([a, b].zip vals) := by
  intro vals hv; obtain ⟨x, y, rfl⟩ := len2 hv; exact h x y
theorem bind3 {fd : FuncData} {a b c : Str} (h : ∀ x y z, bindArgs fd ⟨[x, y, z], []⟩ = pure [(a, x), (b, y), (c, z)]) : ∀ vals : List Value, vals.length = [a, b, c].length → bindArgs fd ⟨vals, []⟩ = pure ([a, b, c].zip vals) := by
  intro vals hv; obtain ⟨x, y, z, rfl⟩ := len3 hv; exact h x y z
theorem bind4 {fd : FuncData} {a b c d : Str} (h : ∀ x y z u, bindArgs fd ⟨[x, y, z, u], []⟩ = pure [(a, x), (b, y), (c, z), (d, u)]) : ∀ vals : List Value, vals.length = [a, b, c, d].length → bindArgs fd ⟨vals, []⟩ = pure ([a, b, c, d].zip vals) := by
  intro vals hv; obtain ⟨x, y, z, u, rfl⟩ := len4 hv; exact h x y z u
section
variable {G : Cfg} {p : Params}
noncomputable def runLen (signs l : List Nat) : Nat := (l.takeWhile (· ∈ signs)).length
theorem runLen_cons {signs l : List Nat} {x : Nat} : runLen signs (x :: l) = if x ∈ signs then runLen signs l + 1 else 0 := by
  unfold runLen
  rw [List.takeWhile_cons]
  by_cases h : x ∈ signs <;> simp [h]
theorem runLen_le (signs l : List Nat) : runLen signs l ≤ l.length := by
  induction l with
  | nil => exact Nat.le_refl _
  | cons x l ih => rw [runLen_cons, List.length_cons]; split <;> lia
theorem runLen_drop {signs x : List Nat} {e : Nat} (h : e < x.length) : runLen signs (x.drop e) = if x[e] ∈ signs then runLen signs (x.drop (e + 1)) + 1 else 0 := by
  rw [List.drop_eq_getElem_cons h, runLen_cons]
theorem ok_run_of (O : Own G p) {x signs : List Nat} {at_ : Nat} (hx : x.length ≤ 1000) : Ret G 86 [.t (.str (S x)), .t (.int at_), .t (.str (S signs))] 1
    (some (.t (.int ((at_ + runLen signs (x.drop at_) : Nat))))) := by
  refine ret_body O ["text", "at", "signs"] t86 (by rfl) (by rfl) (bind3 fun _ _ _ => by rfl) rfl (by decide) (by decide) (by decide) (by rfl) (by rfl) (a86 O) (fun Γ k ok W F => ?_)
  refine go_while ok (σ := Nat) ["end", "text", "signs"] (fun n e => n = x.length - e ∧ e + runLen signs (x.drop e) = at_ + runLen signs (x.drop at_)) (fun e => [.t (.int e), .t (.str (S x)), .t (.str (S signs))]) (fun _ => []) ⟨_, at_, ⟨rfl, rfl⟩, rfl, rfl⟩ ?_
  rintro n e ag ⟨rfl, h3⟩ ha
  refine go_ask (lok hx) ?_
  by_cases hlt : e < x.length
  · refine go_t (yes (d_lt hlt)) ?_
    refine go_str (List.getElem?_eq_getElem hlt) (by lia) ?_
    rw [runLen_drop hlt] at h3
    by_cases hin : x[e] ∈ signs
    · rw [if_pos hin] at h3
      refine go_t (yes (decide_eq_true hin)) ?_
      exact ha _ (e + 1) _ _ (by lia) ⟨rfl, by lia⟩ rfl rfl
    · rw [if_neg hin] at h3
      refine go_f (no (decide_eq_false hin)) ?_
      exact F.ret (by rw [← h3]; rfl)
  · refine go_f (no (d_nlt hlt)) ?_
    exact F.ret (by rw [← h3, List.drop_eq_nil_of_le (by lia)]; rfl)
end
end P279
end
section
open PySem PySem.W PyProof.Rows PySem.Spec PySem.Calls PySem.Builtin PySem.Builtin.Str
set_option maxHeartbeats 400000
namespace P279
section
variable {G : Cfg} {c : Act} {m : Loc} {μ : Mut} {E : Cl → Mut → Prop} {Q : Option Int → Mut → Prop}
end
section
variable {G : Cfg} {p : Params}
end
section
variable {G : Cfg} {p : Params}
noncomputable def strip : Nat → Nat → Int → Nat × Int
  | 0, m, p => (m, p)
  | f + 1, m, p => if m % 10 = 0 then strip f (m / 10) (p + 1) else (m, p)
theorem strip_done {f m : Nat} {p : Int} (h : m % 10 ≠ 0) : strip f m p = (m, p) := by
  cases f with
  | zero => rfl
  | succ f => simp [strip, h]
noncomputable def toldPair (d : List Nat) (p : Int) : PyData :=
  if NumText.digitsVal d = 0 then .tuple [.int 0, .int 0] else .tuple [.int ((strip (NumText.digitsVal d) (NumText.digitsVal d) p).1 : Nat), .int (strip (NumText.digitsVal d) (NumText.digitsVal d) p).2]
theorem fmod10 (m : Nat) : ((m : Int).fmod 10 == 0) = decide (m % 10 = 0) := by
  rw [Int.fmod_eq_emod_of_nonneg _ (by decide)]
  by_cases h : m % 10 = 0
  · rw [decide_eq_true h]; have : (m : Int) % 10 = 0 := by lia
    rw [this]; rfl
  · rw [decide_eq_false h]; have : (m : Int) % 10 ≠ 0 := by lia
    exact beq_eq_false_iff_ne.mpr this
theorem fdiv10 (m : Nat) : (m : Int).fdiv 10 = ((m / 10 : Nat) : Int) := by
  rw [Int.fdiv_eq_ediv_of_nonneg _ (by decide)]; lia
theorem ok_told_pair (O : Own G p) {x : List Nat} {q : Int} (hd : NumText.AllDigits x) (h0 : x ≠ []) (hl : x.length ≤ 640) : Ret G 100 [.t (.str (S x)), .t (.int q)] 1
    (some (.t (toldPair x q))) := by
  refine ret_body O ["digits", "power"] t100 (by rfl) (by rfl) (bind2 fun _ _ => by rfl) rfl (by decide) (by decide) (by decide) (by rfl) (by rfl) (a100 O) (fun Γ k ok W F => ?_)
  refine go_let ?_; intro vv; refine go_op _ (fun Q h => SL_int hd h0 hl h) ?_
  unfold toldPair at F
  generalize NumText.digitsVal x = M at F ⊢
  by_cases hM : M = 0
  · refine go_let ?_; intro vv; refine go_t (yes (by rw [hM]; rfl)) ?_
    exact F.ret (by rw [if_pos hM])
  · rw [if_neg hM] at F
    refine go_f (no (by simpa using hM)) ?_
    refine go_let ?_; intro vv; refine go_while ok (σ := Nat × Int) ["m", "power"] (fun n s => n = s.1 ∧ 0 < s.1 ∧ ∃ f, s.1 ≤ f ∧ strip f s.1 s.2 = strip M M q) (fun s => [.t (.int s.1), .t (.int s.2)]) (fun _ => []) ⟨_, (M, q), ⟨rfl, Nat.pos_of_ne_zero hM, M, Nat.le_refl _, rfl⟩, rfl, rfl⟩ ?_
    rintro n ⟨_, r⟩ ag ⟨rfl, h1, f, h2, h3⟩ ha
    dsimp only at ha h1 h2 h3
    refine go_let ?_; intro vv; refine go_op _ (fun Q h => S2_mod (by decide) h) ?_
    by_cases h10 : n % 10 = 0
    · refine go_t (yes (by rw [fmod10]; exact decide_eq_true h10)) ?_
      refine go_let ?_; intro vv; refine go_op (.t (.int ((n / 10 : Nat) : Int))) (fun Q h => S2_idiv (by decide) (by decide) (by rw [fdiv10]; exact h)) ?_
      cases f with
      | zero => lia
      | succ f =>
        rw [strip, if_pos h10] at h3
        exact ha _ (n / 10, r + 1) _ _ (show n / 10 < n by lia) ⟨rfl, show 0 < n / 10 by lia, f, show n / 10 ≤ f by lia, h3⟩ rfl rfl
    · refine go_let ?_; intro vv; refine go_f (no (by rw [fmod10]; exact decide_eq_false h10)) ?_
      rw [strip_done h10] at h3
      exact F.ret (by rw [← h3])
noncomputable def sgnLen : List Nat → Nat
  | s :: _ => if s = 43 ∨ s = 45 then 1 else 0
  | [] => 0
noncomputable def powAt : List Nat → List Nat × Int × Nat
  | c :: r => if c = 69 ∨ c = 68 then
      if runLen DIG (r.drop (sgnLen r)) = 0 then ([], 0, 0) else ([c], (if r.head? = some 45 then -(NumText.digitsVal ((r.drop (sgnLen r)).take (runLen DIG (r.drop (sgnLen r)))) : Int) else (NumText.digitsVal ((r.drop (sgnLen r)).take (runLen DIG (r.drop (sgnLen r)))) : Int)), 1 + sgnLen r + runLen DIG (r.drop (sgnLen r)))
    else ([], 0, 0)
  | [] => ([], 0, 0)
end
end P279
end
section
open PySem PySem.W PyProof.Rows PySem.Spec PySem.Calls PySem.Builtin PySem.Builtin.Str
set_option maxHeartbeats 400000
namespace P279
section
variable {G : Cfg} {p : Params}
theorem takeRun_digits (l : List Nat) : NumText.AllDigits (l.take (runLen DIG l)) := by
  induction l with
  | nil => intro c hc; simp at hc
  | cons x l ih =>
    rw [runLen_cons]
    split
    · rename_i hx
      intro c hc
      rw [List.take_succ_cons] at hc
      rcases List.mem_cons.mp hc with rfl | hc
      · revert hx; simp only [DIG, List.mem_cons, List.not_mem_nil, or_false]; rintro (rfl|rfl|rfl|rfl|rfl|rfl|rfl|rfl|rfl|rfl) <;> decide
      · exact ih c hc
    · intro c hc; simp at hc
noncomputable def powPy (q : List Nat × Int × Nat) (e : Nat) : PyData := .tuple [.str (S q.1), .int q.2.1, .int (e + q.2.2 : Nat)]
theorem ok_power_at (O : Own G p) {x : List Nat} {at_ : Nat} (hx : x.length ≤ 600) : Ret G 107 [.t (.str (S x)), .t (.int at_)] 2
    (some (.t (powPy (powAt (x.drop at_)) at_))) := by
  refine ret_body O ["text", "at"] t107 (by rfl) (by rfl) (bind2 fun _ _ => by rfl) rfl (by decide) (by decide) (by decide) (by rfl) (by rfl) (a107 O) (fun Γ k ok W F => ?_)
  refine go_let ?_; intro vv; refine go_ask (lok6 hx) ?_
  by_cases h1 : at_ < x.length
  · refine go_f (no (d_nge h1)) ?_
    refine go_let ?_; intro vv; refine go_str (List.getElem?_eq_getElem h1) (by lia) ?_
    rw [List.drop_eq_getElem_cons h1] at F
    have hc : x[at_]? = some x[at_] := List.getElem?_eq_getElem h1
    generalize x[at_] = c at hc F ⊢
    by_cases hED : c = 69 ∨ c = 68
    · refine go_let ?_; intro vv; refine go_f (no (by rcases hED with rfl | rfl <;> rfl)) ?_
      obtain ⟨bb, hbb⟩ : ∃ bb : Nat, bb = sgnLen (x.drop (at_ + 1)) := ⟨_, rfl⟩
      refine go_let ?_; intro vv; refine go_fork ok (σ := Unit) ["text", "at", "begun"] (fun _ => at_ + 1 + bb ≤ x.length) (fun _ => [.t (.str (S x)), .t (.int at_), .t (.int (at_ + 1 + bb : Nat))]) (fun _ => []) (fun ag ha => ?_) (fun _ hb => ?_)
      · refine go_let ?_; intro vv; refine go_ask (lok6 hx) ?_
        by_cases h2 : at_ + 1 < x.length
        · rw [List.drop_eq_getElem_cons h2, sgnLen] at hbb
          refine go_t (yes (d_lt (a := at_ + 1) h2)) ?_
          refine go_let ?_; intro vv; refine go_str (i := at_ + 1) (List.getElem?_eq_getElem h2) (by lia) ?_
          generalize x[at_ + 1] = y at hbb ⊢
          by_cases hy : y = 43 ∨ y = 45
          · rw [if_pos hy] at hbb; subst hbb
            refine go_let ?_; intro vv; refine go_t (yes (by rcases hy with rfl | rfl <;> rfl)) ?_
            exact ha () _ _ (by assumption) rfl rfl
          · rw [if_neg hy] at hbb; subst hbb
            refine go_let ?_; intro vv; refine go_f (no (decide_eq_false (fun h => hy (by simpa using (show y ∈ [43, 45] from h))))) ?_
            exact ha () _ _ (by assumption) rfl rfl
        · rw [List.drop_eq_nil_of_le (by lia), sgnLen] at hbb
          subst hbb
          refine go_let ?_; intro vv; refine go_f (no (d_nlt (a := at_ + 1) h2)) ?_
          exact ha () _ _ (by assumption) rfl rfl
      · refine go_let ?_; intro vv; refine go_call (ok_run_of O (x := x) (at_ := at_ + 1 + bb) (signs := DIG) (by exact Nat.le_trans ‹_› (by decide))) W ?_
        have e0 : x.drop (at_ + 1 + bb) = (x.drop (at_ + 1)).drop bb := by rw [List.drop_drop]
        rw [e0]
        generalize hr0 : x.drop (at_ + 1) = r at hbb e0 F ⊢
        have hkl := runLen_le DIG (r.drop bb)
        have hlen : (r.drop bb).length ≤ 600 := by rw [← hr0, List.length_drop, List.length_drop]; omega
        generalize hk : runLen DIG (r.drop bb) = l at hkl ⊢
        by_cases hk0 : l = 0
        · refine go_let ?_; intro vv; refine go_t (yes (d_eq (by lia))) ?_
          exact F.ret (by simp only [powAt, if_pos hED, ← hbb, hk, if_pos hk0]; rfl)
        · refine go_f (no (d_neq (by lia))) ?_
          refine go_let ?_; intro vv; refine go_f (no (decide_eq_false (by lia))) ?_
          have e1 : slc x (some (((at_ + 1 + bb : Nat)) : Int)) (some ((at_ + 1 + bb + l : Nat) : Int)) = (r.drop bb).take l := by
            rw [slc_mid _ _ _ (by exact Int.natCast_nonneg _) (by exact Int.natCast_nonneg _), Int.toNat_natCast, Int.toNat_natCast, e0, Nat.add_sub_cancel_left]
          refine go_slice (Nat.le_trans hx (by decide)) e1 ?_
          refine go_let ?_; intro vv; refine go_op _ (fun Q h => SL_int (hk ▸ takeRun_digits _) (by intro e; have e' := congrArg List.length e; rw [List.length_take] at e'; simp only [List.length_nil] at e'; lia) (by rw [List.length_take]; lia) h) ?_
          have hrne : r ≠ [] := by rintro rfl; simp at hkl; lia
          obtain ⟨y, r', rfl⟩ := List.exists_cons_of_ne_nil hrne
          have hy : x[at_ + 1]? = some y := by rw [← List.head?_drop, hr0]; rfl
          refine go_let ?_; intro vv; refine go_fork ok (σ := Unit) ["text", "at", "power", "end"] (fun _ => True) (fun _ => [.t (.str (S x)), .t (.int at_), .t (.int (if (y :: r').head? = some 45 then -(NumText.digitsVal (((y :: r').drop bb).take l) : Int) else (NumText.digitsVal (((y :: r').drop bb).take l) : Int))), .t (.int (at_ + 1 + bb + l : Nat))]) (fun _ => []) (fun ag ha => ?_) (fun _ _ => ?_)
          · refine go_let ?_; intro vv; refine go_str (i := at_ + 1) hy (by lia) ?_
            by_cases h45 : y = 45
            · refine go_let ?_; intro vv; refine go_t (yes (c_eq h45)) ?_
              exact ha () _ _ trivial (by rw [if_pos (by rw [h45]; rfl)]; rfl) rfl
            · refine go_let ?_; intro vv; refine go_f (no (c_neq h45)) ?_
              exact ha () _ _ trivial (by rw [if_neg (by simpa using h45)]; rfl) rfl
          · refine go_let ?_; intro vv; refine go_str hc (by lia) ?_
            exact F.ret (by simp only [powAt, if_pos hED, ← hbb, hk, if_neg hk0, powPy]; rw [show at_ + (1 + bb + l) = at_ + 1 + bb + l by lia])
    · refine go_let ?_; intro vv; refine go_t (yes (by rw [Bool.not_eq_true']; exact decide_eq_false (fun h => hED (by simpa using (show c ∈ [69, 68] from h))))) ?_
      exact F.ret (by simp only [powAt, if_neg hED]; rfl)
  · refine go_let ?_; intro vv; refine go_t (yes (d_ge (Nat.le_of_not_lt h1))) ?_
    exact F.ret (by rw [List.drop_eq_nil_of_le (by lia)]; rfl)
end
end P279
end
section
open PySem PySem.W PyProof.Rows PySem.Spec PySem.Calls PySem.Builtin PySem.Builtin.Str
set_option maxHeartbeats 400000
namespace P279
theorem k6 {n : Nat} (h : n ≤ 600) : n ≤ 1000 := Nat.le_trans h (by decide)
theorem go_cut {Γ : Fr} {v : T} {x y : List Nat} {lo hi : Option Int} (e : slc x lo hi = y) (g : Good Γ (v.k (.t (.str (S y))) v.mu)) (h2 : v.o = .cut x lo hi := by exact rfl) : Good Γ v :=
  go_op _ (fun Q h => by rw [h2]; show Q (.t (.str (S (slc x lo hi)))) _; rw [e]; exact h) g
inductive Tk where
  | name (s : List Nat)
  | int (n : Nat)
  | real (k : Bool) (v : PyData)
  | op (s : List Nat)
noncomputable def Tk.kind : Tk → Str
  | .name _ => "NAME"
  | .int _ => "INT"
  | .real true _ => "DBLE"
  | .real false _ => "REAL"
  | .op _ => "OP"
noncomputable def Tk.val : Tk → PyData
  | .name s => .str (S s)
  | .int n => .int n
  | .real _ v => v
  | .op s => .str (S s)
noncomputable def Tk.py (t : Tk) (at_ : Nat) : PyData := .tuple [.str t.kind, t.val, .int at_]
noncomputable def LD : List Nat := LET ++ DIG
noncomputable def numAt (s : List Nat) : Tk × Nat :=
  if (powAt (s.drop (runLen DIG s))).1 = [] then (.int (NumText.digitsVal (s.take (runLen DIG s))), runLen DIG s + (powAt (s.drop (runLen DIG s))).2.2)
  else (.real ((powAt (s.drop (runLen DIG s))).1 == [68]) (toldPair (s.take (runLen DIG s)) (powAt (s.drop (runLen DIG s))).2.1), runLen DIG s + (powAt (s.drop (runLen DIG s))).2.2)
noncomputable def tokAt : List Nat → Option (Tk × Nat)
  | [] => none
  | c :: r => if c ∈ LET then if runLen LD (c :: r) > 6 then none else some (.name ((c :: r).take (runLen LD (c :: r))), runLen LD (c :: r))
    else if c ∈ DIG then some (numAt (c :: r))
    else if c = 42 ∧ r.head? = some 42 then some (.op [42, 42], 2) else some (.op [c], 1)
noncomputable def lexF : Nat → List Nat → Nat → Option (List (Tk × Nat))
  | 0, _, _ => some []
  | _ + 1, [], _ => some []
  | f + 1, c :: r, e => match tokAt (c :: r) with
    | none => none
    | some (t, n) => (lexF f ((c :: r).drop n) (e + n)).map ((t, e) :: ·)
noncomputable def pys (ts : List (Tk × Nat)) : List PyData := ts.map fun p => p.1.py p.2
noncomputable def ALP : List Nat := LET ++ DIG ++ [40, 41, 44, 45, 42]
noncomputable def Alp (x : List Nat) : Prop := ∀ c ∈ x, c ∈ ALP
theorem Alp.drop {x : List Nat} (h : Alp x) (n : Nat) : Alp (x.drop n) := fun c hc => h c (List.mem_of_mem_drop hc)
theorem Alp.take {x : List Nat} (h : Alp x) (n : Nat) : Alp (x.take n) := fun c hc => h c (List.mem_of_mem_take hc)
theorem Alp.noDot {x : List Nat} (h : Alp x) : ∀ c ∈ x, c ≠ 46 := fun c hc e => by subst e; exact absurd (h _ hc) (by decide)
theorem S2_addSS {G : Cfg} {c : Act} {m : Loc} {μ : Mut} {E : Cl → Mut → Prop} {Q : D → Mut → Prop} {x y : List Nat} (hl : x.length + y.length ≤ 16777216) (h : Q (.t (.str (S (x ++ y)))) μ) : S2 G c (binaryOp .Add) (.t (.str (S x))) (.t (.str (S y))) m μ Q E :=
  S2_addS hl (by rw [S_app]; exact h)
section
variable {G : Cfg} {p : Params}
theorem powAt_len (s : List Nat) : (powAt s).2.2 ≤ s.length := by
  cases s with
  | nil => exact Nat.le_refl _
  | cons c r =>
    simp only [powAt]
    have h1 : sgnLen r ≤ r.length := by cases r <;> simp [sgnLen]; split <;> lia
    have h2 := runLen_le DIG (r.drop (sgnLen r))
    rw [List.length_drop] at h2
    split
    · by_cases h3 : runLen DIG (r.drop (sgnLen r)) = 0
      · rw [if_pos h3]; simp
      · rw [if_neg h3]; simp only [List.length_cons]; lia
    · simp
theorem ok_number_at (O : Own G p) {x : List Nat} {at_ : Nat} (hx : x.length ≤ 600) (ha : Alp x) (h1 : at_ < x.length) (hd : x[at_] ∈ DIG) : Ret G 114 [.t (.str (S x)), .t (.int at_)] 3
    (some (.t (.tuple [(numAt (x.drop at_)).1.py at_, .int (at_ + (numAt (x.drop at_)).2 : Nat)]))) := by
  refine ret_body O ["text", "at"] t114 (by rfl) (by rfl) (bind2 fun _ _ => by rfl) rfl (by decide) (by decide) (by decide) (by rfl) (by rfl) (a114 O) (fun Γ k ok W F => ?_)
  refine go_let ?_; intro vv; refine go_call (ok_run_of O (k6 hx)) W ?_
  have h0 : 0 < runLen DIG (x.drop at_) := by rw [runLen_drop h1, if_pos hd]; lia
  have hn := runLen_le DIG (x.drop at_)
  have e1 : slc x (some (at_ : Int)) (some ((at_ + runLen DIG (x.drop at_) : Nat) : Int)) = (x.drop at_).take (runLen DIG (x.drop at_)) := by
    rw [slc_mid _ _ _ (by exact Int.natCast_nonneg _) (by exact Int.natCast_nonneg _), ar_tn]; rfl
  refine go_slice (k6 hx) e1 ?_
  have hdig := takeRun_digits (x.drop at_)
  have e2 : x.drop (at_ + runLen DIG (x.drop at_)) = (x.drop at_).drop (runLen DIG (x.drop at_)) := by rw [List.drop_drop]
  have hlen : (x.drop at_).length = x.length - at_ := List.length_drop ..
  unfold numAt at F
  clear e1
  generalize x.drop at_ = s at e2 hlen hdig hn h0 F ⊢
  generalize hk : runLen DIG s = l at e2 hlen hdig hn h0 F ⊢
  have hne : s.take l ≠ [] := by
    intro e; have e' := congrArg List.length e; rw [List.length_take] at e'; simp only [List.length_nil] at e'; lia
  have hle : (s.take l).length ≤ 640 := by rw [List.length_take]; lia
  have hq := powAt_len (s.drop l)
  rw [List.length_drop] at hq
  refine go_val ok (.t (.bool false)) (fun ag ha' => ?_) ?_
  · replace ha' : Good Γ (ag (.t (.bool false)) []) := ha'
    refine go_ask (lok6 hx) ?_
    by_cases h2 : at_ + l < x.length
    · refine go_t (yes (d_lt h2)) ?_
      refine go_str (List.getElem?_eq_getElem h2) (by lia) ?_
      refine go_f (no (c_neq (ha.noDot _ (List.getElem_mem h2)))) ?_
      exact ha'
    · refine go_f (no (d_nlt h2)) ?_
      exact ha'
  refine go_if ok (go_f (no rfl) ?_)
  refine go_call (ok_power_at O hx) W ?_
  rw [e2]
  generalize powAt (s.drop l) = q at hq F ⊢
  obtain ⟨c, e, len⟩ := q
  dsimp only at hq F
  refine go_f (no (decide_eq_false (show ¬ (((at_ + l + len : Nat) : Int) - at_ > 1000) by lia))) ?_
  refine go_let ?_; intro vv; refine go_f (no rfl) ?_
  by_cases hl : c = []
  · subst hl
    refine go_t (yes rfl) ?_
    refine go_let ?_; intro vv; refine go_op _ (fun Q h => SL_int hdig hne hle h) ?_
    exact F.ret (by rw [if_pos rfl, Nat.add_assoc]; rfl)
  · rw [if_neg hl] at F
    refine go_f (no (s_neq (b := []) hl)) ?_
    refine go_let ?_; intro vv; refine go_op (.t (.str (S (s.take l)))) (fun Q h => S2_addSS (x := s.take l) (y := []) (by rw [List.length_nil]; exact Nat.le_trans ‹_› (by decide)) (by rw [List.append_nil]; exact h)) ?_
    refine go_ask (show 0 ≤ 16777216 by decide) ?_
    refine go_let ?_; intro vv; refine go_call (ok_told_pair O (q := e - 0) hdig hne hle) W ?_
    rw [Int.sub_zero]
    by_cases hD : c = [68]
    · refine go_let ?_; intro vv; refine go_t (yes (s_eq (b := [68]) hD)) ?_
      exact F.ret (by rw [Nat.add_assoc, hD]; rfl)
    · refine go_let ?_; intro vv; refine go_f (no (s_neq (b := [68]) hD)) ?_
      exact F.ret (by rw [show (c == [68]) = false by simpa using hD, Nat.add_assoc]; rfl)
end
end P279
end
section
open PySem PySem.W PyProof.Rows PySem.Spec PySem.Calls PySem.Builtin PySem.Builtin.Str
set_option maxHeartbeats 400000
namespace P279
theorem d_in {l : List Nat} {n : Nat} (h : n ∈ l) : decide (n ∈ (S l).cps.toList) = true := decide_eq_true h
theorem d_nin {l : List Nat} {n : Nat} (h : n ∉ l) : decide (n ∈ (S l).cps.toList) = false := decide_eq_false h
section
variable {G : Cfg} {p : Params}
theorem runLD_pos {c : Nat} {r : List Nat} (h : c ∈ LET) : 0 < runLen LD (c :: r) := by
  rw [runLen_cons, if_pos (show c ∈ LD from List.mem_append_left _ h)]; lia
theorem ok_name_at (O : Own G p) {x : List Nat} {at_ : Nat} (hx : x.length ≤ 600) : Ret G 128 [.t (.str (S x)), .t (.int at_)] 3
    (if runLen LD (x.drop at_) > 6 then none else some (.t (.tuple [(Tk.name ((x.drop at_).take (runLen LD (x.drop at_)))).py at_, .int (at_ + runLen LD (x.drop at_) : Nat)]))) := by
  refine ret_body O ["text", "at"] t128 (by rfl) (by rfl) (bind2 fun _ _ => by rfl) rfl (by decide) (by decide) (by decide) (by rfl) (by rfl) (a128 O) (fun Γ k ok W F => ?_)
  refine go_let ?_; intro vv; refine go_op (.t (.str (S LD))) (fun Q h => S2_addSS (x := LET) (y := DIG) (by decide) h) ?_
  refine go_let ?_; intro vv; refine go_call (ok_run_of O (signs := LD) (k6 hx)) W ?_
  by_cases h6 : runLen LD (x.drop at_) > 6
  · refine go_t (yes (decide_eq_true (show ((at_ + runLen LD (x.drop at_) : Nat) : Int) - at_ > 6 by lia))) ?_
    exact go_raise F (if_pos h6)
  · refine go_f (no (decide_eq_false (show ¬ (((at_ + runLen LD (x.drop at_) : Nat) : Int) - at_ > 6) by lia))) ?_
    refine go_let ?_; intro vv; refine go_slice (k6 hx) (y := (x.drop at_).take (runLen LD (x.drop at_))) ?_ ?_
    · rw [slc_mid _ _ _ (by exact Int.natCast_nonneg _) (by exact Int.natCast_nonneg _), ar_tn]; rfl
    · exact F.ret (by rw [if_neg h6]; rfl)
noncomputable def tokPy (q : Option (Tk × Nat)) (e : Nat) : Option D := q.map fun q => .t (.tuple [q.1.py e, .int (e + q.2 : Nat)])
theorem ok_token_at (O : Own G p) {x : List Nat} {at_ : Nat} (hx : x.length ≤ 600) (ha : Alp x) (h1 : at_ < x.length) : Ret G 142 [.t (.str (S x)), .t (.int at_)] 4
    (tokPy (tokAt (x.drop at_)) at_) := by
  refine ret_body O ["text", "at"] t142 (by rfl) (by rfl) (bind2 fun _ _ => by rfl) rfl (by decide) (by decide) (by decide) (by rfl) (by rfl) (a142 O) (fun Γ k ok W F => ?_)
  refine go_let ?_; intro vv; refine go_str (List.getElem?_eq_getElem h1) (by lia) ?_
  have hd := List.drop_eq_getElem_cons h1
  have hc := ha _ (List.getElem_mem h1)
  by_cases hL : x[at_] ∈ LET
  · refine go_let ?_; intro vv; refine go_t (yes (d_in hL)) ?_
    have e : tokPy (tokAt (x.drop at_)) at_ = if runLen LD (x.drop at_) > 6 then none else some (.t (.tuple [(Tk.name ((x.drop at_).take (runLen LD (x.drop at_)))).py at_, .int (at_ + runLen LD (x.drop at_) : Nat)])) := by
      rw [hd, tokAt, if_pos hL]
      split <;> rfl
    rw [e] at F
    exact go_tail (ok_name_at O hx) W F
  · refine go_f (no (d_nin hL)) ?_
    by_cases hD : x[at_] ∈ DIG
    · refine go_t (yes (d_in hD)) ?_
      refine go_call (ok_number_at O hx ha h1 hD) W ?_
      exact F.ret (by rw [hd, tokAt, if_neg hL, if_pos hD]; rfl)
    · refine go_f (no (d_nin hD)) ?_
      rw [hd, tokAt, if_neg hL, if_neg hD] at F
      have hn : x[at_ + 1]? = (x.drop (at_ + 1)).head? := List.head?_drop.symm
      have hsl : slc x (some ((at_ : Int) + 1)) (some ((at_ : Int) + 1 + 1)) = (x.drop (at_ + 1)).take 1 := by
        rw [slc_mid _ _ _ (by exact Int.natCast_nonneg _) (by exact Int.natCast_nonneg _), show ((at_ : Int) + 1).toNat = at_ + 1 by lia, show ((at_ : Int) + 1 + 1).toNat - (at_ + 1) = 1 by lia]
      have hs1 : slc x (some (at_ : Int)) (some ((at_ : Int) + 1)) = [x[at_]] := by
        rw [slc_mid _ _ _ (by exact Int.natCast_nonneg _) (by exact Int.natCast_nonneg _), show ((at_ : Int)).toNat = at_ by lia, show ((at_ : Int) + 1).toNat - at_ = 1 by lia, hd]; rfl
      have hs2 : slc x (some (at_ : Int)) (some ((at_ : Int) + 1 + 1)) = x[at_] :: (x.drop (at_ + 1)).take 1 := by
        rw [slc_mid _ _ _ (by exact Int.natCast_nonneg _) (by exact Int.natCast_nonneg _), show ((at_ : Int)).toNat = at_ by lia, show ((at_ : Int) + 1 + 1).toNat - at_ = 2 by lia, hd]; rfl
      generalize x.drop (at_ + 1) = r at hn hsl hs2 F
      generalize x[at_] = c at hc hL hD hs1 hs2 F ⊢
      have hc5 : c = 40 ∨ c = 41 ∨ c = 44 ∨ c = 45 ∨ c = 42 := by
        rcases List.mem_append.mp hc with h | h
        · rcases List.mem_append.mp h with h | h
          · exact absurd h hL
          · exact absurd h hD
        · simpa using h
      refine go_f (no (c_neq (b := 46) (by lia))) ?_
      refine go_f (no (c_neq (b := 39) (by lia))) ?_
      refine go_f (no (by rcases hc5 with rfl | rfl | rfl | rfl | rfl <;> rfl)) ?_
      by_cases h2 : c = 42 ∧ r.head? = some 42
      · obtain ⟨rfl, hr⟩ := h2
        obtain ⟨r', rfl⟩ : ∃ r', r = 42 :: r' := by
          cases r with
          | nil => cases hr
          | cons y r' => injection hr with hr; exact ⟨r', by rw [hr]⟩
        refine go_if ok (go_t (yes rfl) (go_slice (k6 hx) hsl (go_t (yes rfl) ?_)))
        refine go_slice (k6 hx) hs2 ?_
        exact F.ret rfl
      · refine go_fork ok (σ := Unit) ["text", "at", "end"] (fun _ => True) (fun _ => [.t (.str (S x)), .t (.int at_), .t (.int ((at_ : Int) + 1))]) (fun _ => []) (fun ag ha' => ?_) (fun _ _ => ?_)
        · by_cases h42 : c = 42
          · subst h42
            refine go_t (yes rfl) (go_slice (k6 hx) hsl ?_)
            refine go_f (no (s_neq (b := [42]) fun e => h2 ⟨rfl, ?_⟩)) (ha' () _ _ trivial rfl rfl)
            cases r with
            | nil => cases e
            | cons y r => exact congrArg List.head? e
          · refine go_f (no (decide_eq_false (show ¬ c ∈ [42, 47] by simpa using ⟨h42, by lia⟩))) (ha' () _ _ trivial rfl rfl)
        · refine go_let ?_; intro vv; refine go_slice (k6 hx) hs1 ?_
          exact F.ret (by rw [if_neg h2]; rfl)
end
end P279
end
section
open PySem PySem.W PyProof.Rows PySem.Spec PySem.Calls PySem.Builtin PySem.Builtin.Str
set_option maxHeartbeats 400000
namespace P279
section
variable {G : Cfg} {p : Params}
theorem tokAt_pos {s : List Nat} {t : Tk} {n : Nat} (h : tokAt s = some (t, n)) : 0 < n := by
  cases s with
  | nil => cases h
  | cons c r =>
    rw [tokAt] at h
    by_cases hL : c ∈ LET
    · rw [if_pos hL] at h
      split at h
      · cases h
      · cases h; exact runLD_pos hL
    · rw [if_neg hL] at h
      by_cases hD : c ∈ DIG
      · rw [if_pos hD] at h
        have : 0 < runLen DIG (c :: r) := by rw [runLen_cons, if_pos hD]; lia
        injection h with h
        unfold numAt at h
        split at h <;> (injection h with _ h; lia)
      · rw [if_neg hD] at h
        split at h <;> (cases h; decide)
noncomputable def lexPy (x : List Nat) : Option D := (lexF x.length x 0).map fun ts => .t (.list (pys ts))
theorem pys_append (a b : List (Tk × Nat)) : pys (a ++ b) = pys a ++ pys b := List.map_append ..
theorem pys_length (a : List (Tk × Nat)) : (pys a).length = a.length := List.length_map ..
theorem ar_dl {n e l : Nat} (h : e < n) (hl : 0 < l) : n - (e + l) < n - e := by omega
theorem ok_tokens_of (O : Own G p) {x : List Nat} (hx : x.length ≤ 600) (ha : Alp x) : Ret G 149 [.t (.str (S x))] 5 (lexPy x) := by
  refine ret_body O ["squeezed"] t149 (by rfl) (by rfl) (bind1 fun _ => by rfl) rfl (by decide) (by decide) (by decide) (by rfl) (by rfl) (a149 O) (fun Γ k ok W F => ?_)
  refine go_let ?_; intro vv; refine go_new fun a _ => ?_
  refine go_let ?_; intro vv; refine go_while ok (σ := Nat × Nat × List (Tk × Nat)) ["at", "squeezed", "out"] (fun n s => n = x.length - s.1 ∧ s.2.2.length ≤ s.1 ∧ (x.drop s.1).length ≤ s.2.1 ∧ (lexF s.2.1 (x.drop s.1) s.1).map (s.2.2 ++ ·) = lexF x.length x 0) (fun s => [.t (.int s.1), .t (.str (S x)), .loc a]) (fun s => [(a, pys s.2.2)]) ⟨_, (0, x.length, []), ⟨rfl, Nat.le_refl _, Nat.le_refl _, ?_⟩, rfl, rfl⟩ ?_
  · show (lexF x.length (x.drop 0) 0).map ([] ++ ·) = _
    rw [List.drop_zero]
    cases lexF x.length x 0 <;> rfl
  · rintro n ⟨e, f, ts⟩ ag ⟨rfl, h1, h2, h3⟩ hag
    dsimp only at h1 h2 h3 hag
    refine go_let ?_; intro vv; refine go_ask (lok6 hx) ?_
    by_cases hlt : e < x.length
    · refine go_let ?_; intro vv; refine go_t (yes (d_lt hlt)) ?_
      have hd := List.drop_eq_getElem_cons hlt
      obtain ⟨f, rfl⟩ := Nat.exists_eq_add_of_le' (show 1 ≤ f by rw [hd] at h2; exact Nat.le_trans (Nat.succ_le_succ (Nat.zero_le _)) h2)
      have hstep : lexF (f + 1) (x.drop e) e = match tokAt (x.drop e) with | none => none | some (t, n) => (lexF f ((x.drop e).drop n) (e + n)).map ((t, e) :: ·) := by rw [hd]; rfl
      rw [hstep] at h3
      have hcall := ok_token_at O hx ha hlt
      cases htk : tokAt (x.drop e) with
      | none =>
        rw [htk] at h3 hcall
        exact go_callN hcall W F (by unfold lexPy; rw [← h3]; rfl)
      | some q =>
        obtain ⟨t, l⟩ := q
        rw [htk] at h3 hcall
        have hk := tokAt_pos htk
        refine go_call hcall W ?_
        refine go_let ?_; intro vv; refine go_ask tyD_head (go_app (ds := pys ts) (by rw [pys_length]; exact Nat.le_trans h1 (Nat.le_trans (Nat.le_of_lt hlt) (Nat.le_trans hx (by decide)))) ?_)
        refine hag _ (e + l, f, ts ++ [(t, e)]) _ _ (ar_dl hlt hk) ⟨rfl, ?_, ?_, ?_⟩ rfl ?_
        · rw [List.length_append]; exact Nat.add_le_add h1 hk
        · rw [List.length_drop] at h2 ⊢; exact Nat.le_of_lt_succ (Nat.lt_of_lt_of_le (ar_dl hlt hk) h2)
        · show (lexF f (x.drop (e + l)) (e + l)).map _ = _
          rw [← h3, ← List.drop_drop]
          dsimp only
          cases lexF f ((x.drop e).drop l) (e + l) <;> simp
        · rw [pys_append]; rfl
    · refine go_let ?_; intro vv; refine go_f (no (d_nlt hlt)) (go_ask fz ?_)
      rw [List.drop_eq_nil_of_le (Nat.le_of_not_lt hlt)] at h3
      exact F.ret (by unfold lexPy; rw [← h3]; cases f <;> simp [lexF])
end
end P279
end
section
open PySem PySem.W PyProof.Rows PySem.Spec PySem.Calls PySem.Builtin PySem.Builtin.Str
set_option maxHeartbeats 400000
namespace P279
noncomputable def kindAt (ts : List (Tk × Nat)) (e : Nat) : Str := match ts[e]? with
  | some t => t.1.kind
  | none => S []
noncomputable def isOp (ts : List (Tk × Nat)) (e : Nat) (s : List Nat) : Bool := match ts[e]? with
  | some (.op x, _) => x == s
  | _ => false
noncomputable def nameAt (ts : List (Tk × Nat)) (e : Nat) : Option (List Nat) := match ts[e]? with
  | some (.name x, _) => some x
  | _ => none
noncomputable def intAt (ts : List (Tk × Nat)) (e : Nat) : Option Nat := match ts[e]? with
  | some (.int x, _) => some x
  | _ => none
theorem pys_get (ts : List (Tk × Nat)) (e : Nat) : (pys ts)[e]? = ts[e]?.map fun p => p.1.py p.2 := List.getElem?_map ..
theorem SI_listN {G : Cfg} {c : Act} {m : Loc} {μ : Mut} {E : Cl → Mut → Prop} {Q : D → Mut → Prop} {ds : List PyData} {i : Nat} {p : PyData} (hi : i < 2 ^ 63) (hx : ds[i]? = some p) (h : Q (.t p) μ) : SI G c (.t (.list ds)) (.t (.int (i : Int))) m μ Q E :=
  SI_list (ds := ds) rfl (by exact Int.natCast_nonneg _) (by lia) (by rw [Int.toNat_natCast]; exact hx) h
theorem SI_tok {G : Cfg} {c : Act} {m : Loc} {μ : Mut} {E : Cl → Mut → Prop} {Q : D → Mut → Prop} {ts : List (Tk × Nat)} {i : Nat} {t : Tk × Nat} (hi : i < 2 ^ 63) (hx : ts[i]? = some t) (h : Q (.t (.tuple [.str t.1.kind, t.1.val, .int t.2])) μ) : SI G c (.t (.list (pys ts))) (.t (.int (i : Int))) m μ Q E :=
  SI_listN hi (by rw [pys_get, hx]; rfl) h
theorem pys_len {ts : List (Tk × Nat)} (h : ts.length ≤ 1000) : (pys ts).length ≤ 1000000 := by rw [pys_length]; exact Nat.le_trans h (by decide)
theorem go_lst {Γ : Fr} {v : T} {ds : List PyData} {i : Nat} {q : PyData} (hx : ds[i]? = some q) (hi : i ≤ 2000) (g : Good Γ (v.k (.t q) v.mu)) (e : v.o = .item (.t (.list ds)) (.t (.int (i : Int))) := by exact rfl) : Good Γ v :=
  go_op _ (fun Q h => by rw [e]; exact SI_listN (Nat.lt_of_le_of_lt hi (by decide)) hx h) g
theorem go_tok {Γ : Fr} {v : T} {ts : List (Tk × Nat)} {i : Nat} {t : Tk × Nat} (hx : ts[i]? = some t) (hi : i ≤ 2000) (g : Good Γ (v.k (.t (.tuple [.str t.1.kind, t.1.val, .int t.2])) v.mu)) (e : v.o = .item (.t (.list (pys ts))) (.t (.int (i : Int))) := by exact rfl) : Good Γ v :=
  go_op _ (fun Q h => by rw [e]; exact SI_tok (Nat.lt_of_le_of_lt hi (by decide)) hx h) g
section
variable {G : Cfg} {p : Params}
theorem ok_kind_at (O : Own G p) {ts : List (Tk × Nat)} {e : Nat} (hx : ts.length ≤ 1000) (he : e ≤ 2000) : Ret G 156 [.t (.list (pys ts)), .t (.int e)] 1 (some (.t (.str (kindAt ts e)))) := by
  refine ret_body O ["tokens", "at"] t156 (by rfl) (by rfl) (bind2 fun _ _ => by rfl) rfl (by decide) (by decide) (by decide) (by rfl) (by rfl) (a156 O) (fun Γ k ok W F => ?_)
  refine go_let ?_; intro vv; refine go_ask (pys_len hx) ?_
  unfold kindAt at F
  cases ht : ts[e]? with
  | none =>
    rw [ht] at F
    refine go_let ?_; intro vv; refine go_f (no (d_nlt (by rw [pys_length]; exact Nat.not_lt_of_le (List.getElem?_eq_none_iff.mp ht)))) ?_
    exact F.ret rfl
  | some t =>
    rw [ht] at F
    refine go_t (yes (d_lt (by rw [pys_length]; exact (List.getElem?_eq_some_iff.mp ht).1))) ?_
    refine go_let ?_; intro vv; refine go_tok ht he ?_
    exact F.ret rfl
theorem ok_is_op (O : Own G p) {ts : List (Tk × Nat)} {e : Nat} {s : List Nat} (hx : ts.length ≤ 1000) (he : e ≤ 2000) : Ret G 163 [.t (.list (pys ts)), .t (.int e), .t (.str (S s))] 1 (some (.t (.bool (isOp ts e s)))) := by
  refine ret_body O ["tokens", "at", "text"] t163 (by rfl) (by rfl) (bind3 fun _ _ _ => by rfl) rfl (by decide) (by decide) (by decide) (by rfl) (by rfl) (a163 O) (fun Γ k ok W F => ?_)
  refine go_let ?_; intro vv; refine go_ask (pys_len hx) ?_
  unfold isOp at F
  cases ht : ts[e]? with
  | none =>
    rw [ht] at F
    refine go_let ?_; intro vv; refine go_f (no (d_nlt (by rw [pys_length]; exact Nat.not_lt_of_le (List.getElem?_eq_none_iff.mp ht)))) ?_
    exact F.ret rfl
  | some t =>
    rw [ht] at F
    refine go_let ?_; intro vv; refine go_t (yes (d_lt (by rw [pys_length]; exact (List.getElem?_eq_some_iff.mp ht).1))) ?_
    obtain ⟨t, l⟩ := t
    refine go_let ?_; intro vv; refine go_tok ht he ?_
    cases t with
    | op x =>
      refine go_let ?_; intro vv; refine go_t (yes rfl) (go_tok ht he ?_)
      exact F.ret (by show some (D.t (PyData.bool (x == s))) = some (D.t (PyData.bool (S x == S s))); rw [S_eq])
    | real b v => cases b <;> exact go_f (no rfl) (F.ret rfl)
    | _ => exact go_f (no rfl) (F.ret rfl)
theorem ok_need_op (O : Own G p) {ts : List (Tk × Nat)} {e : Nat} {s : List Nat} (hx : ts.length ≤ 1000) (he : e ≤ 2000) (hs : s.length ≤ 10) : Ret G 170 [.t (.list (pys ts)), .t (.int e), .t (.str (S s))] 2 (if isOp ts e s = true then some (.t (.int (e + 1 : Nat))) else none) := by
  refine ret_body O ["tokens", "at", "text"] t170 (by rfl) (by rfl) (bind3 fun _ _ _ => by rfl) rfl (by decide) (by decide) (by decide) (by rfl) (by rfl) (a170 O) (fun Γ k ok W F => ?_)
  refine go_let ?_; intro vv; refine go_call (ok_is_op O hx he) W ?_
  cases h : isOp ts e s <;> rw [h] at F
  · refine go_f (no rfl) ?_
    refine go_let ?_; intro vv; exact go_op _ (fun Q h => S2_addS (by show 19 + s.length ≤ 16777216; lia) h) (go_raise F rfl)
  · exact go_t (yes rfl) (F.ret rfl)
theorem ok_need_name (O : Own G p) {ts : List (Tk × Nat)} {e : Nat} (hx : ts.length ≤ 1000) (he : e ≤ 2000) : Ret G 177 [.t (.list (pys ts)), .t (.int e)] 2 ((nameAt ts e).map fun x => .t (.tuple [.str (S x), .int (e + 1 : Nat)])) := by
  refine ret_body O ["tokens", "at"] t177 (by rfl) (by rfl) (bind2 fun _ _ => by rfl) rfl (by decide) (by decide) (by decide) (by rfl) (by rfl) (a177 O) (fun Γ k ok W F => ?_)
  refine go_let ?_; intro vv; refine go_call (ok_kind_at O hx he) W ?_
  have no' : ∀ t : Option (Tk × Nat), ts[e]? = t → (∀ x k, t ≠ some (.name x, k)) → (kindAt ts e != ("NAME" : Str)) = true ∧ nameAt ts e = none := by
    rintro (_ | ⟨t, k⟩) ht hn
    · unfold kindAt nameAt; rw [ht]; exact ⟨rfl, rfl⟩
    · unfold kindAt nameAt; rw [ht]
      cases t with
      | name x => exact absurd rfl (hn x k)
      | real k v => cases k <;> exact ⟨rfl, rfl⟩
      | _ => exact ⟨rfl, rfl⟩
  by_cases hn : ∃ x k, ts[e]? = some (.name x, k)
  · obtain ⟨x, k, ht⟩ := hn
    have h1 : kindAt ts e = "NAME" := by unfold kindAt; rw [ht]; rfl
    have h2 : nameAt ts e = some x := by unfold nameAt; rw [ht]
    rw [h2] at F
    refine go_let ?_; intro vv; refine go_f (no (by rw [h1]; rfl)) (go_tok ht he ?_)
    exact F.ret rfl
  · obtain ⟨h1, h2⟩ := no' _ rfl (fun x k e => hn ⟨x, k, e⟩)
    rw [h2] at F
    exact go_t (yes h1) (go_raise F rfl)
theorem ok_need_int (O : Own G p) {ts : List (Tk × Nat)} {e : Nat} (hx : ts.length ≤ 1000) (he : e ≤ 2000) : Ret G 184 [.t (.list (pys ts)), .t (.int e)] 2 ((intAt ts e).map fun x => .t (.tuple [.int x, .int (e + 1 : Nat)])) := by
  refine ret_body O ["tokens", "at"] t184 (by rfl) (by rfl) (bind2 fun _ _ => by rfl) rfl (by decide) (by decide) (by decide) (by rfl) (by rfl) (a184 O) (fun Γ k ok W F => ?_)
  refine go_let ?_; intro vv; refine go_call (ok_kind_at O hx he) W ?_
  have no' : ∀ t : Option (Tk × Nat), ts[e]? = t → (∀ x k, t ≠ some (.int x, k)) → (kindAt ts e != ("INT" : Str)) = true ∧ intAt ts e = none := by
    rintro (_ | ⟨t, k⟩) ht hn
    · unfold kindAt intAt; rw [ht]; exact ⟨rfl, rfl⟩
    · unfold kindAt intAt; rw [ht]
      cases t with
      | int x => exact absurd rfl (hn x k)
      | real k v => cases k <;> exact ⟨rfl, rfl⟩
      | _ => exact ⟨rfl, rfl⟩
  by_cases hn : ∃ x k, ts[e]? = some (.int x, k)
  · obtain ⟨x, k, ht⟩ := hn
    have h1 : kindAt ts e = "INT" := by unfold kindAt; rw [ht]; rfl
    have h2 : intAt ts e = some x := by unfold intAt; rw [ht]
    rw [h2] at F
    refine go_let ?_; intro vv; refine go_f (no (by rw [h1]; rfl)) (go_tok ht he ?_)
    exact F.ret rfl
  · obtain ⟨h1, h2⟩ := no' _ rfl (fun x k e => hn ⟨x, k, e⟩)
    rw [h2] at F
    exact go_t (yes h1) (go_raise F rfl)
theorem ok_need_end (O : Own G p) {ts : List (Tk × Nat)} {e : Nat} (hx : ts.length ≤ 1000) : Ret G 191 [.t (.list (pys ts)), .t (.int e)] 1 (if e < ts.length then none else some (.t .none)) := by
  refine ret_body O ["tokens", "at"] t191 (by rfl) (by rfl) (bind2 fun _ _ => by rfl) rfl (by decide) (by decide) (by decide) (by rfl) (by rfl) (a191 O) (fun Γ k ok W F => ?_)
  refine go_let ?_; intro vv; refine go_ask (pys_len hx) ?_
  by_cases h : e < ts.length
  · rw [if_pos h] at F
    exact go_t (yes (d_lt (by rw [pys_length]; exact h))) (go_raise F rfl)
  · rw [if_neg h] at F
    exact go_f (no (d_nlt (by rw [pys_length]; exact h))) (F.nxt rfl)
end
end P279
end
section
open PySem PySem.W PyProof.Rows PySem.Spec PySem.Calls PySem.Builtin PySem.Builtin.Str
set_option maxHeartbeats 400000
namespace P279
noncomputable def prioD : List (Str × KTD.Dat) := [(".EQV.", .flat (.int 1)), (".NEQV.", .flat (.int 1)), (".OR.", .flat (.int 2)), (".AND.", .flat (.int 3)), (".EQ.", .flat (.int 5)), (".NE.", .flat (.int 5)), (".LT.", .flat (.int 5)), (".LE.", .flat (.int 5)), (".GT.", .flat (.int 5)), (".GE.", .flat (.int 5)), ("//", .flat (.int 6)), ("+", .flat (.int 7)), ("-", .flat (.int 7)), ("*", .flat (.int 8)), ("/", .flat (.int 8)), ("**", .flat (.int 9))]
theorem prio_tab {G : Cfg} {p : Params} (O : Own G p) : KTD.TextTab G.h₀ 199 prioD := by
  have gf := O.gf
  obtain ⟨w, h₀, mg, mb, rfl, rfl⟩ := O.ex
  refine ⟨by decide, _, _, _, gf.kin 199 _ (by rfl), ⟨rfl, rfl, rfl⟩, rfl, ?_⟩
  repeat (refine KTD.Rows.cons rfl (fun _ => .int _ _) ?_)
  exact KTD.Rows.nil
theorem WE_Prio {G : Cfg} {p : Params} (O : Own G p) {c : Act} {m : Loc} {μ : Mut} {E : Cl → Mut → Prop} {Q : D → Mut → Prop} {np apos pos : Pos} {e1 : Expr} {n : Nat} {p : Pos} (hx : c.env.kindOf "PRIORITIES" = some .globalImplicit)
    (h : WEs G c pos [e1, .Constant (.int 0) n p] m μ (fun ds μ' => ds = [.t (.str (S [41])), .t (.int 0)] ∧ Q (.t (.int 0)) μ') E)
    (hs : noStar [e1] = true) (hline : (apos.endLine == pos.line) = true := by rfl) : WE G c (.Call (.Attribute (.Name "PRIORITIES" np) "get" apos) [e1, .Constant (.int 0) n p] [] pos) m μ Q E := by
  intro B s I Qr Er hpo q e
  have hst : noStar [e1, .Constant (.int 0) n p] = true := by show (!isStar e1 && (!isStar (Expr.Constant (.int 0) n p) && true)) = true; rw [(noStar_tail hs).1]; rfl
  have g : nsIn G.K mainGlobals "PRIORITIES" = some (some (.ref 199)) := by rw [O.K]; rfl
  have T0 := prio_tab O
  refine wpAny_Call_method_lateS (by rfl) (by rw [star_cons (noStar_tail hs).1]; rfl) hline (Name_function_global I.ok.kind hx (loadGlobal_global (I.ok.globals ▸ I.ns) (mg_of I.gf.kin I.gf.g g) ?_) (by decide))
  have T1 : KTD.Here G.h₀ s.heap 199 prioD := ⟨T0, fun b o e => I.keep b o (I.base b o e)⟩
  refine ⟨"dict", "dict.get", F.plainAttrs_dict, F.slot_dict_get, F.type_dict_get, T1.typeIs, T1.noDict, ?_⟩
  refine Calls.callWith_builtin (noStar_hp hst) ?_
  refine WX.use (evalArgs_go h (noStar_he hst) I) (Trans.refl ..) hpo e fun a ds μ' B' s' T' U I' R x => ?_
  obtain ⟨hk, hv⟩ := R
  obtain ⟨rfl, x⟩ := x
  rw [hk]
  obtain ⟨v, u, hvs, h1, h2⟩ := hv.two
  rw [hvs]
  cases h1; cases h2
  have T2 : KTD.Here G.h₀ s'.heap 199 prioD := ⟨T0, fun b o e => I'.keep b o (I'.base b o e)⟩
  refine KTD.get2_text T2 ?_
  unfold prioD
  repeat (refine KTD.each_miss (by decide) ?_)
  exact q _ (.t (.int 0)) m μ' B' _ (T'.trans Trans.toks) I'.toks (V.int _ _) ⟨rfl, x⟩
section
variable {G : Cfg} {p : Params}
variable {c : Act} {m : Loc} {μ : Mut} {E : Cl → Mut → Prop} {Q : D → Mut → Prop}
end
end P279
end
section
open PySem PySem.W PyProof.Rows PySem.Spec PySem.Calls PySem.Builtin PySem.Builtin.Str
set_option maxHeartbeats 400000
namespace P279
noncomputable def exprOf : Tk → Option PyData
  | .int n => some (.tuple [.str "int", .int n])
  | .name s => some (.tuple [.str "name", .str (S s)])
  | _ => none
noncomputable def ExprIn (ts : List (Tk × Nat)) (e : Nat) (t : Tk) : Prop := (∃ k, ts[e]? = some (t, k)) ∧ (((∃ n, t = .int n) ∧ ∃ k, ts[e + 1]? = some (.op [41], k)) ∨ ((∃ s, t = .name s) ∧ ∃ k, ts[e + 1]? = some (.op [41], k)) ∨ t = .op [41])
noncomputable def exprPy (t : Tk) (e : Nat) : Option D := (exprOf t).map fun d => .t (.tuple [d, .int (e + 1 : Nat)])
section
variable {G : Cfg} {p : Params}
theorem ok_priority_at (O : Own G p) {ts : List (Tk × Nat)} {e k : Nat} (hx : ts.length ≤ 1000) (he : e ≤ 1500) (ht : ts[e]? = some (.op [41], k)) : Ret G 206 [.t (.list (pys ts)), .t (.int e)] 2 (some (.t (.int 0))) := by
  refine ret_body O ["tokens", "at"] t206 (by rfl) (by rfl) (bind2 fun _ _ => by rfl) rfl (by decide) (by decide) (by decide) (by rfl) (by rfl) (a206 O) (fun Γ k ok W F => ?_)
  have he' : e ≤ 2000 := by exact Nat.le_trans ‹_› (by decide)
  refine go_call (ok_kind_at O hx he') W ?_
  refine go_f (no (by unfold kindAt; rw [ht]; rfl)) ?_
  refine go_let ?_; intro vv; refine go_op (.t (.int 0)) (fun Q h => WE_Prio (G := Γ.G) (p := p) (W.g ▸ O) (ok.kind (e := .oth) rfl) (fun B s I => (vc_sound ok 99 (.es [_, _] _ _ fun ds μ => .done (ds = [.t (.str (S [41])), .t (.int 0)] ∧ μ = [])) ?_ _ B s I).mono (fun ds μ h' => ⟨h'.1, ?_⟩) fun _ _ x => x) rfl) ?_
  · exact go_tok ht he' ⟨rfl, rfl⟩
  · rw [h'.2]; exact h
  · exact F.ret rfl
theorem ok_constant_of (O : Own G p) {n : Int} : Ret G 241 [.t (.str "INT"), .t (.int n), .t (.int 1)] 1 (some (.t (.tuple [.str "int", .int n]))) := by
  refine ret_body O ["kind", "value", "sign"] t241 (by rfl) (by rfl) (bind3 fun _ _ _ => by rfl) rfl (by decide) (by decide) (by decide) (by rfl) (by rfl) (a241 O) (fun Γ k ok W F => ?_)
  refine go_let ?_; intro vv; refine go_t (yes rfl) (go_op (.t (.int n)) (fun Q h => S2_mul (by decide) (by rw [Int.one_mul]; exact h)) ?_)
  exact F.ret rfl
theorem ok_parse_named (O : Own G p) {ts : List (Tk × Nat)} {e k k' : Nat} {s : List Nat} (hx : ts.length ≤ 1000) (he : e ≤ 1500) (ht : ts[e]? = some (.name s, k)) (ht' : ts[e + 1]? = some (.op [41], k')) : Ret G 276 [.t (.list (pys ts)), .t (.int e)] 3 (exprPy (.name s) e) := by
  refine ret_body O ["tokens", "at"] t276 (by rfl) (by rfl) (bind2 fun _ _ => by rfl) rfl (by decide) (by decide) (by decide) (by rfl) (by rfl) (a276 O) (fun Γ k ok W F => ?_)
  have hn := ok_need_name O (e := e) hx (by exact Nat.le_trans ‹_› (by decide))
  rw [show nameAt ts e = some s by unfold nameAt; rw [ht]] at hn
  refine go_call hn W (go_call (ok_is_op O (e := e + 1) (s := [40]) hx (by lia)) W ?_)
  exact go_f (no (by unfold isOp; rw [ht']; rfl)) (F.ret rfl)
theorem ok_parse_primary (O : Own G p) {ts : List (Tk × Nat)} {e : Nat} {t : Tk} (hx : ts.length ≤ 1000) (he : e ≤ 1500) (H : ExprIn ts e t) : Ret G 234 [.t (.list (pys ts)), .t (.int e)] 4 (exprPy t e) := by
  refine ret_body O ["tokens", "at"] t234 (by rfl) (by rfl) (bind2 fun _ _ => by rfl) rfl (by decide) (by decide) (by decide) (by rfl) (by rfl) (a234 O) (fun Γ k ok W F => ?_)
  obtain ⟨⟨k, ht⟩, H⟩ := H
  have he' : e ≤ 2000 := by exact Nat.le_trans ‹_› (by decide)
  have hk := ok_kind_at O hx he'
  have hkk : kindAt ts e = t.kind := by unfold kindAt; rw [ht]
  rw [hkk] at hk
  refine go_let ?_; intro vv; refine go_call hk W ?_
  rcases H with ⟨⟨n, rfl⟩, k', ht'⟩ | ⟨⟨s, rfl⟩, k', ht'⟩ | rfl
  · refine go_let ?_; intro vv; refine go_f (no rfl) (go_f (no rfl) (go_f (no rfl) (go_f (no rfl) (go_tok ht he' (go_call (ok_constant_of O) W ?_)))))
    exact F.ret rfl
  · exact go_t (yes rfl) (go_tail (ok_parse_named O hx he ht ht') W F)
  · exact go_f (no rfl) (go_t (yes rfl) (go_tok ht he' (go_f (no rfl) (go_f (no rfl) (go_t (yes rfl) (go_raise F rfl))))))
theorem ExprIn.noOp {ts : List (Tk × Nat)} {e : Nat} {t : Tk} (H : ExprIn ts e t) {s : List Nat} (hs : ([41] == s) = false) : isOp ts e s = false := by
  obtain ⟨⟨k, ht⟩, H⟩ := H
  unfold isOp
  rw [ht]
  rcases H with ⟨⟨n, rfl⟩, k', ht'⟩ | ⟨⟨s, rfl⟩, k', ht'⟩ | rfl
  · rfl
  · rfl
  · exact hs
theorem ok_parse_first (O : Own G p) {ts : List (Tk × Nat)} {e : Nat} {t : Tk} (hx : ts.length ≤ 1000) (he : e ≤ 1500) (H : ExprIn ts e t) : Ret G 227 [.t (.list (pys ts)), .t (.int e), .t (.int 1)] 5 (exprPy t e) := by
  refine ret_body O ["tokens", "at", "least"] t227 (by rfl) (by rfl) (bind3 fun _ _ _ => by rfl) rfl (by decide) (by decide) (by decide) (by rfl) (by rfl) (a227 O) (fun Γ k ok W F => ?_)
  have he' : e ≤ 2000 := by exact Nat.le_trans ‹_› (by decide)
  refine go_call (ok_is_op O (s := [46, 78, 79, 84, 46]) hx he') W (go_f (no (H.noOp rfl)) ?_)
  refine go_call (ok_is_op O (s := [43]) hx he') W (go_f (no (H.noOp rfl)) ?_)
  refine go_call (ok_is_op O (s := [45]) hx he') W (go_f (no (H.noOp rfl)) ?_)
  exact go_tail (ok_parse_primary O hx he H) W F
theorem ok_parse_binary (O : Own G p) {ts : List (Tk × Nat)} {e : Nat} {t : Tk} (hx : ts.length ≤ 1000) (he : e ≤ 1500) (H : ExprIn ts e t) : Ret G 220 [.t (.list (pys ts)), .t (.int e), .t (.int 1)] 6 (exprPy t e) := by
  refine ret_body O ["tokens", "at", "least"] t220 (by rfl) (by rfl) (bind3 fun _ _ _ => by rfl) rfl (by decide) (by decide) (by decide) (by rfl) (by rfl) (a220 O) (fun Γ k ok W F => ?_)
  have hf := ok_parse_first O hx he H
  cases hy : exprOf t with
  | none =>
    have e0 : exprPy t e = none := by unfold exprPy; rw [hy]; rfl
    rw [e0] at hf
    exact go_callN hf W F e0
  | some y =>
    have e0 : exprPy t e = some (.t (.tuple [y, .int (e + 1 : Nat)])) := by unfold exprPy; rw [hy]; rfl
    rw [e0] at hf F
    have hcl : ∃ k, ts[e + 1]? = some (.op [41], k) := by
      obtain ⟨_, ⟨_, h⟩ | ⟨_, h⟩ | rfl⟩ := H
      · exact h
      · exact h
      · cases hy
    obtain ⟨k', hcl⟩ := hcl
    refine go_call hf W ?_
    refine go_let ?_; intro vv; refine go_while ok (σ := Unit) ["tokens", "at", "least", "tree"] (fun _ _ => True) (fun _ => [.t (.list (pys ts)), .t (.int (e + 1 : Nat)), .t (.int 1), .t y]) (fun _ => []) ⟨0, (), trivial, rfl, rfl⟩ ?_
    rintro n s ag - ha
    exact go_call (ok_priority_at O hx (by have := (List.getElem?_eq_some_iff.mp hcl).1; lia) hcl) W (go_f (no rfl) (F.ret rfl))
theorem ok_parse_expr (O : Own G p) {ts : List (Tk × Nat)} {e : Nat} {t : Tk} (hx : ts.length ≤ 1000) (he : e ≤ 1500) (H : ExprIn ts e t) : Ret G 213 [.t (.list (pys ts)), .t (.int e)] 7 (exprPy t e) := by
  refine ret_body O ["tokens", "at"] t213 (by rfl) (by rfl) (bind2 fun _ _ => by rfl) rfl (by decide) (by decide) (by decide) (by rfl) (by rfl) (a213 O) (fun Γ k ok W F => ?_)
  exact go_tail (ok_parse_binary O hx he H) W F
end
end P279
end
section
open PySem PySem.W PyProof.Rows PySem.Spec PySem.Calls PySem.Builtin PySem.Builtin.Str
set_option maxHeartbeats 400000
namespace P279
theorem rng_ok {lo hi : Int} (h1 : 0 ≤ lo) (h2 : lo ≤ 3000) (h3 : 0 ≤ hi) (h4 : hi ≤ 3000) : itOk (.rng lo hi) := ⟨by lia, by lia, by lia, by lia⟩
theorem rng0 {n : Nat} (h : n ≤ 1000) : itOk (.rng 0 n) := rng_ok (by exact Int.natCast_nonneg _) (by exact Int.natCast_nonneg _) (by exact Int.natCast_nonneg _) (by lia)
section
variable {G : Cfg} {c : Act} {m : Loc} {μ : Mut} {E : Cl → Loc → Mut → Prop} {Q : Fl → Loc → Mut → Prop}
end
noncomputable def depStep (d : Int) (c : Nat) : Int × Int :=
  if c = 40 ∧ 0 ≤ d then (d + 1, d) else if c = 41 ∧ 0 < d then (d - 1, d - 1) else if c = 41 then (-2, -2) else (d, d)
noncomputable def depF : Int → List Nat → List Int
  | _, [] => []
  | d, c :: r => (depStep d c).2 :: depF (depStep d c).1 r
theorem depF_length (d : Int) (x : List Nat) : (depF d x).length = x.length := by
  induction x generalizing d with
  | nil => rfl
  | cons c r ih => simp [depF, ih]
section
variable {G : Cfg} {p : Params}
theorem ok_depths (O : Own G p) {x : List Nat} (hx : x.length ≤ 600) (ha : Alp x) : Ret G 304 [.t (.str (S x))] 1 (some (.t (.list ((depF 0 x).map .int)))) := by
  refine ret_body O ["row"] t304 (by rfl) (by rfl) (bind1 fun _ => by rfl) rfl (by decide) (by decide) (by decide) (by rfl) (by rfl) (a304 O) (fun Γ k ok W F => ?_)
  refine go_new fun a _ => ?_
  refine go_for ok (x.map fun n => .t (.str (S [n]))) (σ := Int × List Int) ["depth", "is_inside", "out"] (fun i s => s.2.length = i ∧ s.2 ++ depF s.1 (x.drop i) = depF 0 x) (fun s => [.t (.int s.1), .t (.bool false), .loc a]) (fun s => [(a, s.2.map .int)]) ⟨(), rfl, trivial, (0, []), ⟨rfl, rfl⟩, rfl, rfl⟩ ?_ ?_
  · rintro i y ⟨d, out⟩ ag hy ⟨h1, h2⟩ hag
    obtain ⟨n, hn, rfl⟩ := items_str hy
    obtain ⟨hi, hn'⟩ := List.getElem?_eq_some_iff.mp hn
    have hd := List.drop_eq_getElem_cons hi
    rw [hn'] at hd
    have hal := ha n (hn' ▸ List.getElem_mem hi)
    dsimp only at h1 h2 hag
    rw [hd, depF] at h2
    refine go_f (no (c_neq (b := 39) (by rintro rfl; exact absurd hal (by decide)))) (go_f (no rfl) ?_)
    have nx : ∀ (d' o : Int), depStep d n = (d', o) → ∀ (m : Loc) (μ : Mut), (["depth", "is_inside", "out"] : List Str).map m.get = [some (.t (.int d')), some (.t (.bool false)), some (.loc a)] → μ = [(a, out.map .int ++ [.int o])] → Good Γ (ag m μ) := by
      intro d' o hs m μ q1 q2
      rw [hs] at h2
      exact hag (d', out ++ [o]) m μ ⟨by simp [h1], by rw [← h2]; simp⟩ q1 (by rw [q2]; simp)
    have hlen : (out.map PyData.int).length ≤ 1000000 := by rw [List.length_map]; lia
    clear hag h1 h2 hy hn hn' hd hi
    by_cases c40 : n = 40
    · refine go_t (yes (c_eq c40)) ?_
      by_cases hd0 : 0 ≤ d
      · exact go_t (yes (decide_eq_true hd0)) (go_ask tyD_head (go_app hlen (nx (d + 1) d (by unfold depStep; rw [if_pos ⟨c40, hd0⟩]) _ _ rfl rfl)))
      · exact go_f (no (decide_eq_false hd0)) (go_f (no (c_neq (b := 41) (by lia))) (go_if ok (go_f (no (c_neq (b := 41) (by lia))) (go_ask tyD_head (go_app hlen (nx d d (by unfold depStep; rw [if_neg (fun h => hd0 h.2), if_neg (fun h => by lia), if_neg (by lia)]) _ _ rfl rfl))))))
    · refine go_f (no (c_neq c40)) ?_
      by_cases c41 : n = 41
      · refine go_t (yes (c_eq c41)) ?_
        by_cases hd0 : 0 < d
        · exact go_t (yes (decide_eq_true hd0)) (go_ask tyD_head (go_app hlen (nx (d - 1) (d - 1) (by unfold depStep; rw [if_neg (fun h => c40 h.1), if_pos ⟨c41, hd0⟩]) _ _ rfl rfl)))
        · exact go_f (no (decide_eq_false hd0)) (go_if ok (go_t (yes (c_eq c41)) (go_ask tyD_head (go_app hlen (nx (-2) (-2) (by unfold depStep; rw [if_neg (fun h => c40 h.1), if_neg (fun h => hd0 h.2), if_pos c41]) _ _ rfl rfl)))))
      · exact go_f (no (c_neq c41)) (go_if ok (go_f (no (c_neq c41)) (go_ask tyD_head (go_app hlen (nx d d (by unfold depStep; rw [if_neg (fun h => c40 h.1), if_neg (fun h => c41 h.1), if_neg c41]) _ _ rfl rfl)))))
  · rintro ⟨d, out⟩ ⟨h1, h2⟩
    refine go_ask fz (F.ret ?_)
    rw [List.drop_eq_nil_of_le (by simp)] at h2
    rw [← h2]
    simp [depF]
noncomputable def cloF (x : List Nat) (L : List Int) (lv : Int) : Nat → Nat → Int
  | 0, _ => -1
  | f + 1, i => if x[i]? = some 41 ∧ L[i]? = some lv then i else cloF x L lv f (i + 1)
theorem ok_closing (O : Own G p) {x : List Nat} {at_ : Nat} {lv : Int} (hx : x.length ≤ 600) (ha : Alp x) (hl : (depF 0 x)[at_]? = some lv) : Ret G 311 [.t (.str (S x)), .t (.int at_)] 2 (some (.t (.int (cloF x (depF 0 x) lv (x.length - (at_ + 1)) (at_ + 1))))) := by
  have hat : at_ < x.length := by have := (List.getElem?_eq_some_iff.mp hl).1; rwa [depF_length] at this
  refine ret_body O ["row", "at"] t311 (by rfl) (by rfl) (bind2 fun _ _ => by rfl) rfl (by decide) (by decide) (by decide) (by rfl) (by rfl) (a311 O) (fun Γ k ok W F => ?_)
  refine go_call (ok_depths O hx ha) W ?_
  refine go_for ok (items := (List.range ((x.length : Int) - ((at_ : Int) + 1)).toNat).map fun (k : Nat) => .t (.int (((at_ : Int) + 1) + k))) (σ := Unit) ["row", "at", "levels"] (fun i _ => cloF x (depF 0 x) lv (x.length - (at_ + 1) - i) (at_ + 1 + i) = cloF x (depF 0 x) lv (x.length - (at_ + 1)) (at_ + 1)) (fun _ => [.t (.str (S x)), .t (.int at_), .t (.list ((depF 0 x).map .int))]) (fun _ => []) ?_ ?_ ?_
  · exact go_ask (lok6 hx) ⟨(), rfl, rng_ok (lo := (at_ : Int) + 1) (hi := x.length) (by exact Int.natCast_nonneg _) (by lia) (by exact Int.natCast_nonneg _) (by lia), (), rfl, rfl, rfl⟩
  · rintro i y s ag hy h1 hag
    obtain ⟨hi, rfl⟩ := items_rng hy
    have hi' : at_ + 1 + i < x.length := by omega
    rw [show (at_ : Int) + 1 + (i : Int) = ((at_ + 1 + i : Nat) : Int) from rfl]
    rw [ar_st (Nat.lt_sub_of_add_lt (Nat.add_comm (at_ + 1) i ▸ hi')), cloF] at h1
    generalize hj : at_ + 1 + i = j at h1 hi' ⊢
    refine go_str (List.getElem?_eq_getElem hi') (by lia) ?_
    obtain ⟨lj, hlj⟩ : ∃ lj, (depF 0 x)[j]? = some lj := ⟨_, List.getElem?_eq_getElem (by rw [depF_length]; exact hi')⟩
    rw [List.getElem?_eq_getElem hi', hlj] at h1
    by_cases h41 : x[j] = 41
    · refine go_t (yes (c_eq h41)) ?_
      refine go_lst (q := .int lj) (by rw [List.getElem?_map, hlj]; rfl) (by lia) ?_
      refine go_lst (q := .int lv) (by rw [List.getElem?_map, hl]; rfl) (by lia) ?_
      by_cases hlv : lj = lv
      · rw [if_pos ⟨by rw [h41], by rw [hlv]⟩] at h1
        exact go_t (yes (by simpa using hlv)) (F.ret (by rw [← h1]))
      · rw [if_neg (fun h => hlv (by injection h.2))] at h1
        refine go_f (no (by simpa using hlv)) (hag () _ _ ?_ rfl rfl)
        rw [show at_ + 1 + (i + 1) = j + 1 by lia]
        exact h1
    · rw [if_neg (fun h => h41 (by injection h.1))] at h1
      refine go_f (no (c_neq h41)) (hag () _ _ ?_ rfl rfl)
      rw [show at_ + 1 + (i + 1) = j + 1 by lia]
      exact h1
  · rintro s h1
    refine F.ret ?_
    rw [← h1, List.length_map, List.length_range, show ((x.length : Int) - ((at_ : Int) + 1)).toNat = x.length - (at_ + 1) from Int.toNat_sub _ _, Nat.sub_self]
    rfl
end
end P279
end
section
open PySem PySem.W PyProof.Rows PySem.Spec PySem.Calls PySem.Builtin PySem.Builtin.Str
set_option maxHeartbeats 400000
namespace P279
noncomputable def spl : Int → List Nat → List Nat → List (List Nat)
  | _, acc, [] => [acc]
  | d, acc, c :: r => if c = 44 ∧ (depStep d c).2 = 0 then acc :: spl (depStep d c).1 [] r else spl (depStep d c).1 (acc ++ [c]) r
theorem take_succ_snoc {x : List Nat} {b i c : Nat} (hb : b ≤ i) (hi : x[i]? = some c) : (x.drop b).take (i - b) ++ [c] = (x.drop b).take (i + 1 - b) := by
  rw [show i + 1 - b = (i - b) + 1 by lia, List.take_add_one]
  rw [List.getElem?_drop, show b + (i - b) = i by lia, hi]
  rfl
theorem txts_append (a b : List (List Nat)) : txts (a ++ b) = txts a ++ txts b := List.map_append ..
theorem txts_length (a : List (List Nat)) : (txts a).length = a.length := List.length_map ..
section
variable {G : Cfg} {p : Params}
theorem ok_split_open (O : Own G p) {x : List Nat} (hx : x.length ≤ 600) (ha : Alp x) : Ret G 318 [.t (.str (S x)), .t (.str (S [44]))] 2 (some (.t (.list (txts (spl 0 [] x))))) := by
  refine ret_body O ["row", "sign"] t318 (by rfl) (by rfl) (bind2 fun _ _ => by rfl) rfl (by decide) (by decide) (by decide) (by rfl) (by rfl) (a318 O) (fun Γ k ok W F => ?_)
  refine go_let ?_; intro vv; refine go_new fun a _ => go_call (ok_depths O hx ha) W ?_
  refine go_let ?_; intro vv; refine go_for ok (items := (List.range ((x.length : Int) - 0).toNat).map fun (k : Nat) => .t (.int (0 + k))) (σ := Nat × Int × List (List Nat)) ["begin", "row", "sign", "parts", "levels"]
    (fun i s => s.1 ≤ i ∧ i ≤ x.length ∧ s.2.2.length ≤ i ∧ (depF 0 x).drop i = depF s.2.1 (x.drop i) ∧ s.2.2 ++ spl s.2.1 ((x.drop s.1).take (i - s.1)) (x.drop i) = spl 0 [] x)
    (fun s => [.t (.int s.1), .t (.str (S x)), .t (.str (S [44])), .loc a, .t (.list ((depF 0 x).map .int))]) (fun s => [(a, txts s.2.2)]) ?_ ?_ ?_
  · exact go_ask (lok6 hx) ⟨(), rfl, rng0 (k6 hx), (0, 0, []), ⟨Nat.le_refl _, Nat.zero_le _, Nat.le_refl _, rfl, rfl⟩, rfl, rfl⟩
  · rintro i y ⟨b, d, ps⟩ ag hy ⟨h1, h2, h3, h4, h5⟩ hag
    obtain ⟨hi, rfl⟩ := items_rng hy
    have hi' : i < x.length := by assumption
    dsimp only at h1 h2 h3 h4 h5 hag
    rw [show (0 : Int) + (i : Int) = ((i : Nat) : Int) by lia]
    have hd := List.drop_eq_getElem_cons hi'
    have hxi := List.getElem?_eq_getElem hi'
    generalize x[i] = c at hd hxi
    have hdi : (depF 0 x)[i]? = some (depStep d c).2 := by rw [← List.head?_drop, h4, hd]; rfl
    have hdr : (depF 0 x).drop (i + 1) = depF (depStep d c).1 (x.drop (i + 1)) := by
      rw [← List.drop_drop, h4, hd]; rfl
    rw [hd, spl] at h5
    refine go_let ?_; intro vv; refine go_str hxi (by lia) ?_
    have no' : ∀ m₃ : Loc, ¬ (c = 44 ∧ (depStep d c).2 = 0) → (["begin", "row", "sign", "parts", "levels"] : List Str).map m₃.get = [some (.t (.int b)), some (.t (.str (S x))), some (.t (.str (S [44]))), some (.loc a), some (.t (.list ((depF 0 x).map .int)))] → Good Γ (ag m₃ [(a, txts ps)]) := by
      intro m₃ hn q
      rw [if_neg hn, take_succ_snoc h1 hxi] at h5
      exact hag (b, _, ps) _ _ ⟨by dsimp only; lia, by assumption, by dsimp only; lia, hdr, h5⟩ q rfl
    by_cases h44 : c = 44
    · refine go_let ?_; intro vv; refine go_t (yes (c_eq h44)) (go_lst (q := .int (depStep d c).2) (by rw [List.getElem?_map, hdi]; rfl) (by lia) ?_)
      by_cases hz : (depStep d c).2 = 0
      · refine go_let ?_; intro vv; refine go_t (yes (by simpa using hz)) (go_ask tyD_head (go_slice (k6 hx) (y := (x.drop b).take (i - b)) ?_ (go_app (ds := txts ps) (by rw [txts_length]; lia) ?_)))
        · rw [slc_mid _ _ _ (by exact Int.natCast_nonneg _) (by exact Int.natCast_nonneg _), Int.toNat_natCast, Int.toNat_natCast]
        rw [if_pos ⟨h44, hz⟩] at h5
        refine hag (i + 1, _, ps ++ [(x.drop b).take (i - b)]) _ _ ⟨Nat.le_refl _, by assumption, by simp; omega, hdr, ?_⟩ rfl (by rw [txts_append]; rfl)
        dsimp only
        rw [← h5, Nat.sub_self, List.take_zero]; simp
      · refine go_let ?_; intro vv; exact go_f (no (by simpa using hz)) (no' _ (fun h => hz h.2) rfl)
    · refine go_let ?_; intro vv; exact go_f (no (c_neq h44)) (no' _ (fun h => h44 h.1) rfl)
  · rintro ⟨b, d, ps⟩ ⟨h1, h2, h3, h4, h5⟩
    rw [List.length_map, List.length_range] at h1 h2 h3 h4 h5
    rw [show ((x.length : Int) - 0).toNat = x.length by lia] at h1 h2 h3 h4 h5
    dsimp only at h1 h2 h3 h4 h5
    refine go_let ?_; intro vv; refine go_ask tyD_head (go_slice (k6 hx) (y := x.drop b) ?_ (go_app (ds := txts ps) (by rw [txts_length]; lia) (go_ask fz (F.ret ?_))))
    · rw [slc_from _ _ (by exact Int.natCast_nonneg _), Int.toNat_natCast]
    rw [← h5, List.drop_length]
    unfold spl
    rw [List.take_of_length_le (by rw [List.length_drop]; lia), txts_append]
    rfl
end
end P279
end
section
open PySem PySem.W PyProof.Rows PySem.Spec PySem.Calls PySem.Builtin PySem.Builtin.Str
set_option maxHeartbeats 400000
namespace P279
theorem runLen_all {signs l : List Nat} (h : ∀ c ∈ l, c ∈ signs) : runLen signs l = l.length := by
  induction l with
  | nil => rfl
  | cons x l ih => rw [runLen_cons, if_pos (h x (List.mem_cons_self ..)), ih (fun c hc => h c (List.mem_cons_of_mem _ hc))]; rfl
theorem runLen_all' {signs l r : List Nat} (h : ∀ c ∈ l, c ∈ signs) (hr : ∀ c, r.head? = some c → c ∉ signs) : runLen signs (l ++ r) = l.length := by
  induction l with
  | nil =>
    cases r with
    | nil => rfl
    | cons c r => rw [List.nil_append, runLen_cons, if_neg (hr c rfl)]; rfl
  | cons x l ih => rw [List.cons_append, runLen_cons, if_pos (h x (List.mem_cons_self ..)), ih (fun c hc => h c (List.mem_cons_of_mem _ hc))]; rfl
theorem dig_let : ∀ {c : Nat}, c ∈ DIG → c ∉ LET := by
  intro c h
  have : c ∈ [48,49,50,51,52,53,54,55,56,57] := h
  simp only [List.mem_cons, List.not_mem_nil, or_false] at this
  rcases this with rfl | rfl | rfl | rfl | rfl | rfl | rfl | rfl | rfl | rfl <;> decide
theorem lexF_end {f e : Nat} : lexF f [] e = some [] := by cases f <;> rfl
theorem lexF_step {f c e : Nat} {r : List Nat} {t : Tk} {n : Nat} (h : tokAt (c :: r) = some (t, n)) : lexF (f + 1) (c :: r) e = (lexF f ((c :: r).drop n) (e + n)).map ((t, e) :: ·) := by
  rw [lexF, h]
theorem lexF_none {f c e : Nat} {r : List Nat} (h : tokAt (c :: r) = none) : lexF (f + 1) (c :: r) e = none := by
  rw [lexF, h]
theorem tokAt_digits {l r : List Nat} (h0 : l ≠ []) (h : ∀ c ∈ l, c ∈ DIG) (hr : ∀ c, r.head? = some c → c ∉ DIG ∧ c ≠ 69 ∧ c ≠ 68) : tokAt (l ++ r) = some (.int (NumText.digitsVal l), l.length) := by
  have hp : powAt r = ([], 0, 0) := by
    cases r with
    | nil => rfl
    | cons c r => have := hr c rfl; rw [powAt, if_neg (by rintro (e | e) <;> lia)]
  have hl : runLen DIG (l ++ r) = l.length := runLen_all' h fun c hc => (hr c hc).1
  have hn : numAt (l ++ r) = (.int (NumText.digitsVal l), l.length) := by
    unfold numAt
    rw [hl, List.drop_left, List.take_left, hp]
    rfl
  cases l with
  | nil => exact absurd rfl h0
  | cons c l =>
    have hc := h c (List.mem_cons_self ..)
    rw [List.cons_append] at hn ⊢
    rw [tokAt]
    rw [if_neg (dig_let hc), if_pos hc, hn]
theorem tokAt_name {c : Nat} {l r : List Nat} (hc : c ∈ LET) (h : ∀ c ∈ l, c ∈ LD) (hr : ∀ c, r.head? = some c → c ∉ LD) : tokAt (c :: l ++ r) = if l.length + 1 > 6 then none else some (.name (c :: l), l.length + 1) := by
  have hl : runLen LD (c :: (l ++ r)) = l.length + 1 := by
    have := runLen_all' (signs := LD) (l := c :: l) (r := r) (fun a ha => (List.mem_cons.mp ha).elim (fun e => e ▸ List.mem_append_left _ hc) (h a)) hr
    rw [List.cons_append] at this
    rw [this]; rfl
  rw [List.cons_append]
  rw [tokAt]
  rw [if_pos hc, hl, show (c :: (l ++ r)).take (l.length + 1) = c :: l by rw [List.take_succ_cons, List.take_left]]
theorem tokAt_op {c : Nat} {r : List Nat} (h1 : c ∉ LET) (h2 : c ∉ DIG) (h3 : ¬ (c = 42 ∧ r.head? = some 42)) : tokAt (c :: r) = some (.op [c], 1) := by
  rw [tokAt]
  rw [if_neg h1, if_neg h2, if_neg h3]
inductive LenIn : List (Tk × Nat) → Option PyData → Nat → Prop
  | nil : LenIn [] none 0
  | num (n k : Nat) : LenIn [(.int n, k)] (if n = 0 then none else some (.tuple [.str "int", .int n])) 1
  | star (a b c : Nat) : LenIn [(.op [40], a), (.op [42], b), (.op [41], c)] (some (.str (S [42]))) 3
  | one (t : Tk) (a b c : Nat) (h : (∃ n, t = .int n) ∨ ∃ s, t = .name s) : LenIn [(.op [40], a), (t, b), (.op [41], c)] (exprOf t) 3
  | none (a b : Nat) : LenIn [(.op [40], a), (.op [41], b)] none 0
noncomputable def lenPy (r : Option PyData) (e : Nat) : Option D := r.map fun d => .t (.tuple [d, .int e])
section
variable {G : Cfg} {p : Params}
theorem ok_parse_dims (O : Own G p) {ts : List (Tk × Nat)} {e : Nat} (hx : ts.length ≤ 1000) (he : e ≤ 1500) (ho : isOp ts e [40] = false) : Ret G 332 [.t (.list (pys ts)), .t (.int e)] 2 (some (.t (.tuple [.list [], .int e]))) := by
  refine ret_body O ["tokens", "at"] t332 (by rfl) (by rfl) (bind2 fun _ _ => by rfl) rfl (by decide) (by decide) (by decide) (by rfl) (by rfl) (a332 O) (fun Γ k ok W F => ?_)
  exact go_list (go_call (ok_is_op O (s := [40]) hx (by exact Nat.le_trans ‹_› (by decide))) W (go_f (no ho) (F.ret rfl)))
theorem ok_parse_length (O : Own G p) {ts : List (Tk × Nat)} {r : Option PyData} {e : Nat} (H : LenIn ts r e) : Ret G 339 [.t (.list (pys ts)), .t (.int 0)] 8 (lenPy r e) := by
  refine ret_body O ["tokens", "at"] t339 (by rfl) (by rfl) (bind2 fun _ _ => by rfl) rfl (by decide) (by decide) (by decide) (by rfl) (by rfl) (a339 O) (fun Γ k ok W F => ?_)
  have hx : ts.length ≤ 1000 := by cases H <;> simp
  refine go_call (ok_kind_at O (e := 0) hx (by decide)) W ?_
  have op : ∀ (e : Nat) (s : List Nat), e ≤ 2000 → s.length ≤ 10 → Ret G 170 [.t (.list (pys ts)), .t (.int e), .t (.str (S s))] 2 (if isOp ts e s = true then some (.t (.int (e + 1 : Nat))) else none) := fun e s he hs => ok_need_op O hx he hs
  cases H with
  | nil => exact go_f (no rfl) (go_callN (op 0 [40] (by decide) (by decide)) W F rfl)
  | num n k =>
    refine go_t (yes rfl) (go_call (ok_need_int O (ts := [(.int n, k)]) (e := 0) hx (by decide)) W ?_)
    by_cases hn : n = 0
    · rw [if_pos hn] at F
      exact go_t (yes (d_eq (b := 0) hn)) (go_raise F rfl)
    · rw [if_neg hn] at F
      exact go_f (no (d_neq (b := 0) hn)) (F.ret rfl)
  | star a b c =>
    refine go_f (no rfl) (go_call (op 0 [40] (by decide) (by decide)) W (go_call (ok_is_op O (e := 1) (s := [42]) hx (by decide)) W (go_t (yes rfl) ?_)))
    exact go_call (op 2 [41] (by decide) (by decide)) W (F.ret rfl)
  | one t a b c h =>
    have hno : isOp [(.op [40], a), (t, b), (.op [41], c)] 1 [42] = false := by
      unfold isOp; rcases h with ⟨n, rfl⟩ | ⟨s, rfl⟩ <;> rfl
    refine go_f (no rfl) (go_call (op 0 [40] (by decide) (by decide)) W (go_call (ok_is_op O (e := 1) (s := [42]) hx (by decide)) W (go_f (no hno) ?_)))
    have hE : ExprIn [(.op [40], a), (t, b), (.op [41], c)] 1 t := ⟨⟨b, rfl⟩, by
      rcases h with ⟨n, rfl⟩ | ⟨s, rfl⟩
      · exact .inl ⟨⟨n, rfl⟩, c, rfl⟩
      · exact .inr (.inl ⟨⟨s, rfl⟩, c, rfl⟩)⟩
    obtain ⟨y, hy⟩ : ∃ y, exprOf t = some y := by rcases h with ⟨n, rfl⟩ | ⟨s, rfl⟩ <;> exact ⟨_, rfl⟩
    have hp := ok_parse_expr O (e := 1) hx (by decide) hE
    unfold exprPy at hp
    rw [hy] at hp F
    exact go_call hp W (go_call (op 2 [41] (by decide) (by decide)) W (F.ret rfl))
  | none a b =>
    refine go_f (no rfl) (go_call (op 0 [40] (by decide) (by decide)) W (go_call (ok_is_op O (e := 1) (s := [42]) hx (by decide)) W (go_f (no rfl) ?_)))
    have hE : ExprIn [(.op [40], a), (.op [41], b)] 1 (.op [41]) := ⟨⟨b, rfl⟩, .inr (.inr rfl)⟩
    exact go_callN (ok_parse_expr O (e := 1) hx (by decide) hE) W F rfl
end
end P279
end
section
open PySem PySem.W PyProof.Rows PySem.Spec PySem.Calls PySem.Builtin PySem.Builtin.Str
set_option maxHeartbeats 400000
namespace P279
theorem s_nt {a b : List Nat} (h : a ≠ b) : (S a != S b) = true := by unfold bne; rw [s_neq h]; rfl
theorem s_nf {a b : List Nat} (h : a = b) : (S a != S b) = false := by unfold bne; rw [s_eq h]; rfl
section
variable {G : Cfg} {p : Params}
end
theorem cloF_find {x : List Nat} {L : List Int} {lv : Int} {f : Nat} : ∀ {k a : Nat}, (∀ j, a ≤ j → j < a + k → x[j]? ≠ some 41) → x[a + k]? = some 41 → L[a + k]? = some lv → k < f → cloF x L lv f a = ((a + k : Nat) : Int) := by
  induction f with
  | zero => intro k a _ _ _ h; lia
  | succ f ih =>
    intro k a h1 h2 h3 hk
    rw [cloF]
    cases k with
    | zero => rw [if_pos ⟨h2, h3⟩]; rfl
    | succ k =>
      rw [if_neg (fun h => h1 a (Nat.le_refl _) (by lia) h.1)]
      rw [ih (k := k) (a := a + 1) (fun j q1 q2 => h1 j (by exact Nat.le_of_lt ‹_›) (by lia)) (by rw [show a + 1 + k = a + (k + 1) by lia]; exact h2) (by rw [show a + 1 + k = a + (k + 1) by lia]; exact h3) (by lia)]
      congr 1; lia
theorem cloF_none {x : List Nat} {L : List Int} {lv : Int} {f : Nat} : ∀ {a : Nat}, (∀ j, a ≤ j → x[j]? ≠ some 41) → cloF x L lv f a = -1 := by
  induction f with
  | zero => intro a _; rfl
  | succ f ih =>
    intro a h
    rw [cloF, if_neg (fun q => h a (Nat.le_refl _) q.1)]
    exact ih fun j hj => h j (by exact Nat.le_of_lt ‹_›)
theorem depF_flat {d : Int} {l r : List Nat} (h : ∀ c ∈ l, c ≠ 40 ∧ c ≠ 41) : depF d (l ++ r) = List.replicate l.length d ++ depF d r := by
  induction l with
  | nil => rfl
  | cons c l ih =>
    have hc := h c (List.mem_cons_self ..)
    have hs : depStep d c = (d, d) := by unfold depStep; rw [if_neg (fun q => hc.1 q.1), if_neg (fun q => hc.2 q.1), if_neg hc.2]
    rw [List.cons_append, depF, hs, ih (fun c q => h c (List.mem_cons_of_mem _ q))]
    rfl
inductive HeadIn : List Nat → Option (PyData × List Nat) → Prop
  | plain (x : List Nat) (h : x.head? ≠ some 42) : HeadIn x (some (.none, x))
  | num (ds r : List Nat) (h0 : ds ≠ []) (h : ∀ c ∈ ds, c ∈ DIG) (hr : ∀ c, r.head? = some c → c ∉ DIG) : HeadIn (42 :: (ds ++ r)) (if NumText.digitsVal ds = 0 then none else some (.tuple [.str "int", .int (NumText.digitsVal ds : Nat)], r))
  | bare (r : List Nat) (hr : ∀ c, r.head? = some c → c ∉ DIG ∧ c ≠ 40) : HeadIn (42 :: r) none
  | opn (r : List Nat) (h : 41 ∉ r) : HeadIn (42 :: 40 :: r) none
  | empty (r : List Nat) : HeadIn (42 :: 40 :: 41 :: r) none
  | star (r : List Nat) : HeadIn (42 :: 40 :: 42 :: 41 :: r) (some (.str (S [42]), r))
  | dig (i r : List Nat) (h0 : i ≠ []) (h : ∀ c ∈ i, c ∈ DIG) : HeadIn (42 :: 40 :: (i ++ 41 :: r)) (some (.tuple [.str "int", .int (NumText.digitsVal i : Nat)], r))
  | name (c : Nat) (i r : List Nat) (hc : c ∈ LET) (h : ∀ c ∈ i, c ∈ LD) : HeadIn (42 :: 40 :: (c :: i ++ 41 :: r)) (if i.length + 1 > 6 then none else some (.tuple [.str "name", .str (S (c :: i))], r))
noncomputable def headPy (r : Option (PyData × List Nat)) : Option D := r.map fun p => .t (.tuple [p.1, .str (S p.2)])
theorem lex_digits {l : List Nat} (h0 : l ≠ []) (h : ∀ c ∈ l, c ∈ DIG) : lexF l.length l 0 = some [(.int (NumText.digitsVal l), 0)] := by
  have ht := tokAt_digits (r := []) h0 h (by intro c hc; simp at hc)
  rw [List.append_nil] at ht
  cases l with
  | nil => exact absurd rfl h0
  | cons c l => rw [List.length_cons, lexF_step ht, List.drop_length, lexF_end]; rfl
theorem tok_open {r : List Nat} : tokAt (40 :: r) = some (.op [40], 1) := tokAt_op (by decide) (by decide) (by rintro ⟨h, _⟩; cases h)
theorem tok_close {r : List Nat} : tokAt (41 :: r) = some (.op [41], 1) := tokAt_op (by decide) (by decide) (by rintro ⟨h, _⟩; cases h)
theorem lex_par {i : List Nat} {t : Tk} {n f : Nat} (hi : i ≠ []) (h : tokAt (i ++ [41]) = some (t, n)) (hn : n = i.length) : lexF (f + 3) (40 :: (i ++ [41])) 0 = some [(.op [40], 0), (t, 1), (.op [41], 1 + n)] := by
  obtain ⟨c, i, rfl⟩ := List.exists_cons_of_ne_nil hi
  rw [lexF_step tok_open]
  show ((lexF (f + 2) (c :: (i ++ [41])) (0 + 1)).map _) = _
  have h' : tokAt (c :: (i ++ [41])) = some (t, n) := h
  rw [lexF_step h', show (c :: (i ++ [41])).drop n = [41] by rw [hn, List.length_cons, List.drop_succ_cons, List.drop_left], lexF_step tok_close]
  simp only [List.drop_succ_cons, List.drop_zero, lexF_end, Option.map_some, Nat.zero_add]
theorem lex_par0 {f : Nat} : lexF (f + 2) [40, 41] 0 = some [(.op [40], 0), (.op [41], 1)] := by
  rw [lexF_step tok_open]
  show ((lexF (f + 1) [41] (0 + 1)).map _) = _
  rw [lexF_step tok_close]
  simp only [List.drop_succ_cons, List.drop_zero, lexF_end, Option.map_some, Nat.zero_add]
theorem lex_parN {i : List Nat} {f : Nat} (hi : i ≠ []) (h : tokAt (i ++ [41]) = none) : lexF (f + 2) (40 :: (i ++ [41])) 0 = none := by
  obtain ⟨c, i, rfl⟩ := List.exists_cons_of_ne_nil hi
  rw [lexF_step tok_open]
  show ((lexF (f + 1) (c :: (i ++ [41])) (0 + 1)).map _) = _
  have h' : tokAt (c :: (i ++ [41])) = none := h
  rw [lexF_none h']
  rfl
theorem clo_at {i r : List Nat} (h : ∀ c ∈ i, c ≠ 40 ∧ c ≠ 41) : cloF (42 :: 40 :: (i ++ 41 :: r)) (depF 0 (42 :: 40 :: (i ++ 41 :: r))) 0 ((42 :: 40 :: (i ++ 41 :: r)).length - (1 + 1)) (1 + 1) = ((2 + i.length : Nat) : Int) := by
  refine cloF_find (k := i.length) (a := 2) (fun j h1 h2 => ?_) ?_ ?_ (by simp)
  · obtain ⟨j, rfl⟩ : ∃ j', j = j' + 2 := ⟨j - 2, by omega⟩
    simp only [List.getElem?_cons_succ]
    rw [List.getElem?_append_left (by lia)]
    intro e
    exact (h _ (List.mem_of_getElem? e)).2 rfl
  · rw [show 2 + i.length = i.length + 1 + 1 by lia]
    simp
  · have h1 : depF 0 (42 :: 40 :: (i ++ 41 :: r)) = 0 :: 0 :: (List.replicate i.length 1 ++ 0 :: depF 0 r) := by
      rw [depF, depF, show (depStep 0 42) = (0, 0) from rfl]
      rw [show (depStep 0 40) = (1, 0) from rfl, depF_flat h, depF, show depStep 1 41 = (0, 0) from rfl]
    rw [h1, show 2 + i.length = i.length + 1 + 1 by lia]
    simp
theorem clo_no {r : List Nat} (h : 41 ∉ r) {f : Nat} {L : List Int} : cloF (42 :: 40 :: r) L 0 f (1 + 1) = -1 := by
  refine cloF_none fun j hj e => ?_
  obtain ⟨j, rfl⟩ : ∃ j', j = j' + 2 := ⟨j - 2, by omega⟩
  simp only [List.getElem?_cons_succ] at e
  exact h (List.mem_of_getElem? e)
theorem let_ne {c : Nat} (h : c ∈ LD) : c ≠ 40 ∧ c ≠ 41 ∧ c ≠ 42 := ⟨by rintro rfl; exact absurd h (by decide), by rintro rfl; exact absurd h (by decide), by rintro rfl; exact absurd h (by decide)⟩
theorem dig_LD {c : Nat} (h : c ∈ DIG) : c ∈ LD := List.mem_append_right _ h
theorem let_LD {c : Nat} (h : c ∈ LET) : c ∈ LD := List.mem_append_left _ h
theorem cloF_ge {x : List Nat} {L : List Int} {lv : Int} {f : Nat} : ∀ {a : Nat}, -1 ≤ cloF x L lv f a := by
  induction f with
  | zero => intro a; exact Int.le_refl _
  | succ f ih => intro a; rw [cloF]; split
                 · exact Int.natCast_nonneg _
                 · exact ih
noncomputable def headA (x : List Nat) : Nat := if (x.drop 1).head? = some 40 then (cloF x (depF 0 x) 0 (x.length - (1 + 1)) (1 + 1) + 1).toNat else 1 + runLen DIG (x.drop 1)
noncomputable def TailIn (x : List Nat) (A : Nat) (r : Option (PyData × List Nat)) : Prop :=
  (A = 0 ∧ r = none) ∨ (1 ≤ A ∧ A ≤ x.length ∧ ((lexF ((x.drop 1).take (A - 1)).length ((x.drop 1).take (A - 1)) 0 = none ∧ r = none) ∨
    ∃ ts q e, lexF ((x.drop 1).take (A - 1)).length ((x.drop 1).take (A - 1)) 0 = some ts ∧ LenIn ts q e ∧ (q ≠ none → ¬ e < ts.length) ∧ r = q.map fun d => (d, x.drop A)))
theorem headA_in {i r : List Nat} (h : ∀ c ∈ i, c ≠ 40 ∧ c ≠ 41) : headA (42 :: 40 :: (i ++ 41 :: r)) = i.length + 3 := by
  unfold headA
  rw [if_pos (show ((42 :: 40 :: (i ++ 41 :: r)).drop 1).head? = some 40 from rfl), clo_at h]
  lia
theorem chunk_in {i r : List Nat} : ((42 :: 40 :: (i ++ 41 :: r)).drop 1).take (i.length + 3 - 1) = 40 :: (i ++ [41]) := by
  rw [List.drop_succ_cons, List.drop_zero, show i.length + 3 - 1 = (i.length + 1) + 1 by lia, List.take_succ_cons]
  rw [show i ++ 41 :: r = (i ++ [41]) ++ r by simp, List.take_left' (by simp)]
theorem rest_in {i r : List Nat} : (42 :: 40 :: (i ++ 41 :: r)).drop (i.length + 3) = r := by
  rw [show i.length + 3 = (i.length + 1) + 1 + 1 by lia, List.drop_succ_cons, List.drop_succ_cons]
  rw [show i ++ 41 :: r = (i ++ [41]) ++ r by simp, List.drop_left' (by simp)]
theorem HeadIn.tail {x : List Nat} {r : Option (PyData × List Nat)} (H : HeadIn x r) (h42 : x.head? = some 42) : TailIn x (headA x) r := by
  cases H with
  | plain x h => exact absurd h42 h
  | num ds r h0 h hr =>
    have hne : (ds ++ r).head? ≠ some 40 := by
      obtain ⟨c, l, rfl⟩ := List.exists_cons_of_ne_nil h0
      intro e; cases e; exact absurd (h 40 (List.mem_cons_self ..)) (by decide)
    have hA : headA (42 :: (ds ++ r)) = ds.length + 1 := by
      unfold headA
      rw [List.drop_succ_cons, List.drop_zero, if_neg hne, runLen_all' h hr]; lia
    rw [hA]
    refine .inr ⟨by lia, by simp, .inr ⟨[(.int (NumText.digitsVal ds), 0)], _, 1, ?_, LenIn.num _ _, fun _ => Nat.lt_irrefl _, ?_⟩⟩
    · rw [List.drop_succ_cons, List.drop_zero, Nat.add_sub_cancel, List.take_left]; exact lex_digits h0 h
    · rw [List.drop_succ_cons, List.drop_left]
      split <;> rfl
  | bare r hr =>
    have hne : r.head? ≠ some 40 := fun e => (hr 40 e).2 rfl
    have hA : headA (42 :: r) = 1 := by
      unfold headA
      rw [List.drop_succ_cons, List.drop_zero, if_neg hne]
      have := runLen_all' (signs := DIG) (l := []) (r := r) (by simp) (fun c hc => (hr c hc).1)
      rw [List.nil_append] at this
      rw [this]; rfl
    rw [hA]
    exact .inr ⟨by decide, by simp, .inr ⟨[], _, 0, rfl, LenIn.nil, fun h => absurd rfl h, rfl⟩⟩
  | opn r h =>
    have hA : headA (42 :: 40 :: r) = 0 := by
      unfold headA
      rw [if_pos (show ((42 :: 40 :: r).drop 1).head? = some 40 from rfl), clo_no h]; rfl
    rw [hA]
    exact .inl ⟨rfl, rfl⟩
  | empty r =>
    have hA := headA_in (i := []) (r := r) (by simp)
    have hc := chunk_in (i := []) (r := r)
    rw [List.nil_append] at hA hc
    rw [hA]
    refine .inr ⟨by decide, by simp, .inr ⟨[(.op [40], 0), (.op [41], 1)], _, 0, ?_, LenIn.none 0 1, fun h => absurd rfl h, rfl⟩⟩
    rw [hc]; exact lex_par0
  | star r =>
    have hA := headA_in (i := [42]) (r := r) (by simp)
    have hc := chunk_in (i := [42]) (r := r)
    have hr := rest_in (i := [42]) (r := r)
    rw [show [42] ++ 41 :: r = 42 :: 41 :: r from rfl] at hA hc hr
    rw [hA]
    refine .inr ⟨by decide, by simp, .inr ⟨[(.op [40], 0), (.op [42], 1), (.op [41], 2)], _, 3, ?_, LenIn.star 0 1 2, fun _ => Nat.lt_irrefl _, ?_⟩⟩
    · rw [hc]
      exact lex_par (i := [42]) (t := .op [42]) (n := 1) (f := 0) (by simp) (tokAt_op (by decide) (by decide) (by rintro ⟨_, h⟩; cases h)) rfl
    · rw [hr]; rfl
  | dig i r h0 h =>
    have h' : ∀ c ∈ i, c ≠ 40 ∧ c ≠ 41 := fun c hc => let ⟨a, b, _⟩ := let_ne (dig_LD (h c hc)); ⟨a, b⟩
    rw [headA_in h']
    refine .inr ⟨by lia, by simp, .inr ⟨[(.op [40], 0), (.int (NumText.digitsVal i), 1), (.op [41], 1 + i.length)], _, 3, ?_, LenIn.one _ 0 1 (1 + i.length) (.inl ⟨_, rfl⟩), fun _ => Nat.lt_irrefl _, ?_⟩⟩
    · rw [chunk_in]
      have := lex_par (i := i) (t := .int (NumText.digitsVal i)) (n := i.length) (f := i.length - 1) h0 (tokAt_digits h0 h (by intro c hc; cases hc; exact ⟨by decide, by decide, by decide⟩)) rfl
      have hl : 0 < i.length := List.length_pos_iff.mpr h0
      rw [show (40 :: (i ++ [41])).length = i.length - 1 + 3 by simp; lia]
      exact this
    · rw [rest_in]; rfl
  | name c i r hc h =>
    have hall : ∀ d ∈ c :: i, d ∈ LD := fun d hd => (List.mem_cons.mp hd).elim (fun e => e ▸ let_LD hc) (h d)
    have h' : ∀ d ∈ c :: i, d ≠ 40 ∧ d ≠ 41 := fun d hd => let ⟨a, b, _⟩ := let_ne (hall d hd); ⟨a, b⟩
    have hA := headA_in (i := c :: i) (r := r) h'
    have hch := chunk_in (i := c :: i) (r := r)
    have hr := rest_in (i := c :: i) (r := r)
    rw [hA]
    have ht := tokAt_name (c := c) (l := i) (r := [41]) hc h (by intro d hd; cases hd; decide)
    by_cases h6 : i.length + 1 > 6
    · rw [if_pos h6] at ht ⊢
      refine .inr ⟨by lia, by simp, .inl ⟨?_, rfl⟩⟩
      rw [hch]
      rw [show (40 :: (c :: i ++ [41])).length = i.length + 1 + 2 by simp]
      exact lex_parN (i := c :: i) (by simp) ht
    · rw [if_neg h6] at ht ⊢
      refine .inr ⟨by lia, by simp, .inr ⟨[(.op [40], 0), (.name (c :: i), 1), (.op [41], 1 + (i.length + 1))], _, 3, ?_, LenIn.one _ 0 1 _ (.inr ⟨_, rfl⟩), fun _ => Nat.lt_irrefl _, ?_⟩⟩
      · rw [hch]
        rw [show (40 :: (c :: i ++ [41])).length = i.length + 3 by simp]
        exact lex_par (i := c :: i) (by simp) ht rfl
      · rw [hr]; rfl
theorem LenIn.len {ts : List (Tk × Nat)} {q : Option PyData} {e : Nat} (H : LenIn ts q e) : ts.length ≤ 1000 := by cases H <;> simp
section
variable {G : Cfg} {p : Params}
theorem ok_head_length (O : Own G p) {x : List Nat} {r : Option (PyData × List Nat)} (hx : x.length ≤ 600) (ha : Alp x) (H : HeadIn x r) : Ret G 346 [.t (.str (S x))] 9 (headPy r) := by
  refine ret_body O ["text"] t346 (by rfl) (by rfl) (bind1 fun _ => by rfl) rfl (by decide) (by decide) (by decide) (by rfl) (by rfl) (a346 O) (fun Γ k ok W F => ?_)
  refine go_slice (k6 hx) (slc_to x 1 (by decide)) ?_
  by_cases h42 : x.head? = some 42
  · have hT := H.tail h42
    obtain ⟨y, rfl⟩ : ∃ y, x = 42 :: y := by cases x with | nil => cases h42 | cons c y => cases h42; exact ⟨y, rfl⟩
    refine go_f (no (s_nf (a := [42]) (b := [42]) rfl)) ?_
    have hlv : ((42 :: y).drop 1).head? = some 40 → (depF 0 (42 :: y))[1]? = some 0 := by
      intro e
      cases y with
      | nil => cases e
      | cons c y => cases e; rfl
    generalize hz : 42 :: y = z at hx ha hT hlv ⊢
    clear hz H h42 y
    refine go_let ?_; intro vv; refine go_whileC ok (σ := Nat) ["at", "text"] (fun n e => n = z.length - e ∧ e + runLen DIG (z.drop e) = 1 + runLen DIG (z.drop 1)) (fun e => e = 1 + runLen DIG (z.drop 1)) (fun e => [.t (.int e), .t (.str (S z))]) (fun _ => []) ⟨_, 1, ⟨rfl, rfl⟩, rfl, rfl⟩ ?_ ?_
    · rintro n e ag out ⟨rfl, h3⟩ hag hout
      refine go_let ?_; intro vv; refine go_ask (lok6 hx) ?_
      by_cases hlt : e < z.length
      · refine go_let ?_; intro vv; refine go_t (yes (d_lt hlt)) (go_str (List.getElem?_eq_getElem hlt) (by lia) ?_)
        rw [runLen_drop hlt] at h3
        by_cases hin : z[e] ∈ DIG
        · rw [if_pos hin] at h3
          exact go_t (yes (d_in hin)) (hag _ (e + 1) _ _ (Nat.sub_succ_lt_self _ _ hlt) ⟨rfl, by lia⟩ rfl rfl)
        · rw [if_neg hin] at h3
          exact go_f (no (d_nin hin)) (hout e _ _ h3 rfl rfl)
      · rw [List.drop_eq_nil_of_le (Nat.le_of_not_lt hlt)] at h3
        exact go_f (no (d_nlt hlt)) (hout e _ _ h3 rfl rfl)
    · rintro e rfl
      refine go_let ?_; intro vv; refine go_fork ok (σ := Unit) ["at", "text"] (fun _ => True) (fun _ => [.t (.int (headA z)), .t (.str (S z))]) (fun _ => []) (fun ag hag => ?_) (fun _ _ => ?_)
      · refine go_let ?_; intro vv; refine go_slice (k6 hx) (slc_mid z 1 2 (by decide) (by decide)) ?_
        by_cases h40 : (z.drop 1).head? = some 40
        · have hcl := ok_closing O hx ha (hlv h40)
          have hA : cloF z (depF 0 z) 0 (z.length - (1 + 1)) (1 + 1) + 1 = (headA z : Int) := by
            unfold headA; rw [if_pos h40]
            have := cloF_ge (x := z) (L := depF 0 z) (lv := 0) (f := z.length - (1 + 1)) (a := 1 + 1)
            lia
          refine go_let ?_; intro vv; refine go_t (yes (s_eq (b := [40]) ?_)) (go_call hcl W (hag () _ _ trivial (by rw [← hA]; rfl) rfl))
          cases hq : z.drop 1 with
          | nil => rw [hq] at h40; cases h40
          | cons c l => rw [hq] at h40; cases h40; exact congrArg (List.take 1) hq
        · refine go_let ?_; intro vv; refine go_f (no (s_neq (b := [40]) fun e => h40 ?_)) (hag () _ _ trivial (by unfold headA; rw [if_neg h40]; rfl) rfl)
          have e : (z.drop 1).take 1 = [40] := e
          cases hq : z.drop 1 with
          | nil => rw [hq] at e; cases e
          | cons c l => rw [hq] at e; injection e with e; rw [e]; rfl
      · clear hlv
        generalize headA z = A0 at hT ⊢
        rcases hT with ⟨rfl, rfl⟩ | ⟨h1, h2, hT⟩
        · exact go_t (yes rfl) (go_raise F rfl)
        refine go_let ?_; intro vv; refine go_f (no (d_neq (b := 0) (by lia))) (go_slice (k6 hx) (slc_mid z 1 A0 (by decide) (by exact Int.natCast_nonneg _)) ?_)
        have htk := ok_tokens_of O (x := (z.drop 1).take (A0 - 1)) (td_len _ _ (by assumption)) ((ha.drop 1).take _)
        unfold lexPy at htk
        rcases hT with ⟨hl, rfl⟩ | ⟨ts, q, e, hl, HL, he, rfl⟩
        · rw [hl] at htk
          exact go_callN htk W F rfl
        · rw [hl] at htk
          refine go_let ?_; intro vv; refine go_call htk W ?_
          have hp := ok_parse_length O HL
          unfold lenPy at hp
          cases q with
          | none => exact go_callN hp W F rfl
          | some d =>
            have hne := ok_need_end O (e := e) HL.len
            rw [if_neg (he (by exact nofun))] at hne
            refine go_let ?_; intro vv; refine go_call hp W (go_call hne W (go_slice (k6 hx) (slc_from z A0 (by exact Int.natCast_nonneg _)) (F.ret rfl)))
  · refine go_let ?_; intro vv; refine go_t (yes (s_nt (b := [42]) ?_)) ?_
    · intro e
      have e : x.take 1 = [42] := e
      cases x with
      | nil => cases e
      | cons c y => injection e with e; exact h42 (by rw [e]; rfl)
    · cases H with
      | plain x h => exact F.ret rfl
      | _ => exact absurd rfl h42
end
end P279
end
section
open PySem PySem.W PyProof.Rows PySem.Spec PySem.Calls PySem.Builtin PySem.Builtin.Str
set_option maxHeartbeats 400000
namespace P279
theorem ar_pos {n e f : Nat} (h1 : e ≤ n) (h4 : n + 1 < f + e) : ∃ f', f = f' + 1 := ⟨f - 1, by omega⟩
theorem ar_dec {n e e' : Nat} (h : e < e') (h2 : e' ≤ n) : n + 1 - (e' + 1) < n + 1 - e := by omega
theorem ar_f {n f e e' : Nat} (h4 : n < f + 1 + e) (h : e < e') : n < f + (e' + 1) := by omega
noncomputable def letAt (ts : List (Tk × Nat)) (e : Nat) : Option Nat := match ts[e]? with
  | some (.name [c], _) => some c
  | _ => none
noncomputable def parL : Nat → List (Tk × Nat) → Nat → Option (List (Nat × Nat) × Nat)
  | 0, _, _ => none
  | f + 1, ts, e => match letAt ts e with
    | none => none
    | some c => match (if isOp ts (e + 1) [45] = true then (letAt ts (e + 2)).map (fun d => (d, e + 3)) else some (c, e + 1)) with
      | none => none
      | some (d, e') => if isOp ts e' [44] = true then (parL f ts (e' + 1)).map (fun q => ((c, d) :: q.1, q.2)) else some ([(c, d)], e')
noncomputable def parsP (ts : List (Tk × Nat)) : Option (List (Nat × Nat)) :=
  if isOp ts 0 [40] = true then match parL (ts.length + 1) ts 1 with
    | none => none
    | some q => if isOp ts q.2 [41] = true then if q.2 + 1 < ts.length then none else some q.1 else none
  else none
noncomputable def lets (ls : List (Nat × Nat)) : List PyData := ls.map fun p => .tuple [.str (S [p.1]), .str (S [p.2])]
theorem lets_append (a b : List (Nat × Nat)) : lets (a ++ b) = lets a ++ lets b := List.map_append ..
theorem lets_length (a : List (Nat × Nat)) : (lets a).length = a.length := List.length_map ..
noncomputable def lettersF (x : List Nat) : Option (List (Nat × Nat)) := (lexF x.length x 0).bind parsP
noncomputable def lettersPy (x : List Nat) : Option D := (lettersF x).map fun ls => .t (.list (lets ls))
theorem isOp_lt {ts : List (Tk × Nat)} {e : Nat} {s : List Nat} (h : isOp ts e s = true) : e < ts.length := by
  unfold isOp at h
  cases ht : ts[e]? with
  | none => rw [ht] at h; cases h
  | some t => exact (List.getElem?_eq_some_iff.mp ht).1
theorem letAt_lt {ts : List (Tk × Nat)} {e c : Nat} (h : letAt ts e = some c) : e < ts.length := by
  unfold letAt at h
  cases ht : ts[e]? with
  | none => rw [ht] at h; cases h
  | some t => exact (List.getElem?_eq_some_iff.mp ht).1
theorem lexF_len {f : Nat} : ∀ {x : List Nat} {e : Nat} {ts : List (Tk × Nat)}, lexF f x e = some ts → ts.length ≤ f := by
  induction f with
  | zero => intro x e ts h; cases h; simp
  | succ f ih =>
    intro x e ts h
    cases x with
    | nil => cases h; simp
    | cons c r =>
      rw [lexF] at h
      split at h
      · cases h
      · rename_i t n _
        cases q : lexF f ((c :: r).drop n) (e + n) with
        | none => rw [q] at h; cases h
        | some us => rw [q] at h; cases h; have := ih q; simp; omega
theorem tokAt_names {x : List Nat} {s : List Nat} {n : Nat} (h : tokAt x = some (.name s, n)) : s.length ≤ 6 := by
  cases x with
  | nil => cases h
  | cons c r =>
    rw [tokAt] at h
    by_cases hL : c ∈ LET
    · rw [if_pos hL] at h
      split at h
      · cases h
      · rename_i h6
        cases h
        rw [List.length_take]; omega
    · rw [if_neg hL] at h
      by_cases hD : c ∈ DIG
      · rw [if_pos hD] at h
        injection h with h
        unfold numAt at h
        split at h <;> (injection h with h _; cases h)
      · rw [if_neg hD] at h
        split at h <;> (injection h with h; injection h with h _; cases h)
theorem lexF_names {f : Nat} : ∀ {x : List Nat} {e : Nat} {ts : List (Tk × Nat)}, lexF f x e = some ts → ∀ s k, (Tk.name s, k) ∈ ts → s.length ≤ 6 := by
  induction f with
  | zero => intro x e ts h; cases h; simp
  | succ f ih =>
    intro x e ts h
    cases x with
    | nil => cases h; simp
    | cons c r =>
      rw [lexF] at h
      split at h
      · cases h
      · rename_i t n ht
        cases q : lexF f ((c :: r).drop n) (e + n) with
        | none => rw [q] at h; cases h
        | some us =>
          rw [q] at h; cases h
          intro s k hm
          rcases List.mem_cons.mp hm with hm | hm
          · injection hm with h1 h2; subst h1; exact tokAt_names ht
          · exact ih q s k hm
section
variable {G : Cfg} {p : Params}
theorem ok_parse_letter (O : Own G p) {ts : List (Tk × Nat)} {e : Nat} (hx : ts.length ≤ 1000) (he : e ≤ 1500) (hnm : ∀ s k, (Tk.name s, k) ∈ ts → s.length ≤ 6) : Ret G 381 [.t (.list (pys ts)), .t (.int e)] 3 ((letAt ts e).map fun c => .t (.tuple [.str (S [c]), .int (e + 1 : Nat)])) := by
  refine ret_body O ["tokens", "at"] t381 (by rfl) (by rfl) (bind2 fun _ _ => by rfl) rfl (by decide) (by decide) (by decide) (by rfl) (by rfl) (a381 O) (fun Γ k ok W F => ?_)
  have hn := ok_need_name O (e := e) hx (by omega)
  have fact : (nameAt ts e = none ∧ letAt ts e = none) ∨ ∃ s, s.length ≤ 6 ∧ nameAt ts e = some s ∧ letAt ts e = (if s.length = 1 then s.head? else none) := by
    unfold nameAt letAt
    cases ht : ts[e]? with
    | none => exact .inl ⟨rfl, rfl⟩
    | some t =>
      obtain ⟨t, k⟩ := t
      cases t with
      | name s =>
        refine .inr ⟨s, hnm s k (List.mem_of_getElem? ht), rfl, ?_⟩
        match s with
        | [] => rfl
        | [c] => rfl
        | c :: d :: r => exact (if_neg fun h => Nat.noConfusion (Nat.succ.inj h)).symm
      | _ => exact .inl ⟨rfl, rfl⟩
  rcases fact with ⟨f1, f2⟩ | ⟨s, hs, f1, f2⟩
  · rw [f1] at hn; rw [f2] at F
    exact go_callN hn W F rfl
  · rw [f1] at hn
    refine go_let ?_; intro vv; refine go_call hn W (go_ask (lok6 (show s.length ≤ 600 by omega)) ?_)
    by_cases h1 : s.length = 1
    · rw [f2, if_pos h1] at F
      obtain ⟨c, rfl⟩ := len1 h1
      exact go_f (no rfl) (F.ret rfl)
    · rw [f2, if_neg h1] at F
      refine go_let ?_; intro vv; exact go_t (yes (by rw [bne_iff_ne]; exact fun e => h1 (Int.ofNat.inj e))) (go_raise F rfl)
theorem ok_parse_letters (O : Own G p) {x : List Nat} (hx : x.length ≤ 600) (ha : Alp x) : Ret G 388 [.t (.str (S x))] 6 (lettersPy x) := by
  refine ret_body O ["text"] t388 (by rfl) (by rfl) (bind1 fun _ => by rfl) rfl (by decide) (by decide) (by decide) (by rfl) (by rfl) (a388 O) (fun Γ k ok W F => ?_)
  have htk := ok_tokens_of O hx ha
  unfold lexPy at htk
  unfold lettersPy lettersF at F
  cases hl : lexF x.length x 0 with
  | none => rw [hl] at htk F; exact go_callN htk W F rfl
  | some ts =>
    have hts := lexF_len hl
    have hnm := lexF_names hl
    rw [hl] at htk F
    rw [Option.bind_some] at F
    refine go_let ?_; intro vv; refine go_call htk W ?_
    unfold parsP at F
    have hop := ok_need_op O (ts := ts) (e := 0) (s := [40]) (by omega) (by decide) (by decide)
    by_cases ho : isOp ts 0 [40] = true
    rotate_left
    · rw [if_neg ho] at hop F
      exact go_callN hop W F rfl
    rw [if_pos ho] at hop F
    have hlt0 := isOp_lt ho
    refine go_let ?_; intro vv; refine go_call hop W (go_new fun a _ => ?_)
    clear htk hop
    generalize hP : parL (ts.length + 1) ts 1 = P at F
    refine go_let ?_; intro vv; refine go_while ok (σ := Nat × List (Nat × Nat) × Bool) ["tokens", "at", "is_more", "letters"] (fun n s => s.1 ≤ ts.length ∧ s.2.1.length ≤ s.1 ∧ (if s.2.2 = true then n = ts.length + 1 - s.1 ∧ ∃ f, ts.length + 1 < f + s.1 ∧ (parL f ts s.1).map (fun q => (s.2.1 ++ q.1, q.2)) = P else some (s.2.1, s.1) = P))
      (fun s => [.t (.list (pys ts)), .t (.int s.1), .t (.bool s.2.2), .loc a]) (fun s => [(a, lets s.2.1)]) ⟨ts.length, (1, [], true), ⟨hlt0, Nat.zero_le _, ?_⟩, rfl, rfl⟩ ?_
    · rw [if_pos rfl]
      refine ⟨rfl, ts.length + 1, Nat.lt_succ_self _, ?_⟩
      rw [hP]; cases P <;> rfl
    · rintro n ⟨e, out, more⟩ ag ⟨h1, h2, h3⟩ hag
      dsimp only at h1 h2 h3 hag
      have hx' : ts.length ≤ 1000 := by omega
      have he0 : e ≤ 1000 := Nat.le_trans h1 hx'
      have he : e ≤ 2000 := Nat.le_trans he0 (by decide)
      cases more with
      | false =>
        rw [if_neg (by decide)] at h3
        subst h3
        refine go_let ?_; intro vv; refine go_f (no rfl) ?_
        have hop2 := ok_need_op O (ts := ts) (e := e) (s := [41]) hx' he (by decide)
        dsimp only at F
        by_cases hc : isOp ts e [41] = true
        rotate_left
        · rw [if_neg hc] at hop2 F
          exact go_callN hop2 W F rfl
        rw [if_pos hc] at hop2 F
        refine go_let ?_; intro vv; refine go_call hop2 W ?_
        have hne := ok_need_end O (ts := ts) (e := e + 1) hx'
        by_cases hend : e + 1 < ts.length
        · rw [if_pos hend] at hne F
          exact go_callN hne W F rfl
        rw [if_neg hend] at hne F
        exact go_call hne W (go_ask fz (F.ret rfl))
      | true =>
        rw [if_pos rfl] at h3
        obtain ⟨rfl, f, h4, h5⟩ := h3
        refine go_let ?_; intro vv; refine go_t (yes rfl) ?_
        obtain ⟨f, rfl⟩ := ar_pos h1 h4
        rw [parL] at h5
        have hlt := ok_parse_letter O (ts := ts) (e := e) hx' (Nat.le_trans he0 (by decide)) hnm
        cases hle : letAt ts e with
        | none =>
          rw [hle] at hlt h5
          exact go_callN hlt W F (by rw [← h5]; rfl)
        | some c =>
          rw [hle] at hlt h5
          dsimp only at h5
          have helt := letAt_lt hle
          refine go_call hlt W ?_
          refine go_let ?_; intro vv; refine go_fork ok (σ := Nat × Nat) ["first", "last", "at", "tokens", "letters"] (fun s => (if isOp ts (e + 1) [45] = true then (letAt ts (e + 2)).map (fun d => (d, e + 3)) else some (c, e + 1)) = some s ∧ s.2 ≤ ts.length ∧ e < s.2) (fun s => [.t (.str (S [c])), .t (.str (S [s.1])), .t (.int s.2), .t (.list (pys ts)), .loc a]) (fun _ => [(a, lets out)]) (fun ag' hag' => ?_) ?_
          · refine go_let ?_; intro vv; refine go_call (ok_is_op O (e := e + 1) (s := [45]) hx' (Nat.le_trans (Nat.succ_le_succ he0) (by decide))) W ?_
            by_cases h45 : isOp ts (e + 1) [45] = true
            · refine go_let ?_; intro vv; refine go_t (yes h45) ?_
              rw [if_pos h45] at h5
              have hlt2 := ok_parse_letter O (ts := ts) (e := e + 2) hx' (Nat.le_trans (Nat.add_le_add_right he0 2) (by decide)) hnm
              cases hle2 : letAt ts (e + 2) with
              | none =>
                rw [hle2] at hlt2 h5
                exact go_callN hlt2 W F (by rw [← h5]; rfl)
              | some d =>
                rw [hle2] at hlt2
                have := letAt_lt hle2
                exact go_call hlt2 W (hag' (d, e + 3) _ _ ⟨by rw [if_pos h45, hle2]; rfl, this, Nat.lt_add_of_pos_right (by decide)⟩ rfl rfl)
            · exact go_f (no (by simpa using h45)) (hag' (c, e + 1) _ _ ⟨if_neg h45, helt, Nat.lt_succ_self e⟩ rfl rfl)
          · rintro ⟨d, e'⟩ ⟨hde, he1, he2⟩
            dsimp only at he1 he2
            rw [hde] at h5
            dsimp only at h5
            have happ : lets out ++ [PyData.tuple [.str (S [c]), .str (S [d])]] = lets (out ++ [(c, d)]) := (lets_append out [(c, d)]).symm
            refine go_let ?_; intro vv; refine go_ask tyD_head (go_app (ds := lets out) (by rw [lets_length]; exact Nat.le_trans h2 (Nat.le_trans he (by decide))) (go_call (ok_is_op O (e := e') (s := [44]) hx' (Nat.le_trans he1 (Nat.le_trans hx' (by decide)))) W ?_))
            by_cases h44 : isOp ts e' [44] = true
            · rw [if_pos h44] at h5
              have := isOp_lt h44
              rw [h44]
              refine go_let ?_; intro vv; refine go_t (yes rfl) (hag (ts.length + 1 - (e' + 1)) (e' + 1, out ++ [(c, d)], true) _ _ (ar_dec he2 he1) ⟨this, by rw [List.length_append]; exact Nat.add_le_add (Nat.le_trans h2 (Nat.le_of_lt he2)) (Nat.le_refl 1), ?_⟩ rfl (by rw [← happ] <;> rfl))
              rw [if_pos rfl]
              refine ⟨rfl, f, ar_f h4 he2, ?_⟩
              rw [← h5]
              dsimp only
              cases parL f ts (e' + 1) <;> simp
            · rw [if_neg h44] at h5
              rw [show isOp ts e' [44] = false by simpa using h44]
              refine go_let ?_; intro vv; refine go_f (no rfl) (hag 0 (e', out ++ [(c, d)], false) _ _ (Nat.sub_pos_of_lt (Nat.lt_succ_of_le h1)) ⟨he1, by rw [List.length_append]; exact Nat.lt_of_le_of_lt h2 he2, ?_⟩ rfl (by rw [← happ] <;> rfl))
              rw [if_neg Bool.false_ne_true, ← h5]; rfl
end
end P279
end
section
open PySem PySem.W PyProof.Rows PySem.Spec PySem.Calls PySem.Builtin PySem.Builtin.Str
set_option maxHeartbeats 400000
namespace P279
noncomputable def wordAt : List (List Nat × Nat) → List Nat → Option (Nat × List Nat)
  | [], _ => none
  | (w, k) :: r, x => if x.take w.length = w then some (k, x.drop w.length) else wordAt r x
noncomputable abbrev Rule := Nat × PyData × List (Nat × Nat)
noncomputable def rulePy (r : Rule) : PyData := .tuple [.int r.1, r.2.1, .list (lets r.2.2)]
inductive RuleIn : List Nat → Option Rule → Prop
  | no (x : List Nat) (h : wordAt WRDS x = none) : RuleIn x none
  | plain (x : List Nat) (k : Nat) (r : List Nat) (h : wordAt WRDS x = some (k, r)) (hk : k ≠ 5) : RuleIn x ((lettersF r).map fun ls => (k, .none, ls))
  | chr (x r : List Nat) (q : Option (PyData × List Nat)) (h : wordAt WRDS x = some (5, r)) (hq : HeadIn r q) : RuleIn x (q.bind fun d => if PyData.eqv d.1 (.str (S [42])) = true then none else (lettersF d.2).map fun ls => (5, d.1, ls))
noncomputable def rulePy? (r : Option Rule) : Option D := r.map fun r => .t (rulePy r)
section
variable {G : Cfg} {p : Params}
end
noncomputable def Sh (n : Nat) (d : PyData) : Prop := d.canLay0 = true ∧ d.depth ≤ n
theorem Sh.none {n : Nat} : Sh n .none := ⟨by simp [PyData.canLay0], by simp [PyData.depth]⟩
theorem Sh.int {n : Nat} {i : Int} : Sh n (.int i) := ⟨by simp [PyData.canLay0], by simp [PyData.depth]⟩
theorem Sh.bool {n : Nat} {i : Bool} : Sh n (.bool i) := ⟨by simp [PyData.canLay0], by simp [PyData.depth]⟩
theorem Sh.str {n : Nat} {x : Str} (h : PyData.strOk x = true) : Sh n (.str x) := ⟨by simpa [PyData.canLay0] using h, by simp [PyData.depth]⟩
theorem Sh.all {n : Nat} {xs : List PyData} (h : ∀ x ∈ xs, Sh n x) : PyData.canLayAll0 xs = true ∧ PyData.depthAll xs ≤ n := by
  induction xs with
  | nil => exact ⟨by simp [PyData.canLayAll0], by simp [PyData.depthAll]⟩
  | cons x xs ih =>
    have h1 := h x (List.mem_cons_self ..)
    have h2 := ih fun y hy => h y (List.mem_cons_of_mem _ hy)
    refine ⟨by simp [PyData.canLayAll0, h1.1, h2.1], ?_⟩
    have := h1.2; have := h2.2
    simp only [PyData.depthAll]; lia
theorem Sh.list {n : Nat} {xs : List PyData} (h : ∀ x ∈ xs, Sh n x) : Sh (n + 1) (.list xs) := ⟨by simpa [PyData.canLay0] using (Sh.all h).1, by simp only [PyData.depth]; have := (Sh.all h).2; lia⟩
theorem Sh.tuple {n : Nat} {xs : List PyData} (h : ∀ x ∈ xs, Sh n x) : Sh (n + 1) (.tuple xs) := ⟨by simpa [PyData.canLay0] using (Sh.all h).1, by simp only [PyData.depth]; have := (Sh.all h).2; lia⟩
theorem Sh.pair {n : Nat} {x y : PyData} (h : Sh n x) (k : Sh n y) : Sh (n + 1) (.tuple [x, y]) := Sh.tuple (by intro z hz; simp at hz; rcases hz with rfl | rfl <;> assumption)
theorem Sh.triple {n : Nat} {x y z : PyData} (h : Sh n x) (k : Sh n y) (l : Sh n z) : Sh (n + 1) (.tuple [x, y, z]) := Sh.tuple (by intro u hu; simp at hu; rcases hu with rfl | rfl | rfl <;> assumption)
theorem Sh.le {n k : Nat} {d : PyData} (h : Sh n d) (hk : n ≤ k) : Sh k d := ⟨h.1, Nat.le_trans h.2 hk⟩
theorem Sh.shaped {n : Nat} {d : PyData} (h : Sh n d) (hn : n ≤ 64) : SeqAt.shaped d = true := by
  unfold SeqAt.shaped
  rw [h.1, decide_eq_true (Nat.le_trans h.2 hn)]; rfl
theorem strOk_S {l : List Nat} (h : ∀ c ∈ l, c < 1114112) : PyData.strOk (S l) = true := by
  unfold PyData.strOk
  rw [← Array.all_toList, List.all_eq_true]
  intro c hc
  exact decide_eq_true (h c hc)
theorem LD_lt {c : Nat} (h : c ∈ LD) : c < 1114112 := by
  have : ∀ c ∈ LD, c < 1114112 := by decide
  exact this c h
inductive IsLen : PyData → Prop
  | none : IsLen .none
  | int (n : Nat) : IsLen (.tuple [.str "int", .int n])
  | name (s : List Nat) (h : ∀ c ∈ s, c ∈ LD) : IsLen (.tuple [.str "name", .str (S s)])
theorem IsLen.sh {d : PyData} (h : IsLen d) : Sh 1 d := by
  cases h with
  | none => exact Sh.none
  | int n => exact Sh.pair (Sh.str (by decide +kernel)) Sh.int
  | name s h => exact Sh.pair (Sh.str (by decide +kernel)) (Sh.str (strOk_S fun c hc => LD_lt (h c hc)))
theorem HeadIn.isLen {x : List Nat} {q : Option (PyData × List Nat)} (H : HeadIn x q) : ∀ d r, q = some (d, r) → IsLen d ∨ d = .str (S [42]) := by
  intro d r e
  cases H with
  | plain x h => cases e; exact .inl .none
  | num ds r h0 h hr => split at e
                        · cases e
                        · cases e; exact .inl (.int _)
  | bare r hr => cases e
  | opn r h => cases e
  | empty r => cases e
  | star r => cases e; exact .inr rfl
  | dig i r h0 h => cases e; exact .inl (.int _)
  | name c i r hc h => split at e
                       · cases e
                       · cases e; exact .inl (.name _ fun d hd => (List.mem_cons.mp hd).elim (fun e => e ▸ let_LD hc) (h d))
theorem HeadIn.shaped {x : List Nat} {q : Option (PyData × List Nat)} (H : HeadIn x q) {d : PyData} {r : List Nat} (e : q = some (d, r)) : SeqAt.shaped d = true := by
  rcases H.isLen d r e with h | rfl
  · exact h.sh.shaped (by decide)
  · exact (Sh.str (n := 0) (by decide +kernel)).shaped (by decide)
theorem star_shaped : SeqAt.shaped (.str (S [42])) = true := (Sh.str (n := 0) (by decide +kernel)).shaped (by decide)
section
variable {G : Cfg} {p : Params}
theorem HeadIn.rest {x : List Nat} {q : Option (PyData × List Nat)} (H : HeadIn x q) : ∀ d r, q = some (d, r) → ∃ n, r = x.drop n := by
  intro d r e
  cases H with
  | plain x h => cases e; exact ⟨0, rfl⟩
  | num ds r h0 h hr => split at e
                        · cases e
                        · cases e; exact ⟨ds.length + 1, by rw [List.drop_succ_cons, List.drop_left]⟩
  | bare r hr => cases e
  | opn r h => cases e
  | empty r => cases e
  | star r => cases e; exact ⟨4, rfl⟩
  | dig i r h0 h => cases e; exact ⟨i.length + 3, rest_in.symm⟩
  | name c i r hc h => split at e
                       · cases e
                       · cases e; exact ⟨(c :: i).length + 3, (rest_in (i := c :: i)).symm⟩
theorem wrd_at {i : Nat} {y : D} (h : (wordsPy.map D.t)[i]? = some y) : ∃ wd k, WRDS[i]? = some (wd, k) ∧ wd.length ≤ 15 ∧ y = .t (.tuple [.str (S wd), .int k]) := by
  unfold wordsPy at h
  rw [List.map_map, List.getElem?_map] at h
  cases hq : WRDS[i]? with
  | none => rw [hq] at h; cases h
  | some q =>
    rw [hq] at h; cases h
    refine ⟨q.1, q.2, rfl, ?_, rfl⟩
    have hm := List.mem_of_getElem? hq
    have : ∀ q ∈ WRDS, q.1.length ≤ 15 := by decide
    exact this q hm
theorem wordAt_drop {l : List (List Nat × Nat)} {x r : List Nat} {k : Nat} (h : wordAt l x = some (k, r)) : ∃ n, r = x.drop n := by
  induction l with
  | nil => cases h
  | cons p l ih =>
    rw [wordAt] at h
    split at h
    · cases h; exact ⟨_, rfl⟩
    · exact ih h
theorem ok_parse_rule (O : Own G p) {x : List Nat} {r : Option Rule} (hx : x.length ≤ 600) (ha : Alp x) (H : RuleIn x r) : Ret G 395 [.t (.str (S x))] 10 (rulePy? r) := by
  refine ret_body O ["text"] t395 (by rfl) (by rfl) (bind1 fun _ => by rfl) rfl (by decide) (by decide) (by decide) (by rfl) (by rfl) (a395 O) (fun Γ k ok W F => ?_)
  refine go_let ?_; intro vv; refine go_for ok (items := wordsPy.map .t) (σ := Unit) ["text"] (fun i _ => wordAt WRDS x = wordAt (WRDS.drop i) x) (fun _ => [.t (.str (S x))]) (fun _ => []) ⟨(), rfl, trivial, (), rfl, rfl, rfl⟩ ?_ ?_
  · rintro i y s ag hy h1 hag
    obtain ⟨wd, k, hq, hwl, rfl⟩ := wrd_at hy
    have hd : WRDS.drop i = (wd, k) :: WRDS.drop (i + 1) := by
      obtain ⟨hi, e⟩ := List.getElem?_eq_some_iff.mp hq
      rw [List.drop_eq_getElem_cons hi, e]
    rw [hd, wordAt] at h1
    have hwl' : wd.length ≤ 600 := by exact Nat.le_trans ‹_› (by decide)
    refine go_let ?_; intro vv; refine go_ask (lok6 hx) (go_ask (lok6 hwl') (go_cut (slc_to x wd.length (by exact Int.natCast_nonneg _)) ?_))
    by_cases hw : x.take wd.length = wd
    · rw [if_pos hw] at h1
      refine go_let ?_; intro vv; refine go_t (yes (s_eq hw)) (go_ask (lok6 hx) (go_ask (lok6 hwl') (go_cut (slc_from x wd.length (by exact Int.natCast_nonneg _)) ?_)))
      have hrl : (x.drop wd.length).length ≤ 600 := by rw [List.length_drop]; lia
      have hra := ha.drop wd.length
      have hdr : x.drop (wd.length : Int).toNat = x.drop wd.length := rfl
      generalize x.drop wd.length = rest at h1 hrl hra hdr
      rw [hdr]
      by_cases h5 : k = 5
      · subst h5
        refine go_let ?_; intro vv; refine go_if ok (go_t (yes rfl) ?_)
        cases H with
        | no h => rw [h1] at h; cases h
        | plain k' r' h hk => rw [h1] at h; cases h; exact absurd rfl hk
        | chr r' q h hq =>
          rw [h1] at h; cases h
          have hh := ok_head_length O hrl hra hq
          cases hqq : q with
          | none =>
            rw [hqq] at hh F
            exact go_callN hh W F rfl
          | some dr =>
            obtain ⟨d, r⟩ := dr
            rw [hqq] at hh F
            rw [Option.bind_some] at F
            have hsh := hq.shaped hqq
            obtain ⟨nn, hrest⟩ := hq.rest d r hqq
            refine go_let ?_; intro vv; refine go_call hh W ?_
            rcases hq.isLen d r hqq with hd | rfl
            · have hll := ok_parse_letters O (x := r) (by rw [hrest, List.length_drop]; lia) (by rw [hrest]; exact hra.drop _)
              have he : PyData.eqv d (.str (S [42])) = false := by cases hd <;> rfl
              rw [if_neg (by rw [he]; exact Bool.false_ne_true)] at F
              unfold lettersPy at hll
              cases hL : lettersF r with
              | none =>
                rw [hL] at hll F
                cases hd <;> exact go_op (.t (.bool false)) (fun Q h => S2_eq rfl rfl hsh star_shaped h) (go_f (no rfl) (go_callN hll W F rfl))
              | some ls =>
                rw [hL] at hll F
                cases hd <;> exact go_op (.t (.bool false)) (fun Q h => S2_eq rfl rfl hsh star_shaped h) (go_f (no rfl) (go_call hll W (F.ret rfl)))
            · exact go_t (yes rfl) (go_raise F (by dsimp only; rw [if_pos (by rfl)]; rfl))
      · refine go_let ?_; intro vv; refine go_if ok (go_f (no (d_neq (b := 5) h5)) ?_)
        cases H with
        | no h => rw [h1] at h; cases h
        | chr r' q h hq => rw [h1] at h; cases h; exact absurd rfl h5
        | plain k' r' h hk =>
          rw [h1] at h; cases h
          refine go_let ?_; intro vv; refine go_op (.t (.bool false)) (fun Q h => S2_eq rfl rfl (Sh.none (n := 0) |>.shaped (by decide)) star_shaped h) (go_f (no rfl) ?_)
          have hll := ok_parse_letters O (x := rest) hrl hra
          unfold lettersPy at hll
          cases hL : lettersF rest with
          | none => rw [hL] at hll F; exact go_callN hll W F rfl
          | some ls => rw [hL] at hll F; exact go_call hll W (F.ret rfl)
    · rw [if_neg hw] at h1
      exact go_f (no (s_neq hw)) (hag () _ _ h1 rfl rfl)
  · rintro s h1
    rw [show wordAt (WRDS.drop (wordsPy.map D.t).length) x = none from rfl] at h1
    refine go_let ?_; intro vv; refine go_raise F ?_
    cases H with
    | no => rfl
    | plain k r h hk => rw [h] at h1; cases h1
    | chr r q h hq => rw [h] at h1; cases h1
end
end P279
end
section
open PySem PySem.W PyProof.Rows PySem.Spec PySem.Calls PySem.Builtin PySem.Builtin.Str
set_option maxHeartbeats 4000000
namespace P279
noncomputable def t400c : List (Str × Ent) := [(".0", .loc), ("part", .loc), ("parse_rule", .own 395)]
theorem e_parse_rule {G : Cfg} {p : Params} (O : Own G p) : GOk G "parse_rule" (.own 395) := ge_own O ⟨by rfl, by rfl⟩
theorem a400c {G : Cfg} {p : Params} (O : Own G p) : AllOk G t400c := ⟨trivial, trivial, e_parse_rule O, trivial⟩
theorem Fin.inner {Γ Γ' : Fr} {k : Fl → T} {r : Option D} (F : Fin Γ k r) (hE : ∀ cl m' μ', (∀ m μ, Γ.E cl m μ) → Γ'.E cl m' μ') : Fin Γ' (fun _ => .done True) r := ⟨fun _ => trivial, fun _ => trivial, fun e hk => hE _ _ _ fun _ _ => F.err e hk⟩
noncomputable def allR (R : List Nat → Option Rule) : List (List Nat) → Option (List Rule)
  | [] => some []
  | p :: ps => match R p with
    | none => none
    | some r => (allR R ps).map (r :: ·)
theorem allR_snoc {R : List Nat → Option Rule} {p : List Nat} : ∀ {ps : List (List Nat)}, allR R (ps ++ [p]) = (allR R ps).bind fun rs => (R p).map fun r => rs ++ [r]
  | [] => by simp only [List.nil_append, allR, Option.bind_some]; cases R p <;> rfl
  | q :: ps => by
    rw [List.cons_append, allR, allR]
    cases R q with
    | none => rfl
    | some r =>
      dsimp only
      rw [allR_snoc]
      cases allR R ps with
      | none => rfl
      | some rs => simp only [Option.bind_some, Option.map_some]; cases R p <;> rfl
theorem allR_none {R : List Nat → Option Rule} {a b : List (List Nat)} : allR R a = none → allR R (a ++ b) = none := by
  induction a with
  | nil => intro h; cases h
  | cons p a ih =>
    intro h
    rw [List.cons_append, allR]
    rw [allR] at h
    cases hp : R p with
    | none => rfl
    | some r =>
      rw [hp] at h
      dsimp only at h ⊢
      cases ha : allR R a with
      | none => rw [ih ha]; rfl
      | some rs => rw [ha] at h; cases h
noncomputable def implPy (r : Option (List Rule)) : Option D := r.map fun rs => .t (.list [.tuple [.str "implicit", .list (rs.map rulePy)]])
theorem spl_len {x : List Nat} : ∀ {d : Int} {acc : List Nat}, (spl d acc x).length ≤ x.length + 1 := by
  induction x with
  | nil => intro d acc; simp [spl]
  | cons c x ih =>
    intro d acc
    rw [spl]
    split
    · have := ih (d := (depStep d c).1) (acc := []); simp; omega
    · have := ih (d := (depStep d c).1) (acc := acc ++ [c]); simp; lia
theorem spl_mem {x : List Nat} : ∀ {d : Int} {acc : List Nat} {p : List Nat}, p ∈ spl d acc x → p.length ≤ acc.length + x.length ∧ ∀ c ∈ p, c ∈ acc ∨ c ∈ x := by
  induction x with
  | nil => intro d acc p h; simp [spl] at h; subst h; exact ⟨by simp, fun c hc => .inl hc⟩
  | cons c x ih =>
    intro d acc p h
    rw [spl] at h
    split at h
    · rcases List.mem_cons.mp h with rfl | h
      · exact ⟨by simp, fun c hc => .inl hc⟩
      · obtain ⟨h1, h2⟩ := ih h
        refine ⟨by simp at h1 ⊢; lia, fun c' hc' => .inr ?_⟩
        rcases h2 c' hc' with h | h
        · simp at h
        · exact List.mem_cons_of_mem _ h
    · obtain ⟨h1, h2⟩ := ih h
      refine ⟨by simp at h1 ⊢; lia, fun c' hc' => ?_⟩
      rcases h2 c' hc' with h | h
      · rcases List.mem_append.mp h with h | h
        · exact .inl h
        · simp at h; subst h; exact .inr (List.mem_cons_self ..)
      · exact .inr (List.mem_cons_of_mem _ h)
section
variable {G : Cfg} {p : Params}
theorem ok_parse_implicit (O : Own G p) {x : List Nat} {R : List Nat → Option Rule} (hx : x.length ≤ 500) (ha : Alp x) (H : ∀ p ∈ spl 0 [] x, RuleIn p (R p)) : Ret G 400 [.t (.str (S ([73,77,80,76,73,67,73,84] ++ x)))] 12 (implPy (allR R (spl 0 [] x))) := by
  refine ret_body O ["text"] t400 (by rfl) (by rfl) (bind1 fun _ => by rfl) rfl (by decide) (by decide) (by decide) (by rfl) (by rfl) (a400 O) (fun Γ k ok W F => ?_)
  refine go_let ?_; intro vv; refine go_flist ok ?_
  have hso := ok_split_open O (x := x) (by exact Nat.le_trans ‹_› (by decide)) ha
  generalize hps : spl 0 [] x = ps at H F hso
  have hpl : ps.length ≤ 501 := by rw [← hps]; have := spl_len (x := x) (d := 0) (acc := []); lia
  have hpm : ∀ p ∈ ps, p.length ≤ 600 ∧ Alp p := fun p hp => by
    rw [← hps] at hp
    obtain ⟨h1, h2⟩ := spl_mem hp
    refine ⟨by simp at h1; lia, fun c hc => ?_⟩
    rcases h2 c hc with h | h
    · simp at h
    · exact ha c h
  refine go_let ?_; intro vv; refine go_comp ok W t400c (a400c O) ((txts ps).map .t) (fun i out => out.length ≤ i ∧ ∃ rs, allR R (ps.take i) = some rs ∧ out = rs.map rulePy) rfl ?_ (by simp [txts]; exact Nat.le_trans ‹_› (by decide)) ⟨Nat.le_refl _, [], rfl, rfl⟩ (fun _ _ h => h.1) ?_ ?_
  · refine go_let ?_; intro vv; refine go_slice (x := [73,77,80,76,73,67,73,84] ++ x) (by simp; exact Nat.le_trans ‹_› (by decide)) (y := x) (slc_from _ 8 (by decide)) (go_call hso W ?_)
    exact ⟨rfl, trivial, (rfl : ([] : Mut) = [])⟩
  · rintro i y out Γ' μ' hy ⟨h1, rs, h2, rfl⟩ ok' W' hE
    obtain ⟨p', hp, rfl⟩ : ∃ p', ps[i]? = some p' ∧ y = .t (.str (S p')) := map_at2 hy
    have hmem := List.mem_of_getElem? hp
    obtain ⟨q1, q2⟩ := hpm p' hmem
    have htk : ps.take (i + 1) = ps.take i ++ [p'] := by rw [List.take_add_one, hp]; rfl
    have hs := allR_snoc (R := R) (p := p') (ps := ps.take i)
    rw [h2, Option.bind_some, ← htk] at hs
    have hpr := ok_parse_rule O q1 q2 (H p' hmem)
    cases hR : R p' with
    | none =>
      rw [hR] at hpr hs
      refine go_let ?_; intro vv; refine go_callN hpr W' (F.inner hE) ?_
      have := allR_none (b := ps.drop (i + 1)) hs
      rw [List.take_append_drop] at this
      rw [this]; rfl
    | some r =>
      rw [hR] at hpr hs
      refine go_let ?_; intro vv; refine go_call hpr W' ⟨rfl, _, rfl, ?_, rs ++ [r], hs, ?_⟩
      · simp at h1 ⊢; omega
      · simp
  · rintro out ⟨h1, rs, h2, rfl⟩
    have hl : ((txts ps).map D.t).length = ps.length := by simp [txts]
    rw [hl, List.take_length] at h2
    exact F.ret (by rw [h2]; rfl)
end
end P279
end
section
open PySem PySem.W PyProof.Rows PySem.Spec PySem.Calls PySem.Builtin PySem.Builtin.Str
set_option maxHeartbeats 4000000
namespace P279
noncomputable def setR {α : Type} (lo : Nat) : Nat → List α → α → List α
  | 0, l, _ => l
  | n + 1, l, v => (setR lo n l v).set (lo + n) v
theorem setR_length {α : Type} {lo n : Nat} {l : List α} {v : α} : (setR lo n l v).length = l.length := by
  induction n with
  | zero => rfl
  | succ n ih => rw [setR, List.length_set, ih]
theorem setR_map {α β : Type} (f : α → β) {lo n : Nat} {l : List α} {v : α} : (setR lo n l v).map f = setR lo n (l.map f) (f v) := by
  induction n with
  | zero => rfl
  | succ n ih => rw [setR, setR, List.map_set, ih]
noncomputable def anyT (T : List Bool) (lo n : Nat) : Bool := (List.range n).any fun j => T[lo + j]? == some true
noncomputable abbrev St := List PyData × List Bool
noncomputable def tellS (v : PyData) (p : Nat × Nat) (s : St) : Option St :=
  if p.2 < p.1 then none else if anyT s.2 (p.1 - 65) (p.2 + 1 - p.1) = true then none else some (setR (p.1 - 65) (p.2 + 1 - p.1) s.1 v, setR (p.1 - 65) (p.2 + 1 - p.1) s.2 true)
theorem anyT_iff {T : List Bool} {lo n : Nat} : anyT T lo n = true ↔ ∃ j, j < n ∧ T[lo + j]? = some true := by
  unfold anyT
  rw [List.any_eq_true]
  constructor
  · rintro ⟨j, hj, h⟩; exact ⟨j, List.mem_range.mp hj, by simpa using h⟩
  · rintro ⟨j, hj, h⟩; exact ⟨j, List.mem_range.mpr hj, by simpa using h⟩
theorem lookup_second {t r : Addr} {x y : List PyData} {μ : Mut} (h : r ≠ t) : List.lookup r ((t, x) :: (r, y) :: μ) = some y := by
  rw [List.lookup_cons, show (r == t) = false from beq_eq_false_iff_ne.mpr h]; exact lookup_head
theorem upd_first {t r : Addr} {x y z : List PyData} (h : r ≠ t) : Mut.upd [(t, x), (r, y)] t z = [(t, z), (r, y)] := by
  simp [Mut.upd, h]
theorem upd_second {t r : Addr} {x y z : List PyData} (h : r ≠ t) : Mut.upd [(t, x), (r, y)] r z = [(t, x), (r, z)] := by
  simp [Mut.upd, h.symm]
section
variable {G : Cfg} {p : Params}
end
section
variable {G : Cfg} {p : Params}
theorem ok_tell_letters (O : Own G p) {x r t : Addr} {R : List PyData} {T : List Bool} {v : PyData} {lo hi : Nat} (hrt : r ≠ t) (hR : R.length = 26) (hT : T.length = 26) (hlo : lo < 26) (hhi : hi < 26) :
    CallOK G 442 [.inst x r t, .t v, .t (.int lo), .t (.int hi)] [(t, T.map .bool), (r, R)] 2
      (fun d μ' => d = .t .none ∧ ¬ hi < lo ∧ anyT T lo (hi + 1 - lo) = false ∧ μ' = [(t, (setR lo (hi + 1 - lo) T true).map .bool), (r, setR lo (hi + 1 - lo) R v)])
      (fun k μ' => k = .chk ∧ (hi < lo ∨ anyT T lo (hi + 1 - lo) = true) ∧ μ' = [(t, T.map .bool), (r, R)]) := by
  refine call_body O ["implicit", "rule", "low", "high"] t442 (by rfl) (by rfl) (bind4 fun _ _ _ _ => by rfl) rfl (by decide) (by decide) (by decide) (by rfl) (by rfl) (a442 O) (fun Γ k ok W hQ hE => ?_)
  refine go_let ?_; intro vv; refine go_f (no (decide_eq_false (show ¬ (lo : Int) < 0 by lia))) ?_
  by_cases hlh : hi < lo
  · exact go_t (yes (d_lt hlh)) (hE .chk _ _ ⟨rfl, .inl hlh, rfl⟩)
  · refine go_let ?_; intro vv; refine go_f (no (d_nlt hlh)) ?_
    have hit : itOk (.rng lo ((hi : Int) + 1)) := rng_ok (by exact Int.natCast_nonneg _) (by lia) (by exact Int.natCast_nonneg _) (by lia)
    refine go_let ?_; intro vv; refine go_for ok (items := (List.range (((hi : Int) + 1) - lo).toNat).map fun (k : Nat) => .t (.int ((lo : Int) + k))) (σ := Unit) ["implicit", "rule", "low", "high"] (fun i _ => ∀ j, j < i → T[lo + j]? = some false) (fun _ => [.inst x r t, .t v, .t (.int lo), .t (.int hi)]) (fun _ => [(t, T.map .bool), (r, R)])
      ⟨(), rfl, hit, (), fun j h => absurd h (Nat.not_lt_zero _), rfl, rfl⟩ ?_ ?_
    · rintro i y s ag hy h1 hag
      obtain ⟨hi', rfl⟩ := items_rng hy
      rw [show (lo : Int) + (i : Int) = ((lo + i : Nat) : Int) from rfl]
      obtain ⟨b, hb⟩ : ∃ b, T[lo + i]? = some b := ⟨_, List.getElem?_eq_getElem (by omega)⟩
      refine go_let ?_; intro vv; refine go_ask hrt (go_litem (q := .bool b) lookup_head (by rw [List.getElem?_map, hb]; rfl) (by lia) ?_)
      cases b with
      | true => exact go_t (yes rfl) (hE .chk _ _ ⟨rfl, .inr (anyT_iff.mpr ⟨i, by omega, hb⟩), rfl⟩)
      | false =>
        refine go_let ?_; intro vv; refine go_f (no rfl) (hag () _ _ (fun j hj => ?_) rfl rfl)
        by_cases hji : j = i
        · rw [hji]; exact hb
        · exact h1 j (by lia)
    · rintro s h1
      have hany : anyT T lo (hi + 1 - lo) = false := by
        rw [← Bool.not_eq_true, anyT_iff]
        rintro ⟨j, hj, e⟩
        rw [h1 j (by simp; omega)] at e
        cases e
      refine go_let ?_; intro vv; refine go_for ok (items := (List.range (((hi : Int) + 1) - lo).toNat).map fun (k : Nat) => .t (.int ((lo : Int) + k))) (σ := Nat) ["implicit", "rule"] (fun i s => i = s) (fun _ => [.inst x r t, .t v]) (fun i => [(t, (setR lo i T true).map .bool), (r, setR lo i R v)])
        ⟨(), rfl, hit, 0, rfl, rfl, rfl⟩ ?_ ?_
      · rintro i y _ ag hy rfl hag
        obtain ⟨hi', rfl⟩ := items_rng hy
        rw [show (lo : Int) + (i : Int) = ((lo + i : Nat) : Int) from rfl]
        have hTl : ((setR lo i T true).map PyData.bool).length = 26 := by rw [List.length_map, setR_length, hT]
        have hRl : (setR lo i R v).length = 26 := by rw [setR_length, hR]
        refine go_ask hrt (go_put (j := lo + i) (q := .bool true) _ lookup_head (by rw [hTl]; decide) (by rw [hTl]; lia) (upd_first hrt) ?_)
        refine go_let ?_; intro vv; refine go_put (j := lo + i) (q := v) _ (lookup_second hrt) (by rw [hRl]; decide) (by rw [hRl]; lia) (upd_second hrt) ?_
        exact hag (i + 1) _ _ rfl rfl (by rw [setR, setR, List.map_set])
      · rintro _ rfl
        exact hQ .next _ ⟨rfl, hlh, hany, by rw [List.length_map, List.length_range, show (((hi : Int) + 1) - lo).toNat = hi + 1 - lo from Int.toNat_sub _ _]⟩
end
end P279
end
section
open PySem PySem.W PyProof.Rows PySem.Spec PySem.Calls PySem.Builtin PySem.Builtin.Str
set_option maxHeartbeats 4000000
namespace P279
section
variable {G : Cfg} {p : Params}
end
theorem let_find : ∀ c ∈ LET, Txt.find (S LET) (S [c]) = ((c - 65 : Nat) : Int) := by decide +kernel
theorem go_mul {Γ : Fr} {v : T} {ds : List PyData} {n : Int} (h0 : 0 ≤ n) (hk : n ≤ 1000) (hl : ds.length ≤ 1000) (h : ∀ a, a ∉ v.mu.map (·.1) → Good Γ (v.k (.loc a) ((a, (List.replicate n.toNat ds).flatten) :: v.mu))) (e : v.o = .bin .Mult (.t (.list ds)) (.t (.int n)) := by exact rfl) : Good Γ v := by
  cases v with
  | op o m μ k => cases e; exact S2_mulL h0 hk hl h
  | _ => cases e
theorem go_find {Γ : Fr} {v : T} {c : Nat} (hc : c ∈ LET) (g : Good Γ (v.k (.t (.int ((c - 65 : Nat) : Int))) v.mu)) (e : v.o = .blt "str.find" [.t (.str (S LET)), .t (.str (S [c]))] := by exact rfl) : Good Γ v :=
  go_op _ (fun Q h => by rw [e]; exact SL_find1 (by rw [let_find c hc]; exact h)) g
theorem we_vc {G : Cfg} {c : Act} {sc : List (Str × Ent)} {e : Expr} {m : Loc} {μ : Mut} {P : D → Mut → Prop} (ok : Fr.Ok ⟨G, c, fun _ _ _ => False⟩ sc) (h : Fr.Ok ⟨G, c, fun _ _ _ => False⟩ sc → Good ⟨G, c, fun _ _ _ => False⟩ (vc sc 99 (.e e m μ fun d μ' => .done (P d μ')))) : WE G c e m μ P (fun _ _ => False) := vc_sound ok 99 _ (h ok)
theorem ws_vc {G : Cfg} {c : Act} {sc : List (Str × Ent)} {st : Stmt} {m : Loc} {μ : Mut} {P : Fl → Loc → Mut → Prop} (ok : Fr.Ok ⟨G, c, fun _ _ _ => False⟩ sc) (h : Fr.Ok ⟨G, c, fun _ _ _ => False⟩ sc → Good ⟨G, c, fun _ _ _ => False⟩ (.st st m μ fun fl m μ' => .done (P fl m μ'))) : WS G c st m μ P (fun _ _ _ => False) := h ok
theorem let_range {c : Nat} (h : c ∈ LET) : 65 ≤ c ∧ c ≤ 90 := by
  have : ∀ c ∈ LET, 65 ≤ c ∧ c ≤ 90 := by decide
  exact this c h
noncomputable def flat (rs : List Rule) : List (PyData × (Nat × Nat)) := rs.flatMap fun r => r.2.2.map fun p => (.tuple [.int r.1, r.2.1], p)
noncomputable def addAll : List (PyData × (Nat × Nat)) → St → St × Bool
  | [], s => (s, true)
  | (v, p) :: r, s => match tellS v p s with
    | none => (s, false)
    | some s' => addAll r s'
theorem addAll_append {a b : List (PyData × (Nat × Nat))} {s s' : St} (h : addAll a s = (s', true)) : addAll (a ++ b) s = addAll b s' := by
  induction a generalizing s with
  | nil => cases h; rfl
  | cons q a ih =>
    obtain ⟨v, p⟩ := q
    rw [List.cons_append, addAll]
    rw [addAll] at h
    cases ht : tellS v p s with
    | none => rw [ht] at h; cases h
    | some s1 => rw [ht] at h; exact ih h
theorem addAll_ok {a : List (PyData × (Nat × Nat))} {s s' s1 : St} {v : PyData} {p : Nat × Nat} (h : addAll a s = (s', true)) (ht : tellS v p s' = some s1) : addAll (a ++ [(v, p)]) s = (s1, true) := by
  rw [addAll_append h, addAll, ht]; rfl
theorem addAll_fail {a b : List (PyData × (Nat × Nat))} {s s' : St} {v : PyData} {p : Nat × Nat} (h : addAll a s = (s', true)) (ht : tellS v p s' = none) : addAll (a ++ (v, p) :: b) s = (s', false) := by
  rw [addAll_append h, addAll, ht]
noncomputable def St.ok (s : St) : Prop := s.1.length = 26 ∧ s.2.length = 26
theorem tellS_ok {v : PyData} {p : Nat × Nat} {s s' : St} (h : s.ok) (e : tellS v p s = some s') : s'.ok := by
  unfold tellS at e
  split at e
  · cases e
  · split at e
    · cases e
    · cases e; exact ⟨by rw [setR_length]; exact h.1, by rw [setR_length]; exact h.2⟩
theorem addAll_len {a : List (PyData × (Nat × Nat))} {s : St} (h : s.ok) : (addAll a s).1.ok := by
  induction a generalizing s with
  | nil => exact h
  | cons q a ih =>
    obtain ⟨v, p⟩ := q
    rw [addAll]
    cases ht : tellS v p s with
    | none => exact h
    | some s1 => exact ih (tellS_ok h ht)
noncomputable abbrev stMu (t r : Addr) (s : St) : Mut := [(t, s.2.map .bool), (r, s.1)]
noncomputable def Letters (rs : List Rule) : Prop := ∀ q ∈ rs, ∀ p ∈ q.2.2, p.1 ∈ LET ∧ p.2 ∈ LET
theorem flat_at {rs : List Rule} {i : Nat} {k : Nat} {d : PyData} {ls : List (Nat × Nat)} (h : rs[i]? = some (k, d, ls)) : flat rs = flat (rs.take i) ++ (ls.map fun p => (.tuple [.int k, d], p)) ++ flat (rs.drop (i + 1)) := by
  obtain ⟨hi, e⟩ := List.getElem?_eq_some_iff.mp h
  have h1 : rs = rs.take i ++ (k, d, ls) :: rs.drop (i + 1) := by rw [← e, ← List.drop_eq_getElem_cons hi, List.take_append_drop]
  conv => lhs; rw [h1]
  unfold flat
  rw [List.flatMap_append, List.flatMap_cons, List.append_assoc]
theorem flat_take {rs : List Rule} {i : Nat} {k : Nat} {d : PyData} {ls : List (Nat × Nat)} (h : rs[i]? = some (k, d, ls)) : flat (rs.take (i + 1)) = flat (rs.take i) ++ (ls.map fun p => (.tuple [.int k, d], p)) := by
  rw [List.take_add_one, h]
  unfold flat
  rw [List.flatMap_append]
  simp
noncomputable def defR (p : Nat) : PyData := .tuple [.int (if 8 ≤ p ∧ p ≤ 13 then 0 else 1), .none]
noncomputable def st0 : St := ((List.range 26).map defR, List.replicate 26 false)
section
variable {G : Cfg} {p : Params}
theorem ok_add (O : Own G p) {x r t : Addr} {s : St} {rs : List Rule} (hrt : r ≠ t) (hs : s.ok) (hls : Letters rs) :
    CallOK G 421 [.inst x r t, .t (.list (rs.map rulePy))] (stMu t r s) 3
      (fun d μ' => d = .t .none ∧ ∃ s', addAll (flat rs) s = (s', true) ∧ μ' = stMu t r s')
      (fun k μ' => k = .chk ∧ ∃ s', addAll (flat rs) s = (s', false) ∧ μ' = stMu t r s') := by
  refine call_body O ["self", "rules"] t421 (by rfl) (by rfl) (bind2 fun _ _ => by rfl) rfl (by decide) (by decide) (by decide) (by rfl) (by rfl) (a421 O) (fun Γ kk ok W hQ hE => ?_)
  refine go_let ?_; intro vv; refine go_for ok (items := (rs.map rulePy).map .t) (σ := St) ["self"] (fun i s' => addAll (flat (rs.take i)) s = (s', true)) (fun _ => [.inst x r t]) (fun s' => stMu t r s') ⟨(), rfl, trivial, s, rfl, rfl, rfl⟩ ?_ ?_
  · rintro i y s1 ag hy h1 hag
    obtain ⟨⟨k, d, ls⟩, hq, rfl⟩ : ∃ q, rs[i]? = some q ∧ y = .t (rulePy q) := map_at2 hy
    have hlet := hls _ (List.mem_of_getElem? hq)
    have hs1 : s1.ok := by have := addAll_len (a := flat (rs.take i)) hs; rw [h1] at this; exact this
    have hfull := flat_at hq
    have htake := flat_take hq
    refine go_let ?_; intro vv; refine go_for ok (items := (lets ls).map .t) (σ := St) ["self", "kind", "length"] (fun j s' => addAll (flat (rs.take i) ++ (ls.take j).map fun p => (.tuple [.int k, d], p)) s = (s', true)) (fun _ => [.inst x r t, .t (.int k), .t d]) (fun s' => stMu t r s') ⟨(), rfl, trivial, s1, by simpa using h1, rfl, rfl⟩ ?_ ?_
    · rintro j y s2 ag' hy h2 hag'
      obtain ⟨⟨a, b⟩, hp, rfl⟩ : ∃ q : Nat × Nat, ls[j]? = some q ∧ y = .t (.tuple [.str (S [q.1]), .str (S [q.2])]) := map_at2 hy
      obtain ⟨ha, hb⟩ := hlet _ (List.mem_of_getElem? hp)
      have hs2 : s2.ok := by have := addAll_len (a := flat (rs.take i) ++ (ls.take j).map fun p => (.tuple [.int k, d], p)) hs; rw [h2] at this; exact this
      obtain ⟨ra, ra'⟩ := let_range ha
      obtain ⟨rb, rb'⟩ := let_range hb
      have hlt : ls.take (j + 1) = ls.take j ++ [(a, b)] := by rw [List.take_add_one, hp]; rfl
      have hab : b - 65 + 1 - (a - 65) = b + 1 - a := ar_sh (by assumption) (by assumption)
      refine go_let ?_; intro vv; refine go_find ha (go_find hb (go_callM (stMu t r s2) [] (ok_tell_letters (T := s2.2) (R := s2.1) (v := .tuple [.int k, d]) (lo := a - 65) (hi := b - 65) O hrt hs2.1 hs2.2 (by omega) (by omega)) W (List.Perm.refl _) (fun d' μ' h => ?_) (fun k' μ' h => ?_)))
      · obtain ⟨rfl, q1, q2, rfl⟩ := h
        rw [hab] at q2
        have ht : tellS (.tuple [.int k, d]) (a, b) s2 = some (setR (a - 65) (b + 1 - a) s2.1 (.tuple [.int k, d]), setR (a - 65) (b + 1 - a) s2.2 true) := by
          unfold tellS
          rw [if_neg (by show ¬ b < a; omega), if_neg (by show ¬ anyT s2.2 (a - 65) (b + 1 - a) = true; rw [q2]; decide)]
        refine hag' (setR (a - 65) (b + 1 - a) s2.1 (.tuple [.int k, d]), setR (a - 65) (b + 1 - a) s2.2 true) _ _ ?_ rfl (by rw [hab]; rfl)
        rw [hlt, List.map_append, ← List.append_assoc]
        exact addAll_ok h2 ht
      · obtain ⟨rfl, q1, rfl⟩ := h
        have ht : tellS (.tuple [.int k, d]) (a, b) s2 = none := by
          unfold tellS
          rw [hab] at q1
          rcases q1 with q1 | q1
          · rw [if_pos (by show b < a; omega)]
          · by_cases hba : b < a
            · rw [if_pos hba]
            · rw [if_neg hba, if_pos q1]
        refine hE _ _ _ ⟨rfl, s2, ?_, rfl⟩
        rw [hfull]
        have hsp : ls = ls.take j ++ (a, b) :: ls.drop (j + 1) := by
          obtain ⟨hj, e⟩ := List.getElem?_eq_some_iff.mp hp
          rw [← e, ← List.drop_eq_getElem_cons hj, List.take_append_drop]
        conv => lhs; rw [hsp]
        rw [List.map_append, List.map_cons, ← List.append_assoc, List.append_assoc _ _ (flat _), List.cons_append]
        exact addAll_fail h2 ht
    · rintro s2 h2
      refine hag s2 _ _ ?_ rfl rfl
      rw [htake]
      rw [List.length_map, lets_length, List.take_length] at h2
      exact h2
  · rintro s1 h1
    rw [List.length_map, List.length_map, List.take_length] at h1
    exact hQ .next _ ⟨rfl, s1, h1, rfl⟩
theorem ok_of (O : Own G p) {x r t : Addr} {s : St} {c : Nat} {l : List Nat} (hrt : r ≠ t) (hs : s.ok) (hc : c ∈ LET) {v : PyData} (hv : s.1[c - 65]? = some v) :
    CallOK G 428 [.inst x r t, .t (.str (S (c :: l)))] (stMu t r s) 1 (fun d μ' => d = .t v ∧ μ' = stMu t r s) (fun _ _ => False) := by
  refine call_body O ["self", "name"] t428 (by rfl) (by rfl) (bind2 fun _ _ => by rfl) rfl (by decide) (by decide) (by decide) (by rfl) (by rfl) (a428 O) (fun Γ k ok W hQ hE => ?_)
  have := let_range hc
  refine go_let ?_; intro vv; refine go_str (x := c :: l) (i := 0) rfl (by decide) (go_find hc (go_litem (lookup_second hrt) hv (by omega) ?_))
  exact hQ (.ret _) _ ⟨rfl, rfl⟩
noncomputable def l1 : List PyData := List.replicate 26 (.tuple [.int 1, .none])
noncomputable def lset : Nat → List PyData
  | 0 => l1
  | n + 1 => (lset n).set (8 + n) (.tuple [.int 0, .none])
theorem lset_length {n : Nat} : (lset n).length = 26 := by
  induction n with
  | zero => rfl
  | succ n ih => rw [lset, List.length_set, ih]
theorem ok_init (O : Own G p) : CallOK G 431 [] [] 5 (fun d μ' => ∃ x r t, d = .inst x r t ∧ r ≠ t ∧ μ' = stMu t r st0) (fun _ _ => False) := by
  obtain ⟨w, h₀, mg, mb, rfl, rfl⟩ := O.ex
  refine CallOK.mono (make_inst (G := GG w h₀ mg mb) (n := 3) (l1 := l1) (l2 := lset 6) (l3 := (List.replicate 26 false).map .bool) (fI := 414) O.inst (by rfl) (by rfl) (by rfl) (by rfl) (by rfl) (by intro v; refine Eq.trans (b := pure ?_) ?_ ?_; rotate_left; rfl; refine congrArg pure ?_; rfl) (by rfl) (by decide) (fun _ => rfl) (fun _ => rfl) ?_ ?_ ?_) (by decide) (fun d μ' h => ?_) (fun _ _ h => h)
  · intro A fr L x hr
    exact we_vc (sc := t414) ⟨rfl, a414 O, rfl, rfl, O.inst, fun x h => (nocell (sc := t414) rfl x h).elim⟩ fun ok => go_flist ok (go_mul (ds := [.tuple [.int 1, .none]]) (n := 26) (by decide) (by decide) (by decide) fun a _ => ⟨a, rfl, rfl⟩)
  · intro A fr L x r hr
    refine ws_vc (sc := t414) ⟨rfl, a414 O, rfl, rfl, O.inst, fun x h => (nocell (sc := t414) rfl x h).elim⟩ fun ok => go_for ok (items := (List.range ((14 : Int) - 8).toNat).map fun (k : Nat) => .t (.int ((8 : Int) + k))) (σ := Nat) ["self"] (fun i s => i = s) (fun _ => [.inst x r r]) (fun i => [(r, lset i)]) ⟨(), rfl, rng_ok (by decide) (by decide) (by decide) (by decide), 0, rfl, rfl, rfl⟩ ?_ ?_
    · rintro i y s ag hy rfl hag
      obtain ⟨hi', rfl⟩ := items_rng hy
      rw [show (8 : Int) + (i : Int) = ((8 + i : Nat) : Int) by lia]
      exact go_put (j := 8 + i) (q := .tuple [.int 0, .none]) _ lookup_head (by rw [lset_length]; decide) (by rw [lset_length]; lia) (upd_head (by simp)) (hag (i + 1) _ _ rfl rfl rfl)
    · rintro s rfl
      exact ⟨rfl, rfl, rfl⟩
  · intro A fr L m r hr
    exact we_vc (sc := t414) ⟨rfl, a414 O, rfl, rfl, O.inst, fun x h => (nocell (sc := t414) rfl x h).elim⟩ fun ok => go_flist ok (go_mul (ds := [.bool false]) (n := 26) (by decide) (by decide) (by decide) fun a ha => ⟨a, rfl, fun e => ha (by rw [← e]; exact List.mem_cons_self ..), rfl⟩)
  · obtain ⟨x, r, t, rfl, hrt, rfl⟩ := h
    exact ⟨x, r, t, rfl, hrt, rfl⟩
end
end P279
end
section
open PySem PySem.W PyProof.Rows PySem.Spec PySem.Calls PySem.Builtin PySem.Builtin.Str
set_option maxHeartbeats 4000000
namespace P279
theorem go_last {Γ : Fr} {v : T} {a : Addr} {ds : List PyData} {q : PyData} (hl : v.mu.lookup a = some ds) (hs : ds.length ≤ 1000000) (hx : ds.getLast? = some q) (g : Good Γ (v.k (.t q) v.mu)) (e : v.o = .item (.loc a) (.t (.int (-1))) := by exact rfl) : Good Γ v :=
  go_op _ (fun Q h => by rw [e]; exact SI_last hl hs hx h) g
theorem go_putL {Γ : Fr} {v : T} {a : Addr} {ds : List PyData} {j : Nat} {q : PyData} (μ' : Mut) (hl : v.mu.lookup a = some ds) (hs : ds.length ≤ 1000000) (hj : j + 1 = ds.length) (hu : v.mu.upd a (ds.set j q) = μ') (g : Good Γ (v.k (.t .none) μ')) (e : v.o = .put (.loc a) (.t (.int (-1))) q := by exact rfl) : Good Γ v :=
  go_opM _ μ' (fun Q h => by rw [e]; exact ⟨a, ds, j, rfl, hl, hs, .inr ⟨rfl, hj⟩, by rw [hu]; exact h⟩) g
noncomputable abbrev KD := Nat × PyData
noncomputable def rp (q : KD) : PyData := .tuple [.int q.1, q.2]
noncomputable def isRun (T : List Bool) (n : Nat) : Bool := decide (0 < n) && (T[n - 1]? == some true)
noncomputable def joins (R : List KD) (T : List Bool) (n : Nat) (q : KD) : Bool := isRun T n && (match R[n - 1]? with | some q' => PyData.eqv (rp q') (rp q) | none => false)
noncomputable def lastStart (f : List Rule) : Nat := match f.getLast? with | some l => (l.2.2.headD (0, 0)).1 | none => 0
noncomputable def shF (R : List KD) (T : List Bool) : Nat → List Rule
  | 0 => []
  | n + 1 => if T[n]? = some true then
      match R[n]? with
      | some q => if joins R T n q = true then (shF R T n).dropLast ++ [(q.1, q.2, [(lastStart (shF R T n), 65 + n)])] else shF R T n ++ [(q.1, q.2, [(65 + n, 65 + n)])]
      | none => shF R T n
    else shF R T n
theorem shF_last {R : List KD} {T : List Bool} {n : Nat} {q : KD} (hT : T[n]? = some true) (hq : R[n]? = some q) : ∃ a, (shF R T (n + 1)).getLast? = some (q.1, q.2, [(a, 65 + n)]) := by
  rw [shF, if_pos hT, hq]
  dsimp only
  split
  · exact ⟨_, List.getLast?_concat⟩
  · exact ⟨_, List.getLast?_concat⟩
theorem shF_run {R : List KD} {T : List Bool} {n : Nat} (hR : R.length = 26) (hn : n ≤ 26) (h : isRun T n = true) : ∃ q' a, R[n - 1]? = some q' ∧ (shF R T n).getLast? = some (q'.1, q'.2, [(a, 65 + (n - 1))]) := by
  unfold isRun at h
  rw [Bool.and_eq_true, decide_eq_true_eq, beq_iff_eq] at h
  obtain ⟨n, rfl⟩ : ∃ k, n = k + 1 := ⟨n - 1, by lia⟩
  rw [Nat.add_sub_cancel] at h ⊢
  have hq : R[n]? = some (R[n]'(by lia)) := List.getElem?_eq_getElem _
  obtain ⟨a, ha⟩ := shF_last h.2 hq
  exact ⟨_, a, hq, ha⟩
theorem shF_length {R : List KD} {T : List Bool} {n : Nat} : (shF R T n).length ≤ n := by
  induction n with
  | zero => exact Nat.le_refl _
  | succ n ih =>
    rw [shF]
    split
    · split
      · split
        · simp; lia
        · simp; omega
      · lia
    · lia
theorem set_last {α : Type} {l : List α} {x : α} (h : l ≠ []) : l.set (l.length - 1) x = l.dropLast ++ [x] := by
  obtain ⟨a, y, rfl⟩ : ∃ a y, l = a ++ [y] := ⟨l.dropLast, l.getLast h, (List.dropLast_concat_getLast h).symm⟩
  simp
theorem lookup_third {a t r : Addr} {w x y : List PyData} (h : r ≠ t) (h' : r ≠ a) : List.lookup r [(a, w), (t, x), (r, y)] = some y := by
  rw [List.lookup_cons, show (r == a) = false from beq_eq_false_iff_ne.mpr h']; exact lookup_second h
theorem LET_at : ∀ {n : Nat}, n < 26 → LET[n]? = some (65 + n) := by decide
section
variable {G : Cfg} {p : Params}
theorem ok_told_rules (O : Own G p) {x r t : Addr} {s : St} {R : List KD} (hrt : r ≠ t) (hs : s.ok) (hR : s.1 = R.map rp) (hl : ∀ q ∈ R, IsLen q.2) :
    CallOK G 449 [.inst x r t] (stMu t r s) 1 (fun d μ' => d = .t (.list ((shF R s.2 26).map rulePy)) ∧ μ' = stMu t r s) (fun _ _ => False) := by
  have hR26 : R.length = 26 := by have := hs.1; rw [hR, List.length_map] at this; exact this
  have hT26 := hs.2
  refine call_body O ["implicit"] t449 (by rfl) (by rfl) (bind1 fun _ => by rfl) rfl (by decide) (by decide) (by decide) (by rfl) (by rfl) (a449 O) (fun Γ k ok W hQ hE => ?_)
  refine go_new fun a ha => ?_
  have ha : a ∉ [t, r] := ha
  have hat : t ≠ a := by rintro rfl; simp at ha
  have har : r ≠ a := by rintro rfl; simp at ha
  refine go_for ok (items := (List.range ((26 : Int) - 0).toNat).map fun (k : Nat) => .t (.int ((0 : Int) + k))) (σ := Nat) ["implicit", "is_run", "found"] (fun i s' => i = s') (fun i => [.inst x r t, .t (.bool (isRun s.2 i)), .loc a]) (fun i => (a, (shF R s.2 i).map rulePy) :: stMu t r s)
    ⟨(), rfl, rng0 (n := 26) (by decide), 0, rfl, rfl, rfl⟩ ?_ ?_
  · rintro i y s' ag hy rfl hag
    obtain ⟨hi, rfl⟩ := items_rng hy
    have hi26 : i < 26 := by assumption
    rw [show (0 : Int) + (i : Int) = ((i : Nat) : Int) by lia]
    obtain ⟨q, hq⟩ : ∃ q, R[i]? = some q := ⟨_, List.getElem?_eq_getElem (by lia)⟩
    obtain ⟨b, hb⟩ : ∃ b, s.2[i]? = some b := ⟨_, List.getElem?_eq_getElem (by lia)⟩
    have hfl := shF_length (R := R) (T := s.2) (n := i)
    have hlen : ((shF R s.2 i).map rulePy).length ≤ 1000000 := by rw [List.length_map]; lia
    have hrun : isRun s.2 (i + 1) = b := by unfold isRun; rw [Nat.add_sub_cancel, hb]; cases b <;> rfl
    have hi2 : i ≤ 2000 := by lia
    refine go_litem (q := rp q) (lookup_third hrt har) (by rw [hR, List.getElem?_map, hq]; rfl) hi2 ?_
    have hsh : ∀ q ∈ R, SeqAt.shaped (rp q) = true := fun q hq => (Sh.pair Sh.int (hl q hq).sh).shaped (by decide)
    refine go_fork ok (σ := Unit) ["implicit", "found", "place"] (fun _ => True) (fun _ => [.inst x r t, .loc a, .t (.int i)]) (fun _ => (a, (shF R s.2 (i + 1)).map rulePy) :: stMu t r s) (fun ag' hag' => ?_) (fun _ _ => ?_)
    · refine go_ask hrt (go_litem (q := .bool b) (lookup_second hat) (by rw [List.getElem?_map, hb]; rfl) hi2 ?_)
      cases b with
      | false => exact go_f (no rfl) (hag' () _ _ trivial rfl (by rw [shF, if_neg (by rw [hb]; exact nofun)]; rfl))
      | true =>
        have hstep : ∀ f : List Rule, (if joins R s.2 i q = true then (shF R s.2 i).dropLast ++ [(q.1, q.2, [(lastStart (shF R s.2 i), 65 + i)])] else shF R s.2 i ++ [(q.1, q.2, [(65 + i, 65 + i)])]) = f → shF R s.2 (i + 1) = f := by
          intro f e; rw [shF, if_pos hb, hq]; exact e
        refine go_t (yes rfl) (go_str (LET_at hi26) (by exact Nat.lt_of_lt_of_le ‹_› (by decide)) ?_)
        have app : ∀ (m₃ : Loc), joins R s.2 i q = false → (["implicit", "found", "place"] : List Str).map m₃.get = [some (.inst x r t), some (.loc a), some (.t (.int i))] → Good Γ (ag' m₃ ((a, (shF R s.2 i).map rulePy ++ [.tuple [.int q.1, q.2, .list [.tuple [.str (S [65 + i]), .str (S [65 + i])]]]]) :: stMu t r s)) := by
          intro m₃ h1 h2
          refine hag' () _ _ trivial h2 ?_
          rw [hstep _ rfl, h1, if_neg (by decide), List.map_append]
          rfl
        cases hir : isRun s.2 i with
        | false =>
          have hj : joins R s.2 i q = false := by unfold joins; rw [hir]; rfl
          exact go_f (no rfl) (go_ask tyD_head (go_flist ok (go_append _ lookup_head hlen (upd_head ha) (app _ hj rfl))))
        | true =>
          obtain ⟨q', st, hq', hla⟩ := shF_run hR26 (by exact Nat.le_of_lt ‹_›) hir
          have hlm : ((shF R s.2 i).map rulePy).getLast? = some (rulePy (q'.1, q'.2, [(st, 65 + (i - 1))])) := by rw [List.getLast?_map, hla]; rfl
          have hq'm := List.mem_of_getElem? hq'
          have hqm := List.mem_of_getElem? hq
          have hj : joins R s.2 i q = PyData.eqv (rp q') (rp q) := by unfold joins; rw [hir, hq']; rfl
          have hst : lastStart (shF R s.2 i) = st := by unfold lastStart; rw [hla]; rfl
          refine go_t (yes rfl) (go_last lookup_head hlen hlm (go_ask (show 3 ≤ 1000000 by decide) (go_ask (show 2 < 3 by decide) (go_op (.t (.bool (PyData.eqv (rp q') (rp q)))) (fun Q h => S2_eq (p := rp q') (q := rp q) rfl rfl (hsh q' hq'm) (hsh q hqm) h) ?_))))
          cases hev : PyData.eqv (rp q') (rp q) with
          | false =>
            rw [hev] at hj
            exact go_f (no rfl) (go_ask tyD_head (go_flist ok (go_append _ lookup_head hlen (upd_head ha) (app _ hj rfl))))
          | true =>
            rw [hev] at hj
            refine go_t (yes rfl) (go_flist ok (go_last lookup_head hlen hlm (go_lst (i := 0) rfl (by decide) ?_)))
            have hne : (shF R s.2 i).map rulePy ≠ [] := by intro e; rw [e] at hlm; cases hlm
            have hne' : shF R s.2 i ≠ [] := by intro e; rw [e] at hne; exact hne rfl
            have hpos : 0 < (shF R s.2 i).length := List.length_pos_iff.mpr hne'
            refine go_putL (j := (shF R s.2 i).length - 1) (q := .tuple [.int q.1, q.2, .list [.tuple [.str (S [st]), .str (S [65 + i])]]]) _ lookup_head hlen (by rw [List.length_map]; lia) (upd_head ha) ?_
            refine hag' () _ _ trivial rfl ?_
            rw [hstep _ rfl, hj, if_pos rfl, hst]
            have hsl := set_last (x := PyData.tuple [.int q.1, q.2, .list [.tuple [.str (S [st]), .str (S [65 + i])]]]) hne
            rw [List.length_map] at hsl
            rw [hsl, List.map_append, List.map_dropLast]
            rfl
    · refine go_ask hrt (go_litem (q := .bool b) (lookup_second hat) (by rw [List.getElem?_map, hb]; rfl) hi2 ?_)
      exact hag (i + 1) _ _ rfl (by rw [hrun]; rfl) rfl
  · rintro _ rfl
    exact go_ask ⟨rfl, ha⟩ (hQ (.ret _) _ ⟨rfl, rfl⟩)
end
end P279
end
section
open PySem PySem.W PyProof.Rows PySem.Spec PySem.Calls PySem.Builtin PySem.Builtin.Str
set_option maxHeartbeats 4000000
namespace P279
theorem lex_name {c : Nat} {i : List Nat} (hc : c ∈ LET) (h : ∀ d ∈ i, d ∈ LD) (h6 : i.length + 1 ≤ 6) : lexF (c :: i).length (c :: i) 0 = some [(.name (c :: i), 0)] := by
  have ht := tokAt_name (c := c) (l := i) (r := []) hc h (by intro d hd; cases hd)
  rw [List.append_nil, if_neg (by lia)] at ht
  rw [List.length_cons, lexF_step ht, show (c :: i).drop (i.length + 1) = [] by simp, lexF_end]
  rfl
noncomputable def itemPy (nm : List Nat) : PyData := .tuple [.str (S nm), .list [], .none]
noncomputable def typedPy (d : PyData) (nm : List Nat) : PyData := .list [.tuple [.str "type", .int 5, d, .list [itemPy nm]]]
theorem LD_alp {l : List Nat} (h : ∀ c ∈ l, c ∈ LD) : Alp l := fun c hc => List.mem_append_left _ (h c hc)
section
variable {G : Cfg} {p : Params}
theorem ok_parse_item (O : Own G p) {nm : List Nat} : Ret G 353 [.t (.list (pys [(.name nm, 0)])), .t (.int 0), .t (.bool true)] 3 (some (.t (.tuple [itemPy nm, .int 1]))) := by
  refine ret_body O ["tokens", "at", "is_text"] t353 (by rfl) (by rfl) (bind3 fun _ _ _ => by rfl) rfl (by decide) (by decide) (by decide) (by rfl) (by rfl) (a353 O) (fun Γ k ok W F => ?_)
  have hx : [(Tk.name nm, 0)].length ≤ 1000 := by simp
  refine go_call (ok_need_name O (ts := [(.name nm, 0)]) (e := 0) hx (by decide)) W (go_call (ok_parse_dims O (ts := [(.name nm, 0)]) (e := 1) hx (by decide) rfl) W (go_if ok (go_t (yes rfl) ?_)))
  exact go_call (ok_is_op O (ts := [(.name nm, 0)]) (e := 1) (s := [42]) hx (by decide)) W (go_f (no rfl) (F.ret rfl))
theorem ok_parse_typed (O : Own G p) {c : Nat} {i : List Nat} {d : PyData} (hc : c ∈ LET) (h : ∀ d ∈ i, d ∈ LD) (h6 : i.length + 1 ≤ 6) : Ret G 360 [.t (.int 5), .t d, .t (.str (S (c :: i)))] 6 (some (.t (typedPy d (c :: i)))) := by
  refine ret_body O ["kind", "length", "text"] t360 (by rfl) (by rfl) (bind3 fun _ _ _ => by rfl) rfl (by decide) (by decide) (by decide) (by rfl) (by rfl) (a360 O) (fun Γ k ok W F => ?_)
  have htk := ok_tokens_of O (x := c :: i) (by simp; lia) (LD_alp fun d hd => (List.mem_cons.mp hd).elim (fun e => e ▸ let_LD hc) (h d))
  unfold lexPy at htk
  rw [lex_name hc h h6] at htk
  have hx : [(Tk.name (c :: i), 0)].length ≤ 1000 := by simp
  refine go_call htk W (go_call (ok_parse_item O) W (go_flist ok ?_))
  refine go_while ok (σ := Unit) ["tokens", "at", "kind", "length", "items"] (fun _ _ => True) (fun _ => [.t (.list (pys [(.name (c :: i), 0)])), .t (.int (1 : Nat)), .t (.int 5), .t d, .t (.list [itemPy (c :: i)])]) (fun _ => []) ⟨0, (), trivial, rfl, rfl⟩ ?_
  rintro n s ag - hag
  refine go_call (ok_is_op O (ts := [(.name (c :: i), 0)]) (e := 1) (s := [44]) hx (by decide)) W (go_f (no rfl) ?_)
  exact go_call (ok_need_end O (ts := [(.name (c :: i), 0)]) (e := 1) hx) W (go_flist ok (F.ret rfl))
theorem ok_parse_character (O : Own G p) {ds i : List Nat} {c : Nat} {comma : Bool} (hds0 : ds ≠ []) (hds : ∀ d ∈ ds, d ∈ DIG) (hdl : ds.length ≤ 10) (hc : c ∈ LET) (h : ∀ d ∈ i, d ∈ LD) (h6 : i.length + 1 ≤ 6) :
    Ret G 367 [.t (.str (S ([67,72,65,82,65,67,84,69,82] ++ 42 :: (ds ++ ((if comma = true then [44] else []) ++ c :: i)))))] 10
      (if NumText.digitsVal ds = 0 then none else some (.t (typedPy (.tuple [.str "int", .int (NumText.digitsVal ds : Nat)]) (c :: i)))) := by
  refine ret_body O ["text"] t367 (by rfl) (by rfl) (bind1 fun _ => by rfl) rfl (by decide) (by decide) (by decide) (by rfl) (by rfl) (a367 O) (fun Γ k ok W F => ?_)
  have hnm : ∀ d ∈ c :: i, d ∈ LD := fun d hd => (List.mem_cons.mp hd).elim (fun e => e ▸ let_LD hc) (h d)
  generalize hr' : (if comma = true then [44] else []) ++ c :: i = r
  have hrA : Alp r := by
    intro d hd
    rw [← hr'] at hd
    rcases List.mem_append.mp hd with hd | hd
    · cases comma <;> simp at hd; subst hd; decide
    · exact LD_alp hnm d hd
  have hrl : r.length ≤ 7 := by rw [← hr']; cases comma <;> simp <;> omega
  have hrh : ∀ d, r.head? = some d → d ∉ DIG := by
    intro d hd
    rw [← hr'] at hd
    cases comma
    · cases hd; exact fun h => dig_let h hc
    · cases hd; decide
  have hA : Alp (42 :: (ds ++ r)) := by
    intro d hd
    rcases List.mem_cons.mp hd with rfl | hd
    · decide
    rcases List.mem_append.mp hd with hd | hd
    · exact LD_alp (fun c hc => dig_LD (hds c hc)) d hd
    · exact hrA d hd
  have hh := ok_head_length O (by simp; lia) hA (HeadIn.num ds r hds0 hds hrh)
  refine go_slice (x := [67,72,65,82,65,67,84,69,82] ++ 42 :: (ds ++ r)) (y := 42 :: (ds ++ r)) (by simp; lia) (slc_from _ 9 (by decide)) ?_
  by_cases hz : NumText.digitsVal ds = 0
  · rw [if_pos hz] at hh F
    exact go_callN hh W F rfl
  rw [if_neg hz] at hh F
  refine go_call hh W (go_if ok (go_t (yes rfl) (go_slice (Nat.le_trans hrl (by decide)) (slc_to r 1 (by decide)) ?_)))
  cases comma with
  | false =>
    rw [if_neg (by decide), List.nil_append] at hr'
    subst hr'
    exact go_f (no (c_neq (b := 44) (by rintro rfl; exact absurd hc (by decide)))) (go_call (ok_parse_typed O hc h h6) W (F.ret rfl))
  | true =>
    rw [if_pos rfl] at hr'
    subst hr'
    exact go_t (yes rfl) (go_slice (Nat.le_trans hrl (by decide)) (slc_from _ 1 (by decide)) (go_call (ok_parse_typed O hc h h6) W (F.ret rfl)))
end
end P279
end
section
open PySem PySem.W PyProof.Rows PySem.Spec PySem.Calls PySem.Builtin PySem.Builtin.Str
set_option maxHeartbeats 4000000
namespace P279
theorem go_pop0 {Γ : Fr} {v : T} {a : Addr} {q : PyData} {ds : List PyData} (μ' : Mut) (hl : v.mu.lookup a = some (q :: ds)) (hs : ds.length ≤ 1000000) (hu : v.mu.upd a ds = μ') (g : Good Γ (v.k (.t q) μ')) (e : v.o = .blt "list.pop" [.loc a, .t (.int 0)] := by exact rfl) : Good Γ v :=
  go_opM _ μ' (fun Q h => by rw [e]; exact SL_pop0 hl hs (by rw [hu]; exact h)) g
section
variable {G : Cfg} {c : Act} {m : Loc} {μ μ₂ : Mut}
end
noncomputable def nts (p : List Nat) : List PyData := p.map fun (i : Nat) => .int i
theorem nts_length (p : List Nat) : (nts p).length = p.length := List.length_map ..
noncomputable def jn (sep : List Nat) : List (List Nat) → List Nat
  | [] => []
  | [x] => x
  | x :: y :: r => x ++ sep ++ jn sep (y :: r)
theorem join_S (sep : List Nat) : ∀ ls : List (List Nat), Txt.join (S sep) (ls.map S) = S (jn sep ls) := by
  intro ls
  rw [show Txt.join (S sep) (ls.map S) = Str.join (S sep) (ls.map S) from StrLaws.glued_eq_join _ _]
  induction ls with
  | nil => rfl
  | cons x r ih =>
    cases r with
    | nil => rfl
    | cons y r =>
      show S x ++ S sep ++ Str.join (S sep) ((y :: r).map S) = _
      rw [ih, S_app, S_app]; rfl
theorem jn_alp {sep : List Nat} (hs : Alp sep) : ∀ {ls : List (List Nat)}, (∀ x ∈ ls, Alp x) → Alp (jn sep ls)
  | [], _ => fun c hc => by simp [jn] at hc
  | [x], h => h x (List.mem_cons_self ..)
  | x :: y :: r, h => fun c hc => by
    rw [jn] at hc
    rcases List.mem_append.mp hc with hc | hc
    · rcases List.mem_append.mp hc with hc | hc
      · exact h x (List.mem_cons_self ..) c hc
      · exact hs c hc
    · exact jn_alp hs (fun z hz => h z (List.mem_cons_of_mem _ hz)) c hc
theorem jn_len {k : Nat} : ∀ {ls : List (List Nat)}, (∀ x ∈ ls, x.length ≤ k) → (jn [44] ls).length ≤ ls.length * (k + 1)
  | [], _ => by simp [jn]
  | [x], h => by have := h x (List.mem_cons_self ..); simp [jn]; lia
  | x :: y :: r, h => by
    have h1 := h x (List.mem_cons_self ..)
    have h2 := jn_len (k := k) (ls := y :: r) fun z hz => h z (List.mem_cons_of_mem _ hz)
    rw [jn, List.length_append, List.length_append]
    simp only [List.length_cons, List.length_nil] at h2 ⊢
    rw [show (r.length + 1 + 1) * (k + 1) = (r.length + 1) * (k + 1) + (k + 1) by rw [Nat.add_mul (r.length + 1) 1, Nat.one_mul]]
    lia
theorem txts_eq (ls : List (List Nat)) : txts ls = (ls.map S).map .str := by unfold txts; rw [List.map_map]; rfl
section
variable {G : Cfg} {p : Params}
end
theorem td_app {α : Type} {x : List α} {a b : Nat} (h : a ≤ b) : (x.take a).length + (x.drop b).length ≤ x.length := by rw [List.length_take, List.length_drop]; omega
theorem Alp.append {x y : List Nat} (h : Alp x) (k : Alp y) : Alp (x ++ y) := fun c hc => (List.mem_append.mp hc).elim (h c) (k c)
theorem words_at {k : Nat} (h : k < 6) : ∃ wd, (txts (WRDS.map (·.1)))[k]? = some (.str (S wd)) ∧ wd.length ≤ 15 ∧ Alp wd := by
  have : k = 0 ∨ k = 1 ∨ k = 2 ∨ k = 3 ∨ k = 4 ∨ k = 5 := by lia
  rcases this with rfl | rfl | rfl | rfl | rfl | rfl <;> exact ⟨_, rfl, by decide, by unfold Alp; decide⟩
section
variable {G : Cfg} {p : Params}
theorem ok_take (O : Own G p) {a : Addr} {p : List Nat} {k : Nat} (hk : 0 < k) (hk2 : k < 1000) (hp : p.length ≤ 100) : CallOK G 457 [.loc a, .t (.int k)] [(a, nts p)] 1 (fun d μ' => ∃ d' p', d' < k ∧ d = .t (.int (d' : Nat)) ∧ μ' = [(a, nts p')] ∧ p'.length ≤ p.length) (fun _ _ => False) := by
  refine call_body O ["pool", "many"] t457 (by rfl) (by rfl) (bind2 fun _ _ => by rfl) rfl (by decide) (by decide) (by decide) (by rfl) (by rfl) (a457 O) (fun Γ kk ok W hQ hE => ?_)
  refine go_let ?_; intro vv; refine go_op (.t (.int ((nts p).length : Nat))) (fun Q h => SL_len_list (ds := nts p) lookup_head (by rw [nts_length]; exact Nat.le_trans ‹_› (by decide)) h) ?_
  cases p with
  | nil => exact go_t (yes rfl) (hQ (.ret _) _ ⟨0, [], hk, rfl, rfl, Nat.le_refl _⟩)
  | cons x p =>
    have hl : ∀ y : Nat, (nts (y :: p)).length ≤ 1000000 := fun y => by rw [nts_length]; simp at hp ⊢; exact Nat.le_trans ‹_› (by decide)
    refine go_f (no (d_neq (b := 0) (by simp [nts]))) ?_
    refine go_let ?_; intro vv; refine go_litem (i := 0) (q := .int x) lookup_head rfl (by decide) (go_op (.t (.int ((x % k : Nat) : Int))) (fun Q h => S2_mod (by lia) (by
      rw [show ((x : Int).fmod (k : Int)) = ((x % k : Nat) : Int) by rw [Int.fmod_eq_emod_of_nonneg _ (by exact Int.natCast_nonneg _)]; lia]; exact h)) ?_)
    refine go_let ?_; intro vv; refine go_litem (i := 0) (q := .int x) lookup_head rfl (by decide) (go_op (.t (.int ((x / k : Nat) : Int))) (fun Q h => S2_div (by lia) (by exact Nat.lt_of_lt_of_le ‹_› (by decide)) (by
      rw [show ((x : Int).fdiv (k : Int)) = ((x / k : Nat) : Int) by rw [Int.fdiv_eq_ediv_of_nonneg _ (by exact Int.natCast_nonneg _)]; lia]; exact h)) ?_)
    refine go_let ?_; intro vv; refine go_put (j := 0) (q := .int (x / k : Nat)) [(a, nts (x / k :: p))] lookup_head (hl x) (by simp [nts]) (upd_head (by simp)) ?_
    have hd : x % k < k := Nat.mod_lt _ hk
    refine go_let ?_; intro vv; refine go_if ok (go_litem (i := 0) (q := .int (x / k : Nat)) lookup_head rfl (by decide) ?_)
    by_cases hz : x / k = 0
    · refine go_let ?_; intro vv; refine go_t (yes (d_eq (b := 0) hz)) (go_ask tyD_head (go_pop0 (q := .int (x / k : Nat)) (ds := nts p) _ lookup_head (by rw [nts_length]; simp at hp; exact Nat.le_trans ‹_› (by decide)) (upd_head (by simp)) ?_))
      exact hQ (.ret _) _ ⟨x % k, p, hd, rfl, rfl, by simp⟩
    · exact go_f (no (d_neq (b := 0) hz)) (hQ (.ret _) _ ⟨x % k, x / k :: p, hd, rfl, rfl, Nat.le_refl _⟩)
theorem go_take {Γ : Fr} {v : T} {G : Cfg} {P : Params} (O : Own G P) {n : Nat} {a : Addr} {p : List Nat} {k : Nat} {μr : Mut} (hk : 0 < k) (hk2 : k < 1000) (hp : p.length ≤ 100) (W : Wk Γ G n) (hμ : v.mu.Perm ((a, nts p) :: μr)) (h : ∀ d p', d < k → p'.length ≤ 100 → Good Γ (v.k (.t (.int (d : Nat))) ((a, nts p') :: μr))) (e : v.o = .call 457 [.loc a, .t (.int k)] := by exact rfl) (hn : 1 ≤ n := by decide) : Good Γ v := by
  have h1 : v.fn = 457 ∧ v.as = [.loc a, .t (.int k)] ∧ v.isCall = true := by
    cases v with
    | op o m μ ks => cases e; exact ⟨rfl, rfl, rfl⟩
    | _ => cases e
  have hf := ok_take O (a := a) (k := k) hk hk2 hp
  rw [← h1.1, ← h1.2.1] at hf
  refine go_let ?_; intro vv; exact go_callM [(a, nts p)] μr hf W hμ (fun d μ' q => by obtain ⟨d', p', h1, rfl, rfl, h2⟩ := q; exact h d' p' h1 (by exact Nat.le_trans ‹_› ‹_›)) (fun _ _ q => False.elim q) h1.2.2 hn
end
end P279
end
section
open PySem PySem.W PyProof.Rows PySem.Spec PySem.Calls PySem.Builtin PySem.Builtin.Str
set_option maxHeartbeats 4000000
namespace P279
theorem go_tup {Γ : Fr} {v : T} {ds : List PyData} {i : Nat} {q : PyData} (hx : ds[i]? = some q) (hi : i < 1000) (g : Good Γ (v.k (.t q) v.mu)) (e : v.o = .item (.t (.tuple ds)) (.t (.int (i : Int))) := by exact rfl) : Good Γ v :=
  go_op _ (fun Q h => by rw [e]; exact SI_tuple (Int.natCast_nonneg _) (by lia) (by rw [Int.toNat_natCast]; exact hx) h) g
theorem upd_mid {a l r : Addr} {x y z w : List PyData} (h : a ≠ l) (h' : r ≠ l) : Mut.upd [(a, x), (l, y), (r, w)] l z = [(a, x), (l, z), (r, w)] := by simp [Mut.upd, h, h']
theorem upd_third {a l r : Addr} {x y z w : List PyData} (h : a ≠ r) (h' : l ≠ r) : Mut.upd [(a, x), (l, y), (r, w)] r z = [(a, x), (l, y), (r, z)] := by simp [Mut.upd, h, h']
theorem go_add {Γ : Fr} {v : T} {x y : List Nat} (hl : x.length + y.length ≤ 16777216) (g : Good Γ (v.k (.t (.str (S (x ++ y)))) v.mu)) (e : v.o = .bin .Add (.t (.str (S x))) (.t (.str (S y))) := by exact rfl) : Good Γ v :=
  go_op _ (fun Q h => by rw [e]; exact S2_addSS hl h) g
noncomputable def RUNS : List (List Nat) := [[], [42, 55], [42, 49, 50], [42, 40, 78, 41], [42, 40, 42, 41], [42, 48], [42, 40, 51, 41]]
noncomputable def SIGS : List (List Nat) := [[65], [40], [41], [44], [45], [42], [57]]
theorem runs_at {k : Nat} (h : k < 7) : ∃ s, (txts RUNS)[k]? = some (.str (S s)) ∧ s.length ≤ 4 ∧ Alp s := by
  have : k = 0 ∨ k = 1 ∨ k = 2 ∨ k = 3 ∨ k = 4 ∨ k = 5 ∨ k = 6 := by lia
  rcases this with rfl | rfl | rfl | rfl | rfl | rfl | rfl <;> exact ⟨_, rfl, by decide, by unfold Alp; decide⟩
theorem sigs_at {k : Nat} (h : k < 7) : ∃ s, (txts SIGS)[k]? = some (.str (S s)) ∧ s.length = 1 ∧ Alp s := by
  have : k = 0 ∨ k = 1 ∨ k = 2 ∨ k = 3 ∨ k = 4 ∨ k = 5 ∨ k = 6 := by lia
  rcases this with rfl | rfl | rfl | rfl | rfl | rfl | rfl <;> exact ⟨_, rfl, rfl, by unfold Alp; decide⟩
theorem let_alp {n : Nat} (h : n < 26) : Alp [65 + n] := by
  intro c hc
  have hc := List.mem_singleton.mp hc; subst hc
  exact List.mem_append_left _ (List.mem_append_left _ (List.mem_of_getElem? (LET_at h)))
noncomputable def GoodT (n : Nat) (x : List Nat) : Prop := x.length ≤ n ∧ Alp x
theorem sum_len {k : Nat} : ∀ {ls : List (List Nat)}, (∀ x ∈ ls, x.length ≤ k) → ((ls.map S).map (·.length)).sum ≤ ls.length * k
  | [], _ => by simp
  | x :: r, h => by
    have h1 := h x (List.mem_cons_self ..)
    have h2 := sum_len (k := k) (ls := r) fun z hz => h z (List.mem_cons_of_mem _ hz)
    simp only [List.map_cons, List.sum_cons, List.length_cons, Nat.add_mul, Nat.one_mul]
    show x.length + _ ≤ _
    lia
theorem nilT {n : Nat} : GoodT n [] := ⟨Nat.zero_le _, fun c hc => by cases hc⟩
theorem go_join {Γ : Fr} {v : T} {l : Addr} {ls : List (List Nat)} {n : Nat} (hl : v.mu.lookup l = some (txts ls)) (hn : ∀ x ∈ ls, x.length ≤ n) (hs : ls.length * (n + 1) ≤ 1000) (g : Good Γ (v.k (.t (.str (S (jn [44] ls)))) v.mu)) (e : v.o = .blt "str.join" [.t (.str (S [44])), .loc l] := by exact rfl) : Good Γ v :=
  go_op _ (fun Q h => by
    rw [e]
    refine SL_join (ys := ls.map S) (by rw [← txts_eq]; exact hl) ?_ (by rw [join_S]; exact h)
    have := sum_len (k := n) (ls := ls) hn
    rw [List.length_map]
    show _ + ls.length * 1 ≤ _
    rw [Nat.mul_add] at hs
    lia) g
section
variable {G : Cfg} {p : Params}
theorem ok_law_row (O : Own G p) {a : Addr} {p : List Nat} (hp : p.length ≤ 100) : CallOK G 464 [.loc a] [(a, nts p)] 3 (fun d μ' => ∃ x p', GoodT 200 x ∧ d = .t (.str (S x)) ∧ μ' = [(a, nts p')] ∧ p'.length ≤ 100) (fun _ _ => False) := by
  refine CallOK.dropped (call_body O ["pool"] t464 (by rfl) (by rfl) (bind1 fun _ => by rfl) rfl (by decide) (by decide) (by decide) (by rfl) (by rfl) (a464 O) (fun Γ kk ok W hQ hE => ?_))
  refine go_let ?_; intro vv; refine go_new fun ru hru => ?_
  have hra : a ≠ ru := by rintro rfl; exact hru (List.mem_cons_self ..)
  have hit : ∀ n : Nat, n < 3 → itOk (.rng 0 (1 + n)) := fun n h => rng_ok (by exact Int.natCast_nonneg _) (by exact Int.natCast_nonneg _) (by exact Int.natCast_nonneg _) (by lia)
  refine go_let ?_; intro vv; refine go_forE ok (ι := Nat) (fun n => (List.range ((1 + (n : Int)) - 0).toNat).map fun (k : Nat) => .t (.int ((0 : Int) + k))) (σ := List Nat × List (List Nat)) ["pool", "rules"] (fun n i s => n < 3 ∧ s.1.length ≤ 100 ∧ s.2.length = i ∧ ∀ x ∈ s.2, GoodT 40 x) (fun s => [.loc a, .loc ru]) (fun s => [(a, nts s.1), (ru, txts s.2)]) ?_ ?_ ?_
  · refine go_let ?_; intro vv; exact go_take O (k := 3) (by decide) (by decide) hp W (List.Perm.swap _ _ _) fun n0 p1 hn0 hp1 => ⟨n0, rfl, hit n0 hn0, (p1, []), ⟨hn0, hp1, rfl, by simp⟩, rfl, rfl⟩
  · rintro n0 i y ⟨p2, rs⟩ ag hy ⟨hn0, hp2, hrs, hrg⟩ hag
    have hi3 : i < 3 := by
      have := (List.getElem?_eq_some_iff.mp hy).1
      simp only [List.length_map, List.length_range] at this
      lia
    dsimp only at hp2 hrs hrg
    refine go_let ?_; intro vv; refine go_take O (k := 6) (by decide) (by decide) hp2 W (List.Perm.refl _) fun kind p3 hkind hp3 => ?_
    refine go_let ?_; intro vv; refine go_fork ok (σ := List Nat × List Nat) ["pool", "rules", "kind", "size"] (fun s => s.1.length ≤ 100 ∧ GoodT 4 s.2) (fun s => [.loc a, .loc ru, .t (.int kind), .t (.str (S s.2))]) (fun s => [(a, nts s.1), (ru, txts rs)]) (fun ag' hag' => ?_) ?_
    · by_cases h5 : kind = 5
      · refine go_let ?_; intro vv; refine go_t (yes (d_eq (b := 5) h5)) (go_take O (k := 7) (by decide) (by decide) hp3 W (List.Perm.refl _) fun d p4 hd hp4 => ?_)
        obtain ⟨s, hs, hs1, hs2⟩ := runs_at hd
        refine go_let ?_; intro vv; refine go_tup (i := d) hs (by exact Nat.lt_of_lt_of_le ‹_› (by decide)) ?_
        exact hag' (p4, s) _ _ ⟨hp4, hs1, hs2⟩ rfl rfl
      · exact go_f (no (d_neq (b := 5) h5)) (hag' (p3, []) _ _ ⟨hp3, nilT⟩ rfl rfl)
    · rintro ⟨p4, sz⟩ ⟨hp4, hsz⟩
      dsimp only at hp4 hsz
      refine go_let ?_; intro vv; refine go_new fun l hl => ?_
      have hla : l ≠ a := by rintro rfl; exact hl (List.mem_cons_self ..)
      have hlr : l ≠ ru := by rintro rfl; exact hl (List.mem_cons_of_mem _ (List.mem_cons_self ..))
      refine go_let ?_; intro vv; refine go_forE ok (ι := Nat) (fun n => (List.range ((1 + (n : Int)) - 0).toNat).map fun (k : Nat) => .t (.int ((0 : Int) + k))) (σ := List Nat × List (List Nat)) ["pool", "rules", "kind", "size", "letters"] (fun n i s => n < 3 ∧ s.1.length ≤ 100 ∧ s.2.length = i ∧ ∀ x ∈ s.2, GoodT 3 x) (fun s => [.loc a, .loc ru, .t (.int kind), .t (.str (S sz)), .loc l]) (fun s => [(a, nts s.1), (l, txts s.2), (ru, txts rs)]) ?_ ?_ ?_
      · refine go_let ?_; intro vv; exact go_take O (k := 3) (by decide) (by decide) hp4 W (List.Perm.swap _ _ _) fun n1 p5 hn1 hp5 => ⟨n1, rfl, hit n1 hn1, (p5, []), ⟨hn1, hp5, rfl, by simp⟩, rfl, rfl⟩
      · rintro n1 j y ⟨p6, ls⟩ ag2 hy2 ⟨hn1, hp6, hls, hlg⟩ hag2
        have hj3 : j < 3 := by
          have := (List.getElem?_eq_some_iff.mp hy2).1
          simp only [List.length_map, List.length_range] at this
          lia
        dsimp only at hp6 hls hlg
        refine go_let ?_; intro vv; refine go_take O (k := 26) (by decide) (by decide) hp6 W (List.Perm.refl _) fun fi p7 hfi hp7 => ?_
        refine go_let ?_; intro vv; refine go_take O (k := 3) (by decide) (by decide) hp7 W (List.Perm.refl _) fun way p8 hway hp8 => ?_
        refine go_let ?_; intro vv; refine go_valG ok (fun d μ => ∃ (la : Nat) (p9 : List Nat), la < 26 ∧ p9.length ≤ 100 ∧ d = .t (.int la) ∧ μ = [(a, nts p9), (l, txts ls), (ru, txts rs)]) (fun ag3 hag3 => ?_) ?_
        · refine go_let ?_; intro vv; refine go_take O (k := 6) (by decide) (by decide) hp8 W (List.Perm.refl _) fun st p9 hst hp9 => ?_
          have hm : ∀ sub : Int, ∃ la : Nat, la < 26 ∧ ((fi : Int) + st - sub).fmod 26 = la := fun sub => by
            rw [Int.fmod_eq_emod_of_nonneg _ (by decide)]
            exact ⟨(((fi : Int) + st - sub) % 26).toNat, by lia, by lia⟩
          by_cases h2 : way = 2
          · obtain ⟨la, hla26, hlae⟩ := hm 1
            refine go_let ?_; intro vv; exact go_t (yes (d_eq (b := 2) h2)) (go_op (.t (.int la)) (fun Q h => S2_mod (by decide) (by rw [← hlae] at h; exact h)) (hag3 _ _ ⟨la, p9, hla26, hp9, rfl, rfl⟩))
          · obtain ⟨la, hla26, hlae⟩ := hm 0
            refine go_let ?_; intro vv; exact go_f (no (d_neq (b := 2) h2)) (go_op (.t (.int la)) (fun Q h => S2_mod (by decide) (by rw [← hlae] at h; exact h)) (hag3 _ _ ⟨la, p9, hla26, hp9, rfl, rfl⟩))
        · rintro _ _ ⟨la, p9, hla26, hp9, rfl, rfl⟩
          have fin : ∀ (z : List Nat) (m : Loc), GoodT 2 z → (["pool", "rules", "kind", "size", "letters"] : List Str).map m.get = [some (.loc a), some (.loc ru), some (.t (.int kind)), some (.t (.str (S sz))), some (.loc l)] → Good Γ (ag2 m [(a, nts p9), (l, txts (ls ++ [[65 + fi] ++ z])), (ru, txts rs)]) := by
            intro z m hz hm
            refine hag2 (p9, ls ++ [[65 + fi] ++ z]) _ _ ⟨hn1, hp9, by simp [hls], fun u hu => ?_⟩ hm (List.Sublist.refl _)
            rcases List.mem_append.mp hu with hu | hu
            · exact hlg u hu
            · have hu := List.mem_singleton.mp hu; subst hu
              exact ⟨by have := hz.1; simp; omega, Alp.append (x := [65 + fi]) (let_alp hfi) hz.2⟩
          have hap : ∀ z : List Nat, Mut.upd [(a, nts p9), (l, txts ls), (ru, txts rs)] l (txts ls ++ [.str (S z)]) = [(a, nts p9), (l, txts (ls ++ [z])), (ru, txts rs)] := fun z => by
            rw [upd_mid hla.symm hlr.symm, txts_append]; rfl
          refine go_let ?_; intro vv; refine go_ask (tyD_of (lookup_second hla)) (go_str (LET_at hfi) (by exact Nat.lt_of_lt_of_le ‹_› (by decide)) ?_)
          by_cases h0 : 0 < way
          · refine go_t (yes (d_gt (b := 0) h0)) (go_str (LET_at hla26) (by exact Nat.lt_of_lt_of_le ‹_› (by decide)) (go_add (x := [45]) (y := [65 + la]) (by simp) (go_add (x := [65 + fi]) (y := [45] ++ [65 + la]) (by simp) ?_)))
            exact go_append _ (lookup_second hla) (by rw [txts_length]; lia) (hap _) (fin ([45] ++ [65 + la]) _ ⟨by simp, Alp.append (by unfold Alp; decide) (let_alp hla26)⟩ rfl)
          · refine go_f (no (d_ngt (b := 0) (by lia))) (go_add (x := [65 + fi]) (y := []) (by simp) ?_)
            exact go_append _ (lookup_second hla) (by rw [txts_length]; lia) (hap _) (fin [] _ nilT rfl)
      · rintro n1 ⟨p5, ls⟩ ⟨hn1, hp5, hls, hlg⟩
        simp only [List.length_map, List.length_range] at hls
        dsimp only at hp5 hlg
        obtain ⟨wd, hwd, hwl, hwa⟩ := words_at hkind
        have hl3 : ls.length ≤ 3 := by lia
        have hjl := jn_len (k := 3) (ls := ls) (fun x hx => (hlg x hx).1)
        have hja := jn_alp (sep := [44]) (by unfold Alp; decide) (ls := ls) (fun x hx => (hlg x hx).2)
        have hs1 := hsz.1
        have hap2 : Mut.upd [(a, nts p5), (l, txts ls), (ru, txts rs)] ru (txts rs ++ [.str (S (wd ++ sz ++ [40] ++ jn [44] ls ++ [41]))]) = [(a, nts p5), (l, txts ls), (ru, txts (rs ++ [wd ++ sz ++ [40] ++ jn [44] ls ++ [41]]))] := by
          rw [upd_third hra hlr, txts_append]; rfl
        refine go_let ?_; intro vv; refine go_ask (tyD_of (lookup_third (fun e => hlr e.symm) (fun e => hra e.symm))) (go_tup (i := kind) hwd (by exact Nat.lt_of_lt_of_le ‹_› (by decide)) (go_add (x := wd) (y := sz) (by lia) (go_add (x := wd ++ sz) (y := [40]) (by simp; lia) (go_join (ls := ls) (n := 3) (lookup_second hla) (fun x hx => (hlg x hx).1) (by lia) (go_add (x := wd ++ sz ++ [40]) (y := jn [44] ls) (by simp; lia) (go_add (x := wd ++ sz ++ [40] ++ jn [44] ls) (y := [41]) (by simp; lia) ?_))))))
        refine go_let ?_; intro vv; refine go_append [(a, nts p5), (l, txts ls), (ru, txts (rs ++ [wd ++ sz ++ [40] ++ jn [44] ls ++ [41]]))] (lookup_third (fun e => hlr e.symm) (fun e => hra e.symm)) (by rw [txts_length]; lia) hap2 ?_
        refine hag (p5, rs ++ [wd ++ sz ++ [40] ++ jn [44] ls ++ [41]]) _ _ ⟨hn0, hp5, by simp [hrs], fun z hz => ?_⟩ rfl (List.Sublist.cons_cons _ (List.Sublist.cons _ (List.Sublist.refl _)))
        rcases List.mem_append.mp hz with hz | hz
        · exact hrg z hz
        · have hz := List.mem_singleton.mp hz; subst hz
          exact ⟨by simp; lia, ((((hwa.append hsz.2).append (by unfold Alp; decide)).append hja).append (by unfold Alp; decide))⟩
  · rintro n0 ⟨p, rs⟩ ⟨hn0, hp, hrs, hrg⟩
    simp only [List.length_map, List.length_range] at hrs
    dsimp only at hp hrg
    have hr3 : rs.length ≤ 3 := by lia
    have hjl := jn_len (k := 40) (ls := rs) (fun x hx => (hrg x hx).1)
    have hja := jn_alp (sep := [44]) (by unfold Alp; decide) (ls := rs) (fun x hx => (hrg x hx).2)
    refine go_let ?_; intro vv; refine go_join (ls := rs) (n := 40) (lookup_second (fun e => hra e.symm)) (fun x hx => (hrg x hx).1) (by lia) ?_
    generalize jn [44] rs = x at hjl hja ⊢
    have hx : x.length ≤ 150 := by lia
    refine go_let ?_; intro vv; refine go_take O (k := 8) (by decide) (by decide) hp W (List.Perm.refl _) fun way p1 hway hp1 => ?_
    refine go_let ?_; intro vv; refine go_take O (k := 40) (by decide) (by decide) hp1 W (List.Perm.refl _) fun n0 p2 hn0 hp2 => go_ask (lok6 (show x.length ≤ 600 by exact Nat.le_trans ‹_› (by decide))) ?_
    obtain ⟨at_, hat, hate⟩ : ∃ at_ : Nat, at_ ≤ x.length ∧ ((n0 : Int).fmod ((x.length : Int) + 1)) = at_ := by
      rw [Int.fmod_eq_emod_of_nonneg _ (by exact Int.natCast_nonneg _)]
      refine ⟨((n0 : Int) % ((x.length : Int) + 1)).toNat, ?_, ?_⟩
      · have := Int.emod_lt_of_pos (n0 : Int) (show (0 : Int) < (x.length : Int) + 1 by lia)
        lia
      · have := Int.emod_nonneg (n0 : Int) (show ((x.length : Int) + 1) ≠ 0 by lia)
        lia
    refine go_let ?_; intro vv; refine go_op (.t (.int at_)) (fun Q h => S2_mod (a := (n0 : Int)) (b := (x.length : Int) + 1) (by lia) (by rw [hate]; exact h)) ?_
    refine go_let ?_; intro vv; refine go_take O (k := 7) (by decide) (by decide) hp2 W (List.Perm.refl _) fun n1 p3 hn1 hp3 => ?_
    obtain ⟨sg, hsg, hsl, hsa⟩ := sigs_at hn1
    refine go_let ?_; intro vv; refine go_tup (i := n1) hsg (by exact Nat.lt_of_lt_of_le ‹_› (by decide)) ?_
    have hx' : x.length ≤ 1000 := by exact Nat.le_trans ‹_› (by decide)
    have e1 : slc x none (some (at_ : Int)) = x.take at_ := slc_to x at_ (by exact Int.natCast_nonneg _)
    have e2 : slc x (some (at_ : Int)) none = x.drop at_ := slc_from x at_ (by exact Int.natCast_nonneg _)
    have e3 : slc x (some ((at_ : Int) + 1)) none = x.drop (at_ + 1) := slc_from x ((at_ : Int) + 1) (by exact Int.natCast_nonneg _)
    have t1 : (x.take at_).length ≤ 150 := Nat.le_trans (List.length_take_le' ..) hx
    have t2 : ∀ n, (x.drop n).length ≤ 150 := fun n => by rw [List.length_drop]; exact Nat.le_trans (Nat.sub_le _ _) hx
    have fin : ∀ y : List Nat, GoodT 200 y → Good Γ (kk (.ret (.t (.str (S y)))) [(a, nts p3), (ru, txts rs)]) := fun y hy => hQ (.ret _) _ ⟨[(a, nts p3)], List.Sublist.cons_cons _ (List.nil_sublist _), y, p3, hy, rfl, rfl, hp3⟩
    by_cases w1 : way = 1
    · refine go_let ?_; intro vv; refine go_t (yes (d_eq (b := 1) w1)) (go_slice hx' e1 (go_slice hx' e3 (go_add (x := x.take at_) (y := x.drop (at_ + 1)) (by have := t2 (at_ + 1); lia) ?_)))
      exact fin _ ⟨by rw [List.length_append]; exact Nat.le_trans (td_app (Nat.le_succ _)) (Nat.le_trans hx (by decide)), (hja.take _).append (hja.drop _)⟩
    refine go_let ?_; intro vv; refine go_f (no (d_neq (b := 1) w1)) ?_
    by_cases w2 : way = 2
    · refine go_let ?_; intro vv; refine go_t (yes (d_eq (b := 2) w2)) (go_slice hx' e1 (go_add (x := x.take at_) (y := sg) (by lia) (go_slice hx' e2 (go_add (x := x.take at_ ++ sg) (y := x.drop at_) (by have := t2 at_; simp only [List.length_append]; lia) ?_))))
      exact fin _ ⟨by rw [List.length_append, List.length_append, hsl, Nat.add_right_comm]; exact Nat.le_trans (Nat.succ_le_succ (Nat.le_trans (td_app (Nat.le_refl _)) hx)) (by decide), ((hja.take _).append hsa).append (hja.drop _)⟩
    refine go_let ?_; intro vv; refine go_f (no (d_neq (b := 2) w2)) ?_
    by_cases w3 : way = 3
    · refine go_let ?_; intro vv; refine go_t (yes (d_eq (b := 3) w3)) (go_slice hx' e1 (go_add (x := x.take at_) (y := sg) (by lia) (go_slice hx' e3 (go_add (x := x.take at_ ++ sg) (y := x.drop (at_ + 1)) (by have := t2 (at_ + 1); simp only [List.length_append]; lia) ?_))))
      exact fin _ ⟨by rw [List.length_append, List.length_append, hsl, Nat.add_right_comm]; exact Nat.le_trans (Nat.succ_le_succ (Nat.le_trans (td_app (Nat.le_succ _)) hx)) (by decide), ((hja.take _).append hsa).append (hja.drop _)⟩
    exact go_f (no (d_neq (b := 3) w3)) (fin _ ⟨by omega, hja⟩)
end
end P279
end
section
open PySem PySem.W PyProof.Rows PySem.Spec PySem.Calls PySem.Builtin PySem.Builtin.Str
set_option maxHeartbeats 4000000
namespace P279
noncomputable def spC (s : Nat) : List Nat → List (List Nat)
  | [] => [[]]
  | c :: r => if c = s then [] :: spC s r else match spC s r with
    | [] => [[c]]
    | h :: t => (c :: h) :: t
theorem spC_free {s : Nat} {x : List Nat} (h : s ∉ x) : spC s x = [x] := by
  induction x with
  | nil => rfl
  | cons c x ih =>
    rw [spC, if_neg (fun e : c = s => h (e ▸ List.mem_cons_self ..)), ih (fun e => h (List.mem_cons_of_mem _ e))]
theorem spC_cut {s : Nat} {x y : List Nat} (h : s ∉ x) : spC s (x ++ s :: y) = x :: spC s y := by
  induction x with
  | nil => rw [List.nil_append, spC, if_pos rfl]
  | cons c x ih =>
    rw [List.cons_append, spC, if_neg (fun e : c = s => h (e ▸ List.mem_cons_self ..)), ih (fun e => h (List.mem_cons_of_mem _ e))]
theorem spC_jn {s : Nat} : ∀ {ls : List (List Nat)}, ls ≠ [] → (∀ l ∈ ls, s ∉ l) → spC s (jn [s] ls) = ls
  | [], h, _ => absurd rfl h
  | [x], _, h => spC_free (h x (List.mem_cons_self ..))
  | x :: y :: r, _, h => by
    rw [jn, List.append_assoc, show [s] ++ jn [s] (y :: r) = s :: jn [s] (y :: r) from rfl, spC_cut (h x (List.mem_cons_self ..)), spC_jn (by simp) fun l hl => h l (List.mem_cons_of_mem _ hl)]
theorem spC_ne (s : Nat) (x : List Nat) : spC s x ≠ [] := by
  cases x with
  | nil => exact nofun
  | cons c r =>
    rw [spC]
    split
    · exact nofun
    · split <;> exact nofun
theorem split_S (s : Nat) (x : List Nat) : Txt.split (S x) (S [s]) = (spC s x).map S := by
  have h1 := StrLaws.join_split (S x) (S [s])
  have h2 := StrLaws.split_free (S x) s
  have h3 : Txt.split (S x) (S [s]) ≠ [] := by
    intro e
    rw [e] at h1
    have : x = [] := by have := congrArg (fun s : Str => s.cps.toList) h1; simpa [S, Str.join, Str.empty] using this.symm
    subst this
    have : Txt.split (S []) (S [s]) = [S []] := by unfold Txt.split; rw [if_pos (by simp [S, Str.length])]
    rw [this] at e; cases e
  generalize Txt.split (S x) (S [s]) = L at *
  have hL : L = (L.map fun t => t.cps.toList).map S := by rw [List.map_map]; conv => lhs; rw [← List.map_id L]
                                                          congr
  generalize hl : L.map (fun t => t.cps.toList) = ls at hL
  subst hL
  rw [← show Txt.join (S [s]) (ls.map S) = Str.join (S [s]) (ls.map S) from StrLaws.glued_eq_join _ _, join_S] at h1
  have hx := S_inj h1
  rw [← hx, spC_jn]
  · intro e; subst e; exact h3 rfl
  · intro l hl hs
    exact h2 (S l) (List.mem_map_of_mem hl) hs
theorem spC_len {s : Nat} {x : List Nat} : (spC s x).length ≤ x.length + 1 := by
  induction x with
  | nil => exact Nat.le_refl _
  | cons c x ih =>
    rw [spC]
    split
    · simp; exact ih
    · split
      · simp
      · rename_i h; rw [h] at ih; simp at ih ⊢; lia
theorem spC_mem {s : Nat} {x : List Nat} : ∀ p ∈ spC s x, p.length ≤ x.length ∧ ∀ c ∈ p, c ∈ x := by
  induction x with
  | nil => intro p hp; have := List.mem_singleton.mp hp; subst this; exact ⟨Nat.le_refl _, fun c h => h⟩
  | cons c x ih =>
    intro p hp
    rw [spC] at hp
    split at hp
    · rcases List.mem_cons.mp hp with rfl | hp
      · exact ⟨by simp, fun c h => by simp at h⟩
      · obtain ⟨h1, h2⟩ := ih p hp; exact ⟨by simp; lia, fun c h => List.mem_cons_of_mem _ (h2 c h)⟩
    · split at hp
      · have := List.mem_singleton.mp hp; subst this; exact ⟨by simp, fun d h => by have := List.mem_singleton.mp h; subst this; exact List.mem_cons_self ..⟩
      · rename_i h t e
        rcases List.mem_cons.mp hp with rfl | hp
        · obtain ⟨h1, h2⟩ := ih h (by rw [e]; exact List.mem_cons_self ..)
          refine ⟨by simp; omega, fun d hd => ?_⟩
          rcases List.mem_cons.mp hd with rfl | hd
          · exact List.mem_cons_self ..
          · exact List.mem_cons_of_mem _ (h2 d hd)
        · obtain ⟨h1, h2⟩ := ih p (by rw [e]; exact List.mem_cons_of_mem _ hp)
          exact ⟨by simp; lia, fun d h => List.mem_cons_of_mem _ (h2 d h)⟩
noncomputable def okEnd : List Nat → Bool
  | [c] => decide (c ∈ LET)
  | _ => false
noncomputable def partF (p : List Nat) : Option (Nat × Nat) :=
  if (spC 45 p).length > 2 ∨ (spC 45 p).filter (fun e => !okEnd e) ≠ [] then none else some (((spC 45 p).headD []).headD 0, ((spC 45 p).getLastD []).headD 0)
noncomputable def allP : List (List Nat) → Option (List (Nat × Nat))
  | [] => some []
  | p :: ps => match partF p with
    | none => none
    | some q => (allP ps).map (q :: ·)
noncomputable def runsF (x : List Nat) : Option (List (Nat × Nat)) :=
  if x.length < 3 ∨ x.head? ≠ some 40 ∨ x.getLast? ≠ some 41 then none else allP (spC 44 ((x.drop 1).take (x.length - 2)))
noncomputable def runsPy (r : Option (List (Nat × Nat))) : PyData := match r with
  | none => .none
  | some ls => .list (lets ls)
theorem allP_snoc {p : List Nat} : ∀ {ps : List (List Nat)}, allP (ps ++ [p]) = (allP ps).bind fun rs => (partF p).map fun r => rs ++ [r]
  | [] => by simp only [List.nil_append, allP, Option.bind_some]; cases partF p <;> rfl
  | q :: ps => by
    rw [List.cons_append, allP, allP]
    cases partF q with
    | none => rfl
    | some r =>
      dsimp only
      rw [allP_snoc]
      cases allP ps with
      | none => rfl
      | some rs => simp only [Option.bind_some, Option.map_some]; cases partF p <;> rfl
theorem allP_none {a b : List (List Nat)} : allP a = none → allP (a ++ b) = none := by
  induction a with
  | nil => intro h; cases h
  | cons p a ih =>
    intro h
    rw [List.cons_append, allP]
    rw [allP] at h
    cases hp : partF p with
    | none => rfl
    | some r =>
      rw [hp] at h
      dsimp only at h ⊢
      cases ha : allP a with
      | none => rw [ih ha]; rfl
      | some rs => rw [ha] at h; cases h
theorem eqv_nil {l : List PyData} : PyData.eqv (.list l) (.list []) = l.isEmpty := by cases l <;> simp [PyData.eqv, PyData.eqvAll]
theorem sh_txts {ls : List (List Nat)} (h : ∀ l ∈ ls, Alp l) : SeqAt.shaped (.list (txts ls)) = true := by
  refine (Sh.list (n := 0) fun x hx => ?_).shaped (by decide)
  obtain ⟨l, hl, rfl⟩ := List.mem_map.mp hx
  refine Sh.str (strOk_S fun c hc => ?_)
  have : ∀ c ∈ ALP, c < 1114112 := by decide
  exact this c (h l hl c hc)
theorem sh_nil : SeqAt.shaped (.list []) = true := (Sh.list (n := 0) fun x hx => by simp at hx).shaped (by decide)
theorem go_split {Γ : Fr} {v : T} {x : List Nat} {s : Nat} (hl : x.length ≤ 1000) (g : Good Γ (v.k (.t (.list (txts (spC s x)))) v.mu)) (e : v.o = .blt "str.split" [.t (.str (S x)), .t (.str (S [s]))] := by exact rfl) : Good Γ v :=
  go_op _ (fun Q h => by rw [e]; exact SL_split (by rfl) (by simp [Str.length]; exact Nat.le_trans ‹_› (by decide)) (by rw [split_S, ← txts_eq]; exact h)) g
theorem go_slast {Γ : Fr} {v : T} {x : List Nat} {n : Nat} (hl : x.length ≤ 1000) (hx : x.getLast? = some n) (g : Good Γ (v.k (.t (.str (S [n]))) v.mu)) (e : v.o = .item (.t (.str (S x))) (.t (.int (-1))) := by exact rfl) : Good Γ v :=
  go_op _ (fun Q h => by rw [e]; exact SI_strLast (by exact Nat.le_trans ‹_› (by decide)) hx h) g
theorem go_tlast {Γ : Fr} {v : T} {ds : List PyData} {q : PyData} (hl : ds.length ≤ 1000) (hx : ds.getLast? = some q) (g : Good Γ (v.k (.t q) v.mu)) (e : v.o = .item (.t (.list ds)) (.t (.int (-1))) := by exact rfl) : Good Γ v :=
  go_op _ (fun Q h => by rw [e]; exact SI_last rfl (by exact Nat.le_trans ‹_› (by decide)) hx h) g
noncomputable def t469c : List (Str × Ent) := [(".0", .loc), ("end", .loc), ("len", .blt "len"), ("_law_letters", .val (.str (S LET)))]
theorem a469c {G : Cfg} {p : Params} (O : Own G p) : AllOk G t469c := ⟨trivial, trivial, e_len O, e_law_letters_L O, trivial⟩
section
variable {G : Cfg} {p : Params}
theorem okEnd_inv {e : List Nat} (h : ¬ (!okEnd e) = true) : ∃ c, c ∈ LET ∧ e = [c] := by
  rcases e with _ | ⟨c, _ | ⟨d, r⟩⟩
  · exact absurd rfl h
  · exact ⟨c, by simpa [okEnd] using h, rfl⟩
  · exact absurd rfl h
theorem okEnd_no {e : List Nat} (h : ¬ e.length = 1) : okEnd e = false := by
  rcases e with _ | ⟨c, _ | ⟨d, r⟩⟩
  · rfl
  · exact absurd rfl h
  · rfl
theorem ok_law_runs (O : Own G p) {x : List Nat} (hx : x.length ≤ 600) (ha : Alp x) : Ret G 469 [.t (.str (S x))] 3 (some (.t (runsPy (runsF x)))) := by
  refine ret_body O ["text"] t469 (by rfl) (by rfl) (bind1 fun _ => by rfl) rfl (by decide) (by decide) (by decide) (by rfl) (by rfl) (a469 O) (fun Γ k ok W F => ?_)
  unfold runsF at F
  refine go_let ?_; intro vv; refine go_ask (lok6 hx) ?_
  by_cases h3 : x.length < 3
  · exact go_t (yes (d_lt (b := 3) h3)) (F.ret (by rw [if_pos (.inl h3)]; rfl))
  refine go_let ?_; intro vv; refine go_f (no (d_nlt (b := 3) h3)) ?_
  obtain ⟨c, y, rfl⟩ : ∃ c y, x = c :: y := by cases x with | nil => simp at h3 | cons c y => exact ⟨c, y, rfl⟩
  refine go_let ?_; intro vv; refine go_str (i := 0) rfl (by decide) ?_
  by_cases h40 : c = 40
  rotate_left
  · refine go_let ?_; intro vv; exact go_t (yes (s_nt (a := [c]) (b := [40]) fun e => h40 (by injection e))) (F.ret (by rw [if_pos (.inr (.inl (by intro e; injection e with e; exact h40 e)))]; rfl))
  subst h40
  refine go_let ?_; intro vv; refine go_f (no (s_nf (a := [40]) (b := [40]) rfl)) ?_
  obtain ⟨z, hz⟩ : ∃ z, (40 :: y).getLast? = some z := ⟨_, List.getLast?_eq_some_getLast (by simp)⟩
  refine go_let ?_; intro vv; refine go_slast (k6 hx) hz ?_
  by_cases h41 : z = 41
  rotate_left
  · refine go_let ?_; intro vv; exact go_t (yes (s_nt (a := [z]) (b := [41]) fun e => h41 (by injection e))) (F.ret (by rw [if_pos (.inr (.inr (by rw [hz]; intro e; injection e with e; exact h41 e)))]; rfl))
  subst h41
  refine go_let ?_; intro vv; refine go_f (no (s_nf (a := [41]) (b := [41]) rfl)) ?_
  rw [if_neg (by rintro (h | h | h); exact h3 h; exact h rfl; exact h hz)] at F
  refine go_let ?_; intro vv; refine go_new fun a _ => ?_
  have hin : Alp (((40 :: y).drop 1).take ((40 :: y).length - 2)) := (ha.drop 1).take _
  have hil : (((40 :: y).drop 1).take ((40 :: y).length - 2)).length ≤ 600 := td_len _ _ (by assumption)
  have hcut : slc (40 :: y) (some 1) (some (-1)) = ((40 :: y).drop 1).take ((40 :: y).length - 2) := by
    rw [slc_neg _ _ _ (by decide) (by decide), ar_m2 (l := (40 :: y).length) (Nat.succ_pos _), show (1 : Int).toNat = 1 from rfl]
  generalize hinn : ((40 :: y).drop 1).take ((40 :: y).length - 2) = inn at hin hil hcut F
  have hparts := fun p (hp : p ∈ spC 44 inn) => spC_mem p hp
  have hpl := spC_len (s := 44) (x := inn)
  refine go_let ?_; intro vv; refine go_for ok (items := (txts (spC 44 inn)).map .t) (σ := List (Nat × Nat)) ["found"] (fun i rs => rs.length = i ∧ allP ((spC 44 inn).take i) = some rs) (fun _ => [.loc a]) (fun rs => [(a, lets rs)]) ?_ ?_ ?_
  · exact go_slice (k6 hx) hcut (go_split (x := inn) (s := 44) (k6 hil) ⟨(), rfl, trivial, [], ⟨rfl, rfl⟩, rfl, rfl⟩)
  · rintro i yy rs ag hy ⟨hrl, h1⟩ hag
    obtain ⟨p, hp, rfl⟩ : ∃ p, (spC 44 inn)[i]? = some p ∧ yy = .t (.str (S p)) := map_at2 hy
    have hil' := (List.getElem?_eq_some_iff.mp hp).1
    obtain ⟨hp1, hp2⟩ := hparts p (List.mem_of_getElem? hp)
    have hpa : Alp p := fun c hc => hin c (hp2 c hc)
    have hsn := allP_snoc (p := p) (ps := (spC 44 inn).take i)
    have htk : (spC 44 inn).take (i + 1) = (spC 44 inn).take i ++ [p] := by rw [List.take_add_one, hp]; rfl
    rw [← htk, h1, Option.bind_some] at hsn
    have bad : partF p = none → allP (spC 44 inn) = none := fun e => by
      rw [e] at hsn
      have := allP_none (b := (spC 44 inn).drop (i + 1)) hsn
      rwa [List.take_append_drop] at this
    have hel := spC_len (s := 45) (x := p)
    have hea : ∀ e ∈ spC 45 p, Alp e ∧ e.length ≤ 600 := fun e he => ⟨fun c hc => hpa c ((spC_mem e he).2 c hc), by have := (spC_mem e he).1; lia⟩
    have hene := spC_ne 45 p
    unfold partF at hsn bad
    refine go_let ?_; intro vv; refine go_split (x := p) (s := 45) (by lia) ?_
    generalize hes : spC 45 p = es at hsn bad hel hea hene ⊢
    have hel' : (txts es).length ≤ 1000 := by rw [txts_length]; lia
    refine go_let ?_; intro vv; refine go_ask (Nat.le_trans hel' (by decide)) ?_
    by_cases hlen : es.length > 2
    · exact go_t (yes (d_gt (a := (txts es).length) (b := 2) (by rw [txts_length]; exact hlen))) (F.ret (by rw [bad (if_pos (.inl hlen))]; rfl))
    refine go_f (no (d_ngt (a := (txts es).length) (b := 2) (by rw [txts_length]; lia))) ?_
    refine go_let ?_; intro vv; refine go_comp ok W t469c (a469c O) ((txts es).map .t) (fun i out => out = txts ((es.take i).filter fun e => !okEnd e)) rfl ⟨rfl, trivial, rfl⟩ (by rw [List.length_map]; exact Nat.le_trans ‹_› (by decide)) rfl (fun i out h => by rw [h, txts_length]; exact Nat.le_trans (List.length_filter_le _ _) (by rw [List.length_take]; lia)) ?_ ?_
    · rintro j yy out Γ' μ' hy rfl ok' W' -
      obtain ⟨e, hq, rfl⟩ : ∃ e, es[j]? = some e ∧ yy = .t (.str (S e)) := map_at2 hy
      have htk2 : es.take (j + 1) = es.take j ++ [e] := by rw [List.take_add_one, hq]; rfl
      obtain ⟨hee, hel2⟩ := hea e (List.mem_of_getElem? hq)
      have keep : okEnd e = false → txts ((es.take j).filter fun e => !okEnd e) ++ [.str (S e)] = txts ((es.take (j + 1)).filter fun e => !okEnd e) := by
        intro h1
        rw [htk2, List.filter_append, txts_append]
        simp [h1, txts]
      have pass : okEnd e = true → txts ((es.take j).filter fun e => !okEnd e) = txts ((es.take (j + 1)).filter fun e => !okEnd e) := by
        intro h1
        rw [htk2, List.filter_append]
        simp [h1]
      refine go_let ?_; intro vv; refine go_ask (lok6 hel2) ?_
      by_cases h1e : e.length = 1
      · obtain ⟨c, rfl⟩ := len1 h1e
        refine go_let ?_; intro vv; refine go_f (no rfl) ?_
        by_cases hc : c ∈ LET
        · exact go_f (no (by rw [Bool.not_eq_false']; exact d_in hc)) ⟨rfl, pass (by simpa [okEnd] using hc)⟩
        · exact go_t (yes (by rw [Bool.not_eq_true']; exact d_nin hc)) (go_ask rfl ⟨rfl, _, rfl, keep (by simpa [okEnd] using hc)⟩)
      · have hbad : okEnd e = false := okEnd_no h1e
        refine go_let ?_; intro vv; exact go_t (yes (by rw [bne_iff_ne]; exact fun e => h1e (Int.ofNat.inj e))) (go_ask rfl ⟨rfl, _, rfl, keep hbad⟩)
    · rintro out rfl
      rw [List.length_map, txts_length, List.take_length]
      refine go_let ?_; intro vv; refine go_list (go_op (.t (.bool (!(PyData.eqv (.list (txts (es.filter fun e => !okEnd e))) (.list []))))) (fun Q h => S2_ne rfl rfl (sh_txts fun l hl => (hea l (List.mem_filter.mp hl).1).1) sh_nil h) ?_)
      by_cases hbad : es.filter (fun e => !okEnd e) = []
      · refine go_let ?_; intro vv; refine go_f (no (by rw [eqv_nil, hbad]; rfl)) ?_
        have hgood : ∀ e ∈ es, ∃ c, c ∈ LET ∧ e = [c] := fun e he => okEnd_inv (List.filter_eq_nil_iff.mp hbad e he)
        rw [if_neg (by rintro (h | h); exact hlen h; exact h hbad)] at hsn
        obtain ⟨e0, es', rfl⟩ := List.exists_cons_of_ne_nil hene
        obtain ⟨a0, ha0, rfl⟩ := hgood e0 (List.mem_cons_self ..)
        obtain ⟨z, hz2⟩ : ∃ z, ([a0] :: es').getLast? = some z := ⟨_, List.getLast?_eq_some_getLast (by simp)⟩
        obtain ⟨b0, hb0, rfl⟩ := hgood z (List.mem_of_getLast? hz2)
        refine go_ask tyD_head (go_lst (ds := txts ([a0] :: es')) (q := .str (S [a0])) (i := 0) rfl (by decide) (go_tlast (ds := txts ([a0] :: es')) (q := .str (S [b0])) hel' (by rw [txts, List.getLast?_map, hz2]; rfl) ?_))
        refine go_let ?_; intro vv; refine go_app (ds := lets rs) (by rw [lets_length]; lia) (hag (rs ++ [(a0, b0)]) _ _ ⟨by simp [hrl], ?_⟩ rfl (by rw [lets_append]; rfl))
        rw [hsn]
        have : ([a0] :: es').getLastD [] = [b0] := by rw [List.getLastD_eq_getLast?, hz2]; rfl
        rw [this]; rfl
      · refine go_let ?_; intro vv; refine go_t (yes ?_) (F.ret (by rw [bad (if_pos (.inr hbad))]; rfl))
        rw [eqv_nil]
        cases hq : es.filter (fun e => !okEnd e) with
        | nil => exact absurd hq hbad
        | cons => rfl
  · rintro rs ⟨hrl, h1⟩
    rw [List.length_map, txts_length, List.take_length] at h1
    exact go_ask fz (F.ret (by rw [h1]; rfl))
end
end P279
end
section
open PySem PySem.W PyProof.Rows PySem.Spec PySem.Calls PySem.Builtin PySem.Builtin.Str
set_option maxHeartbeats 4000000
namespace P279
theorem fromIx {n lo : Nat} (h : lo ≤ n) : fromIndex n (lo : Int) = lo := by simp [fromIndex]; lia
theorem at_1 {x : List Nat} {c i : Nat} : StrLaws.At (S x) (S [c]) (S x).length i ↔ x[i]? = some c := StrLaws.subAt_one (S x) c i
theorem at_2 {x : List Nat} {c d i : Nat} : StrLaws.At (S x) (S [c, d]) (S x).length i ↔ x[i]? = some c ∧ x[i + 1]? = some d := by
  unfold StrLaws.At
  rw [StrLaws.subAt_eq]
  show i + 2 ≤ x.length ∧ ((x.drop i).take 2 == [c, d]) = true ↔ _
  rw [beq_iff_eq]
  constructor
  · rintro ⟨h, e⟩
    have h0 := congrArg (fun l => l[0]?) e
    have h1 := congrArg (fun l => l[1]?) e
    simpa [List.getElem?_take, List.getElem?_drop] using And.intro h0 h1
  · rintro ⟨h0, h1⟩
    obtain ⟨hi, e0⟩ := List.getElem?_eq_some_iff.mp h0
    obtain ⟨hi1, e1⟩ := List.getElem?_eq_some_iff.mp h1
    refine ⟨by assumption, ?_⟩
    rw [List.drop_eq_getElem_cons hi, List.drop_eq_getElem_cons hi1, e0, e1]; rfl
theorem find3_1 {x : List Nat} {c lo : Nat} (h : lo ≤ x.length) : (Txt.find3 (S x) (S [c]) (lo : Int) = -1 ∧ ∀ j, lo ≤ j → x[j]? ≠ some c) ∨ ∃ k : Nat, Txt.find3 (S x) (S [c]) (lo : Int) = (k : Int) ∧ lo ≤ k ∧ x[k]? = some c ∧ ∀ j, lo ≤ j → j < k → x[j]? ≠ some c := by
  unfold Txt.find3
  rw [show fromIndex (S x).length (lo : Int) = lo from fromIx h]
  rcases StrLaws.occ_head_from (S x) (S [c]) lo 1 (Nat.le_refl 1) with ⟨h0, hn⟩ | ⟨k, r, h0, hl, hk, hn⟩
  · rw [h0]; exact .inl ⟨rfl, fun j hj e => hn j hj (at_1.mpr e)⟩
  · rw [h0]; exact .inr ⟨k, rfl, hl, at_1.mp hk, fun j h1 h2 e => hn j h1 h2 (at_1.mpr e)⟩
theorem find3_2 {x : List Nat} {c d lo : Nat} (h : lo ≤ x.length) : (Txt.find3 (S x) (S [c, d]) (lo : Int) = -1 ∧ ∀ j, lo ≤ j → ¬ (x[j]? = some c ∧ x[j + 1]? = some d)) ∨ ∃ k : Nat, Txt.find3 (S x) (S [c, d]) (lo : Int) = (k : Int) ∧ lo ≤ k ∧ (x[k]? = some c ∧ x[k + 1]? = some d) ∧ ∀ j, lo ≤ j → j < k → ¬ (x[j]? = some c ∧ x[j + 1]? = some d) := by
  unfold Txt.find3
  rw [show fromIndex (S x).length (lo : Int) = lo from fromIx h]
  rcases StrLaws.occ_head_from (S x) (S [c, d]) lo 1 (Nat.le_refl 1) with ⟨h0, hn⟩ | ⟨k, r, h0, hl, hk, hn⟩
  · rw [h0]; exact .inl ⟨rfl, fun j hj e => hn j hj (at_2.mpr e)⟩
  · rw [h0]; exact .inr ⟨k, rfl, hl, at_2.mp hk, fun j h1 h2 e => hn j h1 h2 (at_2.mpr e)⟩
theorem find_0 (x y : Str) : Txt.find x y = Txt.find3 x y ((0 : Nat) : Int) := find_is_find3 x y
theorem find_in {a r : List Nat} {c : Nat} (h : c ∉ a) : Txt.find (S (a ++ c :: r)) (S [c]) = a.length := by
  rw [find_0]
  rcases find3_1 (x := a ++ c :: r) (c := c) (lo := 0) (Nat.zero_le _) with ⟨_, h2⟩ | ⟨k, h1, _, h2, h3⟩
  · exact absurd (by simp) (h2 a.length (Nat.zero_le _))
  · rw [h1]
    congr 1
    rcases Nat.lt_trichotomy k a.length with hk | hk | hk
    · rw [List.getElem?_append_left hk] at h2; exact absurd (List.mem_of_getElem? h2) h
    · exact hk
    · exact absurd (by simp) (h3 a.length (Nat.zero_le _) hk)
theorem find_not {x : List Nat} {c : Nat} (h : c ∉ x) : Txt.find (S x) (S [c]) = -1 := by
  rw [find_0]
  rcases find3_1 (x := x) (c := c) (lo := 0) (Nat.zero_le _) with ⟨h1, _⟩ | ⟨k, _, _, h2, _⟩
  · exact h1
  · exact absurd (List.mem_of_getElem? h2) h
noncomputable def SizeOf (q : Option (PyData × List Nat)) (b : Bool) (d : PyData) (r : List Nat) : Prop :=
  match q with
  | none => b = false
  | some (d', r') => if PyData.eqv d' (.str (S [42])) = true then b = false else b = true ∧ d = d' ∧ r = r'
theorem digVal_pos {ds : List Nat} : (decide (((NumText.digitsVal ds : Nat) : Int) > 0)) = !decide (NumText.digitsVal ds = 0) := by
  by_cases h : NumText.digitsVal ds = 0
  · rw [h]; rfl
  · rw [decide_eq_true (by lia), decide_eq_false h]; rfl
theorem allDigits {l : List Nat} (h : ∀ c ∈ l, c ∈ DIG) : NumText.AllDigits l := by
  have := takeRun_digits l
  rwa [runLen_all h, List.take_length] at this
noncomputable def bads (SG inn : List Nat) : List (List Nat) := (inn.filter fun c => !decide (c ∈ SG)).map fun c => [c]
theorem bads_nil {SG inn : List Nat} : (txts (bads SG inn)).isEmpty = inn.all fun c => decide (c ∈ SG) := by
  unfold bads txts
  induction inn with
  | nil => rfl
  | cons c r ih =>
    by_cases h : c ∈ SG
    · simp [h] at ih ⊢; exact ih
    · simp [h]
noncomputable def sizeV (x : List Nat) : Bool × PyData × List Nat :=
  if x.head? ≠ some 42 then (true, .none, x)
  else if 0 < runLen DIG (x.drop 1) then (!decide (NumText.digitsVal ((x.drop 1).take (runLen DIG (x.drop 1))) = 0), .tuple [.str "int", .int (NumText.digitsVal ((x.drop 1).take (runLen DIG (x.drop 1))) : Nat)], x.drop (1 + runLen DIG (x.drop 1)))
  else if (x.drop 1).head? ≠ some 40 ∨ Txt.find (S x) (S [41]) < 3 then (false, .none, x)
  else if ((x.drop 2).take ((Txt.find (S x) (S [41])).toNat - 2)).all (fun c => decide (c ∈ DIG)) = true then (true, .tuple [.str "int", .int (NumText.digitsVal ((x.drop 2).take ((Txt.find (S x) (S [41])).toNat - 2)) : Nat)], x.drop ((Txt.find (S x) (S [41])).toNat + 1))
  else (decide (((x.drop 2).take ((Txt.find (S x) (S [41])).toNat - 2)).headD 0 ∈ LET) && ((x.drop 2).take ((Txt.find (S x) (S [41])).toNat - 2)).all (fun c => decide (c ∈ LD)) && decide (((x.drop 2).take ((Txt.find (S x) (S [41])).toNat - 2)).length ≤ 6),
    .tuple [.str "name", .str (S ((x.drop 2).take ((Txt.find (S x) (S [41])).toNat - 2)))], x.drop ((Txt.find (S x) (S [41])).toNat + 1))
noncomputable def sizePy (v : Bool × PyData × List Nat) : D := .t (.tuple [.bool v.1, v.2.1, .str (S v.2.2)])
theorem go_else {Γ : Fr} {v : T} (R : Good Γ v.els) (h : Good Γ v.els → Good Γ v) : Good Γ v := h R
theorem n_in {l : List Nat} {n : Nat} (h : n ∈ l) : (!decide (n ∈ (S l).cps.toList)) = false := by rw [d_in h]; rfl
theorem n_nin {l : List Nat} {n : Nat} (h : n ∉ l) : (!decide (n ∈ (S l).cps.toList)) = true := by rw [d_nin h]; rfl
theorem go_bads {Γ : Fr} {sc : List (Str × Ent)} {v : T} (ok : Γ.Ok sc) {G : Cfg} {n : Nat} (W : Wk Γ G n) (sc' : List (Str × Ent)) (hall : AllOk G sc') {SG inn : List Nat} {elt iter : Expr} {x : Str} {px pos : Pos} {ifs : List Expr} {scope : Scope}
    (hv : v.o = .ex (.ListComp elt [⟨.Name x px, iter, ifs, 0⟩] scope pos))
    (h0 : Good Γ (vc sc 99 (.e iter v.m v.mu fun d μ₁ => .done (itItems d = some (inn.map fun n => .t (.str (S [n]))) ∧ itOk d ∧ μ₁ = v.mu)))) (hlen : inn.length ≤ 1000)
    (turn : ∀ n (Γ' : Fr) (μ' : Mut) (P : PyData → Prop) (N : Prop), Γ'.Ok sc' → (n ∈ SG → N) → (n ∉ SG → P (.str (S [n]))) → Good Γ' (T.cturn sc' ifs elt [(x, .t (.str (S [n])))] μ' (fun d => ∃ q, d = .t q ∧ P q) N))
    (g : Good Γ (v.k (.t (.list (txts (bads SG inn)))) v.mu))
    (hk : ∀ env, (relabel scope env).names = kinds sc' := by intro _; rfl) (hdb : sc'.lookup ("__debug__" : Str) = none := by rfl) (hnc : ∀ x, sc'.lookup x = some .cell → False := by exact nocell (by rfl)) (hclos : closureFor scope Γ.c.env = pure [] := by rfl)
    (hx : scope.names.lookup x = some .local := by rfl) (hcell : ∀ y ∈ scope.names, y.2 ≠ .cell := by decide) (hkind : scope.kind = .function := by rfl)
    (hnames : ∀ y ∈ scope.names, y.2 = .local → scope.names.lookup y.1 = some .local := by decide)
    (hs : ∀ x, foldedSetIterable iter Γ.c.env x = pure x := by intro _; rfl) : Good Γ v := by
  refine go_let ?_; intro vv; refine go_comp ok W sc' hall (inn.map fun n => .t (.str (S [n]))) (fun i out => out = txts (bads SG (inn.take i))) hv h0 (by rw [List.length_map]; exact Nat.le_trans ‹_› (by decide)) rfl (fun i out h => ?_) ?_ (fun out h => ?_) hk hdb hnc hclos hx hcell hkind hnames hs
  · rw [h, txts_length]; unfold bads; rw [List.length_map]; exact Nat.le_trans (List.length_filter_le _ _) (by rw [List.length_take]; lia)
  · rintro i y out Γ' μ' hy rfl ok' - -
    obtain ⟨n, hq, rfl⟩ := items_str hy
    have htk2 : inn.take (i + 1) = inn.take i ++ [n] := by rw [List.take_add_one, hq]; rfl
    refine turn n Γ' μ' (fun q => txts (bads SG (inn.take i)) ++ [q] = txts (bads SG (inn.take (i + 1)))) _ ok' (fun hn => ?_) (fun hn => ?_)
    · rw [htk2]; unfold bads; rw [List.filter_append]; simp [hn]
    · rw [htk2]; unfold bads; rw [List.filter_append]; simp [hn, txts]
  · rw [h, List.length_map, List.take_length]; exact g
noncomputable def t474c : List (Str × Ent) := [(".0", .loc), ("sign", .loc), ("_law_digits", .val (.str (S DIG)))]
theorem a474c {G : Cfg} {p : Params} (O : Own G p) : AllOk G t474c := ⟨trivial, trivial, e_law_digits_L O, trivial⟩
noncomputable def t474d : List (Str × Ent) := [(".0", .loc), ("sign", .loc), ("_law_letters", .val (.str (S LET))), ("_law_digits", .val (.str (S DIG)))]
theorem a474d {G : Cfg} {p : Params} (O : Own G p) : AllOk G t474d := ⟨trivial, trivial, e_law_letters_L O, e_law_digits_L O, trivial⟩
section
variable {G : Cfg} {p : Params}
theorem sh_bads {SG inn : List Nat} (h : Alp inn) : SeqAt.shaped (.list (txts (bads SG inn))) = true := sh_txts fun l hl c hc => by
  obtain ⟨d, hd, rfl⟩ := List.mem_map.mp hl
  have := List.mem_singleton.mp hc; subst this
  exact h c (List.mem_filter.mp hd).1
theorem ok_law_size (O : Own G p) {x : List Nat} (hx : x.length ≤ 600) (ha : Alp x) : Ret G 474 [.t (.str (S x))] 2 (some (sizePy (sizeV x))) := by
  refine ret_body O ["text"] t474 (by rfl) (by rfl) (bind1 fun _ => by rfl) rfl (by decide) (by decide) (by decide) (by rfl) (by rfl) (a474 O) (fun Γ kk ok W F => ?_)
  unfold sizeV at F
  refine go_let ?_; intro vv; refine go_slice (k6 hx) (slc_to x 1 (by decide)) ?_
  by_cases h42 : x.head? = some 42
  rotate_left
  · refine go_let ?_; intro vv; refine go_t (yes (s_nt (b := [42]) ?_)) (F.ret (by rw [if_pos h42]; rfl))
    intro e
    have e : x.take 1 = [42] := e
    cases x with
    | nil => cases e
    | cons c y => injection e with e; exact h42 (by rw [e]; rfl)
  refine go_let ?_; intro vv; refine go_f (no (s_nf (b := [42]) ?_)) ?_
  · cases x with
    | nil => cases h42
    | cons c y => cases h42; rfl
  rw [if_neg (fun h => h h42)] at F
  refine go_let ?_; intro vv; refine go_whileC ok (σ := Nat) ["at", "text"] (fun n e => n = x.length - e ∧ e + runLen DIG (x.drop e) = 1 + runLen DIG (x.drop 1)) (fun e => e = 1 + runLen DIG (x.drop 1)) (fun e => [.t (.int e), .t (.str (S x))]) (fun _ => []) ⟨_, 1, ⟨rfl, rfl⟩, rfl, rfl⟩ ?_ ?_
  · rintro n e ag out ⟨rfl, h3⟩ hag hout
    refine go_let ?_; intro vv; refine go_ask (lok6 hx) ?_
    by_cases hlt : e < x.length
    · refine go_let ?_; intro vv; refine go_t (yes (d_lt hlt)) (go_str (List.getElem?_eq_getElem hlt) (by lia) ?_)
      rw [runLen_drop hlt] at h3
      by_cases hin : x[e] ∈ DIG
      · rw [if_pos hin] at h3
        exact go_t (yes (d_in hin)) (hag _ (e + 1) _ _ (Nat.sub_succ_lt_self _ _ hlt) ⟨rfl, by lia⟩ rfl rfl)
      · rw [if_neg hin] at h3
        exact go_f (no (d_nin hin)) (hout e _ _ h3 rfl rfl)
    · rw [List.drop_eq_nil_of_le (Nat.le_of_not_lt hlt)] at h3
      exact go_f (no (d_nlt hlt)) (hout e _ _ h3 rfl rfl)
  · rintro e rfl
    have hkl := runLen_le DIG (x.drop 1)
    rw [List.length_drop] at hkl
    have hdg := takeRun_digits (x.drop 1)
    generalize hk : runLen DIG (x.drop 1) = k at hkl hdg F ⊢
    by_cases hk0 : 0 < k
    · rw [if_pos hk0] at F
      have hsl : slc x (some 1) (some ((1 + k : Nat) : Int)) = (x.drop 1).take k := by
        rw [slc_mid _ _ _ (by decide) (by exact Int.natCast_nonneg _), show (1 : Int).toNat = 1 from rfl, Int.toNat_natCast, Nat.add_sub_cancel_left]
      have hi1 : (x.drop 1).take k ≠ [] := by intro e; have e' := congrArg List.length e; rw [List.length_take, List.length_drop] at e'; simp only [List.length_nil] at e'; lia
      have hi2 : ((x.drop 1).take k).length ≤ 640 := td_len _ _ (Nat.le_trans hx (by decide))
      refine go_let ?_; intro vv; refine go_t (yes (d_gt (a := 1 + k) (b := 1) (by lia))) (go_slice (k6 hx) hsl (go_op _ (fun Q h => SL_int hdg hi1 hi2 h) (go_slice (k6 hx) hsl (go_op _ (fun Q h => SL_int hdg hi1 hi2 h) (go_slice (k6 hx) (slc_from x (1 + k : Nat) (by exact Int.natCast_nonneg _)) (F.ret ?_))))))
      rw [← digVal_pos]; rfl
    rw [if_neg hk0] at F
    refine go_let ?_; intro vv; refine go_f (no (d_ngt (a := 1 + k) (b := 1) (by lia))) (go_op (.t (.int (Txt.find (S x) (S [41])))) (fun Q h => SL_find1 (x := S x) (y := S [41]) h) ?_)
    have hge := find_geG (S x) (S [41])
    have hfs : Txt.find (S x) (S [41]) < (x.length : Int) := by
      rw [find_0]
      rcases find3_1 (x := x) (c := 41) (lo := 0) (Nat.zero_le _) with ⟨h, _⟩ | ⟨k, h, _, h2, _⟩
      · rw [h]; exact Int.natCast_nonneg _
      · rw [h]; have := (List.getElem?_eq_some_iff.mp h2).1; lia
    generalize Txt.find (S x) (S [41]) = e at hge hfs F ⊢
    refine go_let ?_; intro vv; refine go_slice (k6 hx) (y := slc x (some 2) (some e)) rfl (go_slice (k6 hx) (slc_mid x 1 2 (by decide) (by decide)) ?_)
    by_cases h40 : (x.drop 1).head? = some 40
    rotate_left
    · refine go_t (yes (s_nt (b := [40]) ?_)) (F.ret (by rw [if_pos (.inl h40)]; rfl))
      intro e
      have e : (x.drop 1).take 1 = [40] := e
      cases hq : x.drop 1 with
      | nil => rw [hq] at e; cases e
      | cons c l => rw [hq] at e h40; injection e with e; exact h40 (by rw [e]; rfl)
    refine go_f (no (s_nf (b := [40]) ?_)) ?_
    · show (x.drop 1).take 1 = [40]
      cases hq : x.drop 1 with
      | nil => rw [hq] at h40; cases h40
      | cons c l => rw [hq] at h40; cases h40; rfl
    by_cases he3 : e < 3
    · exact go_t (yes (decide_eq_true he3)) (F.ret (by rw [if_pos (.inr he3)]; rfl))
    refine go_f (no (decide_eq_false he3)) ?_
    rw [if_neg (by rintro (h | h); exact h h40; exact he3 h)] at F
    obtain ⟨ee, rfl⟩ : ∃ ee : Nat, e = ee := ⟨e.toNat, by lia⟩
    rw [Int.toNat_natCast] at F
    rw [slc_mid x 2 ee (by decide) (by exact Int.natCast_nonneg _), Int.toNat_natCast, show (2 : Int).toNat = 2 from rfl]
    have hil : ((x.drop 2).take (ee - 2)).length = ee - 2 := by rw [List.length_take, List.length_drop]; exact Nat.min_eq_left (Nat.sub_le_sub_right (Nat.le_of_lt (Int.ofNat_lt.mp hfs)) 2)
    have hia : Alp ((x.drop 2).take (ee - 2)) := (ha.drop 2).take _
    generalize (x.drop 2).take (ee - 2) = inn at hil hia F ⊢
    have hsf : slc x (some ((ee : Int) + 1)) none = x.drop (ee + 1) := by rw [slc_from _ _ (by assumption), show ((ee : Int) + 1).toNat = ee + 1 from rfl]
    obtain ⟨c, i, rfl⟩ : ∃ c i, inn = c :: i := by cases inn with | nil => simp at hil; omega | cons c i => exact ⟨c, i, rfl⟩
    have hil2 : (c :: i).length ≤ 600 := by lia
    refine go_let ?_; intro vv; refine go_opM (.t (.str (S [c]))) [] (fun Q h => SI_strN (x := c :: i) (i := 0) (by decide) rfl h) ?_
    cases hall : (c :: i).all (fun c => decide (c ∈ DIG)) with
    | true =>
      rw [if_pos hall] at F
      have hdd : ∀ d ∈ c :: i, d ∈ DIG := fun d hd => by simpa using List.all_eq_true.mp hall d hd
      refine go_let ?_; intro vv; refine go_t (yes (d_in (hdd c (List.mem_cons_self ..)))) (go_bads ok W t474c (a474c O) (SG := DIG) (inn := c :: i) rfl ⟨rfl, trivial, rfl⟩ (k6 hil2) (fun n Γ' μ' P N ok' h1 h2 => ?_) ?_)
      · by_cases hn : n ∈ DIG
        · exact go_f (no (n_in hn)) ⟨rfl, h1 hn⟩
        · exact go_t (yes (n_nin hn)) (go_ask rfl ⟨rfl, _, rfl, h2 hn⟩)
      refine go_let ?_; intro vv; refine go_list (go_op (.t (.bool (PyData.eqv (.list (txts (bads DIG (c :: i)))) (.list [])))) (fun Q h => S2_eq rfl rfl (sh_bads hia) sh_nil h) (go_t (yes (by rw [eqv_nil, bads_nil]; exact hall)) ?_))
      refine go_let ?_; intro vv; exact go_op _ (fun Q h => SL_int (allDigits hdd) (by simp) (by exact Nat.lt_of_lt_of_le ‹_› (by decide)) h) (go_slice (k6 hx) hsf (F.ret rfl))
    | false =>
      rw [if_neg (by rw [hall]; exact Bool.false_ne_true)] at F
      have F : Fin Γ kk (some (sizePy (decide (c ∈ LET) && (c :: i).all (fun c => decide (c ∈ LD)) && decide ((c :: i).length ≤ 6), .tuple [.str "name", .str (S (c :: i))], x.drop (ee + 1)))) := F
      refine go_let ?_; intro vv; refine go_else ?_ fun R => ?_
      · refine go_let ?_; intro vv; refine go_val ok (.t (.bool (decide (c ∈ LET) && (c :: i).all (fun c => decide (c ∈ LD))))) (fun ag hag => ?_) ?_
        · have hag : Good Γ (ag (.t (.bool (decide (c ∈ LET) && (c :: i).all (fun c => decide (c ∈ LD))))) []) := hag
          refine go_let ?_; intro vv; refine go_str (x := c :: i) (i := 0) rfl (by decide) ?_
          by_cases hc : c ∈ LET
          rotate_left
          · refine go_let ?_; intro vv; refine go_f (no (d_nin hc)) ?_
            rw [decide_eq_false hc] at hag
            exact hag
          rw [decide_eq_true hc, Bool.true_and] at hag
          refine go_let ?_; intro vv; refine go_t (yes (d_in hc)) (go_bads ok W t474d (a474d O) (SG := LD) (inn := c :: i) rfl ⟨rfl, trivial, rfl⟩ (k6 hil2) (fun n Γ' μ' P N ok' h1 h2 => ?_) ?_)
          · refine go_let ?_; intro vv; refine go_add (x := LET) (y := DIG) (by decide) ?_
            by_cases hn : n ∈ LD
            · exact go_f (no (n_in hn)) ⟨rfl, h1 hn⟩
            · exact go_t (yes (n_nin hn)) (go_ask rfl ⟨rfl, _, rfl, h2 hn⟩)
          refine go_let ?_; intro vv; refine go_list (go_op (.t (.bool (PyData.eqv (.list (txts (bads LD (c :: i)))) (.list [])))) (fun Q h => S2_eq rfl rfl (sh_bads hia) sh_nil h) ?_)
          rw [eqv_nil, bads_nil]
          exact hag
        · cases hb : (decide (c ∈ LET) && (c :: i).all (fun c => decide (c ∈ LD))) with
          | false =>
            refine go_let ?_; intro vv; refine go_f (no rfl) (go_slice (k6 hx) hsf (F.ret ?_))
            rw [hb]; rfl
          | true =>
            refine go_let ?_; intro vv; refine go_t (yes rfl) (go_ask (lok6 hil2) (go_slice (k6 hx) hsf (F.ret ?_)))
            dsimp only [List.headD_cons]
            rw [hb, Bool.true_and]
            by_cases h6 : (c :: i).length ≤ 6
            · rw [decide_eq_true h6]
              show some (D.t (.tuple [.bool true, _, _])) = some (D.t (.tuple [.bool (decide (((c :: i).length : Int) ≤ 6)), _, _]))
              rw [decide_eq_true (by lia)]
            · rw [decide_eq_false h6]
              show some (D.t (.tuple [.bool false, _, _])) = some (D.t (.tuple [.bool (decide (((c :: i).length : Int) ≤ 6)), _, _]))
              rw [decide_eq_false (by lia)]
      · conv at R => arg 2; whnf
        by_cases hc : c ∈ DIG
        rotate_left
        · exact go_f (no (d_nin hc)) R
        refine go_let ?_; intro vv; refine go_t (yes (d_in hc)) (go_bads ok W t474c (a474c O) (SG := DIG) (inn := c :: i) rfl ⟨rfl, trivial, rfl⟩ (k6 hil2) (fun n Γ' μ' P N ok' h1 h2 => ?_) ?_)
        · by_cases hn : n ∈ DIG
          · exact go_f (no (n_in hn)) ⟨rfl, h1 hn⟩
          · exact go_t (yes (n_nin hn)) (go_ask rfl ⟨rfl, _, rfl, h2 hn⟩)
        refine go_let ?_; intro vv; exact go_list (go_opM (.t (.bool (PyData.eqv (.list (txts (bads DIG (c :: i)))) (.list [])))) [] (fun Q h => S2_eq rfl rfl (sh_bads hia) sh_nil h) (go_f (no (by rw [eqv_nil, bads_nil]; exact hall)) R))
end
end P279
end
section
open PySem PySem.W PyProof.Rows PySem.Spec PySem.Calls PySem.Builtin PySem.Builtin.Str
set_option maxHeartbeats 4000000
namespace P279
noncomputable def lspS (d : Int) (c : Nat) : Int := d + ((if c = 40 then 1 else 0) - (if c = 41 then 1 else 0))
noncomputable def lsp : Int → List Nat → List Nat → Option (List (List Nat) × Int)
  | d, acc, [] => some ([acc], d)
  | d, acc, c :: r => if lspS d c < 0 then none else if c = 44 ∧ lspS d c = 0 then (lsp (lspS d c) [] r).map (fun q => (acc :: q.1, q.2)) else lsp (lspS d c) (acc ++ [c]) r
noncomputable def ruleL (p : List Nat) : Option Rule := match wordAt WRDS p with
  | none => none
  | some (k, rest) => if k = 5 then match runsF (sizeV rest).2.2 with
      | none => none
      | some ls => if (sizeV rest).1 = true then some (5, (sizeV rest).2.1, ls) else none
    else (runsF rest).map fun ls => (k, .none, ls)
noncomputable def lawR (x : List Nat) : Option (List Rule) := match lsp 0 [] x with
  | none => none
  | some (ps, d) => if 0 < d then none else allR ruleL ps
noncomputable def lawPy (r : Option (List Rule)) : PyData := match r with
  | none => .none
  | some rs => .list (rs.map rulePy)
noncomputable def kindsF (p : List Nat) (n : Nat) : List Nat := (List.range n).filter fun k => match WRDS[k]? with
  | some q => decide (p.take q.1.length = q.1)
  | none => false
theorem kinds_word (p : List Nat) : wordAt WRDS p = match (kindsF p 6).head? with
    | none => none
    | some k => WRDS[k]?.map fun q => (k, p.drop q.1.length) := by
  unfold kindsF
  rw [show List.range 6 = [0, 1, 2, 3, 4, 5] from rfl]
  simp only [WRDS, wordAt, List.filter, List.getElem?_cons_zero, List.getElem?_cons_succ]
  by_cases h0 : p.take 7 = [73,78,84,69,71,69,82] <;> simp [h0]
  by_cases h1 : p.take 4 = [82,69,65,76] <;> simp [h1]
  by_cases h2 : p.take 15 = [68,79,85,66,76,69,80,82,69,67,73,83,73,79,78] <;> simp [h2]
  by_cases h3 : p.take 7 = [67,79,77,80,76,69,88] <;> simp [h3]
  by_cases h4 : p.take 7 = [76,79,71,73,67,65,76] <;> simp [h4]
  by_cases h5 : p.take 9 = [67,72,65,82,65,67,84,69,82] <;> simp [h5]
theorem lsp_len {x : List Nat} : ∀ {d : Int} {acc : List Nat} {ps : List (List Nat)} {e : Int}, lsp d acc x = some (ps, e) → ps.length ≤ x.length + 1 ∧ ps ≠ [] ∧ ∀ p ∈ ps, p.length ≤ acc.length + x.length ∧ ∀ c ∈ p, c ∈ acc ∨ c ∈ x := by
  induction x with
  | nil => intro d acc ps e h; cases h; exact ⟨Nat.le_refl _, nofun, fun p hp => by have := List.mem_singleton.mp hp; subst this; exact ⟨by simp, fun c hc => .inl hc⟩⟩
  | cons c x ih =>
    intro d acc ps e h
    rw [lsp] at h
    split at h
    · cases h
    · split at h
      · cases hq : lsp (lspS d c) [] x with
        | none => rw [hq] at h; cases h
        | some q =>
          obtain ⟨ps', e'⟩ := q
          rw [hq] at h; cases h
          obtain ⟨h1, h2, h3⟩ := ih hq
          refine ⟨by simp; omega, nofun, fun p hp => ?_⟩
          rcases List.mem_cons.mp hp with rfl | hp
          · exact ⟨by simp, fun c hc => .inl hc⟩
          · obtain ⟨q1, q2⟩ := h3 p hp
            refine ⟨by simp at q1 ⊢; lia, fun c' hc' => .inr ?_⟩
            rcases q2 c' hc' with h | h
            · simp at h
            · exact List.mem_cons_of_mem _ h
      · obtain ⟨h1, h2, h3⟩ := ih h
        refine ⟨by simp; lia, h2, fun p hp => ?_⟩
        obtain ⟨q1, q2⟩ := h3 p hp
        refine ⟨by simp at q1 ⊢; lia, fun c' hc' => ?_⟩
        rcases q2 c' hc' with h | h
        · rcases List.mem_append.mp h with h | h
          · exact .inl h
          · simp at h; subst h; exact .inr (List.mem_cons_self ..)
        · exact .inr (List.mem_cons_of_mem _ h)
theorem sizeV_rest (x : List Nat) : ∃ n, (sizeV x).2.2 = x.drop n := by
  unfold sizeV
  split
  · exact ⟨0, rfl⟩
  · split
    · exact ⟨_, rfl⟩
    · split
      · exact ⟨0, rfl⟩
      · split <;> exact ⟨_, rfl⟩
theorem kindsF_succ (p : List Nat) (n : Nat) : kindsF p (n + 1) = kindsF p n ++ (if (match WRDS[n]? with | some q => decide (p.take q.1.length = q.1) | none => false) = true then [n] else []) := by
  unfold kindsF
  rw [List.range_succ, List.filter_append]
  congr 1
  by_cases h : (match WRDS[n]? with | some q => decide (p.take q.1.length = q.1) | none => false) = true
  · rw [if_pos h, List.filter_cons, if_pos h]; rfl
  · rw [if_neg h, List.filter_cons, if_neg h]; rfl
theorem kindsF_mem {p : List Nat} {n k : Nat} (h : k ∈ kindsF p n) : k < n := List.mem_range.mp (List.mem_filter.mp h).1
theorem sh_nts {p : List Nat} : SeqAt.shaped (.list (nts p)) = true := by
  refine (Sh.list (n := 0) fun x hx => ?_).shaped (by decide)
  obtain ⟨l, hl, rfl⟩ := List.mem_map.mp hx
  exact Sh.int
theorem words_get {k : Nat} (h : k < 6) : ∃ wd k', WRDS[k]? = some (wd, k') ∧ (txts (WRDS.map (·.1)))[k]? = some (.str (S wd)) ∧ wd.length ≤ 15 := by
  have : k = 0 ∨ k = 1 ∨ k = 2 ∨ k = 3 ∨ k = 4 ∨ k = 5 := by lia
  rcases this with rfl | rfl | rfl | rfl | rfl | rfl <;> exact ⟨_, _, rfl, rfl, by decide⟩
theorem words_k {k k' : Nat} {wd : List Nat} (h : WRDS[k]? = some (wd, k')) (hk : k < 6) : k' = k := by
  have : k = 0 ∨ k = 1 ∨ k = 2 ∨ k = 3 ∨ k = 4 ∨ k = 5 := by lia
  rcases this with rfl | rfl | rfl | rfl | rfl | rfl <;> (cases h; rfl)
theorem S2_drop {G : Cfg} {c : Act} {m : Loc} {μ : Mut} {t : Value → Value → Sem Value} {a b : D} {Q : D → Mut → Prop} {E : Cl → Mut → Prop} (h : S2 G c t a b m μ (fun d μ₁ => ∃ μ₂, μ₂.Sublist μ₁ ∧ Q d μ₂) E) : S2 G c t a b m μ Q E := fun B s v w I hv hw =>
  (h B s v w I hv hw).settle fun v d μ₁ B₁ s₁ I₁ R h₁ => by
    obtain ⟨μ₂, hs, hq⟩ := h₁
    exact ⟨d, μ₂, B₁, I₁.drop hs, (Trans.refl ..).drop hs, R, hq⟩
noncomputable def t479c : List (Str × Ent) := [(".0", .loc), ("kind", .loc), ("len", .blt "len"), ("_law_words", .val (.tuple (txts (WRDS.map (·.1))))), ("part", .fre)]
theorem a479c {G : Cfg} {p : Params} (O : Own G p) : AllOk G t479c := ⟨trivial, trivial, e_len O, e_law_words_L O, trivial, trivial⟩
section
variable {G : Cfg} {p : Params}
theorem ok_law_rules (O : Own G p) {x : List Nat} (hx : x.length ≤ 600) (ha : Alp x) : Ret G 479 [.t (.str (S x))] 5 (some (.t (lawPy (lawR x)))) := by
  refine retC_body O ["text"] "part" t479 (by rfl) (by rfl) (bind1 fun _ => by rfl) rfl (by decide) (by intro L; rfl) (by decide) (by rfl) (by rfl) (by rfl) (a479 O) (fun Γ kk A fr L hc ok W F => ?_)
  refine go_let ?_; intro vv; refine go_new fun fo hfo => go_new fun pa hpa => ?_
  have hne : pa ≠ fo := by rintro rfl; exact hpa (List.mem_cons_self ..)
  refine go_let ?_; intro vv; refine go_for ok (items := (List.range (((x.length : Int)) - 0).toNat).map fun (k : Nat) => .t (.int (0 + k))) (σ := Nat × Int × List (List Nat)) ["text", "start", "depth", "parts", "found"]
    (fun i s => s.1 ≤ i ∧ i ≤ x.length ∧ s.2.2.length ≤ i ∧ (lsp s.2.1 ((x.drop s.1).take (i - s.1)) (x.drop i)).map (fun q => (s.2.2 ++ q.1, q.2)) = lsp 0 [] x)
    (fun s => [.t (.str (S x)), .t (.int s.1), .t (.int s.2.1), .loc pa, .loc fo]) (fun s => [(pa, txts s.2.2), (fo, [])]) ?_ ?_ ?_
  · refine go_let ?_; intro vv; refine go_ask (lok6 hx) ⟨(), rfl, rng0 (k6 hx), (0, 0, []), ⟨Nat.le_refl _, Nat.zero_le _, Nat.le_refl _, ?_⟩, rfl, rfl⟩
    show (lsp 0 [] x).map _ = _
    cases lsp 0 [] x <;> rfl
  · rintro i y ⟨b, d, ps⟩ ag hy ⟨h1, h2, h3, h5⟩ hag
    obtain ⟨hi, rfl⟩ := items_rng hy
    have hi' : i < x.length := by assumption
    dsimp only at h1 h2 h3 h5 hag
    rw [show (0 : Int) + (i : Int) = ((i : Nat) : Int) by lia]
    have hd := List.drop_eq_getElem_cons hi'
    have hxi := List.getElem?_eq_getElem hi'
    generalize x[i] = c at hd hxi
    rw [hd, lsp] at h5
    refine go_let ?_; intro vv; refine go_val ok (.t (.int ((if c = 40 then 1 else 0) - (if c = 41 then 1 else 0)))) (fun ag hag => ?_) ?_
    · have hag : Good Γ (ag (.t (.int ((if c = 40 then 1 else 0) - (if c = 41 then 1 else 0)))) [(pa, txts ps), (fo, [])]) := hag
      refine go_let ?_; intro vv; refine go_str hxi (by lia) ?_
      by_cases hc : c = 40
      · rw [if_pos hc, if_neg (by lia)] at hag
        exact go_t (yes (c_eq (b := 40) hc)) (go_str hxi (by lia) (go_f (no (c_neq (b := 41) (by lia))) hag))
      · refine go_let ?_; intro vv; refine go_f (no (c_neq (b := 40) hc)) (go_str hxi (by lia) ?_)
        rw [if_neg hc] at hag
        by_cases hc' : c = 41
        · rw [if_pos hc'] at hag
          exact go_t (yes (c_eq (b := 41) hc')) hag
        · rw [if_neg hc'] at hag
          exact go_f (no (c_neq (b := 41) hc')) hag
    by_cases hneg : lspS d c < 0
    · rw [if_pos hneg] at h5
      exact go_t (yes (decide_eq_true hneg)) (F.ret (by unfold lawR; rw [← h5]; rfl))
    rw [if_neg hneg] at h5
    refine go_let ?_; intro vv; refine go_f (no (decide_eq_false hneg)) (go_str hxi (by lia) ?_)
    have nx : ¬ (c = 44 ∧ lspS d c = 0) → b ≤ i + 1 ∧ i + 1 ≤ x.length ∧ ps.length ≤ i + 1 ∧ (lsp (lspS d c) ((x.drop b).take (i + 1 - b)) (x.drop (i + 1))).map (fun q => (ps ++ q.1, q.2)) = lsp 0 [] x := fun hn => by
      rw [if_neg hn, take_succ_snoc h1 hxi] at h5
      exact ⟨by lia, by assumption, by lia, h5⟩
    by_cases h44 : c = 44
    rotate_left
    · refine go_let ?_; intro vv; exact go_f (no (c_neq (b := 44) h44)) (hag (b, lspS d c, ps) _ _ (nx fun h => h44 h.1) rfl rfl)
    refine go_let ?_; intro vv; refine go_t (yes (c_eq (b := 44) h44)) ?_
    by_cases hz : lspS d c = 0
    rotate_left
    · refine go_let ?_; intro vv; exact go_f (no (beq_eq_false_iff_ne.mpr hz)) (hag (b, lspS d c, ps) _ _ (nx fun h => hz h.2) rfl rfl)
    rw [if_pos ⟨h44, hz⟩] at h5
    have hsl : slc x (some (b : Int)) (some (i : Int)) = (x.drop b).take (i - b) := by rw [slc_mid _ _ _ (by exact Int.natCast_nonneg _) (by exact Int.natCast_nonneg _), Int.toNat_natCast, Int.toNat_natCast]
    refine go_t (yes (beq_iff_eq.mpr hz)) (go_ask tyD_head (go_slice (k6 hx) hsl ?_))
    refine go_let ?_; intro vv; refine go_append (ds := txts ps) [(pa, txts ps ++ [.str (S ((x.drop b).take (i - b)))]), (fo, [])] lookup_head (by rw [txts_length]; lia) (upd_head (by simpa using hne)) (hag (i + 1, lspS d c, ps ++ [(x.drop b).take (i - b)]) _ _ ⟨Nat.le_refl _, by assumption, by simp; omega, ?_⟩ rfl (by rw [txts_append]; rfl))
    dsimp only
    rw [← h5, Nat.sub_self, List.take_zero]
    cases lsp (lspS d c) [] (x.drop (i + 1)) <;> simp
  · rintro ⟨b, d, ps⟩ ⟨h1, h2, h3, h5⟩
    dsimp only at h1 h2 h3 h5
    rw [List.length_map, List.length_range, show ((x.length : Int) - 0).toNat = x.length by lia] at h1 h3 h5
    rw [List.drop_length, List.take_of_length_le (by rw [List.length_drop]; lia)] at h5
    have h5 : some (ps ++ [x.drop b], d) = lsp 0 [] x := h5
    obtain ⟨hP1, hP2, hP3⟩ := lsp_len h5.symm
    have hlaw : lawR x = if 0 < d then none else allR ruleL (ps ++ [x.drop b]) := by unfold lawR; rw [← h5]
    have hpart : ∀ p ∈ ps ++ [x.drop b], p.length ≤ 600 ∧ Alp p := fun p hp => by
      obtain ⟨q1, q2⟩ := hP3 p hp
      refine ⟨by simp at q1; exact Nat.le_trans ‹_› ‹_›, fun c hc => ?_⟩
      rcases q2 c hc with h | h
      · simp at h
      · exact ha c h
    rw [hlaw] at F
    generalize hPs : ps ++ [x.drop b] = P at *
    refine go_let ?_; intro vv; refine go_for ok (items := (txts P).map .t) (σ := List Rule) ["found", "depth"] (fun i rs => rs.length = i ∧ allR ruleL (P.take i) = some rs ∧ (0 < i → d ≤ 0)) (fun _ => [.loc fo, .t (.int d)]) (fun rs => [(fo, rs.map rulePy)]) ?_ ?_ ?_
    · refine go_let ?_; intro vv; refine go_flist ok (go_slice (k6 hx) (slc_from x b (by exact Int.natCast_nonneg _)) (go_opM (.t (.list (txts P))) [(fo, [])] (fun Q h => S2_drop (S2_addL (d := .loc pa) (e := .t (.list (txts [x.drop b]))) (ds := txts ps) (es := txts [x.drop b]) lookup_head rfl (by rw [txts_length, txts_length]; simp; lia) ⟨_, List.Sublist.cons _ (List.Sublist.refl _), by rw [← txts_append, hPs]; exact h⟩)) ?_))
      exact ⟨(), rfl, trivial, [], ⟨rfl, rfl, fun h => absurd h (Nat.lt_irrefl _)⟩, rfl, rfl⟩
    · rintro i y rs ag hy ⟨hrl, h1, hd0⟩ hag
      obtain ⟨p, hp, rfl⟩ : ∃ p, P[i]? = some p ∧ y = .t (.str (S p)) := map_at2 hy
      have hiP := (List.getElem?_eq_some_iff.mp hp).1
      obtain ⟨hp1, hp2⟩ := hpart p (List.mem_of_getElem? hp)
      have htk : P.take (i + 1) = P.take i ++ [p] := by rw [List.take_add_one, hp]; rfl
      have hs := allR_snoc (R := ruleL) (p := p) (ps := P.take i)
      rw [h1, Option.bind_some, ← htk] at hs
      have bad : ruleL p = none → (if 0 < d then none else allR ruleL P) = none := fun e => by
        rw [e] at hs
        have := allR_none (b := P.drop (i + 1)) hs
        rw [List.take_append_drop] at this
        rw [this]; split <;> rfl
      have hkw := kinds_word p
      refine go_let ?_; intro vv; refine go_asgComp ok W [(("part" : Str), L + 1)] [(("part" : Str), .t (.str (S p)))] t479c (a479c O) ((List.range ((6 : Int) - 0).toNat).map fun (k : Nat) => .t (.int ((0 : Int) + k))) (fun i out => out = nts (kindsF p i)) rfl (by rfl) ⟨rfl, rng_ok (by decide) (by decide) (by decide) (by decide), rfl⟩ (by decide) rfl (fun i out h => ?_) ?_ ?_ (by rw [hc]; rfl) (.inr (by rw [hc]; rfl)) (fun y d' h => ?_) (by rw [hc]; rfl) (by rfl) (nocell (by rfl)) (by rw [hc]; rfl)
      · rw [h, nts_length]; unfold kindsF; exact Nat.le_trans (List.length_filter_le _ _) (Nat.le_of_eq List.length_range)
      · rintro k z out Γ' μ' hz rfl ok' - -
        obtain ⟨hk6, rfl⟩ := items_rng (lo := 0) (hi := 6) hz
        rw [show (0 : Int) + (k : Int) = ((k : Nat) : Int) by lia]
        have hk6 : k < 6 := hk6
        obtain ⟨wd, k', hwd, hwt, hwl⟩ := words_get hk6
        have hks := kindsF_succ p k
        rw [hwd] at hks
        have hcut : slc p none (some (wd.length : Int)) = p.take wd.length := by rw [slc_to _ _ (by exact Int.natCast_nonneg _)]; rfl
        refine go_let ?_; intro vv; refine go_ask (lok6 hp1) (go_tup (i := k) hwt (by exact Nat.lt_of_lt_of_le ‹_› (by decide)) (go_ask (Nat.le_trans hwl (by decide)) (go_cut hcut (go_tup (i := k) hwt (by exact Nat.lt_of_lt_of_le ‹_› (by decide)) ?_))))
        by_cases hw : p.take wd.length = wd
        · refine go_let ?_; intro vv; refine go_t (yes (s_eq hw)) (go_ask rfl ⟨rfl, _, rfl, ?_⟩)
          rw [hks, if_pos (by simpa using hw)]
          unfold nts; rw [List.map_append]; rfl
        · refine go_let ?_; intro vv; refine go_f (no (s_neq hw)) ⟨rfl, ?_⟩
          rw [hks, if_neg (by simpa using hw), List.append_nil]
      rotate_left
      · simp only [Loc.get] at h
        split at h
        · rename_i e; subst e; cases h; exact ⟨rfl, by rw [hc]; rfl, by rw [hc]; rfl, by rw [hc]; rfl⟩
        · cases h
      · rintro out l rfl
        rw [List.length_map, List.length_range]
        have hmem := fun k => kindsF_mem (p := p) (n := 6) (k := k)
        show Good Γ (T.ks _ .next ((("kinds" : Str), .t (.list (nts (kindsF p 6)))) :: _) _)
        generalize kindsF p 6 = ks at hmem hkw ⊢
        refine go_let ?_; intro vv; refine go_list (go_op (.t (.bool (PyData.eqv (.list (nts ks)) (.list [])))) (fun Q h => S2_eq rfl rfl sh_nts sh_nil h) ?_)
        cases ks with
        | nil => exact go_t (yes (by rw [eqv_nil]; rfl)) (F.ret (by rw [bad (by unfold ruleL; rw [hkw]; rfl)]; rfl))
        | cons k ks =>
          refine go_let ?_; intro vv; refine go_f (no (by rw [eqv_nil]; rfl)) ?_
          by_cases hdp : 0 < d
          · exact go_t (yes (decide_eq_true hdp)) (F.ret (by rw [if_pos hdp]; rfl))
          refine go_let ?_; intro vv; refine go_f (no (decide_eq_false hdp)) ?_
          have hk6 := hmem k (List.mem_cons_self ..)
          obtain ⟨wd, k', hwd, hwt, hwl⟩ := words_get hk6
          rw [List.head?_cons] at hkw
          dsimp only at hkw
          rw [hwd, Option.map_some] at hkw
          cases words_k hwd hk6
          have hk0 : (nts (k :: ks))[0]? = some (.int k) := rfl
          have hcut : slc p (some (wd.length : Int)) none = p.drop wd.length := by rw [slc_from _ _ (by exact Int.natCast_nonneg _)]; rfl
          refine go_let ?_; intro vv; refine go_ask (lok6 hp1) (go_lst (i := 0) hk0 (by decide) (go_tup (i := k) hwt (by exact Nat.lt_of_lt_of_le ‹_› (by decide)) (go_ask (Nat.le_trans hwl (by decide)) (go_cut hcut ?_))))
          have hrl2 : (p.drop wd.length).length ≤ 600 := by rw [List.length_drop]; lia
          have hra2 := hp2.drop wd.length
          generalize p.drop wd.length = rest at hkw hrl2 hra2 ⊢
          have hrule : ruleL p = if k = 5 then match runsF (sizeV rest).2.2 with
              | none => none
              | some ls => if (sizeV rest).1 = true then some (5, (sizeV rest).2.1, ls) else none
            else (runsF rest).map fun ls => (k, .none, ls) := by unfold ruleL; rw [hkw]
          refine go_let ?_; intro vv; refine go_fork ok (σ := Bool × PyData × List Nat) ["is_right", "length", "left", "kinds", "found", "depth"] (fun s => s.2.2.length ≤ 600 ∧ Alp s.2.2 ∧ ruleL p = (match runsF s.2.2 with | none => none | some ls => if s.1 = true then some (k, s.2.1, ls) else none)) (fun s => [.t (.bool s.1), .t s.2.1, .t (.str (S s.2.2)), .t (.list (nts (k :: ks))), .loc fo, .t (.int d)]) (fun s => [(fo, rs.map rulePy)]) (fun ag hag => go_lst (i := 0) hk0 (by decide) ?_) ?_
          · by_cases hk5 : k = 5
            · rw [if_pos hk5] at hrule
              refine go_let ?_; intro vv; refine go_t (yes (d_eq (b := 5) hk5)) (go_call (ok_law_size O hrl2 hra2) W ?_)
              obtain ⟨nn, hnn⟩ := sizeV_rest rest
              exact hag ((sizeV rest).1, (sizeV rest).2.1, (sizeV rest).2.2) _ _ ⟨by rw [hnn, List.length_drop]; lia, by rw [hnn]; exact hra2.drop _, by rw [hrule, hk5]⟩ rfl rfl
            · rw [if_neg hk5] at hrule
              exact go_f (no (d_neq (b := 5) hk5)) (hag (true, .none, rest) _ _ ⟨hrl2, hra2, by rw [hrule]; cases runsF rest <;> rfl⟩ rfl rfl)
          · rintro ⟨bb, dd, ll⟩ ⟨hll, hla, hru⟩
            dsimp only at hll hla hru
            refine go_let ?_; intro vv; refine go_call (ok_law_runs O hll hla) W ?_
            cases hrun : runsF ll with
            | none =>
              rw [hrun] at hru
              exact go_t (yes rfl) (F.ret (by rw [bad hru]; rfl))
            | some ls =>
              rw [hrun] at hru
              dsimp only at hru
              refine go_let ?_; intro vv; refine go_f (no rfl) ?_
              cases bb with
              | false => exact go_f (no rfl) (F.ret (by rw [bad hru]; rfl))
              | true =>
                rw [if_pos rfl] at hru
                rw [hru] at hs
                refine go_let ?_; intro vv; exact go_t (yes rfl) (go_ask tyD_head (go_lst (i := 0) hk0 (by decide) (go_app (ds := rs.map rulePy) (q := rulePy (k, dd, ls)) (by rw [List.length_map]; lia) (hag (rs ++ [(k, dd, ls)]) _ _ ⟨by simp [hrl], hs, fun _ => by lia⟩ rfl (by rw [List.map_append]; rfl)))))
    · rintro rs ⟨hrl, h1, hd0⟩
      rw [List.length_map, txts_length, List.take_length] at h1
      rw [List.length_map, txts_length] at hd0
      rw [if_neg (by have := hd0 (List.length_pos_iff.mpr hP2); lia), h1] at F
      exact go_ask fz (F.ret rfl)
end
end P279
end
section
open PySem PySem.W PyProof.Rows PySem.Spec PySem.Calls PySem.Builtin PySem.Builtin.Str
set_option maxHeartbeats 4000000
namespace P279
noncomputable def inn (r : List Nat) : List Nat := if 41 ∈ r then r.takeWhile (· ≠ 41) else []
noncomputable def okD : List Nat → Bool
  | [] => true
  | c :: i => !decide (c ∈ DIG) || (c :: i).all (fun c => decide (c ∈ DIG))
noncomputable def okI (i : List Nat) : Bool := (i.all (fun c => decide (c ∈ LD)) || i == [42]) && okD i
noncomputable def okAt (x : List Nat) (k : Nat) : Bool := !(x[k]? == some 42 && x[k + 1]? == some 40) || okI (inn (x.drop (k + 2)))
noncomputable def simpleB (x : List Nat) : Bool := (List.range x.length).all (okAt x)
theorem okAt_no {x : List Nat} {k : Nat} (h : ¬ (x[k]? = some 42 ∧ x[k + 1]? = some 40)) : okAt x k = true := by
  unfold okAt
  have : (x[k]? == some 42 && x[k + 1]? == some 40) = false := by
    rw [← Bool.not_eq_true, Bool.and_eq_true, beq_iff_eq, beq_iff_eq]; exact h
  rw [this]; rfl
theorem okAt_yes {x : List Nat} {k : Nat} (h : x[k]? = some 42 ∧ x[k + 1]? = some 40) : okAt x k = okI (inn (x.drop (k + 2))) := by
  unfold okAt
  rw [h.1, h.2]; rfl
theorem simpleB_true {x : List Nat} (h : ∀ k, k < x.length → okAt x k = true) : simpleB x = true := List.all_eq_true.mpr fun k hk => h k (List.mem_range.mp hk)
theorem simpleB_false {x : List Nat} {k : Nat} (hk : k < x.length) (h : okAt x k = false) : simpleB x = false := by
  rw [← Bool.not_eq_true]
  intro e
  have := List.all_eq_true.mp e k (List.mem_range.mpr hk)
  rw [h] at this; cases this
theorem takeWhile_at {r : List Nat} : ∀ {k : Nat}, r[k]? = some 41 → (∀ j, j < k → r[j]? ≠ some 41) → r.takeWhile (· ≠ 41) = r.take k := by
  induction r with
  | nil => intro k h; simp at h
  | cons c r ih =>
    intro k h hn
    cases k with
    | zero => simp at h; subst h; rfl
    | succ k =>
      have hc : c ≠ 41 := by have := hn 0 (by lia); simpa using this
      rw [List.takeWhile_cons, if_pos (by simpa using hc), List.take_succ_cons]
      rw [ih (k := k) (by simpa using h) fun j hj => by have := hn (j + 1) (by lia); simpa using this]
theorem inn_alp {r : List Nat} (h : Alp r) : Alp (inn r) := by
  unfold inn
  split
  · exact fun c hc => h c ((List.takeWhile_prefix _).subset hc)
  · exact fun c hc => by simp at hc
theorem inn_len {r : List Nat} : (inn r).length ≤ r.length := by
  unfold inn
  split
  · exact (List.takeWhile_prefix _).length_le
  · simp
noncomputable def simAt (x : List Nat) (e : Int) (lo : Nat) : Prop := (e = -1 ∧ ∀ k, k < x.length → okAt x k = true) ∨ ∃ k : Nat, e = k ∧ lo ≤ k ∧ k < x.length ∧ (x[k]? = some 42 ∧ x[k + 1]? = some 40) ∧ ∀ j, j < k → okAt x j = true
theorem sim_look {x : List Nat} {lo : Nat} (hlo : lo ≤ x.length) (hj : ∀ j, j < lo → okAt x j = true) : simAt x (Txt.find3 (S x) (S [42, 40]) (lo : Int)) lo := by
  rcases find3_2 (x := x) (c := 42) (d := 40) hlo with ⟨h1, h2⟩ | ⟨k, h1, h2, h3, h4⟩
  · refine .inl ⟨h1, fun k hk => ?_⟩
    by_cases hk2 : k < lo
    · exact hj k hk2
    · exact okAt_no (h2 k (by lia))
  · refine .inr ⟨k, h1, h2, (List.getElem?_eq_some_iff.mp h3.1).1, h3, fun j hjk => ?_⟩
    by_cases hk2 : j < lo
    · exact hj j hk2
    · exact okAt_no (h4 j (by lia) hjk)
theorem inn_find {x : List Nat} {k : Nat} (hkx : k < x.length) (hk : x[k]? = some 42 ∧ x[k + 1]? = some 40) : (Txt.find3 (S x) (S [41]) (k : Int) = -1 ∧ inn (x.drop (k + 2)) = []) ∨ ∃ j : Nat, Txt.find3 (S x) (S [41]) (k : Int) = j ∧ slc x (some ((k : Int) + 2)) (some j) = inn (x.drop (k + 2)) := by
  rcases find3_1 (x := x) (c := 41) (lo := k) (by exact Nat.le_of_lt ‹_›) with ⟨h1, h2⟩ | ⟨j, h1, h2, h3, h4⟩
  · refine .inl ⟨h1, ?_⟩
    have : 41 ∉ x.drop (k + 2) := by
      intro hm
      obtain ⟨i, hi⟩ := List.mem_iff_getElem?.mp hm
      rw [List.getElem?_drop] at hi
      exact h2 (k + 2 + i) (by lia) hi
    unfold inn; rw [if_neg this]
  · refine .inr ⟨j, h1, ?_⟩
    rw [slc_mid _ _ _ (by exact Int.natCast_nonneg _) (by exact Int.natCast_nonneg _), show ((k : Int) + 2).toNat = k + 2 by lia, Int.toNat_natCast]
    have hj2 : k + 2 ≤ j := by
      rcases Nat.lt_or_ge j (k + 2) with hh | hh
      · have : j = k ∨ j = k + 1 := by lia
        rcases this with rfl | rfl
        · rw [hk.1] at h3; cases h3
        · rw [hk.2] at h3; cases h3
      · exact hh
    have hm : (x.drop (k + 2))[j - (k + 2)]? = some 41 := by rw [List.getElem?_drop, show k + 2 + (j - (k + 2)) = j by omega]; exact h3
    unfold inn
    rw [if_pos (List.mem_of_getElem? hm), takeWhile_at hm]
    intro i hi
    rw [List.getElem?_drop]
    exact h4 _ (by lia) (by omega)
section
variable {G : Cfg} {p : Params}
theorem ok_law_simple (O : Own G p) {x : List Nat} (hx : x.length ≤ 600) (ha : Alp x) : Ret G 484 [.t (.str (S x))] 2 (some (.t (.bool (simpleB x)))) := by
  refine ret_body O ["text"] t484 (by rfl) (by rfl) (bind1 fun _ => by rfl) rfl (by decide) (by decide) (by decide) (by rfl) (by rfl) (a484 O) (fun Γ kk ok W F => ?_)
  have h0 := sim_look (x := x) (Nat.zero_le _) (fun j hj => absurd hj (Nat.not_lt_zero _))
  refine go_let ?_; intro vv; refine go_op (.t (.int (Txt.find3 (S x) (S [42, 40]) ((0 : Nat) : Int)))) (fun Q h => SL_find1 (x := S x) (y := S [42, 40]) (by rw [find_0]; exact h)) ?_
  generalize Txt.find3 (S x) (S [42, 40]) ((0 : Nat) : Int) = e at h0 ⊢
  refine go_let ?_; intro vv; refine go_while ok (σ := Int × Nat) ["text", "at"] (fun n s => simAt x s.1 s.2 ∧ n = x.length + 1 - s.2 ∧ s.2 ≤ x.length) (fun s => [.t (.str (S x)), .t (.int s.1)]) (fun _ => []) ⟨_, (e, 0), ⟨h0, rfl, Nat.zero_le _⟩, rfl, rfl⟩ ?_
  rintro n ⟨e, lo⟩ ag ⟨hAt, rfl, hlo⟩ hag
  dsimp only at hAt hlo hag
  rcases hAt with ⟨rfl, hall⟩ | ⟨k, rfl, hlk, hkx, hk, hbef⟩
  · exact go_f (no rfl) (F.ret (by rw [simpleB_true hall]))
  refine go_let ?_; intro vv; refine go_t (yes (decide_eq_true (by exact Int.natCast_nonneg _))) ?_
  have hoky := okAt_yes hk
  have hia := inn_alp (ha.drop (k + 2))
  have hil : (inn (x.drop (k + 2))).length ≤ 600 := by have := inn_len (r := x.drop (k + 2)); rw [List.length_drop] at this; omega
  have hsp := inn_find hkx hk
  have hnx := fun (hok : okAt x k = true) => sim_look (x := x) (lo := k + 1) (by assumption) (fun j hj => by
    by_cases hjk : j = k
    · rw [hjk]; exact hok
    · exact hbef j (by lia))
  refine go_let ?_; intro vv; refine go_op (.t (.int (Txt.find3 (S x) (S [41]) (k : Int)))) (fun Q h => SL_find3 (x := S x) (y := S [41]) h) ?_
  generalize Txt.find3 (S x) (S [41]) (k : Int) = e at hsp ⊢
  refine go_let ?_; intro vv; refine go_val ok (.t (.str (S (inn (x.drop (k + 2)))))) (fun ag' hag' => ?_) ?_
  · replace hag' : Good Γ (ag' (.t (.str (S (inn (x.drop (k + 2)))))) []) := hag'
    rcases hsp with ⟨rfl, h1⟩ | ⟨j, rfl, h1⟩
    · rw [h1, ← S_nil] at hag'
      exact go_f (no rfl) hag'
    · exact go_t (yes (decide_eq_true (by exact Int.natCast_nonneg _))) (go_slice (k6 hx) h1 hag')
  generalize inn (x.drop (k + 2)) = i at hoky hia hil ⊢
  have bad : okI i = false → simpleB x = false := fun h => simpleB_false hkx (by rw [hoky, h])
  have good : okI i = true → simAt x (Txt.find3 (S x) (S [42, 40]) ((k : Int) + 1)) (k + 1) := fun h => hnx (by rw [hoky, h])
  have hkn : x.length + 1 - (k + 1) < x.length + 1 - lo := by omega
  generalize he2 : Txt.find3 (S x) (S [42, 40]) ((k : Int) + 1) = e2 at good
  refine go_let ?_; intro vv; refine go_bads ok W t474d (a474d O) (SG := LD) (inn := i) rfl ⟨rfl, trivial, rfl⟩ (k6 hil) (fun n Γ' μ' P N ok' h1 h2 => go_add (x := LET) (y := DIG) (by decide) ?_) (go_list (go_op (.t (.bool (!(PyData.eqv (.list (txts (bads LD i))) (.list []))))) (fun Q h => S2_ne rfl rfl (sh_bads hia) sh_nil h) ?_))
  · by_cases hn : n ∈ LD
    · exact go_f (no (n_in hn)) ⟨rfl, h1 hn⟩
    · exact go_t (yes (n_nin hn)) (go_ask rfl ⟨rfl, _, rfl, h2 hn⟩)
  rw [eqv_nil, bads_nil]
  cases hf : (i.all (fun c => decide (c ∈ LD)) || i == [42]) with
  | false =>
    rw [Bool.or_eq_false_iff] at hf
    refine go_let ?_; intro vv; refine go_t (yes (by rw [hf.1]; rfl)) (go_t (yes (s_nt (b := [42]) (beq_eq_false_iff_ne.mp hf.2))) (F.ret (by rw [bad (by unfold okI; rw [hf.1, hf.2]; rfl)])))
  | true =>
    refine go_let ?_; intro vv; refine go_else ?_ fun R => ?_
    · cases i with
      | nil =>
        refine go_let ?_; intro vv; refine go_slice (k6 hil) (slc_to [] 1 (by decide)) (go_op (.t (.bool true)) (fun Q h => S2_inS_nil h) (go_t (yes rfl) ?_))
        refine go_let ?_; intro vv; refine go_bads ok W t474c (a474c O) (SG := DIG) (inn := []) rfl ⟨rfl, trivial, rfl⟩ (by decide) (fun n Γ' μ' P N ok' h1 h2 => ?_) (go_list (go_op (.t (.bool false)) (fun Q h => S2_ne rfl rfl (sh_bads hia) sh_nil h) (go_f (no rfl) ?_)))
        · by_cases hn : n ∈ DIG
          · exact go_f (no (n_in hn)) ⟨rfl, h1 hn⟩
          · exact go_t (yes (n_nin hn)) (go_ask rfl ⟨rfl, _, rfl, h2 hn⟩)
        refine go_let ?_; intro vv; exact go_op (.t (.int e2)) (fun Q h => SL_find3 (x := S x) (y := S [42, 40]) (by rw [he2]; exact h)) (hag _ (e2, k + 1) _ _ hkn ⟨good rfl, rfl, by assumption⟩ rfl rfl)
      | cons c i =>
        refine go_let ?_; intro vv; refine go_slice (k6 hil) (slc_to (c :: i) 1 (by decide)) ?_
        by_cases hc : c ∈ DIG
        rotate_left
        · refine go_let ?_; intro vv; exact go_f (no (d_nin hc)) (go_op (.t (.int e2)) (fun Q h => SL_find3 (x := S x) (y := S [42, 40]) (by rw [he2]; exact h)) (hag _ (e2, k + 1) _ _ hkn ⟨good (by unfold okI; rw [hf, okD, decide_eq_false hc]; rfl), rfl, by assumption⟩ rfl rfl))
        refine go_let ?_; intro vv; refine go_t (yes (d_in hc)) (go_bads ok W t474c (a474c O) (SG := DIG) (inn := c :: i) rfl ⟨rfl, trivial, rfl⟩ (k6 hil) (fun n Γ' μ' P N ok' h1 h2 => ?_) (go_list (go_op (.t (.bool (!(PyData.eqv (.list (txts (bads DIG (c :: i)))) (.list []))))) (fun Q h => S2_ne rfl rfl (sh_bads hia) sh_nil h) ?_)))
        · by_cases hn : n ∈ DIG
          · exact go_f (no (n_in hn)) ⟨rfl, h1 hn⟩
          · exact go_t (yes (n_nin hn)) (go_ask rfl ⟨rfl, _, rfl, h2 hn⟩)
        rw [eqv_nil, bads_nil]
        cases hall : (c :: i).all (fun c => decide (c ∈ DIG)) with
        | true => refine go_let ?_; intro vv; exact go_f (no rfl) (go_op (.t (.int e2)) (fun Q h => SL_find3 (x := S x) (y := S [42, 40]) (by rw [he2]; exact h)) (hag _ (e2, k + 1) _ _ hkn ⟨good (by unfold okI; rw [hf, okD, hall, Bool.or_true]; rfl), rfl, by assumption⟩ rfl rfl))
        | false => exact go_t (yes rfl) (F.ret (by rw [bad (by unfold okI; rw [okD, hall, decide_eq_true hc]; exact Bool.and_false _)]))
    · conv at R => arg 2; whnf
      by_cases hld : i.all (fun c => decide (c ∈ LD)) = true
      · exact go_f (no (by rw [hld]; rfl)) R
      · rw [Bool.not_eq_true] at hld
        exact go_t (yes (by rw [hld]; rfl)) (go_f (no (s_nf (b := [42]) (by rw [hld] at hf; exact eq_of_beq hf))) R)
end
end P279
end
section
open PySem PySem.W PyProof.Rows PySem.Spec PySem.Calls PySem.Builtin PySem.Builtin.Str
set_option maxHeartbeats 4000000
namespace P279
noncomputable def toldIn (T : List Bool) (lo n : Nat) : List Nat := ((List.range n).filter fun j => T[lo + j]? == some true).map fun j => lo + j
theorem toldIn_succ (T : List Bool) (lo n : Nat) : toldIn T lo (n + 1) = toldIn T lo n ++ (if (T[lo + n]? == some true) = true then [lo + n] else []) := by
  unfold toldIn
  rw [List.range_succ, List.filter_append, List.map_append]
  congr 1
  by_cases h : (T[lo + n]? == some true) = true
  · rw [if_pos h, List.filter_cons, if_pos h]; rfl
  · rw [if_neg h, List.filter_cons, if_neg h]; rfl
theorem toldIn_empty (T : List Bool) (lo n : Nat) : (nts (toldIn T lo n)).isEmpty = !anyT T lo n := by
  induction n with
  | zero => rfl
  | succ n ih =>
    rw [toldIn_succ]
    have hs : anyT T lo (n + 1) = (anyT T lo n || (T[lo + n]? == some true)) := by unfold anyT; rw [List.range_succ, List.any_append]; simp
    rw [hs, Bool.not_or, ← ih]
    generalize toldIn T lo n = l
    by_cases h : (T[lo + n]? == some true) = true
    · rw [if_pos h, h]; cases l <;> simp [nts]
    · rw [if_neg h]; simp only [Bool.not_eq_true] at h; rw [h]; simp
theorem toldIn_len (T : List Bool) (lo n : Nat) : (toldIn T lo n).length ≤ n := by
  unfold toldIn
  rw [List.length_map]
  exact Nat.le_trans (List.length_filter_le _ _) (Nat.le_of_eq List.length_range)
theorem go_index {Γ : Fr} {v : T} {c : Nat} (hc : c ∈ LET) (g : Good Γ (v.k (.t (.int ((c - 65 : Nat) : Int))) v.mu)) (e : v.o = .blt "str.index" [.t (.str (S LET)), .t (.str (S [c]))] := by exact rfl) : Good Γ v :=
  go_op _ (fun Q h => by rw [e]; exact SL_index (by rw [let_find c hc]; exact Int.natCast_nonneg _) (by rw [let_find c hc]; exact h)) g
noncomputable def t489c : List (Str × Ent) := [(".0", .loc), ("place", .loc), ("told", .fre)]
section
variable {G : Cfg} {p : Params}
theorem ok_law_add (O : Own G p) {o t : Addr} {s : St} {rs : List Rule} (hot : o ≠ t) (hs : s.ok) (hls : Letters rs) :
    CallOK G 489 [.loc o, .loc t, .t (.list (rs.map rulePy))] (stMu t o s) 3
      (fun d μ' => ∃ s' ok, addAll (flat rs) s = (s', ok) ∧ d = .t (.bool ok) ∧ μ' = stMu t o s') (fun _ _ => False) := by
  refine callC_body O ["own", "told", "rules"] "told" t489 (by rfl) (by rfl) (bind3 fun _ _ _ => by rfl) rfl (by decide) (by intro L; rfl) (by decide) (by rfl) (by rfl) (by rfl) (a489 O) (fun Γ kk A fr L hc ok W hQ hE => ?_)
  refine go_let ?_; intro vv; refine go_for ok (items := (rs.map rulePy).map .t) (σ := St) ["own", "told"] (fun i s' => addAll (flat (rs.take i)) s = (s', true)) (fun _ => [.loc o, .loc t]) (fun s' => stMu t o s') ⟨(), rfl, trivial, s, rfl, rfl, rfl⟩ ?_ ?_
  · rintro i y s1 ag hy h1 hag
    obtain ⟨⟨k, d, ls⟩, hq, rfl⟩ : ∃ q, rs[i]? = some q ∧ y = .t (rulePy q) := map_at2 hy
    have hlet := hls _ (List.mem_of_getElem? hq)
    have hs1 : s1.ok := by have := addAll_len (a := flat (rs.take i)) hs; rw [h1] at this; exact this
    have hfull := flat_at hq
    have htake := flat_take hq
    refine go_let ?_; intro vv; refine go_for ok (items := (lets ls).map .t) (σ := St) ["own", "told", "kind", "length"] (fun j s' => addAll (flat (rs.take i) ++ (ls.take j).map fun p => (.tuple [.int k, d], p)) s = (s', true)) (fun _ => [.loc o, .loc t, .t (.int k), .t d]) (fun s' => stMu t o s') ⟨(), rfl, trivial, s1, by simpa using h1, rfl, rfl⟩ ?_ ?_
    · rintro j y s2 ag' hy h2 hag'
      obtain ⟨⟨a, b⟩, hp, rfl⟩ : ∃ q : Nat × Nat, ls[j]? = some q ∧ y = .t (.tuple [.str (S [q.1]), .str (S [q.2])]) := map_at2 hy
      obtain ⟨ha, hb⟩ := hlet _ (List.mem_of_getElem? hp)
      have hs2 : s2.ok := by have := addAll_len (a := flat (rs.take i) ++ (ls.take j).map fun p => (.tuple [.int k, d], p)) hs; rw [h2] at this; exact this
      obtain ⟨ra, ra'⟩ := let_range ha
      obtain ⟨rb, rb'⟩ := let_range hb
      dsimp only at ra ra' rb rb'
      have hlt : ls.take (j + 1) = ls.take j ++ [(a, b)] := by rw [List.take_add_one, hp]; rfl
      have fail : tellS (.tuple [.int k, d]) (a, b) s2 = none → addAll (flat rs) s = (s2, false) := by
        intro ht
        rw [hfull]
        have hsp : ls = ls.take j ++ (a, b) :: ls.drop (j + 1) := by
          obtain ⟨hj, e⟩ := List.getElem?_eq_some_iff.mp hp
          rw [← e, ← List.drop_eq_getElem_cons hj, List.take_append_drop]
        conv => lhs; rw [hsp]
        rw [List.map_append, List.map_cons, ← List.append_assoc, List.append_assoc _ _ (flat _), List.cons_append]
        exact addAll_fail h2 ht
      have hio : itOk (.rng ((a - 65 : Nat) : Int) (((b - 65 : Nat) : Int) + 1)) := rng_ok (by exact Int.natCast_nonneg _) (by omega) (by exact Int.natCast_nonneg _) (by omega)
      have hn : (((b - 65 : Nat) : Int) + 1 - ((a - 65 : Nat) : Int)).toNat = b + 1 - a := ar_shZ (by assumption) (by assumption)
      refine go_let ?_; intro vv; refine go_index ha (go_index hb (go_op (.t (.int (max (((b - 65 : Nat) : Int) + 1 - ((a - 65 : Nat) : Int)) 0))) (fun Q h => SL_len_rng hio h) ?_))
      by_cases hba : b < a
      · exact go_t (yes (beq_iff_eq.mpr (by omega))) (hQ (.ret _) _ ⟨s2, false, fail (by unfold tellS; rw [if_pos hba]), rfl, rfl⟩)
      refine go_f (no (beq_eq_false_iff_ne.mpr (by omega))) ?_
      refine go_let ?_; intro vv; refine go_compG ok W [(("told" : Str), L + 1)] [(("told" : Str), .loc t)] t489c ⟨trivial, trivial, trivial, trivial⟩ ((List.range (((b - 65 : Nat) : Int) + 1 - ((a - 65 : Nat) : Int)).toNat).map fun (k : Nat) => .t (.int (((a - 65 : Nat) : Int) + k))) (fun i out => out = nts (toldIn s2.2 (a - 65) i)) rfl ⟨rfl, hio, rfl⟩ (by simp; lia) rfl (fun i out h => by rw [h, nts_length]; exact toldIn_len _ _ _) ?_ ?_ (by rw [hc]; rfl) (.inr (by rw [hc]; rfl)) (fun y d' h => ?_) (by rw [hc]; rfl)
      · rintro q z out Γ' D' hD hz rfl ok' - -
        have htD : t ≠ D' := fun e => hD (e ▸ List.mem_cons_self ..)
        obtain ⟨hq6, rfl⟩ := items_rng hz
        rw [show ((a - 65 : Nat) : Int) + (q : Int) = ((a - 65 + q : Nat) : Int) from rfl]
        have hq6 := ar_lt (a := a) (q := q) (by assumption) (by assumption) (hn ▸ hq6)
        obtain ⟨bb, hbb⟩ : ∃ bb, s2.2[a - 65 + q]? = some bb := ⟨_, List.getElem?_eq_getElem (by rw [hs2.2]; exact hq6)⟩
        have hsucc := toldIn_succ s2.2 (a - 65) q
        rw [hbb] at hsucc
        refine go_let ?_; intro vv; refine go_litem (q := .bool bb) (lookup_second htD) (by rw [List.getElem?_map, hbb]; rfl) (Nat.le_trans (Nat.le_of_lt hq6) (by decide)) ?_
        cases bb with
        | true =>
          refine go_let ?_; intro vv; refine go_t (yes rfl) (go_ask rfl ⟨rfl, _, rfl, ?_⟩)
          rw [hsucc, if_pos (show (some true == some true) = true from rfl)]
          unfold nts; rw [List.map_append]; rfl
        | false =>
          refine go_let ?_; intro vv; refine go_f (no rfl) ⟨rfl, ?_⟩
          rw [hsucc, if_neg (show ¬ (some false == some true) = true by decide), List.append_nil]
      rotate_left
      · simp only [Loc.get] at h
        split at h
        · rename_i e; subst e; cases h; exact ⟨rfl, by rw [hc]; rfl, by rw [hc]; rfl, by rw [hc]; rfl⟩
        · cases h
      rintro out rfl
      rw [List.length_map, List.length_range, hn]
      refine go_let ?_; intro vv; refine go_list (go_op (.t (.bool (!(PyData.eqv (.list (nts (toldIn s2.2 (a - 65) (b + 1 - a)))) (.list []))))) (fun Q h => S2_ne rfl rfl sh_nts sh_nil h) ?_)
      cases hany : anyT s2.2 (a - 65) (b + 1 - a) with
      | true => exact go_t (yes (by rw [eqv_nil, toldIn_empty, hany]; rfl)) (hQ (.ret _) _ ⟨s2, false, fail (by unfold tellS; rw [if_neg hba, if_pos hany]), rfl, rfl⟩)
      | false =>
        have ht : tellS (.tuple [.int k, d]) (a, b) s2 = some (setR (a - 65) (b + 1 - a) s2.1 (.tuple [.int k, d]), setR (a - 65) (b + 1 - a) s2.2 true) := by
          unfold tellS
          rw [if_neg hba, if_neg (by show ¬ anyT s2.2 (a - 65) (b + 1 - a) = true; rw [hany]; decide)]
        refine go_f (no (by rw [eqv_nil, toldIn_empty, hany]; rfl)) ?_
        refine go_let ?_; intro vv; refine go_for ok (items := (List.range (((b - 65 : Nat) : Int) + 1 - ((a - 65 : Nat) : Int)).toNat).map fun (k : Nat) => .t (.int (((a - 65 : Nat) : Int) + k))) (σ := Nat) ["own", "told", "kind", "length"] (fun i s => i = s) (fun _ => [.loc o, .loc t, .t (.int k), .t d]) (fun q => [(t, (setR (a - 65) q s2.2 true).map .bool), (o, setR (a - 65) q s2.1 (.tuple [.int k, d]))])
          ⟨(), rfl, hio, 0, rfl, rfl, rfl⟩ ?_ ?_
        · rintro q y _ ag2 hy rfl hag2
          obtain ⟨hi', rfl⟩ := items_rng hy
          have hq6 := ar_lt (a := a) (q := q) (by assumption) (by assumption) (hn ▸ hi')
          rw [show ((a - 65 : Nat) : Int) + (q : Int) = ((a - 65 + q : Nat) : Int) from rfl]
          have hTl : ((setR (a - 65) q s2.2 true).map PyData.bool).length = 26 := by rw [List.length_map, setR_length, hs2.2]
          have hRl : (setR (a - 65) q s2.1 (.tuple [.int k, d])).length = 26 := by rw [setR_length, hs2.1]
          refine go_put (j := a - 65 + q) (q := .tuple [.int k, d]) _ (lookup_second hot) (by rw [hRl]; decide) (by rw [hRl]; exact hq6) (upd_second hot) ?_
          refine go_let ?_; intro vv; refine go_put (j := a - 65 + q) (q := .bool true) _ lookup_head (by rw [hTl]; decide) (by rw [hTl]; exact hq6) (upd_first hot) ?_
          exact hag2 (q + 1) _ _ rfl rfl (by rw [setR, setR, List.map_set])
        · rintro _ rfl
          rw [List.length_map, List.length_range, hn]
          refine hag' (setR (a - 65) (b + 1 - a) s2.1 (.tuple [.int k, d]), setR (a - 65) (b + 1 - a) s2.2 true) _ _ ?_ rfl rfl
          rw [hlt, List.map_append, ← List.append_assoc]
          exact addAll_ok h2 ht
    · rintro s2 h2
      refine hag s2 _ _ ?_ rfl rfl
      rw [htake]
      rw [List.length_map, lets_length, List.take_length] at h2
      exact h2
  · rintro s1 h1
    rw [List.length_map, List.length_map, List.take_length] at h1
    exact hQ (.ret _) _ ⟨s1, true, h1, rfl, rfl⟩
end
end P279
end
section
open PySem PySem.W PyProof.Rows PySem.Spec PySem.Calls PySem.Builtin PySem.Builtin.Str
set_option maxHeartbeats 4000000
namespace P279
theorem go_litemZ {Γ : Fr} {v : T} {a : Addr} {ds : List PyData} {i : Nat} {z : Int} {q : PyData} (hz : z = i) (hl : v.mu.lookup a = some ds) (hx : ds[i]? = some q) (hi : i ≤ 2000) (g : Good Γ (v.k (.t q) v.mu)) (e : v.o = .item (.loc a) (.t (.int z)) := by exact rfl) : Good Γ v :=
  go_litem hl hx hi g (by rw [e, hz])
theorem go_pop {Γ : Fr} {v : T} {a : Addr} {q : PyData} {ds : List PyData} (μ' : Mut) (hl : v.mu.lookup a = some (ds ++ [q])) (hs : ds.length ≤ 1000000) (hu : v.mu.upd a ds = μ') (g : Good Γ (v.k (.t q) μ')) (e : v.o = .blt "list.pop" [.loc a] := by exact rfl) : Good Γ v :=
  go_opM _ μ' (fun Q h => by rw [e]; exact SL_pop hl hs (by rw [hu]; exact h)) g
section
variable {G : Cfg} {p : Params}
theorem ok_law_short (O : Own G p) {o t : Addr} {s : St} {R : List KD} (hot : o ≠ t) (hs : s.ok) (hR : s.1 = R.map rp) (hl : ∀ q ∈ R, IsLen q.2) :
    CallOK G 496 [.loc o, .loc t] (stMu t o s) 1 (fun d μ' => d = .t (.list ((shF R s.2 26).map rulePy)) ∧ μ' = stMu t o s) (fun _ _ => False) := by
  have hR26 : R.length = 26 := by have := hs.1; rw [hR, List.length_map] at this; exact this
  have hT26 := hs.2
  refine call_body O ["own", "told"] t496 (by rfl) (by rfl) (bind2 fun _ _ => by rfl) rfl (by decide) (by decide) (by decide) (by rfl) (by rfl) (a496 O) (fun Γ k ok W hQ hE => ?_)
  refine go_let ?_; intro vv; refine go_new fun a ha => ?_
  have ha : a ∉ [t, o] := ha
  have hat : t ≠ a := by rintro rfl; simp at ha
  have har : o ≠ a := by rintro rfl; simp at ha
  refine go_let ?_; intro vv; refine go_for ok (items := (List.range ((26 : Int) - 0).toNat).map fun (k : Nat) => .t (.int ((0 : Int) + k))) (σ := Nat) ["own", "told", "found"] (fun i s' => i = s') (fun _ => [.loc o, .loc t, .loc a]) (fun i => (a, (shF R s.2 i).map rulePy) :: stMu t o s)
    ⟨(), rfl, rng0 (n := 26) (by decide), 0, rfl, rfl, rfl⟩ ?_ ?_
  · rintro i y _ ag hy rfl hag
    obtain ⟨hi, rfl⟩ := items_rng hy
    have hi26 : i < 26 := by assumption
    rw [show (0 : Int) + (i : Int) = ((i : Nat) : Int) by lia]
    obtain ⟨q, hq⟩ : ∃ q, R[i]? = some q := ⟨_, List.getElem?_eq_getElem (by lia)⟩
    obtain ⟨b, hb⟩ : ∃ b, s.2[i]? = some b := ⟨_, List.getElem?_eq_getElem (by lia)⟩
    have hfl := shF_length (R := R) (T := s.2) (n := i)
    have hi2 : i ≤ 2000 := by lia
    have own_at : ∀ {j : Nat} {q : KD}, R[j]? = some q → s.1[j]? = some (rp q) := fun h => by rw [hR, List.getElem?_map, h]; rfl
    refine go_let ?_; intro vv; refine go_litem (q := .bool b) (lookup_second hat) (by rw [List.getElem?_map, hb]; rfl) hi2 ?_
    cases b with
    | false => exact go_f (no rfl) (hag (i + 1) _ _ rfl rfl (by rw [shF, if_neg (by rw [hb]; exact nofun)]; rfl))
    | true =>
      have hstep : ∀ f : List Rule, (if joins R s.2 i q = true then (shF R s.2 i).dropLast ++ [(q.1, q.2, [(lastStart (shF R s.2 i), 65 + i)])] else shF R s.2 i ++ [(q.1, q.2, [(65 + i, 65 + i)])]) = f → shF R s.2 (i + 1) = f := by
        intro f e; rw [shF, if_pos hb, hq]; exact e
      refine go_let ?_; intro vv; refine go_t (yes rfl) (go_fork ok (σ := List Rule × Nat) ["start", "place", "own", "told", "found"] (fun u => u.1.length ≤ i ∧ (if joins R s.2 i q = true then (shF R s.2 i).dropLast ++ [(q.1, q.2, [(lastStart (shF R s.2 i), 65 + i)])] else shF R s.2 i ++ [(q.1, q.2, [(65 + i, 65 + i)])]) = u.1 ++ [(q.1, q.2, [(u.2, 65 + i)])]) (fun u => [.t (.str (S [u.2])), .t (.int i), .loc o, .loc t, .loc a]) (fun u => (a, u.1.map rulePy) :: stMu t o s) (fun ag' hag' => ?_) ?_)
      · have els : ∀ m, joins R s.2 i q = false → (["start", "place", "own", "told", "found"] : List Str).map m.get = [some (.t (.str (S [65 + i]))), some (.t (.int i)), some (.loc o), some (.loc t), some (.loc a)] → Good Γ (ag' m ((a, (shF R s.2 i).map rulePy) :: stMu t o s)) := fun m h1 h2 => hag' (shF R s.2 i, 65 + i) _ _ ⟨hfl, by rw [h1, if_neg (by decide)]⟩ h2 rfl
        by_cases hi0 : 0 < i
        rotate_left
        · exact go_f (no (d_ngt (b := 0) (by lia))) (go_str (LET_at hi26) (by exact Nat.lt_of_lt_of_le ‹_› (by decide)) (els _ (by unfold joins isRun; rw [decide_eq_false hi0]; rfl) rfl))
        have hz : (i : Int) - 1 = ((i - 1 : Nat) : Int) := by lia
        obtain ⟨b', hb'⟩ : ∃ b, s.2[i - 1]? = some b := ⟨_, List.getElem?_eq_getElem (by lia)⟩
        refine go_let ?_; intro vv; refine go_t (yes (d_gt (b := 0) hi0)) (go_litemZ (q := .bool b') hz (lookup_second hat) (by rw [List.getElem?_map, hb']; rfl) (by lia) ?_)
        have hir : isRun s.2 i = b' := by unfold isRun; rw [decide_eq_true hi0, hb']; cases b' <;> rfl
        cases b' with
        | false => exact go_f (no rfl) (go_str (LET_at hi26) (by exact Nat.lt_of_lt_of_le ‹_› (by decide)) (els _ (by unfold joins; rw [hir]; rfl) rfl))
        | true =>
          obtain ⟨q', st, hq', hla⟩ := shF_run hR26 (by exact Nat.le_of_lt ‹_›) hir
          have hj : joins R s.2 i q = PyData.eqv (rp q') (rp q) := by unfold joins; rw [hir, hq']; rfl
          have hst : lastStart (shF R s.2 i) = st := by unfold lastStart; rw [hla]; rfl
          have hsh : ∀ q ∈ R, SeqAt.shaped (rp q) = true := fun q hq => (Sh.pair Sh.int (hl q hq).sh).shaped (by decide)
          refine go_let ?_; intro vv; refine go_t (yes rfl) (go_litemZ (q := rp q') hz (lookup_third hot har) (own_at hq') (by lia) (go_litem (q := rp q) (lookup_third hot har) (own_at hq) hi2 (go_op (.t (.bool (PyData.eqv (rp q') (rp q)))) (fun Q h => S2_eq (p := rp q') (q := rp q) rfl rfl (hsh q' (List.mem_of_getElem? hq')) (hsh q (List.mem_of_getElem? hq)) h) ?_)))
          cases hev : PyData.eqv (rp q') (rp q) with
          | false => exact go_f (no rfl) (go_str (LET_at hi26) (by exact Nat.lt_of_lt_of_le ‹_› (by decide)) (els _ (by rw [hj, hev]) rfl))
          | true =>
            rw [hev] at hj
            have hne' : shF R s.2 i ≠ [] := by intro e; rw [e] at hla; cases hla
            obtain ⟨f, x, hfx⟩ : ∃ f x, shF R s.2 i = f ++ [x] := ⟨_, _, (List.dropLast_concat_getLast hne').symm⟩
            rw [hfx, List.getLast?_concat] at hla
            injection hla with hla
            subst hla
            have hfl1 : f.length + 1 ≤ i := by rw [hfx] at hfl; simpa using hfl
            refine go_let ?_; intro vv; refine go_t (yes rfl) (go_ask tyD_head (go_pop (ds := f.map rulePy) (q := rulePy (q'.1, q'.2, [(st, 65 + (i - 1))])) ((a, f.map rulePy) :: stMu t o s) (lookup_head.trans (by rw [hfx, List.map_append]; rfl)) (by rw [List.length_map]; lia) (upd_head ha) (go_lst (ds := lets [(st, 65 + (i - 1))]) (i := 0) rfl (by decide) ?_)))
            exact hag' (f, st) _ _ ⟨Nat.le_of_succ_le hfl1, by rw [hj, if_pos rfl, hst, hfx, List.dropLast_concat]⟩ rfl rfl
      · rintro ⟨f, st⟩ ⟨hfl', hf⟩
        dsimp only at hfl' hf
        have hff := hstep _ hf
        refine go_ask tyD_head (go_litem (q := rp q) (lookup_third hot har) (own_at hq) hi2 (go_litem (q := rp q) (lookup_third hot har) (own_at hq) hi2 (go_flist ok (go_str (LET_at hi26) (by exact Nat.lt_of_lt_of_le ‹_› (by decide)) ?_))))
        exact go_append (ds := f.map rulePy) _ lookup_head (by rw [List.length_map]; lia) (upd_head ha) (hag (i + 1) _ _ rfl rfl (by rw [hff, List.map_append]; rfl))
  · rintro _ rfl
    exact go_ask ⟨rfl, ha⟩ (hQ (.ret _) _ ⟨rfl, rfl⟩)
end
end P279
end
section
open PySem PySem.W PyProof.Rows PySem.Spec PySem.Calls PySem.Builtin PySem.Builtin.Str
set_option maxHeartbeats 4000000
namespace P279
noncomputable def dg (n : Nat) : List Nat := if n < 10 then [48 + n] else [48 + n / 10, 48 + n % 10]
theorem dg_str : ∀ n : Nat, n < 88 → (Str.ofString (toString ((n : Nat) : Int))) = S (dg n) := by decide +kernel
theorem dg_ok : ∀ n : Nat, n < 88 → dg n ≠ [] ∧ (∀ d ∈ dg n, d ∈ DIG) ∧ NumText.digitsVal (dg n) = n ∧ (dg n).length ≤ 10 := by decide +kernel
noncomputable def NMS : List (List Nat) := [[69, 53], [68, 49, 50], [65], [69], [68, 50, 69, 52], [72, 49]]
theorem nms_at {k : Nat} (h : k < 6) : ∃ c i, (txts NMS)[k]? = some (.str (S (c :: i))) ∧ c ∈ LET ∧ (∀ d ∈ i, d ∈ LD) ∧ i.length + 1 ≤ 6 := by
  have : k = 0 ∨ k = 1 ∨ k = 2 ∨ k = 3 ∨ k = 4 ∨ k = 5 := by lia
  rcases this with rfl | rfl | rfl | rfl | rfl | rfl <;> exact ⟨_, _, rfl, by decide, by decide, by decide⟩
theorem typed_sh {n : Nat} {c : Nat} {i : List Nat} (hc : c ∈ LET) (h : ∀ d ∈ i, d ∈ LD) : Sh 5 (typedPy (.tuple [.str "int", .int n]) (c :: i)) := by
  have hn : PyData.strOk (S (c :: i)) = true := strOk_S fun d hd => (List.mem_cons.mp hd).elim (fun e => e ▸ LD_lt (let_LD hc)) fun hd => LD_lt (h d hd)
  unfold typedPy itemPy
  refine Sh.list fun x hx => ?_
  have := List.mem_singleton.mp hx; subst this
  refine Sh.tuple fun x hx => ?_
  simp only [List.mem_cons, List.not_mem_nil, or_false] at hx
  rcases hx with rfl | rfl | rfl | rfl
  · exact Sh.str (by decide +kernel)
  · exact Sh.int
  · exact (Sh.pair (n := 0) (Sh.str (by decide +kernel)) Sh.int).le (by decide)
  · refine Sh.list fun x hx => ?_
    have := List.mem_singleton.mp hx; subst this
    refine Sh.tuple fun x hx => ?_
    simp only [List.mem_cons, List.not_mem_nil, or_false] at hx
    rcases hx with rfl | rfl | rfl
    · exact Sh.str hn
    · exact Sh.list fun x hx => by simp at hx
    · exact Sh.none
section
variable {G : Cfg} {p : Params}
theorem catches_lex : Catches (GG w h₀ mg mb).K 51 31 := ⟨by rfl, by rfl, by rfl⟩
theorem catches_syn : Catches (GG w h₀ mg mb).K 63 31 := ⟨by rfl, by rfl, by rfl⟩
theorem catches_chk : Catches (GG w h₀ mg mb).K 75 75 := ⟨by rfl, by rfl, by rfl⟩
theorem catches77 {k : Cl} (hk : k ≠ .chk) : Catches (GG w h₀ mg mb).K ((GG w h₀ mg mb).X k) 31 := by
  cases k
  · exact catches_lex
  · exact catches_syn
  · exact absurd rfl hk
theorem Own.catches {G : Cfg} {p : Params} (O : Own G p) {k : Cl} (hk : k ≠ .chk) : Catches G.K (G.X k) 31 := by
  obtain ⟨w, h₀, mg, mb, rfl, rfl⟩ := O.ex
  exact catches77 hk
theorem Own.g77 {G : Cfg} {p : Params} (O : Own G p) : nsIn G.K mainGlobals "F77Error" = some (some (.ref 31)) ∧ IsCls G.K 31 := by rw [O.K]; exact ⟨by rfl, _, _, _, _, by rfl⟩
theorem log_small : ∀ n : Nat, n < 88 → (n : Int).natAbs.log2 < 1920 := by decide +kernel
end
section
variable {G : Cfg} {p : Params}
theorem ok_law_length_right (O : Own G p) {a : Addr} {p : List Nat} (hp : p.length ≤ 100) : CallOK G 503 [.loc a] [(a, nts p)] 12 (fun d μ' => d = .t (.bool true) ∧ ∃ p', μ' = [(a, nts p')]) (fun _ _ => False) := by
  refine call_body O ["pool"] t503 (by rfl) (by rfl) (bind1 fun _ => by rfl) rfl (by decide) (by decide) (by decide) (by rfl) (by rfl) (a503 O) (fun Γ kk ok W hQ hE => ?_)
  refine go_let ?_; intro vv; refine go_take O (k := 4) (by decide) (by decide) hp W (List.Perm.refl _) fun n0 p1 hn0 hp1 => ?_
  refine go_let ?_; intro vv; refine go_take O (k := 30) (by decide) (by decide) hp1 W (List.Perm.refl _) fun n1 p2 hn1 hp2 => ?_
  obtain ⟨N, hN, hNe⟩ : ∃ N : Nat, N < 88 ∧ (n0 : Int) * (n1 : Int) = N := ⟨n0 * n1, by have : n0 * n1 ≤ 3 * 29 := Nat.mul_le_mul (by lia) (by lia); lia, by simp⟩
  refine go_let ?_; intro vv; refine go_op (.t (.int N)) (fun Q h => S2_mul (by lia) (by rw [hNe]; exact h)) ?_
  refine go_let ?_; intro vv; refine go_take O (k := 6) (by decide) (by decide) hp2 W (List.Perm.refl _) fun n2 p3 hn2 hp3 => ?_
  obtain ⟨c, i, hci, hc, hi, h6⟩ := nms_at hn2
  refine go_let ?_; intro vv; refine go_tup (ds := txts NMS) hci (by exact Nat.lt_of_lt_of_le ‹_› (by decide)) (go_take O (k := 2) (by decide) (by decide) hp3 W (List.Perm.refl _) fun n3 p4 hn3 hp4 => ?_)
  obtain ⟨cm, hcm⟩ : ∃ cm : Bool, (txts [[], [44]])[n3]? = some (.str (S (if cm = true then [44] else []))) := by
    have : n3 = 0 ∨ n3 = 1 := by lia
    rcases this with rfl | rfl
    · exact ⟨false, rfl⟩
    · exact ⟨true, rfl⟩
  obtain ⟨d1, d2, d3, d4⟩ := dg_ok N hN
  have hpc := ok_parse_character O (comma := cm) d1 d2 d4 hc hi h6
  rw [d3, show [67,72,65,82,65,67,84,69,82] ++ 42 :: (dg N ++ ((if cm = true then [44] else []) ++ c :: i)) = [67,72,65,82,65,67,84,69,82,42] ++ dg N ++ (if cm = true then [44] else []) ++ (c :: i) by simp] at hpc
  have hcml : (if cm = true then [44] else ([] : List Nat)).length ≤ 1 := by cases cm <;> decide
  refine go_let ?_; intro vv; refine go_tup (ds := txts [[], [44]]) hcm (by exact Nat.lt_of_lt_of_le ‹_› (by decide)) (go_try ok W (σ := Unit) ["size", "name", "heard"] (fun _ => 0 < N) (fun _ => [.t (.int N), .t (.str (S (c :: i))), .t (typedPy (.tuple [.str "int", .int N]) (c :: i))]) (fun _ => [(a, nts p4)]) rfl (en := .oth) (by rfl) rfl O.g77.1 O.g77.2 (fun Γ' ag ok' W' hag hE' => ?_) fun _ hN0 => ?_)
  · generalize (if cm = true then [44] else ([] : List Nat)) = cmm at hcml hpc ⊢
    refine go_let ?_; intro vv; refine go_op (.t (.str (S (dg N)))) (fun Q h => SL_str (log_small N hN) (by rw [dg_str N hN]; exact h)) ?_
    refine go_add (x := [67,72,65,82,65,67,84,69,82,42]) (y := dg N) (by simp only [List.length_cons, List.length_nil]; lia) (go_add (x := [67,72,65,82,65,67,84,69,82,42] ++ dg N) (y := cmm) (by simp only [List.length_append, List.length_cons, List.length_nil]; lia) (go_add (x := [67,72,65,82,65,67,84,69,82,42] ++ dg N ++ cmm) (y := c :: i) (by simp only [List.length_append, List.length_cons, List.length_nil]; lia) ?_))
    refine go_let ?_; intro vv; refine go_callM [] [(a, nts p4)] hpc W' (List.Perm.refl _) (fun d μ' h => ?_) (fun k μ' h => ?_)
    · obtain ⟨rfl, h⟩ := h
      by_cases hz : N = 0
      · rw [if_pos hz] at h; cases h
      · rw [if_neg hz] at h
        cases h
        exact hag () _ _ (by lia) rfl rfl
    · obtain ⟨rfl, h, hk⟩ := h
      have hz : N = 0 := by
        by_cases hz : N = 0
        · exact hz
        · rw [if_neg hz] at h; cases h
      refine hE' k _ _ (O.catches hk) (WSsM_retEq (x := "size") (i := N) (ok.kind (e := .loc) (by rfl)) (by rfl) ?_)
      subst hz
      exact hQ (.ret _) _ ⟨rfl, p4, rfl⟩
  · have hsh := typed_sh (n := N) hc hi
    refine go_let ?_; intro vv; refine go_t (yes (d_gt (b := 0) hN0)) (go_flist ok (go_flist ok (go_list (go_op (.t (.bool true)) (fun Q h => S2_eq (p := typedPy (.tuple [.str "int", .int N]) (c :: i)) (q := typedPy (.tuple [.str "int", .int N]) (c :: i)) rfl rfl (hsh.shaped (by decide)) (hsh.shaped (by decide)) (by rw [SeqAt.eqv_refl _ hsh.1]; exact h)) ?_))))
    exact hQ (.ret _) _ ⟨rfl, p4, rfl⟩
end
end P279
end
section
open PySem PySem.W PyProof.Rows PySem.Spec PySem.Calls PySem.Builtin PySem.Builtin.Str
namespace P279
noncomputable def itemT (ts : List (Tk × Nat)) : Option ((Nat × Nat) × List (Tk × Nat)) := match letAt ts 0 with
  | none => none
  | some c => if isOp ts 1 [45] = true then (letAt ts 2).map (fun d => ((c, d), ts.drop 3)) else some ((c, c), ts.drop 1)
noncomputable def tailT (K : List (Tk × Nat) → Option (List (Nat × Nat))) (p : Nat × Nat) (ts : List (Tk × Nat)) : Option (List (Nat × Nat)) :=
  if isOp ts 0 [44] = true then (K (ts.drop 1)).map (p :: ·) else if isOp ts 0 [41] = true ∧ ¬ 1 < ts.length then some [p] else none
noncomputable def parT : Nat → List (Tk × Nat) → Option (List (Nat × Nat))
  | 0, _ => none
  | f + 1, ts => match itemT ts with
    | none => none
    | some (p, ts') => tailT (parT f) p ts'
theorem isOp_drop (ts : List (Tk × Nat)) (e k : Nat) (s : List Nat) : isOp (ts.drop e) k s = isOp ts (e + k) s := by
  unfold isOp; rw [List.getElem?_drop]
theorem letAt_drop (ts : List (Tk × Nat)) (e k : Nat) : letAt (ts.drop e) k = letAt ts (e + k) := by
  unfold letAt; rw [List.getElem?_drop]
noncomputable def finL (ts : List (Tk × Nat)) : Option (List (Nat × Nat) × Nat) → Option (List (Nat × Nat))
  | none => none
  | some q => if isOp ts q.2 [41] = true then if q.2 + 1 < ts.length then none else some q.1 else none
theorem parL_T (ts : List (Tk × Nat)) : ∀ (f e : Nat), finL ts (parL f ts e) = parT f (ts.drop e)
  | 0, e => rfl
  | f + 1, e => by
    have tail : ∀ (p : Nat × Nat) (e' : Nat), finL ts (if isOp ts e' [44] = true then (parL f ts (e' + 1)).map (fun q => (p :: q.1, q.2)) else some ([p], e')) = tailT (parT f) p (ts.drop e') := by
      intro p e'
      unfold tailT
      rw [isOp_drop, isOp_drop]
      simp only [Nat.add_zero]
      by_cases h44 : isOp ts e' [44] = true
      · rw [if_pos h44, if_pos h44, List.drop_drop, ← parL_T ts f (e' + 1)]
        cases parL f ts (e' + 1) with
        | none => rfl
        | some q =>
          simp only [Option.map_some, finL]
          split
          · split <;> rfl
          · rfl
      · rw [if_neg h44, if_neg h44]
        unfold finL
        dsimp only
        rw [List.length_drop]
        by_cases h41 : isOp ts e' [41] = true
        · rw [if_pos h41]
          have := isOp_lt h41
          by_cases hl : e' + 1 < ts.length
          · rw [if_pos hl, if_neg (by rintro ⟨_, h⟩; exact h (by omega))]
          · rw [if_neg hl, if_pos ⟨h41, by omega⟩]
        · rw [if_neg h41, if_neg (fun h => h41 h.1)]
    rw [parL, parT]
    unfold itemT
    rw [letAt_drop, isOp_drop, letAt_drop]
    simp only [Nat.add_zero]
    cases hl : letAt ts e with
    | none => rfl
    | some c =>
      dsimp only
      by_cases h45 : isOp ts (e + 1) [45] = true
      · rw [if_pos h45, if_pos h45]
        cases hl2 : letAt ts (e + 2) with
        | none => rfl
        | some d =>
          simp only [Option.map_some]
          rw [List.drop_drop]
          exact tail (c, d) (e + 3)
      · rw [if_neg h45, if_neg h45, List.drop_drop]
        exact tail (c, c) (e + 1)
theorem parsP_T (ts : List (Tk × Nat)) : parsP ts = if isOp ts 0 [40] = true then parT (ts.length + 1) (ts.drop 1) else none := by
  unfold parsP
  split
  · rw [← parL_T]
    cases parL (ts.length + 1) ts 1 <;> rfl
  · rfl
noncomputable def itemC : List Nat → Option ((Nat × Nat) × List Nat)
  | [] => none
  | c :: r => if c ∈ LET then (match r with
      | [] => some ((c, c), [])
      | d :: r' => if d = 45 then (match r' with
          | [] => none
          | c2 :: r'' => if c2 ∈ LET then some ((c, c2), r'') else none)
        else some ((c, c), d :: r'))
    else none
noncomputable def tailC (K : List Nat → Option (List (Nat × Nat))) (p : Nat × Nat) : List Nat → Option (List (Nat × Nat))
  | [] => none
  | c :: r => if c = 44 then (K r).map (p :: ·) else if c = 41 ∧ r = [] then some [p] else none
noncomputable def grF : Nat → List Nat → Option (List (Nat × Nat))
  | 0, _ => none
  | f + 1, x => match itemC x with
    | none => none
    | some (p, x') => tailC (grF f) p x'
theorem letAt_no {t : Tk} {e : Nat} {ts : List (Tk × Nat)} (h : ∀ c, t ≠ .name [c]) : letAt ((t, e) :: ts) 0 = none := by
  cases t with
  | name s =>
    match s, h with
    | [], _ => rfl
    | [c], h => exact absurd rfl (h c)
    | _ :: _ :: _, _ => rfl
  | _ => rfl
theorem numAt_kind (x : List Nat) : ∃ t n, numAt x = (t, n) ∧ ∀ d, t ≠ .name [d] := by
  unfold numAt
  split <;> exact ⟨_, _, rfl, nofun⟩
theorem tokAt_noLet {c : Nat} {r : List Nat} (h : c ∉ LET) : ∃ t n, tokAt (c :: r) = some (t, n) ∧ ∀ d, t ≠ .name [d] := by
  rw [tokAt, if_neg h]
  by_cases hD : c ∈ DIG
  · rw [if_pos hD]
    obtain ⟨t, n, h1, h2⟩ := numAt_kind (c :: r)
    exact ⟨t, n, by rw [h1], h2⟩
  · rw [if_neg hD]
    split <;> exact ⟨_, _, rfl, nofun⟩
theorem tokAt_long {c d : Nat} {r : List Nat} (hc : c ∈ LET) (hd : d ∈ LD) : tokAt (c :: d :: r) = none ∨ ∃ s n, tokAt (c :: d :: r) = some (.name s, n) ∧ ∀ a, Tk.name s ≠ .name [a] := by
  rw [tokAt, if_pos hc]
  split
  · exact .inl rfl
  · refine .inr ⟨_, _, rfl, fun a e => ?_⟩
    injection e with e
    have h2 : 2 ≤ runLen LD (c :: d :: r) := by rw [runLen_cons, if_pos (let_LD hc), runLen_cons, if_pos hd]; lia
    obtain ⟨k, hk⟩ : ∃ k, runLen LD (c :: d :: r) = k + 2 := ⟨runLen LD (c :: d :: r) - 2, by lia⟩
    rw [hk, List.take_succ_cons, List.take_succ_cons] at e
    injection e with _ e
    cases e
theorem tokAt_one {c : Nat} {r : List Nat} (hc : c ∈ LET) (hr : ∀ d, r.head? = some d → d ∉ LD) : tokAt (c :: r) = some (.name [c], 1) := by
  have := tokAt_name (c := c) (l := []) (r := r) hc (by simp) hr
  simpa using this
theorem lexF_ne {f : Nat} {c : Nat} {r : List Nat} {e : Nat} {ts : List (Tk × Nat)} (hf : 0 < f) (h : lexF f (c :: r) e = some ts) : ts ≠ [] := by
  obtain ⟨f, rfl⟩ : ∃ k, f = k + 1 := ⟨f - 1, by lia⟩
  rw [lexF] at h
  split at h
  · cases h
  · cases hq : lexF f ((c :: r).drop _) (e + _) with
    | none => rw [hq] at h; cases h
    | some us => rw [hq] at h; cases h; exact nofun
theorem tok_mark {d : Nat} {r : List Nat} (h : d ∈ ALP) (hn : d ∉ LD) (f e : Nat) : (∃ us, lexF (f + 1) (d :: r) e = (lexF f r (e + 1)).map ((.op [d], e) :: ·) ∧ us = ()) ∨ (d = 42 ∧ ∃ n, lexF (f + 1) (d :: r) e = (lexF f ((d :: r).drop n) (e + n)).map ((.op [42, 42], e) :: ·)) := by
  have hL : d ∉ LET := fun h => hn (let_LD h)
  have hD : d ∉ DIG := fun h => hn (dig_LD h)
  by_cases h42 : d = 42 ∧ r.head? = some 42
  · refine .inr ⟨h42.1, 2, ?_⟩
    have : tokAt (d :: r) = some (.op [42, 42], 2) := by rw [tokAt, if_neg hL, if_neg hD, if_pos h42]
    rw [lexF_step this]
  · refine .inl ⟨(), ?_, rfl⟩
    rw [lexF_step (tokAt_op hL hD h42)]
    rfl
theorem op_at {s t : List Nat} {e : Nat} {ts : List (Tk × Nat)} : isOp ((.op s, e) :: ts) 0 t = (s == t) := rfl
theorem lex_tail {g : Nat} {p : Nat × Nat} {d : Nat} {r : List Nat} {f e : Nat} (hf : r.length ≤ f) (h : d ∈ ALP) (hn : d ∉ LD) (ih : (lexF f r (e + 1)).bind (parT g) = grF g r) :
    (lexF (f + 1) (d :: r) e).bind (tailT (parT g) p) = tailC (grF g) p (d :: r) := by
  rw [tailC]
  rcases tok_mark h hn f e (r := r) with ⟨_, hl, _⟩ | ⟨rfl, n, hl⟩
  · rw [hl]
    by_cases h44 : d = 44
    · subst h44
      rw [if_pos rfl, ← ih]
      cases lexF f r (e + 1) with
      | none => rfl
      | some ts =>
        simp only [Option.map_some, Option.bind_some]
        unfold tailT
        rw [op_at, if_pos (by rfl)]; rfl
    · rw [if_neg h44]
      by_cases h41 : d = 41
      · subst h41
        cases r with
        | nil =>
          rw [if_pos ⟨rfl, rfl⟩, lexF_end]
          rfl
        | cons c r =>
          rw [if_neg (by rintro ⟨_, h⟩; cases h)]
          cases hq : lexF f (c :: r) (e + 1) with
          | none => rfl
          | some ts =>
            have hne := lexF_ne (by simp at hf; lia) hq
            have := List.length_pos_iff.mpr hne
            simp only [Option.map_some, Option.bind_some]
            unfold tailT
            rw [op_at, op_at, if_neg (by decide), if_neg (by rintro ⟨_, h⟩; exact h (by simp; omega))]
      · rw [if_neg (fun h => h41 h.1)]
        cases lexF f r (e + 1) with
        | none => rfl
        | some ts =>
          simp only [Option.map_some, Option.bind_some]
          unfold tailT
          rw [op_at, op_at, if_neg (by simpa using h44), if_neg (by rintro ⟨h, _⟩; exact h41 (by simpa using h))]
  · rw [hl, if_neg (by decide), if_neg (by rintro ⟨h, _⟩; cases h)]
    cases lexF f ((42 :: r).drop n) (e + n) with
    | none => rfl
    | some ts => rfl
theorem pT_no {g : Nat} {ts : List (Tk × Nat)} (h : letAt ts 0 = none) : parT (g + 1) ts = none := by rw [parT]; unfold itemT; rw [h]
theorem pT_one {g c e : Nat} {ts : List (Tk × Nat)} (h : isOp ts 0 [45] = false) : parT (g + 1) ((.name [c], e) :: ts) = tailT (parT g) (c, c) ts := by
  rw [parT]; unfold itemT
  rw [show isOp ((Tk.name [c], e) :: ts) 1 [45] = false from h]; rfl
theorem pT_two {g c e e' : Nat} {ts : List (Tk × Nat)} (h : letAt ts 0 = none) : parT (g + 1) ((.name [c], e) :: (.op [45], e') :: ts) = none := by
  rw [parT]; unfold itemT
  rw [show letAt ((Tk.name [c], e) :: (Tk.op [45], e') :: ts) 2 = none from h]; rfl
theorem gr_no {g c : Nat} {r : List Nat} (h : c ∉ LET) : grF (g + 1) (c :: r) = none := by rw [grF, itemC.eq_def]; dsimp only; rw [if_neg h]
theorem gr_one {g c : Nat} (h : c ∈ LET) : grF (g + 1) [c] = none := by rw [grF, itemC, if_pos h]; rfl
theorem gr_tail {g c d : Nat} {r : List Nat} (h : c ∈ LET) (hd : d ≠ 45) : grF (g + 1) (c :: d :: r) = tailC (grF g) (c, c) (d :: r) := by rw [grF, itemC.eq_def]; dsimp only; rw [if_pos h, if_neg hd]
theorem gr_end {g c : Nat} (h : c ∈ LET) : grF (g + 1) [c, 45] = none := by rw [grF, itemC, if_pos h]; rfl
theorem gr_bad {g c d : Nat} {r : List Nat} (h : c ∈ LET) (hd : d ∉ LET) : grF (g + 1) (c :: 45 :: d :: r) = none := by rw [grF, itemC.eq_def]; dsimp only; rw [if_pos h, if_pos rfl, if_neg hd]
theorem gr_pair {g c d : Nat} {r : List Nat} (h : c ∈ LET) (hd : d ∈ LET) : grF (g + 1) (c :: 45 :: d :: r) = tailC (grF g) (c, d) r := by rw [grF, itemC.eq_def]; dsimp only; rw [if_pos h, if_pos rfl, if_pos hd]
theorem tail_no {K : List Nat → Option (List (Nat × Nat))} {p : Nat × Nat} {d : Nat} {r : List Nat} (h : d ∈ LD) : tailC K p (d :: r) = none := by
  rw [tailC, if_neg (fun e => absurd (e ▸ h) (by decide)), if_neg (fun e => absurd (e.1 ▸ h) (by decide))]
theorem mb {α β γ : Type} {o : Option α} {f : α → β} {K : β → Option γ} {K' : α → Option γ} (h : ∀ a, o = some a → K (f a) = K' a) : (o.map f).bind K = o.bind K' := match o, h with
  | none, _ => rfl
  | some a, h => h a rfl
theorem mbN {α β γ : Type} {o : Option α} {f : α → β} {K : β → Option γ} (h : ∀ a, K (f a) = none) : (o.map f).bind K = none := match o with
  | none => rfl
  | some a => h a
theorem lex_let {K : List (Tk × Nat) → Option (List (Nat × Nat))} {c f e : Nat} {r : List Nat} (hc : c ∈ LET) (hno : ∀ t ts, (∀ a, t ≠ .name [a]) → K ((t, e) :: ts) = none) :
    (∃ d r', r = d :: r' ∧ d ∈ LD ∧ (lexF (f + 1) (c :: r) e).bind K = none) ∨ ((∀ d, r.head? = some d → d ∉ LD) ∧ lexF (f + 1) (c :: r) e = (lexF f r (e + 1)).map ((.name [c], e) :: ·)) := by
  have one : ∀ h : (∀ d, r.head? = some d → d ∉ LD), lexF (f + 1) (c :: r) e = (lexF f r (e + 1)).map ((.name [c], e) :: ·) := fun h => lexF_step (tokAt_one hc h)
  cases r with
  | nil => exact .inr ⟨nofun, one nofun⟩
  | cons d r' =>
    by_cases hd : d ∈ LD
    · refine .inl ⟨d, r', rfl, hd, ?_⟩
      rcases tokAt_long (r := r') hc hd with h | ⟨s, k, h, hn⟩
      · rw [lexF_none h]; rfl
      · rw [lexF_step h]; exact mbN fun ts => hno _ ts hn
    · have h : ∀ z, (d :: r').head? = some z → z ∉ LD := fun z e => by cases e; exact hd
      exact .inr ⟨h, one h⟩
theorem tl_gr {g n : Nat} (ih : ∀ x f e, x.length ≤ n → Alp x → x.length ≤ f → x.length < g → (lexF f x e).bind (parT g) = grF g x) {r : List Nat} {f e : Nat} {p : Nat × Nat} (hn : r.length ≤ n) (ha : Alp r) (hf : r.length ≤ f) (hg : r.length < g + 1) (hr : ∀ d, r.head? = some d → d ∉ LD) : (lexF f r e).bind (tailT (parT g) p) = tailC (grF g) p r := by
  cases r with
  | nil => rw [lexF_end]; rfl
  | cons d r =>
    obtain ⟨f, rfl⟩ : ∃ k, f = k + 1 := ⟨f - 1, (Nat.succ_pred_eq_of_pos (Nat.lt_of_lt_of_le (Nat.succ_pos _) hf)).symm⟩
    exact lex_tail (Nat.le_of_succ_le_succ hf) (ha d (List.mem_cons_self ..)) (hr d rfl) (ih r f _ (Nat.le_of_succ_le hn) (fun z hz => ha z (List.mem_cons_of_mem _ hz)) (Nat.le_of_succ_le_succ hf) (Nat.lt_of_succ_lt_succ hg))
theorem hd_45 {f e d : Nat} {r : List Nat} {ts : List (Tk × Nat)} (h : d ∈ ALP) (hn : d ∉ LD) (h45 : d ≠ 45) (hq : lexF (f + 1) (d :: r) e = some ts) : isOp ts 0 [45] = false := by
  rcases tok_mark h hn f e (r := r) with ⟨_, hl, _⟩ | ⟨rfl, k, hl⟩
  · rw [hl] at hq
    obtain ⟨us, _, rfl⟩ := Option.map_eq_some_iff.mp hq
    show ([d] == [45]) = false
    simpa using h45
  · rw [hl] at hq
    obtain ⟨us, _, rfl⟩ := Option.map_eq_some_iff.mp hq
    rfl
theorem lex_gr : ∀ (n : Nat) (x : List Nat) (f g e : Nat), x.length ≤ n → Alp x → x.length ≤ f → x.length < g → (lexF f x e).bind (parT g) = grF g x := by
  intro n
  induction n with
  | zero =>
    intro x f g e hx ha hf hg
    rw [List.eq_nil_of_length_eq_zero (Nat.le_zero.mp hx)] at hg ⊢
    obtain ⟨g, rfl⟩ : ∃ k, g = k + 1 := ⟨g - 1, (Nat.succ_pred_eq_of_pos hg).symm⟩
    rw [lexF_end]; rfl
  | succ n ih =>
    intro x f g e hx ha hf hg
    obtain ⟨g, rfl⟩ : ∃ k, g = k + 1 := ⟨g - 1, (Nat.succ_pred_eq_of_pos (Nat.lt_of_le_of_lt (Nat.zero_le _) hg)).symm⟩
    cases x with
    | nil => rw [lexF_end]; rfl
    | cons c r =>
      obtain ⟨f, rfl⟩ : ∃ k, f = k + 1 := ⟨f - 1, (Nat.succ_pred_eq_of_pos (Nat.lt_of_lt_of_le (Nat.succ_pos _) hf)).symm⟩
      have hx := Nat.le_of_succ_le_succ hx
      have hf := Nat.le_of_succ_le_succ hf
      have hg := Nat.lt_of_succ_lt_succ hg
      have har : Alp r := fun d hd => ha d (List.mem_cons_of_mem _ hd)
      by_cases hc : c ∈ LET
      rotate_left
      · obtain ⟨t, k, ht, hno⟩ := tokAt_noLet (r := r) hc
        rw [lexF_step ht, gr_no hc]; exact mbN fun ts => pT_no (letAt_no hno)
      rcases lex_let (f := f) (e := e) (r := r) (K := parT (g + 1)) hc (fun t ts h => pT_no (letAt_no h)) with ⟨d, r', rfl, hd, h⟩ | ⟨hr, hl⟩
      · rw [h, gr_tail hc (fun e => absurd (e ▸ hd) (by decide)), tail_no hd]
      rw [hl]
      have tl : ∀ {r' : List Nat} {f e : Nat} {p : Nat × Nat}, r'.length ≤ n → Alp r' → r'.length ≤ f → r'.length ≤ g → (∀ d, r'.head? = some d → d ∉ LD) → (lexF f r' e).bind (tailT (parT g) p) = tailC (grF g) p r' := fun h1 h2 h3 h4 h5 => tl_gr (fun x f e => ih x f g e) h1 h2 h3 (Nat.lt_succ_of_le h4) h5
      cases r with
      | nil => rw [lexF_end, gr_one hc]; rfl
      | cons d r' =>
        have hdA := har d (List.mem_cons_self ..)
        by_cases h45 : d = 45
        rotate_left
        · rw [gr_tail hc h45, ← tl hx har hf (Nat.le_of_lt hg) hr]
          obtain ⟨f, rfl⟩ : ∃ k, f = k + 1 := ⟨f - 1, (Nat.succ_pred_eq_of_pos (Nat.lt_of_lt_of_le (Nat.succ_pos _) hf)).symm⟩
          exact mb fun ts hq => pT_one (hd_45 hdA (hr d rfl) h45 hq)
        subst h45
        obtain ⟨f, rfl⟩ : ∃ k, f = k + 1 := ⟨f - 1, (Nat.succ_pred_eq_of_pos (Nat.lt_of_lt_of_le (Nat.succ_pos _) hf)).symm⟩
        have hl2 : lexF (f + 1) (45 :: r') (e + 1) = (lexF f r' (e + 1 + 1)).map ((.op [45], e + 1) :: ·) := by
          rcases tok_mark hdA (hr 45 rfl) f (e + 1) (r := r') with ⟨_, hl, _⟩ | ⟨h, _⟩
          · exact hl
          · cases h
        rw [hl2, Option.map_map]
        have hx := Nat.le_of_succ_le hx
        have hf := Nat.le_of_succ_le_succ hf
        have hg := Nat.le_of_lt (Nat.lt_of_succ_lt hg)
        have har : Alp r' := fun d hd => har d (List.mem_cons_of_mem _ hd)
        cases r' with
        | nil => rw [lexF_end, gr_end hc]; rfl
        | cons c2 r2 =>
          obtain ⟨f, rfl⟩ : ∃ k, f = k + 1 := ⟨f - 1, (Nat.succ_pred_eq_of_pos (Nat.lt_of_lt_of_le (Nat.succ_pos _) hf)).symm⟩
          by_cases hc2 : c2 ∈ LET
          rotate_left
          · obtain ⟨t, k, ht, hno⟩ := tokAt_noLet (r := r2) hc2
            rw [lexF_step ht, gr_bad hc hc2, Option.map_map]; exact mbN fun ts => pT_two (letAt_no hno)
          rw [gr_pair hc hc2]
          rcases lex_let (f := f) (e := e + 1 + 1) (r := r2) (K := fun ts => parT (g + 1) ((.name [c], e) :: (.op [45], e + 1) :: ts)) hc2 (fun t ts h => pT_two (letAt_no h)) with ⟨d, r', rfl, hd, h⟩ | ⟨hr2, hl3⟩
          · rw [tail_no hd, ← h]; exact mb fun _ _ => rfl
          · rw [hl3, ← tl (Nat.le_of_succ_le hx) (fun d hd => har d (List.mem_cons_of_mem _ hd)) (Nat.le_of_succ_le_succ hf) (Nat.le_of_succ_le hg) hr2, Option.map_map]
            exact mb fun _ _ => rfl
theorem itemT_len {ts ts' : List (Tk × Nat)} {p : Nat × Nat} (h : itemT ts = some (p, ts')) : ts'.length + 1 ≤ ts.length := by
  unfold itemT at h
  cases hl : letAt ts 0 with
  | none => rw [hl] at h; cases h
  | some c =>
    rw [hl] at h
    have h0 := letAt_lt hl
    dsimp only at h
    split at h
    · cases h2 : letAt ts 2 with
      | none => rw [h2] at h; cases h
      | some d =>
        rw [h2] at h; cases h
        have := letAt_lt h2
        rw [List.length_drop]; lia
    · cases h; rw [List.length_drop]; omega
theorem parT_fuel : ∀ (f g : Nat) (ts : List (Tk × Nat)), ts.length < f → ts.length < g → parT f ts = parT g ts
  | 0, _, _, h, _ => by lia
  | _, 0, _, _, h => by lia
  | f + 1, g + 1, ts, hf, hg => by
    rw [parT, parT]
    cases h : itemT ts with
    | none => rfl
    | some q =>
      obtain ⟨p, ts'⟩ := q
      have hl := itemT_len h
      dsimp only
      unfold tailT
      by_cases h44 : isOp ts' 0 [44] = true
      · rw [if_pos h44, if_pos h44, parT_fuel f g (ts'.drop 1) (by rw [List.length_drop]; lia) (by rw [List.length_drop]; lia)]
      · rw [if_neg h44, if_neg h44]
noncomputable def gr40 : List Nat → Option (List (Nat × Nat))
  | [] => none
  | c :: y => if c = 40 then grF (y.length + 1) y else none
theorem lettersF_gr {x : List Nat} (ha : Alp x) : lettersF x = gr40 x := by
  unfold lettersF
  cases x with
  | nil => rfl
  | cons c y =>
    rw [gr40]
    have hy : Alp y := fun z hz => ha z (List.mem_cons_of_mem _ hz)
    have no : ∀ (t : Tk) (k : Nat), tokAt (c :: y) = some (t, k) → t ≠ .op [40] → (lexF (c :: y).length (c :: y) 0).bind parsP = none := by
      intro t k ht hne
      rw [List.length_cons, lexF_step ht]
      cases lexF y.length ((c :: y).drop k) (0 + k) with
      | none => rfl
      | some ts =>
        simp only [Option.map_some, Option.bind_some]
        rw [parsP_T, if_neg]
        unfold isOp
        cases t with
        | op s =>
          show ¬ (s == [40]) = true
          intro e; rw [beq_iff_eq] at e; exact hne (by rw [e])
        | _ => exact nofun
    by_cases hc : c = 40
    · subst hc
      rw [if_pos rfl, List.length_cons, lexF_step tok_open]
      show ((lexF y.length y (0 + 1)).map _).bind _ = _
      rw [← lex_gr y.length y y.length (y.length + 1) (0 + 1) (Nat.le_refl _) hy (Nat.le_refl _) (Nat.lt_succ_self _)]
      cases hq : lexF y.length y (0 + 1) with
      | none => rfl
      | some ts =>
        have hl := lexF_len hq
        simp only [Option.map_some, Option.bind_some]
        rw [parsP_T, if_pos (by rfl)]
        show parT _ ts = _
        exact parT_fuel _ _ ts (by simp; lia) (by lia)
    · rw [if_neg hc]
      by_cases hL : c ∈ LD
      · rcases List.mem_append.mp hL with h | h
        · rw [tokAt.eq_def] at no
          dsimp only at no
          rw [if_pos h] at no
          by_cases h6 : runLen LD (c :: y) > 6
          · have : tokAt (c :: y) = none := by rw [tokAt, if_pos h, if_pos h6]
            rw [List.length_cons, lexF_none this]; rfl
          · rw [if_neg h6] at no
            exact no _ _ rfl nofun
        · rw [tokAt.eq_def] at no
          dsimp only at no
          rw [if_neg (dig_let h), if_pos h] at no
          unfold numAt at no
          split at no
          · exact no _ _ rfl nofun
          · exact no _ _ rfl nofun
      · have hL' : c ∉ LET := fun h => hL (let_LD h)
        have hD' : c ∉ DIG := fun h => hL (dig_LD h)
        by_cases h42 : c = 42 ∧ y.head? = some 42
        · exact no (.op [42, 42]) 2 (by rw [tokAt, if_neg hL', if_neg hD', if_pos h42]) nofun
        · exact no (.op [c]) 1 (tokAt_op hL' hD' h42) (by intro e; injection e with e; injection e with e; exact hc e)
theorem jn_spC (s : Nat) (x : List Nat) : jn [s] (spC s x) = x := by
  induction x with
  | nil => rfl
  | cons c r ih =>
    have hne := spC_ne s r
    rw [spC]
    by_cases h : c = s
    · rw [if_pos h]
      obtain ⟨a, l, hl⟩ := List.exists_cons_of_ne_nil hne
      rw [hl] at ih ⊢
      rw [jn, ih, h]; rfl
    · rw [if_neg h]
      obtain ⟨a, l, hl⟩ := List.exists_cons_of_ne_nil hne
      rw [hl] at ih ⊢
      dsimp only
      cases l with
      | nil => rw [jn] at ih ⊢; rw [ih]
      | cons b l => rw [jn] at ih ⊢; rw [List.cons_append, List.cons_append, ih]
noncomputable def itemA (a : List Nat) : Option (Nat × Nat) := match a with
  | [u] => if u ∈ LET then some (u, u) else none
  | [u, k, v] => if u ∈ LET ∧ k = 45 ∧ v ∈ LET then some (u, v) else none
  | _ => none
theorem let45 {u : Nat} (h : u ∈ LET) : u ≠ 45 := by rintro rfl; exact absurd h (by decide)
theorem itemA_some {a : List Nat} {p : Nat × Nat} (h : itemA a = some p) : (∃ u, u ∈ LET ∧ a = [u] ∧ p = (u, u)) ∨ ∃ u v, u ∈ LET ∧ v ∈ LET ∧ a = [u, 45, v] ∧ p = (u, v) := by
  rcases a with _ | ⟨u, _ | ⟨k, _ | ⟨v, _ | ⟨w, r⟩⟩⟩⟩
  · cases h
  · have h : (if u ∈ LET then some (u, u) else none) = some p := h
    by_cases hu : u ∈ LET
    · rw [if_pos hu] at h; exact .inl ⟨u, hu, rfl, (Option.some.inj h).symm⟩
    · rw [if_neg hu] at h; cases h
  · cases h
  · have h : (if u ∈ LET ∧ k = 45 ∧ v ∈ LET then some (u, v) else none) = some p := h
    by_cases hu : u ∈ LET ∧ k = 45 ∧ v ∈ LET
    · rw [if_pos hu] at h; exact .inr ⟨u, v, hu.1, hu.2.2, by rw [hu.2.1], (Option.some.inj h).symm⟩
    · rw [if_neg hu] at h; cases h
  · cases h
theorem partF_eq (a : List Nat) : partF a = itemA a := by
  have hj := jn_spC 45 a
  by_cases hg : (spC 45 a).length > 2 ∨ (spC 45 a).filter (fun e => !okEnd e) ≠ []
  · -- refused
    have h1 : partF a = none := by unfold partF; rw [if_pos hg]
    rw [h1]
    cases h : itemA a with
    | none => rfl
    | some p =>
      exfalso
      rcases itemA_some h with ⟨u, hu, rfl, _⟩ | ⟨u, v, hu, hv, rfl, _⟩
      · rw [show spC 45 [u] = [[u]] from spC_free (by simpa using (let45 hu).symm)] at hg
        rcases hg with hg | hg
        · simp at hg
        · simp [okEnd, hu] at hg
      · have := spC_cut (s := 45) (x := [u]) (y := [v]) (by simpa using (let45 hu).symm)
        rw [show [u] ++ 45 :: [v] = [u, 45, v] from rfl] at this
        rw [this, spC_free (by simpa using (let45 hv).symm)] at hg
        rcases hg with hg | hg
        · simp at hg
        · simp [okEnd, hu, hv] at hg
  · -- taken
    have hne := spC_ne 45 a
    rw [not_or, Classical.not_not] at hg
    have hall : ∀ e ∈ spC 45 a, ∃ c, c ∈ LET ∧ e = [c] := fun e he => okEnd_inv (List.filter_eq_nil_iff.mp hg.2 e he)
    have h1 : partF a = some (((spC 45 a).headD []).headD 0, ((spC 45 a).getLastD []).headD 0) := by unfold partF; rw [if_neg (by rw [not_or, Classical.not_not]; exact hg)]
    rw [h1]
    generalize spC 45 a = L at *
    rcases L with _ | ⟨e1, _ | ⟨e2, _ | ⟨e3, L⟩⟩⟩
    · exact absurd rfl hne
    · obtain ⟨u, hu, rfl⟩ := hall e1 (.head _)
      rw [← hj, jn]
      exact (if_pos hu).symm
    · obtain ⟨u, hu, rfl⟩ := hall e1 (.head _)
      obtain ⟨v, hv, rfl⟩ := hall e2 (.tail _ (.head _))
      rw [← hj]
      exact (if_pos ⟨hu, rfl, hv⟩).symm
    · exact absurd (by simp) hg.1
theorem tail_none {K : List Nat → Option (List (Nat × Nat))} {p : Nat × Nat} {d : Nat} {r : List Nat} (h44 : d ≠ 44) (hr : r ≠ []) : tailC K p (d :: r) = none := by
  rw [tailC, if_neg h44, if_neg (fun h => hr h.2)]
theorem item_eq {K : List Nat → Option (List (Nat × Nat))} {a r : List Nat} {s : Nat} (hs : s = 41 ∨ s = 44) (ha : 44 ∉ a) :
    (match itemC (a ++ s :: r) with | none => none | some (p, x') => tailC K p x') = match itemA a with | none => none | some p => tailC K p (s :: r) := by
  have hsL : s ∉ LET := by rcases hs with rfl | rfl <;> decide
  have hs45 : s ≠ 45 := by rcases hs with rfl | rfl <;> decide
  rcases a with _ | ⟨c, _ | ⟨d, _ | ⟨e, _ | ⟨h, a'⟩⟩⟩⟩
  · rw [List.nil_append, itemC.eq_def]; dsimp only; rw [if_neg hsL]; rfl
  · rw [show [c] ++ s :: r = c :: s :: r from rfl, itemC.eq_def]
    unfold itemA
    dsimp only
    by_cases hc : c ∈ LET
    · rw [if_pos hc, if_neg hs45, if_pos hc]
    · rw [if_neg hc, if_neg hc]
  · rw [show [c, d] ++ s :: r = c :: d :: s :: r from rfl, itemC.eq_def]
    unfold itemA
    dsimp only
    by_cases hc : c ∈ LET
    · rw [if_pos hc]
      by_cases hd : d = 45
      · rw [if_pos hd, if_neg hsL]
      · rw [if_neg hd]
        exact tail_none (by rintro rfl; simp at ha) (by simp)
    · rw [if_neg hc]
  · rw [show [c, d, e] ++ s :: r = c :: d :: e :: s :: r from rfl, itemC.eq_def]
    unfold itemA
    dsimp only
    by_cases hc : c ∈ LET
    · rw [if_pos hc]
      by_cases hd : d = 45
      · rw [if_pos hd]
        by_cases he : e ∈ LET
        · rw [if_pos he, if_pos ⟨hc, hd, he⟩]
        · rw [if_neg he, if_neg (fun h => he h.2.2)]
      · rw [if_neg hd, if_neg (fun h => hd h.2.1)]
        exact tail_none (by rintro rfl; simp at ha) (by simp)
    · rw [if_neg hc, if_neg (fun h => hc h.1)]
  · rw [show c :: d :: e :: h :: a' ++ s :: r = c :: d :: e :: h :: (a' ++ s :: r) from rfl, itemC.eq_def]
    unfold itemA
    dsimp only
    by_cases hc : c ∈ LET
    · rw [if_pos hc]
      by_cases hd : d = 45
      · rw [if_pos hd]
        by_cases he : e ∈ LET
        · rw [if_pos he]
          exact tail_none (by rintro rfl; simp at ha) (by simp)
        · rw [if_neg he]
      · rw [if_neg hd]
        exact tail_none (by rintro rfl; simp at ha) (by simp)
    · rw [if_neg hc]
theorem cut44 (x : List Nat) : 44 ∉ x ∨ ∃ a b, x = a ++ 44 :: b ∧ 44 ∉ a := by
  induction x with
  | nil => exact .inl (by simp)
  | cons c x ih =>
    by_cases hc : c = 44
    · exact .inr ⟨[], x, by rw [hc]; rfl, by simp⟩
    · rcases ih with h | ⟨a, b, rfl, h⟩
      · exact .inl (by simp [h, Ne.symm hc])
      · exact .inr ⟨c :: a, b, rfl, by simp [h, Ne.symm hc]⟩
theorem allP_gr : ∀ (n g : Nat) (x : List Nat), x.length ≤ n → x.length + 1 < g → allP (spC 44 x) = grF g (x ++ [41]) := by
  intro n
  induction n with
  | zero =>
    intro g x hx hg
    have : x = [] := List.eq_nil_of_length_eq_zero (by lia)
    subst this
    obtain ⟨g, rfl⟩ : ∃ k, g = k + 1 := ⟨g - 1, by lia⟩
    rfl
  | succ n ih =>
    intro g x hx hg
    obtain ⟨g, rfl⟩ : ∃ k, g = k + 1 := ⟨g - 1, by lia⟩
    rcases cut44 x with h | ⟨a, b, rfl, h⟩
    · rw [spC_free h, allP, partF_eq, grF, item_eq (.inl rfl) h]
      cases itemA x with
      | none => rfl
      | some p => rfl
    · rw [spC_cut h, allP, partF_eq, grF, List.append_assoc, List.cons_append, item_eq (.inr rfl) h]
      cases itemA a with
      | none => rfl
      | some p =>
        dsimp only
        rw [tailC, if_pos rfl, ih g b (by simp at hx; lia) (by simp at hg; lia)]
theorem itemC_suffix {x x' : List Nat} {p : Nat × Nat} (h : itemC x = some (p, x')) : ∃ a, a ≠ [] ∧ x = a ++ x' := by
  cases x with
  | nil => cases h
  | cons c r =>
    rw [itemC.eq_def] at h
    dsimp only at h
    split at h
    · cases r with
      | nil => cases h; exact ⟨[c], nofun, rfl⟩
      | cons d r' =>
        dsimp only at h
        split at h
        · cases r' with
          | nil => cases h
          | cons c2 r2 =>
            dsimp only at h
            split at h
            · cases h; exact ⟨[c, d, c2], nofun, rfl⟩
            · cases h
        · cases h; exact ⟨[c], nofun, rfl⟩
    · cases h
theorem grF_last : ∀ {g : Nat} {x : List Nat} {ls : List (Nat × Nat)}, grF g x = some ls → 2 ≤ x.length ∧ x.getLast? = some 41
  | 0, x, ls, h => by cases h
  | g + 1, x, ls, h => by
    rw [grF] at h
    cases hi : itemC x with
    | none => rw [hi] at h; cases h
    | some q =>
      obtain ⟨p, x'⟩ := q
      rw [hi] at h
      dsimp only at h
      obtain ⟨a, ha, rfl⟩ := itemC_suffix hi
      have hal := List.length_pos_iff.mpr ha
      cases x' with
      | nil => cases h
      | cons c r =>
        rw [tailC] at h
        refine ⟨by simp; lia, ?_⟩
        split at h
        · cases hr : grF g r with
          | none => rw [hr] at h; cases h
          | some l2 =>
            have := (grF_last hr).2
            rw [List.getLast?_append, List.getLast?_cons, this]; rfl
        · split at h
          · rename_i hc; rw [hc.1, hc.2, List.getLast?_append]; rfl
          · cases h
theorem runsF_gr (x : List Nat) : runsF x = gr40 x := by
  unfold runsF
  cases x with
  | nil => rfl
  | cons c y =>
    rw [gr40]
    by_cases hc : c = 40
    rotate_left
    · rw [if_neg hc, if_pos (.inr (.inl (by intro e; injection e with e; exact hc e)))]
    subst hc
    rw [if_pos rfl]
    by_cases hb : (40 :: y).length < 3 ∨ (40 :: y).head? ≠ some 40 ∨ (40 :: y).getLast? ≠ some 41
    · rw [if_pos hb]
      cases hg : grF (y.length + 1) y with
      | none => rfl
      | some ls =>
        exfalso
        obtain ⟨h1, h2⟩ := grF_last hg
        rcases hb with hb | hb | hb
        · simp at hb; lia
        · exact hb rfl
        · apply hb; rw [List.getLast?_cons, h2]; rfl
    · rw [if_neg hb]
      rw [not_or, not_or, Classical.not_not, Classical.not_not] at hb
      obtain ⟨h1, _, h3⟩ := hb
      have hyne : y ≠ [] := by rintro rfl; simp at h1
      have hy : y = y.dropLast ++ [41] := by
        have := List.dropLast_concat_getLast hyne
        have h4 : y.getLast hyne = 41 := by
          have e : (40 :: y).getLast? = some (y.getLast hyne) := by rw [List.getLast?_cons, List.getLast?_eq_some_getLast hyne]; rfl
          rw [e] at h3; injection h3
        rw [h4] at this; exact this.symm
      have hin : ((40 :: y).drop 1).take ((40 :: y).length - 2) = y.dropLast := by
        rw [List.drop_succ_cons, List.drop_zero, List.dropLast_eq_take]; rfl
      rw [hin]
      conv => rhs; rw [hy]
      refine allP_gr _ _ _ (Nat.le_refl _) ?_
      simp at h1 ⊢ <;> omega
theorem letters_eq {x : List Nat} (ha : Alp x) : lettersF x = runsF x := (lettersF_gr ha).trans (runsF_gr x).symm
end P279
end
section
open PySem PySem.W PyProof.Rows PySem.Spec PySem.Calls PySem.Builtin PySem.Builtin.Str
namespace P279
noncomputable def bal : Int → List Nat → Option Int
  | d, [] => some d
  | d, c :: r => if lspS d c < 0 then none else bal (lspS d c) r
theorem bal_append (a b : List Nat) : ∀ d, bal d (a ++ b) = (bal d a).bind fun e => bal e b := by
  induction a with
  | nil => intro d; rfl
  | cons c a ih =>
    intro d
    rw [List.cons_append, bal, bal]
    split
    · rfl
    · exact ih _
theorem lspS_flat {c : Nat} (d : Int) (h : c ≠ 40 ∧ c ≠ 41) : lspS d c = d := by
  unfold lspS; rw [if_neg h.1, if_neg h.2]; lia
theorem bal_flat {a : List Nat} (h : ∀ c ∈ a, c ≠ 40 ∧ c ≠ 41) {d : Int} (hd : 0 ≤ d) : bal d a = some d := by
  induction a with
  | nil => rfl
  | cons c a ih =>
    rw [bal, lspS_flat d (h c (List.mem_cons_self ..)), if_neg (by lia)]
    exact ih fun c hc => h c (List.mem_cons_of_mem _ hc)
theorem bal_par {a : List Nat} (h : ∀ c ∈ a, c ≠ 40 ∧ c ≠ 41) (b : List Nat) : bal 0 (40 :: (a ++ 41 :: b)) = bal 0 b := by
  rw [bal, show lspS 0 40 = 1 from rfl, if_neg (by decide), bal_append, bal_flat h (by decide)]
  show bal 1 (41 :: b) = _
  rw [bal, show lspS 1 41 = 0 from rfl, if_neg (by decide)]
theorem dep_lsp {d : Int} {c : Nat} (hd : 0 ≤ d) (h : ¬ lspS d c < 0) : (depStep d c).1 = lspS d c ∧ (c = 44 → (depStep d c).2 = lspS d c) := by
  unfold depStep lspS at *
  by_cases h40 : c = 40
  · subst h40
    rw [if_pos ⟨rfl, hd⟩]
    exact ⟨by simp, fun h => (by cases h)⟩
  · rw [if_neg (fun h => h40 h.1)]
    by_cases h41 : c = 41
    · subst h41
      by_cases hd0 : 0 < d
      · rw [if_pos ⟨rfl, hd0⟩]
        exact ⟨by simp; lia, fun h => by cases h⟩
      · exfalso; apply h; simp; omega
    · rw [if_neg (fun h => h41 h.1), if_neg h41, if_neg h40, if_neg h41]
      exact ⟨by simp, fun _ => by simp⟩
theorem dep_neg {d : Int} {c : Nat} (hd : 0 ≤ d) (h : lspS d c < 0) : c = 41 ∧ d = 0 := by
  unfold lspS at h
  by_cases h40 : c = 40
  · rw [if_pos h40] at h; subst h40; simp at h; lia
  · rw [if_neg h40] at h
    by_cases h41 : c = 41
    · rw [if_pos h41] at h; exact ⟨h41, by lia⟩
    · rw [if_neg h41] at h; lia
theorem spl_neg {d : Int} (hd : d < 0) : ∀ (x acc : List Nat), spl d acc x = [acc ++ x] ∨ ∃ d' : Int, d' < 0 ∧ spl d acc x = [acc ++ x] := by
  intro x
  induction x generalizing d with
  | nil => intro acc; exact .inl (by rw [spl, List.append_nil])
  | cons c x ih =>
    intro acc
    have h2 : (depStep d c).1 < 0 ∧ (depStep d c).2 < 0 := by
      unfold depStep
      rw [if_neg (fun h => by lia)]
      rw [if_neg (fun h => by lia)]
      split
      · exact ⟨by decide, by decide⟩
      · exact ⟨hd, hd⟩
    rw [spl, if_neg (fun h => by lia)]
    rcases ih h2.1 (acc ++ [c]) with h | ⟨_, _, h⟩ <;> (left; rw [h]; simp)
theorem cut_eq : ∀ (x : List Nat) (d : Int) (acc : List Nat), 0 ≤ d → bal 0 acc = some d →
    (∀ ps e, lsp d acc x = some (ps, e) → spl d acc x = ps ∧ ∃ qs p, ps = qs ++ [p] ∧ bal 0 p = some e) ∧
    (lsp d acc x = none → ∃ qs p, spl d acc x = qs ++ [p] ∧ bal 0 p = none) := by
  intro x
  induction x with
  | nil =>
    intro d acc hd hb
    exact ⟨fun ps e h => by rw [lsp] at h; cases h; exact ⟨rfl, [], acc, rfl, hb⟩, fun h => by rw [lsp] at h; cases h⟩
  | cons c x ih =>
    intro d acc hd hb
    rw [lsp]
    by_cases hn : lspS d c < 0
    · rw [if_pos hn]
      refine ⟨fun ps e h => (by cases h), fun _ => ?_⟩
      obtain ⟨rfl, rfl⟩ := dep_neg hd hn
      rw [spl, if_neg (fun h => by cases h.1)]
      have hz : (depStep 0 41).1 < 0 := by decide
      have : spl (depStep 0 41).1 (acc ++ [41]) x = [acc ++ [41] ++ x] := by rcases spl_neg hz x (acc ++ [41]) with h | ⟨_, _, h⟩ <;> exact h
      rw [this]
      refine ⟨[], _, rfl, ?_⟩
      rw [List.append_assoc, bal_append, hb]
      show bal 0 (41 :: x) = none
      rw [bal, if_pos hn]
    · rw [if_neg hn]
      obtain ⟨h1, h2⟩ := dep_lsp hd hn
      rw [spl, h1]
      by_cases hc : c = 44 ∧ lspS d c = 0
      · rw [if_pos hc, if_pos ⟨hc.1, by rw [h2 hc.1]; exact hc.2⟩]
        obtain ⟨i1, i2⟩ := ih (lspS d c) [] (by lia) (by rw [hc.2]; rfl)
        refine ⟨fun ps e h => ?_, fun h => ?_⟩
        · cases hq : lsp (lspS d c) [] x with
          | none => rw [hq] at h; cases h
          | some q =>
            obtain ⟨ps', e'⟩ := q
            rw [hq] at h; cases h
            obtain ⟨q1, qs, p, q2, q3⟩ := i1 ps' e' hq
            exact ⟨by rw [q1], acc :: qs, p, by rw [q2]; rfl, q3⟩
        · cases hq : lsp (lspS d c) [] x with
          | some q => rw [hq] at h; cases h
          | none =>
            obtain ⟨qs, p, q1, q2⟩ := i2 hq
            exact ⟨acc :: qs, p, by rw [q1]; rfl, q2⟩
      · rw [if_neg hc, if_neg (fun h => hc ⟨h.1, by rw [← h2 h.1]; exact h.2⟩)]
        refine ih (lspS d c) (acc ++ [c]) (by lia) ?_
        rw [bal_append, hb]
        show bal d [c] = _
        rw [bal, if_neg hn]; rfl
theorem item_flat {a : List Nat} {q : Nat × Nat} (h : itemA a = some q) : ∀ c ∈ a, c ≠ 40 ∧ c ≠ 41 := by
  have hl : ∀ u, u ∈ LET → u ≠ 40 ∧ u ≠ 41 := fun u hu => let ⟨a, b, _⟩ := let_ne (let_LD hu); ⟨a, b⟩
  rcases itemA_some h with ⟨u, hu, rfl, _⟩ | ⟨u, v, hu, hv, rfl, _⟩
  · intro c hc; cases List.mem_singleton.mp hc; exact hl _ hu
  · intro c hc
    rcases List.mem_cons.mp hc with rfl | hc
    · exact hl _ hu
    rcases List.mem_cons.mp hc with rfl | hc
    · exact ⟨by decide, by decide⟩
    · cases List.mem_singleton.mp hc; exact hl _ hv
theorem allP_mem {ps : List (List Nat)} {ls : List (Nat × Nat)} (h : allP ps = some ls) : ∀ p ∈ ps, ∃ q, itemA p = some q := by
  induction ps generalizing ls with
  | nil => intro p hp; simp at hp
  | cons p ps ih =>
    intro r hr
    rw [allP] at h
    cases hp : partF p with
    | none => rw [hp] at h; cases h
    | some q =>
      rw [hp] at h
      dsimp only at h
      cases ha : allP ps with
      | none => rw [ha] at h; cases h
      | some l2 =>
        rcases List.mem_cons.mp hr with rfl | hr
        · exact ⟨q, by rw [← partF_eq]; exact hp⟩
        · exact ih ha r hr
theorem mem_spC {s c : Nat} {x : List Nat} (h : c ∈ x) : c = s ∨ ∃ p ∈ spC s x, c ∈ p := by
  induction x with
  | nil => simp at h
  | cons d x ih =>
    rw [spC]
    by_cases hd : d = s
    · rw [if_pos hd]
      rcases List.mem_cons.mp h with rfl | h
      · exact .inl hd
      · rcases ih h with h | ⟨p, hp, hc⟩
        · exact .inl h
        · exact .inr ⟨p, List.mem_cons_of_mem _ hp, hc⟩
    · rw [if_neg hd]
      obtain ⟨a, l, hl⟩ := List.exists_cons_of_ne_nil (spC_ne s x)
      rw [hl] at ih ⊢
      dsimp only
      rcases List.mem_cons.mp h with rfl | h
      · exact .inr ⟨_, List.mem_cons_self .., List.mem_cons_self ..⟩
      · rcases ih h with h | ⟨p, hp, hc⟩
        · exact .inl h
        · rcases List.mem_cons.mp hp with rfl | hp
          · exact .inr ⟨_, List.mem_cons_self .., List.mem_cons_of_mem _ hc⟩
          · exact .inr ⟨p, List.mem_cons_of_mem _ hp, hc⟩
theorem runs_bal {x : List Nat} {ls : List (Nat × Nat)} (h : runsF x = some ls) : bal 0 x = some 0 := by
  unfold runsF at h
  split at h
  · cases h
  · rename_i hb
    rw [not_or, not_or, Classical.not_not, Classical.not_not] at hb
    obtain ⟨h1, h2, h3⟩ := hb
    cases x with
    | nil => cases h2
    | cons c y =>
      cases h2
      have hyne : y ≠ [] := by rintro rfl; simp at h1
      have hy : y = y.dropLast ++ [41] := by
        have := List.dropLast_concat_getLast hyne
        have h4 : y.getLast hyne = 41 := by
          have e : (40 :: y).getLast? = some (y.getLast hyne) := by rw [List.getLast?_cons, List.getLast?_eq_some_getLast hyne]; rfl
          rw [e] at h3; injection h3
        rw [h4] at this; exact this.symm
      have hin : ((40 :: y).drop 1).take ((40 :: y).length - 2) = y.dropLast := by
        rw [List.drop_succ_cons, List.drop_zero, List.dropLast_eq_take]; rfl
      rw [hin] at h
      rw [hy]
      have hf : ∀ c ∈ y.dropLast, c ≠ 40 ∧ c ≠ 41 := by
        intro c hc
        rcases mem_spC (s := 44) hc with rfl | ⟨p, hp, hcp⟩
        · exact ⟨by decide, by decide⟩
        · obtain ⟨q, hq⟩ := allP_mem h p hp
          exact item_flat hq c hcp
      rw [bal_par hf]; rfl
theorem DIG_ne {c : Nat} (h : c ∈ DIG) : c ≠ 40 ∧ c ≠ 41 := let ⟨a, b, _⟩ := let_ne (dig_LD h); ⟨a, b⟩
theorem word_flat {l : List (List Nat × Nat)} (hl : ∀ q ∈ l, ∀ c ∈ q.1, c ≠ 40 ∧ c ≠ 41) {x r : List Nat} {k : Nat} (h : wordAt l x = some (k, r)) : ∃ w, x = w ++ r ∧ ∀ c ∈ w, c ≠ 40 ∧ c ≠ 41 := by
  induction l with
  | nil => cases h
  | cons q l ih =>
    obtain ⟨w, k'⟩ := q
    rw [wordAt] at h
    split at h
    · rename_i hw
      cases h
      exact ⟨w, by conv => lhs; rw [← List.take_append_drop w.length x, hw]
                , hl _ (List.mem_cons_self ..)⟩
    · exact ih (fun q hq => hl q (List.mem_cons_of_mem _ hq)) h
theorem WRDS_flat : ∀ q ∈ WRDS, ∀ c ∈ q.1, c ≠ 40 ∧ c ≠ 41 := by decide
end P279
end
section
open PySem PySem.W PyProof.Rows PySem.Spec PySem.Calls PySem.Builtin PySem.Builtin.Str
namespace P279
theorem runLen_split {signs : List Nat} (l : List Nat) : (∀ c ∈ l.take (runLen signs l), c ∈ signs) ∧ ∀ c, (l.drop (runLen signs l)).head? = some c → c ∉ signs := by
  induction l with
  | nil => exact ⟨fun c h => by simp at h, fun c h => by cases h⟩
  | cons x l ih =>
    rw [runLen_cons]
    by_cases hx : x ∈ signs
    · rw [if_pos hx, List.take_succ_cons, List.drop_succ_cons]
      refine ⟨fun c hc => ?_, ih.2⟩
      rcases List.mem_cons.mp hc with rfl | hc
      · exact hx
      · exact ih.1 c hc
    · rw [if_neg hx]
      exact ⟨fun c h => by simp at h, fun c h => by cases h; exact hx⟩
theorem find_par {i r : List Nat} (h : 41 ∉ i) : Txt.find (S (42 :: 40 :: (i ++ 41 :: r))) (S [41]) = ((2 + i.length : Nat) : Int) := by
  have := find_in (a := 42 :: 40 :: i) (r := r) (c := 41) (by simp [h])
  rw [show 42 :: 40 :: i ++ 41 :: r = 42 :: 40 :: (i ++ 41 :: r) from rfl] at this
  rw [this]
  congr 1
  simp; lia
theorem size_par {i r : List Nat} (h : 41 ∉ i) (h0 : i ≠ []) : sizeV (42 :: 40 :: (i ++ 41 :: r)) =
    if i.all (fun c => decide (c ∈ DIG)) = true then (true, .tuple [.str "int", .int (NumText.digitsVal i : Nat)], r)
    else (decide (i.headD 0 ∈ LET) && i.all (fun c => decide (c ∈ LD)) && decide (i.length ≤ 6), .tuple [.str "name", .str (S i)], r) := by
  have hl := List.length_pos_iff.mpr h0
  have hk : runLen DIG ((42 :: 40 :: (i ++ 41 :: r)).drop 1) = 0 := by
    show runLen DIG (40 :: (i ++ 41 :: r)) = 0
    rw [runLen_cons, if_neg (by decide)]
  have e1 : ((42 :: 40 :: (i ++ 41 :: r)).drop 2).take (((2 + i.length : Nat) : Int).toNat - 2) = i := by
    rw [Int.toNat_natCast, show 2 + i.length - 2 = i.length by lia]
    show (i ++ 41 :: r).take i.length = i
    exact List.take_left
  have e2 : (42 :: 40 :: (i ++ 41 :: r)).drop (((2 + i.length : Nat) : Int).toNat + 1) = r := by
    rw [Int.toNat_natCast, show 2 + i.length + 1 = i.length + 3 by lia]
    exact rest_in
  unfold sizeV
  rw [if_neg (fun h => h rfl), hk, if_neg (by decide), find_par h, if_neg (by rintro (h | h); exact h rfl; lia), e1, e2]
theorem size_no {y : List Nat} (h0 : runLen DIG y = 0) (h : y.head? ≠ some 40 ∨ Txt.find (S (42 :: y)) (S [41]) < 3) : (sizeV (42 :: y)).1 = false := by
  unfold sizeV
  rw [if_neg (fun h => h rfl), show (42 :: y).drop 1 = y from rfl, h0, if_neg (by decide), if_pos h]
theorem size_num {y : List Nat} (hk : 0 < runLen DIG y) : sizeV (42 :: y) = (!decide (NumText.digitsVal (y.take (runLen DIG y)) = 0), .tuple [.str "int", .int (NumText.digitsVal (y.take (runLen DIG y)) : Nat)], y.drop (runLen DIG y)) := by
  unfold sizeV
  rw [if_neg (show ¬ (42 :: y).head? ≠ some 42 from fun h => h rfl), show (42 :: y).drop 1 = y from rfl, if_pos hk, Nat.add_comm, List.drop_succ_cons]
theorem takeWhile_split {r : List Nat} (h : 41 ∈ r) : ∃ r', r = r.takeWhile (· ≠ 41) ++ 41 :: r' ∧ 41 ∉ r.takeWhile (· ≠ 41) := by
  induction r with
  | nil => simp at h
  | cons c r ih =>
    by_cases hc : c = 41
    · subst hc; exact ⟨r, by simp, by simp⟩
    · have hr : 41 ∈ r := by rcases List.mem_cons.mp h with h | h; exact absurd h.symm hc; exact h
      obtain ⟨r', h1, h2⟩ := ih hr
      have hcd : decide (c ≠ 41) = true := by simpa using hc
      rw [List.takeWhile_cons, if_pos (by simpa using hc)]
      refine ⟨r', by rw [List.cons_append, ← h1], fun hm => ?_⟩
      rcases List.mem_cons.mp hm with hm | hm
      · exact hc hm.symm
      · exact h2 hm
theorem head_class {rest : List Nat} (hs : ∀ r, rest = 42 :: 40 :: r → 41 ∈ r → okI (inn r) = true) : ∃ q, HeadIn rest q ∧ SizeOf q (sizeV rest).1 (sizeV rest).2.1 (sizeV rest).2.2 := by
  have eqv_none : PyData.eqv .none (.str (S [42])) = true → False := by simp [PyData.eqv]
  by_cases h42 : rest.head? = some 42
  rotate_left
  · refine ⟨_, HeadIn.plain rest h42, ?_⟩
    unfold SizeOf sizeV
    rw [if_pos h42]
    dsimp only
    rw [if_neg (fun h => eqv_none h)]
    exact ⟨rfl, rfl, rfl⟩
  obtain ⟨y, rfl⟩ : ∃ y, rest = 42 :: y := by cases rest with | nil => cases h42 | cons c y => cases h42; exact ⟨y, rfl⟩
  obtain ⟨s1, s2⟩ := runLen_split (signs := DIG) y
  by_cases hk : 0 < runLen DIG y
  · have hy : y = y.take (runLen DIG y) ++ y.drop (runLen DIG y) := (List.take_append_drop _ _).symm
    have hne : y.take (runLen DIG y) ≠ [] := by
      intro e
      have h1 := congrArg List.length e
      rw [List.length_take] at h1
      have h2 := runLen_le DIG y
      simp only [List.length_nil] at h1
      lia
    have H := HeadIn.num (y.take (runLen DIG y)) (y.drop (runLen DIG y)) hne s1 s2
    rw [← hy] at H
    refine ⟨_, H, ?_⟩
    rw [size_num hk]
    by_cases hz : NumText.digitsVal (y.take (runLen DIG y)) = 0
    · rw [if_pos hz]
      unfold SizeOf; dsimp only; rw [decide_eq_true hz]; rfl
    · rw [if_neg hz]
      unfold SizeOf; dsimp only
      rw [if_neg (by simp [PyData.eqv]), decide_eq_false hz]
      exact ⟨rfl, rfl, rfl⟩
  have hk0 : runLen DIG y = 0 := by lia
  have hyd : ∀ c, y.head? = some c → c ∉ DIG := by rw [hk0, List.drop_zero] at s2; exact s2
  by_cases h40 : y.head? = some 40
  rotate_left
  · refine ⟨none, HeadIn.bare y fun c hc => ⟨hyd c hc, fun e => h40 (by rw [hc, e])⟩, ?_⟩
    exact size_no hk0 (.inl h40)
  obtain ⟨r, rfl⟩ : ∃ r, y = 40 :: r := by cases y with | nil => cases h40 | cons c r => cases h40; exact ⟨r, rfl⟩
  by_cases h41 : 41 ∈ r
  rotate_left
  · refine ⟨none, HeadIn.opn r h41, size_no hk0 (.inr ?_)⟩
    rw [find_not (by simp [h41])]; decide
  have hok := hs r rfl h41
  obtain ⟨r', hr, hn41⟩ := takeWhile_split h41
  have hinn : inn r = r.takeWhile (· ≠ 41) := by unfold inn; rw [if_pos h41]
  rw [hinn] at hok
  generalize r.takeWhile (· ≠ 41) = i at *
  subst hr
  cases i with
  | nil =>
    refine ⟨none, HeadIn.empty r', size_no hk0 (.inr ?_)⟩
    have := find_par (i := []) (r := r') (by simp)
    rw [List.nil_append] at this ⊢
    rw [this]; decide
  | cons c i =>
    have hsz := size_par (i := c :: i) (r := r') hn41 nofun
    unfold okI at hok
    rw [Bool.and_eq_true] at hok
    obtain ⟨hok1, hok2⟩ := hok
    rw [okD] at hok2
    cases hld : (c :: i).all (fun c => decide (c ∈ LD)) with
    | false =>
      rw [hld, Bool.false_or, beq_iff_eq] at hok1
      rw [hok1] at hsz ⊢
      refine ⟨_, HeadIn.star r', ?_⟩
      have : sizeV (42 :: 40 :: ([42] ++ 41 :: r')) = (false, .tuple [.str "name", .str (S [42])], r') := by rw [hsz]; rfl
      unfold SizeOf
      dsimp only
      rw [if_pos (by simp [PyData.eqv]), this]
    | true =>
      have hall : ∀ d ∈ c :: i, d ∈ LD := fun d hd => by simpa using List.all_eq_true.mp hld d hd
      by_cases hc : c ∈ DIG
      · have hd : (c :: i).all (fun c => decide (c ∈ DIG)) = true := by
          rw [decide_eq_true hc] at hok2; simpa using hok2
        have hdd : ∀ d ∈ c :: i, d ∈ DIG := fun d h => by simpa using List.all_eq_true.mp hd d h
        refine ⟨_, HeadIn.dig (c :: i) r' nofun hdd, ?_⟩
        rw [hsz, if_pos hd]
        unfold SizeOf
        dsimp only
        rw [if_neg (by simp [PyData.eqv])]
        exact ⟨rfl, rfl, rfl⟩
      · have hcL : c ∈ LET := by
          rcases List.mem_append.mp (hall c (List.mem_cons_self ..)) with h | h
          · exact h
          · exact absurd h hc
        have hd : ¬ (c :: i).all (fun c => decide (c ∈ DIG)) = true := by
          intro h; exact hc (by simpa using List.all_eq_true.mp h c (List.mem_cons_self ..))
        refine ⟨_, HeadIn.name c i r' hcL (fun d hd => hall d (List.mem_cons_of_mem _ hd)), ?_⟩
        rw [hsz, if_neg hd, hld, List.headD_cons, decide_eq_true hcL]
        unfold SizeOf
        by_cases h6 : i.length + 1 > 6
        · rw [if_pos h6]; dsimp only
          rw [decide_eq_false (by simp; lia)]; rfl
        · rw [if_neg h6]; dsimp only
          rw [if_neg (by simp [PyData.eqv]), decide_eq_true (by simp; lia)]
          exact ⟨rfl, rfl, rfl⟩
theorem size_bal {rest : List Nat} (h : (sizeV rest).1 = true) : bal 0 rest = bal 0 (sizeV rest).2.2 := by
  by_cases h42 : rest.head? = some 42
  rotate_left
  · unfold sizeV; rw [if_pos h42]
  obtain ⟨y, rfl⟩ : ∃ y, rest = 42 :: y := by cases rest with | nil => cases h42 | cons c y => cases h42; exact ⟨y, rfl⟩
  obtain ⟨s1, s2⟩ := runLen_split (signs := DIG) y
  have b42 : ∀ z, bal 0 (42 :: z) = bal 0 z := fun z => by rw [bal, show lspS 0 42 = 0 from rfl, if_neg (by decide)]
  by_cases hk : 0 < runLen DIG y
  · rw [size_num hk, b42]
    conv => lhs; rw [← List.take_append_drop (runLen DIG y) y]
    rw [bal_append, bal_flat (fun c hc => DIG_ne (s1 c hc)) (by decide)]; rfl
  have hk0 : runLen DIG y = 0 := by lia
  by_cases hb : y.head? ≠ some 40 ∨ Txt.find (S (42 :: y)) (S [41]) < 3
  · rw [size_no hk0 hb] at h; cases h
  rw [not_or, Classical.not_not] at hb
  obtain ⟨h40, hf⟩ := hb
  obtain ⟨r, rfl⟩ : ∃ r, y = 40 :: r := by cases y with | nil => cases h40 | cons c r => cases h40; exact ⟨r, rfl⟩
  have h41 : 41 ∈ r := by
    refine Classical.byContradiction fun hn => ?_
    rw [find_not (by simp [hn])] at hf
    exact hf (by decide)
  obtain ⟨r', hr, hn41⟩ := takeWhile_split h41
  generalize r.takeWhile (· ≠ 41) = i at *
  subst hr
  cases i with
  | nil =>
    have := find_par (i := []) (r := r') (by simp)
    rw [List.nil_append] at this hf
    rw [this] at hf
    exact absurd (by decide) hf
  | cons c i =>
    have hsz := size_par (i := c :: i) (r := r') hn41 nofun
    have flat : ∀ (P : List Nat), (∀ d ∈ P, d ≠ 40 ∧ d ≠ 41) → (c :: i).all (fun d => decide (d ∈ P)) = true → bal 0 (42 :: 40 :: (c :: i ++ 41 :: r')) = bal 0 r' := by
      intro P hP hall
      rw [b42]
      exact bal_par (fun d hd => hP d (by simpa using List.all_eq_true.mp hall d hd)) r'
    rw [hsz] at h ⊢
    by_cases hd : (c :: i).all (fun c => decide (c ∈ DIG)) = true
    · rw [if_pos hd]; exact flat DIG (fun d h => DIG_ne h) hd
    · rw [if_neg hd] at h ⊢
      dsimp only at h
      rw [Bool.and_eq_true, Bool.and_eq_true] at h
      exact flat LD (fun d h => let ⟨a, b, _⟩ := let_ne h; ⟨a, b⟩) h.1.2
theorem rule_bal {p : List Nat} {r : Rule} (h : ruleL p = some r) : bal 0 p = some 0 := by
  unfold ruleL at h
  cases hw : wordAt WRDS p with
  | none => rw [hw] at h; cases h
  | some q =>
    obtain ⟨k, rest⟩ := q
    rw [hw] at h
    dsimp only at h
    obtain ⟨w, rfl, hwf⟩ := word_flat WRDS_flat hw
    rw [bal_append, bal_flat hwf (by decide)]
    show bal 0 rest = some 0
    by_cases hk : k = 5
    · rw [if_pos hk] at h
      cases hr : runsF (sizeV rest).2.2 with
      | none => rw [hr] at h; cases h
      | some ls =>
        rw [hr] at h
        dsimp only at h
        split at h
        · rename_i hb
          rw [size_bal hb]; exact runs_bal hr
        · cases h
    · rw [if_neg hk] at h
      cases hr : runsF rest with
      | none => rw [hr] at h; cases h
      | some ls => exact runs_bal hr
theorem parts_eq (x : List Nat) : allR ruleL (spl 0 [] x) = lawR x := by
  obtain ⟨h1, h2⟩ := cut_eq x 0 [] (Int.le_refl _) rfl
  unfold lawR
  cases hq : lsp 0 [] x with
  | none =>
    obtain ⟨qs, p, e1, e2⟩ := h2 hq
    rw [e1, allR_snoc]
    have : ruleL p = none := by
      cases hr : ruleL p with
      | none => rfl
      | some r => rw [rule_bal hr] at e2; cases e2
    rw [this]
    cases allR ruleL qs <;> rfl
  | some q =>
    obtain ⟨ps, e⟩ := q
    obtain ⟨e1, qs, p, e2, e3⟩ := h1 ps e hq
    dsimp only
    rw [e1]
    by_cases he : 0 < e
    · rw [if_pos he, e2, allR_snoc]
      have : ruleL p = none := by
        cases hr : ruleL p with
        | none => rfl
        | some r =>
          rw [rule_bal hr] at e3
          injection e3 with e3
          lia
      rw [this]
      cases allR ruleL qs <;> rfl
    · rw [if_neg he]
theorem spl_sub {x : List Nat} : ∀ {d : Int} {acc p : List Nat}, p ∈ spl d acc x → ∃ a b, acc ++ x = a ++ p ++ b := by
  induction x with
  | nil => intro d acc p h; rw [spl] at h; have := List.mem_singleton.mp h; subst this; exact ⟨[], [], by simp⟩
  | cons c x ih =>
    intro d acc p h
    rw [spl] at h
    split at h
    · rcases List.mem_cons.mp h with rfl | h
      · exact ⟨[], c :: x, by simp⟩
      · obtain ⟨a, b, e⟩ := ih h
        rw [List.nil_append] at e
        exact ⟨acc ++ c :: a, b, by rw [e]; simp⟩
    · obtain ⟨a, b, e⟩ := ih h
      exact ⟨a, b, by rw [← e]; simp⟩
theorem takeWhile_app {r b : List Nat} (h : 41 ∈ r) : (r ++ b).takeWhile (· ≠ 41) = r.takeWhile (· ≠ 41) := by
  induction r with
  | nil => simp at h
  | cons c r ih =>
    rw [List.cons_append, List.takeWhile_cons, List.takeWhile_cons]
    by_cases hc : c = 41
    · rw [if_neg (by simp [hc]), if_neg (by simp [hc])]
    · rw [if_pos (by simpa using hc), if_pos (by simpa using hc), ih (by rcases List.mem_cons.mp h with h | h; exact absurd h.symm hc; exact h)]
theorem part_simple {x r a b : List Nat} (h : simpleB x = true) (e : x = a ++ (42 :: 40 :: r) ++ b) (h41 : 41 ∈ r) : okI (inn r) = true := by
  have hk : a.length < x.length := by rw [e, List.length_append, List.length_append, List.length_cons]; lia
  have h1 := List.all_eq_true.mp h a.length (List.mem_range.mpr hk)
  have e' : x = a ++ (42 :: 40 :: (r ++ b)) := by rw [e]; simp
  have h2 : x[a.length]? = some 42 ∧ x[a.length + 1]? = some 40 := by
    rw [e']
    constructor
    · rw [List.getElem?_append_right (Nat.le_refl _), Nat.sub_self]; rfl
    · rw [List.getElem?_append_right (by lia), show a.length + 1 - a.length = 1 by lia]; rfl
  rw [okAt_yes h2] at h1
  have h3 : x.drop (a.length + 2) = r ++ b := by
    rw [e', ← List.drop_drop, List.drop_left]; rfl
  rw [h3] at h1
  unfold inn at h1 ⊢
  rw [if_pos (List.mem_append_left _ h41), takeWhile_app h41] at h1
  rw [if_pos h41]; exact h1
theorem wordAt_app {l : List (List Nat × Nat)} {x r : List Nat} {k : Nat} (h : wordAt l x = some (k, r)) : ∃ w, x = w ++ r := by
  obtain ⟨n, hn⟩ := wordAt_drop h
  exact ⟨x.take n, by rw [hn, List.take_append_drop]⟩
theorem rule_in {x p : List Nat} (ha : Alp x) (hs : simpleB x = true) (hp : p ∈ spl 0 [] x) : RuleIn p (ruleL p) := by
  obtain ⟨a, b, e⟩ := spl_sub hp
  rw [List.nil_append] at e
  have hpa : Alp p := fun c hc => ha c (by rw [e]; exact List.mem_append_left _ (List.mem_append_right _ hc))
  unfold ruleL
  cases hw : wordAt WRDS p with
  | none => exact RuleIn.no p hw
  | some q =>
    obtain ⟨k, rest⟩ := q
    dsimp only
    obtain ⟨w, rfl⟩ := wordAt_app hw
    have hra : Alp rest := fun c hc => hpa c (List.mem_append_right _ hc)
    by_cases hk : k = 5
    · subst hk
      rw [if_pos rfl]
      obtain ⟨q, hq, hsz⟩ := head_class (rest := rest) (fun r hr h41 => part_simple (x := x) (a := a ++ w) (b := b) hs (by rw [e, hr]; simp) h41)
      have R := RuleIn.chr (w ++ rest) rest q hw hq
      have : (q.bind fun d => if PyData.eqv d.1 (.str (S [42])) = true then none else (lettersF d.2).map fun ls => ((5 : Nat), d.1, ls)) = (match runsF (sizeV rest).2.2 with
          | none => none
          | some ls => if (sizeV rest).1 = true then some (5, (sizeV rest).2.1, ls) else none) := by
        cases q with
        | none =>
          have hb : (sizeV rest).1 = false := hsz
          rw [hb]
          cases runsF (sizeV rest).2.2 <;> rfl
        | some dr =>
          obtain ⟨d, r⟩ := dr
          rw [Option.bind_some]
          dsimp only
          unfold SizeOf at hsz
          dsimp only at hsz
          by_cases hst : PyData.eqv d (.str (S [42])) = true
          · rw [if_pos hst] at hsz ⊢
            rw [hsz]
            cases runsF (sizeV rest).2.2 <;> rfl
          · rw [if_neg hst] at hsz ⊢
            obtain ⟨h1, h2, h3⟩ := hsz
            rw [h1, h2, h3]
            obtain ⟨n, hn⟩ := sizeV_rest rest
            rw [h3] at hn
            rw [letters_eq (by rw [hn]; exact hra.drop n)]
            cases runsF r <;> rfl
      rw [this] at R
      exact R
    · rw [if_neg hk, ← letters_eq hra]
      exact RuleIn.plain _ k rest hw hk
theorem runs_letters {x : List Nat} {ls : List (Nat × Nat)} (h : runsF x = some ls) : ∀ p ∈ ls, p.1 ∈ LET ∧ p.2 ∈ LET := by
  have go : ∀ (ps : List (List Nat)) (ls : List (Nat × Nat)), allP ps = some ls → ∀ p ∈ ls, p.1 ∈ LET ∧ p.2 ∈ LET := by
    intro ps
    induction ps with
    | nil => intro ls h; cases h; intro p hp; simp at hp
    | cons q ps ih =>
      intro ls h
      rw [allP, partF_eq] at h
      cases hq : itemA q with
      | none => rw [hq] at h; cases h
      | some v =>
        rw [hq] at h
        dsimp only at h
        cases ha : allP ps with
        | none => rw [ha] at h; cases h
        | some l2 =>
          rw [ha] at h; cases h
          intro p hp
          rcases List.mem_cons.mp hp with rfl | hp
          · rcases itemA_some hq with ⟨u, hu, _, rfl⟩ | ⟨u, v, hu, hv, _, rfl⟩
            · exact ⟨hu, hu⟩
            · exact ⟨hu, hv⟩
          · exact ih l2 ha p hp
  unfold runsF at h
  split at h
  · cases h
  · exact go _ _ h
end P279
end
section
open PySem PySem.W PyProof.Rows PySem.Spec PySem.Calls PySem.Builtin PySem.Builtin.Str
namespace P279
theorem set_get {α : Type} (l : List α) (n p : Nat) (v : α) : (l.set n v)[p]? = if p = n then (l[p]?).map (fun _ => v) else l[p]? := by
  by_cases h : p = n
  · subst h
    rw [if_pos rfl, List.getElem?_set]
    simp only [if_true]
    by_cases hp : p < l.length
    · rw [if_pos hp, List.getElem?_eq_getElem hp]; rfl
    · rw [if_neg hp, List.getElem?_eq_none (by lia)]; rfl
  · rw [if_neg h, List.getElem?_set_ne (Ne.symm h)]
theorem setR_get {α : Type} {lo n : Nat} {l : List α} {v : α} (p : Nat) : (setR lo n l v)[p]? = if lo ≤ p ∧ p < lo + n then (l[p]?).map (fun _ => v) else l[p]? := by
  induction n with
  | zero => rw [setR, if_neg (by lia)]
  | succ n ih =>
    rw [setR, set_get, ih]
    by_cases h1 : p = lo + n
    · rw [if_pos h1, if_neg (by lia), if_pos (by lia)]
    · rw [if_neg h1]
      by_cases h2 : lo ≤ p ∧ p < lo + n
      · rw [if_pos h2, if_pos (by lia)]
      · rw [if_neg h2, if_neg (by lia)]
structure StOk (s : St) : Prop where
  ok : s.ok
  val : ∃ R : List KD, s.1 = R.map rp ∧ ∀ q ∈ R, IsLen q.2
  dflt : ∀ p, s.2[p]? = some false → s.1[p]? = some (defR p)
theorem st0_ok : StOk st0 := by
  refine ⟨⟨by simp [st0], by simp [st0]⟩, ⟨(List.range 26).map fun p => (if 8 ≤ p ∧ p ≤ 13 then 0 else 1, .none), ?_, ?_⟩, ?_⟩
  · show (List.range 26).map defR = _
    rw [List.map_map]
    apply List.map_congr_left
    intro p hp
    show defR p = .tuple [.int ((if 8 ≤ p ∧ p ≤ 13 then 0 else 1 : Nat) : Int), .none]
    unfold defR
    by_cases h : 8 ≤ p ∧ p ≤ 13
    · rw [if_pos h, if_pos h]; rfl
    · rw [if_neg h, if_neg h]; rfl
  · intro q hq
    obtain ⟨p, _, rfl⟩ := List.mem_map.mp hq
    exact .none
  · intro p h
    have hp : p < 26 := by
      have := (List.getElem?_eq_some_iff.mp h).1
      simpa [st0] using this
    show ((List.range 26).map defR)[p]? = _
    rw [List.getElem?_map, List.getElem?_range hp]; rfl
theorem tell_stOk {k : Nat} {d : PyData} {p : Nat × Nat} {s s' : St} (hd : IsLen d) (h : StOk s) (e : tellS (.tuple [.int k, d]) p s = some s') : StOk s' := by
  refine ⟨tellS_ok h.ok e, ?_, ?_⟩
  · obtain ⟨R, h1, h2⟩ := h.val
    unfold tellS at e
    split at e
    · cases e
    · split at e
      · cases e
      · cases e
        refine ⟨setR (p.1 - 65) (p.2 + 1 - p.1) R (k, d), ?_, ?_⟩
        · dsimp only; rw [h1, setR_map]; rfl
        · intro q hq
          obtain ⟨i, hi⟩ := List.mem_iff_getElem?.mp hq
          rw [setR_get] at hi
          split at hi
          · cases hR : R[i]? with
            | none => rw [hR] at hi; cases hi
            | some z => rw [hR] at hi; cases hi; exact hd
          · exact h2 q (List.mem_of_getElem? hi)
  · intro i hi
    unfold tellS at e
    split at e
    · cases e
    · split at e
      · cases e
      · cases e
        dsimp only at hi ⊢
        rw [setR_get] at hi ⊢
        by_cases hr : p.1 - 65 ≤ i ∧ i < p.1 - 65 + (p.2 + 1 - p.1)
        · rw [if_pos hr] at hi
          cases hT : s.2[i]? with
          | none => rw [hT] at hi; cases hi
          | some z => rw [hT] at hi; cases hi
        · rw [if_neg hr] at hi ⊢
          exact h.dflt i hi
noncomputable def RulesOk (rs : List Rule) : Prop := ∀ r ∈ rs, IsLen r.2.1 ∧ ∀ p ∈ r.2.2, p.1 ∈ LET ∧ p.2 ∈ LET
theorem RulesOk.letters {rs : List Rule} (h : RulesOk rs) : Letters rs := fun q hq p hp => (h q hq).2 p hp
theorem add_stOk {rs : List Rule} (h : RulesOk rs) {s : St} (hs : StOk s) : StOk (addAll (flat rs) s).1 := by
  have go : ∀ (a : List (PyData × (Nat × Nat))) (s : St), (∀ q ∈ a, ∃ (k : Nat) (d : PyData), q.1 = .tuple [.int k, d] ∧ IsLen d) → StOk s → StOk (addAll a s).1 := by
    intro a
    induction a with
    | nil => intro s _ h; exact h
    | cons q a ih =>
      intro s ha hs
      obtain ⟨v, p⟩ := q
      obtain ⟨k, d, hv, hd⟩ := ha _ (List.mem_cons_self ..)
      dsimp only at hv
      subst hv
      rw [addAll]
      cases ht : tellS (.tuple [.int k, d]) p s with
      | none => exact hs
      | some s1 => exact ih s1 (fun q hq => ha q (List.mem_cons_of_mem _ hq)) (tell_stOk hd hs ht)
  refine go _ _ (fun q hq => ?_) hs
  unfold flat at hq
  obtain ⟨r, hr, hq⟩ := List.mem_flatMap.mp hq
  obtain ⟨p, hp, rfl⟩ := List.mem_map.mp hq
  exact ⟨r.1, r.2.1, rfl, (h r hr).1⟩
theorem str_eq_of {x y : Str} (h : (x == y) = true) : x = y := eq_of_beq h
theorem len_eqv {a b : PyData} (ha : IsLen a) (hb : IsLen b) (h : PyData.eqv a b = true) : a = b := by
  cases ha with
  | none => cases hb with
    | none => rfl
    | int n => simp [PyData.eqv] at h
    | name s hs => simp [PyData.eqv] at h
  | int n => cases hb with
    | none => simp [PyData.eqv] at h
    | int m => simp [PyData.eqv, PyData.eqvAll] at h; rw [h]
    | name s hs =>
      simp only [PyData.eqv, PyData.eqvAll, Bool.and_eq_true] at h
      exact absurd h.1 (by decide +kernel)
  | name s hs => cases hb with
    | none => simp [PyData.eqv] at h
    | int n =>
      simp only [PyData.eqv, PyData.eqvAll, Bool.and_eq_true] at h
      exact absurd h.1 (by decide +kernel)
    | name t ht =>
      simp only [PyData.eqv, PyData.eqvAll, Bool.and_eq_true] at h
      rw [S_inj (str_eq_of h.2.1)]
theorem rp_eqv {q q' : KD} (hq : IsLen q.2) (hq' : IsLen q'.2) (h : PyData.eqv (rp q) (rp q') = true) : rp q = rp q' := by
  unfold rp at h ⊢
  simp only [PyData.eqv, PyData.eqvAll, Bool.and_eq_true] at h
  have h1 : ((q.1 : Int)) = q'.1 := by simpa using h.1
  rw [h1, len_eqv hq hq' h.2.1]
noncomputable def stN (R : List KD) (T : List Bool) : Nat → St
  | 0 => st0
  | n + 1 => if T[n]? = some true then match R[n]? with
      | some q => ((stN R T n).1.set n (rp q), (stN R T n).2.set n true)
      | none => stN R T n
    else stN R T n
theorem flat_app (a b : List Rule) : flat (a ++ b) = flat a ++ flat b := by unfold flat; rw [List.flatMap_append]
theorem flat_one (q : KD) (a b : Nat) : flat [(q.1, q.2, [(a, b)])] = [(rp q, (a, b))] := rfl
theorem stN_len {R : List KD} {T : List Bool} : ∀ n, (stN R T n).ok := by
  intro n
  induction n with
  | zero => exact ⟨by simp [stN, st0], by simp [stN, st0]⟩
  | succ n ih =>
    rw [stN]
    split
    · split
      · exact ⟨by rw [List.length_set]; exact ih.1, by rw [List.length_set]; exact ih.2⟩
      · exact ih
    · exact ih
theorem stN_told {R : List KD} {T : List Bool} : ∀ n p, n ≤ p → p < 26 → (stN R T n).2[p]? = some false := by
  intro n
  induction n with
  | zero => intro p _ hp; show (List.replicate 26 false)[p]? = _; rw [List.getElem?_replicate, if_pos hp]
  | succ n ih =>
    intro p h hp
    rw [stN]
    split
    · split
      · dsimp only; rw [set_get, if_neg (by lia)]; exact ih p (by exact Nat.le_of_lt ‹_›) hp
      · exact ih p (by exact Nat.le_of_lt ‹_›) hp
    · exact ih p (by exact Nat.le_of_lt ‹_›) hp
theorem tell_at {v : PyData} {st n : Nat} {G : St} (h1 : 65 ≤ st) (h2 : st ≤ 65 + n) (hG : ∀ p, st - 65 ≤ p → p < 26 → G.2[p]? = some false) (hn : n < 26) : tellS v (st, 65 + n) G = some (setR (st - 65) (n + 1 - (st - 65)) G.1 v, setR (st - 65) (n + 1 - (st - 65)) G.2 true) := by
  unfold tellS
  have hany : ¬ anyT G.2 (st - 65) (n + 1 - (st - 65)) = true := by
    rw [anyT_iff]
    rintro ⟨j, hj, e⟩
    rw [hG (st - 65 + j) (Nat.le_add_right _ _) (Nat.lt_of_lt_of_le (Nat.add_lt_of_lt_sub' hj) hn)] at e
    cases e
  rw [if_neg (Nat.not_lt.mpr h2)]
  dsimp only
  rw [ar_ts h1, if_neg hany]
theorem short_add {R : List KD} {T : List Bool} (hR : R.length = 26) (hT : T.length = 26) (hl : ∀ q ∈ R, IsLen q.2) : ∀ n, n ≤ 26 →
    addAll (flat (shF R T n)) st0 = (stN R T n, true) ∧ (isRun T n = true → ∃ g q' st G, shF R T n = g ++ [(q'.1, q'.2, [(st, 65 + (n - 1))])] ∧ R[n - 1]? = some q' ∧ addAll (flat g) st0 = (G, true) ∧ 65 ≤ st ∧ st ≤ 65 + (n - 1) ∧
      (∀ p, st - 65 ≤ p → p < 26 → G.2[p]? = some false) ∧ stN R T n = (setR (st - 65) (n - (st - 65)) G.1 (rp q'), setR (st - 65) (n - (st - 65)) G.2 true)) := by
  intro n
  induction n with
  | zero => intro _; exact ⟨rfl, fun h => by cases h⟩
  | succ n ih =>
    intro hn
    obtain ⟨i1, i2⟩ := ih (by exact Nat.le_of_lt ‹_›)
    obtain ⟨q, hq⟩ : ∃ q, R[n]? = some q := ⟨_, List.getElem?_eq_getElem (by lia)⟩
    rw [shF, stN]
    by_cases hTn : T[n]? = some true
    rotate_left
    · rw [if_neg hTn, if_neg hTn]
      refine ⟨i1, fun h => ?_⟩
      unfold isRun at h
      rw [Nat.add_sub_cancel, Bool.and_eq_true, beq_iff_eq] at h
      exact absurd h.2 hTn
    rw [if_pos hTn, if_pos hTn, hq]
    dsimp only
    have hqm := List.mem_of_getElem? hq
    by_cases hj : joins R T n q = true
    · rw [if_pos hj]
      unfold joins at hj
      rw [Bool.and_eq_true] at hj
      obtain ⟨g, q', st, G, e1, e2, e3, e4, e5, e6, e7⟩ := i2 hj.1
      have h0 : 0 < n := by have := hj.1; unfold isRun at this; rw [Bool.and_eq_true, decide_eq_true_eq] at this; exact this.1
      rw [e2] at hj
      have hv := rp_eqv (hl q' (List.mem_of_getElem? e2)) (hl q hqm) hj.2
      have hst : lastStart (shF R T n) = st := by rw [e1]; unfold lastStart; rw [List.getLast?_concat]; rfl
      have hdl : (shF R T n).dropLast = g := by rw [e1, List.dropLast_concat]
      have e5 : st ≤ 65 + n := Nat.le_trans e5 (Nat.add_le_add_left (Nat.sub_le _ _) _)
      have hk : st - 65 ≤ n := Nat.sub_le_iff_le_add'.mpr e5
      have htell := tell_at (v := rp q) (n := n) e4 e5 e6 (by assumption)
      have hstate : ((stN R T n).1.set n (rp q), (stN R T n).2.set n true) = (setR (st - 65) (n + 1 - (st - 65)) G.1 (rp q), setR (st - 65) (n + 1 - (st - 65)) G.2 true) := by
        rw [e7, show n + 1 - (st - 65) = (n - (st - 65)) + 1 from Nat.sub_add_comm hk, setR, setR, Nat.add_sub_cancel' hk, hv]
      rw [hst, hdl, hstate]
      refine ⟨?_, fun _ => ⟨g, q, st, G, by rw [Nat.add_sub_cancel], by rw [Nat.add_sub_cancel]; exact hq, e3, e4, e5, e6, rfl⟩⟩
      rw [flat_app, flat_one]
      exact addAll_ok e3 htell
    · rw [if_neg hj]
      have htell := tell_at (v := rp q) (st := 65 + n) (n := n) (G := stN R T n) (by lia) (by lia) (fun p h1 h2 => stN_told n p (by lia) h2) (by assumption)
      rw [Nat.add_sub_cancel_left, Nat.add_sub_cancel_left] at htell
      have hset : ∀ {α : Type} (l : List α) (v : α), setR n 1 l v = l.set n v := fun l v => rfl
      rw [hset, hset] at htell
      refine ⟨?_, fun _ => ⟨shF R T n, q, 65 + n, stN R T n, by rw [Nat.add_sub_cancel], by rw [Nat.add_sub_cancel]; exact hq, i1, by lia, by lia, fun p h1 h2 => stN_told n p (by lia) h2, ?_⟩⟩
      · rw [flat_app, flat_one]
        exact addAll_ok i1 htell
      · rw [Nat.add_sub_cancel_left, Nat.add_sub_cancel_left, hset, hset]
theorem stN_full {s : St} (h : StOk s) {R : List KD} (hR : s.1 = R.map rp) : ∀ n, n ≤ 26 → ∀ p, p < 26 → (stN R s.2 n).1[p]? = (if p < n then s.1[p]? else some (defR p)) ∧ (stN R s.2 n).2[p]? = (if p < n then s.2[p]? else some false) := by
  intro n
  have hRl : R.length = 26 := by have := h.ok.1; rw [hR, List.length_map] at this; exact this
  induction n with
  | zero =>
    intro _ p hp
    rw [if_neg (by lia), if_neg (by lia)]
    refine ⟨?_, stN_told 0 p (Nat.zero_le _) hp⟩
    show ((List.range 26).map defR)[p]? = _
    rw [List.getElem?_map, List.getElem?_range hp]; rfl
  | succ n ih =>
    intro hn p hp
    obtain ⟨i1, i2⟩ := ih (by exact Nat.le_of_lt ‹_›) p hp
    obtain ⟨q, hq⟩ : ∃ q, R[n]? = some q := ⟨_, List.getElem?_eq_getElem (by lia)⟩
    obtain ⟨b, hb⟩ : ∃ b, s.2[n]? = some b := ⟨_, List.getElem?_eq_getElem (by have := h.ok.2; lia)⟩
    rw [stN, hq]
    cases b with
    | true =>
      rw [if_pos hb]
      dsimp only
      rw [set_get, set_get, i1, i2]
      by_cases hpn : p = n
      · subst hpn
        rw [if_pos rfl, if_pos rfl, if_neg (Nat.lt_irrefl p), if_neg (Nat.lt_irrefl p), if_pos (Nat.lt_succ_self p), if_pos (Nat.lt_succ_self p)]
        refine ⟨?_, by rw [hb]; rfl⟩
        rw [hR, List.getElem?_map, hq]; rfl
      · rw [if_neg hpn, if_neg hpn]
        by_cases hlt : p < n
        · rw [if_pos hlt, if_pos hlt, if_pos (by lia), if_pos (by lia)]; exact ⟨rfl, rfl⟩
        · rw [if_neg hlt, if_neg hlt, if_neg (by lia), if_neg (by lia)]; exact ⟨rfl, rfl⟩
    | false =>
      rw [if_neg (by rw [hb]; exact nofun), i1, i2]
      by_cases hpn : p = n
      · subst hpn
        rw [if_neg (Nat.lt_irrefl p), if_neg (Nat.lt_irrefl p), if_pos (Nat.lt_succ_self p), if_pos (Nat.lt_succ_self p), hb, h.dflt p hb]
        exact ⟨rfl, rfl⟩
      · by_cases hlt : p < n
        · rw [if_pos hlt, if_pos hlt, if_pos (by lia), if_pos (by lia)]; exact ⟨rfl, rfl⟩
        · rw [if_neg hlt, if_neg hlt, if_neg (by lia), if_neg (by lia)]; exact ⟨rfl, rfl⟩
theorem list_ext26 {α : Type} {a b : List α} (ha : a.length = 26) (hb : b.length = 26) (h : ∀ p, p < 26 → a[p]? = b[p]?) : a = b := by
  apply List.ext_getElem?
  intro p
  by_cases hp : p < 26
  · exact h p hp
  · rw [List.getElem?_eq_none (by lia), List.getElem?_eq_none (by lia)]
theorem told_anew {s : St} (h : StOk s) {R : List KD} (hR : s.1 = R.map rp) (hl : ∀ q ∈ R, IsLen q.2) : addAll (flat (shF R s.2 26)) st0 = (s, true) := by
  have hRl : R.length = 26 := by have := h.ok.1; rw [hR, List.length_map] at this; exact this
  rw [(short_add hRl h.ok.2 hl 26 (Nat.le_refl _)).1]
  have e1 : (stN R s.2 26).1 = s.1 := list_ext26 (stN_len 26).1 h.ok.1 fun p hp => by rw [(stN_full h hR 26 (Nat.le_refl _) p hp).1, if_pos hp]
  have e2 : (stN R s.2 26).2 = s.2 := list_ext26 (stN_len 26).2 h.ok.2 fun p hp => by rw [(stN_full h hR 26 (Nat.le_refl _) p hp).2, if_pos hp]
  rw [show stN R s.2 26 = s from Prod.ext e1 e2]
theorem short_rules {R : List KD} {T : List Bool} (hR : R.length = 26) (hl : ∀ q ∈ R, IsLen q.2) : ∀ n, n ≤ 26 → RulesOk (shF R T n) ∧ (∀ r ∈ shF R T n, ∀ p ∈ r.2.2, p.1 ∈ LET) := by
  have letN : ∀ n, n < 26 → 65 + n ∈ LET := fun n h => List.mem_of_getElem? (LET_at h)
  intro n
  induction n with
  | zero => intro _; exact ⟨fun r hr => by simp [shF] at hr, fun r hr => by simp [shF] at hr⟩
  | succ n ih =>
    intro hn
    obtain ⟨i1, i2⟩ := ih (by exact Nat.le_of_lt ‹_›)
    rw [shF]
    split
    · split
      · rename_i q hq
        have hqm := hl q (List.mem_of_getElem? hq)
        split
        · rename_i hj
          unfold joins at hj
          rw [Bool.and_eq_true] at hj
          obtain ⟨q', a, hq', hla⟩ := shF_run hR (by exact Nat.le_of_lt ‹_›) hj.1
          have hst : lastStart (shF R T n) = a := by unfold lastStart; rw [hla]; rfl
          have hmem := List.mem_of_getLast? hla
          have haL : a ∈ LET := i2 _ hmem (a, 65 + (n - 1)) (List.mem_cons_self ..)
          rw [hst]
          refine ⟨fun r hr => ?_, fun r hr => ?_⟩
          · rcases List.mem_append.mp hr with hr | hr
            · exact i1 r ((List.dropLast_sublist _).subset hr)
            · have := List.mem_singleton.mp hr; subst this
              exact ⟨hqm, fun p hp => by have := List.mem_singleton.mp hp; subst this; exact ⟨haL, letN n (by assumption)⟩⟩
          · rcases List.mem_append.mp hr with hr | hr
            · exact i2 r ((List.dropLast_sublist _).subset hr)
            · have := List.mem_singleton.mp hr; subst this
              intro p hp; have := List.mem_singleton.mp hp; subst this; exact haL
        · refine ⟨fun r hr => ?_, fun r hr => ?_⟩
          · rcases List.mem_append.mp hr with hr | hr
            · exact i1 r hr
            · have := List.mem_singleton.mp hr; subst this
              exact ⟨hqm, fun p hp => by have := List.mem_singleton.mp hp; subst this; exact ⟨letN n (by assumption), letN n (by assumption)⟩⟩
          · rcases List.mem_append.mp hr with hr | hr
            · exact i2 r hr
            · have := List.mem_singleton.mp hr; subst this
              intro p hp; have := List.mem_singleton.mp hp; subst this; exact letN n (by assumption)
      · exact ⟨i1, i2⟩
    · exact ⟨i1, i2⟩
theorem size_isLen {x : List Nat} (h : (sizeV x).1 = true) : IsLen (sizeV x).2.1 := by
  unfold sizeV at h ⊢
  split
  · exact .none
  · rename_i h1
    rw [if_neg h1] at h
    split
    · exact .int _
    · rename_i h2
      rw [if_neg h2] at h
      split
      · exact .none
      · rename_i h3
        rw [if_neg h3] at h
        split
        · exact .int _
        · rename_i h4
          rw [if_neg h4] at h
          dsimp only at h ⊢
          rw [Bool.and_eq_true, Bool.and_eq_true] at h
          exact .name _ fun c hc => by simpa using List.all_eq_true.mp h.1.2 c hc
theorem ruleL_ok {p : List Nat} {r : Rule} (h : ruleL p = some r) : IsLen r.2.1 ∧ ∀ q ∈ r.2.2, q.1 ∈ LET ∧ q.2 ∈ LET := by
  unfold ruleL at h
  split at h
  · cases h
  · rename_i k rest hw
    split at h
    · split at h
      · cases h
      · rename_i ls hr
        split at h
        · rename_i hb
          cases h
          exact ⟨size_isLen hb, runs_letters hr⟩
        · cases h
    · cases hr : runsF rest with
      | none => rw [hr] at h; cases h
      | some ls => rw [hr] at h; cases h; exact ⟨.none, runs_letters hr⟩
theorem lawR_ok {x : List Nat} {rs : List Rule} (h : lawR x = some rs) : RulesOk rs := by
  have go : ∀ (ps : List (List Nat)) (rs : List Rule), allR ruleL ps = some rs → RulesOk rs := by
    intro ps
    induction ps with
    | nil => intro rs h; cases h; intro r hr; simp at hr
    | cons p ps ih =>
      intro rs h
      rw [allR] at h
      cases hp : ruleL p with
      | none => rw [hp] at h; cases h
      | some q =>
        rw [hp] at h
        dsimp only at h
        cases ha : allR ruleL ps with
        | none => rw [ha] at h; cases h
        | some l =>
          rw [ha] at h; cases h
          intro r hr
          rcases List.mem_cons.mp hr with rfl | hr
          · exact ruleL_ok hp
          · exact ih l ha r hr
  rw [← parts_eq] at h
  exact go _ _ h
theorem sh_rules {rs : List Rule} (h : RulesOk rs) : Sh 4 (.list (rs.map rulePy)) := by
  refine Sh.list fun x hx => ?_
  obtain ⟨r, hr, rfl⟩ := List.mem_map.mp hx
  obtain ⟨h1, h2⟩ := h r hr
  have sgs : ∀ c, c ∈ LET → Sh 0 (.str (S [c])) := fun c hc => Sh.str (strOk_S fun d hd => by have := List.mem_singleton.mp hd; subst this; exact LD_lt (let_LD hc))
  refine Sh.triple Sh.int (h1.sh.le (by decide)) (Sh.list fun y hy => ?_)
  obtain ⟨p, hp, rfl⟩ := List.mem_map.mp hy
  obtain ⟨q1, q2⟩ := h2 p hp
  exact Sh.pair (sgs _ q1) (sgs _ q2)
end P279
end
section
open PySem PySem.W PyProof.Rows PySem.Spec PySem.Calls PySem.Builtin PySem.Builtin.Str
set_option maxHeartbeats 4000000
namespace P279
section
variable {G : Cfg} {c : Act} {m : Loc} {μ μ₂ : Mut}
end
theorem lookup_nd {x : Addr} {y : List PyData} {μ : Mut} (hn : (μ.map (·.1)).Nodup) (h : (x, y) ∈ μ) : μ.lookup x = some y := by
  induction μ with
  | nil => cases h
  | cons z μ ih =>
    rw [List.map_cons, List.nodup_cons] at hn
    rcases List.mem_cons.mp h with h | hm
    · rw [← h]; exact lookup_head
    · have : x ≠ z.1 := fun e => hn.1 (e ▸ List.mem_map_of_mem (f := (·.1)) hm)
      rw [← ih hn.2 hm]
      show (match x == z.1 with | true => some z.2 | false => μ.lookup x) = _
      rw [beq_false_of_ne this]
theorem sh_bools {l : List Bool} : Sh 1 (.list (l.map .bool)) := Sh.list fun x hx => by
  obtain ⟨b, _, rfl⟩ := List.mem_map.mp hx
  exact Sh.bool
theorem StOk.sh {s : St} (h : StOk s) : Sh 3 (.list s.1) := by
  obtain ⟨R, h1, h2⟩ := h.val
  rw [h1]
  refine Sh.list fun x hx => ?_
  obtain ⟨q, hq, rfl⟩ := List.mem_map.mp hx
  exact Sh.pair Sh.int ((h2 q hq).sh)
noncomputable def heardD (r : Option (List Rule)) : PyData := match r with
  | none => .none
  | some rs => .list [.tuple [.str "implicit", .list (rs.map rulePy)]]
theorem heard_sh {x : List Nat} : Sh 6 (heardD (lawR x)) := by
  cases h : lawR x with
  | none => exact Sh.none
  | some rs =>
    refine Sh.list fun y hy => ?_
    have := List.mem_singleton.mp hy; subst this
    exact Sh.pair (Sh.str (by decide +kernel)) (sh_rules (lawR_ok h))
noncomputable abbrev MM (a t r tl o : Addr) (q : List Nat) (s sL : St) : Mut := stMu t r s ++ (stMu tl o sL ++ [(a, nts q)])
theorem MM_law {a t r tl o : Addr} {q : List Nat} {s sL : St} : (MM a t r tl o q s sL).Perm (stMu tl o sL ++ (stMu t r s ++ [(a, nts q)])) := List.perm_append_comm_assoc _ _ _
theorem MM_a {a t r tl o : Addr} {q : List Nat} {s sL : St} : (MM a t r tl o q s sL).Perm ((a, nts q) :: (stMu t r s ++ stMu tl o sL)) := List.perm_append_comm (l₁ := stMu t r s ++ stMu tl o sL) (l₂ := [(a, nts q)])
noncomputable def t508a : List (Str × Ent) := [(".0", .loc), ("number", .loc), ("abs", .blt "abs")]
theorem a508a {G : Cfg} {p : Params} (O : Own G p) : AllOk G t508a := ⟨trivial, trivial, ⟨by rw [O.K]; rfl, by rfl, by decide⟩, trivial⟩
noncomputable def t508b : List (Str × Ent) := [(".0", .loc), ("place", .loc)]
noncomputable def t508c : List (Str × Ent) := [(".0", .loc), ("letter", .loc), ("implicit", .fre)]
theorem Own.cls {G : Cfg} {p : Params} (O : Own G p) : nsIn G.K mainGlobals "Implicit" = some (some (.ref 431)) ∧ keepIn G.K (.ref 431) = true := by rw [O.K]; exact ⟨by rfl, by rfl⟩
theorem Own.gchk {G : Cfg} {p : Params} (O : Own G p) : nsIn G.K mainGlobals "CheckFault" = some (some (.ref 75)) ∧ IsCls G.K 75 ∧ Catches G.K (G.X .chk) 75 := by
  obtain ⟨w, h₀, mg, mb, rfl, rfl⟩ := O.ex
  exact ⟨by rfl, ⟨_, _, _, _, by rfl⟩, catches_chk⟩
theorem Own.madd {G : Cfg} {p : Params} (O : Own G p) : findIn G.K (.ref G.C) "add" = some (some (.ref 421)) ∧ isFn G.K (.ref 421) = true ∧ keepIn G.K (.ref 421) = true := by
  obtain ⟨w, h₀, mg, mb, rfl, rfl⟩ := O.ex
  exact ⟨by rfl, by rfl, by rfl⟩
theorem Own.mof {G : Cfg} {p : Params} (O : Own G p) : findIn G.K (.ref G.C) "of" = some (some (.ref 428)) ∧ isFn G.K (.ref 428) = true ∧ keepIn G.K (.ref 428) = true := by
  obtain ⟨w, h₀, mg, mb, rfl, rfl⟩ := O.ex
  exact ⟨by rfl, by rfl, by rfl⟩
theorem go_newI {Γ : Fr} {sc : List (Str × Ent)} {v : T} (ok : Γ.Ok sc) {G : Cfg} {p : Params} (O : Own G p) {n : Nat} (W : Wk Γ G n) {np pos : Pos} (hx : sc.lookup ("Implicit" : Str) = some .oth) (g : ∀ x r t, r ≠ t → Good Γ (v.k (.inst x r t) (stMu t r st0 ++ v.mu))) (hv : v.o = .ex (.Call (.Name "Implicit" np) [] [] pos)) (hn : 5 ≤ n := by decide) : Good Γ v := by
  obtain ⟨rfl, hr⟩ := W
  cases v with
  | op o m μ k =>
    cases hv
    refine WE_Call (f := 431) (ok.kind hx) O.cls.1 O.cls.2 (WEs_nil ?_) (fun _ _ h => by cases h)
    exact SL_call (μc := []) (μr := μ) (Q := fun d μ => Good Γ (k d μ)) (List.Perm.refl _) hr (CallOK.mono (ok_init O) hn (fun d μ' h => by obtain ⟨x, r, t, rfl, hrt, rfl⟩ := h; exact g x r t hrt) (fun k μ' h => h.elim))
  | _ => cases hv
theorem res_loc {μ : Mut} {a : Addr} {ds : List PyData} (h : μ.lookup a = some ds) : res μ (.loc a) = some (.list ds) := congrArg (Option.map PyData.list) h
theorem go_ne {Γ : Fr} {v : T} {d e : D} {p : PyData} {n : Nat} (hd : res v.mu d = some p) (he : res v.mu e = some p) (hs : Sh n p) (hn : n ≤ 64) (g : Good Γ (v.k (.t (.bool false)) v.mu)) (ho : v.o = .cmp .NotEq d e := by exact rfl) : Good Γ v :=
  go_op _ (fun Q h => by rw [ho]; exact S2_ne hd he (hs.shaped hn) (hs.shaped hn) (by rw [SeqAt.eqv_refl _ hs.1]; exact h)) g
section
variable {G : Cfg} {p : Params}
theorem ok_law (O : Own G p) {ns : List Int} (hn : ns.length ≤ 63) : Ret G 508 [.t (.list (ns.map .int))] 15 (some (.t (.bool true))) := by
  refine retC_body O ["script"] "implicit" t508 (by rfl) (by rfl) (bind1 fun _ => by rfl) rfl (by decide) (by intro L; rfl) (by decide) (by rfl) (by rfl) (by rfl) (a508 O) (fun Γ kk A fr L hc ok W F => ?_)
  have hn12 : (ns.take 12).length ≤ 12 := by rw [List.length_take]; lia
  have hsl : slc (ns.map PyData.int) none (some 12) = (ns.take 12).map .int := by rw [slc_to _ _ (by decide), show (12 : Int).toNat = 12 from rfl, ← List.map_take]
  generalize ns.take 12 = ms at hn12 hsl
  refine go_let ?_; intro vv; refine go_asgCompM ok W [] [] t508a (a508a O) ((ms.map PyData.int).map .t) (fun i out => ∃ q : List Nat, out = nts q ∧ q.length = i) rfl (by rfl) (go_op (.t (.list (ms.map .int))) (fun Q h => WE_SliceList (WE_Local rfl ⟨ns.map .int, rfl, by rw [List.length_map]; exact Nat.le_trans ‹_› (by decide), WE_Int ⟨12, rfl, by show Q (D.t (.list (slc (ns.map PyData.int) none (some 12)))) _; rw [hsl]; exact h⟩⟩ (by decide))) ⟨rfl, trivial, rfl⟩) (by rw [List.length_map, List.length_map]; exact Nat.le_trans ‹_› (by decide)) ⟨[], rfl, rfl⟩ (fun i out h => by obtain ⟨q, rfl, h⟩ := h; rw [nts_length, h]; exact Nat.le_refl _) ?_ ?_ (by rw [hc]; rfl) (.inl rfl) (fun y d h => by cases h) (by rw [hc]; rfl) (by rfl) (nocell (by rfl)) (by rw [hc]; rfl)
  · rintro i y out Γ' D' - hy ⟨q, rfl, hql⟩ ok' - -
    obtain ⟨j, -, rfl⟩ : ∃ j, ms[i]? = some j ∧ y = .t (.int j) := map_at2 hy
    obtain ⟨v, hv⟩ : ∃ v : Nat, (if j < 0 then -j else j).fmod (10 ^ 60) = v := by
      rw [Int.fmod_eq_emod_of_nonneg _ (by decide)]
      exact ⟨((if j < 0 then -j else j) % 10 ^ 60).toNat, by have := Int.emod_nonneg (if j < 0 then -j else j) (show (10 ^ 60 : Int) ≠ 0 by decide); lia⟩
    refine go_let ?_; intro vv; exact go_op (.t (.int (if j < 0 then -j else j))) (fun Q h => SL_abs h) (go_op (.t (.int (10 ^ 60))) (fun Q h => S2_pow10 h) (go_op (.t (.int (v : Nat))) (fun Q h => S2_mod (by decide) (by rw [hv]; exact h)) ⟨rfl, _, rfl, q ++ [v], by unfold nts; rw [List.map_append]; rfl, by simp [hql]⟩))
  rintro out a ha ⟨q0, rfl, hq0⟩
  have hq0 : q0.length ≤ 100 := by rw [hq0, List.length_map, List.length_map]; exact Nat.le_trans ‹_› (by decide)
  refine go_let ?_; intro vv; refine go_newI ok O W (by rfl) (fun x r t hrt => ?_) rfl
  refine go_let ?_; intro vv; refine go_asgCompM ok W [] [] t508b ⟨trivial, trivial, trivial⟩ ((List.range ((26 : Int) - 0).toNat).map fun (k : Nat) => .t (.int ((0 : Int) + k))) (fun i out => out = (List.range i).map defR) rfl (by rfl) ⟨rfl, rng0 (n := 26) (by decide), rfl⟩ (by decide) rfl (fun i out h => by rw [h, List.length_map, List.length_range]; exact Nat.le_refl _) ?_ ?_ (by rw [hc]; rfl) (.inl rfl) (fun y d h => by cases h) (by rw [hc]; rfl) (by rfl) (nocell (by rfl)) (by rw [hc]; rfl)
  · rintro i y out Γ' D' - hy rfl ok' - -
    obtain ⟨hi, rfl⟩ := items_rng (lo := 0) (hi := 26) hy
    rw [show (0 : Int) + (i : Int) = ((i : Nat) : Int) by lia]
    have hR : (List.range (i + 1)).map defR = (List.range i).map defR ++ [defR i] := by rw [List.range_succ, List.map_append]; rfl
    by_cases h8 : 8 ≤ i
    · refine go_let ?_; intro vv; refine go_t (yes (decide_eq_true (show (8 : Int) ≤ i by lia))) ?_
      by_cases h13 : i ≤ 13
      · have hd : defR i = .tuple [.int 0, .none] := by unfold defR; rw [if_pos ⟨h8, h13⟩]
        exact go_t (yes (decide_eq_true (show (i : Int) ≤ 13 by lia))) ⟨rfl, _, rfl, by rw [hR, hd]⟩
      · have hd : defR i = .tuple [.int 1, .none] := by unfold defR; rw [if_neg (fun h => h13 h.2)]
        exact go_f (no (decide_eq_false (show ¬ (i : Int) ≤ 13 by lia))) ⟨rfl, _, rfl, by rw [hR, hd]⟩
    · have hd : defR i = .tuple [.int 1, .none] := by unfold defR; rw [if_neg (fun h => h8 h.1)]
      exact go_f (no (decide_eq_false (show ¬ (8 : Int) ≤ i by lia))) ⟨rfl, _, rfl, by rw [hR, hd]⟩
  rintro out o ho h
  have h : out = st0.1 := h
  subst h
  refine go_let ?_; intro vv; refine go_flist ok (go_mul (ds := [.bool false]) (n := 26) (by decide) (by decide) (by decide) fun tl htl => ?_)
  refine go_let ?_; intro vv; refine go_nd (fun hnd => ?_)
  have hnd : [tl, o, t, r, a].Nodup := hnd
  have hnd' : ∀ q s sL, ((MM a t r tl o q s sL).map (·.1)).Nodup := fun q s sL => (List.perm_append_comm_assoc [t, r] [tl, o] [a]).nodup_iff.mpr hnd
  have hot : o ≠ tl := by rintro rfl; simp at hnd
  refine go_let ?_; intro vv; refine go_forC ok (ι := Nat) (σ := List Nat × St) (fun n => (List.range ((1 + (n : Int)) - 0).toNat).map fun (k : Nat) => .t (.int ((0 : Int) + k))) ["pool", "implicit", "own", "told"] (fun n i s => s.1.length ≤ 100 ∧ StOk s.2) (fun s => s.1.length ≤ 100 ∧ StOk s.2) (fun _ => [.loc a, .inst x r t, .loc o, .loc tl]) (fun s => MM a t r tl o s.1 s.2 s.2) ?_ ?_ (fun _ _ h => h) ?_
  · refine go_let ?_; intro vv; refine go_callP [(a, nts q0)] (stMu t r st0 ++ stMu tl o st0) (ok_take O (a := a) (k := 2) (by decide) (by decide) hq0) W ((MM_law (q := q0) (s := st0) (sL := st0)).symm.trans MM_a) (fun d μ' h => ?_) (fun _ _ h => h.elim)
    obtain ⟨d', q1, h1, rfl, rfl, h2⟩ := h
    exact ⟨MM a t r tl o q1 st0 st0, MM_a.symm, d', rfl, rng_ok (by exact Int.natCast_nonneg _) (by exact Int.natCast_nonneg _) (by exact Int.natCast_nonneg _) (by lia), (q1, st0), ⟨Nat.le_trans h2 hq0, st0_ok⟩, rfl, rfl⟩
  · rintro n i y ⟨q, s⟩ ag out hy ⟨hq, hs⟩ hag hout
    dsimp only at hq hs hag hout
    refine go_callP [(a, nts q)] (stMu t r s ++ stMu tl o s) (ok_law_row O hq) W MM_a (fun d μ' h => ?_) (fun _ _ h => h.elim)
    obtain ⟨x0, q2, ⟨hxl, hxa⟩, rfl, rfl, hq2⟩ := h
    refine ⟨MM a t r tl o q2 s s, MM_a.symm, go_call (ok_law_simple O (by exact Nat.le_trans ‹_› (by decide)) hxa) W ?_⟩
    cases hsim : simpleB x0 with
    | false => exact go_f (no rfl) (hout (q2, s) _ _ ⟨hq2, hs⟩ rfl rfl)
    | true =>
      have himp := ok_parse_implicit O (x := x0) (R := ruleL) (by exact Nat.le_trans ‹_› (by decide)) hxa (fun p hp => rule_in hxa hsim hp)
      rw [parts_eq] at himp
      have hlr := ok_law_rules O (x := x0) (by exact Nat.le_trans ‹_› (by decide)) hxa
      have hsh := heard_sh (x := x0)
      have hrok : RulesOk ((lawR x0).getD []) := by
        cases hq : lawR x0 with
        | none => intro r hr; simp at hr
        | some rs => exact lawR_ok hq
      generalize lawR x0 = R0 at himp hlr hsh hrok
      refine go_t (yes rfl) (go_call hlr W ?_)
      refine go_try ok W (σ := Unit) ["due", "heard", "pool", "implicit", "own", "told"] (fun _ => True) (fun _ => [.t (lawPy R0), .t (heardD R0), .loc a, .inst x r t, .loc o, .loc tl]) (fun _ => MM a t r tl o q2 s s) rfl (en := .oth) (by rfl) rfl O.g77.1 O.g77.2 (fun Γ' ag' ok' W' hag' hE' => ?_) fun _ _ => ?_
      · refine go_add (x := [73,77,80,76,73,67,73,84]) (y := x0) (by simp; lia) (go_callM [] (MM a t r tl o q2 s s) himp W' (List.Perm.refl _) (fun d μ' h => ?_) (fun k μ' h => ?_))
        · obtain ⟨rfl, h⟩ := h
          refine hag' () _ _ trivial ?_ rfl
          cases R0 with
          | none => cases h
          | some rs => cases h; rfl
        · obtain ⟨rfl, h, hk⟩ := h
          have hlaw : R0 = none := by
            cases R0 with
            | none => rfl
            | some rs => cases h
          exact hE' k _ _ (O.catches hk) (WSsM_set (x := "heard") (d := .t .none) (ok.kind (e := .loc) (by rfl)) (.inl ⟨rfl, rfl⟩) ⟨(), trivial, by rw [hlaw]; rfl, rfl⟩)
      refine go_let ?_; intro vv; refine go_fork ok (σ := Unit) ["due", "pool", "implicit", "own", "told"] (fun _ => True) (fun _ => [.t (lawPy R0), .loc a, .inst x r t, .loc o, .loc tl]) (fun _ => MM a t r tl o q2 s s) (fun ag' hag' => ?_) (fun _ _ => ?_)
      · cases R0 with
        | none => exact go_t (yes rfl) (go_ne (d := .t .none) (e := .t .none) (p := .none) rfl rfl hsh (by decide) (go_f (no rfl) (hag' () _ _ trivial rfl rfl)))
        | some rs => exact go_f (no rfl) (go_flist ok (go_ne (p := heardD (some rs)) rfl rfl hsh (by decide) (go_f (no rfl) (hag' () _ _ trivial rfl rfl))))
      refine go_let ?_; intro vv; refine go_valG ok (fun d μ => ∃ s2 b, addAll (flat (R0.getD [])) s = (s2, b) ∧ d = .t (.bool b) ∧ μ = MM a t r tl o q2 s s2) (fun ag' hag' => ?_) ?_
      · have hadd := ok_law_add O (rs := R0.getD []) hot hs.ok hrok.letters
        have fin : ∀ d μ', (∃ s' ok, addAll (flat (R0.getD [])) s = (s', ok) ∧ d = .t (.bool ok) ∧ μ' = stMu tl o s') → ∃ μ₂, (μ' ++ (stMu t r s ++ [(a, nts q2)])).Perm μ₂ ∧ Good Γ (ag' d μ₂) := fun d μ' h => by
          obtain ⟨s2, b, h1, rfl, rfl⟩ := h
          exact ⟨MM a t r tl o q2 s s2, MM_law.symm, hag' _ _ ⟨s2, b, h1, rfl, rfl⟩⟩
        cases R0 with
        | none => refine go_let ?_; intro vv; exact go_f (no rfl) (go_list (go_callP (stMu tl o s) (stMu t r s ++ [(a, nts q2)]) hadd W MM_law fin (fun _ _ h => h.elim)))
        | some rs => refine go_let ?_; intro vv; exact go_t (yes rfl) (go_callP (stMu tl o s) (stMu t r s ++ [(a, nts q2)]) hadd W MM_law fin (fun _ _ h => h.elim))
      rintro _ _ ⟨s2, b, hadd, rfl, rfl⟩
      have hs2 : StOk s2 := by have := add_stOk hrok hs; rw [hadd] at this; exact this
      refine go_let ?_; intro vv; refine go_try ok W (σ := Unit) ["is_told", "was_told", "pool", "implicit", "own", "told"] (fun _ => True) (fun _ => [.t (.bool b), .t (.bool b), .loc a, .inst x r t, .loc o, .loc tl]) (fun _ => MM a t r tl o q2 s2 s2) rfl (en := .exc .chk) (by rfl) rfl O.gchk.1 O.gchk.2.1 (fun Γ' ag' ok' W' hag' hE' => ?_) fun _ _ => ?_
      · have hadd' : CallOK G 421 [.inst x r t, .t (.list ((R0.getD []).map rulePy))] (stMu t r s) 3 (fun d μ' => b = true ∧ μ' = stMu t r s2) (fun k μ' => k = .chk ∧ b = false ∧ μ' = stMu t r s2) := by
          refine CallOK.mono (ok_add O hrt hs.ok hrok.letters) (Nat.le_refl _) (fun d μ' h => ?_) (fun k μ' h => ?_)
          · obtain ⟨_, s3, h3, rfl⟩ := h
            rw [hadd] at h3
            injection h3 with h3 h4
            exact ⟨h4, by rw [h3]⟩
          · obtain ⟨rfl, s3, h3, rfl⟩ := h
            rw [hadd] at h3
            injection h3 with h3 h4
            exact ⟨rfl, h4, by rw [h3]⟩
        refine go_let ?_; intro vv; refine go_inst ok' W' rfl (by rfl) rfl (.inl rfl) O.madd.1 O.madd.2.1 O.madd.2.2 (by rfl) (by intro _; rfl) ?_
        cases R0 with
        | none =>
          refine go_let ?_; intro vv; refine go_f (no rfl) (go_list (go_callM (stMu t r s) (stMu tl o s2 ++ [(a, nts q2)]) hadd' W' (List.Perm.refl _) (fun d μ' h => ?_) (fun k μ' h => ?_)))
          · obtain ⟨rfl, rfl⟩ := h
            exact hag' () _ _ trivial rfl rfl
          · obtain ⟨rfl, rfl, rfl⟩ := h
            exact hE' .chk _ _ O.gchk.2.2 (WSsM_set (x := "was_told") (d := .t (.bool false)) (ok.kind (e := .loc) (by rfl)) (.inr ⟨false, rfl, rfl⟩) ⟨(), trivial, rfl, rfl⟩)
        | some rs =>
          refine go_let ?_; intro vv; refine go_t (yes rfl) (go_callM (stMu t r s) (stMu tl o s2 ++ [(a, nts q2)]) hadd' W' (List.Perm.refl _) (fun d μ' h => ?_) (fun k μ' h => ?_))
          · obtain ⟨rfl, rfl⟩ := h
            exact hag' () _ _ trivial rfl rfl
          · obtain ⟨rfl, rfl, rfl⟩ := h
            exact hE' .chk _ _ O.gchk.2.2 (WSsM_set (x := "was_told") (d := .t (.bool false)) (ok.kind (e := .loc) (by rfl)) (.inr ⟨false, rfl, rfl⟩) ⟨(), trivial, rfl, rfl⟩)
      · exact go_ne (d := .t (.bool b)) (e := .t (.bool b)) (n := 0) rfl rfl Sh.bool (by decide) (go_f (no rfl) (hag (q2, s2) _ _ ⟨hq2, hs2⟩ rfl rfl))
  · rintro ⟨q, s⟩ ⟨hq, hs⟩
    dsimp only at hq hs
    have hlo : (MM a t r tl o q s s).lookup o = some s.1 := lookup_nd (hnd' q s s) (by simp)
    have hltl : (MM a t r tl o q s s).lookup tl = some (s.2.map .bool) := lookup_nd (hnd' q s s) (by simp)
    have hlt : (MM a t r tl o q s s).lookup t = some (s.2.map .bool) := lookup_head
    obtain ⟨R, hR, hRl⟩ := id hs.val
    have hR26 : R.length = 26 := by have := hs.ok.1; rw [hR, List.length_map] at this; exact this
    refine go_let ?_; intro vv; refine go_compG ok W [(("implicit" : Str), L + 1)] [(("implicit" : Str), .inst x r t)] t508c ⟨trivial, trivial, trivial, trivial⟩ (LET.map fun n => .t (.str (S [n]))) (fun i out => out = s.1.take i) rfl ⟨rfl, trivial, rfl⟩ (by decide) rfl (fun i out h => by rw [h, List.length_take]; lia) ?_ ?_ (by rw [hc]; rfl) (.inr (by rw [hc]; rfl)) (fun y d' h => ?_) (by rw [hc]; rfl)
    · rintro i y out Γ' D' - hy rfl ok' W' -
      obtain ⟨c, h1, rfl⟩ := items_str hy
      have hi : i < 26 := (List.getElem?_eq_some_iff.mp h1).1
      rw [LET_at hi] at h1
      injection h1 with h1
      subst h1
      obtain ⟨u, hu⟩ : ∃ u, s.1[i]? = some u := ⟨_, List.getElem?_eq_getElem (by have := hs.ok.1; lia)⟩
      have htk : s.1.take (i + 1) = s.1.take i ++ [u] := by rw [List.take_add_one, hu]; rfl
      have hp1 : ((D', s.1.take i) :: MM a t r tl o q s s).Perm (stMu t r s ++ (D', s.1.take i) :: (stMu tl o s ++ [(a, nts q)])) := List.perm_middle.symm
      refine go_let ?_; intro vv; refine go_inst ok' W' rfl (by rfl) rfl (.inr rfl) O.mof.1 O.mof.2.1 O.mof.2.2 (by rfl) (by intro _; rfl) (go_add (x := [65 + i]) (y := [88, 49]) (by simp) ?_)
      refine go_let ?_; intro vv; refine go_callP (stMu t r s) ((D', s.1.take i) :: (stMu tl o s ++ [(a, nts q)])) (ok_of O (x := x) (l := [88, 49]) hrt hs.ok (List.mem_of_getElem? (LET_at hi)) (v := u) (by rw [show 65 + i - 65 = i by lia]; exact hu)) W' hp1 (fun d μ' h => ?_) (fun _ _ h => h.elim)
      obtain ⟨rfl, rfl⟩ := h
      exact ⟨_, hp1.symm, rfl, u, rfl, htk.symm⟩
    rotate_left
    · simp only [Loc.get] at h
      split at h
      · rename_i e; subst e; cases h; exact ⟨rfl, by rw [hc]; rfl, by rw [hc]; rfl, by rw [hc]; rfl⟩
      · cases h
    rintro out h
    have h : out = s.1 := by rw [h]; exact List.take_of_length_le (Nat.le_of_eq hs.ok.1)
    subst h
    refine go_ne (d := .t (.list s.1)) (e := .loc o) (p := .list s.1) rfl (res_loc hlo) hs.sh (by decide) (go_f (no rfl) (go_ask hrt (go_ne (d := .loc t) (e := .loc tl) (p := .list (s.2.map .bool)) (res_loc hlt) (res_loc hltl) sh_bools (by decide) (go_f (no rfl) ?_))))
    refine go_let ?_; intro vv; refine go_callM (stMu t r s) (stMu tl o s ++ [(a, nts q)]) (ok_told_rules O (x := x) hrt hs.ok hR hRl) W (List.Perm.refl _) (fun d μ' h => ?_) (fun _ _ h => h.elim)
    obtain ⟨rfl, rfl⟩ := h
    obtain ⟨hshr, _⟩ := short_rules (T := s.2) hR26 hRl 26 (Nat.le_refl _)
    have hanew := told_anew hs hR hRl
    refine go_let ?_; intro vv; refine go_newI ok O W (by rfl) (fun x2 r2 t2 hrt2 => ?_) rfl
    refine go_let ?_; intro vv; refine go_nd (fun hnd2 => ?_)
    have hnd2 : ((stMu t2 r2 s ++ MM a t r tl o q s s).map (·.1)).Nodup := hnd2
    refine go_let ?_; intro vv; refine go_inst ok W rfl (by rfl) rfl (.inl rfl) O.madd.1 O.madd.2.1 O.madd.2.2 (by rfl) (by intro _; rfl) ?_
    refine go_let ?_; intro vv; refine go_callM (stMu t2 r2 st0) (MM a t r tl o q s s) (ok_add (x := x2) O hrt2 st0_ok.ok hshr.letters) W (List.Perm.refl _) (fun d μ' h => ?_) (fun k μ' h => ?_)
    rotate_left
    · obtain ⟨_, s3, h3, _⟩ := h
      rw [hanew] at h3
      injection h3 with _ h3
      cases h3
    obtain ⟨rfl, s3, h3, rfl⟩ := h
    rw [hanew] at h3
    injection h3 with h3 _
    subst h3
    have hP : (stMu t2 r2 s ++ MM a t r tl o q s s).Perm (stMu tl o s ++ (stMu t2 r2 s ++ (stMu t r s ++ [(a, nts q)]))) := (List.Perm.append_left _ MM_law).trans (List.perm_append_comm_assoc _ _ _)
    have lo2 : (stMu t2 r2 s ++ MM a t r tl o q s s).lookup o = some s.1 := lookup_nd hnd2 (by simp)
    have ltl2 : (stMu t2 r2 s ++ MM a t r tl o q s s).lookup tl = some (s.2.map .bool) := lookup_nd hnd2 (by simp)
    have lr2 : (stMu t2 r2 s ++ MM a t r tl o q s s).lookup r2 = some s.1 := lookup_nd hnd2 (by simp)
    have lt2 : (stMu t2 r2 s ++ MM a t r tl o q s s).lookup t2 = some (s.2.map .bool) := lookup_head
    refine go_let ?_; intro vv; refine go_callP (stMu tl o s) (stMu t2 r2 s ++ (stMu t r s ++ [(a, nts q)])) (ok_law_short O hot hs.ok hR hRl) W hP (fun d μ' h => ?_) (fun _ _ h => h.elim)
    obtain ⟨rfl, rfl⟩ := h
    refine ⟨_, hP.symm, go_ne (p := .list ((shF R s.2 26).map rulePy)) rfl rfl (sh_rules hshr) (by decide) (go_f (no rfl) (go_ne (d := .loc r2) (e := .loc o) (p := .list s.1) (res_loc lr2) (res_loc lo2) hs.sh (by decide) (go_f (no rfl) (go_ask hrt2 (go_ne (d := .loc t2) (e := .loc tl) (p := .list (s.2.map .bool)) (res_loc lt2) (res_loc ltl2) sh_bools (by decide) (go_f (no rfl) ?_))))))⟩
    refine go_let ?_; intro vv; exact go_callM [(a, nts q)] (stMu t2 r2 s ++ (stMu t r s ++ stMu tl o s)) (ok_law_length_right O hq) W (List.perm_append_comm (l₁ := stMu t2 r2 s ++ (stMu t r s ++ stMu tl o s)) (l₂ := [(a, nts q)])) (fun d μ' h => by obtain ⟨rfl, _⟩ := h; exact F.ret rfl) (fun _ _ h => h.elim)
end
end P279
end
section
open PySem PySem.W PyProof.Rows PySem.Spec PySem.Calls
namespace P279
theorem vs_ints {B : BM} {vs : List Value} {ns : List Int} (h : IntsAre vs ns) : Vs B vs (ns.map .int) := by
  induction h with
  | nil => exact .nil
  | cons n t _ ih => exact .cons (V.int n t) ih
theorem well_list {P : Params} {h : Heap} {a : Addr} {d : WData} {xs : List WData} (hw : Well P h (.ref a) d) (hl : d = .list xs) : ∃ vs : List Value, h.get? a = some (PySem.W.listOf vs.toArray 0) := by
  subst hl
  cases hw with
  | list h1 h2 => exact ⟨_, h1⟩
theorem room_caller : Room callerA 15 := by
  refine ⟨?_, ?_⟩
  · show callerA.depth + 2 * 15 + 60 ≤ 900
    decide
  · show callerA.units + 8 * 15 + 500 ≤ 9000
    decide
theorem law_call {w : World} {s : Shared} {mg mb : Str → Option Value} {a : Addr} {vs : List Value} {ns : List Int} (gf : GF (GG w s.heap mg mb)) (hl : s.heap.get? a = some (listOf vs.toArray 0)) (hI : IntsAre vs ns) (hn : ns.length ≤ 63)
    {Q : Value → Shared → Prop} {E : Value → Shared → Prop} (q : ∀ s', (∀ b o, s.heap.get? b = some o → s'.heap.get? b = some o) → s'.gens = s.gens → s'.os = s.os → Q (.bool true) s') :
    wpAny (model PySem.Challenge.pw_no0279_01 w) callerA (call (.ref 508) [.ref a]) Q E s := by
  have I : BInv (GG w s.heap mg mb) [] [] (fun a => s.heap.get? a) s :=
    ⟨gf, fun a o e => e, fun a o e => e, fun a ha => by simp [frs] at ha, fun p hp => by simp at hp, by simp, trivial⟩
  refine wpAny_call (ok_law (G := GG w s.heap mg mb) (p := w.params) ⟨⟨w, s.heap, mg, mb, rfl, rfl⟩, gf⟩ hn callerA [] _ s _ _ room_caller rfl rfl I (fun a ha => by simp [frs] at ha) (.cons (V.list hl (vs_ints hI)) .nil) (fun v d μ' B' s' T' J V' h => ?_) (fun k e μ' B' s₂ s' T' J _ _ _ _ h => ?_))
  · obtain ⟨_, h⟩ := h
    injection h with h
    subst h
    cases V'
    exact q s' (fun b o e => (T'.keep b o e (by simp) (by simp)).1 (by simp [frs])) T'.gens T'.os
  · exact absurd h.2.1 nofun
set_option maxHeartbeats 4000000 in
theorem law_holds : PySem.Challenge.rw_no0279_01.Holds := by
  refine P279h.hd ?_
  intro w s₀ s₁ mg mb G Y fa o pm cd doc dV kV ho hd' hcd hD hmg hg args vals as hpre hlay hrd hwl hlo
  have KX := kIn_of Y
  have hwl2 := hwl
  have T := G.T
  clear G Y hcd hD ho hd'
  wrow_args hpre hlay hrd hwl hlo
  rename IntsAre _ _ => hI
  rename ¬ _ < _ => hcond
  have hfa : mg "law" = some (.ref 508) := mg_of KX T.g (by rfl)
  have hmg' : mg "law" = some (.ref fa) := hmg
  rw [hfa] at hmg'
  injection hmg' with hmg'
  injection hmg' with hmg'
  subst hmg'
  cases hwl2 with
  | cons hw1 _ =>
    rename s₁.heap.IsList _ _ => hL
    obtain ⟨vs', hvs'⟩ := well_list hw1 (by rw [ofPy])
    obtain ⟨o', ho', hc', n', hd'⟩ := hL
    rw [hvs'] at ho'
    cases ho'
    injection hd' with hd1 hd2
    rw [hd1] at hvs'
    refine law_call ⟨KX, T.g, T.b, T.nolimit, T.builtins⟩ hvs' hI (by omega) (fun s' hk hgens hos => ?_)
    refine GoodW.toG ⟨.inl ⟨_, _, _, rfl, raisesW_false allW_false_nil, .bool true, ?_, fun _ => ⟨.nil, fun a h => by simp at h⟩⟩, hk, hos, by rw [hgens]; exact hg⟩
    exact postW_of (X := true) rfl (by wtm_val) rfl
end P279
end
theorem PySem.Challenge.cw_no0279_01_holds : PySem.Challenge.rw_no0279_01.Holds := by
  exact P279.law_holds
