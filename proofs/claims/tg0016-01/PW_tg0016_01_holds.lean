import PyProof.Rows.All
import Wide.All
import OpenK.AllK
import Wide.FinOn
import PySem.Challenge.RW_tg0016_01
set_option Elab.async false
set_option maxRecDepth 100000
section
open PySem PySem.W PyProof.Rows
namespace Mine
def keepAt : List Bool → List Stmt → List Stmt
  | true :: r, s :: t => s :: keepAt r t
  | false :: r, _ :: t => keepAt r t
  | _, _ => []
def hd.view_39 : PySem.Program :=
  { PySem.Challenge.pw_tg0016_01 with
    main := { PySem.Challenge.pw_tg0016_01.main with
      body := keepAt [true, false, true, true, true, true, false, true, true, true, true, true, false, true, true, false, true, true, false, true, false, true, true, true, true, true, true, true] PySem.Challenge.pw_tg0016_01.main.body } }

noncomputable def runT (st : SharedT → Thread → Option (SharedT × Thread)) (ok th : Thread → Bool) (n : Nat) : SharedT → Thread → Option SharedT :=
  Nat.rec (fun _ _ => none) (fun _ ih s t => @Bool.rec (fun _ => Option SharedT) (@Bool.rec (fun _ => Option SharedT) none (match st s t with | some (s', t') => ih s' t' | none => none) (ok t)) (some s) (th t)) n
theorem runT_of {tb : String → Option Builtin} {p : Program} {w : World} {m : Nat} {ann : Option Value} : ∀ {n : Nat} {s s' : SharedT} {t : Thread}, runT (stepT (denote tb) p w) (stepOk m ann) through n s t = some s' → topRun tb p w m ann n s.abs t = some s'.abs
  | 0, _, _, _, h => nomatch h
  | n + 1, s, s', t, h => by
    have h : @Bool.rec (fun _ => Option SharedT) (@Bool.rec (fun _ => Option SharedT) none (match stepT (denote tb) p w s t with | some (s', t') => runT (stepT (denote tb) p w) (stepOk m ann) through n s' t' | none => none) (stepOk m ann t)) (some s) (through t) = some s' := h
    unfold topRun
    cases ht : through t with
    | true => rw [ht] at h; exact congrArg (Option.map SharedT.abs) h
    | false =>
      rw [ht] at h
      replace h : @Bool.rec (fun _ => Option SharedT) none (match stepT (denote tb) p w s t with | some (s', t') => runT (stepT (denote tb) p w) (stepOk m ann) through n s' t' | none => none) (stepOk m ann t) = some s' := h
      cases hk : stepOk m ann t with
      | false => rw [hk] at h; cases h
      | true =>
        rw [hk] at h
        replace h : (match stepT (denote tb) p w s t with | some (s', t') => runT (stepT (denote tb) p w) (stepOk m ann) through n s' t' | none => none) = some s' := h
        cases hs : stepT (denote tb) p w s t with
        | none => rw [hs] at h; cases h
        | some r => obtain ⟨s₂, t₂⟩ := r; rw [hs] at h; rw [stepT_spec hs]; exact runT_of h
def ofL : Nat → List Obj → BT → BT
  | _, [], t => t
  | i, o :: l, t => ofL (i + 1) l (t.ins i o)
noncomputable def bootT (P : Params) : BT := ofL 0 (boot_heap P).objs.toList .nil
theorem bootT_abs (P : Params) : absHeap (bootT P) (boot_heap P).objs.size (boot_heap P).life = boot_heap P := by kernel_rfl
theorem boot_ns (P : Params) : ((boot_heap P).isNs mainGlobals && (#[] : Array GenState).size == 0) = true := by kernel_rfl
noncomputable abbrev runP (p : Program) (N : Nat) (w : World) (os : OsState) : Option SharedT :=
  runT (stepT (denote treeTable) p w) (stepOk (boot_heap w.params).objs.size ((boot_heap w.params).nsMap mainGlobals "__annotations__")) through N ⟨bootT w.params, (boot_heap w.params).objs.size, (boot_heap w.params).life, #[], boot_drawn, boot_toks, os⟩ (topStub p)
theorem left_T {p q : Program} {loose : List Str} {Xt : Shared → Bool} {α : Type} {Yf : Shared → α} {Ya : World → α} {N : Nat} {g0 : Bool}
    (op : ∀ w : World, (fencedOpening treeTable p w N).map (fun s => (s.heap, s.gens, s.drawn, s.toks)) = some (boot_heap w.params, #[], boot_drawn, boot_toks))
    (hA : ∀ (w : World) (os : OsState), (runP p N w os).map (fun s => (staticsOk (importedModules p.main.body) (boot_heap w.params) s.abs.heap && namesBound p s.abs.heap && gensDone s.abs && laidKept (boot_heap w.params) s.abs.heap, openSeen q loose (importedModules p.main.body) Xt g0 s.abs)) = some (true, openGood q loose))
    (hB : ∀ (w : World) (os : OsState), (runP p N w os).map (fun s => Yf s.abs) = some (Ya w)) :
    LeftO p q loose Xt Yf Ya N g0 := fun w => by
  obtain ⟨⟨h', gs, d, k, os⟩, e, e'⟩ := Option.map_eq_some_iff.mp (op w)
  obtain ⟨rfl, rfl, rfl, rfl⟩ : h' = boot_heap w.params ∧ gs = #[] ∧ d = boot_drawn ∧ k = boot_toks := by simpa using e'
  obtain ⟨s, e1, e2⟩ := Option.map_eq_some_iff.mp (hA w os)
  have e3 : Yf s.abs = Ya w := by
    have x := hB w os
    rw [e1] at x
    exact Option.some.inj x
  obtain ⟨l1, l2⟩ := Prod.mk.inj e2
  have r := runT_of e1
  have z : SharedT.abs ⟨bootT w.params, (boot_heap w.params).objs.size, (boot_heap w.params).life, #[], boot_drawn, boot_toks, os⟩ = ⟨boot_heap w.params, #[], boot_drawn, boot_toks, os⟩ := by
    unfold SharedT.abs; rw [bootT_abs]
  rw [z] at r
  unfold openEnds
  rw [e]
  show (topFrom treeTable p w N _).map _ = _
  have t : topFrom treeTable p w N ⟨boot_heap w.params, #[], boot_drawn, boot_toks, os⟩ = some s.abs := by
    unfold topFrom
    dsimp only
    rw [boot_ns, r]
    show (match staticsOk (importedModules p.main.body) (boot_heap w.params) s.abs.heap && namesBound p s.abs.heap && gensDone s.abs && laidKept (boot_heap w.params) s.abs.heap with | true => _ | false => _) = _
    rw [l1]
  rw [t]
  exact congrArg some (Prod.ext l2 e3)
theorem wlsA : looksOpen (OpenLaw.row PySem.Challenge.rw_tg0016_01).prog = true := by
  rewrite [PySem.W.Fast.te12908688711261696721]
  kernel_rfl
theorem wlsB : (OpenLaw.row PySem.Challenge.rw_tg0016_01).wellSaid = true := by
  unfold OpenRow.wellSaid OpenRow.partSaid
  rewrite [wlsA, PySem.W.Fast.te18344453789297297638, PySem.W.Fast.sDec_eq]
  kernel_rfl
theorem wls : OpenLaw.wellSaid PySem.Challenge.rw_tg0016_01 = true := by
  unfold OpenLaw.wellSaid
  rewrite [wlsB, PySem.W.Fast.te8326940854005059898, PySem.W.Fast.te17119622794617984870, PySem.W.Fast.named_eq, PySem.W.Fast.te10501279942588096481, PySem.W.Fast.te8179353310426384613, PySem.W.Fast.te9558739934217749035, PySem.W.Fast.te16286561074155671207, PySem.W.Fast.te6984425678791042302, PySem.W.Fast.te10792542408131684335, PySem.W.Fast.sDec_eq]
  kernel_rfl
theorem look_A (w : World) (os : OsState) : (runP (OpenLaw.row PySem.Challenge.rw_tg0016_01).prog 3320 w os).map (fun s => (staticsOk (importedModules (OpenLaw.row PySem.Challenge.rw_tg0016_01).prog.main.body) (boot_heap w.params) s.abs.heap && namesBound (OpenLaw.row PySem.Challenge.rw_tg0016_01).prog s.abs.heap && gensDone s.abs && laidKept (boot_heap w.params) s.abs.heap, openSeen Mine.hd.view_39 [] (importedModules (OpenLaw.row PySem.Challenge.rw_tg0016_01).prog.main.body) (fun s => xlAt Mine.hd.view_39 [] s && recOk (RowW.records (OpenRow.toRowW (OpenLaw.row PySem.Challenge.rw_tg0016_01))) s) true s.abs)) = some (true, openGood Mine.hd.view_39 []) := by
  unfold runP
  rewrite [PySem.W.Fast.te10156331382660048174, PySem.W.Fast.te11892475500146522536, PySem.W.Fast.te14364793385576792824, PySem.W.Fast.te6613529449190102663, PySem.W.Fast.te4187177175401517315, PySem.W.Fast.te8920871248978507458]
  kernel_rfl
section
local macro_rules | `(tactic| o_law) => `(tactic| refine holds_law wls fun said => ?_)
local macro_rules | `(tactic| o_head $H) => `(tactic| (
  refine holds_open (q := Mine.hd.view_39) (loose := []) (Xt := fun s => xlAt Mine.hd.view_39 [] s && recOk (RowW.records (OpenRow.toRowW (OpenLaw.row PySem.Challenge.rw_tg0016_01))) s) (XP := XL Mine.hd.view_39 []) (Yf := Hook.obs $H) (Ya := Hook.val $H) (YP := Hook.says $H) (N := 3320) ?hl (Hook.of $H) (Hook.keeps $H) (fun s e => xl_of s (Bool.and_eq_true_iff.mp e).1) XL.keeps (by rfl) (by rfl) (by rfl) (fun s e => recFacts_of (Bool.and_eq_true_iff.mp e).2) (by rfl) (by first | assumption | decide +kernel) (by decide +kernel) ⟨rfl, rfl, rfl, rfl, rfl, by decide +kernel⟩ ?$(Lean.mkIdent `hw) ?$(Lean.mkIdent `hc)
  case hl =>
    refine left_T (boot_open (by kernel_rfl) (by kernel_rfl) (fun s => by kernel_rfl)) look_A (fun w os => ?_)
    focus
      unfold runP
      rewrite [PySem.W.Fast.te10156331382660048174, PySem.W.Fast.te11892475500146522536, PySem.W.Fast.te14364793385576792824, PySem.W.Fast.te6613529449190102663, PySem.W.Fast.te8920871248978507458]
      kernel_rfl))
set_option maxRecDepth 100000 in
set_option maxHeartbeats 8000000 in
open_top hd for PySem.Challenge.rw_tg0016_01
end
end Mine
end
section
open PySem PySem.W PyProof.Rows PySem.Calls PySem.Spec
namespace Mine
theorem fill0 : PySem.Challenge.rw_tg0016_01 = PySem.Challenge.rw_tg0016_01 ∧ hd.heap_1 = hd.heap_1 := by
  w_top off
  k_fill
  k_with "r1" => ((case ho => k_is); (case hcd => k_is); (case bind => exact BindsTo.of_eq rfl); (case loc => exact locs rfl); (case c1 => exact rfl); (case c2 => exact rfl); (case c3 => exact rfl); (case c4 => decide))
  k_with "r5" => (k_here; (with_reducible show wpAny _ _ (call (Value.builtin "len") [Value.ref _]) _ _ _); k_dflt (refine' len_gi ?zqF ?zql ?zqx ?zqk ?_; (case zqF => k_asm); (case zql => with_reducible assumption); (case zqx => with_reducible assumption); (case zqk => with_reducible assumption); k_whole); intro _ _)
  k_with "r8" => (k_here; (with_reducible show wpAny _ _ (call (Value.builtin _) [Value.ref _]) _ _ _); k_dflt (refine' pop_push ?zqF ?zqN ?zqU ?zqz ?_; (case zqF => k_asm); (case zqN => k_asm); (case zqU => k_upd); (case zqz => with_reducible assumption); k_whole); (intro zqh' zqF' zqN'))
  k_with "r9" => (first | with_reducible assumption | ((try dsimp only [ar, Around.deeper]); omega) | ((try dsimp only [ar, Around.deeper]); simp only [recursionLimit] at *; omega))
  k_with "r17" => (k_here; (with_reducible show wpAny _ _ (isTrue (Expr.BoolOp BoolOp.And [_, _] _) _ _) _ _ _); (refine' cut' false ?zqF ?zqN ?_ ?_; (case zqF => k_asm); (case zqN => k_asm); (focus (refine isTrue_and ?_)); rotate_left 1; (focus (intro zqh' zqtk' zqF' zqN'; (try k_sweep))); rotate_right 1))
  k_with "r25" => (k_here; (with_reducible show wpAny _ _ (call (Value.builtin "len") [Value.ref _]) _ _ _); k_dflt (refine' len_gI ?zqF ?zql ?zqx ?zqk ?_; (case zqF => k_asm); (case zql => with_reducible assumption); (case zqx => with_reducible assumption); (case zqk => with_reducible assumption); k_whole); intro _ _)
  k_with "r29" => ((try dsimp only [ar, Around.deeper]); first | omega | (simp only [units_def] at *; omega))
  k_with "r30" => (k_here; (with_reducible show wpAny _ _ (call (Value.builtin "max") _) _ _ _); k_dflt (refine' max_N ?zqF ?zqN ?zqm ?zqi ?zqne ?zqh0 ?_; (case zqF => k_asm); (case zqN => k_asm); (case zqm => k_mem); (case zqi => with_reducible assumption); (case zqne => with_reducible assumption); (case zqh0 => exact rfl); k_whole); intro zqh' zqt' zqtk' zqF' zqN'; (try k_sweep))
  k_with "r32" => (k_here; (with_reducible show wpAny _ _ (compareOp CmpOp.Eq (Value.ref _) (Value.ref _)) _ _ _); k_dflt (refine' eq_gN ?zqF ?zqN ?zqhl ?zqhm ?zqhi ?zqhj ?zqhu ?_; (case zqF => k_asm); (case zqN => k_asm); (case zqhl => with_reducible assumption); (case zqhm => k_mem); (case zqhi => with_reducible assumption); (case zqhj => exact IntsAre.nil); (case zqhu => ktr_units); k_whole))
  k_with "r33" => (k_here; (with_reducible show wpAny _ _ (binaryOp Operator.Mult (Value.ref _) (Value.int _ _)) _ _ _); k_dflt (refine' mul1 ?zqF ?zqN ?zql ?zqlo ?zqhi ?_; (case zqF => k_asm); (case zqN => k_asm); (case zql => k_mem); (case zqlo => omega); (case zqhi => (first | omega | (simp only [List.length_map]; omega))); k_whole); intro zqD' zqh' zqF' zqN' zql1; (try k_lt zql1); (try k_sweep))
  k_with "r34" => (k_here; (with_reducible show wpAny _ _ (call (Value.ref 201) _) _ _ _); refine for_stop ?_)
  k_with "r35" => (k_here; (with_reducible show wpAny _ _ (truthy (Value.ref _)) _ _ _); k_dflt (refine' truthy_ne ?zqN ?zqm ?zqz ?zqy ?_; (case zqN => k_asm); (case zqm => k_mem); (case zqz => with_reducible assumption); (case zqy => with_reducible assumption); k_whole); intro _)
  k_with "r36" => (k_here; (with_reducible show wpAny _ _ (call (Value.builtin "len") [Value.ref _]) _ _ _); k_dflt (refine' len_NI ?zqN ?zql ?zqx ?zqk ?_; (case zqN => k_asm); (case zql => k_mem); (case zqx => with_reducible assumption); (case zqk => with_reducible assumption); k_whole); intro _ _)
  k_with "r37" => (k_here; (with_reducible show wpAny _ _ (binaryOp Operator.Mod (Value.int _ _) (Value.int 3 _)) _ _ _); (refine mod3 ?_); intro zqr' _ _ zqr0' zqr1')
  k_with "r38" => (k_here; (with_reducible show wpAny _ _ (call (Value.type "list") [Value.ref _]) _ _ _); (rename IsRange _ _ _ _ _ _ _ _ => zqrgX); k_dflt (refine' list_rng ?zqh ?zqF ?zqN ?zqr ?zqx ?zqy ?zqz ?_; (case zqh => exact rfl); (case zqF => k_asm); (case zqN => k_asm); (case zqr => exact zqrgX); (case zqx => omega); (case zqy => omega); (case zqz => omega); k_whole); intro zqD' zqvs' zqc' zqh' zqtk' zqF' zqN' zql1 zqhI'; (try k_lt zql1); (try k_sweep))
  k_with "r39" => (k_here; (with_reducible show wpAny _ _ (call (Value.builtin "list.extend") _) _ _ _); k_dflt (refine' ext_use ?zqF ?zqN ?zqb ?zqU ?zqy ?zqz ?_; (case zqF => k_asm); (case zqN => k_asm); (case zqb => k_mem); (case zqU => k_updF); (case zqy => with_reducible assumption); (case zqz => (simp only [List.length_replicate]; omega)); k_whole); intro zqh' zqn' zqF' zqN'; (try dsimp only at zqN'); (try k_sweep))
  k_with "r40" => (k_here; (with_reducible show wpAny _ _ (call (Value.ref 213) _) _ _ _); k_dflt (refine' shell_use ?zqF ?zqN ?zqX ?zqT ?zqU ?zqroom ?zqhl ?zqhi ?zqhns ?zqhk0 ?zqhk1 ?zqhM0 ?zqhM1 ?_; (case zqF => k_asm); (case zqN => k_asm); (case zqX => k_asm); (case zqT => k_asm); (case zqU => k_updF); (case zqroom => ktr_room); (case zqhl => with_reducible assumption); (case zqhi => with_reducible assumption); (case zqhns => with_reducible assumption); (case zqhk0 => omega); (case zqhk1 => omega); (case zqhM0 => omega); (case zqhM1 => omega); k_whole); intro zqx' zqt' zqh' zqtk' zqt2' zqe' zqx0' zqx1' zqF' zqN'; (try dsimp only at zqN'); (try k_sweep))
  k_with "r42" => (k_here; (with_reducible show wpAny _ _ (subscriptTail _ _ (Value.ref _) (Value.int 0 _)) _ _ _); k_dflt (refine' item_g ?zqF ?zql ?zqa ?zqb ?zqx ?_ ?zqhs; (case zqF => k_asm); (case zql => with_reducible assumption); (case zqa => decide); (case zqb => decide); (case zqx => assumption); (case zqhs => with_unfolding_all rfl); k_whole))
  k_with "r44" => (k_here; (with_reducible show wpAny _ _ (subscriptTail _ (PySem.Expr.Slice _ _ none _) (Value.ref _) (Value.ref _)) _ _ _); k_dflt (refine' slice1 ?zqF ?zqN ?zql ?zqp ?zqq ?zqz ?_ ?zqs ?zqt; (case zqF => k_asm); (case zqN => k_asm); (case zql => with_reducible assumption); (case zqp => kmk_part); (case zqq => kmk_part); (case zqz => with_reducible assumption); (case zqs => with_unfolding_all rfl); (case zqt => kmk_pure); k_whole); intro zqD' zqh' zqF' zqN' zql1; (try k_lt zql1); (try k_sweep))
  k_with "r45" => (k_here; (with_reducible show wpAny _ _ (binaryOp _ (Value.ref _) (Value.ref _)) _ _ _); k_dflt (refine' add_ls ?zqF ?zqN ?zqa ?zqb ?zqx ?zqy ?_; (case zqF => k_asm); (case zqN => k_asm); (case zqa => k_mem); (case zqb => k_mem); (case zqx => ktr_units); (case zqy => ktr_units); k_whole); intro zqD' zqh' zqF' zqN' zql1; (try k_lt zql1); (try k_sweep))
  k_with "r47" => (k_here; (with_reducible rename Fr _ _ _ _ => zqkF); first
  | (refine nin_t (isList_stays zqkF.keep (by with_reducible assumption)) (by with_reducible assumption) (by with_reducible assumption) ?_)
  | (refine nin_f (isList_stays zqkF.keep (by with_reducible assumption)) (by with_reducible assumption) (by with_reducible assumption) ?_))
  k_with "r48" => (refine offR ?zqh ?zqd; (case zqh => with_reducible assumption); (case zqd => k_mem))
  k_with "r53" => (k_here; (with_reducible show wpAny _ _ (compareOp CmpOp.Eq (Value.ref _) (Value.ref _)) _ _ _); k_dflt (refine' eq_gN ?zqF ?zqN ?zqhl ?zqhm ?zqhi ?zqhj ?zqhu ?_; (case zqF => k_asm); (case zqN => k_asm); (case zqhl => with_reducible assumption); (case zqhm => k_mem); (case zqhi => with_reducible assumption); (case zqhj => exact IntsAre.nil); (case zqhu => decide); k_whole))
  k_with "r61" => (k_here; (with_reducible show wpAny _ _ (subscriptTail _ (PySem.Expr.Slice none none (some _) _) (Value.ref _) (Value.ref _)) _ _ _); k_dflt (refine' rev_g ?zqF ?zqN ?zql ?zqk ?zqi ?zqz ?_ ?zqs ?zqt; (case zqF => k_asm); (case zqN => k_asm); (case zql => with_reducible assumption); (case zqk => exact IsPart.int _ _); (case zqi => with_reducible assumption); (case zqz => with_reducible assumption); (case zqs => with_unfolding_all rfl); (case zqt => kmk_pure); k_whole); intro zqD' zqws' zqh' zqF' zqN' zql1 zqhI'; (try k_lt zql1); (try k_sweep))
  k_with "r62" => (k_here; (with_reducible show wpAny _ _ (subscriptTail _ (PySem.Expr.Slice none none (some _) _) (Value.ref _) (Value.ref _)) _ _ _); k_dflt (refine' rev_N ?zqF ?zqN ?zql ?zqk ?zqi ?zqz ?_ ?zqs ?zqt; (case zqF => k_asm); (case zqN => k_asm); (case zql => k_mem); (case zqk => exact IsPart.int _ _); (case zqi => with_reducible assumption); (case zqz => with_reducible assumption); (case zqs => with_unfolding_all rfl); (case zqt => kmk_pure); k_whole); intro zqD' zqws' zqh' zqF' zqN' zql1 zqhI'; (try k_lt zql1); (try k_sweep))
  k_with "r63" => (first | (refine apart_ne ?_; (try dsimp only); with_reducible assumption) | (refine apart_ne' ?_; (try dsimp only); with_reducible assumption))
  k_with "r64" => (k_here; (with_reducible show wpAny _ _ (compareOp CmpOp.NotEq (Value.ref _) (Value.ref _)) _ _ _); k_dflt (refine' ne_gN ?zqF ?zqN ?zqhl ?zqhm ?zqhi ?zqhj ?zqhu ?_; (case zqF => k_asm); (case zqN => k_asm); (case zqhl => with_reducible assumption); (case zqhm => k_mem); (case zqhi => with_reducible assumption); (case zqhj => exact IntsAre.nil); (case zqhu => first | decide | (dsimp only [Around.deeper]; decide)); k_whole))
  k_with "r65" => (k_here; (with_reducible show wpAny _ _ (call (Value.builtin "len") [Value.ref _]) _ _ _); k_dflt (refine' len_I ?zqN ?zql ?zqx ?zqk ?_; (case zqN => k_asm); (case zql => k_mem); (case zqx => with_reducible assumption); (case zqk => with_reducible assumption); k_whole); intro _ _)
  k_with "r66" => (k_here; (with_reducible rename Ph8 => zqkPh); (with_reducible show wpAny _ _ (call (Value.ref 213) _) _ _ _); refine for_stop ?_)
  k_with "r67" => (k_here; (with_reducible show wpAny _ _ (call (Value.builtin "len") [Value.ref _]) _ _ _); k_dflt (refine' len_G ?zqF ?zql ?zqx ?zqk ?_; (case zqF => k_asm); (case zql => with_reducible assumption); (case zqx => with_reducible assumption); (case zqk => with_reducible assumption); k_whole); intro _ _)
  k_with "g1" => (k_here; (with_reducible show wpAny _ _ (subscriptTail _ _ (Value.ref _) (Value.int (-1) _)) _ _ _); k_dflt (refine' item_last ?zqN ?zqm ?zqs ?_ ?zqhs; (case zqN => k_asm); (case zqm => k_mem); (case zqs => with_reducible assumption); (case zqhs => with_unfolding_all rfl); k_whole))
  k_with "g1" => (k_here; (with_reducible show wpAny _ _ (subscriptTail _ _ (Value.ref _) (Value.int (Nat.cast _) _)) _ _ _); k_dflt (refine' item_gn ?zqF ?zql ?zqx ?zqk ?_ ?zqhs; (case zqF => k_asm); (case zql => with_reducible assumption); (case zqx => with_reducible assumption); (case zqk => omega); (case zqhs => with_unfolding_all rfl); k_whole))
  k_with "g1" => (k_here; (with_reducible show wpAny _ _ (subscriptTail _ _ (Value.ref _) (Value.int (_ - _) _)) _ _ _); k_dflt (refine' item_g ?zqF ?zql ?zqa ?zqb ?zqx ?_ ?zqhs; (case zqF => k_asm); (case zql => with_reducible assumption); (case zqx => with_reducible assumption); (case zqa => omega); (case zqb => omega); (case zqhs => with_unfolding_all rfl); k_whole))
  k_with "g2" => (k_here; (with_reducible show wpAny _ _ (call (Value.builtin "len") [Value.ref _]) _ _ _); k_dflt (refine' len_gi ?zqF ?zql ?zqx ?zqk ?_; (case zqF => k_asm); (case zql => with_reducible assumption); (case zqx => with_reducible assumption); (case zqk => with_reducible assumption); k_whole); intro _ _)
  k_with "g2" => (k_here; (with_reducible show wpAny _ _ (call (Value.builtin "len") [Value.ref _]) _ _ _); k_dflt (refine' len_N ?zqN ?zqm ?zqk ?_; (case zqN => k_asm); (case zqm => k_mem); (case zqk => (simp only [Array.size_push]; omega)); k_whole); intro _ _)
  k_with "g2" => (k_here; (with_reducible show wpAny _ _ (call (Value.builtin "len") [Value.ref _]) _ _ _); k_dflt (refine' len_push_N ?zqN ?zqm ?zqk ?_; (case zqN => k_asm); (case zqm => k_mem); (case zqk => with_reducible assumption); k_whole); intro _ _)
  k_with "g3" => (k_here; (with_reducible show wpAny _ _ (subscriptTail _ _ (Value.ref _) (Value.int (-1) _)) _ _ _); k_dflt (refine' item_last ?zqN ?zqm ?zqs ?_ ?zqhs; (case zqN => k_asm); (case zqm => k_mem); (case zqs => with_reducible assumption); (case zqhs => with_unfolding_all rfl); k_whole))
  k_with "g3" => (k_here; (with_reducible show wpAny _ _ (subscriptTail _ _ (Value.ref _) (Value.int (Nat.cast _) _)) _ _ _); k_dflt (refine' item_gn ?zqF ?zql ?zqx ?zqk ?_ ?zqhs; (case zqF => k_asm); (case zql => with_reducible assumption); (case zqx => with_reducible assumption); (case zqk => omega); (case zqhs => with_unfolding_all rfl); k_whole))
  k_with "g4" => (k_here; (with_reducible show wpAny _ _ (call (Value.ref 170) _) _ _ _); k_dflt (refine' in_check_use ?zqF ?zqN ?zqX ?zqT ?zqGA ?zqU ?zqroom ?zqhnd ?zqhz ?zqhn ?_; (case zqF => k_asm); (case zqN => k_asm); (case zqX => k_asm); (case zqT => k_asm); (case zqGA => with_reducible assumption); (case zqU => k_updF); (case zqroom => ktr_room); (case zqhnd => with_reducible assumption); (case zqhz => tb_start); (case zqhn => with_reducible assumption); k_whole); intro zqh' zqtk' zqF' zqN'; (try dsimp only at zqN'); (try k_sweep))
  k_with "g4" => (k_here; (with_reducible show wpAny _ _ (call (Value.ref 177) _) _ _ _); k_dflt (refine' is_draw_use ?zqF ?zqN ?zqX ?zqT ?zqGA ?zqU ?zqroom ?zqhnd ?zqhz ?zqhn ?_; (case zqF => k_asm); (case zqN => k_asm); (case zqX => k_asm); (case zqT => k_asm); (case zqGA => with_reducible assumption); (case zqU => k_updF); (case zqroom => ktr_room); (case zqhnd => with_reducible assumption); (case zqhz => tb_start); (case zqhn => with_reducible assumption); k_whole); intro zqh' zqtk' zqF' zqN'; (try dsimp only at zqN'); (try k_sweep))
  k_with "g4" => (k_here; (with_reducible show wpAny _ _ (call (Value.ref 156) _) _ _ _); k_dflt (refine' value_use ?zqF ?zqN ?zqX ?zqT ?zqGA ?zqU ?zqroom ?zqhnd ?zqhz ?zqhn ?_; (case zqF => k_asm); (case zqN => k_asm); (case zqX => k_asm); (case zqT => k_asm); (case zqGA => with_reducible assumption); (case zqU => k_updF); (case zqroom => ktr_room); (case zqhnd => with_reducible assumption); (case zqhz => tb_start); (case zqhn => with_reducible assumption); k_whole); intro zqt' zqh' zqtk' zqF' zqN'; (try dsimp only at zqN'); (try k_sweep))
  k_with "g4" => (k_here; (with_reducible show wpAny _ _ (call (Value.ref 130) _) _ _ _); k_dflt (refine' moves_use ?zqF ?zqN ?zqX ?zqT ?zqGA ?zqU ?zqroom ?zqhnd ?zqhz ?zqhn ?zqhkl ?_; (case zqF => k_asm); (case zqN => k_asm); (case zqX => k_asm); (case zqT => k_asm); (case zqGA => with_reducible assumption); (case zqU => k_updF); (case zqroom => ktr_room); (case zqhnd => with_reducible assumption); (case zqhz => tb_start); (case zqhn => with_reducible assumption); (case zqhkl => with_reducible assumption); k_whole); intro zqD' zqvs' zqc' zqh' zqtk' zqF' zqN' zql1 zqhI'; (try simp only [AllNe, and_true] at zql1); (try dsimp only at zqN'); (try k_sweep))
  k_with "g4" => (k_here; (with_reducible show wpAny _ _ (call (Value.ref 142) _) _ _ _); k_dflt (refine' make_use ?zqF ?zqN ?zqX ?zqT ?zqGA ?zqU ?zqroom ?zqhnd ?zqhz ?zqhn ?zqhkl ?zqhk ?_; (case zqF => k_asm); (case zqN => k_asm); (case zqX => k_asm); (case zqT => k_asm); (case zqGA => with_reducible assumption); (case zqU => k_updF); (case zqroom => ktr_room); (case zqhnd => with_reducible assumption); (case zqhz => tb_start); (case zqhn => with_reducible assumption); (case zqhkl => with_reducible assumption); (case zqhk => with_reducible assumption); k_whole); intro zqt' zqe' zqh' zqtk' zqF' zqN'; (try dsimp only at zqN'); (try k_sweep))
  k_with "g4" => (k_here; (with_reducible show wpAny _ _ (call (Value.ref 149) _) _ _ _); k_dflt (refine' undo_use ?zqF ?zqN ?zqX ?zqT ?zqGA ?zqU ?zqroom ?zqhz ?zqhz1 ?_; (case zqF => k_asm); (case zqN => k_asm); (case zqX => k_asm); (case zqT => k_asm); (case zqGA => with_reducible assumption); (case zqU => k_updF); (case zqroom => ktr_room); (case zqhz => tb_start); (case zqhz1 => tb_start); k_whole); intro zqv' zqe' zqh' zqtk' zqF' zqN'; (try dsimp only at zqN'); (try k_sweep))
  k_with "g4" => (k_here; (with_reducible show wpAny _ _ (call (Value.ref 28) [Value.int _ _]) _ _ _); k_dflt (refine' mated_in_use ?zqF ?zqN ?zqX ?zqT ?zqroom ?_; (case zqF => k_asm); (case zqN => k_asm); (case zqX => k_asm); (case zqT => k_asm); (case zqroom => ktr_room); k_whole); intro zqt' zqh' zqtk' zqF' zqN'; (try k_sweep))
  k_with "g5" => (k_here; (with_reducible show wpAny _ _ (call (Value.ref 170) _) _ _ _); k_dflt (refine' in_check_use ?zqF ?zqN ?zqX ?zqT ?zqGA ?zqU ?zqroom ?zqhnd ?zqhz ?zqhn ?_; (case zqF => k_asm); (case zqN => k_asm); (case zqX => k_asm); (case zqT => k_asm); (case zqGA => with_reducible assumption); (case zqU => k_updF); (case zqroom => ktr_room); (case zqhnd => with_reducible assumption); (case zqhz => tb_start); (case zqhn => with_reducible assumption); k_whole); intro zqh' zqtk' zqF' zqN'; (try dsimp only at zqN'); (try k_sweep))
  k_with "g5" => (k_here; (with_reducible show wpAny _ _ (call (Value.ref 177) _) _ _ _); k_dflt (refine' is_draw_use ?zqF ?zqN ?zqX ?zqT ?zqGA ?zqU ?zqroom ?zqhnd ?zqhz ?zqhn ?_; (case zqF => k_asm); (case zqN => k_asm); (case zqX => k_asm); (case zqT => k_asm); (case zqGA => with_reducible assumption); (case zqU => k_updF); (case zqroom => ktr_room); (case zqhnd => with_reducible assumption); (case zqhz => tb_start); (case zqhn => with_reducible assumption); k_whole); intro zqh' zqtk' zqF' zqN'; (try dsimp only at zqN'); (try k_sweep))
  k_with "g5" => (k_here; (with_reducible show wpAny _ _ (call (Value.ref 156) _) _ _ _); k_dflt (refine' value_use ?zqF ?zqN ?zqX ?zqT ?zqGA ?zqU ?zqroom ?zqhnd ?zqhz ?zqhn ?_; (case zqF => k_asm); (case zqN => k_asm); (case zqX => k_asm); (case zqT => k_asm); (case zqGA => with_reducible assumption); (case zqU => k_updF); (case zqroom => ktr_room); (case zqhnd => with_reducible assumption); (case zqhz => tb_start); (case zqhn => with_reducible assumption); k_whole); intro zqt' zqh' zqtk' zqF' zqN'; (try dsimp only at zqN'); (try k_sweep))
  k_with "g5" => (k_here; (with_reducible show wpAny _ _ (call (Value.ref 130) _) _ _ _); k_dflt (refine' moves_use ?zqF ?zqN ?zqX ?zqT ?zqGA ?zqU ?zqroom ?zqhnd ?zqhz ?zqhn ?zqhkl ?_; (case zqF => k_asm); (case zqN => k_asm); (case zqX => k_asm); (case zqT => k_asm); (case zqGA => with_reducible assumption); (case zqU => k_updF); (case zqroom => ktr_room); (case zqhnd => with_reducible assumption); (case zqhz => tb_start); (case zqhn => with_reducible assumption); (case zqhkl => with_reducible assumption); k_whole); intro zqD' zqvs' zqc' zqh' zqtk' zqF' zqN' zql1 zqhI'; (try simp only [AllNe, and_true] at zql1); (try dsimp only at zqN'); (try k_sweep))
  k_with "g5" => (k_here; (with_reducible show wpAny _ _ (call (Value.ref 142) _) _ _ _); k_dflt (refine' make_use ?zqF ?zqN ?zqX ?zqT ?zqGA ?zqU ?zqroom ?zqhnd ?zqhz ?zqhn ?zqhkl ?zqhk ?_; (case zqF => k_asm); (case zqN => k_asm); (case zqX => k_asm); (case zqT => k_asm); (case zqGA => with_reducible assumption); (case zqU => k_updF); (case zqroom => ktr_room); (case zqhnd => with_reducible assumption); (case zqhz => tb_start); (case zqhn => with_reducible assumption); (case zqhkl => with_reducible assumption); (case zqhk => with_reducible assumption); k_whole); intro zqt' zqe' zqh' zqtk' zqF' zqN'; (try dsimp only at zqN'); (try k_sweep))
  k_with "g5" => (k_here; (with_reducible show wpAny _ _ (call (Value.ref 149) _) _ _ _); k_dflt (refine' undo_use ?zqF ?zqN ?zqX ?zqT ?zqGA ?zqU ?zqroom ?zqhz ?zqhz1 ?_; (case zqF => k_asm); (case zqN => k_asm); (case zqX => k_asm); (case zqT => k_asm); (case zqGA => with_reducible assumption); (case zqU => k_updF); (case zqroom => ktr_room); (case zqhz => tb_start); (case zqhz1 => tb_start); k_whole); intro zqv' zqe' zqh' zqtk' zqF' zqN'; (try dsimp only at zqN'); (try k_sweep))
  k_with "g5" => (k_here; (with_reducible show wpAny _ _ (call (Value.ref 28) [Value.int _ _]) _ _ _); k_dflt (refine' mated_in_use ?zqF ?zqN ?zqX ?zqT ?zqroom ?_; (case zqF => k_asm); (case zqN => k_asm); (case zqX => k_asm); (case zqT => k_asm); (case zqroom => ktr_room); k_whole); intro zqt' zqh' zqtk' zqF' zqN'; (try k_sweep))
  k_with "g5" => (k_here; (with_reducible show wpAny _ _ (call (Value.ref 42) _) _ _ _); k_dflt (refine' end_value_use ?zqF ?zqN ?zqX ?zqT ?zqGA ?zqU ?zqroom ?zqhnd ?zqhz ?zqhn ?_; (case zqF => k_asm); (case zqN => k_asm); (case zqX => k_asm); (case zqT => k_asm); (case zqGA => with_reducible assumption); (case zqU => k_updF); (case zqroom => ktr_room); (case zqhnd => with_reducible assumption); (case zqhz => tb_start); (case zqhn => with_reducible assumption); k_whole); intro zqt' zqh' zqtk' zqe' zqF' zqN'; (try dsimp only at zqN'); (try k_sweep))
  k_with "g5" => (k_here; (with_reducible show wpAny _ _ (call (Value.ref 35) _) _ _ _); k_dflt (refine' plain_quiesce_use ?zqF ?zqN ?zqX ?zqT ?zqGA ?zqU ?zqroom ?zqhnd ?zqhz ?zqhn ?zqhck ?_; (case zqF => k_asm); (case zqN => k_asm); (case zqX => k_asm); (case zqT => k_asm); (case zqGA => with_reducible assumption); (case zqU => k_updF); (case zqroom => ktr_room); (case zqhnd => with_reducible assumption); (case zqhz => tb_start); (case zqhn => with_reducible assumption); (case zqhck => with_reducible assumption); k_whole); intro zqt' zqh' zqtk' zqe' zqF' zqN'; (try dsimp only at zqN'); (try k_sweep))
  k_with "g5" => (k_here; (with_reducible show wpAny _ _ (call (Value.ref 49) _) _ _ _); k_dflt (refine' neg_use ?zqIH ?zqF ?zqN ?zqX ?zqT ?zqGA ?zqU ?zqroom ?zqhnd ?zqhz ?zqhn ?zqhw ?zqhdI ?_; (case zqIH => with_reducible assumption); (case zqF => k_asm); (case zqN => k_asm); (case zqX => k_asm); (case zqT => k_asm); (case zqGA => with_reducible assumption); (case zqU => k_updF); (case zqroom => ktr_room); (case zqhnd => with_reducible assumption); (case zqhz => tb_start); (case zqhn => with_reducible assumption); (case zqhw => with_reducible assumption); (case zqhdI => omega); k_whole); intro zqt' zqh' zqtk' zqe' zqF' zqN'; (try dsimp only at zqN'); (try k_sweep))
  k_with "g6" => (k_here; (with_reducible show wpAny _ _ (call (Value.ref 170) _) _ _ _); k_dflt (refine' in_check_use ?zqF ?zqN ?zqX ?zqT ?zqGA ?zqU ?zqroom ?zqhnd ?zqhz ?zqhn ?_; (case zqF => k_asm); (case zqN => k_asm); (case zqX => k_asm); (case zqT => k_asm); (case zqGA => with_reducible assumption); (case zqU => k_updF); (case zqroom => ktr_room); (case zqhnd => with_reducible assumption); (case zqhz => tb_start); (case zqhn => with_reducible assumption); k_whole); intro zqh' zqtk' zqF' zqN'; (try dsimp only at zqN'); (try k_sweep))
  k_with "g6" => (k_here; (with_reducible show wpAny _ _ (call (Value.ref 177) _) _ _ _); k_dflt (refine' is_draw_use ?zqF ?zqN ?zqX ?zqT ?zqGA ?zqU ?zqroom ?zqhnd ?zqhz ?zqhn ?_; (case zqF => k_asm); (case zqN => k_asm); (case zqX => k_asm); (case zqT => k_asm); (case zqGA => with_reducible assumption); (case zqU => k_updF); (case zqroom => ktr_room); (case zqhnd => with_reducible assumption); (case zqhz => tb_start); (case zqhn => with_reducible assumption); k_whole); intro zqh' zqtk' zqF' zqN'; (try dsimp only at zqN'); (try k_sweep))
  k_with "g6" => (k_here; (with_reducible show wpAny _ _ (call (Value.ref 156) _) _ _ _); k_dflt (refine' value_use ?zqF ?zqN ?zqX ?zqT ?zqGA ?zqU ?zqroom ?zqhnd ?zqhz ?zqhn ?_; (case zqF => k_asm); (case zqN => k_asm); (case zqX => k_asm); (case zqT => k_asm); (case zqGA => with_reducible assumption); (case zqU => k_updF); (case zqroom => ktr_room); (case zqhnd => with_reducible assumption); (case zqhz => tb_start); (case zqhn => with_reducible assumption); k_whole); intro zqt' zqh' zqtk' zqF' zqN'; (try dsimp only at zqN'); (try k_sweep))
  k_with "g6" => (k_here; (with_reducible show wpAny _ _ (call (Value.ref 130) _) _ _ _); k_dflt (refine' moves_use ?zqF ?zqN ?zqX ?zqT ?zqGA ?zqU ?zqroom ?zqhnd ?zqhz ?zqhn ?zqhkl ?_; (case zqF => k_asm); (case zqN => k_asm); (case zqX => k_asm); (case zqT => k_asm); (case zqGA => with_reducible assumption); (case zqU => k_updF); (case zqroom => ktr_room); (case zqhnd => with_reducible assumption); (case zqhz => tb_start); (case zqhn => with_reducible assumption); (case zqhkl => with_reducible assumption); k_whole); intro zqD' zqvs' zqc' zqh' zqtk' zqF' zqN' zql1 zqhI'; (try simp only [AllNe, and_true] at zql1); (try dsimp only at zqN'); (try k_sweep))
  k_with "g6" => (k_here; (with_reducible show wpAny _ _ (call (Value.ref 142) _) _ _ _); k_dflt (refine' make_use ?zqF ?zqN ?zqX ?zqT ?zqGA ?zqU ?zqroom ?zqhnd ?zqhz ?zqhn ?zqhkl ?zqhk ?_; (case zqF => k_asm); (case zqN => k_asm); (case zqX => k_asm); (case zqT => k_asm); (case zqGA => with_reducible assumption); (case zqU => k_updF); (case zqroom => ktr_room); (case zqhnd => with_reducible assumption); (case zqhz => tb_start); (case zqhn => with_reducible assumption); (case zqhkl => with_reducible assumption); (case zqhk => with_reducible assumption); k_whole); intro zqt' zqe' zqh' zqtk' zqF' zqN'; (try dsimp only at zqN'); (try k_sweep))
  k_with "g6" => (k_here; (with_reducible show wpAny _ _ (call (Value.ref 149) _) _ _ _); k_dflt (refine' undo_use ?zqF ?zqN ?zqX ?zqT ?zqGA ?zqU ?zqroom ?zqhz ?zqhz1 ?_; (case zqF => k_asm); (case zqN => k_asm); (case zqX => k_asm); (case zqT => k_asm); (case zqGA => with_reducible assumption); (case zqU => k_updF); (case zqroom => ktr_room); (case zqhz => tb_start); (case zqhz1 => tb_start); k_whole); intro zqv' zqe' zqh' zqtk' zqF' zqN'; (try dsimp only at zqN'); (try k_sweep))
  k_with "g6" => (k_here; (with_reducible show wpAny _ _ (call (Value.ref 28) [Value.int _ _]) _ _ _); k_dflt (refine' mated_in_use ?zqF ?zqN ?zqX ?zqT ?zqroom ?_; (case zqF => k_asm); (case zqN => k_asm); (case zqX => k_asm); (case zqT => k_asm); (case zqroom => ktr_room); k_whole); intro zqt' zqh' zqtk' zqF' zqN'; (try k_sweep))
  k_with "g6" => (k_here; (with_reducible show wpAny _ _ (call (Value.ref 42) _) _ _ _); k_dflt (refine' end_value_use ?zqF ?zqN ?zqX ?zqT ?zqGA ?zqU ?zqroom ?zqhnd ?zqhz ?zqhn ?_; (case zqF => k_asm); (case zqN => k_asm); (case zqX => k_asm); (case zqT => k_asm); (case zqGA => with_reducible assumption); (case zqU => k_updF); (case zqroom => ktr_room); (case zqhnd => with_reducible assumption); (case zqhz => tb_start); (case zqhn => with_reducible assumption); k_whole); intro zqt' zqh' zqtk' zqe' zqF' zqN'; (try dsimp only at zqN'); (try k_sweep))
  k_with "g6" => (k_here; (with_reducible show wpAny _ _ (call (Value.ref 28) [Value.int _ _]) _ _ _); k_dflt (refine' mated_in_use ?zqF ?zqN ?zqX ?zqT ?zqroom ?_; (case zqF => k_asm); (case zqN => k_asm); (case zqX => k_asm); (case zqT => k_asm); (case zqroom => ktr_room); k_whole); intro zqt' zqh' zqtk' zqF' zqN'; (try k_sweep))
  k_with "g6" => (k_here; (with_reducible show wpAny _ _ (call (Value.ref 70) _) _ _ _); k_dflt (refine' quiesce_window_use ?zqF ?zqN ?zqX ?zqT ?zqGA ?zqU ?zqroom ?zqhnd ?zqhz ?zqhn ?zqhck ?_; (case zqF => k_asm); (case zqN => k_asm); (case zqX => k_asm); (case zqT => k_asm); (case zqGA => with_reducible assumption); (case zqU => k_updF); (case zqroom => ktr_room); (case zqhnd => with_reducible assumption); (case zqhz => tb_start); (case zqhn => with_reducible assumption); (case zqhck => with_reducible assumption); k_whole); intro zqt' zqh' zqtk' zqe' zqF' zqN'; (try dsimp only at zqN'); (try k_sweep))
  k_with "g6" => (k_here; (with_reducible show wpAny _ _ (call (Value.ref 77) _) _ _ _); k_dflt (refine' ab_use ?zqIH ?zqF ?zqN ?zqX ?zqT ?zqGA ?zqU ?zqroom ?zqhnd ?zqhz ?zqhn ?zqhw ?zqhdI ?zqhal ?zqhab ?zqhbe ?_; (case zqIH => with_reducible assumption); (case zqF => k_asm); (case zqN => k_asm); (case zqX => k_asm); (case zqT => k_asm); (case zqGA => with_reducible assumption); (case zqU => k_updF); (case zqroom => ktr_room); (case zqhnd => with_reducible assumption); (case zqhz => tb_start); (case zqhn => with_reducible assumption); (case zqhw => with_reducible assumption); (case zqhdI => omega); (case zqhal => with_reducible assumption); (case zqhab => with_reducible assumption); (case zqhbe => with_reducible assumption); k_whole); intro zqx' zqt' zqh' zqtk' zqe' zqhx' zqF' zqN'; (try dsimp only at zqN'); (try k_sweep))
  k_with "g7" => (k_here; (with_reducible show wpAny _ _ (isTrue (Expr.BoolOp BoolOp.And [_, _] _) _ _) _ _ _); (refine' cut' false ?zqF ?zqN ?_ ?_; (case zqF => k_asm); (case zqN => k_asm); (focus (refine isTrue_and ?_)); rotate_left 1; (focus (intro zqh' zqtk' zqF' zqN'; (try k_sweep))); rotate_right 1))
  k_with "g7" => (k_here; (with_reducible show wpAny _ _ (isTrue (Expr.BoolOp BoolOp.And [_, _] _) _ _) _ _ _); (refine' cut' false ?zqF ?zqN ?_ ?_; (case zqF => k_asm); (case zqN => k_asm); (focus (refine isTrue_and ?_)); rotate_left 1; (focus (intro zqh' zqtk' zqF' zqN'; (try k_sweep))); rotate_right 1))
  k_with "g8" => (k_here; (with_reducible show wpAny _ _ (call (Value.ref 170) _) _ _ _); k_dflt (refine' in_check_use ?zqF ?zqN ?zqX ?zqT ?zqGA ?zqU ?zqroom ?zqhnd ?zqhz ?zqhn ?_; (case zqF => k_asm); (case zqN => k_asm); (case zqX => k_asm); (case zqT => k_asm); (case zqGA => with_reducible assumption); (case zqU => k_updF); (case zqroom => ktr_room); (case zqhnd => with_reducible assumption); (case zqhz => tb_start); (case zqhn => with_reducible assumption); k_whole); intro zqh' zqtk' zqF' zqN'; (try dsimp only at zqN'); (try k_sweep))
  k_with "g8" => (k_here; (with_reducible show wpAny _ _ (call (Value.ref 177) _) _ _ _); k_dflt (refine' is_draw_use ?zqF ?zqN ?zqX ?zqT ?zqGA ?zqU ?zqroom ?zqhnd ?zqhz ?zqhn ?_; (case zqF => k_asm); (case zqN => k_asm); (case zqX => k_asm); (case zqT => k_asm); (case zqGA => with_reducible assumption); (case zqU => k_updF); (case zqroom => ktr_room); (case zqhnd => with_reducible assumption); (case zqhz => tb_start); (case zqhn => with_reducible assumption); k_whole); intro zqh' zqtk' zqF' zqN'; (try dsimp only at zqN'); (try k_sweep))
  k_with "g8" => (k_here; (with_reducible show wpAny _ _ (call (Value.ref 156) _) _ _ _); k_dflt (refine' value_use ?zqF ?zqN ?zqX ?zqT ?zqGA ?zqU ?zqroom ?zqhnd ?zqhz ?zqhn ?_; (case zqF => k_asm); (case zqN => k_asm); (case zqX => k_asm); (case zqT => k_asm); (case zqGA => with_reducible assumption); (case zqU => k_updF); (case zqroom => ktr_room); (case zqhnd => with_reducible assumption); (case zqhz => tb_start); (case zqhn => with_reducible assumption); k_whole); intro zqt' zqh' zqtk' zqF' zqN'; (try dsimp only at zqN'); (try k_sweep))
  k_with "g8" => (k_here; (with_reducible show wpAny _ _ (call (Value.ref 130) _) _ _ _); k_dflt (refine' moves_use ?zqF ?zqN ?zqX ?zqT ?zqGA ?zqU ?zqroom ?zqhnd ?zqhz ?zqhn ?zqhkl ?_; (case zqF => k_asm); (case zqN => k_asm); (case zqX => k_asm); (case zqT => k_asm); (case zqGA => with_reducible assumption); (case zqU => k_updF); (case zqroom => ktr_room); (case zqhnd => with_reducible assumption); (case zqhz => tb_start); (case zqhn => with_reducible assumption); (case zqhkl => with_reducible assumption); k_whole); intro zqD' zqvs' zqc' zqh' zqtk' zqF' zqN' zql1 zqhI'; (try simp only [AllNe, and_true] at zql1); (try dsimp only at zqN'); (try k_sweep))
  k_with "g8" => (k_here; (with_reducible show wpAny _ _ (call (Value.ref 142) _) _ _ _); k_dflt (refine' make_use ?zqF ?zqN ?zqX ?zqT ?zqGA ?zqU ?zqroom ?zqhnd ?zqhz ?zqhn ?zqhkl ?zqhk ?_; (case zqF => k_asm); (case zqN => k_asm); (case zqX => k_asm); (case zqT => k_asm); (case zqGA => with_reducible assumption); (case zqU => k_updF); (case zqroom => ktr_room); (case zqhnd => with_reducible assumption); (case zqhz => tb_start); (case zqhn => with_reducible assumption); (case zqhkl => with_reducible assumption); (case zqhk => with_reducible assumption); k_whole); intro zqt' zqe' zqh' zqtk' zqF' zqN'; (try dsimp only at zqN'); (try k_sweep))
  k_with "g8" => (k_here; (with_reducible show wpAny _ _ (call (Value.ref 149) _) _ _ _); k_dflt (refine' undo_use ?zqF ?zqN ?zqX ?zqT ?zqGA ?zqU ?zqroom ?zqhz ?zqhz1 ?_; (case zqF => k_asm); (case zqN => k_asm); (case zqX => k_asm); (case zqT => k_asm); (case zqGA => with_reducible assumption); (case zqU => k_updF); (case zqroom => ktr_room); (case zqhz => tb_start); (case zqhz1 => tb_start); k_whole); intro zqv' zqe' zqh' zqtk' zqF' zqN'; (try dsimp only at zqN'); (try k_sweep))
  k_with "g8" => (k_here; (with_reducible show wpAny _ _ (call (Value.ref 135) _) _ _ _); k_dflt (refine' noisy_use ?zqF ?zqN ?zqX ?zqT ?zqGA ?zqU ?zqroom ?zqhnd ?zqhz ?zqhn ?zqhk0 ?_; (case zqF => k_asm); (case zqN => k_asm); (case zqX => k_asm); (case zqT => k_asm); (case zqGA => with_reducible assumption); (case zqU => k_updF); (case zqroom => ktr_room); (case zqhnd => with_reducible assumption); (case zqhz => tb_start); (case zqhn => with_reducible assumption); (case zqhk0 => with_reducible assumption); k_whole); intro zqv' zqh' zqtk' zqe' zqF' zqN'; (try dsimp only at zqN'); (try k_sweep))
  k_with "g8" => (k_here; (with_reducible show wpAny _ _ (call (Value.ref 63) _) _ _ _); k_dflt (refine' cnt_use ?zqIH ?zqF ?zqN ?zqX ?zqT ?zqGA ?zqU ?zqroom ?zqhnd ?zqhz ?zqhn ?zqhw ?zqhfi ?zqhdI ?_; (case zqIH => with_reducible assumption); (case zqF => k_asm); (case zqN => k_asm); (case zqX => k_asm); (case zqT => k_asm); (case zqGA => with_reducible assumption); (case zqU => k_updF); (case zqroom => ktr_room); (case zqhnd => with_reducible assumption); (case zqhz => tb_start); (case zqhn => with_reducible assumption); (case zqhw => with_reducible assumption); (case zqhfi => with_reducible assumption); (case zqhdI => omega); k_whole); intro zqt' zqh' zqtk' zqe' zqF' zqN'; (try dsimp only at zqN'); (try k_sweep))
  k_with "g9" => (k_here; (with_reducible show wpAny _ _ (call (Value.ref 28) [Value.int _ _]) _ _ _); k_dflt (refine' mated_in_use ?zqF ?zqN ?zqX ?zqT ?zqroom ?_; (case zqF => k_asm); (case zqN => k_asm); (case zqX => k_asm); (case zqT => k_asm); (case zqroom => ktr_room); k_whole); intro zqt' zqh' zqtk' zqF' zqN'; (try k_sweep))
  k_with "g9" => (k_here; (with_reducible show wpAny _ _ (call (Value.ref 230) _) _ _ _); k_dflt (refine' lv_use ?zqIH ?zqF ?zqN ?zqX ?zqT ?zqroom ?zqhun ?zqhc ?zqhpl ?zqhv ?zqhk ?zqhnd ?zqhn ?zqhw ?zqhfi ?_; (case zqIH => with_reducible assumption); (case zqF => k_asm); (case zqN => k_asm); (case zqX => k_asm); (case zqT => k_asm); (case zqroom => ktr_room); (case zqhun => ktr_units); (case zqhc => with_reducible assumption); (case zqhpl => with_reducible assumption); (case zqhv => with_reducible assumption); (case zqhk => with_reducible assumption); (case zqhnd => with_reducible assumption); (case zqhn => with_reducible assumption); (case zqhw => with_reducible assumption); (case zqhfi => with_reducible assumption); k_whole); intro zqt' zqh' zqtk' zqF' zqN'; (try k_sweep))
  k_with "g10" => (k_here; k_inBlock; (with_reducible rename Fr _ _ _ _ => zqkF); k_dflt (refine' cname_B zqkF ?zqk1 ?zqk2 ?zqk3 ?zqkv ?zqkn ?_ ?zqk4 ?zqk8 ?zqk5 ?zqk6 ?zqk7; (case zqk4 => exact rfl); (case zqk8 => exact rfl); (case zqk5 => exact rfl); (case zqk6 => exact rfl); (case zqk7 => decide); (case zqk1 => k_asm); (case zqk2 => k_asm); (case zqk3 => k_is); (case zqkv => boot_fast); (case zqkn => decide); k_whole))
  k_with "g10" => (k_here; k_inBlock; (with_reducible rename Fr _ _ _ _ => zqkF); k_dflt (refine' cname_C zqkF ?zqhc ?zqhg ?zqhd ?_ ?zqk ?zqhx ?zqhb; (case zqhc => exact rfl); (case zqhx => exact rfl); (case zqhg => with_reducible assumption); (case zqhd => with_reducible assumption); (case zqk => exact rfl); (case zqhb => decide); k_whole))
  k_with "g10" => (k_here; k_inBlock; (with_reducible rename Fr _ _ _ _ => zqkF); k_dflt (refine' cname_L zqkF ?zqhv ?_ ?zqk ?zqhx ?zqhb; (case zqhx => exact rfl); (case zqhv => exact rfl); (case zqk => exact rfl); (case zqhb => decide); k_whole))
  k_with "g11" => ((case ho => k_is); (case hcd => k_is); (case bind => exact BindsTo.of_eq rfl); (case loc => exact locs rfl); (case c1 => exact rfl); (case c2 => exact rfl); (case c3 => exact rfl); (case c4 => decide))
  k_with "g11" => ((case ho => k_is); (case hcd => k_is); (case bind => exact BindsTo.of_eq rfl); (case loc => exact locs rfl); (case c1 => exact rfl); (case c2 => exact rfl); (case c3 => exact rfl); (case c4 => decide))
  k_with "g12" => (first | with_reducible assumption | ((try dsimp only [ar, Around.deeper]); omega) | ((try dsimp only [ar, Around.deeper]); simp only [recursionLimit] at *; omega))
  k_with "g12" => (first | with_reducible assumption | ((try dsimp only [ar, Around.deeper]); omega) | ((try dsimp only [ar, Around.deeper]); simp only [recursionLimit] at *; omega))
  k_with "g13" => (k_here; (with_reducible show wpAny _ _ (call (Value.ref 170) _) _ _ _); k_dflt (refine' in_check_use ?zqF ?zqN ?zqX ?zqT ?zqGA ?zqU ?zqroom ?zqhnd ?zqhz ?zqhn ?_; (case zqF => k_asm); (case zqN => k_asm); (case zqX => k_asm); (case zqT => k_asm); (case zqGA => with_reducible assumption); (case zqU => k_updF); (case zqroom => ktr_room); (case zqhnd => with_reducible assumption); (case zqhz => tb_start); (case zqhn => with_reducible assumption); k_whole); intro zqh' zqtk' zqF' zqN'; (try dsimp only at zqN'); (try k_sweep))
  k_with "g13" => (k_here; (with_reducible show wpAny _ _ (call (Value.ref 177) _) _ _ _); k_dflt (refine' is_draw_use ?zqF ?zqN ?zqX ?zqT ?zqGA ?zqU ?zqroom ?zqhnd ?zqhz ?zqhn ?_; (case zqF => k_asm); (case zqN => k_asm); (case zqX => k_asm); (case zqT => k_asm); (case zqGA => with_reducible assumption); (case zqU => k_updF); (case zqroom => ktr_room); (case zqhnd => with_reducible assumption); (case zqhz => tb_start); (case zqhn => with_reducible assumption); k_whole); intro zqh' zqtk' zqF' zqN'; (try dsimp only at zqN'); (try k_sweep))
  k_with "g13" => (k_here; (with_reducible show wpAny _ _ (call (Value.ref 156) _) _ _ _); k_dflt (refine' value_use ?zqF ?zqN ?zqX ?zqT ?zqGA ?zqU ?zqroom ?zqhnd ?zqhz ?zqhn ?_; (case zqF => k_asm); (case zqN => k_asm); (case zqX => k_asm); (case zqT => k_asm); (case zqGA => with_reducible assumption); (case zqU => k_updF); (case zqroom => ktr_room); (case zqhnd => with_reducible assumption); (case zqhz => tb_start); (case zqhn => with_reducible assumption); k_whole); intro zqt' zqh' zqtk' zqF' zqN'; (try dsimp only at zqN'); (try k_sweep))
  k_with "g13" => (k_here; (with_reducible show wpAny _ _ (call (Value.ref 130) _) _ _ _); k_dflt (refine' moves_use ?zqF ?zqN ?zqX ?zqT ?zqGA ?zqU ?zqroom ?zqhnd ?zqhz ?zqhn ?zqhkl ?_; (case zqF => k_asm); (case zqN => k_asm); (case zqX => k_asm); (case zqT => k_asm); (case zqGA => with_reducible assumption); (case zqU => k_updF); (case zqroom => ktr_room); (case zqhnd => with_reducible assumption); (case zqhz => tb_start); (case zqhn => with_reducible assumption); (case zqhkl => with_reducible assumption); k_whole); intro zqD' zqvs' zqc' zqh' zqtk' zqF' zqN' zql1 zqhI'; (try simp only [AllNe, and_true] at zql1); (try dsimp only at zqN'); (try k_sweep))
  k_with "g13" => (k_here; (with_reducible show wpAny _ _ (call (Value.ref 142) _) _ _ _); k_dflt (refine' make_use ?zqF ?zqN ?zqX ?zqT ?zqGA ?zqU ?zqroom ?zqhnd ?zqhz ?zqhn ?zqhkl ?zqhk ?_; (case zqF => k_asm); (case zqN => k_asm); (case zqX => k_asm); (case zqT => k_asm); (case zqGA => with_reducible assumption); (case zqU => k_updF); (case zqroom => ktr_room); (case zqhnd => with_reducible assumption); (case zqhz => tb_start); (case zqhn => with_reducible assumption); (case zqhkl => with_reducible assumption); (case zqhk => with_reducible assumption); k_whole); intro zqt' zqe' zqh' zqtk' zqF' zqN'; (try dsimp only at zqN'); (try k_sweep))
  k_with "g13" => (k_here; (with_reducible show wpAny _ _ (call (Value.ref 149) _) _ _ _); k_dflt (refine' undo_use ?zqF ?zqN ?zqX ?zqT ?zqGA ?zqU ?zqroom ?zqhz ?zqhz1 ?_; (case zqF => k_asm); (case zqN => k_asm); (case zqX => k_asm); (case zqT => k_asm); (case zqGA => with_reducible assumption); (case zqU => k_updF); (case zqroom => ktr_room); (case zqhz => tb_start); (case zqhz1 => tb_start); k_whole); intro zqv' zqe' zqh' zqtk' zqF' zqN'; (try dsimp only at zqN'); (try k_sweep))
  k_with "g13" => (k_here; (with_reducible show wpAny _ _ (call (Value.ref 42) _) _ _ _); k_dflt (refine' end_value_use ?zqF ?zqN ?zqX ?zqT ?zqGA ?zqU ?zqroom ?zqhnd ?zqhz ?zqhn ?_; (case zqF => k_asm); (case zqN => k_asm); (case zqX => k_asm); (case zqT => k_asm); (case zqGA => with_reducible assumption); (case zqU => k_updF); (case zqroom => ktr_room); (case zqhnd => with_reducible assumption); (case zqhz => tb_start); (case zqhn => with_reducible assumption); k_whole); intro zqt' zqh' zqtk' zqe' zqF' zqN'; (try dsimp only at zqN'); (try k_sweep))
  k_with "g13" => (k_here; (with_reducible show wpAny _ _ (call (Value.ref 49) _) _ _ _); k_dflt (refine' neg_use ?zqIH ?zqF ?zqN ?zqX ?zqT ?zqGA ?zqU ?zqroom ?zqhnd ?zqhz ?zqhn ?zqhw ?zqhdI ?_; (case zqIH => with_reducible assumption); (case zqF => k_asm); (case zqN => k_asm); (case zqX => k_asm); (case zqT => k_asm); (case zqGA => with_reducible assumption); (case zqU => k_updF); (case zqroom => ktr_room); (case zqhnd => with_reducible assumption); (case zqhz => tb_start); (case zqhn => with_reducible assumption); (case zqhw => with_reducible assumption); (case zqhdI => omega); k_whole); intro zqt' zqh' zqtk' zqe' zqF' zqN'; (try dsimp only at zqN'); (try k_sweep))
  k_with "g14" => (k_here; (with_reducible show wpAny _ _ (subscriptTail _ _ (Value.ref _) (Value.int (-1) _)) _ _ _); k_dflt (refine' item_last ?zqN ?zqm ?zqs ?_ ?zqhs; (case zqN => k_asm); (case zqm => k_mem); (case zqs => with_reducible assumption); (case zqhs => with_unfolding_all rfl); k_whole))
  k_with "g14" => (k_here; (with_reducible show wpAny _ _ (subscriptTail _ _ (Value.ref _) (Value.int (Nat.cast _) _)) _ _ _); k_dflt (refine' item_gn ?zqF ?zql ?zqx ?zqk ?_ ?zqhs; (case zqF => k_asm); (case zql => with_reducible assumption); (case zqx => with_reducible assumption); (case zqk => omega); (case zqhs => with_unfolding_all rfl); k_whole))
  k_with "g14" => (k_here; (with_reducible show wpAny _ _ (subscriptTail _ _ (Value.ref _) (Value.int 0 _)) _ _ _); k_dflt (refine' item_g ?zqF ?zql ?zqa ?zqb ?zqx ?_ ?zqhs; (case zqF => k_asm); (case zql => with_reducible assumption); (case zqa => decide); (case zqb => decide); (case zqx => assumption); (case zqhs => with_unfolding_all rfl); k_whole))
  k_with "g14" => (k_here; (with_reducible show wpAny _ _ (subscriptTail _ _ (Value.ref _) (Value.int (1 + Nat.cast _ - 1) _)) _ _ _); k_dflt (refine' item_m1 ?zqF ?zql ?zqx ?zqk ?_ ?zqhs; (case zqF => k_asm); (case zql => with_reducible assumption); (case zqx => with_reducible assumption); (case zqk => omega); (case zqhs => with_unfolding_all rfl); k_whole))
  k_with "g15" => ((try dsimp only [ar, Around.deeper]); first | omega | (simp only [units_def'] at *; omega))
  k_with "g15" => (simp only [List.length_cons, List.length_nil, List.length_drop, Array.length_toList]; omega)
  k_with "g16" => (k_here; (with_reducible show wpAny _ _ (subscriptTail _ _ (Value.ref _) (Value.int (-1) _)) _ _ _); k_dflt (refine' item_last ?zqN ?zqm ?zqs ?_ ?zqhs; (case zqN => k_asm); (case zqm => k_mem); (case zqs => with_reducible assumption); (case zqhs => with_unfolding_all rfl); k_whole))
  k_with "g16" => (k_here; (with_reducible show wpAny _ _ (subscriptTail _ _ (Value.ref _) (Value.int (Nat.cast _) _)) _ _ _); k_dflt (refine' item_gn ?zqF ?zql ?zqx ?zqk ?_ ?zqhs; (case zqF => k_asm); (case zql => with_reducible assumption); (case zqx => with_reducible assumption); (case zqk => omega); (case zqhs => with_unfolding_all rfl); k_whole))
  k_with "g16" => (k_here; (with_reducible show wpAny _ _ (subscriptTail _ _ (Value.ref _) (Value.int (0 + Nat.cast _) _)) _ _ _); k_dflt (refine' item_0 ?zqF ?zql ?zqx ?zqk ?_ ?zqhs; (case zqF => k_asm); (case zql => with_reducible assumption); (case zqx => with_reducible assumption); (case zqk => omega); (case zqhs => with_unfolding_all rfl); k_whole))
  k_with "g17" => (k_here; (with_reducible show wpAny _ _ (call (Value.ref 213) _) _ _ _); k_dflt (refine' shell_use ?zqF ?zqN ?zqX ?zqT ?zqU ?zqroom ?zqhl ?zqhi ?zqhns ?zqhk0 ?zqhk1 ?zqhM0 ?zqhM1 ?_; (case zqF => k_asm); (case zqN => k_asm); (case zqX => k_asm); (case zqT => k_asm); (case zqU => k_updF); (case zqroom => decide); (case zqhl => with_reducible assumption); (case zqhi => with_reducible assumption); (case zqhns => omega); (case zqhk0 => omega); (case zqhk1 => omega); (case zqhM0 => omega); (case zqhM1 => omega); k_whole); intro zqx' zqt' zqh' zqtk' zqt2' zqe' zqx0' zqx1' zqF' zqN'; (try dsimp only at zqN'); (try k_sweep))
  k_with "g17" => (k_here; (with_reducible show wpAny _ _ (call (Value.ref 213) _) _ _ _); k_dflt (refine' shell_R ?zqF ?zqN ?zqX ?zqT ?zqU ?zqhl ?zqlp ?zqroom ?zqhi ?zqhns ?zqhk0 ?zqhk1 ?zqhM0 ?zqhM1 ?_; (case zqF => k_asm); (case zqN => k_asm); (case zqX => k_asm); (case zqT => k_asm); (case zqU => k_updF); (case zqhl => k_mem); (case zqlp => k_ne); (case zqroom => decide); (case zqhi => with_reducible assumption); (case zqhns => omega); (case zqhk0 => omega); (case zqhk1 => omega); (case zqhM0 => omega); (case zqhM1 => omega); k_whole); intro xd zqt' zqh' zqtk' zqt2' zqe' hx0 zqx1' zqF' zqN'; (try dsimp only at zqN'); (try k_sweep))
  k_with "g17" => (k_here; (with_reducible show wpAny _ _ (call (Value.ref 220) _) _ _ _); refine for_stop ?_)
  k_with "g17" => (k_here; (with_reducible show wpAny _ _ (call (Value.ref 225) _) _ _ _); refine for_stop ?_)
  k_with "g17" => (k_here; (with_reducible show wpAny _ _ (call (Value.ref 49) _) _ _ _); refine for_stop ?_)
  k_with "g17" => (k_here; (with_reducible show wpAny _ _ (call (Value.ref 230) _) _ _ _); refine for_stop ?_)
  k_with "g17" => (k_here; (with_reducible show wpAny _ _ (call (Value.ref 63) _) _ _ _); refine for_stop ?_)
  k_with "g17" => (k_here; (with_reducible show wpAny _ _ (call (Value.ref 56) _) _ _ _); refine for_stop ?_)
  k_with "g17" => (k_here; (with_reducible show wpAny _ _ (call (Value.ref 77) _) _ _ _); refine for_stop ?_)
  k_with "g17" => (k_here; (with_reducible show wpAny _ _ (call (Value.ref 235) _) _ _ _); refine for_stop ?_)
  k_with "g18" => (k_here; (with_reducible show wpAny _ _ (binaryOp _ (Value.ref _) (Value.ref _)) _ _ _); k_dflt (refine' add_ls ?zqF ?zqN ?zqa ?zqb ?zqx ?zqy ?_; (case zqF => k_asm); (case zqN => k_asm); (case zqa => k_mem); (case zqb => k_mem); (case zqx => first | with_reducible assumption | decide); (case zqy => first | with_reducible assumption | (show _ + 1 ≤ _; decide) | (simp only [List.length_cons, List.length_nil]; decide)); k_whole); intro zqD' zqh' zqF' zqN' zql1; (try k_lt zql1); (try k_sweep))
  k_with "g18" => (k_here; (with_reducible show wpAny _ _ (binaryOp _ (Value.ref _) (Value.ref _)) _ _ _); k_dflt (refine' add_gN ?zqF ?zqN ?zqa ?zqb ?zqx ?zqy ?_; (case zqF => k_asm); (case zqN => k_asm); (case zqa => with_reducible assumption); (case zqb => k_mem); (case zqx => with_reducible assumption); (case zqy => simp only [List.length_cons, List.length_nil]; decide); k_whole); intro zqD' zqh' zqF' zqN' zql1; (try k_lt zql1); (try k_sweep))
  exact ⟨rfl, rfl⟩
end Mine
end
section
open PySem PySem.W PyProof.Rows PySem.Calls PySem.Spec
namespace Mine

def But (S : List Addr) (h h' : Heap) : Prop := ∀ b o, h.get? b = some o → b ∉ S → h'.get? b = some o
theorem But.refl (S : List Addr) (h : Heap) : But S h h := fun _ _ e _ => e
theorem But.trans {S : List Addr} {h h' h'' : Heap} (x : But S h h') (y : But S h' h'') : But S h h'' := fun b o e n => y b o (x b o e n) n
theorem But.sub {S S' : List Addr} {h h' : Heap} (x : But S h h') (hs : ∀ a ∈ S, a ∈ S') : But S' h h' := fun b o e n => x b o e fun q => n (hs b q)
theorem But.stays {S : List Addr} {fz h h' : Heap} (x : But S h h') (hst : fz.StaysIn h) (hS : ∀ a ∈ S, fz.get? a = none) : fz.StaysIn h' := fun b o e => x b o (hst b o e) fun q => by rw [hS b q] at e; cases e

def Back (S : List Addr) (h g : Heap) (L : Addr) (Q : Value → Shared → Prop) (v : Value) (s' : Shared) : Prop := ∃ m', Fr g L s'.heap m' ∧ (But S h s'.heap → Q v s')

abbrev ar (dp un : Nat) (fr : Option (List Env)) (gd : Option (List Code)) : Around := { handled := none, depth := dp, frames := fr, guards := gd, units := un }

section
variable {prog : Program} {w : World} {A : Around} {s : Shared} {K : Frag} {p : Program} {loose : List Str} {mean : ExcName → Option Value} {mg mb : Str → Option Value} {fz : Heap} {news : List (Addr × Obj)} {Q E : Value → Shared → Prop}
theorem enter {name qual : Str} {params : Arguments} {body : List Stmt} {scope : Scope} {dV kV doc pm cdv ct oc : Value} {an od : Option Addr} {osl : Array (Option Value)} {f : Addr} {args : List Value} {binds : List (Str × Value)}
    (X : K.In fz) (T : Top p loose mean mg mb fz) (hst : fz.StaysIn s.heap) (hN : ∀ q ∈ news, s.heap.get? q.1 = some q.2 ∧ fz.get? q.1 = none)
    (ho : K.lookup f = some ⟨oc, od, .func (fnOf name qual params body scope dV kV doc pm an cdv ct), osl⟩) (hcd : codeIn K cdv qual = true) (hroom : A.depth < recursionLimit)
    (hbind : BindsTo s (fnOf name qual params body scope dV kV doc pm an cdv ct) ⟨args, []⟩ binds) (hloc : ∀ y ∈ binds, scope.names.lookup y.1 = some .local)
    (h : ∀ g L' h₁, Fr g L' h₁ (fun y => binds.reverse.lookup y) → News g L' h₁ news → K.In g → Top p loose mean mg mb g → fz.StaysIn g → But (news.map (·.1)) s.heap g → (∀ a o, s.heap.get? a = some o → a < L') →
      wpAny (model prog w) (A.deeper (envOf qual scope L' f cdv)) (execs body (envOf qual scope L' f cdv))
        (fun fl s' => Back (news.map (·.1)) s.heap g L' Q (match fl with | .ret v => v | _ => .none) s') (fun _ _ => False)
        { s with heap := h₁, toks := s.toks + binds.length })
    (hco : scope.isCoroutine = false) (hgen : scope.isGenerator = false) (hk : scope.kind = .function)
    (hcell : ∀ x ∈ scope.names, x.2 ≠ .cell) : wpAny (model prog w) A (call (.ref f) args) Q E s := by
  have nm : ∀ b o, fz.get? b = some o → b ∉ news.map (·.1) := fun b o e q => by
    obtain ⟨p, hp, rfl⟩ := List.mem_map.mp q
    rw [(hN p hp).2] at e; cases e
  have st : fz.StaysIn (hideAll s.heap (news.map (·.1))) := fun b o e => hideAll_get _ (hst b o e) (nm b o e)
  refine wpAny_call (codeAny_call_def (fd := fnOf name qual params body scope dV kV doc pm an cdv ct) (body := body) (binds := binds) hroom (hst _ _ (X _ _ ho)) rfl (T.nolimit.keeps hst) (codeRec_of (X.keeps hst) hcd) rfl hbind hcell hloc (fun h₁ hns hk₁ => ?_) hco hgen hk)
  refine wpAny_mono (h _ s.heap.objs.size h₁ ⟨hns, fun b o e => hk₁ b o (of_hideAll _ e), Nat.le_of_eq (hideAll_size _ _)⟩
    (fun p hp => ⟨hk₁ _ _ (hN p hp).1, Nat.ne_of_lt (Heap.lt_size (hN p hp).1), hideAll_none _ (List.mem_map_of_mem hp)⟩) (X.keeps st) (T.keeps st) st (fun b o e n => hideAll_get _ e n) (fun a o e => Heap.lt_size e)) (fun fl s' hl => ?_) fun _ _ x => x.elim
  obtain ⟨m', F', k⟩ := hl
  exact k fun b o e n => F'.keep b o (hideAll_get _ e n)
end

section
variable {h₀ h h' : Heap} {L : Addr} {m : Str → Option Value} {news : List (Addr × Obj)} {S : List Addr}
theorem Fr.but (F : Fr h₀ L h m) (k : But S h h') (hL : L ∉ S) (h0 : ∀ a ∈ S, h₀.get? a = none) : Fr h₀ L h' m := by
  obtain ⟨oL, es, ep, hg, r⟩ := F.ns
  exact ⟨⟨oL, es, ep, k _ _ hg hL, r⟩, fun b o e => k b o (F.keep b o e) (fun q => by rw [h0 b q] at e; cases e), F.above⟩
theorem News.but (N : News h₀ L h news) (k : But S h h') (hn : ∀ q ∈ news, q.1 ∉ S) : News h₀ L h' news := fun q hq => ⟨k _ _ (N q hq).1 (hn q hq), (N q hq).2⟩
theorem News.but0 (N : News h₀ L h news) (k : But [] h h') : News h₀ L h' news := News.but N k fun _ _ q => by cases q
theorem Fr.but0 (F : Fr h₀ L h m) (k : But [] h h') : Fr h₀ L h' m := Fr.but F k (by simp) (by simp)
end

end Mine
end
section
open PySem PySem.W PyProof.Rows PySem.Calls PySem.Spec
namespace Mine

abbrev ZL (ks : List Nat) : List Int := ks.map fun (x : Nat) => (x : Int)

structure GT where
  n : Nat
  kids : Nat → List Nat
  val : Nat → Int
  chk : Nat → Bool

/-- the i-th item of cs: a list of the ints ks -/
inductive RowOf (h : Heap) (cs : Array Value) (i : Nat) (ks : List Nat) : Prop
  | mk (r : Addr) (row : List Value) (e1 : cs[i]? = some (.ref r)) (e2 : h.IsList r row.toArray) (e3 : IntsAre row (ZL ks)) : RowOf h cs i ks
/-- a list of lists of ints at c -/
inductive RowsAt (h : Heap) (c : Addr) (n : Nat) (kids : Nat → List Nat) : Prop
  | mk (cs : Array Value) (a : h.IsList c cs) (b : cs.size = n) (e : ∀ i, i < n → RowOf h cs i (kids i)) : RowsAt h c n kids
inductive IntsAt (h : Heap) (c : Addr) (n : Nat) (val : Nat → Int) : Prop
  | mk (cs : Array Value) (a : h.IsList c cs) (b : cs.size = n) (e : ∀ i, i < n → ∃ t, cs[i]? = some (.int (val i) t)) : IntsAt h c n val
inductive BoolsAt (h : Heap) (c : Addr) (n : Nat) (val : Nat → Bool) : Prop
  | mk (cs : Array Value) (a : h.IsList c cs) (b : cs.size = n) (e : ∀ i, i < n → cs[i]? = some (.bool (val i))) : BoolsAt h c n val

theorem isList_stays {base h : Heap} {l : Addr} {items : Array Value} (k : base.StaysIn h) (x : base.IsList l items) : h.IsList l items := let ⟨o, ho, r⟩ := x; ⟨o, k l o ho, r⟩
theorem RowsAt.stays {h h' : Heap} {c : Addr} {n : Nat} {kids : Nat → List Nat} (R : RowsAt h c n kids) (k : h.StaysIn h') : RowsAt h' c n kids := by
  obtain ⟨cs, a, b, e⟩ := R
  refine ⟨cs, isList_stays k a, b, fun i hi => ?_⟩
  obtain ⟨r, row, e1, e2, e3⟩ := e i hi
  exact ⟨r, row, e1, isList_stays k e2, e3⟩
theorem IntsAt.stays {h h' : Heap} {c : Addr} {n : Nat} {val : Nat → Int} (R : IntsAt h c n val) (k : h.StaysIn h') : IntsAt h' c n val := by
  obtain ⟨cs, a, b, e⟩ := R
  exact ⟨cs, isList_stays k a, b, e⟩
theorem BoolsAt.stays {h h' : Heap} {c : Addr} {n : Nat} {val : Nat → Bool} (R : BoolsAt h c n val) (k : h.StaysIn h') : BoolsAt h' c n val := by
  obtain ⟨cs, a, b, e⟩ := R
  exact ⟨cs, isList_stays k a, b, e⟩

abbrev gameDict (P : Params) (c v k d nz gn p : Addr) (t1 t2 t3 t4 t5 t6 t7 : Tok) : List DictEntry :=
  [⟨PyData.keyHash P (Str.ofString "children"), .str (Str.ofString "children") t1, .ref c⟩,
   ⟨PyData.keyHash P (Str.ofString "values"), .str (Str.ofString "values") t2, .ref v⟩,
   ⟨PyData.keyHash P (Str.ofString "checks"), .str (Str.ofString "checks") t3, .ref k⟩,
   ⟨PyData.keyHash P (Str.ofString "draws"), .str (Str.ofString "draws") t4, .ref d⟩,
   ⟨PyData.keyHash P (Str.ofString "noisy_rows"), .str (Str.ofString "noisy_rows") t5, .ref nz⟩,
   ⟨PyData.keyHash P (Str.ofString "gain_rows"), .str (Str.ofString "gain_rows") t6, .ref gn⟩,
   ⟨PyData.keyHash P (Str.ofString "path"), .str (Str.ofString "path") t7, .ref p⟩]

/-- the game object at gm, but for what its path holds -/
inductive GameAt (w : World) (h : Heap) (gm p : Addr) (G : GT) : Prop
  | mk (dx c v k d nz gn : Addr) (n : Nat) (t1 t2 t3 t4 t5 t6 t7 : Tok) (e1 : h.get? gm = some (instObj 201 dx)) (e2 : h.get? dx = some (dictOf (gameDict w.params c v k d nz gn p t1 t2 t3 t4 t5 t6 t7) n))
    (e3 : RowsAt h c G.n G.kids) (e4 : IntsAt h v G.n G.val) (e5 : BoolsAt h k G.n G.chk) (e6 : BoolsAt h d G.n fun _ => false) : GameAt w h gm p G
theorem GameAt.stays {w : World} {h h' : Heap} {gm p : Addr} {G : GT} (R : GameAt w h gm p G) (k : h.StaysIn h') : GameAt w h' gm p G := by
  obtain ⟨dx, c, v, kk, d, nz, gn, n, t1, t2, t3, t4, t5, t6, t7, a1, a2, a3, a4, a5, a6⟩ := R
  exact ⟨dx, c, v, kk, d, nz, gn, n, t1, t2, t3, t4, t5, t6, t7, k _ _ a1, k _ _ a2, a3.stays k, a4.stays k, a5.stays k, a6.stays k⟩

theorem fresh_of {S : List Addr} {h g : Heap} {D : Addr} (bt : But S h g) (hg : g.get? D = none) (hS : D ∉ S) : h.get? D = none := by
  cases e : h.get? D with
  | none => rfl
  | some o => rw [bt _ _ e hS] at hg; cases hg

theorem inst_F {g h : Heap} {L x C dx : Addr} {m : Str → Option Value} {od : Obj} (F : Fr g L h m) (h1 : g.get? x = some (instObj C dx)) (h2 : g.get? dx = some od) : InstAt h x (instObj C dx) C (some od) :=
  ⟨F.keep _ _ h1, rfl, rfl, F.keep _ _ h2⟩

section
variable {prog : Program} {w : World} {A : Around} {E : Value → Shared → Prop} {s : Shared} {g : Heap} {L : Addr} {m : Str → Option Value} {news : List (Addr × Obj)} {Q : Value → Shared → Prop}
/-- an item of a list that stands -/
theorem item_g {value slice : PySem.Expr} {l : Addr} {its : Array Value} {k : Int} {u : Tok} {v : Value}
    (F : Fr g L s.heap m) (hl : g.IsList l its) (h0 : 0 ≤ k) (hhi : k < 2 ^ 63) (hx : its[k.toNat]? = some v) (h : Q v s)
    (hs : subscripted slice false (.ref l) (.int k u) = operate [.ref l, .int k u] (getItem (.ref l) (.int k u)) := by with_unfolding_all rfl) :
    wpAny (model prog w) A (subscriptTail value slice (.ref l) (.int k u)) Q E s :=
  have hl' : s.heap.IsList l its := isList_stays F.keep hl
  tail_any hl'.typeIs slot_list_getitem.lookup (wpAny_getItem_list hl' h0 hhi (by simpa using hx) h) hs
theorem item_N {value slice : PySem.Expr} {l : Addr} {its : Array Value} {n : Nat} {k : Int} {u : Tok} {v : Value}
    (N : News g L s.heap news) (hl : (l, listOf its n) ∈ news) (h0 : 0 ≤ k) (hhi : k < 2 ^ 63) (hx : its[k.toNat]? = some v) (h : Q v s)
    (hs : subscripted slice false (.ref l) (.int k u) = operate [.ref l, .int k u] (getItem (.ref l) (.int k u)) := by with_unfolding_all rfl) :
    wpAny (model prog w) A (subscriptTail value slice (.ref l) (.int k u)) Q E s :=
  have hl' : s.heap.IsList l its := ⟨_, (N _ hl).1, rfl, n, rfl⟩
  tail_any hl'.typeIs slot_list_getitem.lookup (wpAny_getItem_list hl' h0 hhi (by simpa using hx) h) hs
theorem item_gn {value slice : PySem.Expr} {l : Addr} {its : Array Value} {k : Nat} {u : Tok} {v : Value}
    (F : Fr g L s.heap m) (hl : g.IsList l its) (hx : its[k]? = some v) (hk : k ≤ 1000000) (h : Q v s)
    (hs : subscripted slice false (.ref l) (.int (k : Int) u) = operate [.ref l, .int (k : Int) u] (getItem (.ref l) (.int (k : Int) u)) := by with_unfolding_all rfl) :
    wpAny (model prog w) A (subscriptTail value slice (.ref l) (.int (k : Int) u)) Q E s :=
  item_g F hl (by omega) (by omega) (by simpa using hx) h hs
theorem item_last {value slice : PySem.Expr} {l : Addr} {xs : Array Value} {n : Nat} {u : Tok} {v : Value}
    (N : News g L s.heap news) (hl : (l, listOf (xs.push v) n) ∈ news) (hz : xs.size ≤ 1000) (h : Q v s)
    (hs : subscripted slice false (.ref l) (.int (-1) u) = operate [.ref l, .int (-1) u] (getItem (.ref l) (.int (-1) u)) := by with_unfolding_all rfl) :
    wpAny (model prog w) A (subscriptTail value slice (.ref l) (.int (-1) u)) Q E s :=
  have hl' : s.heap.IsList l (xs.push v) := ⟨_, (N _ hl).1, rfl, n, rfl⟩
  tail_any hl'.typeIs slot_list_getitem.lookup (wpAny_getItem_list_neg hl' (by omega) (by rw [Array.size_push]; omega) (by omega) (by rw [Array.size_push]; show (xs.push v)[(-1 + ((xs.size + 1 : Nat) : Int)).toNat]? = some v; rw [show (-1 + ((xs.size + 1 : Nat) : Int)).toNat = xs.size by omega]; simp) h) hs
theorem len_gi {l : Addr} {row : List Value} {ks : List Nat} (F : Fr g L s.heap m) (hl : g.IsList l row.toArray) (hi : IntsAre row (ZL ks)) (hz : ks.length ≤ 1000)
    (h : ∀ t tk, Q (.int (ks.length : Int) t) { s with toks := tk }) : wpAny (model prog w) A (call (.builtin "len") [.ref l]) Q E s := by
  have e : row.toArray.size = ks.length := by simp [hi.length]
  exact call_len_list (isList_stays F.keep hl) (by rw [e]; omega) (by rw [e]; exact h _ _)
theorem len_N {l : Addr} {its : Array Value} {n : Nat} (N : News g L s.heap news) (hl : (l, listOf its n) ∈ news) (hz : its.size ≤ 1000000)
    (h : ∀ t tk, Q (.int (its.size : Int) t) { s with toks := tk }) : wpAny (model prog w) A (call (.builtin "len") [.ref l]) Q E s :=
  call_len_list (s := s) ⟨_, (N _ hl).1, rfl, n, rfl⟩ (by omega) (h _ _)
theorem len_push_N {l : Addr} {xs : Array Value} {v : Value} {n : Nat} (N : News g L s.heap news) (hl : (l, listOf (xs.push v) n) ∈ news) (hz : xs.size ≤ 1000)
    (h : ∀ t tk, Q (.int ((xs.size : Int) + 1) t) { s with toks := tk }) : wpAny (model prog w) A (call (.builtin "len") [.ref l]) Q E s :=
  len_N N hl (by rw [Array.size_push]; omega) fun t tk => by rw [Array.size_push]; exact h t tk
theorem pop_push {D : Addr} {xs : Array Value} {v : Value} {n : Nat} {news' : List (Addr × Obj)} (F : Fr g L s.heap m) (N : News g L s.heap news) (U : Upd D (listOf (xs.push v) n) (listOf xs (n + 1)) news news') (hz : xs.size ≤ 1000)
    (h : ∀ h', Fr g L h' m → News g L h' news' → Q v { s with heap := h' }) : wpAny (model prog w) A (call (.builtin "list.pop") [.ref D]) Q E s := by
  refine kl_pop F N (its := xs.push v) (p := xs.toList) (y := v) ?_ (by simpa using U) (by rw [Array.length_toList, Array.size_push, sizeLine_eq]; omega) h
  rw [Array.toList_push]
  exact kpa_last v xs.toList
end
end Mine
end
section
open PySem PySem.W PyProof.Rows PySem.Calls PySem.Spec
namespace Mine
section
variable {prog : Program} {w : World} {p : Program} {loose : List Str} {mean : ExcName → Option Value} {mg mb : Str → Option Value}

local macro_rules | `(tactic| ktr_unf) => `(tactic| k_extra "r1")
local macro_rules | `(tactic| k_inst) => `(tactic| exact inst_F (by k_asm) (by assumption) (by assumption))

local macro_rules | `(tactic| walk_at "subscriptTail") => `(tactic| k_extra "g1")

local macro_rules | `(tactic| walk_at "call builtin:len") => `(tactic| k_extra "g2")
local macro_rules | `(tactic| walk_at "call builtin:list.pop") => `(tactic| k_extra "r8")

set_option maxHeartbeats 400000 in
theorem in_check_spec {s : Shared} {fz : Heap} {dp un : Nat} {fr : Option (List Env)} {gd : Option (List Code)} {Q E : Value → Shared → Prop} {gm pa : Addr} {G : GT} {xs : Array Value} {nd : Nat} {tn : Tok} {e : Nat}
    (X : (hd.heap_1 w.params).In fz) (T : Top p loose mean mg mb fz) (st : fz.StaysIn s.heap) (room : dp < recursionLimit)
    (GA : GameAt w fz gm pa G) (hp : s.heap.get? pa = some (listOf (xs.push (.int nd tn)) e)) (hp0 : fz.get? pa = none) (hnd : nd < G.n) (hz : xs.size ≤ 1000) (hn : G.n ≤ 1000)
    (ret : ∀ h' tk', But [pa] s.heap h' → h'.get? pa = some (listOf (xs.push (.int nd tn)) e) → Q (.bool (G.chk nd)) { s with heap := h', toks := tk' }) :
    wpAny (model prog w) (ar dp un fr gd) (call (.ref 170) [.ref gm]) Q E s := by
  have N : ∀ q ∈ [(pa, listOf (xs.push (.int nd tn)) e)], s.heap.get? q.1 = some q.2 ∧ fz.get? q.1 = none := by simp [hp, hp0]
  refine' enter (K := hd.heap_1 w.params) (binds := [(Str.ofString "self", .ref gm)]) X T st N ?ho ?hcd room ?bind ?loc ?h ?c1 ?c2 ?c3 ?c4
  ktr_unf
  intro g L h₁ F N X' T' st' bt lt
  try dsimp only
  k_fold
  obtain ⟨dx, c, v, kk, d, nz, gn, n, t1, t2, t3, t4, t5, t6, t7, a1, a2, a3, a4, a5, a6⟩ := GA.stays st'
  obtain ⟨ks, b1, b2, b3⟩ := a5
  have b4 := b3 nd hnd
  k_steps
  exact ⟨_, by assumption, fun hb => ret _ _ hb (N _ (.head _)).1⟩


set_option maxHeartbeats 400000 in
theorem is_draw_spec {s : Shared} {fz : Heap} {dp un : Nat} {fr : Option (List Env)} {gd : Option (List Code)} {Q E : Value → Shared → Prop} {gm pa : Addr} {G : GT} {xs : Array Value} {nd : Nat} {tn : Tok} {e : Nat}
    (X : (hd.heap_1 w.params).In fz) (T : Top p loose mean mg mb fz) (st : fz.StaysIn s.heap) (room : dp < recursionLimit)
    (GA : GameAt w fz gm pa G) (hp : s.heap.get? pa = some (listOf (xs.push (.int nd tn)) e)) (hp0 : fz.get? pa = none) (hnd : nd < G.n) (hz : xs.size ≤ 1000) (hn : G.n ≤ 1000)
    (ret : ∀ h' tk', But [pa] s.heap h' → h'.get? pa = some (listOf (xs.push (.int nd tn)) e) → Q (.bool false) { s with heap := h', toks := tk' }) :
    wpAny (model prog w) (ar dp un fr gd) (call (.ref 177) [.ref gm]) Q E s := by
  have N : ∀ q ∈ [(pa, listOf (xs.push (.int nd tn)) e)], s.heap.get? q.1 = some q.2 ∧ fz.get? q.1 = none := by simp [hp, hp0]
  refine' enter (K := hd.heap_1 w.params) (binds := [(Str.ofString "self", .ref gm)]) X T st N ?ho ?hcd room ?bind ?loc ?h ?c1 ?c2 ?c3 ?c4
  ktr_unf
  intro g L h₁ F N X' T' st' bt lt
  try dsimp only
  k_fold
  obtain ⟨dx, c, v, kk, d, nz, gn, n, t1, t2, t3, t4, t5, t6, t7, a1, a2, a3, a4, a5, a6⟩ := GA.stays st'
  obtain ⟨ks, b1, b2, b3⟩ := a6
  have b4 := b3 nd hnd
  k_steps
  exact ⟨_, by assumption, fun hb => ret _ _ hb (N _ (.head _)).1⟩


set_option maxHeartbeats 400000 in
theorem value_spec {s : Shared} {fz : Heap} {dp un : Nat} {fr : Option (List Env)} {gd : Option (List Code)} {Q E : Value → Shared → Prop} {gm pa : Addr} {G : GT} {xs : Array Value} {nd : Nat} {tn : Tok} {e : Nat}
    (X : (hd.heap_1 w.params).In fz) (T : Top p loose mean mg mb fz) (st : fz.StaysIn s.heap) (room : dp < recursionLimit)
    (GA : GameAt w fz gm pa G) (hp : s.heap.get? pa = some (listOf (xs.push (.int nd tn)) e)) (hp0 : fz.get? pa = none) (hnd : nd < G.n) (hz : xs.size ≤ 1000) (hn : G.n ≤ 1000)
    (ret : ∀ t h' tk', But [pa] s.heap h' → h'.get? pa = some (listOf (xs.push (.int nd tn)) e) → Q (.int (G.val nd) t) { s with heap := h', toks := tk' }) :
    wpAny (model prog w) (ar dp un fr gd) (call (.ref 156) [.ref gm]) Q E s := by
  have N : ∀ q ∈ [(pa, listOf (xs.push (.int nd tn)) e)], s.heap.get? q.1 = some q.2 ∧ fz.get? q.1 = none := by simp [hp, hp0]
  refine' enter (K := hd.heap_1 w.params) (binds := [(Str.ofString "self", .ref gm)]) X T st N ?ho ?hcd room ?bind ?loc ?h ?c1 ?c2 ?c3 ?c4
  ktr_unf
  intro g L h₁ F N X' T' st' bt lt
  try dsimp only
  k_fold
  obtain ⟨dx, c, v, kk, d, nz, gn, n, t1, t2, t3, t4, t5, t6, t7, a1, a2, a3, a4, a5, a6⟩ := GA.stays st'
  obtain ⟨ks, b1, b2, b3⟩ := a4
  obtain ⟨tv, b4⟩ := b3 nd hnd
  k_steps
  exact ⟨_, by assumption, fun hb => ret _ _ _ hb (N _ (.head _)).1⟩


set_option maxHeartbeats 400000 in
theorem moves_spec {s : Shared} {fz : Heap} {dp un : Nat} {fr : Option (List Env)} {gd : Option (List Code)} {Q E : Value → Shared → Prop} {gm pa : Addr} {G : GT} {xs : Array Value} {nd : Nat} {tn : Tok} {e : Nat}
    (X : (hd.heap_1 w.params).In fz) (T : Top p loose mean mg mb fz) (st : fz.StaysIn s.heap) (room : dp < recursionLimit)
    (GA : GameAt w fz gm pa G) (hp : s.heap.get? pa = some (listOf (xs.push (.int nd tn)) e)) (hp0 : fz.get? pa = none) (hnd : nd < G.n) (hz : xs.size ≤ 1000) (hn : G.n ≤ 1000) (hkl : (G.kids nd).length ≤ 1000)
    (ret : ∀ D vs c h' tk', But [pa] s.heap h' → h'.get? pa = some (listOf (xs.push (.int nd tn)) e) → h'.get? D = some (listOf (List.toArray vs) c) → s.heap.get? D = none → IntsAre vs (rangeKs 1 (G.kids nd).length) → Q (.ref D) { s with heap := h', toks := tk' }) :
    wpAny (model prog w) (ar dp un fr gd) (call (.ref 130) [.ref gm]) Q E s := by
  have N : ∀ q ∈ [(pa, listOf (xs.push (.int nd tn)) e)], s.heap.get? q.1 = some q.2 ∧ fz.get? q.1 = none := by simp [hp, hp0]
  refine' enter (K := hd.heap_1 w.params) (binds := [(Str.ofString "self", .ref gm)]) X T st N ?ho ?hcd room ?bind ?loc ?h ?c1 ?c2 ?c3 ?c4
  ktr_unf
  intro g L h₁ F N X' T' st' bt lt
  try dsimp only
  k_fold
  obtain ⟨dx, c, v, kk, d, nz, gn, n, t1, t2, t3, t4, t5, t6, t7, a1, a2, a3, a4, a5, a6⟩ := GA.stays st'
  obtain ⟨ks, b1, b2, b3⟩ := a3
  obtain ⟨r, row, b4, b5, b6⟩ := b3 nd hnd
  k_steps
  (rename News _ _ _ _ => N9)
  (rename IntsAre _ (rangeKs _ _) => I9)
  refine ⟨_, by assumption, fun hb => ret _ _ _ _ _ hb (N9 _ (.tail _ (.head _))).1 (N9 _ (.head _)).1 ?_ ?_⟩
  · refine fresh_of bt (N9 _ (.head _)).2.2 ?_
    simp only [List.map_cons, List.map_nil, List.mem_singleton]
    exact Nat.ne_of_gt (by assumption)
  · have e9 : ((G.kids nd).length + 1 - 1 : Int).toNat = (G.kids nd).length := by omega
    rw [e9] at I9
    exact I9


set_option maxHeartbeats 400000 in
theorem make_spec {s : Shared} {fz : Heap} {dp un : Nat} {fr : Option (List Env)} {gd : Option (List Code)} {Q E : Value → Shared → Prop} {gm pa : Addr} {G : GT} {xs : Array Value} {nd : Nat} {tn : Tok} {e : Nat} {j k : Nat} {tm : Tok}
    (X : (hd.heap_1 w.params).In fz) (T : Top p loose mean mg mb fz) (st : fz.StaysIn s.heap) (room : dp < recursionLimit)
    (GA : GameAt w fz gm pa G) (hp : s.heap.get? pa = some (listOf (xs.push (.int nd tn)) e)) (hp0 : fz.get? pa = none) (hnd : nd < G.n) (hz : xs.size ≤ 1000) (hn : G.n ≤ 1000) (hkl : (G.kids nd).length ≤ 1000) (hk : (G.kids nd)[j]? = some k)
    (ret : ∀ t e' h' tk', But [pa] s.heap h' → h'.get? pa = some (listOf ((xs.push (.int nd tn)).push (.int k t)) e') → Q .none { s with heap := h', toks := tk' }) :
    wpAny (model prog w) (ar dp un fr gd) (call (.ref 142) [.ref gm, .int (1 + (j : Int)) tm]) Q E s := by
  have N : ∀ q ∈ [(pa, listOf (xs.push (.int nd tn)) e)], s.heap.get? q.1 = some q.2 ∧ fz.get? q.1 = none := by simp [hp, hp0]
  refine' enter (K := hd.heap_1 w.params) (binds := [(Str.ofString "self", .ref gm), (Str.ofString "move", .int (1 + (j : Int)) tm)]) X T st N ?ho ?hcd room ?bind ?loc ?h ?c1 ?c2 ?c3 ?c4
  ktr_unf
  intro g L h₁ F N X' T' st' bt lt
  try dsimp only
  k_fold
  obtain ⟨dx, c, v, kk, d, nz, gn, n, t1, t2, t3, t4, t5, t6, t7, a1, a2, a3, a4, a5, a6⟩ := GA.stays st'
  obtain ⟨ks, b1, b2, b3⟩ := a3
  obtain ⟨r, row, b4, b5, b6⟩ := b3 nd hnd
  have hjl : j < (G.kids nd).length := by obtain ⟨h, _⟩ := List.getElem?_eq_some_iff.mp hk; exact h
  obtain ⟨tk, hx⟩ := b6.get j (k : Int) (by simp [hk])
  have hx' : row.toArray[(1 + (j : Int) - 1).toNat]? = some (.int (k : Int) tk) := by rw [show (1 + (j : Int) - 1).toNat = j by omega]; simpa using hx
  k_steps
  (rename News _ _ _ _ => N9)
  have e9 : (ZL (G.kids nd)).getD (1 + (j : Int) - 1).toNat 0 = (k : Int) := by rw [show (1 + (j : Int) - 1).toNat = j by omega, List.getD_eq_getElem?_getD]; simp [hk]
  rw [e9] at N9
  exact ⟨_, by assumption, fun hb => ret _ _ _ _ hb (N9 _ (.head _)).1⟩


set_option maxHeartbeats 400000 in
theorem undo_spec {s : Shared} {fz : Heap} {dp un : Nat} {fr : Option (List Env)} {gd : Option (List Code)} {Q E : Value → Shared → Prop} {gm pa : Addr} {G : GT} {xs : Array Value} {v0 : Value} {e : Nat}
    (X : (hd.heap_1 w.params).In fz) (T : Top p loose mean mg mb fz) (st : fz.StaysIn s.heap) (room : dp < recursionLimit)
    (GA : GameAt w fz gm pa G) (hp : s.heap.get? pa = some (listOf (xs.push v0) e)) (hp0 : fz.get? pa = none) (hz : xs.size ≤ 1000) (hz1 : 1 ≤ xs.size)
    (ret : ∀ v e' h' tk', But [pa] s.heap h' → h'.get? pa = some (listOf xs e') → Q v { s with heap := h', toks := tk' }) :
    wpAny (model prog w) (ar dp un fr gd) (call (.ref 149) [.ref gm]) Q E s := by
  have N : ∀ q ∈ [(pa, listOf (xs.push v0) e)], s.heap.get? q.1 = some q.2 ∧ fz.get? q.1 = none := by simp [hp, hp0]
  refine' enter (K := hd.heap_1 w.params) (binds := [(Str.ofString "self", .ref gm)]) X T st N ?ho ?hcd room ?bind ?loc ?h ?c1 ?c2 ?c3 ?c4
  ktr_unf
  intro g L h₁ F N X' T' st' bt lt
  try dsimp only
  k_fold
  obtain ⟨dx, c, v, kk, d, nz, gn, n, t1, t2, t3, t4, t5, t6, t7, a1, a2, a3, a4, a5, a6⟩ := GA.stays st'
  k_steps
  · exfalso; omega
  (rename News _ _ _ _ => N9)
  exact ⟨_, by assumption, fun hb => ret _ _ _ _ hb (N9 _ (.head _)).1⟩
end
end Mine
end
section
open PySem PySem.W PyProof.Rows PySem.Calls PySem.Spec
namespace Mine

def AllNe (D : Addr) : List (Addr × Obj) → Prop
  | [] => True
  | p :: r => (@Ne Nat p.1 D) ∧ AllNe D r
theorem allNe_of {D : Addr} : ∀ {l : List (Addr × Obj)}, (∀ q ∈ l, q.1 ≠ D) → AllNe D l
  | [], _ => trivial
  | p :: _, h => ⟨h p (.head _), allNe_of fun q hq => h q (.tail _ hq)⟩

theorem ne_of_none {h : Heap} {D a : Addr} {o : Obj} (hD : h.get? D = none) (ha : h.get? a = some o) : a ≠ D := fun e => by rw [e, hD] at ha; cases ha

section
variable {g h h' : Heap} {L pa : Addr} {m : Str → Option Value} {news : List (Addr × Obj)} {o o' : Obj} {gg : Obj → List (Addr × Obj)}
theorem after1 (F : Fr g L h m) (N : News g L h news) (U : UpdF pa o news gg) (hb : But [pa] h h') (hp : h'.get? pa = some o') : Fr g L h' m ∧ News g L h' (gg o') := by
  obtain ⟨pre, post, rfl, hg, a, b⟩ := U.split
  have z := N (pa, o) (List.mem_append.mpr (.inr (.head _)))
  refine ⟨Fr.but F hb (by simpa using Ne.symm z.2.1) (by simpa using z.2.2), ?_⟩
  rw [hg]
  intro q hq
  rcases List.mem_append.mp hq with hq | hq
  · have y := N q (List.mem_append.mpr (.inl hq))
    exact ⟨hb _ _ y.1 (by simpa using a q hq), y.2⟩
  · rcases List.mem_cons.mp hq with rfl | hq
    · exact ⟨hp, z.2⟩
    · have y := N q (List.mem_append.mpr (.inr (.tail _ hq)))
      exact ⟨hb _ _ y.1 (by simpa using b q hq), y.2⟩
theorem updF_mem (U : UpdF pa o news gg) : (pa, o) ∈ news := by
  obtain ⟨pre, post, rfl, _⟩ := U.split
  exact List.mem_append.mpr (.inr (.head _))
theorem updF_adr (U : UpdF pa o news gg) : (gg o').map (·.1) = news.map (·.1) := by
  obtain ⟨pre, post, rfl, hg, _⟩ := U.split
  rw [hg]; simp
/-- what a call made is none of what stood -/
theorem updF_ne {D : Addr} (N : News g L h news) (U : UpdF pa o news gg) (hD : h.get? D = none) : AllNe D (gg o') := by
  refine allNe_of fun q hq => ?_
  have : q.1 ∈ (gg o').map (·.1) := List.mem_map_of_mem hq
  rw [updF_adr U] at this
  obtain ⟨q', hq', e⟩ := List.mem_map.mp this
  rw [← e]
  exact ne_of_none hD (N q' hq').1
end

section
variable {prog : Program} {w : World} {A : Around} {E : Value → Shared → Prop} {s : Shared} {env : Env} {h₀ : Heap} {x : Str} {body : List Stmt} {Q : Flow → Shared → Prop}
def TurnEndL (h₀ : Heap) (L : Addr) (J : (Str → Option Value) → List (Addr × Obj) → Prop) (own : Addr × Obj) (s₁ : Shared) (Q : Flow → Shared → Prop) (f : Flow) (s₂ : Shared) : Prop :=
  match f with
  | .ret v => Q (.ret v) s₂
  | .brk => Q .next s₂
  | _ => ∃ h' tk m' news', s₂ = { s₁ with heap := h', toks := tk } ∧ Fr h₀ L h' m' ∧ News h₀ L h' (own :: news') ∧ J m' news'
theorem TurnEndL.next {L : Addr} {J : (Str → Option Value) → List (Addr × Obj) → Prop} {own : Addr × Obj} {s₁ : Shared} {h' : Heap} {tk : Nat} {m' : Str → Option Value} {news' : List (Addr × Obj)}
    (F : Fr h₀ L h' m') (N : News h₀ L h' (own :: news')) (hj : J m' news') : TurnEndL h₀ L J own s₁ Q .next { s₁ with heap := h', toks := tk } := ⟨h', tk, m', news', rfl, F, N, hj⟩

theorem iter_led {D : Addr} {its : Array Value} {c : Nat} {m₀ : Str → Option Value} {news : List (Addr × Obj)} (J : Nat → (Str → Option Value) → List (Addr × Obj) → Prop)
    (hh : A.handled = none) (F : Fr h₀ env.locals s.heap m₀) (N : News h₀ env.locals s.heap news) (hD : (D, listOf its c) ∈ news) (h0 : J 0 m₀ news)
    (hJ : ∀ i m n, J i m n → (D, listOf its c) ∈ n ∧ n.map (·.1) = news.map (·.1))
    (turn : ∀ I io i v m₁ news₁ h tk, (∀ q ∈ news, q.1 < I) → its[i]? = some v → J i m₁ news₁ → Fr h₀ env.locals h (fun y => if y = x then some v else m₁ y) → News h₀ env.locals h ((I, io) :: news₁) →
      wpAny (model prog w) A (execs body env) (TurnEndL h₀ env.locals (J (i + 1)) (I, io) { s with heap := h, toks := tk } Q) E { s with heap := h, toks := tk })
    (done : ∀ m₁ news₁ h tk, J its.size m₁ news₁ → Fr h₀ env.locals h m₁ → News h₀ env.locals h news₁ → Q .next { s with heap := h, toks := tk }) :
    wpAny (model prog w) A (pyIter (.ref D)) (fun it s₂ => LoopAtV prog w A h₀ env x body Q E it s₂) E s := by
  have zD := N _ hD
  have hls : s.heap.IsList D its := ⟨_, zD.1, rfl, c, rfl⟩
  have hlt : D < s.heap.objs.size := Heap.lt_size zD.1
  have hne : D ≠ s.heap.objs.size := Nat.ne_of_lt hlt
  have hlow : ∀ q ∈ news, q.1 < s.heap.objs.size := fun q hq => Heap.lt_size (N q hq).1
  have hoff : ∀ i m n, J i m n → ∀ q ∈ n, q.1 ≠ s.heap.objs.size := fun i m n hj q hq => by
    have : q.1 ∈ n.map (·.1) := List.mem_map_of_mem hq
    rw [(hJ i m n hj).2] at this
    obtain ⟨q', hq', e⟩ := List.mem_map.mp this
    exact Nat.ne_of_lt (e ▸ hlow q' hq')
  refine wpAny_pyIter_list hls ?_
  have W := Walks.list (prog := prog) (w := w) hh s.heap.objs.size D hne its
  refine ⟨_, _, _, its.size, _, _, m₀, news, J, rfl, W, ?_, ?_, ?_, ⟨⟨_, Heap.get?_push_size _ rfl, rfl, rfl⟩, hls.at fun o e => Heap.get?_push_of_some _ e⟩, F.push _, (fun p hp => ⟨Heap.get?_push_of_some _ (N p hp).1, (N p hp).2⟩), h0, ?_, ?_⟩
  · intro hm
    rcases List.mem_cons.mp hm with e | hm
    · exact absurd F.ns.lt (e ▸ Nat.lt_irrefl _)
    · exact zD.2.1 (List.mem_singleton.mp hm).symm
  · intro b hb
    rw [List.mem_singleton.mp hb]
    exact next_is_new F
  · intro p hp hI
    exact Nat.ne_of_lt (hlow p hp) (List.mem_singleton.mp hI)
  · rintro i v m₁ news₁ s₁ own ⟨hh', tk', rfl⟩ hin hP hJi _ hown hget hall hst' F₁ N₁
    obtain ⟨⟨oI, hoI, _⟩, _⟩ := hst'
    have hoI' : hh'.get? s.heap.objs.size = some oI := hoI
    have hio : (s.heap.objs.size, oI) ∈ own := hall _ (.head _) (next_is_new F) oI hoI
    have hDn := (hJ i m₁ news₁ hJi).1
    have hDh := (N₁ _ (List.mem_append_right _ hDn)).1
    have N₂ : News h₀ env.locals hh' ((s.heap.objs.size, oI) :: news₁) := fun p hp => by
      rcases List.mem_cons.mp hp with rfl | hp
      · exact N₁ _ (List.mem_append_left _ hio)
      · exact N₁ _ (List.mem_append_right _ hp)
    refine wpAny_mono (turn s.heap.objs.size oI i v m₁ news₁ hh' tk' hlow hP hJi F₁ N₂) (fun f s₂ p => ?_) fun _ _ e => e
    have fin : (∃ h' tk m' news', s₂ = { s with heap := h', toks := tk } ∧ Fr h₀ env.locals h' m' ∧ News h₀ env.locals h' ((s.heap.objs.size, oI) :: news') ∧ J (i + 1) m' news') →
        LoopStepU h₀ env.locals [s.heap.objs.size] own (J (i + 1)) { s with heap := hh', toks := tk' } .next s₂ := by
      rintro ⟨h', tk, m', news', e, F', N', hj⟩
      have hD' := (hJ (i + 1) m' news' hj).1
      refine ⟨rfl, h', tk, m', news', e, F', fun p hp => ?_, fun p hp hq => hoff (i + 1) m' news' hj p hp (List.mem_singleton.mp hq), hj⟩
      rcases List.mem_append.mp hp with hp | hp
      · have hp2 : hh'.get? p.1 = some p.2 := hget p hp
        rcases List.mem_cons.mp (hown p hp) with e1 | e1
        · have e2 : p = (s.heap.objs.size, oI) := by
            rw [e1, hoI'] at hp2
            exact Prod.ext e1 (Option.some.inj hp2).symm
          rw [e2]; exact N' _ (.head _)
        · have e1 := List.mem_singleton.mp e1
          have e2 : p = (D, listOf its c) := by
            rw [e1, hDh] at hp2
            exact Prod.ext e1 (Option.some.inj hp2).symm
          rw [e2]; exact N' _ (.tail _ hD')
      · exact N' _ (.tail _ hp)
    cases f with
    | ret v => exact .ret p
    | brk => exact .brk p
    | next => exact .next (fin p)
    | cont => exact .cont (fin p)
  · rintro h' tk m' news' F' N' _ hJn
    exact done m' news' h' tk hJn F' N'

theorem norm1 {m₁ m₀ : Str → Option Value} (a0 : Str) (h : ∀ y, y ≠ a0 → m₁ y = m₀ y) : m₁ = fun y => if y = a0 then m₁ a0 else m₀ y := by
  funext y
  by_cases h0 : y = a0
  · subst h0; simp only [if_true]
  simp only [if_neg h0, h y h0]

theorem norm2 {m₁ m₀ : Str → Option Value} (a0 a1 : Str) (h : ∀ y, y ≠ a0 → y ≠ a1 → m₁ y = m₀ y) : m₁ = fun y => if y = a0 then m₁ a0 else if y = a1 then m₁ a1 else m₀ y := by
  funext y
  by_cases h0 : y = a0
  · subst h0; simp only [if_true]
  by_cases h1 : y = a1
  · subst h1; simp only [if_neg h0, if_true]
  simp only [if_neg h0, if_neg h1, h y h0 h1]

theorem norm3 {m₁ m₀ : Str → Option Value} (a0 a1 a2 : Str) (h : ∀ y, y ≠ a0 → y ≠ a1 → y ≠ a2 → m₁ y = m₀ y) : m₁ = fun y => if y = a0 then m₁ a0 else if y = a1 then m₁ a1 else if y = a2 then m₁ a2 else m₀ y := by
  funext y
  by_cases h0 : y = a0
  · subst h0; simp only [if_true]
  by_cases h1 : y = a1
  · subst h1; simp only [if_neg h0, if_true]
  by_cases h2 : y = a2
  · subst h2; simp only [if_neg h0, if_neg h1, if_true]
  simp only [if_neg h0, if_neg h1, if_neg h2, h y h0 h1 h2]

theorem norm4 {m₁ m₀ : Str → Option Value} (a0 a1 a2 a3 : Str) (h : ∀ y, y ≠ a0 → y ≠ a1 → y ≠ a2 → y ≠ a3 → m₁ y = m₀ y) : m₁ = fun y => if y = a0 then m₁ a0 else if y = a1 then m₁ a1 else if y = a2 then m₁ a2 else if y = a3 then m₁ a3 else m₀ y := by
  funext y
  by_cases h0 : y = a0
  · subst h0; simp only [if_true]
  by_cases h1 : y = a1
  · subst h1; simp only [if_neg h0, if_true]
  by_cases h2 : y = a2
  · subst h2; simp only [if_neg h0, if_neg h1, if_true]
  by_cases h3 : y = a3
  · subst h3; simp only [if_neg h0, if_neg h1, if_neg h2, if_true]
  simp only [if_neg h0, if_neg h1, if_neg h2, if_neg h3, h y h0 h1 h2 h3]

end

section
variable {M : Model} {A : Around} {E : Value → Shared → Prop} {s : Shared} {g : Heap} {L : Addr} {m : Str → Option Value} {news : List (Addr × Obj)}
def StF (g : Heap) (L : Addr) (m : Str → Option Value) (news : List (Addr × Obj)) (s s₁ : Shared) : Prop := ∃ h' tk', s₁ = { s with heap := h', toks := tk' } ∧ Fr g L h' m ∧ News g L h' news
theorem cut {α : Type} {t : Sem α} {r : α} {Q : α → Shared → Prop} (h1 : wpAny M A t (fun b s₁ => b = r ∧ StF g L m news s s₁) E s) (h2 : ∀ h' tk', Fr g L h' m → News g L h' news → Q r { s with heap := h', toks := tk' }) : wpAny M A t Q E s :=
  wpAny_mono h1 (fun b s₁ h => by obtain ⟨rfl, h', tk', rfl, F, N⟩ := h; exact h2 h' tk' F N) fun _ _ e => e
theorem cut' {α : Type} {t : Sem α} {Q : α → Shared → Prop} (r : α) (F : Fr g L s.heap m) (N : News g L s.heap news) (h1 : wpAny M A t (fun b s₁ => b = r ∧ StF g L m news s s₁) E s) (h2 : ∀ h' tk', Fr g L h' m → News g L h' news → Q r { s with heap := h', toks := tk' }) : wpAny M A t Q E s := cut h1 h2
end
end Mine
end
section
open PySem PySem.W PyProof.Rows PySem.Calls PySem.Spec
namespace Mine
section
variable {prog : Program} {w : World} {p : Program} {loose : List Str} {mean : ExcName → Option Value} {mg mb : Str → Option Value}
theorem in_check_use {s : Shared} {g : Heap} {L : Addr} {m : Str → Option Value} {news : List (Addr × Obj)} {gg : Obj → List (Addr × Obj)} {dp un : Nat} {fr : Option (List Env)} {gd : Option (List Code)} {Q E : Value → Shared → Prop} {gm pa : Addr} {G : GT} {xs : Array Value} {nd : Nat} {tn : Tok} {e : Nat}
    (F : Fr g L s.heap m) (N : News g L s.heap news) (X : (hd.heap_1 w.params).In g) (T : Top p loose mean mg mb g) (GA : GameAt w g gm pa G) (U : UpdF pa (listOf (xs.push (.int nd tn)) e) news gg) (room : dp < recursionLimit) (hnd : nd < G.n) (hz : xs.size ≤ 1000) (hn : G.n ≤ 1000)
    (ret : ∀ h' tk', Fr g L h' m → News g L h' (gg (listOf (xs.push (.int nd tn)) e)) → Q (.bool (G.chk nd)) { s with heap := h', toks := tk' }) : wpAny (model prog w) (ar dp un fr gd) (call (.ref 170) [.ref gm]) Q E s :=
  in_check_spec X T F.keep room GA (N.get (updF_mem U)) (N.fresh (updF_mem U)) hnd hz hn fun h' tk' hb hp => (fun z => ret h' tk' z.1 z.2) (after1 F N U hb hp)
theorem is_draw_use {s : Shared} {g : Heap} {L : Addr} {m : Str → Option Value} {news : List (Addr × Obj)} {gg : Obj → List (Addr × Obj)} {dp un : Nat} {fr : Option (List Env)} {gd : Option (List Code)} {Q E : Value → Shared → Prop} {gm pa : Addr} {G : GT} {xs : Array Value} {nd : Nat} {tn : Tok} {e : Nat}
    (F : Fr g L s.heap m) (N : News g L s.heap news) (X : (hd.heap_1 w.params).In g) (T : Top p loose mean mg mb g) (GA : GameAt w g gm pa G) (U : UpdF pa (listOf (xs.push (.int nd tn)) e) news gg) (room : dp < recursionLimit) (hnd : nd < G.n) (hz : xs.size ≤ 1000) (hn : G.n ≤ 1000)
    (ret : ∀ h' tk', Fr g L h' m → News g L h' (gg (listOf (xs.push (.int nd tn)) e)) → Q (.bool false) { s with heap := h', toks := tk' }) : wpAny (model prog w) (ar dp un fr gd) (call (.ref 177) [.ref gm]) Q E s :=
  is_draw_spec X T F.keep room GA (N.get (updF_mem U)) (N.fresh (updF_mem U)) hnd hz hn fun h' tk' hb hp => (fun z => ret h' tk' z.1 z.2) (after1 F N U hb hp)
theorem value_use {s : Shared} {g : Heap} {L : Addr} {m : Str → Option Value} {news : List (Addr × Obj)} {gg : Obj → List (Addr × Obj)} {dp un : Nat} {fr : Option (List Env)} {gd : Option (List Code)} {Q E : Value → Shared → Prop} {gm pa : Addr} {G : GT} {xs : Array Value} {nd : Nat} {tn : Tok} {e : Nat}
    (F : Fr g L s.heap m) (N : News g L s.heap news) (X : (hd.heap_1 w.params).In g) (T : Top p loose mean mg mb g) (GA : GameAt w g gm pa G) (U : UpdF pa (listOf (xs.push (.int nd tn)) e) news gg) (room : dp < recursionLimit) (hnd : nd < G.n) (hz : xs.size ≤ 1000) (hn : G.n ≤ 1000)
    (ret : ∀ t h' tk', Fr g L h' m → News g L h' (gg (listOf (xs.push (.int nd tn)) e)) → Q (.int (G.val nd) t) { s with heap := h', toks := tk' }) : wpAny (model prog w) (ar dp un fr gd) (call (.ref 156) [.ref gm]) Q E s :=
  value_spec X T F.keep room GA (N.get (updF_mem U)) (N.fresh (updF_mem U)) hnd hz hn fun t h' tk' hb hp => (fun z => ret t h' tk' z.1 z.2) (after1 F N U hb hp)
theorem moves_use {s : Shared} {g : Heap} {L : Addr} {m : Str → Option Value} {news : List (Addr × Obj)} {gg : Obj → List (Addr × Obj)} {dp un : Nat} {fr : Option (List Env)} {gd : Option (List Code)} {Q E : Value → Shared → Prop} {gm pa : Addr} {G : GT} {xs : Array Value} {nd : Nat} {tn : Tok} {e : Nat}
    (F : Fr g L s.heap m) (N : News g L s.heap news) (X : (hd.heap_1 w.params).In g) (T : Top p loose mean mg mb g) (GA : GameAt w g gm pa G) (U : UpdF pa (listOf (xs.push (.int nd tn)) e) news gg) (room : dp < recursionLimit) (hnd : nd < G.n) (hz : xs.size ≤ 1000) (hn : G.n ≤ 1000) (hkl : (G.kids nd).length ≤ 1000)
    (ret : ∀ D vs c h' tk', Fr g L h' m → News g L h' ((D, listOf (List.toArray vs) c) :: gg (listOf (xs.push (.int nd tn)) e)) → AllNe D (gg (listOf (xs.push (.int nd tn)) e)) → IntsAre vs (rangeKs 1 (G.kids nd).length) → Q (.ref D) { s with heap := h', toks := tk' }) : wpAny (model prog w) (ar dp un fr gd) (call (.ref 130) [.ref gm]) Q E s :=
  moves_spec X T F.keep room GA (N.get (updF_mem U)) (N.fresh (updF_mem U)) hnd hz hn hkl fun D vs c h' tk' hb hp hD hD0 hi => by
    have z := after1 F N U hb hp
    refine ret D vs c h' tk' z.1 (fun q hq => ?_) (updF_ne N U hD0) hi
    rcases List.mem_cons.mp hq with rfl | hq
    · obtain ⟨oL, es, ep, hL, _⟩ := F.ns
      refine ⟨hD, Ne.symm (ne_of_none hD0 hL), ?_⟩
      cases q : g.get? D with
      | none => rfl
      | some o => have := F.keep _ _ q; rw [hD0] at this; cases this
    · exact z.2 q hq
theorem moves0_use {s : Shared} {g : Heap} {L : Addr} {m : Str → Option Value} {news : List (Addr × Obj)} {gg : Obj → List (Addr × Obj)} {dp un : Nat} {fr : Option (List Env)} {gd : Option (List Code)} {Q E : Value → Shared → Prop} {gm pa : Addr} {G : GT} {xs : Array Value} {nd : Nat} {tn : Tok} {e : Nat}
    (F : Fr g L s.heap m) (N : News g L s.heap news) (X : (hd.heap_1 w.params).In g) (T : Top p loose mean mg mb g) (GA : GameAt w g gm pa G) (U : UpdF pa (listOf (xs.push (.int nd tn)) e) news gg) (room : dp < recursionLimit) (hnd : nd < G.n) (hz : xs.size ≤ 1000) (hn : G.n ≤ 1000) (h0 : G.kids nd = [])
    (ret : ∀ D c h' tk', Fr g L h' m → News g L h' ((D, listOf (List.toArray []) c) :: gg (listOf (xs.push (.int nd tn)) e)) → AllNe D (gg (listOf (xs.push (.int nd tn)) e)) → Q (.ref D) { s with heap := h', toks := tk' }) : wpAny (model prog w) (ar dp un fr gd) (call (.ref 130) [.ref gm]) Q E s :=
  moves_use F N X T GA U room hnd hz hn (by rw [h0]; decide) fun D vs c h' tk' F' N' l1 hi => by
    rw [h0] at hi
    have e0 : vs = [] := List.length_eq_zero_iff.mp hi.length
    subst e0
    exact ret D c h' tk' F' N' l1
theorem make_use {s : Shared} {g : Heap} {L : Addr} {m : Str → Option Value} {news : List (Addr × Obj)} {gg : Obj → List (Addr × Obj)} {dp un : Nat} {fr : Option (List Env)} {gd : Option (List Code)} {Q E : Value → Shared → Prop} {gm pa : Addr} {G : GT} {xs : Array Value} {nd : Nat} {tn : Tok} {e : Nat} {j k : Nat} {tm : Tok}
    (F : Fr g L s.heap m) (N : News g L s.heap news) (X : (hd.heap_1 w.params).In g) (T : Top p loose mean mg mb g) (GA : GameAt w g gm pa G) (U : UpdF pa (listOf (xs.push (.int nd tn)) e) news gg) (room : dp < recursionLimit) (hnd : nd < G.n) (hz : xs.size ≤ 1000) (hn : G.n ≤ 1000) (hkl : (G.kids nd).length ≤ 1000) (hk : (G.kids nd)[j]? = some k)
    (ret : ∀ t e' h' tk', Fr g L h' m → News g L h' (gg (listOf ((xs.push (.int nd tn)).push (.int k t)) e')) → Q .none { s with heap := h', toks := tk' }) : wpAny (model prog w) (ar dp un fr gd) (call (.ref 142) [.ref gm, .int (1 + (j : Int)) tm]) Q E s :=
  make_spec X T F.keep room GA (N.get (updF_mem U)) (N.fresh (updF_mem U)) hnd hz hn hkl hk fun t e' h' tk' hb hp => (fun z => ret t e' h' tk' z.1 z.2) (after1 F N U hb hp)
theorem undo_use {s : Shared} {g : Heap} {L : Addr} {m : Str → Option Value} {news : List (Addr × Obj)} {gg : Obj → List (Addr × Obj)} {dp un : Nat} {fr : Option (List Env)} {gd : Option (List Code)} {Q E : Value → Shared → Prop} {gm pa : Addr} {G : GT} {xs : Array Value} {e : Nat} {v0 : Value}
    (F : Fr g L s.heap m) (N : News g L s.heap news) (X : (hd.heap_1 w.params).In g) (T : Top p loose mean mg mb g) (GA : GameAt w g gm pa G) (U : UpdF pa (listOf (xs.push v0) e) news gg) (room : dp < recursionLimit) (hz : xs.size ≤ 1000) (hz1 : 1 ≤ xs.size)
    (ret : ∀ v e' h' tk', Fr g L h' m → News g L h' (gg (listOf xs e')) → Q v { s with heap := h', toks := tk' }) : wpAny (model prog w) (ar dp un fr gd) (call (.ref 149) [.ref gm]) Q E s :=
  undo_spec X T F.keep room GA (N.get (updF_mem U)) (N.fresh (updF_mem U)) hz hz1 fun v e' h' tk' hb hp => (fun z => ret v e' h' tk' z.1 z.2) (after1 F N U hb hp)
end
end Mine
end
section
open PySem PySem.W PyProof.Rows PySem.Calls PySem.Spec
namespace Mine
section
variable {prog : Program} {w : World} {p : Program} {loose : List Str} {mean : ExcName → Option Value} {mg mb : Str → Option Value}
local macro_rules | `(tactic| ktr_unf) => `(tactic| k_extra "r1")
local macro_rules | `(tactic| k_inst) => `(tactic| exact inst_F (by k_asm) (by assumption) (by assumption))
local macro_rules | `(tactic| ktr_room) => `(tactic| k_extra "r9")
local macro_rules | `(tactic| tb_start) => `(tactic| first | with_reducible assumption | ((try simp only [Array.size_push]); omega))
local macro_rules | `(tactic| walk_at "subscriptTail") => `(tactic| k_extra "g3")
local macro_rules | `(tactic| walk_at "call ref") => `(tactic| k_extra "g4")

def endV (G : GT) (i : Int) (nd : Nat) : Int := if G.chk nd then i - 32000 else 0
def leafV (G : GT) (i : Int) (nd : Nat) : Int := if G.chk nd then i - 32000 else G.val nd

set_option maxHeartbeats 400000 in
theorem mated_in_spec {s : Shared} {fz : Heap} {dp un : Nat} {fr : Option (List Env)} {gd : Option (List Code)} {Q E : Value → Shared → Prop} {i : Int} {t : Tok}
    (X : (hd.heap_1 w.params).In fz) (T : Top p loose mean mg mb fz) (st : fz.StaysIn s.heap) (room : dp < recursionLimit)
    (ret : ∀ t' h' tk', But [] s.heap h' → Q (.int (i - 32000) t') { s with heap := h', toks := tk' }) :
    wpAny (model prog w) (ar dp un fr gd) (call (.ref 28) [.int i t]) Q E s := by
  have N : ∀ q ∈ ([] : List (Addr × Obj)), s.heap.get? q.1 = some q.2 ∧ fz.get? q.1 = none := by simp
  refine' enter (K := hd.heap_1 w.params) (binds := [(Str.ofString "ply", .int i t)]) X T st N ?ho ?hcd (by ktr_room) ?bind ?loc ?h ?c1 ?c2 ?c3 ?c4
  ktr_unf
  intro g L h₁ F N X' T' st' bt lt
  try dsimp only
  k_fold
  k_steps
  exact ⟨_, by assumption, fun hb => ret _ _ _ hb⟩
theorem mated_in_use {s : Shared} {g : Heap} {L : Addr} {m : Str → Option Value} {news : List (Addr × Obj)} {dp un : Nat} {fr : Option (List Env)} {gd : Option (List Code)} {Q E : Value → Shared → Prop} {i : Int} {t : Tok}
    (F : Fr g L s.heap m) (N : News g L s.heap news) (X : (hd.heap_1 w.params).In g) (T : Top p loose mean mg mb g) (room : dp < recursionLimit)
    (ret : ∀ t' h' tk', Fr g L h' m → News g L h' news → Q (.int (i - 32000) t') { s with heap := h', toks := tk' }) :
    wpAny (model prog w) (ar dp un fr gd) (call (.ref 28) [.int i t]) Q E s :=
  mated_in_spec X T F.keep room fun t' h' tk' hb => ret t' h' tk' (Fr.but0 F hb) (News.but0 N hb)
section
local macro_rules | `(tactic| walk_at "isTrue BoolOp") => `(tactic| k_extra "r17")
local macro_rules | `(tactic| walk_at "StF") => `(tactic| exact ⟨_, _, rfl, by assumption, by assumption⟩)

set_option maxHeartbeats 400000 in
theorem end_value_spec {s : Shared} {fz : Heap} {dp un : Nat} {fr : Option (List Env)} {gd : Option (List Code)} {Q E : Value → Shared → Prop} {gm pa : Addr} {G : GT} {xs : Array Value} {nd : Nat} {tn : Tok} {e : Nat} {i : Int} {ti : Tok}
    (X : (hd.heap_1 w.params).In fz) (T : Top p loose mean mg mb fz) (st : fz.StaysIn s.heap) (room : dp + 2 < recursionLimit) (GA : GameAt w fz gm pa G) (hp : s.heap.get? pa = some (listOf (xs.push (.int nd tn)) e)) (hp0 : fz.get? pa = none) (hnd : nd < G.n) (hz : xs.size ≤ 990) (hn : G.n ≤ 1000) 
    (ret : ∀ x t h' tk' e', x = endV G i nd → But [pa] s.heap h' → h'.get? pa = some (listOf (xs.push (.int nd tn)) e') → Q (.int x t) { s with heap := h', toks := tk' }) :
    wpAny (model prog w) (ar dp un fr gd) (call (.ref 42) [.ref gm, .int i ti]) Q E s := by
  have N : ∀ q ∈ [(pa, listOf (xs.push (.int nd tn)) e)], s.heap.get? q.1 = some q.2 ∧ fz.get? q.1 = none := by simp [hp, hp0]
  refine' enter (K := hd.heap_1 w.params) (binds := [(Str.ofString "game", .ref gm), (Str.ofString "ply", .int i ti)]) X T st N ?ho ?hcd (by ktr_room) ?bind ?loc ?h ?c1 ?c2 ?c3 ?c4
  ktr_unf
  intro g L h₁ F N X' T' st' bt lt
  try dsimp only
  k_fold
  have GA' := GA.stays st'
  obtain ⟨dx, c, v, kk, d, nz, gn, n, t1, t2, t3, t4, t5, t6, t7, a1, a2, a3, a4, a5, a6⟩ := GA.stays st'
  k_steps
  all_goals (rename News _ _ _ _ => N9)
  all_goals exact ⟨_, by assumption, fun hb => ret _ _ _ _ _ (by simp [endV, *]) hb (N9 _ (.head _)).1⟩

theorem end_value_use {s : Shared} {g : Heap} {L : Addr} {m : Str → Option Value} {news : List (Addr × Obj)} {gg : Obj → List (Addr × Obj)} {dp un : Nat} {fr : Option (List Env)} {gd : Option (List Code)} {Q E : Value → Shared → Prop} {gm pa : Addr} {G : GT} {xs : Array Value} {nd : Nat} {tn : Tok} {e : Nat} {i : Int} {ti : Tok}
    (F : Fr g L s.heap m) (N : News g L s.heap news) (X : (hd.heap_1 w.params).In g) (T : Top p loose mean mg mb g) (GA : GameAt w g gm pa G) (U : UpdF pa (listOf (xs.push (.int nd tn)) e) news gg) (room : dp + 2 < recursionLimit) (hnd : nd < G.n) (hz : xs.size ≤ 990) (hn : G.n ≤ 1000) 
    (ret : ∀ t h' tk' e', Fr g L h' m → News g L h' (gg (listOf (xs.push (.int nd tn)) e')) → Q (.int (endV G i nd) t) { s with heap := h', toks := tk' }) :
    wpAny (model prog w) (ar dp un fr gd) (call (.ref 42) [.ref gm, .int i ti]) Q E s :=
  end_value_spec X T F.keep room GA (N.get (updF_mem U)) (N.fresh (updF_mem U)) hnd hz hn  fun x t h' tk' e' hx hb hp => by subst hx; exact (fun z => ret t h' tk' e' z.1 z.2) (after1 F N U hb hp)

set_option maxHeartbeats 400000 in
theorem plain_quiesce_spec {s : Shared} {fz : Heap} {dp un : Nat} {fr : Option (List Env)} {gd : Option (List Code)} {Q E : Value → Shared → Prop} {gm pa : Addr} {G : GT} {xs : Array Value} {nd : Nat} {tn : Tok} {e : Nat} {i : Int} {ti tq : Tok}
    (X : (hd.heap_1 w.params).In fz) (T : Top p loose mean mg mb fz) (st : fz.StaysIn s.heap) (room : dp + 2 < recursionLimit) (GA : GameAt w fz gm pa G) (hp : s.heap.get? pa = some (listOf (xs.push (.int nd tn)) e)) (hp0 : fz.get? pa = none) (hnd : nd < G.n) (hz : xs.size ≤ 990) (hn : G.n ≤ 1000) (hck : G.chk nd = true → G.kids nd = [])
    (ret : ∀ x t h' tk' e', x = leafV G i nd → But [pa] s.heap h' → h'.get? pa = some (listOf (xs.push (.int nd tn)) e') → Q (.int x t) { s with heap := h', toks := tk' }) :
    wpAny (model prog w) (ar dp un fr gd) (call (.ref 35) [.ref gm, .int i ti, .int 0 tq]) Q E s := by
  have N : ∀ q ∈ [(pa, listOf (xs.push (.int nd tn)) e)], s.heap.get? q.1 = some q.2 ∧ fz.get? q.1 = none := by simp [hp, hp0]
  refine' enter (K := hd.heap_1 w.params) (binds := [(Str.ofString "game", .ref gm), (Str.ofString "ply", .int i ti), (Str.ofString "qdepth", .int 0 tq)]) X T st N ?ho ?hcd (by ktr_room) ?bind ?loc ?h ?c1 ?c2 ?c3 ?c4
  ktr_unf
  intro g L h₁ F N X' T' st' bt lt
  try dsimp only
  k_fold
  have GA' := GA.stays st'
  obtain ⟨dx, c, v, kk, d, nz, gn, n, t1, t2, t3, t4, t5, t6, t7, a1, a2, a3, a4, a5, a6⟩ := GA.stays st'
  k_steps
  · have hk0 : G.kids nd = [] := hck (by assumption)
    (rename Fr _ _ _ _ => F9)
    (rename News _ _ _ _ => N9)
    refine moves0_use F9 N9 X' T' GA' (by k_updF) (by ktr_room) hnd (by omega) hn hk0 ?_
    intro D9 c9 h9 tk9 F' N' l1
    try dsimp only at N'
    try simp only [AllNe, and_true] at l1
    clear F9 N9
    k_steps
    (rename News _ _ _ _ => N9)
    exact ⟨_, by assumption, fun hb => ret _ _ _ _ _ (by simp [leafV, *]) hb (N9 _ (.tail _ (.head _))).1⟩
  all_goals (rename News _ _ _ _ => N9)
  all_goals exact ⟨_, by assumption, fun hb => ret _ _ _ _ _ (by simp [leafV, *]) hb (N9 _ (.head _)).1⟩

theorem plain_quiesce_use {s : Shared} {g : Heap} {L : Addr} {m : Str → Option Value} {news : List (Addr × Obj)} {gg : Obj → List (Addr × Obj)} {dp un : Nat} {fr : Option (List Env)} {gd : Option (List Code)} {Q E : Value → Shared → Prop} {gm pa : Addr} {G : GT} {xs : Array Value} {nd : Nat} {tn : Tok} {e : Nat} {i : Int} {ti tq : Tok}
    (F : Fr g L s.heap m) (N : News g L s.heap news) (X : (hd.heap_1 w.params).In g) (T : Top p loose mean mg mb g) (GA : GameAt w g gm pa G) (U : UpdF pa (listOf (xs.push (.int nd tn)) e) news gg) (room : dp + 2 < recursionLimit) (hnd : nd < G.n) (hz : xs.size ≤ 990) (hn : G.n ≤ 1000) (hck : G.chk nd = true → G.kids nd = [])
    (ret : ∀ t h' tk' e', Fr g L h' m → News g L h' (gg (listOf (xs.push (.int nd tn)) e')) → Q (.int (leafV G i nd) t) { s with heap := h', toks := tk' }) :
    wpAny (model prog w) (ar dp un fr gd) (call (.ref 35) [.ref gm, .int i ti, .int 0 tq]) Q E s :=
  plain_quiesce_spec X T F.keep room GA (N.get (updF_mem U)) (N.fresh (updF_mem U)) hnd hz hn hck fun x t h' tk' e' hx hb hp => by subst hx; exact (fun z => ret t h' tk' e' z.1 z.2) (after1 F N U hb hp)
end
end
end Mine
end
section
open PySem PySem.W PyProof.Rows PySem.Calls PySem.Spec
namespace Mine
section
variable {prog : Program} {w : World} {A : Around} {E : Value → Shared → Prop} {s : Shared} {env : Env} {h₀ : Heap} {x : Str} {body : List Stmt} {Q : Flow → Shared → Prop}

def TurnEndP1 (h₀ : Heap) (L : Addr) (x a0 : Str) (m₀ : Str → Option Value) (J : Option Value → Obj → Prop) (gg : Obj → List (Addr × Obj)) (own : Addr × Obj) (s₁ : Shared) (Q : Flow → Shared → Prop) (f : Flow) (s₂ : Shared) : Prop :=
  match f with
  | .ret v => Q (.ret v) s₂
  | .brk => Q .next s₂
  | _ => ∃ h' tk m' o', s₂ = { s₁ with heap := h', toks := tk } ∧ Fr h₀ L h' m' ∧ News h₀ L h' (own :: gg o') ∧ (∀ y, y ≠ x → y ≠ a0 → m' y = m₀ y) ∧ J (m' a0) o'
theorem TurnEndP1.next {L : Addr} {a0 : Str} {m₀ : Str → Option Value} {J : Option Value → Obj → Prop} {gg : Obj → List (Addr × Obj)} {own : Addr × Obj} {s₁ : Shared} {h' : Heap} {tk : Nat} {m' : Str → Option Value} {o' : Obj}
    (F : Fr h₀ L h' m') (N : News h₀ L h' (own :: gg o')) (hm : ∀ y, y ≠ x → y ≠ a0 → m' y = m₀ y) (hj : J (m' a0) o') : TurnEndP1 h₀ L x a0 m₀ J gg own s₁ Q .next { s₁ with heap := h', toks := tk } := ⟨h', tk, m', o', rfl, F, N, hm, hj⟩
theorem TurnEndP1.brk {L : Addr} {a0 : Str} {m₀ : Str → Option Value} {J : Option Value → Obj → Prop} {gg : Obj → List (Addr × Obj)} {own : Addr × Obj} {s₁ s₂ : Shared} (h : Q .next s₂) : TurnEndP1 h₀ L x a0 m₀ J gg own s₁ Q .brk s₂ := h

theorem iter_pa1 {D pa : Addr} {its : Array Value} {c : Nat} {o : Obj} {m₀ : Str → Option Value} {news : List (Addr × Obj)} {gg : Obj → List (Addr × Obj)} (a0 : Str) (J : Nat → Option Value → Obj → Prop)
    (hh : A.handled = none) (F : Fr h₀ env.locals s.heap m₀) (N : News h₀ env.locals s.heap news) (U : UpdF pa o news gg) (hD : (D, listOf its c) ∈ news) (hDp : D ≠ pa) (h0 : J 0 (m₀ a0) o)
    (turn : ∀ I io i v z u0 o' h tk, (∀ q ∈ news, q.1 < I) → its[i]? = some v → J i u0 o' → Fr h₀ env.locals h (fun y => if y = x then some v else if y = a0 then u0 else if y = x then z else m₀ y) → News h₀ env.locals h ((I, io) :: gg o') →
      wpAny (model prog w) A (execs body env) (TurnEndP1 h₀ env.locals x a0 m₀ (J (i + 1)) gg (I, io) { s with heap := h, toks := tk } Q) E { s with heap := h, toks := tk })
    (done : ∀ z u0 o' h tk, J its.size u0 o' → Fr h₀ env.locals h (fun y => if y = a0 then u0 else if y = x then z else m₀ y) → News h₀ env.locals h (gg o') → Q .next { s with heap := h, toks := tk }) :
    wpAny (model prog w) A (pyIter (.ref D)) (fun it s₂ => LoopAtV prog w A h₀ env x body Q E it s₂) E s := by
  have norm : ∀ m₁ : Str → Option Value, (∀ y, y ≠ x → y ≠ a0 → m₁ y = m₀ y) → m₁ = fun y => if y = a0 then m₁ a0 else if y = x then m₁ x else m₀ y :=
    fun m₁ h => norm2 a0 x fun y g0 gx => h y gx g0
  have gmem : ∀ o', (D, listOf its c) ∈ gg o' := fun o' => by
    obtain ⟨pre, post, rfl, hg, _⟩ := U.split
    rw [hg]
    rcases List.mem_append.mp hD with q | q
    · exact List.mem_append.mpr (.inl q)
    · rcases List.mem_cons.mp q with q | q
      · exact absurd (congrArg Prod.fst q) hDp
      · exact List.mem_append.mpr (.inr (.tail _ q))
  have g0 : gg o = news := by
    obtain ⟨pre, post, rfl, hg, _⟩ := U.split
    exact hg o
  refine iter_led (fun i m₁ n => (∀ y, y ≠ x → y ≠ a0 → m₁ y = m₀ y) ∧ ∃ o', n = gg o' ∧ J i (m₁ a0) o') hh F N hD ⟨fun _ _ _ => rfl, o, g0.symm, h0⟩ ?_ ?_ ?_
  · rintro i m₁ n ⟨_, o', rfl, _⟩
    exact ⟨gmem o', updF_adr U⟩
  · rintro I io i v m₁ n h tk hI hv ⟨hm, o', rfl, hj⟩ F₁ N₁
    rw [norm m₁ hm] at F₁
    refine wpAny_mono (turn I io i v (m₁ x) (m₁ a0) o' h tk hI hv hj F₁ N₁) (fun f s₂ p => ?_) fun _ _ e => e
    have fin : (∃ h' tk' m' o', s₂ = { s with heap := h', toks := tk' } ∧ Fr h₀ env.locals h' m' ∧ News h₀ env.locals h' ((I, io) :: gg o') ∧ (∀ y, y ≠ x → y ≠ a0 → m' y = m₀ y) ∧ J (i + 1) (m' a0) o') →
        ∃ h' tk m' news', s₂ = { s with heap := h', toks := tk } ∧ Fr h₀ env.locals h' m' ∧ News h₀ env.locals h' ((I, io) :: news') ∧ ((∀ y, y ≠ x → y ≠ a0 → m' y = m₀ y) ∧ ∃ o', news' = gg o' ∧ J (i + 1) (m' a0) o') := by
      rintro ⟨h', tk', m', o'', e, F', N', hm', hj'⟩
      exact ⟨h', tk', m', _, e, F', N', hm', o'', rfl, hj'⟩
    cases f with
    | ret v => exact p
    | brk => exact p
    | next => exact fin p
    | cont => exact fin p
  · rintro m₁ n h tk ⟨hm, o', rfl, hj⟩ F₁ N₁
    rw [norm m₁ hm] at F₁
    exact done (m₁ x) (m₁ a0) o' h tk hj F₁ N₁

def TurnEndP2 (h₀ : Heap) (L : Addr) (x a0 a1 : Str) (m₀ : Str → Option Value) (J : Option Value → Option Value → Obj → Prop) (gg : Obj → List (Addr × Obj)) (own : Addr × Obj) (s₁ : Shared) (Q : Flow → Shared → Prop) (f : Flow) (s₂ : Shared) : Prop :=
  match f with
  | .ret v => Q (.ret v) s₂
  | .brk => Q .next s₂
  | _ => ∃ h' tk m' o', s₂ = { s₁ with heap := h', toks := tk } ∧ Fr h₀ L h' m' ∧ News h₀ L h' (own :: gg o') ∧ (∀ y, y ≠ x → y ≠ a0 → y ≠ a1 → m' y = m₀ y) ∧ J (m' a0) (m' a1) o'
theorem TurnEndP2.next {L : Addr} {a0 a1 : Str} {m₀ : Str → Option Value} {J : Option Value → Option Value → Obj → Prop} {gg : Obj → List (Addr × Obj)} {own : Addr × Obj} {s₁ : Shared} {h' : Heap} {tk : Nat} {m' : Str → Option Value} {o' : Obj}
    (F : Fr h₀ L h' m') (N : News h₀ L h' (own :: gg o')) (hm : ∀ y, y ≠ x → y ≠ a0 → y ≠ a1 → m' y = m₀ y) (hj : J (m' a0) (m' a1) o') : TurnEndP2 h₀ L x a0 a1 m₀ J gg own s₁ Q .next { s₁ with heap := h', toks := tk } := ⟨h', tk, m', o', rfl, F, N, hm, hj⟩
theorem TurnEndP2.brk {L : Addr} {a0 a1 : Str} {m₀ : Str → Option Value} {J : Option Value → Option Value → Obj → Prop} {gg : Obj → List (Addr × Obj)} {own : Addr × Obj} {s₁ s₂ : Shared} (h : Q .next s₂) : TurnEndP2 h₀ L x a0 a1 m₀ J gg own s₁ Q .brk s₂ := h

theorem iter_pa2 {D pa : Addr} {its : Array Value} {c : Nat} {o : Obj} {m₀ : Str → Option Value} {news : List (Addr × Obj)} {gg : Obj → List (Addr × Obj)} (a0 a1 : Str) (J : Nat → Option Value → Option Value → Obj → Prop)
    (hh : A.handled = none) (F : Fr h₀ env.locals s.heap m₀) (N : News h₀ env.locals s.heap news) (U : UpdF pa o news gg) (hD : (D, listOf its c) ∈ news) (hDp : D ≠ pa) (h0 : J 0 (m₀ a0) (m₀ a1) o)
    (turn : ∀ I io i v z u0 u1 o' h tk, (∀ q ∈ news, q.1 < I) → its[i]? = some v → J i u0 u1 o' → Fr h₀ env.locals h (fun y => if y = x then some v else if y = a0 then u0 else if y = a1 then u1 else if y = x then z else m₀ y) → News h₀ env.locals h ((I, io) :: gg o') →
      wpAny (model prog w) A (execs body env) (TurnEndP2 h₀ env.locals x a0 a1 m₀ (J (i + 1)) gg (I, io) { s with heap := h, toks := tk } Q) E { s with heap := h, toks := tk })
    (done : ∀ z u0 u1 o' h tk, J its.size u0 u1 o' → Fr h₀ env.locals h (fun y => if y = a0 then u0 else if y = a1 then u1 else if y = x then z else m₀ y) → News h₀ env.locals h (gg o') → Q .next { s with heap := h, toks := tk }) :
    wpAny (model prog w) A (pyIter (.ref D)) (fun it s₂ => LoopAtV prog w A h₀ env x body Q E it s₂) E s := by
  have norm : ∀ m₁ : Str → Option Value, (∀ y, y ≠ x → y ≠ a0 → y ≠ a1 → m₁ y = m₀ y) → m₁ = fun y => if y = a0 then m₁ a0 else if y = a1 then m₁ a1 else if y = x then m₁ x else m₀ y :=
    fun m₁ h => norm3 a0 a1 x fun y g0 g1 gx => h y gx g0 g1
  have gmem : ∀ o', (D, listOf its c) ∈ gg o' := fun o' => by
    obtain ⟨pre, post, rfl, hg, _⟩ := U.split
    rw [hg]
    rcases List.mem_append.mp hD with q | q
    · exact List.mem_append.mpr (.inl q)
    · rcases List.mem_cons.mp q with q | q
      · exact absurd (congrArg Prod.fst q) hDp
      · exact List.mem_append.mpr (.inr (.tail _ q))
  have g0 : gg o = news := by
    obtain ⟨pre, post, rfl, hg, _⟩ := U.split
    exact hg o
  refine iter_led (fun i m₁ n => (∀ y, y ≠ x → y ≠ a0 → y ≠ a1 → m₁ y = m₀ y) ∧ ∃ o', n = gg o' ∧ J i (m₁ a0) (m₁ a1) o') hh F N hD ⟨fun _ _ _ _ => rfl, o, g0.symm, h0⟩ ?_ ?_ ?_
  · rintro i m₁ n ⟨_, o', rfl, _⟩
    exact ⟨gmem o', updF_adr U⟩
  · rintro I io i v m₁ n h tk hI hv ⟨hm, o', rfl, hj⟩ F₁ N₁
    rw [norm m₁ hm] at F₁
    refine wpAny_mono (turn I io i v (m₁ x) (m₁ a0) (m₁ a1) o' h tk hI hv hj F₁ N₁) (fun f s₂ p => ?_) fun _ _ e => e
    have fin : (∃ h' tk' m' o', s₂ = { s with heap := h', toks := tk' } ∧ Fr h₀ env.locals h' m' ∧ News h₀ env.locals h' ((I, io) :: gg o') ∧ (∀ y, y ≠ x → y ≠ a0 → y ≠ a1 → m' y = m₀ y) ∧ J (i + 1) (m' a0) (m' a1) o') →
        ∃ h' tk m' news', s₂ = { s with heap := h', toks := tk } ∧ Fr h₀ env.locals h' m' ∧ News h₀ env.locals h' ((I, io) :: news') ∧ ((∀ y, y ≠ x → y ≠ a0 → y ≠ a1 → m' y = m₀ y) ∧ ∃ o', news' = gg o' ∧ J (i + 1) (m' a0) (m' a1) o') := by
      rintro ⟨h', tk', m', o'', e, F', N', hm', hj'⟩
      exact ⟨h', tk', m', _, e, F', N', hm', o'', rfl, hj'⟩
    cases f with
    | ret v => exact p
    | brk => exact p
    | next => exact fin p
    | cont => exact fin p
  · rintro m₁ n h tk ⟨hm, o', rfl, hj⟩ F₁ N₁
    rw [norm m₁ hm] at F₁
    exact done (m₁ x) (m₁ a0) (m₁ a1) o' h tk hj F₁ N₁

def TurnEndP3 (h₀ : Heap) (L : Addr) (x a0 a1 a2 : Str) (m₀ : Str → Option Value) (J : Option Value → Option Value → Option Value → Obj → Prop) (gg : Obj → List (Addr × Obj)) (own : Addr × Obj) (s₁ : Shared) (Q : Flow → Shared → Prop) (f : Flow) (s₂ : Shared) : Prop :=
  match f with
  | .ret v => Q (.ret v) s₂
  | .brk => Q .next s₂
  | _ => ∃ h' tk m' o', s₂ = { s₁ with heap := h', toks := tk } ∧ Fr h₀ L h' m' ∧ News h₀ L h' (own :: gg o') ∧ (∀ y, y ≠ x → y ≠ a0 → y ≠ a1 → y ≠ a2 → m' y = m₀ y) ∧ J (m' a0) (m' a1) (m' a2) o'
theorem TurnEndP3.next {L : Addr} {a0 a1 a2 : Str} {m₀ : Str → Option Value} {J : Option Value → Option Value → Option Value → Obj → Prop} {gg : Obj → List (Addr × Obj)} {own : Addr × Obj} {s₁ : Shared} {h' : Heap} {tk : Nat} {m' : Str → Option Value} {o' : Obj}
    (F : Fr h₀ L h' m') (N : News h₀ L h' (own :: gg o')) (hm : ∀ y, y ≠ x → y ≠ a0 → y ≠ a1 → y ≠ a2 → m' y = m₀ y) (hj : J (m' a0) (m' a1) (m' a2) o') : TurnEndP3 h₀ L x a0 a1 a2 m₀ J gg own s₁ Q .next { s₁ with heap := h', toks := tk } := ⟨h', tk, m', o', rfl, F, N, hm, hj⟩
theorem TurnEndP3.brk {L : Addr} {a0 a1 a2 : Str} {m₀ : Str → Option Value} {J : Option Value → Option Value → Option Value → Obj → Prop} {gg : Obj → List (Addr × Obj)} {own : Addr × Obj} {s₁ s₂ : Shared} (h : Q .next s₂) : TurnEndP3 h₀ L x a0 a1 a2 m₀ J gg own s₁ Q .brk s₂ := h

theorem iter_pa3 {D pa : Addr} {its : Array Value} {c : Nat} {o : Obj} {m₀ : Str → Option Value} {news : List (Addr × Obj)} {gg : Obj → List (Addr × Obj)} (a0 a1 a2 : Str) (J : Nat → Option Value → Option Value → Option Value → Obj → Prop)
    (hh : A.handled = none) (F : Fr h₀ env.locals s.heap m₀) (N : News h₀ env.locals s.heap news) (U : UpdF pa o news gg) (hD : (D, listOf its c) ∈ news) (hDp : D ≠ pa) (h0 : J 0 (m₀ a0) (m₀ a1) (m₀ a2) o)
    (turn : ∀ I io i v z u0 u1 u2 o' h tk, (∀ q ∈ news, q.1 < I) → its[i]? = some v → J i u0 u1 u2 o' → Fr h₀ env.locals h (fun y => if y = x then some v else if y = a0 then u0 else if y = a1 then u1 else if y = a2 then u2 else if y = x then z else m₀ y) → News h₀ env.locals h ((I, io) :: gg o') →
      wpAny (model prog w) A (execs body env) (TurnEndP3 h₀ env.locals x a0 a1 a2 m₀ (J (i + 1)) gg (I, io) { s with heap := h, toks := tk } Q) E { s with heap := h, toks := tk })
    (done : ∀ z u0 u1 u2 o' h tk, J its.size u0 u1 u2 o' → Fr h₀ env.locals h (fun y => if y = a0 then u0 else if y = a1 then u1 else if y = a2 then u2 else if y = x then z else m₀ y) → News h₀ env.locals h (gg o') → Q .next { s with heap := h, toks := tk }) :
    wpAny (model prog w) A (pyIter (.ref D)) (fun it s₂ => LoopAtV prog w A h₀ env x body Q E it s₂) E s := by
  have norm : ∀ m₁ : Str → Option Value, (∀ y, y ≠ x → y ≠ a0 → y ≠ a1 → y ≠ a2 → m₁ y = m₀ y) → m₁ = fun y => if y = a0 then m₁ a0 else if y = a1 then m₁ a1 else if y = a2 then m₁ a2 else if y = x then m₁ x else m₀ y :=
    fun m₁ h => norm4 a0 a1 a2 x fun y g0 g1 g2 gx => h y gx g0 g1 g2
  have gmem : ∀ o', (D, listOf its c) ∈ gg o' := fun o' => by
    obtain ⟨pre, post, rfl, hg, _⟩ := U.split
    rw [hg]
    rcases List.mem_append.mp hD with q | q
    · exact List.mem_append.mpr (.inl q)
    · rcases List.mem_cons.mp q with q | q
      · exact absurd (congrArg Prod.fst q) hDp
      · exact List.mem_append.mpr (.inr (.tail _ q))
  have g0 : gg o = news := by
    obtain ⟨pre, post, rfl, hg, _⟩ := U.split
    exact hg o
  refine iter_led (fun i m₁ n => (∀ y, y ≠ x → y ≠ a0 → y ≠ a1 → y ≠ a2 → m₁ y = m₀ y) ∧ ∃ o', n = gg o' ∧ J i (m₁ a0) (m₁ a1) (m₁ a2) o') hh F N hD ⟨fun _ _ _ _ _ => rfl, o, g0.symm, h0⟩ ?_ ?_ ?_
  · rintro i m₁ n ⟨_, o', rfl, _⟩
    exact ⟨gmem o', updF_adr U⟩
  · rintro I io i v m₁ n h tk hI hv ⟨hm, o', rfl, hj⟩ F₁ N₁
    rw [norm m₁ hm] at F₁
    refine wpAny_mono (turn I io i v (m₁ x) (m₁ a0) (m₁ a1) (m₁ a2) o' h tk hI hv hj F₁ N₁) (fun f s₂ p => ?_) fun _ _ e => e
    have fin : (∃ h' tk' m' o', s₂ = { s with heap := h', toks := tk' } ∧ Fr h₀ env.locals h' m' ∧ News h₀ env.locals h' ((I, io) :: gg o') ∧ (∀ y, y ≠ x → y ≠ a0 → y ≠ a1 → y ≠ a2 → m' y = m₀ y) ∧ J (i + 1) (m' a0) (m' a1) (m' a2) o') →
        ∃ h' tk m' news', s₂ = { s with heap := h', toks := tk } ∧ Fr h₀ env.locals h' m' ∧ News h₀ env.locals h' ((I, io) :: news') ∧ ((∀ y, y ≠ x → y ≠ a0 → y ≠ a1 → y ≠ a2 → m' y = m₀ y) ∧ ∃ o', news' = gg o' ∧ J (i + 1) (m' a0) (m' a1) (m' a2) o') := by
      rintro ⟨h', tk', m', o'', e, F', N', hm', hj'⟩
      exact ⟨h', tk', m', _, e, F', N', hm', o'', rfl, hj'⟩
    cases f with
    | ret v => exact p
    | brk => exact p
    | next => exact fin p
    | cont => exact fin p
  · rintro m₁ n h tk ⟨hm, o', rfl, hj⟩ F₁ N₁
    rw [norm m₁ hm] at F₁
    exact done (m₁ x) (m₁ a0) (m₁ a1) (m₁ a2) o' h tk hj F₁ N₁

end
end Mine
end
section
open PySem PySem.W PyProof.Rows PySem.Calls PySem.Spec
namespace Mine

def stepMax (b v : Int) : Int := if v > b then v else b
theorem stepMax_pos {b v : Int} (h : b < v) : stepMax b v = v := if_pos h
theorem stepMax_neg {b v : Int} (h : ¬ b < v) : stepMax b v = b := if_neg h
theorem foldl_take_succ {α β : Type} {f : β → α → β} {b : β} {l : List α} {j : Nat} {k : α} (hk : l[j]? = some k) : (l.take (j + 1)).foldl f b = f ((l.take j).foldl f b) k := by
  rw [List.take_add_one, hk]; simp
def negaV (G : GT) : Nat → Int → Nat → Int
  | 0, i, nd => leafV G i nd
  | d + 1, i, nd => if G.kids nd = [] then endV G i nd else (G.kids nd).foldl (fun b k => stepMax b (-(negaV G d (i + 1) k))) (-32001)
structure GT.WF (G : GT) : Prop where
  len : ∀ nd, nd < G.n → (G.kids nd).length ≤ 1000
  lt : ∀ nd, nd < G.n → ∀ k ∈ G.kids nd, k < G.n
  ck : ∀ nd, nd < G.n → G.chk nd = true → G.kids nd = []

def Stop (p : Prop) : Prop := p
theorem for_stop {p : Prop} (h : Stop p) : p := h
theorem range_size {vs : List Value} {n : Nat} (hi : IntsAre vs (rangeKs 1 n)) : vs.toArray.size = n := by
  rw [List.size_toArray, hi.length]; simp [rangeKs]
theorem range_some {l : List Nat} (h : 0 < (rangeKs 1 l.length).length) : l ≠ [] := by
  intro e; simp [e, rangeKs] at h
theorem range_none {l : List Nat} (h : ¬ 0 < (rangeKs 1 l.length).length) : l = [] := by
  cases l with
  | nil => rfl
  | cons a l => simp [rangeKs] at h
theorem range_item {vs : List Value} {n i : Nat} {v : Value} (hi : IntsAre vs (rangeKs 1 n)) (hv : vs.toArray[i]? = some v) : i < n ∧ ∃ t, v = .int (1 + (i : Int)) t := by
  have hv' : vs[i]? = some v := by simpa using hv
  have hl : vs.length = n := by rw [hi.length]; simp [rangeKs]
  have hlt : i < n := by rw [← hl]; exact (List.getElem?_eq_some_iff.mp hv').1
  have e : (rangeKs 1 n)[i]? = some (1 + (i : Int)) := by simp [rangeKs, hlt]
  obtain ⟨t, ht⟩ := hi.get i _ e
  rw [hv'] at ht
  exact ⟨hlt, t, Option.some.inj ht⟩
section
variable {prog : Program} {w : World} {p : Program} {loose : List Str} {mean : ExcName → Option Value} {mg mb : Str → Option Value}

def NegSpec (prog : Program) (w : World) (p : Program) (loose : List Str) (mean : ExcName → Option Value) (mg mb : Str → Option Value) (G : GT) (d : Nat) : Prop :=
  ∀ {s : Shared} {fz : Heap} {dp un : Nat} {fr : Option (List Env)} {gd : Option (List Code)} {Q E : Value → Shared → Prop} {gm pa : Addr} {xs : Array Value} {nd : Nat} {tn : Tok} {e : Nat} {dI i : Int} {td ti tq : Tok}
    (X : (hd.heap_1 w.params).In fz) (T : Top p loose mean mg mb fz) (st : fz.StaysIn s.heap) (room : dp + d + 5 < recursionLimit) (GA : GameAt w fz gm pa G) (hp : s.heap.get? pa = some (listOf (xs.push (.int nd tn)) e)) (hp0 : fz.get? pa = none) (hnd : nd < G.n) (hz : xs.size + d ≤ 980) (hn : G.n ≤ 1000) (hw : G.WF) (hdI : dI = d)
    (ret : ∀ x t h' tk' e', x = negaV G d i nd → But [pa] s.heap h' → h'.get? pa = some (listOf (xs.push (.int nd tn)) e') → Q (.int x t) { s with heap := h', toks := tk' }),
    wpAny (model prog w) (ar dp un fr gd) (call (.ref 49) [.ref gm, .int dI td, .int i ti, .int 0 tq]) Q E s
theorem neg_use {s : Shared} {g : Heap} {L : Addr} {m : Str → Option Value} {news : List (Addr × Obj)} {gg : Obj → List (Addr × Obj)} {dp un : Nat} {fr : Option (List Env)} {gd : Option (List Code)} {Q E : Value → Shared → Prop} {gm pa : Addr} {G : GT} {xs : Array Value} {nd : Nat} {tn : Tok} {e : Nat} {d : Nat} {dI i : Int} {td ti tq : Tok} (IH : NegSpec prog w p loose mean mg mb G d)
    (F : Fr g L s.heap m) (N : News g L s.heap news) (X : (hd.heap_1 w.params).In g) (T : Top p loose mean mg mb g) (GA : GameAt w g gm pa G) (U : UpdF pa (listOf (xs.push (.int nd tn)) e) news gg) (room : dp + d + 5 < recursionLimit) (hnd : nd < G.n) (hz : xs.size + d ≤ 980) (hn : G.n ≤ 1000) (hw : G.WF) (hdI : dI = d)
    (ret : ∀ t h' tk' e', Fr g L h' m → News g L h' (gg (listOf (xs.push (.int nd tn)) e')) → Q (.int (negaV G d i nd) t) { s with heap := h', toks := tk' }) :
    wpAny (model prog w) (ar dp un fr gd) (call (.ref 49) [.ref gm, .int dI td, .int i ti, .int 0 tq]) Q E s :=
  IH X T F.keep room GA (N.get (updF_mem U)) (N.fresh (updF_mem U)) hnd hz hn hw hdI fun x t h' tk' e' hx hb hp => by subst hx; exact (fun z => ret t h' tk' e' z.1 z.2) (after1 F N U hb hp)
local macro_rules | `(tactic| ktr_unf) => `(tactic| k_extra "r1")
local macro_rules | `(tactic| k_inst) => `(tactic| exact inst_F (by k_asm) (by assumption) (by assumption))
local macro_rules | `(tactic| ktr_room) => `(tactic| k_extra "r9")
local macro_rules | `(tactic| tb_start) => `(tactic| first | with_reducible assumption | ((try simp only [Array.size_push]); omega))
local macro_rules | `(tactic| walk_at "subscriptTail") => `(tactic| k_extra "g3")
local macro_rules | `(tactic| walk_at "call ref") => `(tactic| k_extra "g5")
local macro_rules | `(tactic| walk_at "isTrue BoolOp") => `(tactic| k_extra "r17")
local macro_rules | `(tactic| walk_at "StF") => `(tactic| exact ⟨_, _, rfl, by assumption, by assumption⟩)
local macro_rules | `(tactic| walk_at "exec For Name Name cons nil") => `(tactic| refine for_stop ?_)

set_option maxHeartbeats 400000 in
theorem neg0 {G : GT} : NegSpec prog w p loose mean mg mb G 0 := by
  intro s fz dp un fr gd Q E gm pa xs nd tn e dI i td ti tq X T st room GA hp hp0 hnd hz hn hw hdI ret
  have N : ∀ q ∈ [(pa, listOf (xs.push (.int nd tn)) e)], s.heap.get? q.1 = some q.2 ∧ fz.get? q.1 = none := by simp [hp, hp0]
  refine' enter (K := hd.heap_1 w.params) (binds := [(Str.ofString "game", .ref gm), (Str.ofString "depth", .int dI td), (Str.ofString "ply", .int i ti), (Str.ofString "qdepth", .int 0 tq)]) X T st N ?ho ?hcd (by ktr_room) ?bind ?loc ?h ?c1 ?c2 ?c3 ?c4
  ktr_unf
  intro g L h₁ F N X' T' st' bt lt
  try dsimp only
  k_fold
  have GA' := GA.stays st'
  obtain ⟨dx, c, v, kk, d9, nz, gn, n, t1, t2, t3, t4, t5, t6, t7, a1, a2, a3, a4, a5, a6⟩ := GA.stays st'
  have hck := hw.ck nd hnd
  have hd0 : dI ≤ 0 := by omega
  k_steps
  all_goals (rename News _ _ _ _ => N9)
  all_goals exact ⟨_, by assumption, fun hb => ret _ _ _ _ _ rfl hb (N9 _ (.head _)).1⟩

set_option maxHeartbeats 1000000 in
theorem negS {G : GT} {d : Nat} (IH : NegSpec prog w p loose mean mg mb G d) : NegSpec prog w p loose mean mg mb G (d + 1) := by
  intro s fz dp un fr gd Q E gm pa xs nd tn e dI i td ti tq X T st room GA hp hp0 hnd hz hn hw hdI ret
  have N : ∀ q ∈ [(pa, listOf (xs.push (.int nd tn)) e)], s.heap.get? q.1 = some q.2 ∧ fz.get? q.1 = none := by simp [hp, hp0]
  refine' enter (K := hd.heap_1 w.params) (binds := [(Str.ofString "game", .ref gm), (Str.ofString "depth", .int dI td), (Str.ofString "ply", .int i ti), (Str.ofString "qdepth", .int 0 tq)]) X T st N ?ho ?hcd (by ktr_room) ?bind ?loc ?h ?c1 ?c2 ?c3 ?c4
  ktr_unf
  intro g L h₁ F N X' T' st' bt lt
  try dsimp only
  k_fold
  have GA' := GA.stays st'
  obtain ⟨dx, c, v, kk, d9, nz, gn, n, t1, t2, t3, t4, t5, t6, t7, a1, a2, a3, a4, a5, a6⟩ := GA.stays st'
  have hkl := hw.len nd hnd
  have hd0 : ¬ dI ≤ 0 := by omega
  have hI1 : dI - 1 = (d : Int) := by omega
  k_steps
  · (rename IntsAre _ (rangeKs _ _) => I9)
    (rename Fr _ _ _ _ => F9)
    (rename News _ _ _ _ => N9)
    show wpAny _ _ _ _ _ _
    refine For_invVF F9 (by rfl) (by rfl) (ld F9 (by rfl) ?_)
    refine iter_pa2 (pa := pa) (o := listOf (xs.push (.int nd tn)) _) (Str.ofString "value") (Str.ofString "best") (fun j _ ub o' => ∃ tb e', ub = some (.int (((G.kids nd).take j).foldl (fun b k => stepMax b (-(negaV G d (i + 1) k))) (-32001)) tb) ∧ o' = listOf (xs.push (.int nd tn)) e') rfl F9 N9 (by k_updF) (by k_mem) (Ne.symm (by assumption)) ⟨_, _, rfl, rfl⟩ ?_ ?_
    · clear F9 N9
      rintro I io j v z u1 u2 o' h tk hI hv ⟨tb, e', rfl, rfl⟩ F9 N9
      obtain ⟨hj, tv, rfl⟩ := range_item I9 hv
      obtain ⟨k, hk⟩ : ∃ k, (G.kids nd)[j]? = some k := ⟨_, List.getElem?_eq_getElem hj⟩
      have hkn : k < G.n := hw.lt nd hnd k (List.mem_of_getElem? hk)
      k_lt hI
      replace F9 : Fr g L h _ := F9
      replace N9 : News g L h _ := N9
      try dsimp only at N9
      try k_fold
      k_steps
      all_goals (rename Fr _ _ _ _ => F8)
      all_goals (rename News _ _ _ _ => N8)
      · refine TurnEndP2.next F8 N8 (by intro y h1 h2 h3; simp only [if_neg h1, if_neg h2, if_neg h3]) ⟨?tb, _, ?eq, rfl⟩
        (case eq => (rw [foldl_take_succ hk, stepMax_pos (by assumption)]; exact rfl))
      · refine TurnEndP2.next F8 N8 (by intro y h1 h2 h3; simp only [if_neg h1, if_neg h2, if_neg h3]) ⟨?tb2, _, ?eq2, rfl⟩
        (case eq2 => (rw [foldl_take_succ hk, stepMax_neg (by assumption)]; exact rfl))
    · clear F9 N9
      rintro z u1 u2 o' h tk ⟨tb, e', rfl, rfl⟩ F9 N9
      k_steps
      have hne := range_some (by assumption)
      rw [range_size I9, List.take_length]
      exact ⟨_, F9, fun hb => ret _ _ _ _ _ (by rw [negaV, if_neg hne]) hb (N9 _ (.tail _ (.head _))).1⟩
  · (rename News _ _ _ _ => N9)
    have hk0 : G.kids nd = [] := by
      (rename ¬ _ < _ => h9)
      cases h : G.kids nd with
      | nil => rfl
      | cons a l => simp [h, rangeKs] at h9
    exact ⟨_, by assumption, fun hb => ret _ _ _ _ _ (by simp [negaV, hk0]) hb (N9 _ (.tail _ (.head _))).1⟩

theorem neg_spec {G : GT} : ∀ d, NegSpec prog w p loose mean mg mb G d := by
  intro d
  induction d with
  | zero => exact neg0
  | succ d ih => exact negS ih
end
end Mine
end
section
open PySem PySem.W PyProof.Rows PySem.Calls PySem.Spec
namespace Mine

def AbOk (v al be x : Int) : Prop := (x ≤ al → v ≤ x) ∧ (be ≤ x → x ≤ v) ∧ (al < x → x < be → x = v)
def AbInv (v al be b a : Int) : Prop := b < be ∧ a < be ∧ a = (if al < b then b else al) ∧ (b ≤ al → v ≤ b) ∧ (al < b → b = v)
inductive AbJ (m al be : Int) (xs : Array Value) (nd : Nat) (tn : Tok) (ub ua : Option Value) (o' : Obj) : Prop
  | mk (b a : Int) (tb ta : Tok) (e' : Nat) (hb : ub = some (.int b tb)) (ha : ua = some (.int a ta)) (hv : AbInv m al be b a) (ho : o' = listOf (xs.push (.int nd tn)) e')
theorem ab_start {al be : Int} (h1 : -32001 ≤ al) (h2 : al < be) : AbInv (-32001) al be (-32001) al := by
  unfold AbInv; split <;> omega
theorem ab_end {v al be b a : Int} (h : AbInv v al be b a) : AbOk v al be b := by
  unfold AbInv AbOk at *; omega
theorem ab_win {v al be b a : Int} (h : AbInv v al be b a) (h1 : -32001 ≤ al) (h2 : al < be) (h3 : be ≤ 32001) : -32001 ≤ -be ∧ -be < -a ∧ -a ≤ 32001 := by
  unfold AbInv at *; split at h <;> omega
/-- no better than what stood -/
theorem ab_less {v vk al be b a r : Int} (h : AbInv v al be b a) (hr : AbOk vk (-be) (-a) r) (hn : ¬ b < -r) : AbInv (stepMax v (-vk)) al be b a := by
  unfold AbInv AbOk stepMax at *; split at h <;> split <;> omega
theorem ab_cut {v vk al be b a r : Int} (h : AbInv v al be b a) (hr : AbOk vk (-be) (-a) r) (hb : be ≤ -r) : -r ≤ -vk := by
  unfold AbInv AbOk at *; omega
theorem ab_more {v vk al be b a r a' : Int} (h : AbInv v al be b a) (hr : AbOk vk (-be) (-a) r) (hn : b < -r) (hb : ¬ be ≤ -r) (ha : a' = if a < -r then -r else a) : AbInv (stepMax v (-vk)) al be (-r) a' := by
  unfold AbInv AbOk stepMax at *; split at h <;> split at ha <;> split <;> omega
theorem ab_brk {v al be x : Int} (h1 : al < be) (hx : be ≤ x) (hv : x ≤ v) : AbOk v al be x := by
  unfold AbOk; omega
theorem ab_eq {v al be x : Int} (h : v = x) : AbOk v al be x := by
  subst h; unfold AbOk; omega
theorem stepMax_ge1 (b v : Int) : b ≤ stepMax b v := by unfold stepMax; split <;> omega
theorem stepMax_ge2 (b v : Int) : v ≤ stepMax b v := by unfold stepMax; split <;> omega
theorem foldl_ge_start (f : Nat → Int) : ∀ (l : List Nat) (b : Int), b ≤ l.foldl (fun b k => stepMax b (f k)) b
  | [], _ => Int.le_refl _
  | k :: l, b => by
    rw [List.foldl_cons]
    exact Int.le_trans (stepMax_ge1 b (f k)) (foldl_ge_start f l _)
theorem foldl_ge (f : Nat → Int) : ∀ (l : List Nat) (b : Int) (k : Nat), k ∈ l → f k ≤ l.foldl (fun b k => stepMax b (f k)) b
  | _ :: l, b, _, .head _ => by
    rw [List.foldl_cons]
    exact Int.le_trans (stepMax_ge2 b _) (foldl_ge_start f l _)
  | _ :: l, b, k, .tail _ h => by
    rw [List.foldl_cons]
    exact foldl_ge f l _ k h
section
variable {prog : Program} {w : World} {p : Program} {loose : List Str} {mean : ExcName → Option Value} {mg mb : Str → Option Value}
local macro_rules | `(tactic| ktr_unf) => `(tactic| k_extra "r1")
local macro_rules | `(tactic| k_inst) => `(tactic| exact inst_F (by k_asm) (by assumption) (by assumption))
local macro_rules | `(tactic| ktr_room) => `(tactic| k_extra "r9")
local macro_rules | `(tactic| tb_start) => `(tactic| first | with_reducible assumption | ((try simp only [Array.size_push]); omega))
local macro_rules | `(tactic| walk_at "subscriptTail") => `(tactic| k_extra "g3")
local macro_rules | `(tactic| walk_at "call ref") => `(tactic| k_extra "g6")
section
local macro_rules | `(tactic| walk_at "isTrue BoolOp") => `(tactic| k_extra "g7")
local macro_rules | `(tactic| walk_at "StF") => `(tactic| exact ⟨_, _, rfl, by assumption, by assumption⟩)

set_option maxHeartbeats 400000 in
theorem quiesce_window_spec {s : Shared} {fz : Heap} {dp un : Nat} {fr : Option (List Env)} {gd : Option (List Code)} {Q E : Value → Shared → Prop} {gm pa : Addr} {G : GT} {xs : Array Value} {nd : Nat} {tn : Tok} {e : Nat} {al be i : Int} {tal tbe ti tq : Tok}
    (X : (hd.heap_1 w.params).In fz) (T : Top p loose mean mg mb fz) (st : fz.StaysIn s.heap) (room : dp + 2 < recursionLimit) (GA : GameAt w fz gm pa G) (hp : s.heap.get? pa = some (listOf (xs.push (.int nd tn)) e)) (hp0 : fz.get? pa = none) (hnd : nd < G.n) (hz : xs.size ≤ 990) (hn : G.n ≤ 1000) (hck : G.chk nd = true → G.kids nd = [])
    (ret : ∀ x t h' tk' e', x = leafV G i nd → But [pa] s.heap h' → h'.get? pa = some (listOf (xs.push (.int nd tn)) e') → Q (.int x t) { s with heap := h', toks := tk' }) :
    wpAny (model prog w) (ar dp un fr gd) (call (.ref 70) [.ref gm, .int al tal, .int be tbe, .int i ti, .int 0 tq]) Q E s := by
  have N : ∀ q ∈ [(pa, listOf (xs.push (.int nd tn)) e)], s.heap.get? q.1 = some q.2 ∧ fz.get? q.1 = none := by simp [hp, hp0]
  refine' enter (K := hd.heap_1 w.params) (binds := [(Str.ofString "game", .ref gm), (Str.ofString "alpha", .int al tal), (Str.ofString "beta", .int be tbe), (Str.ofString "ply", .int i ti), (Str.ofString "qdepth", .int 0 tq)]) X T st N ?ho ?hcd (by ktr_room) ?bind ?loc ?h ?c1 ?c2 ?c3 ?c4
  ktr_unf
  intro g L h₁ F N X' T' st' bt lt
  try dsimp only
  k_fold
  have GA' := GA.stays st'
  obtain ⟨dx, c, v, kk, d, nz, gn, n, t1, t2, t3, t4, t5, t6, t7, a1, a2, a3, a4, a5, a6⟩ := GA.stays st'
  k_steps
  · have hk0 : G.kids nd = [] := hck (by assumption)
    (rename Fr _ _ _ _ => F9)
    (rename News _ _ _ _ => N9)
    refine moves0_use F9 N9 X' T' GA' (by k_updF) (by ktr_room) hnd (by omega) hn hk0 ?_
    intro D9 c9 h9 tk9 F' N' l1
    try dsimp only at N'
    try simp only [AllNe, and_true] at l1
    clear F9 N9
    k_steps
    (rename News _ _ _ _ => N9)
    exact ⟨_, by assumption, fun hb => ret _ _ _ _ _ (by simp [leafV, *]) hb (N9 _ (.tail _ (.head _))).1⟩
  all_goals (rename News _ _ _ _ => N9)
  all_goals exact ⟨_, by assumption, fun hb => ret _ _ _ _ _ (by simp [leafV, *]) hb (N9 _ (.head _)).1⟩

theorem quiesce_window_use {s : Shared} {g : Heap} {L : Addr} {m : Str → Option Value} {news : List (Addr × Obj)} {gg : Obj → List (Addr × Obj)} {dp un : Nat} {fr : Option (List Env)} {gd : Option (List Code)} {Q E : Value → Shared → Prop} {gm pa : Addr} {G : GT} {xs : Array Value} {nd : Nat} {tn : Tok} {e : Nat} {al be i : Int} {tal tbe ti tq : Tok}
    (F : Fr g L s.heap m) (N : News g L s.heap news) (X : (hd.heap_1 w.params).In g) (T : Top p loose mean mg mb g) (GA : GameAt w g gm pa G) (U : UpdF pa (listOf (xs.push (.int nd tn)) e) news gg) (room : dp + 2 < recursionLimit) (hnd : nd < G.n) (hz : xs.size ≤ 990) (hn : G.n ≤ 1000) (hck : G.chk nd = true → G.kids nd = [])
    (ret : ∀ t h' tk' e', Fr g L h' m → News g L h' (gg (listOf (xs.push (.int nd tn)) e')) → Q (.int (leafV G i nd) t) { s with heap := h', toks := tk' }) :
    wpAny (model prog w) (ar dp un fr gd) (call (.ref 70) [.ref gm, .int al tal, .int be tbe, .int i ti, .int 0 tq]) Q E s :=
  quiesce_window_spec X T F.keep room GA (N.get (updF_mem U)) (N.fresh (updF_mem U)) hnd hz hn hck fun x t h' tk' e' hx hb hp => by subst hx; exact (fun z => ret t h' tk' e' z.1 z.2) (after1 F N U hb hp)
end

def AbSpec (prog : Program) (w : World) (p : Program) (loose : List Str) (mean : ExcName → Option Value) (mg mb : Str → Option Value) (G : GT) (d : Nat) : Prop :=
  ∀ {s : Shared} {fz : Heap} {dp un : Nat} {fr : Option (List Env)} {gd : Option (List Code)} {Q E : Value → Shared → Prop} {gm pa : Addr} {xs : Array Value} {nd : Nat} {tn : Tok} {e : Nat} {al be dI i : Int} {tal tbe td ti tq : Tok}
    (X : (hd.heap_1 w.params).In fz) (T : Top p loose mean mg mb fz) (st : fz.StaysIn s.heap) (room : dp + d + 5 < recursionLimit) (GA : GameAt w fz gm pa G) (hp : s.heap.get? pa = some (listOf (xs.push (.int nd tn)) e)) (hp0 : fz.get? pa = none) (hnd : nd < G.n) (hz : xs.size + d ≤ 980) (hn : G.n ≤ 1000) (hw : G.WF) (hdI : dI = d) (hal : -32001 ≤ al) (hab : al < be) (hbe : be ≤ 32001)
    (ret : ∀ x t h' tk' e', AbOk (negaV G d i nd) al be x → But [pa] s.heap h' → h'.get? pa = some (listOf (xs.push (.int nd tn)) e') → Q (.int x t) { s with heap := h', toks := tk' }),
    wpAny (model prog w) (ar dp un fr gd) (call (.ref 77) [.ref gm, .int al tal, .int be tbe, .int dI td, .int i ti, .int 0 tq]) Q E s
theorem ab_use {s : Shared} {g : Heap} {L : Addr} {m : Str → Option Value} {news : List (Addr × Obj)} {gg : Obj → List (Addr × Obj)} {dp un : Nat} {fr : Option (List Env)} {gd : Option (List Code)} {Q E : Value → Shared → Prop} {gm pa : Addr} {G : GT} {xs : Array Value} {nd : Nat} {tn : Tok} {e : Nat} {d : Nat} {al be dI i : Int} {tal tbe td ti tq : Tok} (IH : AbSpec prog w p loose mean mg mb G d)
    (F : Fr g L s.heap m) (N : News g L s.heap news) (X : (hd.heap_1 w.params).In g) (T : Top p loose mean mg mb g) (GA : GameAt w g gm pa G) (U : UpdF pa (listOf (xs.push (.int nd tn)) e) news gg) (room : dp + d + 5 < recursionLimit) (hnd : nd < G.n) (hz : xs.size + d ≤ 980) (hn : G.n ≤ 1000) (hw : G.WF) (hdI : dI = d) (hal : -32001 ≤ al) (hab : al < be) (hbe : be ≤ 32001)
    (ret : ∀ x t h' tk' e', AbOk (negaV G d i nd) al be x → Fr g L h' m → News g L h' (gg (listOf (xs.push (.int nd tn)) e')) → Q (.int x t) { s with heap := h', toks := tk' }) :
    wpAny (model prog w) (ar dp un fr gd) (call (.ref 77) [.ref gm, .int al tal, .int be tbe, .int dI td, .int i ti, .int 0 tq]) Q E s :=
  IH X T F.keep room GA (N.get (updF_mem U)) (N.fresh (updF_mem U)) hnd hz hn hw hdI hal hab hbe fun x t h' tk' e' hx hb hp => (fun z => ret x t h' tk' e' hx z.1 z.2) (after1 F N U hb hp)
local macro_rules | `(tactic| walk_at "StF") => `(tactic| exact ⟨_, _, rfl, by assumption, by assumption⟩)
local macro_rules | `(tactic| walk_at "exec For Name Name cons nil") => `(tactic| refine for_stop ?_)

set_option maxHeartbeats 400000 in
theorem ab0 {G : GT} : AbSpec prog w p loose mean mg mb G 0 := by
  intro s fz dp un fr gd Q E gm pa xs nd tn e al be dI i tal tbe td ti tq X T st room GA hp hp0 hnd hz hn hw hdI hal hab hbe ret
  have N : ∀ q ∈ [(pa, listOf (xs.push (.int nd tn)) e)], s.heap.get? q.1 = some q.2 ∧ fz.get? q.1 = none := by simp [hp, hp0]
  refine' enter (K := hd.heap_1 w.params) (binds := [(Str.ofString "game", .ref gm), (Str.ofString "alpha", .int al tal), (Str.ofString "beta", .int be tbe), (Str.ofString "depth", .int dI td), (Str.ofString "ply", .int i ti), (Str.ofString "qdepth", .int 0 tq)]) X T st N ?ho ?hcd (by ktr_room) ?bind ?loc ?h ?c1 ?c2 ?c3 ?c4
  ktr_unf
  intro g L h₁ F N X' T' st' bt lt
  try dsimp only
  k_fold
  have GA' := GA.stays st'
  obtain ⟨dx, c, v, kk, d9, nz, gn, n, t1, t2, t3, t4, t5, t6, t7, a1, a2, a3, a4, a5, a6⟩ := GA.stays st'
  have hck := hw.ck nd hnd
  have hd0 : dI ≤ 0 := by omega
  k_steps
  all_goals (rename News _ _ _ _ => N9)
  all_goals exact ⟨_, by assumption, fun hb => ret _ _ _ _ _ (by unfold AbOk negaV; omega) hb (N9 _ (.head _)).1⟩

set_option maxHeartbeats 2000000 in
theorem abS {G : GT} {d : Nat} (IH : AbSpec prog w p loose mean mg mb G d) : AbSpec prog w p loose mean mg mb G (d + 1) := by
  intro s fz dp un fr gd Q E gm pa xs nd tn e al be dI i tal tbe td ti tq X T st room GA hp hp0 hnd hz hn hw hdI hal hab hbe ret
  have N : ∀ q ∈ [(pa, listOf (xs.push (.int nd tn)) e)], s.heap.get? q.1 = some q.2 ∧ fz.get? q.1 = none := by simp [hp, hp0]
  refine' enter (K := hd.heap_1 w.params) (binds := [(Str.ofString "game", .ref gm), (Str.ofString "alpha", .int al tal), (Str.ofString "beta", .int be tbe), (Str.ofString "depth", .int dI td), (Str.ofString "ply", .int i ti), (Str.ofString "qdepth", .int 0 tq)]) X T st N ?ho ?hcd (by ktr_room) ?bind ?loc ?h ?c1 ?c2 ?c3 ?c4
  ktr_unf
  intro g L h₁ F N X' T' st' bt lt
  try dsimp only
  k_fold
  have GA' := GA.stays st'
  obtain ⟨dx, c, v, kk, d9, nz, gn, n, t1, t2, t3, t4, t5, t6, t7, a1, a2, a3, a4, a5, a6⟩ := GA.stays st'
  have hkl := hw.len nd hnd
  have hd0 : ¬ dI ≤ 0 := by omega
  k_steps
  · (rename IntsAre _ (rangeKs _ _) => I9)
    (rename Fr _ _ _ _ => F9)
    (rename News _ _ _ _ => N9)
    show wpAny _ _ _ _ _ _
    refine For_invVF F9 (by rfl) (by rfl) (ld F9 (by rfl) ?_)
    refine iter_pa3 (pa := pa) (o := listOf (xs.push (.int nd tn)) _) (Str.ofString "value") (Str.ofString "best") (Str.ofString "alpha") (fun j _ ub ua o' => AbJ (((G.kids nd).take j).foldl (fun b k => stepMax b (-(negaV G d (i + 1) k))) (-32001)) al be xs nd tn ub ua o') rfl F9 N9 (by k_updF) (by k_mem) (Ne.symm (by assumption)) ⟨_, _, _, _, _, rfl, rfl, ab_start hal hab, rfl⟩ ?_ ?_
    · clear F9 N9
      rintro I io j v z u1 u2 u3 o' h tk hI hv ⟨b, a, tb, ta, e', rfl, rfl, hinv, rfl⟩ F9 N9
      obtain ⟨hj, tv, rfl⟩ := range_item I9 hv
      obtain ⟨k, hk⟩ : ∃ k, (G.kids nd)[j]? = some k := ⟨_, List.getElem?_eq_getElem hj⟩
      have hkn : k < G.n := hw.lt nd hnd k (List.mem_of_getElem? hk)
      obtain ⟨hw1, hw2, hw3⟩ := ab_win hinv hal hab hbe
      k_lt hI
      replace F9 : Fr g L h _ := F9
      replace N9 : News g L h _ := N9
      try dsimp only at N9
      try k_fold
      k_steps
      · refine TurnEndP3.brk ?_
        k_steps
        have hne := range_some (by assumption)
        (rename Fr _ _ _ _ => F8)
        (rename News _ _ _ _ => N8)
        exact ⟨_, F8, fun hb => ret _ _ _ _ _ (ab_brk hab (by assumption) (by rw [negaV, if_neg hne]; exact Int.le_trans (ab_cut hinv (by assumption) (by assumption)) (foldl_ge (fun k => -(negaV G d (i + 1) k)) _ _ _ (List.mem_of_getElem? hk)))) hb (N8 _ (.tail _ (.tail _ (.head _)))).1⟩
      all_goals (rename Fr _ _ _ _ => F8)
      all_goals (rename News _ _ _ _ => N8)
      · refine TurnEndP3.next F8 N8 (by intro y h1 h2 h3 h4; simp only [if_neg h1, if_neg h2, if_neg h3, if_neg h4]) ⟨_, _, _, _, _, rfl, rfl, ?_, rfl⟩
        rw [foldl_take_succ hk]
        exact ab_more hinv (by assumption) (by assumption) (by first | assumption | omega) (by rw [if_pos (by assumption)])
      · refine TurnEndP3.next F8 N8 (by intro y h1 h2 h3 h4; simp only [if_neg h1, if_neg h2, if_neg h3, if_neg h4]) ⟨_, _, _, _, _, rfl, rfl, ?_, rfl⟩
        rw [foldl_take_succ hk]
        exact ab_more hinv (by assumption) (by assumption) (by first | assumption | omega) (by rw [if_neg (by assumption)])
      · refine TurnEndP3.next F8 N8 (by intro y h1 h2 h3 h4; simp only [if_neg h1, if_neg h2, if_neg h3, if_neg h4]) ⟨_, _, _, _, _, rfl, rfl, ?_, rfl⟩
        rw [foldl_take_succ hk]
        exact ab_less hinv (by assumption) (by assumption)
    · clear F9 N9
      rintro z u1 u2 u3 o' h tk ⟨b, a, tb, ta, e', rfl, rfl, hinv, rfl⟩ F9 N9
      k_steps
      have hne := range_some (by assumption)
      rw [range_size I9, List.take_length] at hinv
      exact ⟨_, F9, fun hb => ret _ _ _ _ _ (by rw [negaV, if_neg hne]; exact ab_end hinv) hb (N9 _ (.tail _ (.head _))).1⟩
  all_goals (rename News _ _ _ _ => N9)
  all_goals have hk0 : G.kids nd = [] := range_none (by assumption)
  all_goals exact ⟨_, by assumption, fun hb => ret _ _ _ _ _ (ab_eq (by rw [negaV, if_pos hk0]; unfold endV; first | rw [if_pos (by assumption)] | rw [if_neg (by simp [*])])) hb (N9 _ (.tail _ (.head _))).1⟩

theorem ab_spec {G : GT} : ∀ d, AbSpec prog w p loose mean mg mb G d := by
  intro d
  induction d with
  | zero => exact ab0
  | succ d ih => exact abS ih
end
end Mine
end
section
open PySem PySem.W PyProof.Rows PySem.Calls PySem.Spec
namespace Mine
section
variable {prog : Program} {w : World} {A : Around} {E : Value → Shared → Prop} {s : Shared} {env : Env} {h₀ : Heap} {x : Str} {body : List Stmt} {Q : Flow → Shared → Prop}
def TurnEndI (h₀ : Heap) (L : Addr) (J : (Str → Option Value) → List (Addr × Obj) → Prop) (own : Addr × Obj) (s₁ : Shared) (Q : Flow → Shared → Prop) (f : Flow) (s₂ : Shared) : Prop :=
  match f with
  | .ret v => Q (.ret v) s₂
  | .brk => Q .next s₂
  | _ => ∃ h' tk m' news', s₂ = { s₁ with heap := h', toks := tk } ∧ Fr h₀ L h' m' ∧ News h₀ L h' (own :: news') ∧ J m' news'
theorem TurnEndI.next {L : Addr} {J : (Str → Option Value) → List (Addr × Obj) → Prop} {own : Addr × Obj} {s₁ : Shared} {h' : Heap} {tk : Nat} {m' : Str → Option Value} {news' : List (Addr × Obj)}
    (F : Fr h₀ L h' m') (N : News h₀ L h' (own :: news')) (hj : J m' news') : TurnEndI h₀ L J own s₁ Q .next { s₁ with heap := h', toks := tk } := ⟨h', tk, m', news', rfl, F, N, hj⟩

theorem iter_ledI {D : Addr} {its : Array Value} {c : Nat} {m₀ : Str → Option Value} {news : List (Addr × Obj)} (J : Addr → Nat → (Str → Option Value) → List (Addr × Obj) → Prop)
    (hh : A.handled = none) (F : Fr h₀ env.locals s.heap m₀) (N : News h₀ env.locals s.heap news) (hD : (D, listOf its c) ∈ news) (h0 : ∀ I, (∀ q ∈ news, q.1 < I) → J I 0 m₀ news)
    (hJ : ∀ I i m n, J I i m n → (D, listOf its c) ∈ n ∧ ∀ q ∈ n, q.1 ≠ I)
    (turn : ∀ I io i v m₁ news₁ h tk, (∀ q ∈ news, q.1 < I) → its[i]? = some v → J I i m₁ news₁ → Fr h₀ env.locals h (fun y => if y = x then some v else m₁ y) → News h₀ env.locals h ((I, io) :: news₁) →
      wpAny (model prog w) A (execs body env) (TurnEndI h₀ env.locals (J I (i + 1)) (I, io) { s with heap := h, toks := tk } Q) E { s with heap := h, toks := tk })
    (done : ∀ I m₁ news₁ h tk, J I its.size m₁ news₁ → Fr h₀ env.locals h m₁ → News h₀ env.locals h news₁ → Q .next { s with heap := h, toks := tk }) :
    wpAny (model prog w) A (pyIter (.ref D)) (fun it s₂ => LoopAtV prog w A h₀ env x body Q E it s₂) E s := by
  have zD := N _ hD
  have hls : s.heap.IsList D its := ⟨_, zD.1, rfl, c, rfl⟩
  have hlt : D < s.heap.objs.size := Heap.lt_size zD.1
  have hne : D ≠ s.heap.objs.size := Nat.ne_of_lt hlt
  have hlow : ∀ q ∈ news, q.1 < s.heap.objs.size := fun q hq => Heap.lt_size (N q hq).1
  have hoff : ∀ i m n, J s.heap.objs.size i m n → ∀ q ∈ n, q.1 ≠ s.heap.objs.size := fun i m n hj => (hJ _ i m n hj).2
  refine wpAny_pyIter_list hls ?_
  have W := Walks.list (prog := prog) (w := w) hh s.heap.objs.size D hne its
  refine ⟨_, _, _, its.size, _, _, m₀, news, J s.heap.objs.size, rfl, W, ?_, ?_, ?_, ⟨⟨_, Heap.get?_push_size _ rfl, rfl, rfl⟩, hls.at fun o e => Heap.get?_push_of_some _ e⟩, F.push _, (fun p hp => ⟨Heap.get?_push_of_some _ (N p hp).1, (N p hp).2⟩), h0 _ hlow, ?_, ?_⟩
  · intro hm
    rcases List.mem_cons.mp hm with e | hm
    · exact absurd F.ns.lt (e ▸ Nat.lt_irrefl _)
    · exact zD.2.1 (List.mem_singleton.mp hm).symm
  · intro b hb
    rw [List.mem_singleton.mp hb]
    exact next_is_new F
  · intro p hp hI
    exact Nat.ne_of_lt (hlow p hp) (List.mem_singleton.mp hI)
  · rintro i v m₁ news₁ s₁ own ⟨hh', tk', rfl⟩ hin hP hJi _ hown hget hall hst' F₁ N₁
    obtain ⟨⟨oI, hoI, _⟩, _⟩ := hst'
    have hoI' : hh'.get? s.heap.objs.size = some oI := hoI
    have hio : (s.heap.objs.size, oI) ∈ own := hall _ (.head _) (next_is_new F) oI hoI
    have hDn := (hJ _ i m₁ news₁ hJi).1
    have hDh := (N₁ _ (List.mem_append_right _ hDn)).1
    have N₂ : News h₀ env.locals hh' ((s.heap.objs.size, oI) :: news₁) := fun p hp => by
      rcases List.mem_cons.mp hp with rfl | hp
      · exact N₁ _ (List.mem_append_left _ hio)
      · exact N₁ _ (List.mem_append_right _ hp)
    refine wpAny_mono (turn s.heap.objs.size oI i v m₁ news₁ hh' tk' hlow hP hJi F₁ N₂) (fun f s₂ p => ?_) fun _ _ e => e
    have fin : (∃ h' tk m' news', s₂ = { s with heap := h', toks := tk } ∧ Fr h₀ env.locals h' m' ∧ News h₀ env.locals h' ((s.heap.objs.size, oI) :: news') ∧ J s.heap.objs.size (i + 1) m' news') →
        LoopStepU h₀ env.locals [s.heap.objs.size] own (J s.heap.objs.size (i + 1)) { s with heap := hh', toks := tk' } .next s₂ := by
      rintro ⟨h', tk, m', news', e, F', N', hj⟩
      have hD' := (hJ _ (i + 1) m' news' hj).1
      refine ⟨rfl, h', tk, m', news', e, F', fun p hp => ?_, fun p hp hq => hoff (i + 1) m' news' hj p hp (List.mem_singleton.mp hq), hj⟩
      rcases List.mem_append.mp hp with hp | hp
      · have hp2 : hh'.get? p.1 = some p.2 := hget p hp
        rcases List.mem_cons.mp (hown p hp) with e1 | e1
        · have e2 : p = (s.heap.objs.size, oI) := by
            rw [e1, hoI'] at hp2
            exact Prod.ext e1 (Option.some.inj hp2).symm
          rw [e2]; exact N' _ (.head _)
        · have e1 := List.mem_singleton.mp e1
          have e2 : p = (D, listOf its c) := by
            rw [e1, hDh] at hp2
            exact Prod.ext e1 (Option.some.inj hp2).symm
          rw [e2]; exact N' _ (.tail _ hD')
      · exact N' _ (.tail _ hp)
    cases f with
    | ret v => exact .ret p
    | brk => exact .brk p
    | next => exact .next (fin p)
    | cont => exact .cont (fin p)
  · rintro h' tk m' news' F' N' _ hJn
    exact done _ m' news' h' tk hJn F' N'


def TurnEndI3 (h₀ : Heap) (L : Addr) (x a0 a1 a2 : Str) (m₀ : Str → Option Value) (J : Option Value → Option Value → Option Value → List (Addr × Obj) → Prop) (own : Addr × Obj) (s₁ : Shared) (Q : Flow → Shared → Prop) (f : Flow) (s₂ : Shared) : Prop :=
  match f with
  | .ret v => Q (.ret v) s₂
  | .brk => Q .next s₂
  | _ => ∃ h' tk m' n', s₂ = { s₁ with heap := h', toks := tk } ∧ Fr h₀ L h' m' ∧ News h₀ L h' (own :: n') ∧ (∀ y, y ≠ x → y ≠ a0 → y ≠ a1 → y ≠ a2 → m' y = m₀ y) ∧ J (m' a0) (m' a1) (m' a2) n'
theorem TurnEndI3.next {L : Addr} {a0 a1 a2 : Str} {m₀ : Str → Option Value} {J : Option Value → Option Value → Option Value → List (Addr × Obj) → Prop} {own : Addr × Obj} {s₁ : Shared} {h' : Heap} {tk : Nat} {m' : Str → Option Value} {n' : List (Addr × Obj)}
    (F : Fr h₀ L h' m') (N : News h₀ L h' (own :: n')) (hm : ∀ y, y ≠ x → y ≠ a0 → y ≠ a1 → y ≠ a2 → m' y = m₀ y) (hj : J (m' a0) (m' a1) (m' a2) n') : TurnEndI3 h₀ L x a0 a1 a2 m₀ J own s₁ Q .next { s₁ with heap := h', toks := tk } := ⟨h', tk, m', n', rfl, F, N, hm, hj⟩

theorem iter_I3 {D : Addr} {its : Array Value} {c : Nat} {m₀ : Str → Option Value} {news : List (Addr × Obj)} (a0 a1 a2 : Str) (J : Addr → Nat → Option Value → Option Value → Option Value → List (Addr × Obj) → Prop)
    (hh : A.handled = none) (F : Fr h₀ env.locals s.heap m₀) (N : News h₀ env.locals s.heap news) (hD : (D, listOf its c) ∈ news) (h0 : ∀ I, (∀ q ∈ news, q.1 < I) → J I 0 (m₀ a0) (m₀ a1) (m₀ a2) news)
    (hJ : ∀ I i u0 u1 u2 n, J I i u0 u1 u2 n → (D, listOf its c) ∈ n ∧ ∀ q ∈ n, q.1 ≠ I)
    (turn : ∀ I io i v z u0 u1 u2 n h tk, (∀ q ∈ news, q.1 < I) → its[i]? = some v → J I i u0 u1 u2 n → Fr h₀ env.locals h (fun y => if y = x then some v else if y = a0 then u0 else if y = a1 then u1 else if y = a2 then u2 else if y = x then z else m₀ y) → News h₀ env.locals h ((I, io) :: n) →
      wpAny (model prog w) A (execs body env) (TurnEndI3 h₀ env.locals x a0 a1 a2 m₀ (J I (i + 1)) (I, io) { s with heap := h, toks := tk } Q) E { s with heap := h, toks := tk })
    (done : ∀ I z u0 u1 u2 n h tk, J I its.size u0 u1 u2 n → Fr h₀ env.locals h (fun y => if y = a0 then u0 else if y = a1 then u1 else if y = a2 then u2 else if y = x then z else m₀ y) → News h₀ env.locals h n → Q .next { s with heap := h, toks := tk }) :
    wpAny (model prog w) A (pyIter (.ref D)) (fun it s₂ => LoopAtV prog w A h₀ env x body Q E it s₂) E s := by
  have norm : ∀ m₁ : Str → Option Value, (∀ y, y ≠ x → y ≠ a0 → y ≠ a1 → y ≠ a2 → m₁ y = m₀ y) → m₁ = fun y => if y = a0 then m₁ a0 else if y = a1 then m₁ a1 else if y = a2 then m₁ a2 else if y = x then m₁ x else m₀ y :=
    fun m₁ h => norm4 a0 a1 a2 x fun y g0 g1 g2 gx => h y gx g0 g1 g2
  refine iter_ledI (fun I i m₁ n => (∀ y, y ≠ x → y ≠ a0 → y ≠ a1 → y ≠ a2 → m₁ y = m₀ y) ∧ J I i (m₁ a0) (m₁ a1) (m₁ a2) n) hh F N hD (fun I hI => ⟨fun _ _ _ _ _ => rfl, h0 I hI⟩) ?_ ?_ ?_
  · rintro I i m₁ n ⟨_, hj⟩
    exact hJ I i _ _ _ n hj
  · rintro I io i v m₁ n h tk hI hv ⟨hm, hj⟩ F₁ N₁
    rw [norm m₁ hm] at F₁
    refine wpAny_mono (turn I io i v (m₁ x) (m₁ a0) (m₁ a1) (m₁ a2) n h tk hI hv hj F₁ N₁) (fun f s₂ p => ?_) fun _ _ e => e
    have fin : (∃ h' tk' m' n', s₂ = { s with heap := h', toks := tk' } ∧ Fr h₀ env.locals h' m' ∧ News h₀ env.locals h' ((I, io) :: n') ∧ (∀ y, y ≠ x → y ≠ a0 → y ≠ a1 → y ≠ a2 → m' y = m₀ y) ∧ J I (i + 1) (m' a0) (m' a1) (m' a2) n') →
        ∃ h' tk m' news', s₂ = { s with heap := h', toks := tk } ∧ Fr h₀ env.locals h' m' ∧ News h₀ env.locals h' ((I, io) :: news') ∧ ((∀ y, y ≠ x → y ≠ a0 → y ≠ a1 → y ≠ a2 → m' y = m₀ y) ∧ J I (i + 1) (m' a0) (m' a1) (m' a2) news') := by
      rintro ⟨h', tk', m', n', e, F', N', hm', hj'⟩
      exact ⟨h', tk', m', _, e, F', N', hm', hj'⟩
    cases f with
    | ret v => exact p
    | brk => exact p
    | next => exact fin p
    | cont => exact fin p
  · rintro I m₁ n h tk ⟨hm, hj⟩ F₁ N₁
    rw [norm m₁ hm] at F₁
    exact done I (m₁ x) (m₁ a0) (m₁ a1) (m₁ a2) n h tk hj F₁ N₁
end
theorem News.sub {h₀ h : Heap} {L : Addr} {n n' : List (Addr × Obj)} (N : News h₀ L h n) (hs : ∀ p ∈ n', p ∈ n) : News h₀ L h n' := fun p hp => N p (hs p hp)
end Mine
end
section
open PySem PySem.W PyProof.Rows PySem.Calls PySem.Spec
namespace Mine
section
variable {prog : Program} {w : World} {A : Around} {E : Value → Shared → Prop} {s : Shared} {env : Env} {h₀ : Heap} {x : Str} {body : List Stmt} {Q : Flow → Shared → Prop}

def TurnEndG (h₀ : Heap) (L : Addr) (J : Array Value → (Str → Option Value) → List (Addr × Obj) → Prop) (own : Addr × Obj) (s₁ : Shared) (Q : Flow → Shared → Prop) (f : Flow) (s₂ : Shared) : Prop :=
  match f with
  | .ret v => Q (.ret v) s₂
  | .brk => Q .next s₂
  | _ => ∃ h' tk its m' n', s₂ = { s₁ with heap := h', toks := tk } ∧ Fr h₀ L h' m' ∧ News h₀ L h' (own :: n') ∧ J its m' n'

/-- a loop over a list that its own body makes longer -/
def GrowAt (prog : Program) (w : World) (A : Around) (h₀ : Heap) (env : Env) (x : Str) (body : List Stmt) (Q : Flow → Shared → Prop) (E : Value → Shared → Prop) (it : Value) (s₂ : Shared) : Prop :=
  ∃ (I D : Addr) (B : Nat) (its : Array Value) (m : Str → Option Value) (n : List (Addr × Obj)) (J : Nat → Array Value → (Str → Option Value) → List (Addr × Obj) → Prop),
    it = .ref I ∧ A.handled = none ∧ s₂.heap.IsListIter I D 0 ∧ h₀.get? I = none ∧ I ≠ env.locals ∧
    (∀ i its m n, J i its m n → its.size ≤ B ∧ i ≤ its.size ∧ (∃ c, (D, listOf its c) ∈ n) ∧ ∀ q ∈ n, q.1 ≠ I) ∧
    Fr h₀ env.locals s₂.heap m ∧ News h₀ env.locals s₂.heap n ∧ J 0 its m n ∧
    (∀ io i its v m₁ n₁ h tk, its[i]? = some v → J i its m₁ n₁ → Fr h₀ env.locals h (fun y => if y = x then some v else m₁ y) → News h₀ env.locals h ((I, io) :: n₁) →
      wpAny (model prog w) A (execs body env) (TurnEndG h₀ env.locals (J (i + 1)) (I, io) { s₂ with heap := h, toks := tk } Q) E { s₂ with heap := h, toks := tk }) ∧
    ∀ its m₁ n₁ h tk, J its.size its m₁ n₁ → Fr h₀ env.locals h m₁ → News h₀ env.locals h n₁ → Q .next { s₂ with heap := h, toks := tk }

theorem For_grow {m : Str → Option Value} {px pos : Pos} {iter : Expr} (_F : Fr h₀ env.locals s.heap m) (hx : env.kindOf x = some .local)
    (hp : (env.scope.kind == .class || (env.scope.kind == .module && env.locals != env.globals)) = false)
    (h : wpAny (model prog w) A (eval iter env) (fun xv s₁ => wpAny (model prog w) A (pyIter xv) (fun it s₂ => GrowAt prog w A h₀ env x body Q E it s₂) E s₁) E s)
    (hs : ∀ x, foldedSetIterable iter env x = pure x := by intro _; rfl)
    (hE : PassesOwn (model prog w) A env E := by passes_own) :
    wpAny (model prog w) A (exec (.For (.Name x px) iter body [] pos) env) Q E s := by
  refine wpAny_For (wpAny_mono h (fun xv s₁ h₁ => wpAny_mono h₁ (fun it s₂ h₂ => ?_) fun _ _ e => e) fun _ _ e => e) hs
  obtain ⟨I, D, B, its, m, n, J, rfl, hh, hit, hI0, hIL, hJ, F, N, h0, step, done⟩ := h₂
  refine codeAny_forLoop
    (fun k s' => ∃ h' tk m' n' i its, s' = { s₂ with heap := h', toks := tk } ∧ h'.IsListIter I D i ∧ Fr h₀ env.locals h' m' ∧ News h₀ env.locals h' n' ∧ J i its m' n' ∧ k = B + 1 - i) ?_ (B + 1)
    ⟨s₂.heap, s₂.toks, m, n, 0, its, rfl, hit, F, N, h0, rfl⟩
  rintro k s' ⟨h', tk, m', n', i, its, rfl, hit', F', N', hj, rfl⟩
  obtain ⟨hB, hi, ⟨c, hD⟩, hI⟩ := hJ _ _ _ _ hj
  have hl : h'.IsList D its := ⟨_, (N' _ hD).1, rfl, c, rfl⟩
  have old : ∀ b o, h₀.get? b = some o → b ≠ I := fun b o e q => by rw [q, hI0] at e; cases e
  have next : ∀ h₁ : Heap, (∀ b o, b ≠ I → h'.get? b = some o → h₁.get? b = some o) → Fr h₀ env.locals h₁ m' ∧ News h₀ env.locals h₁ n' := fun h₁ hk₁ =>
    ⟨⟨F'.ns.at' fun o e => hk₁ _ o (Ne.symm hIL) e, fun b o e => hk₁ b o (old b o e) (F'.keep b o e), F'.above⟩, fun p hp => ⟨hk₁ _ _ (hI p hp) (N' p hp).1, (N' p hp).2⟩⟩
  cases hv : its[i]? with
  | none =>
    have hsz : i = its.size := Nat.le_antisymm hi (by simpa using hv)
    refine wpAny_pyNext_list_end hh hit' hl hv fun h₁ he₁ => wpAny_execs_nil ?_
    obtain ⟨F₁, N₁⟩ := next h₁ fun b o hb e => he₁ b o hb e
    exact done its m' n' h₁ tk (hsz ▸ hj) F₁ N₁
  | some v =>
    refine wpAny_pyNext_list_item hit' hl hv fun h₁ hit₁ hs₁ => ?_
    obtain ⟨F₁, N₁⟩ := next h₁ fun b o hb e => hs₁.extBut b o hb e
    refine wpAny_assign_Name (wpAny_storeName_local hx F₁.ns (fun h₂ hn₂ hs₂ => ?_) hp)
    have F₂ := F₁.set hn₂ hs₂
    have N₂ := N₁.set hs₂
    obtain ⟨io, hio, hic, hid⟩ := hit₁
    have hio₂ : h₂.get? I = some io := hs₂.extBut _ _ hIL hio
    have N₃ : News h₀ env.locals h₂ ((I, io) :: n') := fun p hp => by
      rcases List.mem_cons.mp hp with rfl | hp
      · exact ⟨hio₂, hIL, hI0⟩
      · exact N₂ p hp
    have hlt : i < its.size := (Array.getElem?_eq_some_iff.mp hv).1
    refine wpAny_mono (wpAny_passesOwn hE (step io i its v m' n' h₂ _ hv hj F₂ N₃)) (fun f s₃ h₃ => ?_) fun _ _ e => e
    cases f with
    | ret v => exact h₃
    | brk => exact h₃
    | cont =>
      obtain ⟨h₄, tk₄, its₄, m₄, n₄, rfl, F₄, N₄, hj₄⟩ := h₃
      have := (hJ _ _ _ _ hj₄)
      exact ⟨B + 1 - (i + 1), by omega, h₄, tk₄, m₄, n₄, i + 1, its₄, rfl, ⟨io, (N₄ _ (.head _)).1, hic, hid⟩, F₄, fun p hp => N₄ p (.tail _ hp), hj₄, rfl⟩
    | next =>
      obtain ⟨h₄, tk₄, its₄, m₄, n₄, rfl, F₄, N₄, hj₄⟩ := h₃
      have := (hJ _ _ _ _ hj₄)
      exact ⟨B + 1 - (i + 1), by omega, h₄, tk₄, m₄, n₄, i + 1, its₄, rfl, ⟨io, (N₄ _ (.head _)).1, hic, hid⟩, F₄, fun p hp => N₄ p (.tail _ hp), hj₄, rfl⟩

def TurnEndG1 (h₀ : Heap) (L : Addr) (x a0 : Str) (m₀ : Str → Option Value) (J : Array Value → List (Addr × Obj) → Prop) (own : Addr × Obj) (s₁ : Shared) (Q : Flow → Shared → Prop) (f : Flow) (s₂ : Shared) : Prop :=
  match f with
  | .ret v => Q (.ret v) s₂
  | .brk => Q .next s₂
  | _ => ∃ h' tk its m' n', s₂ = { s₁ with heap := h', toks := tk } ∧ Fr h₀ L h' m' ∧ News h₀ L h' (own :: n') ∧ (∀ y, y ≠ x → y ≠ a0 → m' y = m₀ y) ∧ J its n'
theorem TurnEndG1.next {L : Addr} {a0 : Str} {m₀ : Str → Option Value} {J : Array Value → List (Addr × Obj) → Prop} {own : Addr × Obj} {s₁ : Shared} {h' : Heap} {tk : Nat} {m' : Str → Option Value} {n' : List (Addr × Obj)} {its : Array Value}
    (F : Fr h₀ L h' m') (N : News h₀ L h' (own :: n')) (hm : ∀ y, y ≠ x → y ≠ a0 → m' y = m₀ y) (hj : J its n') : TurnEndG1 h₀ L x a0 m₀ J own s₁ Q .next { s₁ with heap := h', toks := tk } := ⟨h', tk, its, m', n', rfl, F, N, hm, hj⟩

theorem iter_G1 {D : Addr} {its₀ : Array Value} {m₀ : Str → Option Value} {news : List (Addr × Obj)} {c : Nat} (a0 : Str) (B : Nat) (J : Addr → Nat → Array Value → List (Addr × Obj) → Prop)
    (hh : A.handled = none) (F : Fr h₀ env.locals s.heap m₀) (N : News h₀ env.locals s.heap news) (hD : (D, listOf its₀ c) ∈ news) (h0 : ∀ I, (∀ q ∈ news, q.1 < I) → J I 0 its₀ news)
    (hJ : ∀ I i its n, J I i its n → its.size ≤ B ∧ i ≤ its.size ∧ (∃ c, (D, listOf its c) ∈ n) ∧ ∀ q ∈ n, q.1 ≠ I)
    (turn : ∀ I io i its v z u0 n h tk, its[i]? = some v → J I i its n → Fr h₀ env.locals h (fun y => if y = x then some v else if y = a0 then u0 else if y = x then z else m₀ y) → News h₀ env.locals h ((I, io) :: n) →
      wpAny (model prog w) A (execs body env) (TurnEndG1 h₀ env.locals x a0 m₀ (J I (i + 1)) (I, io) { s with heap := h, toks := tk } Q) E { s with heap := h, toks := tk })
    (done : ∀ I its z u0 n h tk, J I its.size its n → Fr h₀ env.locals h (fun y => if y = a0 then u0 else if y = x then z else m₀ y) → News h₀ env.locals h n → Q .next { s with heap := h, toks := tk }) :
    wpAny (model prog w) A (pyIter (.ref D)) (fun it s₂ => GrowAt prog w A h₀ env x body Q E it s₂) E s := by
  have zD := N _ hD
  have hls : s.heap.IsList D its₀ := ⟨_, zD.1, rfl, c, rfl⟩
  have norm : ∀ m₁ : Str → Option Value, (∀ y, y ≠ x → y ≠ a0 → m₁ y = m₀ y) → m₁ = fun y => if y = a0 then m₁ a0 else if y = x then m₁ x else m₀ y :=
    fun m₁ h => norm2 a0 x fun y g0 gx => h y gx g0
  have hlow : ∀ q ∈ news, q.1 < s.heap.objs.size := fun q hq => Heap.lt_size (N q hq).1
  refine wpAny_pyIter_list hls ?_
  refine ⟨s.heap.objs.size, D, B, its₀, m₀, news, fun i its m₁ n => (∀ y, y ≠ x → y ≠ a0 → m₁ y = m₀ y) ∧ J s.heap.objs.size i its n, rfl, hh, ⟨_, Heap.get?_push_size _ rfl, rfl, rfl⟩, next_is_new F, Ne.symm (Nat.ne_of_lt F.ns.lt), ?_, F.push _, (fun p hp => ⟨Heap.get?_push_of_some _ (N p hp).1, (N p hp).2⟩), ⟨fun _ _ _ => rfl, h0 _ hlow⟩, ?_, ?_⟩
  · rintro i its m n ⟨_, hj⟩
    exact hJ _ i its n hj
  · rintro io i its v m₁ n h tk hv ⟨hm, hj⟩ F₁ N₁
    rw [norm m₁ hm] at F₁
    refine wpAny_mono (turn _ io i its v (m₁ x) (m₁ a0) n h tk hv hj F₁ N₁) (fun f s₂ p => ?_) fun _ _ e => e
    have fin : (∃ h' tk' its' m' n', s₂ = { s with heap := h', toks := tk' } ∧ Fr h₀ env.locals h' m' ∧ News h₀ env.locals h' ((s.heap.objs.size, io) :: n') ∧ (∀ y, y ≠ x → y ≠ a0 → m' y = m₀ y) ∧ J s.heap.objs.size (i + 1) its' n') →
        ∃ h' tk its' m' news', s₂ = { s with heap := h', toks := tk } ∧ Fr h₀ env.locals h' m' ∧ News h₀ env.locals h' ((s.heap.objs.size, io) :: news') ∧ ((∀ y, y ≠ x → y ≠ a0 → m' y = m₀ y) ∧ J s.heap.objs.size (i + 1) its' news') := by
      rintro ⟨h', tk', its', m', n', e, F', N', hm', hj'⟩
      exact ⟨h', tk', its', m', _, e, F', N', hm', hj'⟩
    cases f with
    | ret v => exact p
    | brk => exact p
    | next => exact fin p
    | cont => exact fin p
  · rintro its m₁ n h tk ⟨hm, hj⟩ F₁ N₁
    rw [norm m₁ hm] at F₁
    exact done _ its (m₁ x) (m₁ a0) n h tk hj F₁ N₁
end
end Mine
end
section
open PySem PySem.W PyProof.Rows PySem.Calls PySem.Spec PyProof.Rows.LCg
namespace Mine

/-- a heap's part below C, but for S -/
def cutAt (h : Heap) (C : Nat) (S : List Addr) : Heap := hideAll ⟨h.objs.extract 0 C, h.life⟩ S
theorem cut_size {h : Heap} {C : Nat} {S : List Addr} : (cutAt h C S).objs.size ≤ C := by
  unfold cutAt; rw [hideAll_size]; simp only [Array.size_extract]; omega
theorem get?_extract {h : Heap} {C b : Nat} (hb : b < C) : (⟨h.objs.extract 0 C, h.life⟩ : Heap).get? b = h.get? b := by
  have e : (h.objs.extract 0 C)[b]? = h.objs[b]? := by
    rw [Array.getElem?_extract]
    split
    · simp
    · have : h.objs.size ≤ b := by omega
      simp [this]
  simp only [Heap.get?, e]
theorem get?_extract_some {h : Heap} {C b : Nat} {o : Obj} (e : (⟨h.objs.extract 0 C, h.life⟩ : Heap).get? b = some o) : b < C ∧ h.get? b = some o := by
  have hb : b < (h.objs.extract 0 C).size := Heap.lt_size (h := ⟨h.objs.extract 0 C, h.life⟩) e
  have hC : b < C := by simp only [Array.size_extract] at hb; omega
  exact ⟨hC, by rw [← get?_extract hC]; exact e⟩
theorem of_cut {h : Heap} {C b : Nat} {S : List Addr} {o : Obj} (e : (cutAt h C S).get? b = some o) : b < C ∧ h.get? b = some o := get?_extract_some (of_hideAll _ e)
theorem cut_get {h : Heap} {C b : Nat} {S : List Addr} {o : Obj} (e : h.get? b = some o) (hb : b < C) (hS : b ∉ S) : (cutAt h C S).get? b = some o :=
  hideAll_get _ (by rw [get?_extract hb]; exact e) hS
theorem cut_none {h : Heap} {C b : Nat} {S : List Addr} (hb : b ∈ S ∨ C ≤ b) : (cutAt h C S).get? b = none := by
  rcases hb with hb | hb
  · exact hideAll_none _ hb
  · cases e : (cutAt h C S).get? b with
    | none => rfl
    | some o => exact absurd (of_cut e).1 (Nat.not_lt.mpr hb)

inductive EltEnd (g : Heap) (C : Addr) (S : List Addr) (J : List (Addr × Obj) → List (Addr × Obj) → Prop) (s s' : Shared) : Prop
  | mk (h' : Heap) (tk' : Nat) (m' : Str → Option Value) (mu R : List (Addr × Obj)) (e1 : s' = { s with heap := h', toks := tk' }) (e2 : Fr g C h' m') (e3 : News g C h' (R ++ mu)) (e4 : mu.map (·.1) = S) (e5 : J mu R) : EltEnd g C S J s s'

/-- what holds between the turns of a comprehension -/
inductive CompInv (s₂ : Shared) (H : Heap) (S fp : List Addr) (I : Addr) (D n : Nat) (St : Nat → Heap → Prop) (J : Nat → List Value → List (Addr × Obj) → List (Addr × Obj) → Prop) (k : Nat) (s' : Shared) : Prop
  | mk (h' : Heap) (tk i : Nat) (ys : List Value) (m' : Str → Option Value) (mu R : List (Addr × Obj)) (e1 : s' = { s₂ with heap := h', toks := tk }) (e2 : i ≤ n) (e3 : k = n + 1 - i) (e4 : St i h') (e5 : ∀ b o, H.get? b = some o → b ∉ S → h'.get? b = some o) (e6 : ∀ b ∈ fp, b ≠ I → ∀ o, s₂.heap.get? b = some o → h'.get? b = some o)
      (e7 : h'.Ns (D + 1) m') (e8 : h'.get? D = some (lst ys)) (e9 : ∀ p ∈ R ++ mu, h'.get? p.1 = some p.2) (e10 : mu.map (·.1) = S) (e11 : ∀ p ∈ R, p.1 ≠ I ∧ p.1 ≠ D ∧ p.1 ≠ D + 1 ∧ p.1 ∉ fp ∧ (p.1 ∉ S → H.get? p.1 = none)) (e12 : J i ys mu R) : CompInv s₂ H S fp I D n St J k s'
inductive CompFin (s₂ : Shared) (H : Heap) (S fp : List Addr) (I : Addr) (D : Nat) (St : Heap → Prop) (J : List (Addr × Obj) → List (Addr × Obj) → Prop) (ys : List Value) (s₄ : Shared) : Prop
  | mk (h₄ : Heap) (tk₄ : Nat) (m₄ : Str → Option Value) (mu₄ R₄ : List (Addr × Obj)) (e1 : s₄ = { s₂ with heap := h₄, toks := tk₄ }) (e4 : St h₄) (e5 : ∀ b o, H.get? b = some o → b ∉ S → h₄.get? b = some o) (e6 : ∀ b ∈ fp, b ≠ I → ∀ o, s₂.heap.get? b = some o → h₄.get? b = some o)
      (e7 : h₄.Ns (D + 1) m₄) (e8 : h₄.get? D = some (lst ys)) (e9 : ∀ p ∈ R₄ ++ mu₄, h₄.get? p.1 = some p.2) (e10 : mu₄.map (·.1) = S) (e11 : ∀ p ∈ R₄, p.1 ≠ I ∧ p.1 ≠ D ∧ p.1 ≠ D + 1 ∧ p.1 ∉ fp ∧ (p.1 ∉ S → H.get? p.1 = none)) (e12 : J mu₄ R₄) : CompFin s₂ H S fp I D St J ys s₄

section
variable {prog : Program} {w : World} {A : Around} {env : Env}

theorem comp_block {elt iter : Expr} {x : Str} {px : Pos} {ifs : List Expr} {scope : Scope} {cl : List (Str × Addr)} {pos : Pos} {s₂ : Shared} {I : Addr} {fp : List Addr} {n : Nat} {P : Nat → Value → Prop} {St : Nat → Heap → Prop}
    {E : Value → Shared → Prop} {RR : Value → Addr → Result → Shared → Prop} (H : Heap) (S : List Addr) (J : Nat → List Value → List (Addr × Obj) → List (Addr × Obj) → Prop) {mu₀ : List (Addr × Obj)}
    (W : Walks prog w A I fp [I] n P St) (hsz : n ≤ sizeLine) (hlen : ∀ i ys mu R, J i ys mu R → ys.length ≤ i)
    (hcell : ∀ y ∈ scope.names, y.2 ≠ .cell) (hkind : scope.kind = .function) (hx : scope.names.lookup x = some .local) (hst : St 0 s₂.heap) (hfp : ∀ b ∈ fp, b < s₂.heap.objs.size) (hfpS : ∀ b ∈ fp, b ∉ S)
    (hH : ∀ b o, H.get? b = some o → s₂.heap.get? b = some o ∧ b ≠ I) (hIo : ∀ i h, St i h → ∃ o, h.get? I = some o) (hfpo : ∀ b ∈ fp, ∃ o, s₂.heap.get? b = some o)
    (hmu : ∀ p ∈ mu₀, s₂.heap.get? p.1 = some p.2) (hmuS : mu₀.map (·.1) = S) (hj0 : J 0 [] mu₀ [])
    (step : ∀ (g : Heap) (C : Addr) (i : Nat) (v : Value) (ys : List Value) (mu R : List (Addr × Obj)) (h : Heap) (tk : Nat) (mr : Str → Option Value), (∀ b o, H.get? b = some o → b ∉ S → g.get? b = some o) → i < n → P i v → J i ys mu R → Fr g C h (fun y => if y = x then some v else mr y) → News g C h (R ++ mu) →
      wpAny (model prog w) A (forIn ifs true fun c r => if r = true then do let ok ← isTrue c (compEnvC scope cl C env) (eval c (compEnvC scope cl C env)); pure (ForInStep.yield ok) else pure (ForInStep.yield r))
        (fun ok s₃ => if ok = true then wpAny (model prog w) A (eval elt (compEnvC scope cl C env)) (fun y s₄ => EltEnd g C S (J (i + 1) (ys ++ [y])) { s₂ with heap := h, toks := tk } s₄) (fun _ _ => False) s₃
          else EltEnd g C S (J (i + 1) ys) { s₂ with heap := h, toks := tk } s₃) (fun _ _ => False) { s₂ with heap := h, toks := tk })
    (hRR : ∀ D C h tk m' ys mu R, J n ys mu R → (∀ b o, H.get? b = some o → b ∉ S → h.get? b = some o) → h.get? D = some (lst ys) → (∀ p ∈ R ++ mu, h.get? p.1 = some p.2) → mu.map (·.1) = S → H.get? D = none → H.get? C = none → D ≠ C → D ∉ S → C ∉ S →
      (∀ p ∈ R, p.1 ≠ D ∧ p.1 ≠ C ∧ (p.1 ∉ S → H.get? p.1 = none)) → h.Ns C m' → RR (.ref D) C (.ok .next) { s₂ with heap := h, toks := tk }) :
    wpAny (model prog w) A (newList []) (fun acc s₃ => wpAny (model prog w) A (newFunctionEnv scope env.globals cl [] env.qual none .none (some env)) (fun cenv s₄ =>
      codeAny (model prog w) A (.compStart (.ListComp elt [⟨.Name x px, iter, ifs, 0⟩] scope pos) 0 (.ref I) acc { cenv with scope := relabel scope env }) (RR acc cenv.locals) s₄) E s₃) E s₂ := by
  refine wpAny_newObj_type (wpAny_newFunctionEnv hcell (by intro y hy; simp at hy) (fun h₁ hns₁ hsb₁ => ?_) hkind)
  dsimp only at hns₁ hsb₁ ⊢
  generalize hH2 : s₂.heap.push { cls := .type "list", dict := none, data := .seq ([] : List Value).toArray } = H2 at hns₁ hsb₁ ⊢
  have hC : H2.objs.size = s₂.heap.objs.size + 1 := by rw [← hH2, Heap.size_push]
  generalize hDd : s₂.heap.objs.size = D at *
  generalize hCd : H2.objs.size = C at *
  subst hC
  have below : ∀ b o, s₂.heap.get? b = some o → b < D := fun b o e => hDd ▸ Heap.lt_size e
  have old : ∀ b o, s₂.heap.get? b = some o → h₁.get? b = some o := fun b o e => hsb₁.extBut b o (Nat.ne_of_lt (Nat.lt_succ_of_lt (below b o e))) (Heap.get?_push_of_some _ (hH2 ▸ Heap.get?_push_of_some _ e))
  have hacc : h₁.get? D = some (lst []) := hsb₁.extBut _ _ (Nat.ne_of_lt (Nat.lt_succ_self _)) (Heap.get?_push_of_some _ (hH2 ▸ hDd ▸ Heap.get?_push_size _ rfl))
  have hst₁ : St 0 h₁ := W.frame _ _ _ hst fun b _ o e => old b o e
  have hIf : I ∈ fp := W.sub I (List.mem_singleton.mpr rfl)
  have hIlt : I < D := hfp I hIf
  have hSlt : ∀ b ∈ S, b < D := fun b hb => by
    rw [← hmuS] at hb
    obtain ⟨p, hp, rfl⟩ := List.mem_map.mp hb
    exact below _ _ (hmu p hp)
  have hIS : I ∉ S := hfpS I hIf
  have hDf : D ∉ fp := fun hm => Nat.lt_irrefl _ (hfp _ hm)
  have hCf : D + 1 ∉ fp := fun hm => Nat.lt_irrefl _ (Nat.lt_of_succ_lt (hfp _ hm))
  have hHD : ∀ b, D ≤ b → H.get? b = none := fun b hb => by
    cases e : H.get? b with
    | none => rfl
    | some o => exact absurd (below b o (hH b o e).1) (Nat.not_lt.mpr hb)
  have loop : ∀ s₃ : Shared, s₃ = { s₂ with heap := h₁, toks := s₂.toks + ([] : List (Str × Value)).length } →
      codeAny (model prog w) A (.compLoop (.ListComp elt [⟨.Name x px, iter, ifs, 0⟩] scope pos) 0 (.ref I) (.ref D) (compEnvC scope cl (D + 1) env)) (RR (.ref D) (D + 1)) s₃ := by
    rintro s₃ rfl
    refine codeAny_compLoop_tests
      (CompInv s₂ H S fp I D n St J) ?_ (n + 1)
      ⟨h₁, _, 0, [], _, mu₀, [], rfl, Nat.zero_le _, rfl, hst₁, (fun b o e _ => old _ _ (hH b o e).1), (fun b _ _ o e => old _ _ e), hns₁, hacc, (fun p hp => old _ _ (hmu p (by simpa using hp))), hmuS, (by intro p hp; simp at hp), hj0⟩
    rintro k s' ⟨h', tk, i, ys, m', mu, R, rfl, hi, rfl, hst', hk', hkf, hn', hacc', hmem, hmu', hR, hj⟩
    by_cases hlt : i < n
    · refine W.item i _ _ _ hlt hst' fun v h₂ tk₂ hPv hst₂ hk₂ => ?_
      have hk₂' : ∀ b o, b ≠ I → h'.get? b = some o → h₂.get? b = some o := fun b o hb e => hk₂ b o (by simpa using hb) e
      have hCI : D + 1 ≠ I := Ne.symm (Nat.ne_of_lt (Nat.lt_succ_of_lt hIlt))
      have hDI : D ≠ I := Ne.symm (Nat.ne_of_lt hIlt)
      refine wpAny_assign_Name (wpAny_storeName_local (lookup_relabel_local hx) (hn'.at' fun o e => hk₂' _ o hCI e) (fun h₃ hn₃ hs₃ => ?_) (by simp [compEnvC, relabel, hkind]))
      have hst₃ : St (i + 1) h₃ := W.frame _ _ _ hst₂ fun b hb o e => hs₃.extBut b o (fun q => hCf (by have q' : b = D + 1 := q; rw [← q']; exact hb)) e
      have keep₃ : ∀ b o, b ≠ I → b ≠ D + 1 → h'.get? b = some o → h₃.get? b = some o := fun b o h1 h2 e => hs₃.extBut b o h2 (hk₂' b o h1 e)
      have hmem₃ : ∀ p ∈ R ++ mu, h₃.get? p.1 = some p.2 := fun p hp => by
        refine keep₃ _ _ ?_ ?_ (hmem p hp)
        · rcases List.mem_append.mp hp with q | q
          · exact (hR p q).1
          · intro e; exact hIS (e ▸ hmu' ▸ List.mem_map_of_mem q)
        · rcases List.mem_append.mp hp with q | q
          · exact (hR p q).2.2.1
          · exact Nat.ne_of_lt (Nat.lt_succ_of_lt (hSlt _ (hmu' ▸ List.mem_map_of_mem q)))
      obtain ⟨oI₃, hoI₃⟩ := hIo _ _ hst₃
      generalize hg : cutAt h₃ (D + 1) (S ++ R.map (·.1)) = g
      have hgs : ∀ b o, h₃.get? b = some o → b ≤ D → b ∉ S → b ∉ R.map (·.1) → g.get? b = some o := fun b o e h1 h2 h3 => hg ▸ cut_get e (Nat.lt_succ_of_le h1) fun q => (List.mem_append.mp q).elim h2 h3
      have Fg : Fr g (D + 1) h₃ (fun y => if y = x then some v else m' y) := ⟨hn₃, fun b o e => (of_cut (hg ▸ e)).2, hg ▸ cut_size⟩
      have Ng : News g (D + 1) h₃ (R ++ mu) := fun p hp => by
        refine ⟨hmem₃ p hp, ?_, hg ▸ cut_none ?_⟩
        · rcases List.mem_append.mp hp with q | q
          · exact (hR p q).2.2.1
          · exact Nat.ne_of_lt (Nat.lt_succ_of_lt (hSlt _ (hmu' ▸ List.mem_map_of_mem q)))
        · rcases List.mem_append.mp hp with q | q
          · exact .inl (List.mem_append.mpr (.inr (List.mem_map_of_mem q)))
          · exact .inl (List.mem_append.mpr (.inl (hmu' ▸ List.mem_map_of_mem q)))
      have hgH : ∀ b o, H.get? b = some o → b ∉ S → g.get? b = some o := fun b o e hb => by
        have hb' := hH b o e
        have hlt' := below _ _ hb'.1
        refine hgs b o (keep₃ b o hb'.2 (Nat.ne_of_lt (Nat.lt_succ_of_lt hlt')) (hk' b o e hb)) (Nat.le_of_lt hlt') hb fun q => ?_
        obtain ⟨p, hp, rfl⟩ := List.mem_map.mp q
        rw [(hR p hp).2.2.2.2 hb] at e
        cases e
      have hgI : g.get? I = some oI₃ := hgs I oI₃ hoI₃ (Nat.le_of_lt hIlt) hIS fun q => by
        obtain ⟨p, hp, e⟩ := List.mem_map.mp q
        exact (hR p hp).1 e
      have hD₃ : h₃.get? D = some (lst ys) := keep₃ _ _ hDI (Nat.ne_of_lt (Nat.lt_succ_self _)) hacc'
      have hDS : D ∉ S := fun q => Nat.lt_irrefl _ (hSlt _ q)
      have hCS : D + 1 ∉ S := fun q => Nat.lt_irrefl _ (Nat.lt_of_succ_lt (hSlt _ q))
      have hgD : g.get? D = some (lst ys) := hgs D _ hD₃ (Nat.le_refl _) hDS fun q => by
        obtain ⟨p, hp, e⟩ := List.mem_map.mp q
        exact (hR p hp).2.1 e
      have hgf : ∀ b ∈ fp, ∀ o, h₃.get? b = some o → g.get? b = some o := fun b hb o e => hgs b o e (Nat.le_of_lt (hfp b hb)) (hfpS b hb) fun q => by
        obtain ⟨p, hp, e⟩ := List.mem_map.mp q
        exact (hR p hp).2.2.2.1 (e ▸ hb)
      have hfp₃ : ∀ b ∈ fp, b ≠ I → ∀ o, s₂.heap.get? b = some o → h₃.get? b = some o := fun b hb hbI o e => keep₃ b o hbI (Nat.ne_of_lt (Nat.lt_succ_of_lt (hfp b hb))) (hkf b hb hbI o e)
      have fin : ∀ ys' s₄, EltEnd g (D + 1) S (J (i + 1) ys') { s₂ with heap := h₃, toks := tk₂ + 1 } s₄ → CompFin s₂ H S fp I D (St (i + 1)) (J (i + 1) ys') ys s₄ := by
        rintro ys' s₄ ⟨h₄, tk₄, m₄, mu₄, R₄, rfl, F₄, N₄, hmu₄, hj₄⟩
        have hng : ∀ p ∈ R₄, g.get? p.1 = none := fun p hp => (N₄ p (List.mem_append_left _ hp)).2.2
        refine ⟨h₄, tk₄, m₄, mu₄, R₄, rfl, W.frame _ _ _ hst₃ fun b hb o e => F₄.keep _ _ (hgf b hb o e), fun b o e hb => F₄.keep _ _ (hgH b o e hb), fun b hb hbI o e => F₄.keep _ _ (hgf b hb o (hfp₃ b hb hbI o e)), F₄.ns, F₄.keep _ _ hgD, fun p hp => (N₄ p hp).1, hmu₄, fun p hp => ⟨?_, ?_, (N₄ p (List.mem_append_left _ hp)).2.1, ?_, ?_⟩, hj₄⟩
        · intro e; have := hng p hp; rw [e, hgI] at this; cases this
        · intro e; have := hng p hp; rw [e, hgD] at this; cases this
        · intro hf
          by_cases hpI : p.1 = I
          · have := hng p hp; rw [hpI, hgI] at this; cases this
          · obtain ⟨o, ho⟩ := hfpo _ hf
            have := hng p hp; rw [hgf _ hf o (hfp₃ _ hf hpI o ho)] at this; cases this
        · intro hpS
          cases e : H.get? p.1 with
          | none => rfl
          | some o => have := hng p hp; rw [hgH _ _ e hpS] at this; cases this
      refine wpAny_mono (step g (D + 1) i v ys mu R h₃ _ m' hgH hlt hPv hj Fg Ng) (fun ok s₃ h₃' => ?_) fun _ _ e => e.elim
      cases ok with
      | false =>
        simp only [Bool.false_eq_true, if_false] at h₃' ⊢
        obtain ⟨h₄, tk₄, m₄, mu₄, R₄, rfl, a1, a2, a3, a4, a5, a6, a7, a8, a9⟩ := fin _ _ h₃'
        exact ⟨n + 1 - (i + 1), by omega, h₄, tk₄, i + 1, ys, m₄, mu₄, R₄, rfl, hlt, rfl, a1, a2, a3, a4, a5, a6, a7, a8, a9⟩
      | true =>
        simp only [if_true] at h₃' ⊢
        refine wpAny_mono h₃' (fun y s₄ h₄' => ?_) fun _ _ e => e.elim
        obtain ⟨h₄, tk₄, m₄, mu₄, R₄, rfl, a1, a2, a3, a4, a5, a6, a7, a8, a9⟩ := fin _ _ h₄'
        refine append_at (hsz := by show ys.toArray.size ≤ sizeLine; rw [List.size_toArray]; exact Nat.le_trans (hlen _ _ _ _ hj) (Nat.le_trans hi hsz)) a5 fun h₅ hs₅ hD₅ => ?_
        refine ⟨n + 1 - (i + 1), by omega, h₅, tk₄, i + 1, ys ++ [y], m₄, mu₄, R₄, rfl, hlt, rfl, W.frame _ _ _ a1 fun b hb o e => hs₅.extBut b o (fun q => hDf (q ▸ hb)) e, fun b o e hb => hs₅.extBut b o (fun q => ?_) (a2 b o e hb),
          fun b hb hbI o e => hs₅.extBut b o (fun q => hDf (q ▸ hb)) (a3 b hb hbI o e), a4.sameBut hs₅ (Nat.succ_ne_self _), hD₅.trans (congrArg some (lst_snoc ys y)), fun p hp => hs₅.extBut _ _ (fun q => ?_) (a6 p hp), a7, a8, a9⟩
        · rw [q, hHD D (Nat.le_refl _)] at e; cases e
        · rcases List.mem_append.mp hp with z | z
          · exact (a8 p z).2.1 q
          · exact hDS (q ▸ a7 ▸ List.mem_map_of_mem z)
    · obtain rfl : i = n := Nat.le_antisymm hi (Nat.not_lt.mp hlt)
      refine W.done _ _ _ hst' fun h₂ tk₂ hk₂ => ?_
      have hk₂' : ∀ b o, b ≠ I → h'.get? b = some o → h₂.get? b = some o := fun b o hb e => hk₂ b o (by simpa using hb) e
      have hCI : D + 1 ≠ I := Ne.symm (Nat.ne_of_lt (Nat.lt_succ_of_lt hIlt))
      have hDI : D ≠ I := Ne.symm (Nat.ne_of_lt hIlt)
      have hDS : D ∉ S := fun q => Nat.lt_irrefl _ (hSlt _ q)
      have hCS : D + 1 ∉ S := fun q => Nat.lt_irrefl _ (Nat.lt_of_succ_lt (hSlt _ q))
      refine hRR D (D + 1) h₂ tk₂ m' ys mu R hj (fun b o e hb => hk₂' b o (hH b o e).2 (hk' b o e hb)) (hk₂' _ _ hDI hacc') (fun p hp => hk₂' _ _ ?_ (hmem p hp)) hmu' (hHD D (Nat.le_refl _)) (hHD _ (Nat.le_succ _)) (Nat.ne_of_lt (Nat.lt_succ_self _)) hDS hCS (fun p hp => ⟨(hR p hp).2.1, (hR p hp).2.2.1, (hR p hp).2.2.2.2⟩) (hn'.at' fun o e => hk₂' _ o hCI e)
      rcases List.mem_append.mp hp with q | q
      · exact (hR p q).1
      · intro e; exact hIS (e ▸ hmu' ▸ List.mem_map_of_mem q)
  exact codeAny_compStart_list (loop _ rfl) (W.self 0 _ _ _ hst₁ (loop _ rfl))
end
end Mine
end
section
open PySem PySem.W PyProof.Rows PySem.Calls PySem.Spec PyProof.Rows.LCg
namespace Mine
section
variable {prog : Program} {w : World} {A : Around} {env : Env} {E : Value → Shared → Prop} {s : Shared}

def CompSt (prog : Program) (w : World) (A : Around) (env : Env) (elt : Expr) (x : Str) (px : Pos) (iter : Expr) (ifs : List Expr) (scope : Scope) (cl : List (Str × Addr)) (pos : Pos) (use : Option (Value → Sem Unit)) (Q : Value → Shared → Prop) (E : Value → Shared → Prop) (xv : Value) (s₁ : Shared) : Prop :=
  wpAny (model prog w) A (pyIter xv) (fun it s₂ => wpAny (model prog w) A (newList []) (fun acc s₃ => wpAny (model prog w) A (newFunctionEnv scope env.globals cl [] env.qual none .none (some env)) (fun cenv s₄ =>
    codeAny (model prog w) A (.compStart (.ListComp elt [⟨.Name x px, iter, ifs, 0⟩] scope pos) 0 it acc { cenv with scope := relabel scope env }) (compPost (model prog w) A E use Q acc cenv.locals) s₄) E s₃) E s₂) E s₁

theorem comp_eval {elt iter : Expr} {x : Str} {px : Pos} {ifs : List Expr} {scope : Scope} {cl : List (Str × Addr)} {pos : Pos} {Q : Value → Shared → Prop}
    (hclos : closureFor scope env = pure cl) (hkind : scope.kind = .function) (hnames : ∀ y ∈ scope.names, y.2 = .local → scope.names.lookup y.1 = some .local) (hs : ∀ x, foldedSetIterable iter env x = pure x)
    (h : wpAny (model prog w) A (eval iter env) (CompSt prog w A env elt x px iter ifs scope cl pos none Q E) E s) :
    wpAny (model prog w) A (eval (.ListComp elt [⟨.Name x px, iter, ifs, 0⟩] scope pos) env) Q E s := by
  rw [eval_ListComp]
  exact wpAny_comprehension_free (use := none) rfl hs hclos hkind hnames h

theorem comp_assign {elt iter : Expr} {x y : Str} {px py : Pos} {ifs : List Expr} {scope : Scope} {cl : List (Str × Addr)} {pos spos : Pos} {Q : Flow → Shared → Prop}
    (hsw : swapsWith (.ListComp elt [⟨.Name x px, iter, ifs, 0⟩] scope pos) (some (.Name y py)) spos.line env = pure true)
    (hclos : closureFor scope env = pure cl) (hkind : scope.kind = .function) (hnames : ∀ y ∈ scope.names, y.2 = .local → scope.names.lookup y.1 = some .local) (hs : ∀ x, foldedSetIterable iter env x = pure x)
    (h : wpAny (model prog w) A (eval iter env) (CompSt prog w A env elt x px iter ifs scope cl pos (some (assign (.Name y py) env)) (fun _ s' => Q .next s') E) E s) :
    wpAny (model prog w) A (exec (.Assign [.Name y py] (.ListComp elt [⟨.Name x px, iter, ifs, 0⟩] scope pos) spos) env) Q E s := by
  rw [exec_Assign_Name_used _ _ _ _ hsw]
  refine wpAny_bind (wpAny_standAt (wpAny_bind ?_))
  show wpAny _ A (do let _ ← comprehension (.ListComp elt [⟨.Name x px, iter, ifs, 0⟩] scope pos) scope env _ (newList []) false (eval iter env) (some (assign (.Name y py) env))) _ _ s
  exact wpAny_bind (wpAny_mono (wpAny_comprehension_free (use := some (assign (.Name y py) env)) (Q := fun _ s' => Q .next s') rfl hs hclos hkind hnames h) (fun _ s' hq => wpAny_pure (wpAny_pure hq)) fun _ _ e => e)

/-- what is known behind a comprehension -/
structure CompDone (h₀ : Heap) (L : Addr) (S : List Addr) (fz : List (Addr × Obj)) (s : Shared) (D : Addr) (ys : List Value) (mu R : List (Addr × Obj)) (h : Heap) : Prop where
  keep : ∀ b o, s.heap.get? b = some o → b ∉ S → b ≠ L → h.get? b = some o
  news : News h₀ L h ((D, lst ys) :: (R ++ (mu ++ fz)))
  fresh : s.heap.get? D = none
  offS : D ∉ S
  muS : mu.map (·.1) = S
  offR : ∀ p ∈ R, p.1 ≠ D ∧ (p.1 ∉ S → s.heap.get? p.1 = none)

section
variable {h₀ : Heap} {L : Addr} {m : Str → Option Value} {news mu₀ fz : List (Addr × Obj)} {S : List Addr} {H : Heap} {D C : Addr} {ys : List Value} {mu R : List (Addr × Obj)} {h h'' : Heap}
theorem compDone_of (F : Fr h₀ L s.heap m) (N : News h₀ L s.heap news) (hmu : ∀ p ∈ mu₀, p ∈ news) (hmuS : mu₀.map (·.1) = S) (hfz : ∀ p ∈ fz, p ∈ news ∧ p.1 ∉ S)
    (hk : ∀ b o, s.heap.get? b = some o → b ∉ S → h.get? b = some o) (hD : h.get? D = some (lst ys)) (hm : ∀ p ∈ R ++ mu, h.get? p.1 = some p.2) (hms : mu.map (·.1) = S) (hHD : s.heap.get? D = none) (hHC : s.heap.get? C = none) (hDC : D ≠ C) (hDS : D ∉ S) (hCS : C ∉ S)
    (hR : ∀ p ∈ R, p.1 ≠ D ∧ p.1 ≠ C ∧ (p.1 ∉ S → s.heap.get? p.1 = none)) (hs : ∀ b o, b ≠ C → b ≠ L → h.get? b = some o → h''.get? b = some o) : CompDone h₀ L S fz s D ys mu R h'' ∧ (∀ b o, h₀.get? b = some o → h''.get? b = some o) ∧ C ≠ L ∧ ∀ o, s.heap.get? L = some o → h.get? L = some o := by
  obtain ⟨oL, es, ep, hL, r⟩ := F.ns
  have hS : ∀ b ∈ S, (∃ o, s.heap.get? b = some o) ∧ b ≠ L ∧ h₀.get? b = none := fun b hb => by
    rw [← hmuS] at hb
    obtain ⟨p, hp, rfl⟩ := List.mem_map.mp hb
    exact ⟨⟨_, (N p (hmu p hp)).1⟩, (N p (hmu p hp)).2⟩
  have h0S : ∀ b o, h₀.get? b = some o → b ∉ S := fun b o e q => by rw [(hS b q).2.2] at e; cases e
  have hnoC : ∀ b o, s.heap.get? b = some o → b ≠ C := fun b o e q => by rw [q, hHC] at e; cases e
  have keep : ∀ b o, s.heap.get? b = some o → b ∉ S → b ≠ L → h''.get? b = some o := fun b o e q n => hs b o (hnoC b o e) n (hk b o e q)
  have none0 : ∀ b, s.heap.get? b = none → b ≠ L ∧ h₀.get? b = none := fun b e => by
    refine ⟨fun q => (by rw [q, hL] at e; cases e), ?_⟩
    cases q : h₀.get? b with
    | none => rfl
    | some o => rw [F.keep b o q] at e; cases e
  have h0L : ∀ b o, h₀.get? b = some o → b ≠ L := fun b o e => Nat.ne_of_lt (Nat.lt_of_lt_of_le (Heap.lt_size e) F.above)
  refine ⟨⟨keep, fun p hp => ?_, hHD, hDS, hms, fun p hp => ⟨(hR p hp).1, (hR p hp).2.2⟩⟩, fun b o e => keep b o (F.keep b o e) (h0S b o e) (h0L b o e), (none0 C hHC).1, fun o e => hk L o e (fun q => (hS L q).2.1 rfl)⟩
  rcases List.mem_cons.mp hp with rfl | hp
  · exact ⟨hs _ _ hDC (none0 D hHD).1 hD, none0 D hHD⟩
  · rcases List.mem_append.mp hp with hp | hp
    · have q : p.1 ≠ L ∧ h₀.get? p.1 = none := by
        by_cases q : p.1 ∈ S
        · exact (hS _ q).2
        · exact none0 _ ((hR p hp).2.2 q)
      exact ⟨hs _ _ (hR p hp).2.1 q.1 (hm p (List.mem_append_left _ hp)), q⟩
    · rcases List.mem_append.mp hp with hp | hp
      · have hpS : p.1 ∈ S := hms ▸ List.mem_map_of_mem hp
        exact ⟨hs _ _ (fun q => hCS (q ▸ hpS)) (hS _ hpS).2.1 (hm p (List.mem_append_right _ hp)), (hS _ hpS).2⟩
      · obtain ⟨h1, h2⟩ := hfz p hp
        exact ⟨keep _ _ (N p h1).1 h2 (N p h1).2.1, (N p h1).2⟩
end

/-- one turn of a comprehension -/
def CompTurn (prog : Program) (w : World) (A : Around) (env : Env) (elt : Expr) (ifs : List Expr) (scope : Scope) (cl : List (Str × Addr)) (x : Str) (H : Heap) (S : List Addr) (n : Nat) (P : Nat → Value → Prop) (J : Nat → List Value → List (Addr × Obj) → List (Addr × Obj) → Prop) (s : Shared) : Prop :=
  ∀ (g : Heap) (C : Addr) (i : Nat) (v : Value) (ys : List Value) (mu R : List (Addr × Obj)) (h : Heap) (tk : Nat) (mr : Str → Option Value), (∀ b o, H.get? b = some o → b ∉ S → g.get? b = some o) → i < n → P i v → J i ys mu R → Fr g C h (fun y => if y = x then some v else mr y) → News g C h (R ++ mu) →
    wpAny (model prog w) A (forIn ifs true fun c r => if r = true then do let ok ← isTrue c (compEnvC scope cl C env) (eval c (compEnvC scope cl C env)); pure (ForInStep.yield ok) else pure (ForInStep.yield r))
      (fun ok s₃ => if ok = true then wpAny (model prog w) A (eval elt (compEnvC scope cl C env)) (fun y s₄ => EltEnd g C S (J (i + 1) (ys ++ [y])) { s with heap := h, toks := tk } s₄) (fun _ _ => False) s₃
        else EltEnd g C S (J (i + 1) ys) { s with heap := h, toks := tk } s₃) (fun _ _ => False) { s with heap := h, toks := tk }

section
variable {h₀ : Heap} {L : Addr} {m : Str → Option Value} {news mu₀ fz : List (Addr × Obj)} {elt iter : Expr} {x : Str} {px : Pos} {ifs : List Expr} {scope : Scope} {cl : List (Str × Addr)} {pos : Pos} {Q : Value → Shared → Prop}

theorem compSt_list {ax : Addr} {its : Array Value} (S : List Addr) (J : Nat → List Value → List (Addr × Obj) → List (Addr × Obj) → Prop)
    (hh : A.handled = none) (F : Fr h₀ L s.heap m) (N : News h₀ L s.heap news) (hl : s.heap.IsList ax its) (hax : ax ∉ S) (hsz : its.size ≤ sizeLine)
    (hmu : ∀ p ∈ mu₀, p ∈ news) (hmuS : mu₀.map (·.1) = S) (hfz : ∀ p ∈ fz, p ∈ news ∧ p.1 ∉ S)
    (hlen : ∀ i ys mu R, J i ys mu R → ys.length ≤ i) (hj0 : J 0 [] mu₀ [])
    (hcell : ∀ y ∈ scope.names, y.2 ≠ .cell) (hkind : scope.kind = .function) (hx : scope.names.lookup x = some .local)
    (step : CompTurn prog w A env elt ifs scope cl x s.heap S its.size (fun i v => its[i]? = some v) J s)
    (done : ∀ D h tk ys mu R, J its.size ys mu R → Fr h₀ L h m → CompDone h₀ L S fz s D ys mu R h → Q (.ref D) { s with heap := h, toks := tk }) :
    CompSt prog w A env elt x px iter ifs scope cl pos none Q E (.ref ax) s := by
  unfold CompSt
  obtain ⟨oa, hoa, _⟩ := id hl
  have hlt : ax < s.heap.objs.size := Heap.lt_size hoa
  have hmu' : ∀ p ∈ mu₀, s.heap.get? p.1 = some p.2 := fun p hp => (N p (hmu p hp)).1
  have hIS : s.heap.objs.size ∉ S := fun q => by
    rw [← hmuS] at q
    obtain ⟨p, hp, e⟩ := List.mem_map.mp q
    exact Nat.ne_of_lt (Heap.lt_size (hmu' p hp)) e
  refine wpAny_pyIter_list hl ?_
  refine comp_block (S := S) (J := J) (H := s.heap) (mu₀ := mu₀) (RR := fun acc C => compPost (model prog w) A E none Q acc C) (Walks.list hh s.heap.objs.size ax (Nat.ne_of_lt hlt) its) hsz hlen hcell hkind hx ⟨⟨_, Heap.get?_push_size _ rfl, rfl, rfl⟩, hl.push _⟩ ?_ ?_ ?_ ?_ ?_ ?_ hmuS hj0 step ?_
  · intro b hb
    show b < (s.heap.push _).objs.size
    rw [Heap.size_push]
    rcases List.mem_cons.mp hb with rfl | hb
    · exact Nat.lt_succ_self _
    · rw [List.mem_singleton.mp hb]; exact Nat.lt_succ_of_lt hlt
  · intro b hb
    rcases List.mem_cons.mp hb with rfl | hb
    · exact hIS
    · rw [List.mem_singleton.mp hb]; exact hax
  · exact fun b o e => ⟨Heap.get?_push_of_some _ e, Nat.ne_of_lt (Heap.lt_size e)⟩
  · exact fun i h st => by obtain ⟨o, e, _⟩ := st.1; exact ⟨o, e⟩
  · intro b hb
    rcases List.mem_cons.mp hb with rfl | hb
    · exact ⟨_, Heap.get?_push_size _ rfl⟩
    · rw [List.mem_singleton.mp hb]; exact ⟨_, Heap.get?_push_of_some _ hoa⟩
  · exact fun p hp => Heap.get?_push_of_some _ (hmu' p hp)
  · intro D C h tk m' ys mu R hj hk hD hm hms hHD hHC hDC hDS hCS hR hn
    refine ⟨m', hn, fun h'' hs => ?_⟩
    obtain ⟨cd, k0, hCL, hL⟩ := compDone_of F N hmu hmuS hfz hk hD hm hms hHD hHC hDC hDS hCS hR fun b o h1 _ e => hs.extBut b o h1 e
    obtain ⟨oL, es, ep, eL, r⟩ := F.ns
    exact done D h'' tk ys mu R hj ⟨⟨oL, es, ep, hs.extBut _ _ (Ne.symm hCL) (hL _ eL), r⟩, k0, F.above⟩ cd

theorem compSt_listA {y : Str} {py : Pos} (hy : env.kindOf y = some .local) (hp : (env.scope.kind == .class || (env.scope.kind == .module && env.locals != env.globals)) = false) (hLe : env.locals = L) {ax : Addr} {its : Array Value} (S : List Addr) (J : Nat → List Value → List (Addr × Obj) → List (Addr × Obj) → Prop)
    (hh : A.handled = none) (F : Fr h₀ L s.heap m) (N : News h₀ L s.heap news) (hl : s.heap.IsList ax its) (hax : ax ∉ S) (hsz : its.size ≤ sizeLine)
    (hmu : ∀ p ∈ mu₀, p ∈ news) (hmuS : mu₀.map (·.1) = S) (hfz : ∀ p ∈ fz, p ∈ news ∧ p.1 ∉ S)
    (hlen : ∀ i ys mu R, J i ys mu R → ys.length ≤ i) (hj0 : J 0 [] mu₀ [])
    (hcell : ∀ y ∈ scope.names, y.2 ≠ .cell) (hkind : scope.kind = .function) (hx : scope.names.lookup x = some .local)
    (step : CompTurn prog w A env elt ifs scope cl x s.heap S its.size (fun i v => its[i]? = some v) J s)
    (done : ∀ D h tk ys mu R, J its.size ys mu R → Fr h₀ L h (fun z => if z = y then some (.ref D) else m z) → CompDone h₀ L S fz s D ys mu R h → ∀ v, Q v { s with heap := h, toks := tk }) :
    CompSt prog w A env elt x px iter ifs scope cl pos (some (assign (.Name y py) env)) Q E (.ref ax) s := by
  unfold CompSt
  obtain ⟨oa, hoa, _⟩ := id hl
  have hlt : ax < s.heap.objs.size := Heap.lt_size hoa
  have hmu' : ∀ p ∈ mu₀, s.heap.get? p.1 = some p.2 := fun p hp => (N p (hmu p hp)).1
  have hIS : s.heap.objs.size ∉ S := fun q => by
    rw [← hmuS] at q
    obtain ⟨p, hp, e⟩ := List.mem_map.mp q
    exact Nat.ne_of_lt (Heap.lt_size (hmu' p hp)) e
  refine wpAny_pyIter_list hl ?_
  refine comp_block (S := S) (J := J) (H := s.heap) (mu₀ := mu₀) (RR := fun acc C => compPost (model prog w) A E (some (assign (.Name y py) env)) Q acc C) (Walks.list hh s.heap.objs.size ax (Nat.ne_of_lt hlt) its) hsz hlen hcell hkind hx ⟨⟨_, Heap.get?_push_size _ rfl, rfl, rfl⟩, hl.push _⟩ ?_ ?_ ?_ ?_ ?_ ?_ hmuS hj0 step ?_
  · intro b hb
    show b < (s.heap.push _).objs.size
    rw [Heap.size_push]
    rcases List.mem_cons.mp hb with rfl | hb
    · exact Nat.lt_succ_self _
    · rw [List.mem_singleton.mp hb]; exact Nat.lt_succ_of_lt hlt
  · intro b hb
    rcases List.mem_cons.mp hb with rfl | hb
    · exact hIS
    · rw [List.mem_singleton.mp hb]; exact hax
  · exact fun b o e => ⟨Heap.get?_push_of_some _ e, Nat.ne_of_lt (Heap.lt_size e)⟩
  · exact fun i h st => by obtain ⟨o, e, _⟩ := st.1; exact ⟨o, e⟩
  · intro b hb
    rcases List.mem_cons.mp hb with rfl | hb
    · exact ⟨_, Heap.get?_push_size _ rfl⟩
    · rw [List.mem_singleton.mp hb]; exact ⟨_, Heap.get?_push_of_some _ hoa⟩
  · exact fun p hp => Heap.get?_push_of_some _ (hmu' p hp)
  · intro D C h tk m' ys mu R hj hk hD hm hms hHD hHC hDC hDS hCS hR hn
    show wpAny _ A (assign (.Name y py) env (.ref D)) _ _ _
    have z := compDone_of (h'' := h) F N hmu hmuS hfz hk hD hm hms hHD hHC hDC hDS hCS hR fun b o _ _ e => e
    obtain ⟨oL, es, ep, eL, r⟩ := F.ns
    have hnL : h.Ns env.locals m := hLe ▸ ⟨oL, es, ep, z.2.2.2 _ eL, r⟩
    refine wpAny_assign_Name (wpAny_storeName_local hy hnL (fun h₂ hn₂ hs₂ => ?_) hp)
    rw [hLe] at hn₂ hs₂
    refine ⟨m', hn.sameBut hs₂ z.2.2.1, fun h'' hs => ?_⟩
    obtain ⟨cd, k0, hCL, hL⟩ := compDone_of F N hmu hmuS hfz hk hD hm hms hHD hHC hDC hDS hCS hR fun b o h1 h2 e => hs.extBut b o h1 (hs₂.extBut b o h2 e)
    exact done D h'' _ ys mu R hj ⟨hn₂.sameBut hs (Ne.symm hCL), k0, F.above⟩ cd _


theorem compSt_rangeA {y : Str} {py : Pos} (hy : env.kindOf y = some .local) (hp : (env.scope.kind == .class || (env.scope.kind == .module && env.locals != env.globals)) = false) (hLe : env.locals = L) {r : Addr} {a b : Int} {t₀ u₀ v₀ : Tok} {n : Nat} (S : List Addr) (J : Nat → List Value → List (Addr × Obj) → List (Addr × Obj) → Prop)
    (hh : A.handled = none) (F : Fr h₀ L s.heap m) (N : News h₀ L s.heap news) (hr : IsRange s.heap r a b 1 t₀ u₀ v₀) (hsm : Builtin.Range.small a b 1 = true) (hn : Builtin.Range.rangeSize a b 1 = ((n : Nat) : Int)) (hsz : n ≤ sizeLine)
    (hmu : ∀ p ∈ mu₀, p ∈ news) (hmuS : mu₀.map (·.1) = S) (hfz : ∀ p ∈ fz, p ∈ news ∧ p.1 ∉ S)
    (hlen : ∀ i ys mu R, J i ys mu R → ys.length ≤ i) (hj0 : J 0 [] mu₀ [])
    (hcell : ∀ y ∈ scope.names, y.2 ≠ .cell) (hkind : scope.kind = .function) (hx : scope.names.lookup x = some .local)
    (step : CompTurn prog w A env elt ifs scope cl x s.heap S n (fun i v => ∃ t, v = .int (a + (i : Int)) t) J s)
    (done : ∀ D h tk ys mu R, J n ys mu R → Fr h₀ L h (fun z => if z = y then some (.ref D) else m z) → CompDone h₀ L S fz s D ys mu R h → ∀ v, Q v { s with heap := h, toks := tk }) :
    CompSt prog w A env elt x px iter ifs scope cl pos (some (assign (.Name y py) env)) Q E (.ref r) s := by
  unfold CompSt
  have hmu' : ∀ p ∈ mu₀, s.heap.get? p.1 = some p.2 := fun p hp => (N p (hmu p hp)).1
  have hIS : s.heap.objs.size ∉ S := fun q => by
    rw [← hmuS] at q
    obtain ⟨p, hp, e⟩ := List.mem_map.mp q
    exact Nat.ne_of_lt (Heap.lt_size (hmu' p hp)) e
  refine wpAny_pyIter_range hr hsm ?_
  refine comp_block (S := S) (J := J) (H := s.heap) (mu₀ := mu₀) (RR := fun acc C => compPost (model prog w) A E (some (assign (.Name y py) env)) Q acc C) (range_walks hh a n) hsz hlen hcell hkind hx (by show IsRangeIter _ _ _ _ _; rw [hn]; simpa using Heap.get?_push_size _ rfl) ?_ ?_ ?_ ?_ ?_ ?_ hmuS hj0 step ?_
  · intro b hb
    rw [List.mem_singleton.mp hb]
    show s.heap.objs.size < (s.heap.push _).objs.size
    rw [Heap.size_push]; exact Nat.lt_succ_self _
  · intro b hb
    rw [List.mem_singleton.mp hb]; exact hIS
  · exact fun b o e => ⟨Heap.get?_push_of_some _ e, Nat.ne_of_lt (Heap.lt_size e)⟩
  · exact fun i h st => ⟨_, st⟩
  · intro b hb
    rw [List.mem_singleton.mp hb]; exact ⟨_, Heap.get?_push_size _ rfl⟩
  · exact fun p hp => Heap.get?_push_of_some _ (hmu' p hp)
  · intro D C h tk m' ys mu R hj hk hD hm hms hHD hHC hDC hDS hCS hR hn
    show wpAny _ A (assign (.Name y py) env (.ref D)) _ _ _
    have z := compDone_of (h'' := h) F N hmu hmuS hfz hk hD hm hms hHD hHC hDC hDS hCS hR fun b o _ _ e => e
    obtain ⟨oL, es, ep, eL, r⟩ := F.ns
    have hnL : h.Ns env.locals m := hLe ▸ ⟨oL, es, ep, z.2.2.2 _ eL, r⟩
    refine wpAny_assign_Name (wpAny_storeName_local hy hnL (fun h₂ hn₂ hs₂ => ?_) hp)
    rw [hLe] at hn₂ hs₂
    refine ⟨m', hn.sameBut hs₂ z.2.2.1, fun h'' hs => ?_⟩
    obtain ⟨cd, k0, hCL, hL⟩ := compDone_of F N hmu hmuS hfz hk hD hm hms hHD hHC hDC hDS hCS hR fun b o h1 h2 e => hs.extBut b o h1 (hs₂.extBut b o h2 e)
    exact done D h'' _ ys mu R hj ⟨hn₂.sameBut hs (Ne.symm hCL), k0, F.above⟩ cd _


theorem turn_plain {P : Nat → Value → Prop} {S : List Addr} {n : Nat} {H : Heap} {J : Nat → List Value → List (Addr × Obj) → List (Addr × Obj) → Prop}
    (h : ∀ (g : Heap) (C : Addr) (i : Nat) (v : Value) (ys : List Value) (mu R : List (Addr × Obj)) (h : Heap) (tk : Nat) (mr : Str → Option Value), (∀ b o, H.get? b = some o → b ∉ S → g.get? b = some o) → i < n → P i v → J i ys mu R → Fr g C h (fun y => if y = x then some v else mr y) → News g C h (R ++ mu) →
      wpAny (model prog w) A (eval elt (compEnvC scope cl C env)) (fun y s₄ => EltEnd g C S (J (i + 1) (ys ++ [y])) { s with heap := h, toks := tk } s₄) (fun _ _ => False) { s with heap := h, toks := tk }) :
    CompTurn prog w A env elt [] scope cl x H S n P J s := fun g C i v ys mu R h9 tk mr a b c d e f => wpAny_tests_nil (by simp only [if_true]; exact h g C i v ys mu R h9 tk mr a b c d e f)
theorem turn_test {P : Nat → Value → Prop} {S : List Addr} {n : Nat} {H : Heap} {J : Nat → List Value → List (Addr × Obj) → List (Addr × Obj) → Prop} {c : Expr}
    (h : ∀ (g : Heap) (C : Addr) (i : Nat) (v : Value) (ys : List Value) (mu R : List (Addr × Obj)) (h : Heap) (tk : Nat) (mr : Str → Option Value), (∀ b o, H.get? b = some o → b ∉ S → g.get? b = some o) → i < n → P i v → J i ys mu R → Fr g C h (fun y => if y = x then some v else mr y) → News g C h (R ++ mu) →
      wpAny (model prog w) A (isTrue c (compEnvC scope cl C env) (eval c (compEnvC scope cl C env))) (fun ok s₃ => if ok = true then wpAny (model prog w) A (eval elt (compEnvC scope cl C env)) (fun y s₄ => EltEnd g C S (J (i + 1) (ys ++ [y])) { s with heap := h, toks := tk } s₄) (fun _ _ => False) s₃
        else EltEnd g C S (J (i + 1) ys) { s with heap := h, toks := tk } s₃) (fun _ _ => False) { s with heap := h, toks := tk }) :
    CompTurn prog w A env elt [c] scope cl x H S n P J s := fun g C i v ys mu R h9 tk mr a b c d e f => wpAny_tests_one (h g C i v ys mu R h9 tk mr a b c d e f)
end
end
end Mine
end
section
open PySem PySem.W PyProof.Rows PySem.Calls PySem.Spec
namespace Mine
section
variable {prog : Program} {w : World} {A : Around} {s : Shared} {K : Frag} {p : Program} {loose : List Str} {mean : ExcName → Option Value} {mg mb : Str → Option Value} {fz : Heap} {news : List (Addr × Obj)} {Q E : Value → Shared → Prop}
theorem enterC {name qual : Str} {params : Arguments} {body : List Stmt} {scope : Scope} {dV kV doc pm cdv ct oc : Value} {an od : Option Addr} {osl : Array (Option Value)} {f : Addr} {args : List Value} {binds : List (Str × Value)}
    (X : K.In fz) (T : Top p loose mean mg mb fz) (hst : fz.StaysIn s.heap) (hN : ∀ q ∈ news, s.heap.get? q.1 = some q.2 ∧ fz.get? q.1 = none)
    (ho : K.lookup f = some ⟨oc, od, .func (fnOf name qual params body scope dV kV doc pm an cdv ct), osl⟩) (hcd : codeIn K cdv qual = true) (hroom : A.depth < recursionLimit)
    (hbind : BindsTo s (fnOf name qual params body scope dV kV doc pm an cdv ct) ⟨args, []⟩ binds) (hkind : (binds.all fun y => scope.names.lookup y.1 == some .local || scope.names.lookup y.1 == some .cell) = true)
    (hnd : ((cellsFrom 0 scope.names []).map (·.1)).Nodup)
    (h : ∀ g L' h₁ tk cells, Fr g L' h₁ (bindL (envOfC qual scope L' f cdv).kindOf binds fun _ => none) → News g L' h₁ (cells ++ news) → CellsAre (bindC (envOfC qual scope L' f cdv).kindOf binds fun _ => none) (cellsFrom (L' + 1) scope.names []) cells →
      K.In g → Top p loose mean mg mb g → fz.StaysIn g → But (news.map (·.1)) s.heap g → (∀ q ∈ news, q.1 < L') →
      wpAny (model prog w) (A.deeper (envOfC qual scope L' f cdv)) (execs body (envOfC qual scope L' f cdv))
        (fun fl s' => Back (news.map (·.1)) s.heap g L' Q (match fl with | .ret v => v | _ => .none) s') (fun _ _ => False)
        { s with heap := h₁, toks := tk })
    (hco : scope.isCoroutine = false) (hgen : scope.isGenerator = false) (hk : scope.kind = .function) : wpAny (model prog w) A (call (.ref f) args) Q E s := by
  have nm : ∀ b o, fz.get? b = some o → b ∉ news.map (·.1) := fun b o e q => by
    obtain ⟨p, hp, rfl⟩ := List.mem_map.mp q
    rw [(hN p hp).2] at e; cases e
  have st : fz.StaysIn (hideAll s.heap (news.map (·.1))) := fun b o e => hideAll_get _ (hst b o e) (nm b o e)
  refine wpAny_call (codeAny_call_function hroom (hst _ _ (X _ _ ho)) rfl hco hgen rfl (codeRec_of (X.keeps hst) hcd) (hbind _ _ _ _ ?_))
  refine wpAny_newFunctionEnv_cells hk (kindsX hkind _) fun env' he s' x => ?_
  subst he
  refine ⟨(T.nolimit.keeps hst).keeps x.toInCall.keep, codeAny_func ?_⟩
  obtain ⟨h₁, tk, rfl, _⟩ := x.done
  have hk₁ := x.toInCall.keep
  obtain ⟨cells, NC, Y⟩ := Cl.news (h₀ := s.heap) (Nat.le_refl _) fun n c hm => ⟨x.cell n c (lookup_of_mem_nodup (cellsFrom_names scope.names 0 (s.heap.objs.size + 1) [] [] rfl ▸ hnd) hm), x.above n c hm⟩
  refine wpAny_mono (h _ s.heap.objs.size h₁ tk cells ⟨x.toInCall.ns, fun b o e => hk₁ b o (of_hideAll _ e), Nat.le_of_eq (hideAll_size _ _)⟩ (fun p hp => ?_) Y (X.keeps st) (T.keeps st) st (fun b o e n => hideAll_get _ e n) (fun q hq => Heap.lt_size (hN q hq).1)) (fun fl s' hl => ?_) fun _ _ x => x.elim
  · rcases List.mem_append.mp hp with hp | hp
    · refine ⟨(NC p hp).1, (NC p hp).2.1, ?_⟩
      cases q : (hideAll s.heap (news.map (·.1))).get? p.1 with
      | none => rfl
      | some o => have := of_hideAll _ q; rw [(NC p hp).2.2] at this; cases this
    · exact ⟨hk₁ _ _ (hN p hp).1, Nat.ne_of_lt (Heap.lt_size (hN p hp).1), hideAll_none _ (List.mem_map_of_mem hp)⟩
  · obtain ⟨m', F', k⟩ := hl
    exact k fun b o e n => F'.keep b o (hideAll_get _ e n)
end

section
variable {M : Model} {prog : Program} {w : World} {A : Around} {E : Value → Shared → Prop} {s : Shared} {K : Frag} {g : Heap} {C : Addr} {m mg mb : Str → Option Value} {p : Program} {loose : List Str} {env : Env}
  {x : Str} {pos : Pos} {v : Value} {Q : Value → Shared → Prop} {c : Addr} {o : Obj}
/-- names within a comprehension -/
theorem cname_L (F : Fr g env.locals s.heap m) (hv : m x = some v) (h : Q v s) (hk : env.scope.kind = .function) (hx : env.kindOf x = some .local) (hd : (x == ("__debug__" : Str)) = false) :
    wpAny M A (eval (.Name x pos) env) Q E s := wpAny_Name (wpAny_loadName_local hk hx F.ns hv h) hd
theorem cname_C (F : Fr g env.locals s.heap m) (hc : env.cells.lookup x = some c) (hg : g.get? c = some o) (hd : o.data = .cell (some v)) (h : Q v s) (hk : env.scope.kind = .function) (hx : env.kindOf x = some .cell) (hb : (x == ("__debug__" : Str)) = false) :
    wpAny M A (eval (.Name x pos) env) Q E s := wpAny_Name (wpAny_loadName_cell hk hx hc ⟨o, F.keep _ _ hg, hd⟩ h) hb
theorem cname_B (F : Fr g C s.heap m) (X : K.In g) (T : TopRead p loose mg mb g) (e : nsIn K mainGlobals x = some none) (hv : bootBuiltins x = some v) (hn : x ≠ "__name__") (h : Q v s) (hg : env.globals = mainGlobals) (hbb : env.builtins = builtinsNs) (hk : env.scope.kind = .function) (hx : env.kindOf x = some .globalImplicit) (hd : (x == ("__debug__" : Str)) = false) :
    wpAny M A (eval (.Name x pos) env) Q E s :=
  Name_function_global hk hx (loadGlobal_builtin (env := env) (by rw [hg]; exact T.g.keeps F.keep) (mg_none_of X T.g e) (by rw [hbb]; exact T.b.keeps F.keep) ((T.builtins x hn).trans hv) h) hd
end
section
variable {h₀ : Heap} {L : Addr} {S : List Addr} {fz : List (Addr × Obj)} {s : Shared} {D : Addr} {ys : List Value} {mu R : List (Addr × Obj)} {h : Heap}
theorem CompDone.fzN (cd : CompDone h₀ L S fz s D ys mu R h) : News h₀ L h fz := fun p hp => cd.news p (.tail _ (List.mem_append_right _ (List.mem_append_right _ hp)))
theorem CompDone.muN (cd : CompDone h₀ L S fz s D ys mu R h) : News h₀ L h mu := fun p hp => cd.news p (.tail _ (List.mem_append_right _ (List.mem_append_left _ hp)))
theorem CompDone.rN (cd : CompDone h₀ L S fz s D ys mu R h) : News h₀ L h R := fun p hp => cd.news p (.tail _ (List.mem_append_left _ hp))
theorem CompDone.dN (cd : CompDone h₀ L S fz s D ys mu R h) : h.get? D = some (PyProof.Rows.LCg.lst ys) := (cd.news _ (.head _)).1
end
end Mine
end
section
open PySem PySem.W PyProof.Rows PySem.Calls PySem.Spec
namespace Mine
section
variable {prog : Program} {w : World} {p : Program} {loose : List Str} {mean : ExcName → Option Value} {mg mb : Str → Option Value}
local macro_rules | `(tactic| ktr_unf) => `(tactic| k_extra "r1")
local macro_rules | `(tactic| k_inst) => `(tactic| exact inst_F (by k_asm) (by assumption) (by assumption))
local macro_rules | `(tactic| ktr_room) => `(tactic| k_extra "r9")
local macro_rules | `(tactic| tb_start) => `(tactic| first | with_reducible assumption | ((try simp only [Array.size_push]); omega))
local macro_rules | `(tactic| walk_at "none here") => `(tactic| fail)
local macro_rules | `(tactic| walk_at "subscriptTail") => `(tactic| k_extra "g3")
local macro_rules | `(tactic| walk_at "call ref") => `(tactic| k_extra "g8")
local macro_rules | `(tactic| walk_at "eval ListComp") => `(tactic| refine for_stop ?_)

set_option maxHeartbeats 1000000 in
theorem noisy_spec {s : Shared} {fz : Heap} {dp un : Nat} {fr : Option (List Env)} {gd : Option (List Code)} {Q E : Value → Shared → Prop} {gm pa : Addr} {G : GT} {xs : Array Value} {nd : Nat} {tn : Tok} {e : Nat}
    (X : (hd.heap_1 w.params).In fz) (T : Top p loose mean mg mb fz) (st : fz.StaysIn s.heap) (room : dp + 2 < recursionLimit) (GA : GameAt w fz gm pa G) (hp : s.heap.get? pa = some (listOf (xs.push (.int nd tn)) e)) (hp0 : fz.get? pa = none) (hnd : nd < G.n) (hz : xs.size ≤ 990) (hn : G.n ≤ 1000) (hk0 : G.kids nd = [])
    (ret : ∀ v h' tk' e', But [pa] s.heap h' → h'.get? pa = some (listOf (xs.push (.int nd tn)) e') → Q v { s with heap := h', toks := tk' }) :
    wpAny (model prog w) (ar dp un fr gd) (call (.ref 135) [.ref gm]) Q E s := by
  have N : ∀ q ∈ [(pa, listOf (xs.push (.int nd tn)) e)], s.heap.get? q.1 = some q.2 ∧ fz.get? q.1 = none := by simp [hp, hp0]
  refine' enterC (K := hd.heap_1 w.params) (binds := [(Str.ofString "self", .ref gm)]) X T st N ?ho ?hcd (by ktr_room) ?bind ?kd ?nd ?h ?c1 ?c2 ?c3
  (case ho => k_is); (case hcd => k_is); (case bind => exact BindsTo.of_eq rfl); (case kd => exact rfl); (case nd => decide +kernel); (case c1 => exact rfl); (case c2 => exact rfl); (case c3 => exact rfl)
  intro g L h₁ tk cells F N Y X' T' st' bt l1
  k_lt l1
  k_cells Y
  try simp only [List.cons_append, List.nil_append] at N
  try dsimp only
  try k_fold
  have GA' := GA.stays st'
  obtain ⟨dx, c, v, kk, d9, nz, gn, n, t1, t2, t3, t4, t5, t6, t7, a1, a2, a3, a4, a5, a6⟩ := GA.stays st'
  have hkl : (G.kids nd).length ≤ 1000 := by rw [hk0]; decide
  k_steps
  show wpAny _ _ _ _ _ _
  refine comp_eval (by with_unfolding_all rfl) rfl (by decide) (by intro _; with_unfolding_all rfl) ?_
  k_steps
  (rename Fr _ _ _ _ => F9)
  (rename News _ _ _ _ => N9)
  (rename IntsAre _ (rangeKs _ _) => I9)
  have hz0 := range_size I9
  rw [hk0] at hz0
  refine compSt_list (mu₀ := []) [] (fun _ ys _ _ => ys = []) rfl F9 N9 (News.isList N9 (by k_mem)) (by simp) (by rw [hz0]; decide) (by simp) rfl (fun q hq => ⟨hq, by simp⟩) (by rintro i ys mu R rfl; simp) rfl (by decide) rfl rfl ?_ ?_
  · intro g C i v ys mu R h tk mr _ hi
    rw [hz0] at hi
    exact absurd hi (Nat.not_lt_zero _)
  · intro D h tk ys mu R hj F8 cd
    exact ⟨_, F8, fun hb => ret _ _ _ _ hb (cd.fzN.get (by k_mem))⟩
theorem noisy_use {s : Shared} {g : Heap} {L : Addr} {m : Str → Option Value} {news : List (Addr × Obj)} {gg : Obj → List (Addr × Obj)} {dp un : Nat} {fr : Option (List Env)} {gd : Option (List Code)} {Q E : Value → Shared → Prop} {gm pa : Addr} {G : GT} {xs : Array Value} {nd : Nat} {tn : Tok} {e : Nat}
    (F : Fr g L s.heap m) (N : News g L s.heap news) (X : (hd.heap_1 w.params).In g) (T : Top p loose mean mg mb g) (GA : GameAt w g gm pa G) (U : UpdF pa (listOf (xs.push (.int nd tn)) e) news gg) (room : dp + 2 < recursionLimit) (hnd : nd < G.n) (hz : xs.size ≤ 990) (hn : G.n ≤ 1000) (hk0 : G.kids nd = [])
    (ret : ∀ v h' tk' e', Fr g L h' m → News g L h' (gg (listOf (xs.push (.int nd tn)) e')) → Q v { s with heap := h', toks := tk' }) :
    wpAny (model prog w) (ar dp un fr gd) (call (.ref 135) [.ref gm]) Q E s :=
  noisy_spec X T F.keep room GA (N.get (updF_mem U)) (N.fresh (updF_mem U)) hnd hz hn hk0 fun v h' tk' e' hb hp => (fun z => ret v h' tk' e' z.1 z.2) (after1 F N U hb hp)

def GT.Fin (G : GT) : Nat → Nat → Prop
  | 0, nd => G.kids nd = []
  | d + 1, nd => ∀ k ∈ G.kids nd, GT.Fin G d k
def cntV (G : GT) : Nat → Nat → Int
  | 0, _ => 1
  | d + 1, nd => (G.kids nd).foldl (fun c k => c + cntV G d k) 1
def CntSpec (prog : Program) (w : World) (p : Program) (loose : List Str) (mean : ExcName → Option Value) (mg mb : Str → Option Value) (G : GT) (d : Nat) : Prop :=
  ∀ {s : Shared} {fz : Heap} {dp un : Nat} {fr : Option (List Env)} {gd : Option (List Code)} {Q E : Value → Shared → Prop} {gm pa : Addr} {xs : Array Value} {nd : Nat} {tn : Tok} {e : Nat} {dI i : Int} {td ti tq : Tok}
    (X : (hd.heap_1 w.params).In fz) (T : Top p loose mean mg mb fz) (st : fz.StaysIn s.heap) (room : dp + d + 5 < recursionLimit) (GA : GameAt w fz gm pa G) (hp : s.heap.get? pa = some (listOf (xs.push (.int nd tn)) e)) (hp0 : fz.get? pa = none) (hnd : nd < G.n) (hz : xs.size + d ≤ 980) (hn : G.n ≤ 1000) (hw : G.WF) (hfi : G.Fin d nd) (hdI : dI = d)
    (ret : ∀ x t h' tk' e', x = cntV G d nd → But [pa] s.heap h' → h'.get? pa = some (listOf (xs.push (.int nd tn)) e') → Q (.int x t) { s with heap := h', toks := tk' }),
    wpAny (model prog w) (ar dp un fr gd) (call (.ref 63) [.ref gm, .int dI td, .int i ti, .int 0 tq]) Q E s
theorem cnt_use {s : Shared} {g : Heap} {L : Addr} {m : Str → Option Value} {news : List (Addr × Obj)} {gg : Obj → List (Addr × Obj)} {dp un : Nat} {fr : Option (List Env)} {gd : Option (List Code)} {Q E : Value → Shared → Prop} {gm pa : Addr} {G : GT} {xs : Array Value} {nd : Nat} {tn : Tok} {e : Nat} {d : Nat} {dI i : Int} {td ti tq : Tok} (IH : CntSpec prog w p loose mean mg mb G d)
    (F : Fr g L s.heap m) (N : News g L s.heap news) (X : (hd.heap_1 w.params).In g) (T : Top p loose mean mg mb g) (GA : GameAt w g gm pa G) (U : UpdF pa (listOf (xs.push (.int nd tn)) e) news gg) (room : dp + d + 5 < recursionLimit) (hnd : nd < G.n) (hz : xs.size + d ≤ 980) (hn : G.n ≤ 1000) (hw : G.WF) (hfi : G.Fin d nd) (hdI : dI = d)
    (ret : ∀ t h' tk' e', Fr g L h' m → News g L h' (gg (listOf (xs.push (.int nd tn)) e')) → Q (.int (cntV G d nd) t) { s with heap := h', toks := tk' }) :
    wpAny (model prog w) (ar dp un fr gd) (call (.ref 63) [.ref gm, .int dI td, .int i ti, .int 0 tq]) Q E s :=
  IH X T F.keep room GA (N.get (updF_mem U)) (N.fresh (updF_mem U)) hnd hz hn hw hfi hdI fun x t h' tk' e' hx hb hp => by subst hx; exact (fun z => ret t h' tk' e' z.1 z.2) (after1 F N U hb hp)
local macro_rules | `(tactic| walk_at "isTrue BoolOp") => `(tactic| k_extra "r17")
local macro_rules | `(tactic| walk_at "StF") => `(tactic| exact ⟨_, _, rfl, by assumption, by assumption⟩)
local macro_rules | `(tactic| walk_at "exec For Name Name cons nil") => `(tactic| refine for_stop ?_)

set_option maxHeartbeats 400000 in
theorem cnt0 {G : GT} : CntSpec prog w p loose mean mg mb G 0 := by
  intro s fz dp un fr gd Q E gm pa xs nd tn e dI i td ti tq X T st room GA hp hp0 hnd hz hn hw hfi hdI ret
  have N : ∀ q ∈ [(pa, listOf (xs.push (.int nd tn)) e)], s.heap.get? q.1 = some q.2 ∧ fz.get? q.1 = none := by simp [hp, hp0]
  refine' enter (K := hd.heap_1 w.params) (binds := [(Str.ofString "game", .ref gm), (Str.ofString "depth", .int dI td), (Str.ofString "ply", .int i ti), (Str.ofString "qdepth", .int 0 tq)]) X T st N ?ho ?hcd (by ktr_room) ?bind ?loc ?h ?c1 ?c2 ?c3 ?c4
  ktr_unf
  intro g L h₁ F N X' T' st' bt lt
  try dsimp only
  k_fold
  have GA' := GA.stays st'
  obtain ⟨dx, c, v, kk, d9, nz, gn, n, t1, t2, t3, t4, t5, t6, t7, a1, a2, a3, a4, a5, a6⟩ := GA.stays st'
  have hk0 : G.kids nd = [] := hfi
  have hkl := hw.len nd hnd
  have hd0 : dI ≤ 0 := by omega
  have hd1 : ¬ 0 < dI := by omega
  k_steps
  all_goals (rename News _ _ _ _ => N9)
  all_goals exact ⟨_, by assumption, fun hb => ret _ _ _ _ _ rfl hb (N9.get (by k_mem))⟩

set_option maxHeartbeats 1000000 in
theorem cntS {G : GT} {d : Nat} (IH : CntSpec prog w p loose mean mg mb G d) : CntSpec prog w p loose mean mg mb G (d + 1) := by
  intro s fz dp un fr gd Q E gm pa xs nd tn e dI i td ti tq X T st room GA hp hp0 hnd hz hn hw hfi hdI ret
  have N : ∀ q ∈ [(pa, listOf (xs.push (.int nd tn)) e)], s.heap.get? q.1 = some q.2 ∧ fz.get? q.1 = none := by simp [hp, hp0]
  refine' enter (K := hd.heap_1 w.params) (binds := [(Str.ofString "game", .ref gm), (Str.ofString "depth", .int dI td), (Str.ofString "ply", .int i ti), (Str.ofString "qdepth", .int 0 tq)]) X T st N ?ho ?hcd (by ktr_room) ?bind ?loc ?h ?c1 ?c2 ?c3 ?c4
  ktr_unf
  intro g L h₁ F N X' T' st' bt lt
  try dsimp only
  k_fold
  have GA' := GA.stays st'
  obtain ⟨dx, c, v, kk, d9, nz, gn, n, t1, t2, t3, t4, t5, t6, t7, a1, a2, a3, a4, a5, a6⟩ := GA.stays st'
  have hkl := hw.len nd hnd
  have hd0 : ¬ dI ≤ 0 := by omega
  have hd1 : 0 < dI := by omega
  k_steps
  (rename IntsAre _ (rangeKs _ _) => I9)
  (rename Fr _ _ _ _ => F9)
  (rename News _ _ _ _ => N9)
  show wpAny _ _ _ _ _ _
  refine For_invVF F9 (by rfl) (by rfl) (ld F9 (by rfl) ?_)
  refine iter_pa1 (pa := pa) (o := listOf (xs.push (.int nd tn)) _) (Str.ofString "count") (fun j uc o' => ∃ tb e', uc = some (.int (((G.kids nd).take j).foldl (fun c k => c + cntV G d k) 1) tb) ∧ o' = listOf (xs.push (.int nd tn)) e') rfl F9 N9 (by k_updF) (by k_mem) (Ne.symm (by assumption)) ⟨_, _, rfl, rfl⟩ ?_ ?_
  · clear F9 N9
    rintro I io j v z u1 o' h tk hI hv ⟨tb, e', rfl, rfl⟩ F9 N9
    obtain ⟨hj, tv, rfl⟩ := range_item I9 hv
    obtain ⟨k, hk⟩ : ∃ k, (G.kids nd)[j]? = some k := ⟨_, List.getElem?_eq_getElem hj⟩
    have hkn : k < G.n := hw.lt nd hnd k (List.mem_of_getElem? hk)
    have hfk : G.Fin d k := hfi k (List.mem_of_getElem? hk)
    k_lt hI
    replace F9 : Fr g L h _ := F9
    replace N9 : News g L h _ := N9
    try dsimp only at N9
    try k_fold
    k_steps
    (rename Fr _ _ _ _ => F8)
    (rename News _ _ _ _ => N8)
    refine TurnEndP1.next F8 N8 (by intro y h1 h2; simp only [if_neg h1, if_neg h2]) ⟨?tb1, _, ?eq1, rfl⟩
    (case eq1 => (rw [foldl_take_succ hk]; exact rfl))
  · clear F9 N9
    rintro z u1 o' h tk ⟨tb, e', rfl, rfl⟩ F9 N9
    k_steps
    rw [range_size I9, List.take_length]
    exact ⟨_, F9, fun hb => ret _ _ _ _ _ rfl hb (N9.get (by k_mem))⟩
theorem cnt_spec {G : GT} : ∀ d, CntSpec prog w p loose mean mg mb G d := by
  intro d
  induction d with
  | zero => exact cnt0
  | succ d ih => exact cntS ih
end
end Mine
end
section
open PySem PySem.W PyProof.Rows PySem.Calls PySem.Spec
namespace Mine
section
variable {prog : Program} {w : World} {p : Program} {loose : List Str} {mean : ExcName → Option Value} {mg mb : Str → Option Value}
local macro_rules | `(tactic| ktr_unf) => `(tactic| k_extra "r1")
local macro_rules | `(tactic| k_inst) => `(tactic| exact inst_F (by k_asm) (by assumption) (by assumption))
local macro_rules | `(tactic| ktr_room) => `(tactic| k_extra "r9")
local macro_rules | `(tactic| tb_start) => `(tactic| first | with_reducible assumption | ((try simp only [Array.size_push]); omega))
theorem fm_lo {x M : Int} (h : 1 ≤ M) : 0 ≤ Int.fmod x M := by
  rw [Int.fmod_eq_emod_of_nonneg x (by omega)]; exact Int.emod_nonneg x (by omega)
theorem fm_hi {x M : Int} (h : 1 ≤ M) : Int.fmod x M < M := by
  rw [Int.fmod_eq_emod_of_nonneg x (by omega)]; exact Int.emod_lt_of_pos x (by omega)
theorem len_gI {prog : Program} {w : World} {A : Around} {E : Value → Shared → Prop} {s : Shared} {g : Heap} {L : Addr} {m : Str → Option Value} {Q : Value → Shared → Prop} {l : Addr} {row : List Value} {ks : List Int} (F : Fr g L s.heap m) (hl : g.IsList l row.toArray) (hi : IntsAre row ks) (hz : ks.length ≤ 1000)
    (h : ∀ t tk, Q (.int (ks.length : Int) t) { s with toks := tk }) : wpAny (model prog w) A (call (.builtin "len") [.ref l]) Q E s := by
  have e : row.toArray.size = ks.length := by simp [hi.length]
  exact call_len_list (isList_stays F.keep hl) (by rw [e]; omega) (by rw [e]; exact h _ _)
local macro_rules | `(tactic| walk_at "call builtin:len") => `(tactic| k_extra "r25")

set_option maxHeartbeats 1000000 in
theorem shell_spec {s : Shared} {fz : Heap} {dp un : Nat} {fr : Option (List Env)} {gd : Option (List Code)} {Q E : Value → Shared → Prop} {pe l : Addr} {vs : List Value} {ns : List Int} {k M : Int} {tk0 tM : Tok} {e : Nat}
    (X : (hd.heap_1 w.params).In fz) (T : Top p loose mean mg mb fz) (st : fz.StaysIn s.heap) (room : dp < recursionLimit) (hp : s.heap.get? pe = some (listOf (List.toArray [.ref l, .int k tk0]) e)) (hp0 : fz.get? pe = none) (hl : fz.IsList l vs.toArray) (hi : IntsAre vs ns) (hns : ns.length ≤ 1000) (hk0 : 0 ≤ k) (hk1 : k ≤ 100000) (hM0 : 1 ≤ M) (hM1 : M ≤ 1000)
    (ret : ∀ x t h' tk' t' e', 0 ≤ x → x < M → But [pe] s.heap h' → h'.get? pe = some (listOf (List.toArray [.ref l, .int (k + 1) t']) e') → Q (.int x t) { s with heap := h', toks := tk' }) :
    wpAny (model prog w) (ar dp un fr gd) (call (.ref 213) [.ref pe, .int M tM]) Q E s := by
  have N : ∀ q ∈ [(pe, listOf (List.toArray [.ref l, .int k tk0]) e)], s.heap.get? q.1 = some q.2 ∧ fz.get? q.1 = none := by simp [hp, hp0]
  refine' enter (K := hd.heap_1 w.params) (binds := [(Str.ofString "pea", .ref pe), (Str.ofString "many", .int M tM)]) X T st N ?ho ?hcd (by ktr_room) ?bind ?loc ?h ?c1 ?c2 ?c3 ?c4
  ktr_unf
  intro g L h₁ F N X' T' st' bt lt
  try dsimp only
  k_fold
  have hl' : g.IsList l vs.toArray := isList_stays st' hl
  k_steps
  all_goals (rename News _ _ _ _ => N9)
  all_goals exact ⟨_, by assumption, fun hb => ret _ _ _ _ _ _ (fm_lo hM0) (fm_hi hM0) hb (N9 _ (.head _)).1⟩
theorem shell_use {s : Shared} {g : Heap} {L : Addr} {m : Str → Option Value} {news : List (Addr × Obj)} {gg : Obj → List (Addr × Obj)} {dp un : Nat} {fr : Option (List Env)} {gd : Option (List Code)} {Q E : Value → Shared → Prop} {pe l : Addr} {vs : List Value} {ns : List Int} {k M : Int} {tk0 tM : Tok} {e : Nat}
    (F : Fr g L s.heap m) (N : News g L s.heap news) (X : (hd.heap_1 w.params).In g) (T : Top p loose mean mg mb g) (U : UpdF pe (listOf (List.toArray [.ref l, .int k tk0]) e) news gg) (room : dp < recursionLimit) (hl : g.IsList l vs.toArray) (hi : IntsAre vs ns) (hns : ns.length ≤ 1000) (hk0 : 0 ≤ k) (hk1 : k ≤ 100000) (hM0 : 1 ≤ M) (hM1 : M ≤ 1000)
    (ret : ∀ x t h' tk' t' e', 0 ≤ x → x < M → Fr g L h' m → News g L h' (gg (listOf (List.toArray [.ref l, .int (k + 1) t']) e')) → Q (.int x t) { s with heap := h', toks := tk' }) :
    wpAny (model prog w) (ar dp un fr gd) (call (.ref 213) [.ref pe, .int M tM]) Q E s :=
  shell_spec X T F.keep room (N.get (updF_mem U)) (N.fresh (updF_mem U)) hl hi hns hk0 hk1 hM0 hM1 fun x t h' tk' t' e' h0 h1 hb hp => (fun z => ret x t h' tk' t' e' h0 h1 z.1 z.2) (after1 F N U hb hp)
end
end Mine
end
section
open PySem PySem.W PyProof.Rows PySem.Calls PySem.Spec
namespace Mine

def maxOf : List Int → Int
  | [] => 0
  | a :: l => l.foldl (fun b v => if b < v then v else b) a
theorem maxOf_le : ∀ (l : List Int) (a : Int), a ≤ l.foldl (fun b v => if b < v then v else b) a ∧ ∀ x ∈ l, x ≤ l.foldl (fun b v => if b < v then v else b) a
  | [], a => ⟨Int.le_refl _, by simp⟩
  | y :: l, a => by
    obtain ⟨h1, h2⟩ := maxOf_le l (if a < y then y else a)
    rw [List.foldl_cons]
    refine ⟨Int.le_trans (by split <;> omega) h1, fun x hx => ?_⟩
    rcases List.mem_cons.mp hx with rfl | hx
    · exact Int.le_trans (by split <;> omega) h1
    · exact h2 x hx
theorem maxOf_mem : ∀ (l : List Int) (a : Int), l.foldl (fun b v => if b < v then v else b) a = a ∨ l.foldl (fun b v => if b < v then v else b) a ∈ l
  | [], _ => .inl rfl
  | y :: l, a => by
    rw [List.foldl_cons]
    rcases maxOf_mem l (if a < y then y else a) with h | h
    · rw [h]
      split
      · exact .inr (.head _)
      · exact .inl rfl
    · exact .inr (.tail _ h)
theorem maxOf_is {l : List Int} {M : Int} (h1 : M ∈ l) (h2 : ∀ a ∈ l, a ≤ M) : M = maxOf l := by
  cases l with
  | nil => cases h1
  | cons a l =>
    show M = l.foldl (fun b v => if b < v then v else b) a
    obtain ⟨g1, g2⟩ := maxOf_le l a
    have h3 : M ≤ l.foldl (fun b v => if b < v then v else b) a := by
      rcases List.mem_cons.mp h1 with rfl | h1
      · exact g1
      · exact g2 M h1
    have h4 : l.foldl (fun b v => if b < v then v else b) a ≤ M := by
      rcases maxOf_mem l a with h | h
      · rw [h]; exact h2 a (.head _)
      · exact h2 _ (.tail _ h)
    omega
def lawL (G : GT) (pl : Nat → Int) (D : Int) (nd : Nat) : Int := if G.chk nd then pl nd - 32000 else if pl nd < D then 0 else G.val nd
def lawV (G : GT) (pl : Nat → Int) (D : Int) : Nat → Nat → Int
  | 0, nd => lawL G pl D nd
  | d + 1, nd => if G.kids nd = [] then lawL G pl D nd else maxOf ((G.kids nd).map fun k => -(lawV G pl D d k))
section
variable {prog : Program} {w : World} {p : Program} {loose : List Str} {mean : ExcName → Option Value} {mg mb : Str → Option Value}

def LvSpec (prog : Program) (w : World) (p : Program) (loose : List Str) (mean : ExcName → Option Value) (mg mb : Str → Option Value) (G : GT) (plv : Nat → Int) (d : Nat) : Prop :=
  ∀ {s : Shared} {fz : Heap} {dp un : Nat} {fr : Option (List Env)} {gd : Option (List Code)} {Q E : Value → Shared → Prop} {c pl v ck : Addr} {nd : Nat} {D : Int} {tD tn : Tok}
    (X : (hd.heap_1 w.params).In fz) (T : Top p loose mean mg mb fz) (st : fz.StaysIn s.heap) (room : dp + d + 5 < recursionLimit) (hun : un + 8 * d + 100 < cLine) (hc : RowsAt fz c G.n G.kids) (hpl : IntsAt fz pl G.n plv) (hv : IntsAt fz v G.n G.val) (hk : BoolsAt fz ck G.n G.chk) (hnd : nd < G.n) (hn : G.n ≤ 1000) (hw : G.WF) (hfi : G.Fin d nd)
    (ret : ∀ x t h' tk', x = lawV G plv D d nd → But [] s.heap h' → Q (.int x t) { s with heap := h', toks := tk' }),
    wpAny (model prog w) (ar dp un fr gd) (call (.ref 230) [.ref c, .ref pl, .ref v, .ref ck, .int D tD, .int nd tn]) Q E s
theorem lv_use {g : Heap} {L : Addr} {m : Str → Option Value} {news : List (Addr × Obj)} {s : Shared} {dp un : Nat} {fr : Option (List Env)} {gd : Option (List Code)} {Q E : Value → Shared → Prop} {c pl v ck : Addr} {nd : Nat} {D : Int} {tD tn : Tok} {G : GT} {plv : Nat → Int} {d : Nat} (IH : LvSpec prog w p loose mean mg mb G plv d)
    (F : Fr g L s.heap m) (N : News g L s.heap news) (X : (hd.heap_1 w.params).In g) (T : Top p loose mean mg mb g) (room : dp + d + 5 < recursionLimit) (hun : un + 8 * d + 100 < cLine) (hc : RowsAt g c G.n G.kids) (hpl : IntsAt g pl G.n plv) (hv : IntsAt g v G.n G.val) (hk : BoolsAt g ck G.n G.chk) (hnd : nd < G.n) (hn : G.n ≤ 1000) (hw : G.WF) (hfi : G.Fin d nd)
    (ret : ∀ t h' tk', Fr g L h' m → News g L h' news → Q (.int (lawV G plv D d nd) t) { s with heap := h', toks := tk' }) :
    wpAny (model prog w) (ar dp un fr gd) (call (.ref 230) [.ref c, .ref pl, .ref v, .ref ck, .int D tD, .int nd tn]) Q E s :=
  IH X T F.keep room hun hc hpl hv hk hnd hn hw hfi fun x t h' tk' hx hb => by subst hx; exact ret t h' tk' (Fr.but0 F hb) (News.but0 N hb)
theorem ints_snoc {ys : List Value} {ns : List Int} {k : Int} {t : Tok} (h : IntsAre ys ns) : IntsAre (ys ++ [.int k t]) (ns ++ [k]) := by
  induction h with
  | nil => exact .cons k t .nil
  | cons a b _ ih => exact .cons a b ih
theorem row_item {row : List Value} {ks : List Nat} {i : Nat} {v : Value} (hi : IntsAre row (ZL ks)) (hv : row.toArray[i]? = some v) : ∃ k t, ks[i]? = some k ∧ v = .int (k : Int) t := by
  have hv' : row[i]? = some v := by simpa using hv
  have hl : row.length = ks.length := by rw [hi.length]; simp
  have hlt : i < ks.length := by rw [← hl]; exact (List.getElem?_eq_some_iff.mp hv').1
  obtain ⟨k, hk⟩ : ∃ k, ks[i]? = some k := ⟨_, List.getElem?_eq_getElem hlt⟩
  obtain ⟨t, ht⟩ := hi.get i (k : Int) (by simp [hk])
  rw [hv'] at ht
  exact ⟨k, t, hk, Option.some.inj ht⟩
theorem row_size {row : List Value} {ks : List Nat} (hi : IntsAre row (ZL ks)) : row.toArray.size = ks.length := by
  rw [List.size_toArray, hi.length]; simp
theorem take_map_snoc {α : Type} {f : Nat → α} {l : List Nat} {i k : Nat} (hk : l[i]? = some k) : (l.take (i + 1)).map f = (l.take i).map f ++ [f k] := by
  rw [List.take_add_one, hk]; simp
theorem max_N {prog : Program} {w : World} {A : Around} {E : Value → Shared → Prop} {s : Shared} {g : Heap} {L : Addr} {m : Str → Option Value} {news : List (Addr × Obj)} {Q : Value → Shared → Prop} {l : Addr} {vs : List Value} {ns : List Int} {c : Nat} (F : Fr g L s.heap m) (N : News g L s.heap news) (hl : (l, listOf vs.toArray c) ∈ news) (hi : IntsAre vs ns) (hne : 0 < ns.length) (hh : A.handled = none)
    (h : ∀ h' t tk, Fr g L h' m → News g L h' news → Q (.int (maxOf ns) t) { s with heap := h', toks := tk }) : wpAny (model prog w) A (call (.builtin "max") [.ref l]) Q E s :=
  kso_max F N ⟨_, (N _ hl).1, rfl, c, rfl⟩ hi hne hh fun h' M t tk F' N' h1 h2 => by rw [maxOf_is h1 h2]; exact h h' t tk F' N'
local macro_rules | `(tactic| ktr_unf) => `(tactic| k_extra "r1")
local macro_rules | `(tactic| k_inst) => `(tactic| exact inst_F (by k_asm) (by assumption) (by assumption))
local macro_rules | `(tactic| ktr_room) => `(tactic| k_extra "r9")
local macro_rules | `(tactic| tb_start) => `(tactic| first | with_reducible assumption | ((try simp only [Array.size_push]); omega))
local macro_rules | `(tactic| walk_at "subscriptTail") => `(tactic| k_extra "g3")
local macro_rules | `(tactic| walk_at "call ref") => `(tactic| k_extra "g9")
local macro_rules | `(tactic| walk_at "eval ListComp") => `(tactic| refine for_stop ?_)
local macro_rules | `(tactic| walk_at "eval Name") => `(tactic| k_extra "g10")
theorem eq_gN {prog : Program} {w : World} {A : Around} {E : Value → Shared → Prop} {s : Shared} {g : Heap} {L : Addr} {m : Str → Option Value} {news : List (Addr × Obj)} {a b : Addr} {xs ys : List Value} {ns ms : List Int} {c : Nat} {Q : Value → Shared → Prop} (F : Fr g L s.heap m) (N : News g L s.heap news)
    (ha : g.IsList a xs.toArray) (hb : (b, listOf ys.toArray c) ∈ news) (hi : IntsAre xs ns) (hj : IntsAre ys ms) (hu : A.units + 64 < cLine) (h : Q (.bool (decide (ns = ms))) s) : wpAny (model prog w) A (compareOp .Eq (.ref a) (.ref b)) Q E s :=
  ke_eq_ints (isList_stays F.keep ha) ⟨_, (N _ hb).1, rfl, c, rfl⟩ hi hj hu h
theorem units_def : cLine = 9900 := rfl
local macro_rules | `(tactic| ktr_units) => `(tactic| k_extra "r29")
local macro_rules | `(tactic| walk_at "call builtin:max") => `(tactic| k_extra "r30")
local macro_rules | `(tactic| walk_at "compareOp Eq ref ref") => `(tactic| k_extra "r32")

set_option maxHeartbeats 1000000 in
theorem lv_leaf {G : GT} {plv : Nat → Int} {d : Nat} {s : Shared} {fz : Heap} {dp un : Nat} {fr : Option (List Env)} {gd : Option (List Code)} {Q E : Value → Shared → Prop} {c pl v ck : Addr} {nd : Nat} {D : Int} {tD tn : Tok}
    (X : (hd.heap_1 w.params).In fz) (T : Top p loose mean mg mb fz) (st : fz.StaysIn s.heap) (room : dp + d + 5 < recursionLimit) (hun : un + 8 * d + 100 < cLine) (hc : RowsAt fz c G.n G.kids) (hpl : IntsAt fz pl G.n plv) (hv : IntsAt fz v G.n G.val) (hk : BoolsAt fz ck G.n G.chk) (hnd : nd < G.n) (hn : G.n ≤ 1000) (hw : G.WF) (hfi : G.Fin d nd) (hk0 : G.kids nd = [])
    (ret : ∀ x t h' tk', x = lawL G plv D nd → But [] s.heap h' → Q (.int x t) { s with heap := h', toks := tk' }) :
    wpAny (model prog w) (ar dp un fr gd) (call (.ref 230) [.ref c, .ref pl, .ref v, .ref ck, .int D tD, .int nd tn]) Q E s := by
  have N : ∀ q ∈ ([] : List (Addr × Obj)), s.heap.get? q.1 = some q.2 ∧ fz.get? q.1 = none := by intro q hq; cases hq
  refine' enterC (K := hd.heap_1 w.params) (binds := [(Str.ofString "children", .ref c), (Str.ofString "plies", .ref pl), (Str.ofString "values", .ref v), (Str.ofString "checks", .ref ck), (Str.ofString "depth", .int D tD), (Str.ofString "node", .int nd tn)]) X T st N ?ho ?hcd (by ktr_room) ?bind ?kd ?nd ?h ?c1 ?c2 ?c3
  (case ho => k_is); (case hcd => k_is); (case bind => exact BindsTo.of_eq rfl); (case kd => exact rfl); (case nd => decide +kernel); (case c1 => exact rfl); (case c2 => exact rfl); (case c3 => exact rfl)
  intro g L h₁ tk cells F N Y X' T' st' bt l1
  obtain ⟨o1, o2, o3, o4, o5, hE, d1, d2, d3, d4, d5⟩ := PyProof.Rows.kc_five Y
  subst hE
  clear Y l1
  replace d1 : o1.data = .cell (some _) := d1
  replace d2 : o2.data = .cell (some _) := d2
  replace d3 : o3.data = .cell (some _) := d3
  replace d4 : o4.data = .cell (some _) := d4
  replace d5 : o5.data = .cell (some _) := d5
  try simp only [List.cons_append, List.nil_append] at N
  try dsimp only
  try k_fold
  have hkl := hw.len nd hnd
  obtain ⟨cs, cs1, cs2, cs3⟩ := hc.stays st'
  obtain ⟨r, row, r1, r2, r3⟩ := cs3 nd hnd
  obtain ⟨ps, ps1, ps2, ps3⟩ := hpl.stays st'
  obtain ⟨tp, ps4⟩ := ps3 nd hnd
  obtain ⟨us, us1, us2, us3⟩ := hv.stays st'
  obtain ⟨tu, us4⟩ := us3 nd hnd
  obtain ⟨ks, ks1, ks2, ks3⟩ := hk.stays st'
  have ks4 := ks3 nd hnd
  k_steps
  · exact ⟨_, by assumption, fun hb => ret _ _ _ _ (by simp [lawL, *]) hb⟩
  · exact ⟨_, by assumption, fun hb => ret _ _ _ _ (by simp [lawL, *]) hb⟩
  · exact ⟨_, by assumption, fun hb => ret _ _ _ _ (by simp [lawL, *]) hb⟩
  · exfalso; (rename decide _ = false => h9); rw [hk0] at h9; simp at h9

theorem lv0 {G : GT} {plv : Nat → Int} : LvSpec prog w p loose mean mg mb G plv 0 := by
  intro s fz dp un fr gd Q E c pl v ck nd D tD tn X T st room hun hc hpl hv hk hnd hn hw hfi ret
  exact lv_leaf (d := 0) X T st room hun hc hpl hv hk hnd hn hw hfi hfi ret

set_option maxHeartbeats 1000000 in
theorem lvS {G : GT} {plv : Nat → Int} {d : Nat} (IH : LvSpec prog w p loose mean mg mb G plv d) : LvSpec prog w p loose mean mg mb G plv (d + 1) := by
  intro s fz dp un fr gd Q E c pl v ck nd D tD tn X T st room hun hc hpl hv hk hnd hn hw hfi ret
  by_cases hk0 : G.kids nd = []
  · exact lv_leaf (d := d + 1) X T st room hun hc hpl hv hk hnd hn hw hfi hk0 fun x t h' tk' hx hb => ret x t h' tk' (by rw [hx, lawV, if_pos hk0]) hb
  have N : ∀ q ∈ ([] : List (Addr × Obj)), s.heap.get? q.1 = some q.2 ∧ fz.get? q.1 = none := by intro q hq; cases hq
  refine' enterC (K := hd.heap_1 w.params) (binds := [(Str.ofString "children", .ref c), (Str.ofString "plies", .ref pl), (Str.ofString "values", .ref v), (Str.ofString "checks", .ref ck), (Str.ofString "depth", .int D tD), (Str.ofString "node", .int nd tn)]) X T st N ?ho ?hcd (by ktr_room) ?bind ?kd ?nd ?h ?c1 ?c2 ?c3
  (case ho => k_is); (case hcd => k_is); (case bind => exact BindsTo.of_eq rfl); (case kd => exact rfl); (case nd => decide +kernel); (case c1 => exact rfl); (case c2 => exact rfl); (case c3 => exact rfl)
  intro g L h₁ tk cells F N Y X' T' st' bt l1
  obtain ⟨o1, o2, o3, o4, o5, hE, d1, d2, d3, d4, d5⟩ := PyProof.Rows.kc_five Y
  subst hE
  clear Y l1
  replace d1 : o1.data = .cell (some _) := d1
  replace d2 : o2.data = .cell (some _) := d2
  replace d3 : o3.data = .cell (some _) := d3
  replace d4 : o4.data = .cell (some _) := d4
  replace d5 : o5.data = .cell (some _) := d5
  try simp only [List.cons_append, List.nil_append] at N
  try dsimp only
  try k_fold
  have hkl := hw.len nd hnd
  obtain ⟨cs, cs1, cs2, cs3⟩ := hc.stays st'
  obtain ⟨r, row, r1, r2, r3⟩ := cs3 nd hnd
  obtain ⟨ps, ps1, ps2, ps3⟩ := hpl.stays st'
  obtain ⟨tp, ps4⟩ := ps3 nd hnd
  obtain ⟨us, us1, us2, us3⟩ := hv.stays st'
  obtain ⟨tu, us4⟩ := us3 nd hnd
  obtain ⟨ks, ks1, ks2, ks3⟩ := hk.stays st'
  have ks4 := ks3 nd hnd
  k_steps
  · exfalso; (rename decide _ = true => h9); exact hk0 (by simpa using h9)
  · exfalso; (rename decide _ = true => h9); exact hk0 (by simpa using h9)
  · exfalso; (rename decide _ = true => h9); exact hk0 (by simpa using h9)
  show wpAny _ _ _ _ _ _
  refine comp_eval (by with_unfolding_all rfl) rfl (by decide) (by intro _; with_unfolding_all rfl) ?_
  k_steps
  (rename Fr _ _ _ _ => F9)
  (rename News _ _ _ _ => N9)
  refine compSt_list (mu₀ := []) [] (fun i ys mu R => R = [] ∧ mu = [] ∧ IntsAre ys (((G.kids nd).take i).map fun k => -(lawV G plv D d k))) rfl F9 N9 (isList_stays F9.keep r2) (by simp) (by rw [row_size r3, sizeLine_eq]; omega) (by simp) rfl (fun q hq => ⟨hq, by simp⟩) (by rintro i ys mu R ⟨rfl, rfl, hys⟩; rw [hys.length, List.length_map, List.length_take]; omega) ⟨rfl, rfl, .nil⟩ (by decide) rfl rfl ?_ ?_
  · refine turn_plain ?_
    rintro g2 C i v9 ys mu R h tk mr hg hi hv9 ⟨rfl, rfl, hys⟩ F2 N2
    obtain ⟨k, tk9, hk9, rfl⟩ := row_item r3 hv9
    have st2 : g.StaysIn g2 := fun b o e => hg b o (F9.keep b o e) (by simp)
    have X2 := X'.keeps st2
    have T2 := T'.keeps st2
    have hc2 := (hc.stays st').stays st2
    have hpl2 := (hpl.stays st').stays st2
    have hv2 := (hv.stays st').stays st2
    have hk2 := (hk.stays st').stays st2
    have c1 := hg _ _ (N9.get (a := L + 1 + 1 + 1 + 1 + 1) (o := o1) (by k_mem)) (by simp)
    have c2 := hg _ _ (N9.get (a := L + 1 + 1 + 1 + 1) (o := o2) (by k_mem)) (by simp)
    have c3 := hg _ _ (N9.get (a := L + 1 + 1 + 1) (o := o3) (by k_mem)) (by simp)
    have c4 := hg _ _ (N9.get (a := L + 1 + 1) (o := o4) (by k_mem)) (by simp)
    have c5 := hg _ _ (N9.get (a := L + 1) (o := o5) (by k_mem)) (by simp)
    have hkn : k < G.n := hw.lt nd hnd k (List.mem_of_getElem? hk9)
    have hfk : G.Fin d k := hfi k (List.mem_of_getElem? hk9)
    clear F9 N9
    k_steps
    (rename Fr _ _ _ _ => F7)
    (rename News _ _ _ _ => N7)
    exact ⟨_, _, _, [], [], rfl, F7, N7, rfl, rfl, rfl, by rw [take_map_snoc hk9]; exact ints_snoc hys⟩
  · rintro D9 h9 tk9 ys mu R ⟨rfl, rfl, hys⟩ F8 cd
    have N8 := cd.news
    simp only [List.nil_append] at N8
    rw [row_size r3, List.take_length] at hys
    have hne : 0 < ((G.kids nd).map fun k => -(lawV G plv D d k)).length := by rw [List.length_map]; exact List.length_pos_iff.mpr hk0
    clear F9 N9
    k_steps
    exact ⟨_, by assumption, fun hb => ret _ _ _ _ (by rw [lawV, if_neg hk0]) hb⟩
theorem lv_spec {G : GT} {plv : Nat → Int} : ∀ d, LvSpec prog w p loose mean mg mb G plv d := by
  intro d
  induction d with
  | zero => exact lv0
  | succ d ih => exact lvS ih
end
end Mine
end
section
open PySem PySem.W PyProof.Rows PySem.Calls PySem.Spec
namespace Mine

section
variable {prog : Program} {w : World} {A : Around} {s : Shared} {K : Frag} {p : Program} {loose : List Str} {mean : ExcName → Option Value} {mg mb : Str → Option Value} {fz : Heap} {news : List (Addr × Obj)} {R : Result → Shared → Prop}
theorem enterCode {name qual : Str} {params : Arguments} {body : List Stmt} {scope : Scope} {dV kV doc pm cdv ct oc : Value} {an od : Option Addr} {osl : Array (Option Value)} {f : Addr} {args : List Value} {binds : List (Str × Value)}
    (X : K.In fz) (T : Top p loose mean mg mb fz) (hst : fz.StaysIn s.heap) (hN : ∀ q ∈ news, s.heap.get? q.1 = some q.2 ∧ fz.get? q.1 = none)
    (ho : K.lookup f = some ⟨oc, od, .func (fnOf name qual params body scope dV kV doc pm an cdv ct), osl⟩) (hcd : codeIn K cdv qual = true) (hroom : A.depth < recursionLimit)
    (hbind : BindsTo s (fnOf name qual params body scope dV kV doc pm an cdv ct) ⟨args, []⟩ binds) (hloc : ∀ y ∈ binds, scope.names.lookup y.1 = some .local)
    (h : ∀ g L' h₁, Fr g L' h₁ (fun y => binds.reverse.lookup y) → News g L' h₁ news → K.In g → Top p loose mean mg mb g → fz.StaysIn g → But (news.map (·.1)) s.heap g → (∀ q ∈ news, q.1 < L') →
      wpAny (model prog w) (A.deeper (envOf qual scope L' f cdv)) (execs body (envOf qual scope L' f cdv))
        (fun fl s' => Back (news.map (·.1)) s.heap g L' (fun v s' => R (.ok (.ret v)) s') (match fl with | .ret v => v | _ => .none) s') (fun _ _ => False)
        { s with heap := h₁, toks := s.toks + binds.length })
    (hco : scope.isCoroutine = false) (hgen : scope.isGenerator = false) (hk : scope.kind = .function)
    (hcell : ∀ x ∈ scope.names, x.2 ≠ .cell) : codeAny (model prog w) A (.call (.ref f) ⟨args, []⟩) R s := by
  have nm : ∀ b o, fz.get? b = some o → b ∉ news.map (·.1) := fun b o e q => by
    obtain ⟨p, hp, rfl⟩ := List.mem_map.mp q
    rw [(hN p hp).2] at e; cases e
  have st : fz.StaysIn (hideAll s.heap (news.map (·.1))) := fun b o e => hideAll_get _ (hst b o e) (nm b o e)
  refine codeAny_call_def (fd := fnOf name qual params body scope dV kV doc pm an cdv ct) (body := body) (binds := binds) hroom (hst _ _ (X _ _ ho)) rfl (T.nolimit.keeps hst) (codeRec_of (X.keeps hst) hcd) rfl hbind hcell hloc (fun h₁ hns hk₁ => ?_) hco hgen hk
  refine wpAny_mono (h _ s.heap.objs.size h₁ ⟨hns, fun b o e => hk₁ b o (of_hideAll _ e), Nat.le_of_eq (hideAll_size _ _)⟩
    (fun p hp => ⟨hk₁ _ _ (hN p hp).1, Nat.ne_of_lt (Heap.lt_size (hN p hp).1), hideAll_none _ (List.mem_map_of_mem hp)⟩) (X.keeps st) (T.keeps st) st (fun b o e n => hideAll_get _ e n) (fun q hq => Heap.lt_size (hN q hq).1)) (fun fl s' hl => ?_) fun _ _ x => x.elim
  obtain ⟨m', F', k⟩ := hl
  exact k fun b o e n => F'.keep b o (hideAll_get _ e n)
end
section
variable {prog : Program} {w : World} {p : Program} {loose : List Str} {mean : ExcName → Option Value} {mg mb : Str → Option Value}
local macro_rules | `(tactic| ktr_unf) => `(tactic| k_extra "g11")
local macro_rules | `(tactic| ktr_room) => `(tactic| k_extra "g12")
local macro_rules | `(tactic| tb_start) => `(tactic| first | with_reducible assumption | ((try simp only [Array.size_push]); omega))

set_option maxHeartbeats 2000000 in
theorem init_spec {A : Around} {s : Shared} {fz : Heap} {R : Result → Shared → Prop} {x dx c v k d nz gn : Addr}
    (X : (hd.heap_1 w.params).In fz) (T : Top p loose mean mg mb fz) (st : fz.StaysIn s.heap) (room : A.depth < recursionLimit) (hx : s.heap.get? x = some (instObj 201 dx)) (hdx : s.heap.get? dx = some (dictOf [] 0)) (hx0 : fz.get? x = none) (hdx0 : fz.get? dx = none) (hlt : @LT.lt Nat _ dx x)
    (ret : ∀ pa t t1 t2 t3 t4 t5 t6 t7 h' tk' n, But [x, dx] s.heap h' → h'.get? x = some (instObj 201 dx) → h'.get? dx = some (dictOf (gameDict w.params c v k d nz gn pa t1 t2 t3 t4 t5 t6 t7) n) → h'.get? pa = some (listOf (List.toArray [.int 0 t]) 0) → s.heap.get? pa = none →
      R (.ok (.ret .none)) { s with heap := h', toks := tk' }) :
    codeAny (model prog w) A (.call (.ref 123) ⟨[.ref x, .ref c, .ref v, .ref k, .ref d, .ref nz, .ref gn], []⟩) R s := by
  have N : ∀ q ∈ [(x, instObj 201 dx), (dx, dictOf [] 0)], s.heap.get? q.1 = some q.2 ∧ fz.get? q.1 = none := by simp [hx, hdx, hx0, hdx0]
  refine' enterCode (K := hd.heap_1 w.params) (binds := [(Str.ofString "self", .ref x), (Str.ofString "children", .ref c), (Str.ofString "values", .ref v), (Str.ofString "checks", .ref k), (Str.ofString "draws", .ref d), (Str.ofString "noisy", .ref nz), (Str.ofString "gains", .ref gn)]) X T st N ?ho ?hcd room ?bind ?loc ?h ?c1 ?c2 ?c3 ?c4
  ktr_unf
  intro g L h₁ F N X' T' st' bt lt
  try dsimp only
  k_fold
  k_steps
  (rename News _ _ _ _ => N9)
  (rename _ ∧ _ => l9)
  refine ⟨_, by assumption, fun hb => ret _ _ _ _ _ _ _ _ _ _ _ _ hb (N9 _ (.tail _ (.head _))).1 (N9 _ (.tail _ (.tail _ (.head _)))).1 (N9 _ (.head _)).1 (fresh_of bt (N9 _ (.head _)).2.2 ?_)⟩
  simp only [List.map_cons, List.map_nil, List.mem_cons, List.not_mem_nil, or_false, not_or]
  exact ⟨Nat.ne_of_gt l9.1, Nat.ne_of_gt l9.2⟩
theorem st_tr {a b c : Heap} (x : a.StaysIn b) (y : b.StaysIn c) : a.StaysIn c := fun q o e => y q o (x q o e)
theorem mul1 {prog : Program} {w : World} {A : Around} {E : Value → Shared → Prop} {s : Shared} {h₀ : Heap} {L : Addr} {m : Str → Option Value} {news : List (Addr × Obj)} {l : Addr} {v : Value} {c : Nat} {x : Int} {u : Tok} {Q : Value → Shared → Prop} (Fm : Fr h₀ L s.heap m) (N : News h₀ L s.heap news) (hl : (l, listOf #[v] c) ∈ news) (hlo : 0 ≤ x) (hhi : x ≤ 1000)
    (h : ∀ D h', Fr h₀ L h' m → News h₀ L h' ((D, listOf (List.replicate x.toNat v).toArray 0) :: news) → (∀ p ∈ news, p.1 < D) → Q (.ref D) { s with heap := h' }) : wpAny (model prog w) A (binaryOp .Mult (.ref l) (.int x u)) Q E s := by
  have ho := (N _ hl).1
  refine wpAny_binaryOp_repeat_ref (T := "list") (U := "int") (by decide) ⟨_, ho, rfl⟩ (fun s' => typeIs_int s' x u) noFill_list_mul F.fills_int_mul F.slot_int_rmul repeat_list F.slot_int_index.lookup
    (call_meets F.slot_int_rmul (typeIs_int s x u) F.entry_int_rmul (F.args_int_rmul_2 _ _) (lm_int_rmul_list_any x u l #[v] c _ _)
      ⟨ho, rfl, ⟨_, ho, rfl⟩, call_meets F.slot_list_mul ⟨_, ho, rfl⟩ F.entry_list_mul (F.args_list_mul_2 _ _)
        (lm_list_mul_any l #[v] c _ _ x u (by simp [Builtin.List.listFitsIndex]; omega) (by simp only [List.size_toArray, List.length_cons, List.length_nil]; omega) (by simp [Builtin.List.listTooLong, sizeLine]; omega))
        ⟨ho, ?_⟩⟩)
  have N' := News.push Fm N { cls := Value.type "list", data := Data.seq (List.foldl (fun x1 x2 => x1 ++ x2) #[] (List.replicate (if (#[v] : Array Value).isEmpty = true then 0 else x.toNat) #[v])) }
  have e : (List.replicate x.toNat [v]).flatten = List.replicate x.toNat v := by
    generalize x.toNat = n
    induction n with
    | zero => rfl
    | succ n ih => rw [List.replicate_succ, List.flatten_cons, ih]; rfl
  rw [listMul_foldl_if] at N'
  rw [listMul_foldl_if]
  replace N' := (congrArg (fun z : List Value => News h₀ L (s.heap.push { cls := Value.type "list", data := Data.seq z.toArray }) ((s.heap.objs.size, { cls := Value.type "list", data := Data.seq z.toArray }) :: news)) e).mp N'
  refine (congrArg (fun z : List Value => Q (.ref s.heap.objs.size) { s with heap := s.heap.push { cls := Value.type "list", data := Data.seq z.toArray } }) e).mpr ?_
  exact h _ _ (Fm.push _) N' (fun p hp => Heap.lt_size (N p hp).1)
local macro_rules | `(tactic| walk_at "binaryOp Mult ref int") => `(tactic| k_extra "r33")
local macro_rules | `(tactic| k_inst) => `(tactic| exact inst_F (by k_asm) (by assumption) (by assumption))
local macro_rules | `(tactic| tb_start) => `(tactic| first | with_reducible assumption | ((try simp only [Array.size_push]); omega))
local macro_rules | `(tactic| walk_at "subscriptTail") => `(tactic| k_extra "g3")
local macro_rules | `(tactic| walk_at "eval Name") => `(tactic| k_extra "g10")
local macro_rules | `(tactic| walk_at "exec Assign cons ListComp") => `(tactic| refine for_stop ?_)
local macro_rules | `(tactic| walk_at "call ref") => `(tactic| k_extra "r34")

set_option maxHeartbeats 2000000 in
theorem game_spec {s : Shared} {fz : Heap} {dp un : Nat} {fr : Option (List Env)} {gd : Option (List Code)} {Q E : Value → Shared → Prop} {G : GT} {c v ck : Addr}
    (X : (hd.heap_1 w.params).In fz) (T : Top p loose mean mg mb fz) (st : fz.StaysIn s.heap) (room : dp + 6 < recursionLimit) (hc : RowsAt fz c G.n G.kids) (hv : IntsAt fz v G.n G.val) (hk : BoolsAt fz ck G.n G.chk) (hn : G.n ≤ 1000) (hw : G.WF)
    (ret : ∀ x pa t e h' tk', But [] s.heap h' → s.heap.get? pa = none → h'.get? pa = some (listOf ((#[] : Array Value).push (.int ((0 : Nat) : Int) t)) e) → (∀ f, fz.StaysIn f → (∀ b o, h'.get? b = some o → s.heap.get? b = none → b ≠ pa → f.get? b = some o) → GameAt w f x pa G) → Q (.ref x) { s with heap := h', toks := tk' }) :
    wpAny (model prog w) (ar dp un fr gd) (call (.ref 225) [.ref c, .ref v, .ref ck]) Q E s := by
  have N : ∀ q ∈ ([] : List (Addr × Obj)), s.heap.get? q.1 = some q.2 ∧ fz.get? q.1 = none := by intro q hq; cases hq
  refine' enter (K := hd.heap_1 w.params) (binds := [(Str.ofString "children", .ref c), (Str.ofString "values", .ref v), (Str.ofString "checks", .ref ck)]) X T st N ?ho ?hcd (by ktr_room) ?bind ?loc ?h ?c1 ?c2 ?c3 ?c4
  ktr_unf
  intro g L h₁ F N X' T' st' bt lt
  try dsimp only
  k_fold
  obtain ⟨cs, cs1, cs2, cs3⟩ := hc.stays st'
  k_steps
  show wpAny _ _ _ _ _ _
  refine comp_assign (by with_unfolding_all rfl) (by with_unfolding_all rfl) rfl (by decide) (by intro _; with_unfolding_all rfl) ?_
  k_steps
  (rename Fr _ _ _ _ => F9)
  (rename News _ _ _ _ => N9)
  refine compSt_listA (y := Str.ofString "marks") (mu₀ := []) rfl rfl rfl [] (fun i ys mu R => R = [] ∧ mu = [] ∧ ys.length = i) rfl F9 N9 (isList_stays F9.keep cs1) (by simp) (by rw [cs2, sizeLine_eq]; omega) (by simp) rfl (fun q hq => ⟨hq, by simp⟩) (by rintro i ys mu R ⟨rfl, rfl, hys⟩; omega) ⟨rfl, rfl, rfl⟩ (by decide) rfl rfl ?_ ?_
  · refine turn_plain ?_
    rintro g2 C i v9 ys mu R h tk mr hg hi hv9 ⟨rfl, rfl, hys⟩ F2 N2
    rw [cs2] at hi
    obtain ⟨r, row, r1, r2, r3⟩ := cs3 i hi
    rw [r1] at hv9
    obtain rfl := Option.some.inj hv9
    have st2 : g.StaysIn g2 := fun b o e => hg b o (F9.keep b o e) (by simp)
    have r4 := isList_stays st2 r2
    have hkl := hw.len i hi
    have X2 := X'.keeps st2
    have T2 := T'.keeps st2
    clear F9 N9
    k_steps
    (rename Fr _ _ _ _ => F7)
    (rename News _ _ _ _ => N7)
    exact ⟨_, _, _, [], [], rfl, F7, News.nil, rfl, rfl, rfl, by simp [hys]⟩
  · rintro D9 h9 tk9 ys mu R ⟨rfl, rfl, hys⟩ F8 cd v9
    have N8 := cd.news
    simp only [List.nil_append] at N8
    clear F9 N9
    k_steps
    (rename Fr _ _ _ _ => F7)
    (rename News _ _ _ _ => N7)
    (rename _ ∧ _ => l7)
    show wpAny _ _ _ _ _ _
    refine call_cls (K := hd.heap_1 w.params) (fI := 123) F7 X' N7 (by k_is) (by k_is) (by k_is) fun x dx h3 F3 N3 l3 l4 => ?_
    refine init_spec (fz := g) X' T' F3.keep (by simp only [depth_under_make]; ktr_room) (N3 _ (.head _)).1 (N3 _ (.tail _ (.head _))).1 (N3 _ (.head _)).2.2 (N3 _ (.tail _ (.head _))).2.2 l4 ?_
    intro pa t t1 t2 t3 t4 t5 t6 t7 h4 tk4 n4 hb hx hdx hpa hpf
    (try dsimp only at hb hpf)
    have x1 := (N3 _ (.head _)).2
    have x2 := (N3 _ (.tail _ (.head _))).2
    have x3 := l3 _ (.head _)
    (try dsimp only at x1 x2 x3)
    have gpa : g.get? pa = none := by
      cases e : g.get? pa with
      | none => rfl
      | some o => rw [F3.keep _ _ e] at hpf; cases hpf
    have F4 := Fr.but F3 hb (by simp [Ne.symm x1.1, Ne.symm x2.1]) (by simp [x1.2, x2.2])
    have hD := N3.get (a := _) (o := _) (.tail _ (.tail _ (.head _)))
    have hD4 := hb _ _ hD (by simp only [List.mem_cons, List.not_mem_nil, or_false, not_or]; exact ⟨Nat.ne_of_lt (Nat.lt_trans x3 l4), Nat.ne_of_lt x3⟩)
    refine ⟨rfl, _, F4, fun hB => ret x pa t 0 h4 _ hB (fresh_of bt gpa (by simp)) hpa fun f hf hf2 => ?_⟩
    have fr : ∀ q o, But [] s.heap h4 → h4.get? q = some o → g.get? q = none → h3.get? q = some o → f.get? q = some o := fun q o _ e1 e2 e3 => hf2 q o e1 (fresh_of bt e2 (by simp)) (fun e => by rw [e, hpf] at e3; cases e3)
    have hg0 := (N3 _ (.tail _ (.tail _ (.head _)))).2.2
    refine ⟨dx, c, v, ck, _, D9, D9, n4, t1, t2, t3, t4, t5, t6, t7, hf2 _ _ hx (fresh_of bt x1.2 (by simp)) (fun e => by rw [← e, (N3 _ (.head _)).1] at hpf; cases hpf), hf2 _ _ hdx (fresh_of bt x2.2 (by simp)) (fun e => by rw [← e, (N3 _ (.tail _ (.head _))).1] at hpf; cases hpf), hc.stays hf, hv.stays hf, hk.stays hf, ?_⟩
    refine ⟨_, ⟨_, fr _ _ hB hD4 hg0 hD, rfl, 0, rfl⟩, by simp [cs2], fun i hi => ?_⟩
    simp [cs2, hi]

theorem hide1 {h : Heap} {pa b : Addr} {o : Obj} (e : h.get? b = some o) (n : b ≠ pa) : (hideAll h [pa]).get? b = some o := hideAll_get _ e (by simpa using n)
theorem hide_stays {h : Heap} {S : List Addr} : (hideAll h S).StaysIn h := fun _ _ e => of_hideAll _ e
theorem game_use {s : Shared} {g : Heap} {L : Addr} {m : Str → Option Value} {news : List (Addr × Obj)} {dp un : Nat} {fr : Option (List Env)} {gd : Option (List Code)} {Q E : Value → Shared → Prop} {G : GT} {c v ck : Addr}
    (F : Fr g L s.heap m) (N : News g L s.heap news) (X : (hd.heap_1 w.params).In g) (T : Top p loose mean mg mb g) (room : dp + 6 < recursionLimit) (hc : RowsAt s.heap c G.n G.kids) (hv : IntsAt s.heap v G.n G.val) (hk : BoolsAt s.heap ck G.n G.chk) (hn : G.n ≤ 1000) (hw : G.WF)
    (ret : ∀ x pa t e h' tk', Fr g L h' m → News g L h' ((pa, listOf ((#[] : Array Value).push (.int ((0 : Nat) : Int) t)) e) :: news) → AllNe pa news → GameAt w (hideAll h' [pa]) x pa G → (∀ b, h'.get? b = none → s.heap.get? b = none) → Q (.ref x) { s with heap := h', toks := tk' }) :
    wpAny (model prog w) (ar dp un fr gd) (call (.ref 225) [.ref c, .ref v, .ref ck]) Q E s := by
  refine game_spec (X.keeps F.keep) (T.keeps F.keep) (fun _ _ e => e) room hc hv hk hn hw fun x pa t e h' tk' hb hp0 hp hG => ?_
  have F' := Fr.but0 F hb
  have N' := News.but0 N hb
  refine ret x pa t e h' tk' F' ?_ (allNe_of fun q hq => ne_of_none hp0 (N q hq).1) (hG _ (fun b o e => hide1 (hb b o e (by simp)) (ne_of_none hp0 e)) fun b o e _ n => hide1 e n) fun b e => ?_
  · intro q hq
    rcases List.mem_cons.mp hq with rfl | hq
    · refine ⟨hp, fun e => ?_, ?_⟩
      · obtain ⟨oL, es, ep, hL, _⟩ := F.ns
        have e' : pa = L := e
        rw [e', hL] at hp0; cases hp0
      · cases q : g.get? pa with
        | none => rfl
        | some o => rw [F.keep _ _ q] at hp0; cases hp0
    · exact N' q hq
  · cases q : s.heap.get? b with
    | none => rfl
    | some o => rw [hb b o q (by simp)] at e; cases e
end
end Mine
end
section
open PySem PySem.W PyProof.Rows PySem.Calls PySem.Spec
namespace Mine

def bmStep (f : Nat → Int) (st : Nat × Int × List Int) (k : Nat) : Nat × Int × List Int :=
  (st.1 + 1, if st.2.1 < -(f k) then (-(f k), [1 + (st.1 : Int)]) else if -(f k) = st.2.1 then (st.2.1, st.2.2 ++ [1 + (st.1 : Int)]) else st.2)
def bmV (G : GT) (d nd : Nat) : Nat × Int × List Int := (G.kids nd).foldl (bmStep (negaV G d 1)) (0, -32001, [])
def bmT (G : GT) (d nd j : Nat) : Nat × Int × List Int := ((G.kids nd).take j).foldl (bmStep (negaV G d 1)) (0, -32001, [])
inductive BestJ (G : GT) (d nd : Nat) (D9 : Addr) (V9 : List Value) (c9 : Nat) (pa : Addr) (xs : Array Value) (tn : Tok) (I : Addr) (j : Nat) (ub uf : Option Value) (n : List (Addr × Obj)) : Prop
  | mk (tb : Tok) (e' : Nat) (Df : Addr) (cf : Nat) (vs : List Value) (hn : n = [(D9, listOf V9.toArray c9), (pa, listOf (xs.push (.int nd tn)) e'), (Df, listOf vs.toArray cf)]) (i1 : @LT.lt Nat _ D9 I) (i2 : @LT.lt Nat _ pa I) (i3 : @Ne Nat Df I) (i4 : @Ne Nat pa Df) (i5 : @Ne Nat D9 Df) (hb : ub = some (.int (bmT G d nd j).2.1 tb)) (hf : uf = some (.ref Df)) (i6 : IntsAre vs (bmT G d nd j).2.2) (i7 : vs.length ≤ j)
theorem bmT_fst {G : GT} {d nd : Nat} : ∀ {j : Nat}, j ≤ (G.kids nd).length → (bmT G d nd j).1 = j := by
  intro j
  induction j with
  | zero => intro _; rfl
  | succ j ih =>
    intro h
    have hk := List.getElem?_eq_getElem (l := G.kids nd) (i := j) (by omega)
    unfold bmT
    rw [foldl_take_succ hk]
    show (bmT G d nd j).1 + 1 = j + 1
    rw [ih (by omega)]
theorem bmT_succ {G : GT} {d nd j k : Nat} (hk : (G.kids nd)[j]? = some k) : bmT G d nd (j + 1) = bmStep (negaV G d 1) (bmT G d nd j) k := by
  unfold bmT; rw [foldl_take_succ hk]
theorem bmT_lt {G : GT} {d nd j k : Nat} (hk : (G.kids nd)[j]? = some k) (hj : (bmT G d nd j).1 = j) (h : (bmT G d nd j).2.1 < -(negaV G d 1 k)) : (bmT G d nd (j + 1)).2 = (-(negaV G d 1 k), [1 + (j : Int)]) := by
  rw [bmT_succ hk]; unfold bmStep; simp only [hj, if_pos h]
theorem bmT_eq {G : GT} {d nd j k : Nat} (hk : (G.kids nd)[j]? = some k) (hj : (bmT G d nd j).1 = j) (h : ¬ (bmT G d nd j).2.1 < -(negaV G d 1 k)) (h' : -(negaV G d 1 k) = (bmT G d nd j).2.1) : (bmT G d nd (j + 1)).2 = ((bmT G d nd j).2.1, (bmT G d nd j).2.2 ++ [1 + (j : Int)]) := by
  rw [bmT_succ hk]; unfold bmStep; simp only [hj, if_neg h, if_pos h']
theorem bmT_gt {G : GT} {d nd j k : Nat} (hk : (G.kids nd)[j]? = some k) (h : ¬ (bmT G d nd j).2.1 < -(negaV G d 1 k)) (h' : ¬ -(negaV G d 1 k) = (bmT G d nd j).2.1) : (bmT G d nd (j + 1)).2 = (bmT G d nd j).2 := by
  rw [bmT_succ hk]; unfold bmStep; simp only [if_neg h, if_neg h']
theorem ints_snoc' {ys : List Value} {ns : List Int} {k : Int} {t : Tok} (h : IntsAre ys ns) : IntsAre (ys ++ [.int k t]) (ns ++ [k]) := ints_snoc h
theorem News.rot5 {h₀ h : Heap} {L : Addr} {a b c d e : Addr × Obj} (N : News h₀ L h [a, b, c, d, e]) : News h₀ L h [b, c, d, a] := News.sub N (by
  simp only [List.mem_cons, List.not_mem_nil, or_false]
  intro p hp
  rcases hp with rfl | rfl | rfl | rfl <;> simp)
theorem News.get0 {h₀ h : Heap} {L : Addr} {n : List (Addr × Obj)} {a : Addr} {o : Obj} (N : News h₀ L h n) (hm : (a, o) ∈ n) : h₀.get? a = none := (N _ hm).2.2
theorem truthy_ne {prog : Program} {w : World} {A : Around} {E : Value → Shared → Prop} {s : Shared} {g : Heap} {L : Addr} {news : List (Addr × Obj)} {Q : Bool → Shared → Prop} {l : Addr} {vs : List Value} {c : Nat} (N : News g L s.heap news) (hm : (l, listOf vs.toArray c) ∈ news) (h0 : 0 < vs.length) (h1 : vs.length ≤ 1000)
    (h : ∀ tk, Q true { s with toks := tk }) : wpAny (model prog w) A (truthy (.ref l)) Q E s :=
  wpAny_truthy_list (N.isList hm) (by simp; omega) (by
    have e : (!vs.toArray.isEmpty) = true := by cases vs with
      | nil => simp at h0
      | cons a l => rfl
    rw [e]; exact h _)
section
variable {prog : Program} {w : World} {p : Program} {loose : List Str} {mean : ExcName → Option Value} {mg mb : Str → Option Value}
local macro_rules | `(tactic| ktr_unf) => `(tactic| k_extra "r1")
local macro_rules | `(tactic| k_inst) => `(tactic| exact inst_F (by k_asm) (by assumption) (by assumption))
local macro_rules | `(tactic| ktr_room) => `(tactic| k_extra "r9")
local macro_rules | `(tactic| tb_start) => `(tactic| first | with_reducible assumption | ((try simp only [Array.size_push]); omega))
local macro_rules | `(tactic| walk_at "subscriptTail") => `(tactic| k_extra "g3")
local macro_rules | `(tactic| walk_at "call ref") => `(tactic| k_extra "g13")
local macro_rules | `(tactic| walk_at "isTrue BoolOp") => `(tactic| k_extra "r17")
local macro_rules | `(tactic| walk_at "StF") => `(tactic| exact ⟨_, _, rfl, by assumption, by assumption⟩)
local macro_rules | `(tactic| walk_at "truthy ref") => `(tactic| k_extra "r35")
local macro_rules | `(tactic| walk_at "exec For Name Call cons nil") => `(tactic| refine for_stop ?_)
local macro_rules | `(tactic| walk_at "pyIter ref") => `(tactic| refine for_stop ?_)

set_option maxHeartbeats 1000000 in
theorem best_spec {s : Shared} {fz : Heap} {dp un : Nat} {fr : Option (List Env)} {gd : Option (List Code)} {Q E : Value → Shared → Prop} {gm pa : Addr} {G : GT} {xs : Array Value} {nd : Nat} {tn : Tok} {e : Nat} {d : Nat} {dI : Int} {td tq : Tok}
    (X : (hd.heap_1 w.params).In fz) (T : Top p loose mean mg mb fz) (st : fz.StaysIn s.heap) (room : dp + d + 6 < recursionLimit) (GA : GameAt w fz gm pa G) (hp : s.heap.get? pa = some (listOf (xs.push (.int nd tn)) e)) (hp0 : fz.get? pa = none) (hnd : nd < G.n) (hz : xs.size + d ≤ 970) (hn : G.n ≤ 1000) (hw : G.WF) (hdI : dI = d + 1) (hne : (bmV G d nd).2.2 ≠ [])
    (ret : ∀ D Df vs cf tb h' tk' e', But [pa] s.heap h' → h'.get? pa = some (listOf (xs.push (.int nd tn)) e') → h'.get? D = some { cls := .type "tuple", data := .seq #[.int (bmV G d nd).2.1 tb, .ref Df] } → h'.get? Df = some (listOf vs.toArray cf) → IntsAre vs (bmV G d nd).2.2 → s.heap.get? D = none ∧ s.heap.get? Df = none → Q (.ref D) { s with heap := h', toks := tk' }) :
    wpAny (model prog w) (ar dp un fr gd) (call (.ref 56) [.ref gm, .int dI td, .int 0 tq]) Q E s := by
  have N : ∀ q ∈ [(pa, listOf (xs.push (.int nd tn)) e)], s.heap.get? q.1 = some q.2 ∧ fz.get? q.1 = none := by simp [hp, hp0]
  refine' enter (K := hd.heap_1 w.params) (binds := [(Str.ofString "game", .ref gm), (Str.ofString "depth", .int dI td), (Str.ofString "qdepth", .int 0 tq)]) X T st N ?ho ?hcd (by ktr_room) ?bind ?loc ?h ?c1 ?c2 ?c3 ?c4
  ktr_unf
  intro g L h₁ F N X' T' st' bt lt
  try dsimp only
  k_fold
  have GA' := GA.stays st'
  obtain ⟨dx, c, v, kk, d9, nz, gn, n, t1, t2, t3, t4, t5, t6, t7, a1, a2, a3, a4, a5, a6⟩ := GA.stays st'
  have hkl := hw.len nd hnd
  have IH : NegSpec prog w p loose mean mg mb G d := neg_spec d
  k_steps
  (rename Fr _ _ _ _ => F9)
  show wpAny _ _ _ _ _ _
  refine For_invVF F9 (by rfl) (by rfl) ?_
  k_steps
  (rename IntsAre _ (rangeKs _ _) => I9)
  (rename Fr _ _ _ _ => F9)
  (rename News _ _ _ _ => N9)
  (rename _ ∧ _ => l9)
  rename_i Df9 _ l8 _
  show wpAny _ _ _ _ _ _
  refine iter_I3 (Str.ofString "value") (Str.ofString "best") (Str.ofString "found") (news := [(zqD', listOf zqvs'.toArray zqc'), (pa, listOf (xs.push (.int nd tn)) e), (Df9, listOf #[] 0)])
    (fun I j _ ub uf n => BestJ G d nd zqD' zqvs' zqc' pa xs tn I j ub uf n)
    rfl F9 (News.sub N9 (by simp)) (.head _) ?_ ?_ ?_ ?_
  · intro I hI
    k_lt hI
    exact ⟨_, e, Df9, 0, [], rfl, hI.1, hI.2.1, Nat.ne_of_lt hI.2.2, Nat.ne_of_lt l8, (Ne.symm l9.1), rfl, rfl, .nil, Nat.zero_le _⟩
  · rintro I i u0 u1 u2 n ⟨tb, e', Df, cf, vs, rfl, i1, i2, i3, i4, i5, rfl, rfl, i6, i7⟩
    refine ⟨.head _, fun q hq => ?_⟩
    simp only [List.mem_cons, List.not_mem_nil, or_false] at hq
    rcases hq with rfl | rfl | rfl
    · exact Nat.ne_of_lt i1
    · exact Nat.ne_of_lt i2
    · exact i3
  · clear F9 N9
    rintro I io j v z u0 u1 u2 n h tk hI hv ⟨tb, e', Df, cf, vs, rfl, i1, i2, i3, i4, i5, rfl, rfl, i6, i7⟩ F9 N9
    obtain ⟨hj, tv, rfl⟩ := range_item I9 hv
    obtain ⟨k, hk⟩ : ∃ k, (G.kids nd)[j]? = some k := ⟨_, List.getElem?_eq_getElem hj⟩
    have hkn : k < G.n := hw.lt nd hnd k (List.mem_of_getElem? hk)
    have hj1 := bmT_fst (d := d) (Nat.le_of_lt hj)
    have hvl : vs.length ≤ 1000 := by omega
    clear hI
    replace F9 : Fr g L h _ := F9
    replace N9 : News g L h _ := N9
    try dsimp only at N9
    try k_fold
    k_steps
    all_goals (rename Fr _ _ _ _ => F8)
    all_goals (rename News _ _ _ _ => N8)
    · (rename (bmT G d nd j).2.1 < _ => h9)
      (rename _ ∧ _ => l9)
      have e9 := bmT_lt hk hj1 h9
      refine TurnEndI3.next F8 (News.rot5 N8) (by intro y h1 h2 h3 h4; simp only [if_neg h1, if_neg h2, if_neg h3, if_neg h4]) ⟨?tb1, _, _, _, [.int (1 + (j : Int)) tv], rfl, i1, i2, Ne.symm (Nat.ne_of_lt l9.1), Nat.ne_of_lt l9.2.2.1, Nat.ne_of_lt l9.2.1, ?eq1, rfl, ?eq2, Nat.succ_le_succ (Nat.zero_le _)⟩
      (case eq1 => (rw [e9]; exact rfl))
      (case eq2 => (rw [e9]; exact .cons _ _ .nil))
    · exfalso; (rename ¬ -(negaV G d 1 k) = -(negaV G d 1 k) => h9); exact h9 rfl
    · (rename ¬ (bmT G d nd j).2.1 < _ => h9)
      (rename _ = (bmT G d nd j).2.1 => h8)
      have e9 := bmT_eq hk hj1 h9 h8
      have ep : vs.toArray.push (Value.int (1 + (j : Int)) tv) = (vs ++ [Value.int (1 + (j : Int)) tv]).toArray := by simp
      rw [ep] at N8
      refine TurnEndI3.next F8 N8 (by intro y h1 h2 h3 h4; simp only [if_neg h1, if_neg h2, if_neg h3, if_neg h4]) ⟨?tb2, _, _, _, _, rfl, i1, i2, i3, i4, i5, ?eq1, rfl, ?eq2, ?len⟩
      (case len => (rw [List.length_append]; exact Nat.succ_le_succ i7))
      (case eq1 => (rw [e9]; exact rfl))
      (case eq2 => (rw [e9]; exact ints_snoc i6))
    · (rename ¬ (bmT G d nd j).2.1 < _ => h9)
      (rename ¬ _ = (bmT G d nd j).2.1 => h8)
      have e9 := bmT_gt hk h9 h8
      refine TurnEndI3.next F8 N8 (by intro y h1 h2 h3 h4; simp only [if_neg h1, if_neg h2, if_neg h3, if_neg h4]) ⟨?tb3, _, _, _, _, rfl, i1, i2, i3, i4, i5, ?eq3, rfl, ?eq4, Nat.le_succ_of_le i7⟩
      (case eq3 => (rw [e9]; exact rfl))
      (case eq4 => (rw [e9]; exact i6))
  · clear F9 N9
    rintro I z u0 u1 u2 n h tk ⟨tb, e', Df, cf, vs, rfl, i1, i2, i3, i4, i5, rfl, rfl, i6, i7⟩ F9 N9
    replace F9 : Fr g L h _ := F9
    replace N9 : News g L h _ := N9
    have hs9 := range_size I9
    rw [hs9] at i6 i7
    have hT : bmT G d nd (G.kids nd).length = bmV G d nd := by unfold bmT bmV; rw [List.take_length]
    rw [hT] at i6
    rw [hs9, hT] at F9
    have hvp : 0 < vs.length := by rw [i6.length]; exact List.length_pos_iff.mpr hne
    have hvl : vs.length ≤ 1000 := by omega
    k_steps
    (rename Fr _ _ _ _ => F8)
    (rename News _ _ _ _ => N8)
    refine ⟨_, F8, fun hb => ret _ _ _ _ _ _ _ _ hb (N8.get (by k_mem)) (N8.get (.head _)) (N8.get (by k_mem)) i6 ⟨?_, ?_⟩⟩
    all_goals (rename _ ∧ _ => l6)
    · exact fresh_of bt (N8 _ (.head _)).2.2 (by simpa using (Ne.symm (Nat.ne_of_lt l6.2.1)))
    · exact fresh_of bt (News.get0 (a := Df) N8 (by k_mem)) (by simpa using (Ne.symm i4))
end
end Mine
end
section
open PySem PySem.W PyProof.Rows PySem.Calls PySem.Spec
namespace Mine

structure Grow (D : Int) (j : Nat) (ks : List (List Nat)) (pl : List Nat) : Prop where
  len : ks.length = j
  le : j ≤ pl.length
  ge : 1 ≤ pl.length
  b : pl.length ≤ 20
  fl : ks.flatten = List.range' 1 (pl.length - 1)
  zero : pl[0]? = some 0
  ply : ∀ (i : Nat) (r : List Nat) (k : Nat), ks[i]? = some r → k ∈ r → i < k ∧ ∃ y, pl[i]? = some y ∧ pl[k]? = some (y + 1)
  lt : ∀ (i : Nat) (r : List Nat) (y : Nat), ks[i]? = some r → r ≠ [] → pl[i]? = some y → (y : Int) < D
  root : 0 < j → ∃ r : List Nat, ks[0]? = some r ∧ r ≠ []
/-- the rows that the list cs holds, among the objects R -/
def RowsL (cs : List Value) (R : List (Addr × Obj)) (ks : List (List Nat)) : Prop :=
  cs.length = ks.length ∧ ∀ (i : Nat) (r : List Nat), ks[i]? = some r → ∃ (a : Addr) (row : List Value) (c : Nat), cs[i]? = some (Value.ref a) ∧ (a, listOf row.toArray c) ∈ R ∧ IntsAre row (ZL r)
theorem Grow.step {D : Int} {j : Nat} {ks : List (List Nat)} {pl : List Nat} {y m : Nat} (G : Grow D j ks pl) (hy : pl[j]? = some y) (hm : m = 0 ∨ (m ≤ 3 ∧ (y : Int) < D ∧ pl.length < 18)) (hr : j = 0 → 1 ≤ m) : Grow D (j + 1) (ks ++ [List.range' pl.length m]) (pl ++ List.replicate m (y + 1)) := by
  have hlt : j < pl.length := by
    rcases Nat.lt_or_ge j pl.length with h | h
    · exact h
    · rw [List.getElem?_eq_none h] at hy; cases hy
  have hb := G.b
  have hk : ∀ (i : Nat) (r : List Nat), (ks ++ [List.range' pl.length m])[i]? = some r → ks[i]? = some r ∨ (i = j ∧ r = List.range' pl.length m) := by
    intro i r h
    rcases Nat.lt_trichotomy i j with h1 | h1 | h1
    · rw [List.getElem?_append_left (by rw [G.len]; exact h1)] at h; exact .inl h
    · rw [List.getElem?_append_right (by rw [G.len]; omega), G.len, h1, Nat.sub_self] at h
      exact .inr ⟨h1, by simpa using h.symm⟩
    · rw [List.getElem?_eq_none (by simp [G.len]; omega)] at h; cases h
  have hp : ∀ (i z : Nat), pl[i]? = some z → (pl ++ List.replicate m (y + 1))[i]? = some z := by
    intro i z h
    rw [List.getElem?_append_left (List.getElem?_eq_some_iff.mp h).1]; exact h
  refine ⟨by simp [G.len], by simp; omega, by simp; omega, by simp; omega, ?_, hp _ _ G.zero, ?_, ?_, ?_⟩
  · have hge := G.ge
    simp only [List.flatten_append, G.fl, List.flatten_cons, List.flatten_nil, List.append_nil, List.length_append, List.length_replicate]
    have e : List.range' 1 (pl.length - 1) ++ List.range' (1 + (pl.length - 1)) m = List.range' 1 ((pl.length - 1) + m) := List.range'_append_1
    rw [show 1 + (pl.length - 1) = pl.length by omega] at e
    rw [e]; congr 1; omega
  · intro i r k h1 h2
    rcases hk i r h1 with h | ⟨rfl, rfl⟩
    · obtain ⟨a, z, b, c⟩ := G.ply i r k h h2
      exact ⟨a, z, hp _ _ b, hp _ _ c⟩
    · rw [List.mem_range'_1] at h2
      refine ⟨by omega, y, hp _ _ hy, ?_⟩
      rw [List.getElem?_append_right h2.1, List.getElem?_replicate]
      rw [if_pos (by omega)]
  · intro i r z h1 h2 h3
    rcases hk i r h1 with h | ⟨rfl, rfl⟩
    · refine G.lt i r z h h2 ?_
      have hi : i < ks.length := (List.getElem?_eq_some_iff.mp h).1
      rw [List.getElem?_append_left (by rw [G.len] at hi; omega)] at h3; exact h3
    · rw [hp _ _ hy] at h3
      have := Option.some.inj h3
      subst this
      rcases hm with rfl | hm
      · exact absurd rfl h2
      · exact hm.2.1
  · intro _
    rcases Nat.eq_zero_or_pos j with h0 | h0
    · refine ⟨List.range' pl.length m, ?_, ?_⟩
      · have : ks = [] := List.length_eq_zero_iff.mp (by rw [G.len, h0])
        rw [this]; rfl
      · intro e
        have := congrArg List.length e
        have := hr h0
        simp at *
        omega
    · obtain ⟨r, a, b⟩ := G.root h0
      refine ⟨r, ?_, b⟩
      rw [List.getElem?_append_left (by rw [G.len]; exact h0)]; exact a
theorem Grow.first {D : Int} {ks : List (List Nat)} {pl : List Nat} (G : Grow D 0 ks pl) : pl.length = 1 := by
  have : ks = [] := List.length_eq_zero_iff.mp G.len
  have h := congrArg List.length G.fl
  rw [this] at h
  have := G.ge
  simp at h
  omega
theorem rangeKs_ZL (a n : Nat) : rangeKs (a : Int) n = ZL (List.range' a n) := by
  unfold rangeKs ZL
  rw [List.range'_eq_map_range, List.map_map]
  apply List.map_congr_left
  intro i _
  simp
theorem rowsL_snoc {cs : List Value} {R : List (Addr × Obj)} {ks : List (List Nat)} {a c n : Nat} {us : List Value} {r9 : Addr} (H : RowsL cs R ks) (hi : IntsAre us (rangeKs (a : Int) n)) : RowsL (cs ++ [Value.ref r9]) ((r9, listOf us.toArray c) :: R) (ks ++ [List.range' a n]) := by
  refine ⟨by simp [H.1], fun i r h => ?_⟩
  rcases Nat.lt_trichotomy i ks.length with h1 | h1 | h1
  · rw [List.getElem?_append_left h1] at h
    obtain ⟨x, row, c', e1, e2, e3⟩ := H.2 i r h
    exact ⟨x, row, c', by rw [List.getElem?_append_left (by rw [H.1]; exact h1)]; exact e1, .tail _ e2, e3⟩
  · rw [List.getElem?_append_right (Nat.le_of_eq h1.symm), h1, Nat.sub_self] at h
    have : r = List.range' a n := by simpa using h.symm
    subst this
    refine ⟨r9, us, c, ?_, .head _, rangeKs_ZL a n ▸ hi⟩
    rw [List.getElem?_append_right (by rw [H.1]; omega), H.1, h1, Nat.sub_self]; rfl
  · rw [List.getElem?_eq_none (by simp; omega)] at h; cases h
theorem ints_rep' {ps : List Value} {pl : List Nat} {y m : Nat} {t : Tok} (h : IntsAre ps (ZL pl)) : IntsAre (ps ++ List.replicate m (Value.int ((y : Int) + 1) t)) (ZL (pl ++ List.replicate m (y + 1))) := by
  induction m with
  | zero => simpa using h
  | succ m ih =>
    rw [List.replicate_succ', List.replicate_succ', ← List.append_assoc, ← List.append_assoc]
    have := ints_snoc (t := t) (k := (y : Int) + 1) ih
    simpa [ZL] using this
/-- made between two heaps -/
def MadeL (h h' : Heap) (l : List (Addr × Obj)) : Prop := ∀ p ∈ l, h'.get? p.1 = some p.2 ∧ h.get? p.1 = none
theorem after2 {g h h' : Heap} {L pa : Addr} {m : Str → Option Value} {news l : List (Addr × Obj)} {o o' : Obj} {gg : Obj → List (Addr × Obj)} (F : Fr g L h m) (N : News g L h news) (U : UpdF pa o news gg) (hb : But [pa] h h') (hp : h'.get? pa = some o') (hM : MadeL h h' l) :
    Fr g L h' m ∧ News g L h' (l ++ gg o') ∧ ∀ p ∈ l, ∀ q ∈ gg o', p.1 ≠ q.1 := by
  obtain ⟨F', N'⟩ := after1 F N U hb hp
  refine ⟨F', fun p hq => ?_, fun p hq q hr e => ?_⟩
  · rcases List.mem_append.mp hq with hq | hq
    · obtain ⟨a, b⟩ := hM p hq
      obtain ⟨oL, es, ep, hL, _⟩ := F.ns
      refine ⟨a, fun e => (by rw [e, hL] at b; cases b), ?_⟩
      cases e : g.get? p.1 with
      | none => rfl
      | some o => rw [F.keep _ _ e] at b; cases b
    · exact N' p hq
  · have : q.1 ∈ (gg o').map (·.1) := List.mem_map_of_mem hr
    rw [updF_adr U] at this
    obtain ⟨q', hq', e'⟩ := List.mem_map.mp this
    have h1 := (N q' hq').1
    rw [e', ← e, (hM p hq).2] at h1
    cases h1
theorem made4 {s g h' : Heap} {L pe T Dc Dp : Addr} {oT oP oc op : Obj} {R : List (Addr × Obj)} (N8 : News g L h' ((T, oT) :: (pe, oP) :: (Dc, oc) :: (Dp, op) :: R)) (bt : But [pe] s g) (h1 : T ≠ pe) (h2 : Dc ≠ pe) (h3 : Dp ≠ pe) (i7 : ∀ p ∈ R, p.1 ≠ pe) : MadeL s h' ((T, oT) :: (Dc, oc) :: (Dp, op) :: R) := by
  intro p hp
  have hz : p.1 ≠ pe ∧ p ∈ ((T, oT) :: (pe, oP) :: (Dc, oc) :: (Dp, op) :: R) := by
    rcases List.mem_cons.mp hp with rfl | hp
    · exact ⟨h1, .head _⟩
    rcases List.mem_cons.mp hp with rfl | hp
    · exact ⟨h2, .tail _ (.tail _ (.head _))⟩
    rcases List.mem_cons.mp hp with rfl | hp
    · exact ⟨h3, .tail _ (.tail _ (.tail _ (.head _)))⟩
    exact ⟨i7 p hp, .tail _ (.tail _ (.tail _ (.tail _ hp)))⟩
  exact ⟨(N8 p hz.2).1, fresh_of bt (N8 p hz.2).2.2 (by simpa using hz.1)⟩
inductive GrowJ (l pe Dc9 Dp9 : Addr) (k D : Int) (I : Addr) (j : Nat) (its : Array Value) (n : List (Addr × Obj)) : Prop
  | mk (ks : List (List Nat)) (pl : List Nat) (ps cs : List Value) (R : List (Addr × Obj)) (kq : Int) (tq : Tok) (e' cc cp : Nat) (hi : its = List.toArray ps) (hn : n = (pe, listOf (List.toArray [.ref l, .int kq tq]) e') :: (Dc9, listOf cs.toArray cc) :: (Dp9, listOf ps.toArray cp) :: R)
    (i1 : IntsAre ps (ZL pl)) (i2 : Grow D j ks pl) (i3 : RowsL cs R ks) (i4 : k ≤ kq) (i5 : kq ≤ k + j) (i6 : @LT.lt Nat _ pe I ∧ @LT.lt Nat _ Dc9 I ∧ @LT.lt Nat _ Dp9 I) (i7 : ∀ p ∈ R, p.1 ≠ pe) (i8 : ∀ p ∈ R, p.1 ≠ Dc9) (i9 : ∀ p ∈ R, p.1 ≠ Dp9) (i10 : ∀ p ∈ R, p.1 ≠ I)
theorem grow_turn {g h' : Heap} {L l pe Dc9 Dp9 I r9 E1 E2 : Addr} {oe1 oe2 io : Obj} {m' m₀ : Str → Option Value} {us ps cs : List Value} {R : List (Addr × Obj)} {ks : List (List Nat)} {pl : List Nat} {y j : Nat} {M k kq' D : Int} {tq t : Tok} {e2 c9 cc' cp' tk : Nat} {x a0 : Str} {s₁ : Shared} {Q : Flow → Shared → Prop}
    (F8 : Fr g L h' m') (N8 : News g L h' ((E1, oe1) :: (E2, oe2) :: (r9, listOf us.toArray c9) :: (I, io) :: (pe, listOf (List.toArray [.ref l, .int kq' tq]) e2) :: (Dc9, listOf (cs.toArray.push (.ref r9)) cc') :: (Dp9, listOf (ps ++ List.replicate M.toNat (Value.int ((y : Int) + 1) t)).toArray cp') :: R))
    (hm : ∀ y, y ≠ x → y ≠ a0 → m' y = m₀ y) (hI : IntsAre us (rangeKs (pl.length : Int) ((pl.length : Int) + M - (pl.length : Int)).toNat)) (hy : pl[j]? = some y) (hM0 : 0 ≤ M) (hM : M = 0 ∨ (M ≤ 3 ∧ (y : Int) < D ∧ pl.length < 18)) (hr : j = 0 → 1 ≤ M)
    (l9 : I < r9 ∧ pe < r9 ∧ Dc9 < r9 ∧ Dp9 < r9 ∧ AllLt r9 R) (i1 : IntsAre ps (ZL pl)) (i2 : Grow D j ks pl) (i3 : RowsL cs R ks) (i4 : k ≤ kq') (i5 : kq' ≤ k + j + 1) (i6 : @LT.lt Nat _ pe I ∧ @LT.lt Nat _ Dc9 I ∧ @LT.lt Nat _ Dp9 I) (i7 : ∀ p ∈ R, p.1 ≠ pe) (i8 : ∀ p ∈ R, p.1 ≠ Dc9) (i9 : ∀ p ∈ R, p.1 ≠ Dp9) (i10 : ∀ p ∈ R, p.1 ≠ I) :
    TurnEndG1 g L x a0 m₀ (GrowJ l pe Dc9 Dp9 k D I (j + 1)) (I, io) s₁ Q .next { s₁ with heap := h', toks := tk } := by
  have e1 : ((pl.length : Int) + M - (pl.length : Int)).toNat = M.toNat := by congr 1; omega
  rw [e1] at hI
  have ep : cs.toArray.push (Value.ref r9) = (cs ++ [Value.ref r9]).toArray := by simp
  rw [ep] at N8
  have hne : ∀ {b : Addr}, b < r9 → (∀ p ∈ R, p.1 ≠ b) → ∀ p ∈ (r9, listOf us.toArray c9) :: R, p.1 ≠ b := fun hb hR p hp => by
    rcases List.mem_cons.mp hp with rfl | hp
    · exact Ne.symm (Nat.ne_of_lt hb)
    · exact hR p hp
  refine TurnEndG1.next (n' := (pe, listOf (List.toArray [.ref l, .int kq' tq]) e2) :: (Dc9, listOf (cs ++ [Value.ref r9]).toArray cc') :: (Dp9, listOf (ps ++ List.replicate M.toNat (Value.int ((y : Int) + 1) t)).toArray cp') :: (r9, listOf us.toArray c9) :: R) (its := (ps ++ List.replicate M.toNat (Value.int ((y : Int) + 1) t)).toArray) F8 (News.sub N8 ?_) hm ⟨ks ++ [List.range' pl.length M.toNat], pl ++ List.replicate M.toNat (y + 1), _, _, _, kq', tq, e2, cc', cp', rfl, rfl, ints_rep' i1, i2.step hy (by omega) (by omega), rowsL_snoc i3 hI, i4, by omega, i6, hne l9.2.1 i7, hne l9.2.2.1 i8, hne l9.2.2.2.1 i9, hne l9.1 i10⟩
  intro p hp
  simp only [List.mem_cons] at hp ⊢
  rcases hp with hp | hp | hp | hp | hp | hp <;> simp [hp]
theorem News.rev3 {h₀ h : Heap} {L : Addr} {a b c d : Addr × Obj} (N : News h₀ L h [a, b, c, d]) : News h₀ L h [d, c, b] := News.sub N (by
  simp only [List.mem_cons, List.not_mem_nil, or_false]
  intro p hp
  rcases hp with rfl | rfl | rfl <;> simp)
theorem mod3 {prog : Program} {w : World} {A : Around} {E : Value → Shared → Prop} {s : Shared} {Q : Value → Shared → Prop} {a : Int} {t u : Tok} (h : ∀ r t tk, 0 ≤ r → r < 3 → Q (.int r t) { s with toks := tk }) : wpAny (model prog w) A (binaryOp .Mod (.int a t) (.int 3 u)) Q E s :=
  mod_int (by decide) (h _ _ _ (fm_lo (by decide)) (fm_hi (by decide)))
theorem list_rng {prog : Program} {w : World} {A : Around} {E : Value → Shared → Prop} {s : Shared} {h₀ : Heap} {L r : Addr} {m : Str → Option Value} {news : List (Addr × Obj)} {a b : Int} {t₀ u₀ v₀ : Tok} {Q : Value → Shared → Prop} (hh : A.handled = none) (F : Fr h₀ L s.heap m) (N : News h₀ L s.heap news) (hr : IsRange s.heap r a b 1 t₀ u₀ v₀) (h0 : 0 ≤ a) (h1 : a ≤ b) (h2 : b ≤ 1000)
    (h : ∀ D us c h' tk, Fr h₀ L h' m → News h₀ L h' ((D, listOf (List.toArray us) c) :: news) → (∀ p ∈ news, p.1 < D) → IntsAre us (rangeKs a (b - a).toNat) → Q (.ref D) { s with heap := h', toks := tk }) :
    wpAny (model prog w) A (call (.type "list") [.ref r]) Q E s :=
  kll_range hh F N hr (small_one (by omega) (by omega) (by omega) (by omega)) (rangeSize_nat _ _) (by omega) h
theorem updF_upd {D : Addr} {o o' : Obj} {l : List (Addr × Obj)} {g : Obj → List (Addr × Obj)} (U : UpdF D o l g) : Upd D o o' l (g o') := by
  induction U with
  | head h => exact .head h
  | tail h _ ih => exact .tail h ih
theorem ext_use {prog : Program} {w : World} {A : Around} {E : Value → Shared → Prop} {s : Shared} {h₀ : Heap} {L D b : Addr} {m : Str → Option Value} {news : List (Addr × Obj)} {gg : Obj → List (Addr × Obj)} {ps ws : List Value} {n n2 : Nat} {Q : Value → Shared → Prop} (F : Fr h₀ L s.heap m) (N : News h₀ L s.heap news) (hb : (b, listOf ws.toArray n2) ∈ news) (U : UpdF D (listOf ps.toArray n) news gg) (h1 : ps.length ≤ 1000) (h2 : ws.length ≤ 1000)
    (h : ∀ h' n', Fr h₀ L h' m → News h₀ L h' (gg (listOf (ps ++ ws).toArray n')) → Q .none { s with heap := h' }) : wpAny (model prog w) A (call (.builtin "list.extend") [.ref D, .ref b]) Q E s := by
  have hd : ¬(!ps.toArray.isEmpty && Builtin.List.listTooLong (ps.toArray.size + ws.toArray.size)) = true := by
    have : Builtin.List.listTooLong (ps.toArray.size + ws.toArray.size) = false := by
      simp [Builtin.List.listTooLong, sizeLine]; omega
    rw [this]; simp
  by_cases hw : ws = []
  · subst hw
    refine kxn_extend F N hb rfl (updF_upd U) hd (by simp [sizeLine_eq]; omega) (by simp [sizeLine_eq]; omega) fun h' F' N' => h h' n F' ?_
    rw [List.append_nil]; exact N'
  · refine kl_extend F N hb rfl ?_ (updF_upd U) hd (by simp [sizeLine_eq]; omega) (by simp [sizeLine_eq]; omega) fun h' F' N' => h h' _ F' N'
    simpa using hw
theorem len_NI {prog : Program} {w : World} {A : Around} {E : Value → Shared → Prop} {s : Shared} {g : Heap} {L : Addr} {news : List (Addr × Obj)} {Q : Value → Shared → Prop} {l : Addr} {row : List Value} {ks : List Nat} {c : Nat} (N : News g L s.heap news) (hl : (l, listOf row.toArray c) ∈ news) (hi : IntsAre row (ZL ks)) (hz : ks.length ≤ 20)
    (h : ∀ t tk, Q (.int (ks.length : Int) t) { s with toks := tk }) : wpAny (model prog w) A (call (.builtin "len") [.ref l]) Q E s := by
  have e : row.toArray.size = ks.length := by simp [hi.length]
  exact len_N N hl (by rw [e]; omega) (by rw [e]; exact h)
section
variable {prog : Program} {w : World} {p : Program} {loose : List Str} {mean : ExcName → Option Value} {mg mb : Str → Option Value}
local macro_rules | `(tactic| ktr_unf) => `(tactic| k_extra "r1")
local macro_rules | `(tactic| k_inst) => `(tactic| exact inst_F (by k_asm) (by assumption) (by assumption))
local macro_rules | `(tactic| ktr_room) => `(tactic| k_extra "r9")
local macro_rules | `(tactic| tb_start) => `(tactic| first | with_reducible assumption | ((try simp only [Array.size_push]); omega))
local macro_rules | `(tactic| walk_at "none here") => `(tactic| fail)
local macro_rules | `(tactic| walk_at "call builtin:len") => `(tactic| k_extra "r36")
local macro_rules | `(tactic| walk_at "binaryOp Mod int int") => `(tactic| k_extra "r37")
local macro_rules | `(tactic| walk_at "call type:list") => `(tactic| k_extra "r38")
local macro_rules | `(tactic| walk_at "call builtin:list.extend") => `(tactic| k_extra "r39")
local macro_rules | `(tactic| walk_at "exec For Name Name cons nil") => `(tactic| refine for_stop ?_)
local macro_rules | `(tactic| k_all) => `(tactic| with_reducible assumption)
local macro_rules | `(tactic| walk_at "call ref") => `(tactic| k_extra "r40")
local macro_rules | `(tactic| walk_at "binaryOp Mult ref int") => `(tactic| k_extra "r33")

set_option maxHeartbeats 1000000 in
theorem grown_spec {s : Shared} {fz : Heap} {dp un : Nat} {fr : Option (List Env)} {gd : Option (List Code)} {Q E : Value → Shared → Prop} {pe l : Addr} {vs : List Value} {ns : List Int} {k D : Int} {tk0 tD : Tok} {e : Nat}
    (X : (hd.heap_1 w.params).In fz) (T : Top p loose mean mg mb fz) (st : fz.StaysIn s.heap) (room : dp + 2 < recursionLimit) (hp : s.heap.get? pe = some (listOf (List.toArray [.ref l, .int k tk0]) e)) (hp0 : fz.get? pe = none) (hl : fz.IsList l vs.toArray) (hi : IntsAre vs ns) (hns : ns.length ≤ 1000) (hk0 : 0 ≤ k) (hk1 : k ≤ 10000) (hD : 1 ≤ D) (hD1 : D ≤ 100)
    (ret : ∀ T Dc Dp cs ps R ks pl kq tq e' cc cp h' tk', But [pe] s.heap h' → h'.get? pe = some (listOf (List.toArray [.ref l, .int kq tq]) e') → k ≤ kq → kq ≤ k + 20 → Grow D pl.length ks pl → IntsAre ps (ZL pl) → RowsL cs R ks →
      MadeL s.heap h' ((T, { cls := .type "tuple", data := .seq #[.ref Dc, .ref Dp] }) :: (Dc, listOf (List.toArray cs) cc) :: (Dp, listOf (List.toArray ps) cp) :: R) → @LT.lt Nat _ Dc T ∧ @LT.lt Nat _ Dp T ∧ @LT.lt Nat _ Dc Dp → (∀ p ∈ R, p.1 ≠ Dc) → (∀ p ∈ R, p.1 ≠ Dp) → AllLt T R → Q (.ref T) { s with heap := h', toks := tk' }) :
    wpAny (model prog w) (ar dp un fr gd) (call (.ref 220) [.ref pe, .int D tD]) Q E s := by
  have N : ∀ q ∈ [(pe, listOf (List.toArray [.ref l, .int k tk0]) e)], s.heap.get? q.1 = some q.2 ∧ fz.get? q.1 = none := by simp [hp, hp0]
  refine' enter (K := hd.heap_1 w.params) (binds := [(Str.ofString "pea", .ref pe), (Str.ofString "depth", .int D tD)]) X T st N ?ho ?hcd (by ktr_room) ?bind ?loc ?h ?c1 ?c2 ?c3 ?c4
  ktr_unf
  intro g L h₁ F N X' T' st' bt lt
  try dsimp only
  k_fold
  have hl' : g.IsList l vs.toArray := isList_stays st' hl
  k_steps
  (rename Fr _ _ _ _ => F9)
  (rename News _ _ _ _ => N9)
  (rename _ ∧ _ ∧ _ => l9)
  rename_i Dc9 _ l7 Dp9 _ l8 T9 _ _ _ _
  show wpAny _ _ _ _ _ _
  refine For_grow F9 (by rfl) (by rfl) (ld F9 (by rfl) ?_)
  refine iter_G1 (Str.ofString "many") 20 (GrowJ l pe Dc9 Dp9 k D) rfl F9 (News.rev3 N9) (.tail _ (.tail _ (.head _))) ?_ ?_ ?_ ?_
  · intro I hI
    k_lt hI
    exact ⟨[], [0], _, [], [], k, tk0, e, 0, 0, rfl, rfl, .cons 0 _ .nil, ⟨rfl, Nat.zero_le _, Nat.le_refl _, by decide, rfl, rfl, by simp, by simp, by simp⟩, ⟨rfl, by simp⟩, Int.le_refl _, by simp, hI, by simp, by simp, by simp, by simp⟩
  · rintro I i its n ⟨ks, pl, ps, cs, R, kq, tq, e', cc, cp, rfl, rfl, i1, i2, i3, i4, i5, i6, i7, i8, i9, i10⟩
    have hl : ps.length = pl.length := by rw [i1.length]; simp
    refine ⟨by simpa [hl] using i2.b, by simpa [hl] using i2.le, ⟨cp, .tail _ (.tail _ (.head _))⟩, ?_⟩
    intro q hq
    rcases List.mem_cons.mp hq with rfl | hq
    · exact Nat.ne_of_lt i6.1
    rcases List.mem_cons.mp hq with rfl | hq
    · exact Nat.ne_of_lt i6.2.1
    rcases List.mem_cons.mp hq with rfl | hq
    · exact Nat.ne_of_lt i6.2.2
    exact i10 q hq
  · clear F9 N9
    rintro I io j its v z u0 n h tk hv ⟨ks, pl, ps, cs, R, kq, tq, e', cc, cp, rfl, rfl, i1, i2, i3, i4, i5, i6, i7, i8, i9, i10⟩ F9 N9
    obtain ⟨y, ty, hy, rfl⟩ := row_item i1 hv
    have hb := i2.b
    have hle := i2.le
    have hlt : j < pl.length := by
      rcases Nat.lt_or_ge j pl.length with h | h
      · exact h
      · rw [List.getElem?_eq_none h] at hy; cases hy
    have hpl : ps.length ≤ 1000 := by rw [i1.length]; simp; omega
    have hcl : cs.length = j := i3.1.trans i2.len
    replace F9 : Fr g L h _ := F9
    replace N9 : News g L h _ := N9
    try dsimp only at N9
    try k_fold
    have hj0 : j = 0 → pl.length = 1 ∧ y = 0 := by
      rintro rfl
      refine ⟨i2.first, ?_⟩
      rw [i2.zero] at hy
      exact (Option.some.inj hy).symm
    k_steps
    all_goals (rename Fr _ _ _ _ => F8)
    all_goals (rename News _ _ _ _ => N8)
    all_goals (rename IntsAre _ (rangeKs _ _) => I8)
    all_goals refine grow_turn F8 N8 (by intro y h1 h2; simp only [if_neg h1, if_neg h2]) I8 hy (by omega) (by omega) (by omega) (by assumption) i1 i2 i3 (by omega) (by omega) i6 i7 i8 i9 i10
  · clear F9 N9
    rintro I its z u0 n h tk ⟨ks, pl, ps, cs, R, kq, tq, e', cc, cp, rfl, rfl, i1, i2, i3, i4, i5, i6, i7, i8, i9, i10⟩ F9 N9
    replace F9 : Fr g L h _ := F9
    replace N9 : News g L h _ := N9
    k_steps
    (rename Fr _ _ _ _ => F8)
    (rename News _ _ _ _ => N8)
    (rename _ ∧ _ ∧ _ ∧ _ => l6)
    have e9 : ps.toArray.size = pl.length := by rw [List.size_toArray, i1.length]; simp
    rw [e9] at i2 i5
    have hb := i2.b
    refine ⟨_, F8, fun hB => ret _ _ _ cs ps R ks pl kq tq e' cc cp _ _ hB (N8 _ (.tail _ (.head _))).1 i4 (by omega) i2 i1 i3 (fun p hp => ?_) ⟨l6.2.1, l6.2.2.1, l8.1⟩ i8 i9 l6.2.2.2⟩
    exact made4 N8 bt (Ne.symm (Nat.ne_of_lt l6.1)) (Ne.symm (Nat.ne_of_lt l7)) (Ne.symm (Nat.ne_of_lt l8.2)) i7 p hp
end
end Mine
end
section
open PySem PySem.W PyProof.Rows PySem.Calls PySem.Spec
namespace Mine

def GT.set0 (G : GT) (ks : List Nat) : GT := { G with kids := fun i => if i = 0 then ks else G.kids i }
def kid0 (G : GT) (j : Nat) : Nat := (G.kids 0).getD j 0
def aloneK (G : GT) (B : List Nat) : List Nat := B.map (kid0 G)
theorem pick1 (items : Array Value) : (slicePick items (some 1) none none).toList = items.toList.drop 1 := by
  rw [kms_pick_eq]
  show ((items.toList.drop (min 1 items.toList.length)).take (items.toList.length - min 1 items.toList.length)) = _
  rw [kmk_drop_min]
  apply List.take_of_length_le
  rw [List.length_drop]; omega
theorem slice1 {prog : Program} {w : World} {A : Around} {E : Value → Shared → Prop} {s : Shared} {h₀ : Heap} {L l : Addr} {m : Str → Option Value} {news : List (Addr × Obj)} {value slice : PySem.Expr} {its : Array Value} {vl vu : Value} {Q : Value → Shared → Prop} (F : Fr h₀ L s.heap m) (N : News h₀ L s.heap news) (hl : h₀.IsList l its) (pl : IsPart vl (some 1)) (pu : IsPart vu none) (hz : its.size ≤ 1000)
    (h : ∀ D h', Fr h₀ L h' m → News h₀ L h' ((D, listOf (its.toList.drop 1).toArray 0) :: news) → (∀ p ∈ news, p.1 < D) → Q (.ref D) { s with heap := h' })
    (hs : subscripted slice false (.ref l) (.ref s.heap.objs.size) = operate [.ref s.heap.objs.size, .ref l] (getItem (.ref l) (.ref s.heap.objs.size))) (ht : ∀ r, letTemporaryGo value (.ref l) r = pure ()) :
    wpAny (model prog w) A (subscriptTail value slice (.ref l) (.ref s.heap.objs.size)) Q E { s with heap := s.heap.push { cls := .type "slice", data := .fields #[vl, vu, .none] } } :=
  kmk_slice_lit F N (isList_stays F.keep hl) pl pu (pick1 its) h hs ht (by rw [sizeLine_eq]; omega)
theorem add_ls {prog : Program} {w : World} {A : Around} {E : Value → Shared → Prop} {s : Shared} {h₀ : Heap} {L a b : Addr} {m : Str → Option Value} {news : List (Addr × Obj)} {xs ys : List Value} {ca cb : Nat} {Q : Value → Shared → Prop} (F : Fr h₀ L s.heap m) (N : News h₀ L s.heap news) (ha : (a, listOf xs.toArray ca) ∈ news) (hb : (b, listOf ys.toArray cb) ∈ news) (hx : xs.length ≤ 1000) (hy : ys.length ≤ 1000)
    (h : ∀ D h', Fr h₀ L h' m → News h₀ L h' ((D, listOf (xs ++ ys).toArray 0) :: news) → (∀ p ∈ news, p.1 < D) → Q (.ref D) { s with heap := h' }) : wpAny (model prog w) A (binaryOp .Add (.ref a) (.ref b)) Q E s :=
  kmk_add_lit F N (N.isList ha) (N.isList hb) rfl h (by rw [sizeLine_eq]; simp; omega)
theorem ne_pair {prog : Program} {w : World} {A : Around} {E : Value → Shared → Prop} {s : Shared} {g : Heap} {L : Addr} {news : List (Addr × Obj)} {Q : Value → Shared → Prop} {T1 D1 T2 D2 : Addr} {a b : Int} {ta tb : Tok} {xs ys : List Value} {ns ms : List Int} {c1 c2 : Nat} (N : News g L s.heap news)
    (h1 : (T1, ({ cls := .type "tuple", data := .seq #[.int a ta, .ref D1] } : Obj)) ∈ news) (h2 : (D1, listOf xs.toArray c1) ∈ news) (h3 : (T2, ({ cls := .type "tuple", data := .seq #[.int b tb, .ref D2] } : Obj)) ∈ news) (h4 : (D2, listOf ys.toArray c2) ∈ news)
    (hi : IntsAre xs ns) (hj : IntsAre ys ms) (hu : A.units + 64 < cLine) (he : a = b ∧ ns = ms) (h : Q (.bool false) s) : wpAny (model prog w) A (compareOp .NotEq (.ref T1) (.ref T2)) Q E s := by
  refine ne_dataH (reads_tuple_at (N _ h1).1 rfl rfl (.cons (.int _ _) (.cons (reads_newData (N.isList h2) (ke_carried hi)) .nil))) (reads_tuple_at (N _ h3).1 rfl rfl (.cons (.int _ _) (.cons (reads_newData (N.isList h4) (ke_carried hj)) .nil))) ?_ ?_ hu ?_
  · simp [SeqAt.shaped, PyData.canLay0, PyData.canLayAll0, PyData.depth, PyData.depthAll, ke_canLayAll0, ke_depthAll]
  · simp [SeqAt.shaped, PyData.canLay0, PyData.canLayAll0, PyData.depth, PyData.depthAll, ke_canLayAll0, ke_depthAll]
  · obtain ⟨rfl, rfl⟩ := he
    simpa [PyData.eqv, PyData.eqvAll, ked_eqvAll] using h
theorem fr_hide {g h : Heap} {L pa : Addr} {m : Str → Option Value} (F : Fr g L h m) (h0 : g.get? pa = none) : g.StaysIn (hideAll h [pa]) := fun b o e => hide1 (F.keep b o e) fun q => by rw [q, h0] at e; cases e
theorem hid0 {h : Heap} {pa : Addr} : (hideAll h [pa]).get? pa = none := hideAll_none _ (.head _)
theorem upd_head {pa : Addr} {o : Obj} {news : List (Addr × Obj)} (h : AllNe pa news) : UpdF pa o ((pa, o) :: news) (fun o' => (pa, o') :: news) := by
  refine .head ?_
  induction news with
  | nil => simp
  | cons a l ih =>
    intro p hp
    rcases List.mem_cons.mp hp with rfl | hp
    · exact h.1
    · exact ih h.2 p hp
section
variable {prog : Program} {w : World} {p : Program} {loose : List Str} {mean : ExcName → Option Value} {mg mb : Str → Option Value} {s : Shared} {g : Heap} {L : Addr} {m : Str → Option Value} {news : List (Addr × Obj)} {dp un : Nat} {fr : Option (List Env)} {gd : Option (List Code)} {Q E : Value → Shared → Prop} {gm pa : Addr} {G : GT} {xs : Array Value} {nd : Nat} {tn : Tok} {e : Nat} {d : Nat} {dI i : Int} {td ti tq : Tok}
theorem neg_now (F : Fr g L s.heap m) (N : News g L s.heap ((pa, listOf (xs.push (.int nd tn)) e) :: news)) (hne : AllNe pa news) (X : (hd.heap_1 w.params).In g) (T : Top p loose mean mg mb g) (GA : GameAt w (hideAll s.heap [pa]) gm pa G) (room : dp + d + 5 < recursionLimit) (hnd : nd < G.n) (hz : xs.size + d ≤ 980) (hn : G.n ≤ 1000) (hw : G.WF) (hdI : dI = d)
    (ret : ∀ t h' tk' e', Fr g L h' m → News g L h' ((pa, listOf (xs.push (.int nd tn)) e') :: news) → Q (.int (negaV G d i nd) t) { s with heap := h', toks := tk' }) :
    wpAny (model prog w) (ar dp un fr gd) (call (.ref 49) [.ref gm, .int dI td, .int i ti, .int 0 tq]) Q E s := by
  have z := N _ (.head _)
  refine neg_spec d (X.keeps (fr_hide F z.2.2)) (T.keeps (fr_hide F z.2.2)) hide_stays room GA z.1 hid0 hnd hz hn hw hdI fun x t h' tk' e' hx hb hp => ?_
  subst hx
  obtain ⟨F', N'⟩ := after1 F N (upd_head hne) hb hp
  exact ret t h' tk' e' F' N'
theorem best_now (F : Fr g L s.heap m) (N : News g L s.heap ((pa, listOf (xs.push (.int nd tn)) e) :: news)) (hne : AllNe pa news) (X : (hd.heap_1 w.params).In g) (T : Top p loose mean mg mb g) (GA : GameAt w (hideAll s.heap [pa]) gm pa G) (room : dp + d + 6 < recursionLimit) (hnd : nd < G.n) (hz : xs.size + d ≤ 970) (hn : G.n ≤ 1000) (hw : G.WF) (hdI : dI = d + 1) (hbm : (bmV G d nd).2.2 ≠ [])
    (ret : ∀ D Df vs cf tb h' tk' e', Fr g L h' m → News g L h' ((D, { cls := .type "tuple", data := .seq #[.int (bmV G d nd).2.1 tb, .ref Df] }) :: (Df, listOf vs.toArray cf) :: (pa, listOf (xs.push (.int nd tn)) e') :: news) → IntsAre vs (bmV G d nd).2.2 → AllNe D ((pa, listOf (xs.push (.int nd tn)) e) :: news) → AllNe Df ((pa, listOf (xs.push (.int nd tn)) e) :: news) → Q (.ref D) { s with heap := h', toks := tk' }) :
    wpAny (model prog w) (ar dp un fr gd) (call (.ref 56) [.ref gm, .int dI td, .int 0 tq]) Q E s := by
  have z := N _ (.head _)
  refine best_spec (X.keeps (fr_hide F z.2.2)) (T.keeps (fr_hide F z.2.2)) hide_stays room GA z.1 hid0 hnd hz hn hw hdI hbm fun D Df vs cf tb h' tk' e' hb hp h1 h2 h3 h4 => ?_
  have hM : MadeL s.heap h' [(D, { cls := .type "tuple", data := .seq #[.int (bmV G d nd).2.1 tb, .ref Df] }), (Df, listOf vs.toArray cf)] := by
    intro p hp
    rcases List.mem_cons.mp hp with rfl | hp
    · exact ⟨h1, h4.1⟩
    rcases List.mem_cons.mp hp with rfl | hp
    · exact ⟨h2, h4.2⟩
    cases hp
  obtain ⟨F', N', hq⟩ := after2 F N (upd_head hne) hb hp hM
  exact ret D Df vs cf tb h' tk' e' F' N' h3 (allNe_of fun q hq => ne_of_none h4.1 (N q hq).1) (allNe_of fun q hq => ne_of_none h4.2 (N q hq).1)
end
theorem set0_wf {G : GT} {ks : List Nat} (hw : G.WF) (hk : ∀ k ∈ ks, k < G.n) (hl : ks.length ≤ 1000) (hc : G.chk 0 = true → ks = []) : (G.set0 ks).WF := by
  refine ⟨fun nd h => ?_, fun nd h k hk' => ?_, fun nd h hc' => ?_⟩
  · by_cases e : nd = 0
    · simpa [GT.set0, e] using hl
    · simpa [GT.set0, e] using hw.len nd h
  · by_cases e : nd = 0
    · exact hk k (by simpa [GT.set0, e] using hk')
    · exact hw.lt nd h k (by simpa [GT.set0, e] using hk')
  · by_cases e : nd = 0
    · subst e; simpa [GT.set0] using hc hc'
    · simpa [GT.set0, e] using hw.ck nd h hc'
theorem rows_set0 {g h : Heap} {G : GT} {cs : Array Value} {D' D9 : Addr} {ks : List Nat} {ys : List Value} {c c9 : Nat} (st : g.StaysIn h) (cs2 : cs.size = G.n) (cs3 : ∀ i, i < G.n → RowOf g cs i (G.kids i))
    (hD : h.get? D' = some (listOf ([Value.ref D9] ++ cs.toList.drop 1).toArray c)) (h9 : h.get? D9 = some (listOf ys.toArray c9)) (hy : IntsAre ys (ZL ks)) (hn0 : 0 < G.n) : RowsAt h D' (G.set0 ks).n (G.set0 ks).kids := by
  refine ⟨_, ⟨_, hD, rfl, c, rfl⟩, ?_, fun i hi => ?_⟩
  · simp [GT.set0, cs2]; omega
  · by_cases e : i = 0
    · subst e
      exact ⟨D9, ys, by simp, ⟨_, h9, rfl, c9, rfl⟩, by simpa [GT.set0] using hy⟩
    · obtain ⟨r, row, a, b, d⟩ := cs3 i hi
      refine ⟨r, row, ?_, isList_stays st b, by simpa [GT.set0, e] using d⟩
      obtain ⟨j, rfl⟩ : ∃ j, i = j + 1 := ⟨i - 1, by omega⟩
      simp only [List.singleton_append, List.getElem?_toArray, List.getElem?_cons_succ, List.getElem?_drop]
      rw [Nat.add_comm 1 j, Array.getElem?_toList]; exact a
theorem alone_wf {G : GT} {B : List Nat} (hw : G.WF) (hn0 : 0 < G.n) (hB : ∀ j ∈ B, j < (G.kids 0).length) (hl : B.length ≤ 1000) : (G.set0 (aloneK G B)).WF := by
  refine set0_wf hw ?_ (by simpa [aloneK] using hl) ?_
  · intro k hk
    obtain ⟨j, hj, rfl⟩ := List.mem_map.mp hk
    have := hB j hj
    refine hw.lt 0 hn0 _ ?_
    simp [kid0, this]
  · intro hc
    have := hw.ck 0 hn0 hc
    cases B with
    | nil => rfl
    | cons a l => have h2 := hB a (.head _); rw [this] at h2; simp at h2
theorem mem_othersJ {B : List Nat} {n j : Nat} (h : j ∈ (List.range n).filter fun j => !B.contains j) : j < n := List.mem_range.mp (List.mem_filter.mp h).1
theorem item_m1 {prog : Program} {w : World} {A : Around} {E : Value → Shared → Prop} {s : Shared} {g : Heap} {L : Addr} {m : Str → Option Value} {Q : Value → Shared → Prop} {value slice : PySem.Expr} {l : Addr} {its : Array Value} {k : Nat} {u : Tok} {v : Value}
    (F : Fr g L s.heap m) (hl : g.IsList l its) (hx : its[k]? = some v) (hk : k ≤ 1000) (h : Q v s)
    (hs : subscripted slice false (.ref l) (.int (1 + (k : Int) - 1) u) = operate [.ref l, .int (1 + (k : Int) - 1) u] (getItem (.ref l) (.int (1 + (k : Int) - 1) u)) := by with_unfolding_all rfl) :
    wpAny (model prog w) A (subscriptTail value slice (.ref l) (.int (1 + (k : Int) - 1) u)) Q E s :=
  item_g F hl (by omega) (by omega) (by rw [show (1 + (k : Int) - 1).toNat = k by omega]; exact hx) h hs
theorem kid_item {G : GT} {row : List Value} {j : Nat} (r3 : IntsAre row (ZL (G.kids 0))) (hj : j < (G.kids 0).length) : ∃ t, row.toArray[j]? = some (.int (kid0 G j : Int) t) := by
  have e : (ZL (G.kids 0))[j]? = some (kid0 G j : Int) := by
    simp [kid0, hj]
  obtain ⟨t, ht⟩ := r3.get j _ e
  exact ⟨t, by simpa using ht⟩
theorem kid_getD {G : GT} {j : Nat} (hj : j < (G.kids 0).length) : (ZL (G.kids 0)).getD (1 + (j : Int) - 1).toNat 0 = ((kid0 G j : Nat) : Int) := by
  rw [show (1 + (j : Int) - 1).toNat = j by omega]
  simp [kid0, hj, List.getD_eq_getElem?_getD]
theorem kid_getD0 {G : GT} {j : Nat} (hj : j < (G.kids 0).length) : (ZL (G.kids 0)).getD (0 + (j : Int)).toNat 0 = ((kid0 G j : Nat) : Int) := by
  rw [show (0 + (j : Int)).toNat = j by omega]
  simp [kid0, hj, List.getD_eq_getElem?_getD]
def othersJ (B : List Nat) (n : Nat) : List Nat := (List.range n).filter fun j => !B.contains j
def othersK (G : GT) (B : List Nat) : List Nat := (othersJ B (G.kids 0).length).map (kid0 G)
theorem othersJ_in {B : List Nat} {i : Nat} (h : i ∈ B) : othersJ B (i + 1) = othersJ B i := by
  unfold othersJ; rw [List.range_succ, List.filter_append]; simp [h]
theorem othersJ_out {B : List Nat} {i : Nat} (h : ¬ i ∈ B) : othersJ B (i + 1) = othersJ B i ++ [i] := by
  unfold othersJ; rw [List.range_succ, List.filter_append]; simp [h]
theorem zl_snoc1 {l : List Nat} {f : Nat → Nat} {i : Nat} : ZL ((l ++ [i]).map f) = ZL (l.map f) ++ [(f i : Int)] := by simp [ZL]
theorem any_at {B : List Nat} {i : Nat} : ((B.map fun (j : Nat) => 1 + (j : Int)).any (· == (0 + (i : Int) + 1))) = decide (i ∈ B) := by
  induction B with
  | nil => simp
  | cons a l ih =>
    rw [List.map_cons, List.any_cons, ih]
    by_cases h : i = a
    · subst h
      have : ((1 + (i : Int)) == (0 + (i : Int) + 1)) = true := by simp; omega
      rw [this]; simp
    · have : ((1 + (a : Int)) == (0 + (i : Int) + 1)) = false := by simp; omega
      rw [this]; simp [h]
theorem nin_t {prog : Program} {w : World} {A : Around} {E : Value → Shared → Prop} {s : Shared} {l : Addr} {bs : List Value} {B : List Nat} {i : Nat} {t : Tok} {Q : Value → Shared → Prop} (hl : s.heap.IsList l bs.toArray) (hi : IntsAre bs (B.map fun (j : Nat) => 1 + (j : Int))) (hn : ¬ i ∈ B) (h : Q (.bool true) s) : wpAny (model prog w) A (compareOp .NotIn (.int (0 + (i : Int) + 1) t) (.ref l)) Q E s :=
  notin_list_ints hl hi (by rw [any_at]; simpa [hn] using h)
theorem nin_f {prog : Program} {w : World} {A : Around} {E : Value → Shared → Prop} {s : Shared} {l : Addr} {bs : List Value} {B : List Nat} {i : Nat} {t : Tok} {Q : Value → Shared → Prop} (hl : s.heap.IsList l bs.toArray) (hi : IntsAre bs (B.map fun (j : Nat) => 1 + (j : Int))) (hn : i ∈ B) (h : Q (.bool false) s) : wpAny (model prog w) A (compareOp .NotIn (.int (0 + (i : Int) + 1) t) (.ref l)) Q E s :=
  notin_list_ints hl hi (by rw [any_at]; simpa [hn] using h)
theorem others_wf {G : GT} {B : List Nat} (hw : G.WF) (hn0 : 0 < G.n) : (G.set0 (othersK G B)).WF := by
  have hlen : (othersK G B).length ≤ (G.kids 0).length := by
    unfold othersK othersJ
    rw [List.length_map]
    exact Nat.le_trans (List.length_filter_le _ _) (by simp)
  refine set0_wf hw ?_ (Nat.le_trans hlen (hw.len 0 hn0)) ?_
  · intro k hk
    obtain ⟨j, hj, rfl⟩ := List.mem_map.mp hk
    have := mem_othersJ hj
    refine hw.lt 0 hn0 _ ?_
    simp [kid0, this]
  · intro hc
    have := hw.ck 0 hn0 hc
    rw [this] at hlen
    exact List.length_eq_zero_iff.mp (by simpa using hlen)
theorem best_item {bs : List Value} {B : List Nat} {i : Nat} {v : Value} (hi : IntsAre bs (B.map fun (j : Nat) => 1 + (j : Int))) (hv : bs.toArray[i]? = some v) : ∃ j t, B[i]? = some j ∧ v = .int (1 + (j : Int)) t := by
  have hv' : bs[i]? = some v := by simpa using hv
  have hl : bs.length = B.length := by rw [hi.length]; simp
  have hlt : i < B.length := by rw [← hl]; exact (List.getElem?_eq_some_iff.mp hv').1
  obtain ⟨k, hk⟩ : ∃ k, B[i]? = some k := ⟨_, List.getElem?_eq_getElem hlt⟩
  obtain ⟨t, ht⟩ := hi.get i (1 + (k : Int)) (by simp [hk])
  rw [hv'] at ht
  exact ⟨k, t, hk, Option.some.inj ht⟩
theorem zl_snoc {l : List Nat} {f : Nat → Nat} {i k : Nat} (hk : l[i]? = some k) : ZL ((l.take (i + 1)).map f) = ZL ((l.take i).map f) ++ [(f k : Int)] := by
  rw [take_map_snoc hk]; simp [ZL]
section
variable {prog : Program} {w : World} {p : Program} {loose : List Str} {mean : ExcName → Option Value} {mg mb : Str → Option Value}
local macro_rules | `(tactic| ktr_unf) => `(tactic| k_extra "r1")
local macro_rules | `(tactic| k_inst) => `(tactic| exact inst_F (by k_asm) (by assumption) (by assumption))
local macro_rules | `(tactic| ktr_room) => `(tactic| k_extra "r9")
local macro_rules | `(tactic| tb_start) => `(tactic| first | with_reducible assumption | ((try simp only [Array.size_push]); omega))
local macro_rules | `(tactic| walk_at "subscriptTail") => `(tactic| k_extra "g14")
local macro_rules | `(tactic| walk_at "eval Name") => `(tactic| k_extra "g10")
theorem units_def' : cLine = 9900 := rfl
local macro_rules | `(tactic| ktr_units) => `(tactic| k_extra "g15")
local macro_rules | `(tactic| walk_at "subscriptTail Name Slice ref ref") => `(tactic| k_extra "r44")
local macro_rules | `(tactic| walk_at "binaryOp Add ref ref") => `(tactic| k_extra "r45")
local macro_rules | `(tactic| walk_at "compareOp NotEq ref ref") => `(tactic| refine for_stop ?_)
local macro_rules | `(tactic| walk_at "call builtin:len") => `(tactic| k_extra "r5")
local macro_rules | `(tactic| walk_at "compareOp NotIn int ref") => `(tactic| k_extra "r47")
local macro_rules | `(tactic| walk_at "eval ListComp") => `(tactic| refine for_stop ?_)
local macro_rules | `(tactic| walk_at "exec Assign cons ListComp") => `(tactic| refine for_stop ?_)
local macro_rules | `(tactic| k_all) => `(tactic| with_reducible assumption)

set_option maxHeartbeats 400000 in
theorem right_spec {s : Shared} {fz : Heap} {dp un : Nat} {fr : Option (List Env)} {gd : Option (List Code)} {Q E : Value → Shared → Prop} {G : GT} {c v ck bl : Addr} {d : Nat} {D V : Int} {tD tV : Tok} {bs : List Value} {B : List Nat}
    (X : (hd.heap_1 w.params).In fz) (T : Top p loose mean mg mb fz) (st : fz.StaysIn s.heap) (room : dp + d + 12 < recursionLimit) (hun : un + 200 < cLine) (hc : RowsAt fz c G.n G.kids) (hv : IntsAt fz v G.n G.val) (hk : BoolsAt fz ck G.n G.chk) (hbl : fz.IsList bl bs.toArray) (hbi : IntsAre bs (B.map fun (j : Nat) => 1 + (j : Int))) (hB : ∀ j ∈ B, j < (G.kids 0).length) (hBl : B.length ≤ 1000) (hn : G.n ≤ 1000) (hn0 : 0 < G.n) (hw : G.WF) (hD : D = d + 1) (hd9 : d ≤ 900) (hBne : B ≠ []) (hbm : (bmV (G.set0 (aloneK G B)) d 0).2 = (V, rangeKs 1 B.length)) (hoth : othersK G B = [] ∨ negaV (G.set0 (othersK G B)) (d + 1) 0 0 < V)
    (ret : ∀ h' tk', But [] s.heap h' → Q (.bool true) { s with heap := h', toks := tk' }) :
    wpAny (model prog w) (ar dp un fr gd) (call (.ref 235) [.ref c, .ref v, .ref ck, .int D tD, .int V tV, .ref bl]) Q E s := by
  have N : ∀ q ∈ ([] : List (Addr × Obj)), s.heap.get? q.1 = some q.2 ∧ fz.get? q.1 = none := by intro q hq; cases hq
  refine' enterC (K := hd.heap_1 w.params) (binds := [(Str.ofString "children", .ref c), (Str.ofString "values", .ref v), (Str.ofString "checks", .ref ck), (Str.ofString "depth", .int D tD), (Str.ofString "value", .int V tV), (Str.ofString "best", .ref bl)]) X T st N ?ho ?hcd (by ktr_room) ?bind ?kd ?nd ?h ?c1 ?c2 ?c3
  (case ho => k_is); (case hcd => k_is); (case bind => exact BindsTo.of_eq rfl); (case kd => exact rfl); (case nd => decide +kernel); (case c1 => exact rfl); (case c2 => exact rfl); (case c3 => exact rfl)
  intro g L h₁ tk cells F N Y X' T' st' bt l1
  obtain ⟨o1, o2, hE, d1, d2⟩ := Y.two
  subst hE
  replace d1 : o1.data = .cell none := d1
  replace d2 : o2.data = .cell (some _) := d2
  try simp only [List.cons_append, List.nil_append] at N
  try dsimp only
  try k_fold
  obtain ⟨cs, cs1, cs2, cs3⟩ := hc.stays st'
  obtain ⟨r, row, r1, r2, r3⟩ := cs3 0 hn0
  have hkl := hw.len 0 hn0
  have hbl' := isList_stays st' hbl
  k_steps
  show wpAny _ _ _ _ _ _
  refine comp_eval (by with_unfolding_all rfl) rfl (by decide) (by intro _; with_unfolding_all rfl) ?_
  k_steps
  (rename Fr _ _ _ _ => F9)
  (rename News _ _ _ _ => N9)
  have hcsz : cs.size ≤ 1000 := by omega
  have hbz : bs.toArray.size = B.length := by rw [List.size_toArray, hbi.length, List.length_map]
  refine compSt_list (mu₀ := []) [] (fun i ys mu R => R = [] ∧ mu = [] ∧ IntsAre ys (ZL ((B.take i).map (kid0 G)))) rfl F9 N9 (isList_stays F9.keep hbl') (by simp) (by rw [hbz, sizeLine_eq]; omega) (by simp) rfl (fun q hq => ⟨hq, by simp⟩) (by rintro i ys mu R ⟨rfl, rfl, hys⟩; rw [hys.length, List.length_map, List.length_map, List.length_take]; omega) ⟨rfl, rfl, .nil⟩ (by decide) rfl rfl ?_ ?_
  · refine turn_plain ?_
    rintro g2 C i v9 ys mu R h tk mr hg hi hv9 ⟨rfl, rfl, hys⟩ F2 N2
    obtain ⟨j, tk9, hj9, rfl⟩ := best_item hbi hv9
    have hjl := hB j (List.mem_of_getElem? hj9)
    obtain ⟨tz, hz9⟩ := kid_item r3 hjl
    have st2 : g.StaysIn g2 := fun b o e => hg b o (F9.keep b o e) (by simp)
    have X2 := X'.keeps st2
    have T2 := T'.keeps st2
    have r4 := isList_stays st2 r2
    (rename _ = Data.cell (some _) => d9)
    have c1 := hg _ _ (N9 _ (.head _)).1 (by simp)
    clear F9 N9
    k_steps
    (rename Fr _ _ _ _ => F7)
    (rename News _ _ _ _ => N7)
    exact ⟨_, _, _, [], [], rfl, F7, N7, rfl, rfl, rfl, by rw [zl_snoc hj9, ← kid_getD hjl]; exact ints_snoc hys⟩
  · rintro D9 h9 tk9 ys mu R ⟨rfl, rfl, hys⟩ F8 cd
    have N8 := cd.news
    simp only [List.nil_append] at N8
    rw [hbz, List.take_length] at hys
    clear F9 N9
    k_steps
    (rename Fr _ _ _ _ => F9)
    (rename News _ _ _ _ => N9)
    have hw1 := alone_wf hw hn0 hB hBl
    refine game_use (G := G.set0 (aloneK G B)) F9 N9 X' T' (by ktr_room) (rows_set0 F9.keep cs2 cs3 (N9 _ (.head _)).1 (N9 _ (.tail _ (.tail _ (.tail _ (.head _))))).1 hys hn0) ((hv.stays st').stays F9.keep) ((hk.stays st').stays F9.keep) hn hw1 ?_
    clear F9 N9
    intro x1 pa1 t1 e1 h1 tk1 F9 N9 hne1 GA1 _
    k_steps
    have hb1 : (bmV (G.set0 (aloneK G B)) d 0).2.1 = V ∧ (bmV (G.set0 (aloneK G B)) d 0).2.2 = rangeKs 1 B.length := by rw [hbm]; exact ⟨rfl, rfl⟩
    have hb2 : (bmV (G.set0 (aloneK G B)) d 0).2.2 ≠ [] := by
      rw [hb1.2]; intro e; have := congrArg List.length e; rw [rangeKs_length] at this
      exact hBne (List.length_eq_zero_iff.mp this)
    refine best_now (d := d) F9 N9 hne1 X' T' GA1 (by ktr_room) hn0 (by simp only [List.size_toArray, List.length_nil]; omega) hn hw1 hD hb2 ?_
    clear F9 N9
    intro D2 Df2 vs2 cf2 tb2 h2 tk2 e2 F9 N9 I2 n1 n2
    k_steps
    (rename IntsAre _ (rangeKs _ _) => I3)
    (rename News _ _ _ _ => N9)
    (rename Fr _ _ _ _ => F9)
    have eL : ((((B.map fun (j : Nat) => 1 + (j : Int)).length : Nat) : Int) + 1 - 1).toNat = B.length := by rw [List.length_map]; omega
    rw [eL] at I3
    show wpAny _ _ _ _ _ _
    refine ne_pair N9 (.tail _ (.tail _ (.head _))) (.tail _ (.tail _ (.tail _ (.head _)))) (.head _) (.tail _ (.head _)) I2 I3 (by ktr_units) hb1 ?_
    k_steps
    show wpAny _ _ _ _ _ _
    refine comp_assign (by with_unfolding_all rfl) (by with_unfolding_all rfl) rfl (by decide) (by intro _; with_unfolding_all rfl) ?_
    k_steps
    (rename IsRange _ _ _ _ _ _ _ _ => R9)
    (rename Fr _ _ _ _ => F9)
    (rename News _ _ _ _ => N9)
    (rename _ = Data.cell (some (Value.ref r)) => d9)
    have c1 := N9.get (a := L + 1 + 1) (by k_mem)
    have c2 := N9.get (a := L + 1) (o := o2) (by k_mem)
    refine compSt_rangeA (y := Str.ofString "others") (mu₀ := []) rfl rfl rfl [] (fun i ys mu R => R = [] ∧ mu = [] ∧ IntsAre ys (ZL ((othersJ B i).map (kid0 G)))) rfl F9 N9 R9 (small_one (by omega) (by omega) (by omega) (by omega)) (rangeSize_nat _ _) (by rw [sizeLine_eq]; omega) (by simp) rfl (fun q hq => ⟨hq, by simp⟩) (by rintro i ys mu R ⟨rfl, rfl, hys⟩; rw [hys.length, List.length_map, List.length_map]; exact Nat.le_trans (List.length_filter_le _ _) (by simp)) ⟨rfl, rfl, .nil⟩ (by decide) rfl rfl ?_ ?_
    · refine turn_test ?_
      rintro g2 C i v9 ys mu R h tk mr hg hi ⟨t9, rfl⟩ ⟨rfl, rfl, hys⟩ F2 N2
      have hi2 : i < (G.kids 0).length := by omega
      have st2 : g.StaysIn g2 := fun b o e => hg b o (F9.keep b o e) (by simp)
      have X2 := X'.keeps st2
      have T2 := T'.keeps st2
      have r4 := isList_stays st2 r2
      have bl2 := isList_stays st2 hbl'
      replace c1 := hg _ _ c1 (by simp)
      replace c2 := hg _ _ c2 (by simp)
      clear F9 N9
      k_steps
      · (rename List.any _ _ = true => a9)
        have hin : i ∈ B := by
          have := any_at (B := B) (i := i)
          rw [show (0 + (i : Int) + 1) = 0 + (i : Int) + 1 from rfl] at this
          rw [a9] at this; exact of_decide_eq_true this.symm
        (rename Fr _ _ _ _ => F7)
        exact ⟨_, _, _, [], [], rfl, F7, News.nil, rfl, rfl, rfl, by rw [othersJ_in hin]; exact hys⟩
      · (rename List.any _ _ = false => a9)
        have hin : ¬ i ∈ B := by
          have := any_at (B := B) (i := i)
          rw [a9] at this; exact of_decide_eq_false this.symm
        (rename Fr _ _ _ _ => F7)
        exact ⟨_, _, _, [], [], rfl, F7, News.nil, rfl, rfl, rfl, by rw [othersJ_out hin, zl_snoc1, ← kid_getD0 hi2]; exact ints_snoc hys⟩
    · rintro D5 h5 tk5 ys mu R ⟨rfl, rfl, hys⟩ F8 cd v5
      have N8 := cd.news
      simp only [List.nil_append] at N8
      have eN : (((G.kids 0).length : Int) - 0).toNat = (G.kids 0).length := by omega
      rw [eN] at hys
      clear F9 N9 c1 c2
      k_steps
      · (rename decide _ = true => a9)
        exact ⟨_, by assumption, fun hb => by rw [a9]; exact ret _ _ hb⟩
      (rename decide _ = false => a9)
      have hne9 : negaV (G.set0 (othersK G B)) (d + 1) 0 0 < V := by
        rcases hoth with h | h
        · exfalso; exact of_decide_eq_false a9 (by show ZL (othersK G B) = []; rw [h]; rfl)
        · exact h
      (rename Fr _ _ _ _ => F9)
      (rename News _ _ _ _ => N9)
      have hw2 := others_wf (B := B) hw hn0
      refine game_use (G := G.set0 (othersK G B)) F9 N9 X' T' (by ktr_room) (rows_set0 F9.keep cs2 cs3 (N9 _ (.head _)).1 (N9 _ (.tail _ (.tail _ (.tail _ (.tail _ (.head _)))))).1 hys hn0) ((hv.stays st').stays F9.keep) ((hk.stays st').stays F9.keep) hn hw2 ?_
      clear F9 N9
      intro x3 pa3 t3 e3 h3 tk3 F9 N9 hne3 GA3 _
      k_steps
      refine neg_now (d := d + 1) F9 N9 hne3 X' T' GA3 (by ktr_room) hn0 (by simp only [List.size_toArray, List.length_nil]; omega) hn hw2 (by omega) ?_
      clear F9 N9
      intro t4 h4 tk4 e4 F9 N9
      k_steps
      refine ⟨_, F9, fun hb => ?_⟩
      (try simp only [decide_eq_true hne9])
      exact ret _ _ hb
end
end Mine
end
section
open PySem PySem.W PyProof.Rows PySem.Calls PySem.Spec
namespace Mine
theorem snoc_ind {α : Type} {P : List α → Prop} (h0 : P []) (hs : ∀ l a, P l → P (l ++ [a])) (l : List α) : P l := by
  have h : ∀ l : List α, P l.reverse := by
    intro l
    induction l with
    | nil => exact h0
    | cons a l ih => rw [List.reverse_cons]; exact hs _ _ ih
  rw [← List.reverse_reverse l]; exact h _
def mx (l : List Int) : Int := l.foldl stepMax (-32001)
theorem mx_snoc {l : List Int} {a : Int} : mx (l ++ [a]) = stepMax (mx l) a := by simp [mx, List.foldl_append]
theorem le_step (b v : Int) : b ≤ stepMax b v ∧ v ≤ stepMax b v := by unfold stepMax; split <;> omega
theorem mx_ge (l : List Int) : -32001 ≤ mx l := by
  refine snoc_ind (P := fun l => -32001 ≤ mx l) (Int.le_refl _) (fun l a ih => ?_) l
  rw [mx_snoc]; exact Int.le_trans ih (le_step _ _).1
theorem le_mx (l : List Int) : ∀ x ∈ l, x ≤ mx l := by
  refine snoc_ind (P := fun l => ∀ x ∈ l, x ≤ mx l) (by simp) (fun l a ih => ?_) l
  intro x hx
  rw [mx_snoc]
  rcases List.mem_append.mp hx with h | h
  · exact Int.le_trans (ih x h) (le_step _ _).1
  · rw [List.mem_singleton.mp h]; exact (le_step _ _).2
theorem mx_mem' (l : List Int) : mx l = -32001 ∨ mx l ∈ l := by
  refine snoc_ind (P := fun l => mx l = -32001 ∨ mx l ∈ l) (.inl rfl) (fun l a ih => ?_) l
  rw [mx_snoc]
  unfold stepMax
  split
  · exact .inr (by simp)
  · rcases ih with h | h
    · exact .inl h
    · exact .inr (List.mem_append_left _ h)
theorem mx_mem {l : List Int} (h : l ≠ []) (hb : ∀ x ∈ l, -32001 < x) : mx l ∈ l := by
  rcases mx_mem' l with h1 | h1
  · obtain ⟨a, l', rfl⟩ := List.exists_cons_of_ne_nil h
    have := hb a (.head _)
    have := le_mx (a :: l') a (.head _)
    omega
  · exact h1
theorem mx_mono {l l' : List Int} (h : ∀ x ∈ l, ∃ y ∈ l', x ≤ y) : mx l ≤ mx l' := by
  rcases mx_mem' l with h1 | h1
  · rw [h1]; exact mx_ge _
  · obtain ⟨y, hy, h2⟩ := h _ h1
    exact Int.le_trans h2 (le_mx _ _ hy)
theorem nega_mx {G : GT} {m : Nat} {i : Int} {nd : Nat} (h : G.kids nd ≠ []) : negaV G (m + 1) i nd = mx ((G.kids nd).map fun k => -(negaV G m (i + 1) k)) := by
  show (if G.kids nd = [] then _ else _) = _
  rw [if_neg h, mx, List.foldl_map]
theorem nega_end {G : GT} {m : Nat} {i : Int} {nd : Nat} (h : G.kids nd = []) : negaV G (m + 1) i nd = endV G i nd := if_pos h
theorem nega_bd {G : GT} (hv : ∀ i, -100 ≤ G.val i ∧ G.val i ≤ 100) : ∀ (m : Nat) (i : Int) (nd : Nat), 0 ≤ i → i + m ≤ 1000 → -32000 ≤ negaV G m i nd ∧ negaV G m i nd ≤ 32000 := by
  intro m
  induction m with
  | zero =>
    intro i nd h0 h1
    have := hv nd
    show -32000 ≤ leafV G i nd ∧ leafV G i nd ≤ 32000
    unfold leafV; split <;> omega
  | succ m ih =>
    intro i nd h0 h1
    by_cases h : G.kids nd = []
    · rw [nega_end h]; unfold endV; split <;> omega
    · rw [nega_mx h]
      have hall : ∀ x ∈ (G.kids nd).map fun k => -(negaV G m (i + 1) k), -32000 ≤ x ∧ x ≤ 32000 := by
        intro x hx
        obtain ⟨k, _, rfl⟩ := List.mem_map.mp hx
        have := ih (i + 1) k (by omega) (by omega)
        omega
      exact hall _ (mx_mem (by simpa using h) fun x hx => by have := hall x hx; omega)
/-- the numbers of a place's moves, each with its worth -/
def wL (G : GT) (d nd : Nat) : List Int := (G.kids nd).map fun k => -(negaV G d 1 k)
def bestF (l : List Int) : List Nat := (List.range l.length).filter fun j => l.getD j 0 = mx l
def bmF (l : List Int) : Nat × Int × List Int := l.foldl (fun st v => (st.1 + 1, if st.2.1 < v then (v, [1 + (st.1 : Int)]) else if v = st.2.1 then (st.2.1, st.2.2 ++ [1 + (st.1 : Int)]) else st.2)) (0, -32001, [])
theorem bmV_bmF {G : GT} {d nd : Nat} : bmV G d nd = bmF (wL G d nd) := by
  unfold bmV bmF wL; rw [List.foldl_map]; rfl
theorem getD_snoc {l : List Int} {a : Int} {j : Nat} (h : j < l.length) : (l ++ [a]).getD j 0 = l.getD j 0 := by
  rw [List.getD_eq_getElem?_getD, List.getD_eq_getElem?_getD, List.getElem?_append_left h]
theorem getD_last {l : List Int} {a : Int} : (l ++ [a]).getD l.length 0 = a := by
  rw [List.getD_eq_getElem?_getD, List.getElem?_append_right (Nat.le_refl _)]; simp
theorem getD_mem {l : List Int} {j : Nat} (h : j < l.length) : l.getD j 0 ∈ l := by
  rw [List.getD_eq_getElem?_getD, List.getElem?_eq_getElem h]; exact List.getElem_mem h
theorem bmF_is (l : List Int) (hb : ∀ x ∈ l, -32001 < x) : bmF l = (l.length, mx l, (bestF l).map fun (j : Nat) => 1 + (j : Int)) := by
  revert hb
  refine snoc_ind (P := fun l => (∀ x ∈ l, -32001 < x) → bmF l = (l.length, mx l, (bestF l).map fun (j : Nat) => 1 + (j : Int))) (fun _ => rfl) (fun l a ih hb => ?_) l
  have ih := ih fun x hx => hb x (List.mem_append_left _ hx)
  have ha := hb a (by simp)
  have e : bmF (l ++ [a]) = ((bmF l).1 + 1, if (bmF l).2.1 < a then (a, [1 + ((bmF l).1 : Int)]) else if a = (bmF l).2.1 then ((bmF l).2.1, (bmF l).2.2 ++ [1 + ((bmF l).1 : Int)]) else (bmF l).2) := by
    unfold bmF; rw [List.foldl_append]; rfl
  rw [e, ih, mx_snoc]
  have hf : bestF (l ++ [a]) = (List.range l.length).filter (fun j => decide (l.getD j 0 = stepMax (mx l) a)) ++ (if a = stepMax (mx l) a then [l.length] else []) := by
    unfold bestF
    rw [List.length_append, List.length_singleton, List.range_succ, List.filter_append, mx_snoc]
    congr 1
    · apply List.filter_congr
      intro j hj
      rw [getD_snoc (List.mem_range.mp hj)]
    · simp only [List.filter_cons, List.filter_nil, getD_last, decide_eq_true_eq]
  rw [hf]
  have hlt : ∀ j ∈ List.range l.length, l.getD j 0 ≤ mx l := fun j hj => le_mx _ _ (getD_mem (List.mem_range.mp hj))
  simp only [List.length_append, List.length_singleton]
  by_cases h1 : mx l < a
  · have hs : stepMax (mx l) a = a := stepMax_pos h1
    rw [hs, if_pos h1, if_pos rfl]
    have : (List.range l.length).filter (fun j => decide (l.getD j 0 = a)) = [] := by
      rw [List.filter_eq_nil_iff]
      intro j hj
      have := hlt j hj
      simp only [decide_eq_true_eq]; omega
    rw [this]; rfl
  · have hs : stepMax (mx l) a = mx l := stepMax_neg h1
    rw [hs, if_neg h1]
    by_cases h2 : a = mx l
    · rw [if_pos h2, if_pos h2, List.map_append]; rfl
    · rw [if_neg h2, if_neg h2, List.append_nil]; rfl
theorem mem_best {l : List Int} {j : Nat} : j ∈ bestF l ↔ j < l.length ∧ l.getD j 0 = mx l := by
  unfold bestF; rw [List.mem_filter, List.mem_range]; simp
theorem best_ne {l : List Int} (h : l ≠ []) (hb : ∀ x ∈ l, -32001 < x) : bestF l ≠ [] := by
  obtain ⟨j, hj, e⟩ := List.getElem_of_mem (mx_mem h hb)
  intro h0
  have : j ∈ bestF l := mem_best.mpr ⟨hj, by rw [List.getD_eq_getElem?_getD, List.getElem?_eq_getElem hj]; exact e⟩
  rw [h0] at this; cases this
theorem best_len {l : List Int} : (bestF l).length ≤ l.length := Nat.le_trans (List.length_filter_le _ _) (by simp)
theorem mx_rev (l : List Int) : mx l.reverse = mx l := Int.le_antisymm (mx_mono fun x hx => ⟨x, List.mem_reverse.mp hx, Int.le_refl _⟩) (mx_mono fun x hx => ⟨x, List.mem_reverse.mpr hx, Int.le_refl _⟩)
theorem range_rev (n : Nat) : List.range n = ((List.range n).map fun j => n - 1 - j).reverse := by
  apply List.ext_getElem
  · simp
  · intro i h1 h2
    simp at h1
    simp [List.getElem_reverse]; omega
theorem best_rev (l : List Int) : bestF l.reverse = ((bestF l).map fun j => l.length - 1 - j).reverse := by
  unfold bestF
  rw [mx_rev, List.length_reverse]
  conv => lhs; rw [range_rev]
  rw [List.filter_reverse, List.filter_map]
  congr 2
  apply List.filter_congr
  intro j hj
  have hj := List.mem_range.mp hj
  have e : l.reverse.getD (l.length - 1 - j) 0 = l.getD j 0 := by
    rw [List.getD_eq_getElem?_getD, List.getD_eq_getElem?_getD, List.getElem?_reverse (by omega)]
    congr 2; omega
  show decide (l.reverse.getD (l.length - 1 - j) 0 = _) = _
  rw [e]
theorem bm_all {l : List Int} {V : Int} (h : l ≠ []) (hv : ∀ x ∈ l, x = V) (hV : -32001 < V) : (bmF l).2 = (V, rangeKs 1 l.length) := by
  rw [bmF_is l fun x hx => by rw [hv x hx]; exact hV]
  have hm : mx l = V := hv _ (mx_mem h fun x hx => by rw [hv x hx]; exact hV)
  have hb : bestF l = List.range l.length := by
    unfold bestF
    rw [List.filter_eq_self]
    intro j hj
    rw [hm, hv _ (getD_mem (List.mem_range.mp hj))]; simp
  rw [hb, hm]; rfl
end Mine
end
section
open PySem PySem.W PyProof.Rows PySem.Calls PySem.Spec
namespace Mine
def chkF (ks : List (List Nat)) (vals : List Int) (j : Nat) : Bool := decide (ks.getD j [] = []) && decide (Int.fmod (vals.getD j 0 + (j : Int)) 5 = 0)
abbrev rowF (ks : List (List Nat)) (i : Nat) : List Nat := ks.getD i []
abbrev intF (vals : List Int) (i : Nat) : Int := vals.getD i 0
abbrev plyF (pl : List Nat) (i : Nat) : Int := (ZL pl).getD i 0
def gameOf (n : Nat) (ks : List (List Nat)) (vals : List Int) (chk : Nat → Bool) : GT := ⟨n, rowF ks, intF vals, chk⟩
theorem row_some {ks : List (List Nat)} {nd k : Nat} (h : k ∈ rowF ks nd) : ∃ r, ks[nd]? = some r ∧ rowF ks nd = r := by
  unfold rowF at *
  rw [List.getD_eq_getElem?_getD] at *
  cases e : ks[nd]? with
  | none => rw [e] at h; cases h
  | some r => exact ⟨r, rfl, rfl⟩
theorem plyF_some {pl : List Nat} {nd y : Nat} (h : pl[nd]? = some y) : plyF pl nd = y := by
  unfold plyF ZL
  rw [List.getD_eq_getElem?_getD, List.getElem?_map, h]; rfl
section
variable {D : Int} {j : Nat} {ks : List (List Nat)} {pl : List Nat}
theorem Grow.kid (H : Grow D j ks pl) {nd k : Nat} (h : k ∈ rowF ks nd) : nd < k ∧ k < pl.length ∧ ∃ y, pl[nd]? = some y ∧ pl[k]? = some (y + 1) := by
  obtain ⟨r, h1, h2⟩ := row_some h
  obtain ⟨a, y, b, c⟩ := H.ply nd r k h1 (h2 ▸ h)
  exact ⟨a, (List.getElem?_eq_some_iff.mp c).1, y, b, c⟩
theorem Grow.low (H : Grow D j ks pl) {nd y : Nat} (h : rowF ks nd ≠ []) (hy : pl[nd]? = some y) : (y : Int) < D := by
  obtain ⟨k, hk⟩ := List.exists_mem_of_ne_nil _ h
  obtain ⟨r, h1, h2⟩ := row_some hk
  exact H.lt nd r y h1 (h2 ▸ h) hy
theorem len_mem_flatten {α : Type} {r : List α} : ∀ {ks : List (List α)}, r ∈ ks → r.length ≤ ks.flatten.length
  | a :: l, h => by
    rw [List.flatten_cons, List.length_append]
    rcases List.mem_cons.mp h with rfl | h
    · omega
    · have := len_mem_flatten h; omega
theorem Grow.short (H : Grow D j ks pl) (nd : Nat) : (rowF ks nd).length ≤ 19 := by
  have hb := H.b
  rcases Nat.eq_zero_or_pos (rowF ks nd).length with h | h
  · omega
  · obtain ⟨k, hk⟩ := List.exists_mem_of_ne_nil (rowF ks nd) (by intro e; rw [e] at h; simp at h)
    obtain ⟨r, h1, h2⟩ := row_some hk
    rw [h2]
    have := len_mem_flatten (List.mem_of_getElem? h1)
    rw [H.fl, List.length_range'] at this
    omega
theorem Grow.wf (H : Grow D j ks pl) {vals : List Int} {chk : Nat → Bool} (hc : ∀ i, i < pl.length → chk i = true → rowF ks i = []) : (gameOf pl.length ks vals chk).WF :=
  ⟨fun nd _ => Nat.le_trans (H.short nd) (by decide), fun nd _ k hk => (H.kid hk).2.1, fun nd h hc' => hc nd h hc'⟩
theorem chkF_row {vals : List Int} {i : Nat} (h : chkF ks vals i = true) : rowF ks i = [] := by
  unfold chkF at h
  rw [Bool.and_eq_true] at h
  exact of_decide_eq_true h.1
theorem Grow.fin (H : Grow D j ks pl) {vals : List Int} {chk : Nat → Bool} : ∀ {m nd y : Nat}, pl[nd]? = some y → (y : Int) + m = D → (gameOf pl.length ks vals chk).Fin m nd := by
  intro m
  induction m with
  | zero =>
    intro nd y hy hm
    show rowF ks nd = []
    apply Classical.byContradiction
    intro h
    have := H.low h hy
    omega
  | succ m ih =>
    intro nd y hy hm k hk
    obtain ⟨_, _, z, h1, h2⟩ := H.kid (show k ∈ rowF ks nd from hk)
    rw [hy] at h1
    cases h1
    exact ih h2 (by omega)
theorem Grow.nega_law (H : Grow D j ks pl) {vals : List Int} {chk : Nat → Bool} (hv : ∀ v ∈ vals, -100 ≤ v ∧ v ≤ 100) (hD : D ≤ 100) : ∀ {m nd y : Nat}, pl[nd]? = some y → (y : Int) + m = D → negaV (gameOf pl.length ks vals chk) m y nd = lawV (gameOf pl.length ks vals chk) (plyF pl) D m nd := by
  have hv' : ∀ i, -100 ≤ (gameOf pl.length ks vals chk).val i ∧ (gameOf pl.length ks vals chk).val i ≤ 100 := by
    intro i
    show -100 ≤ vals.getD i 0 ∧ vals.getD i 0 ≤ 100
    rw [List.getD_eq_getElem?_getD]
    cases e : vals[i]? with
    | none => decide
    | some v => exact hv v (List.mem_of_getElem? e)
  intro m
  induction m with
  | zero =>
    intro nd y hy hm
    show leafV _ _ _ = lawL _ _ _ _
    unfold leafV lawL
    rw [plyF_some hy, if_neg (show ¬ (y : Int) < D by omega)]
  | succ m ih =>
    intro nd y hy hm
    by_cases h : (gameOf pl.length ks vals chk).kids nd = []
    · rw [nega_end h]
      show _ = (if _ then _ else _)
      rw [if_pos h]
      unfold endV lawL
      rw [plyF_some hy, if_pos (show (y : Int) < D by omega)]
    · rw [nega_mx h]
      show _ = (if _ then _ else _)
      rw [if_neg h]
      have e : ((gameOf pl.length ks vals chk).kids nd).map (fun k => -(negaV (gameOf pl.length ks vals chk) m ((y : Int) + 1) k)) = ((gameOf pl.length ks vals chk).kids nd).map fun k => -(lawV (gameOf pl.length ks vals chk) (plyF pl) D m k) := by
        apply List.map_congr_left
        intro k hk
        obtain ⟨_, _, z, h1, h2⟩ := H.kid (show k ∈ rowF ks nd from hk)
        rw [hy] at h1
        cases h1
        have := ih h2 (by omega)
        rw [show ((y + 1 : Nat) : Int) = (y : Int) + 1 by omega] at this
        rw [this]
      have hall : ∀ x ∈ ((gameOf pl.length ks vals chk).kids nd).map (fun k => -(negaV (gameOf pl.length ks vals chk) m ((y : Int) + 1) k)), -32001 < x := by
        intro x hx
        obtain ⟨k, _, rfl⟩ := List.mem_map.mp hx
        have := nega_bd hv' m ((y : Int) + 1) k (by omega) (by omega)
        omega
      rw [← e]
      exact maxOf_is (mx_mem (by simpa using h) hall) (le_mx _)
theorem cnt_sum {f : Nat → Int} : ∀ (l : List Nat) (c : Int), l.foldl (fun c k => c + f k) c = c + (l.map f).sum
  | [], c => by simp
  | a :: l, c => by rw [List.foldl_cons, cnt_sum l, List.map_cons, List.sum_cons]; omega
theorem sum_flat {f : Nat → Int} : ∀ (l : List (List Nat)), (l.flatten.map f).sum = (l.map fun r => (r.map f).sum).sum
  | [] => rfl
  | a :: l => by rw [List.flatten_cons, List.map_append, List.sum_append, sum_flat l, List.map_cons, List.sum_cons]
theorem sum_one {f g : Nat → Int} : ∀ (l : List Nat), (∀ i ∈ l, f i = 1 + g i) → (l.map f).sum = l.length + (l.map g).sum
  | [], _ => rfl
  | a :: l, h => by
    rw [List.map_cons, List.sum_cons, List.map_cons, List.sum_cons, sum_one l fun i hi => h i (.tail _ hi), h a (.head _), List.length_cons]
    omega
theorem Grow.cnt (H : Grow D pl.length ks pl) {vals : List Int} {chk : Nat → Bool} {d : Nat} (hd : D = d) (hd1 : 1 ≤ d) : cntV (gameOf pl.length ks vals chk) d 0 = pl.length := by
  have hge := H.ge
  have key : ∀ nd ∈ List.range pl.length, (fun nd => cntV (gameOf pl.length ks vals chk) (d - pl.getD nd 0) nd) nd = 1 + (fun nd => ((rowF ks nd).map fun nd => cntV (gameOf pl.length ks vals chk) (d - pl.getD nd 0) nd).sum) nd := by
    intro nd hnd
    have hlt := List.mem_range.mp hnd
    show cntV (gameOf pl.length ks vals chk) (d - pl.getD nd 0) nd = 1 + ((rowF ks nd).map fun nd => cntV (gameOf pl.length ks vals chk) (d - pl.getD nd 0) nd).sum
    have hy : pl[nd]? = some (pl.getD nd 0) := by rw [List.getD_eq_getElem?_getD, List.getElem?_eq_getElem hlt]; rfl
    cases e : d - pl.getD nd 0 with
    | zero =>
      have h : rowF ks nd = [] := by
        apply Classical.byContradiction
        intro h
        have := H.low h hy
        omega
      rw [h]; rfl
    | succ m =>
      show (rowF ks nd).foldl (fun c k => c + cntV (gameOf pl.length ks vals chk) m k) 1 = _
      rw [cnt_sum]
      congr 2
      apply List.map_congr_left
      intro k hk
      obtain ⟨_, _, z, h1, h2⟩ := H.kid hk
      rw [hy] at h1
      have h1 := Option.some.inj h1
      have h3 : pl.getD k 0 = z + 1 := by rw [List.getD_eq_getElem?_getD, h2]; rfl
      rw [h3]
      have : m = d - (z + 1) := by omega
      rw [this]
  have hs := sum_one _ key
  have hks : (List.range pl.length).map (fun nd => ((rowF ks nd).map fun nd => cntV (gameOf pl.length ks vals chk) (d - pl.getD nd 0) nd).sum) = ks.map fun r => (r.map fun nd => cntV (gameOf pl.length ks vals chk) (d - pl.getD nd 0) nd).sum := by
    apply List.ext_getElem
    · simp [H.len]
    · intro i h1 h2
      simp at h1 h2
      simp [rowF, h2]
  rw [hks, ← sum_flat, H.fl] at hs
  have hr : List.range pl.length = 0 :: List.range' 1 (pl.length - 1) := by
    rw [List.range_eq_range']
    obtain ⟨q, hq⟩ : ∃ q, pl.length = q + 1 := ⟨pl.length - 1, by omega⟩
    rw [hq, List.range'_succ]; simp
  have h0 : pl.getD 0 0 = 0 := by rw [List.getD_eq_getElem?_getD, H.zero]; rfl
  rw [hr, List.map_cons, List.sum_cons, List.length_cons, List.length_range'] at hs
  have : cntV (gameOf pl.length ks vals chk) (d - pl.getD 0 0) 0 = cntV (gameOf pl.length ks vals chk) d 0 := by rw [h0, Nat.sub_zero]
  rw [← this]
  have : (pl.length : Int) = ((pl.length - 1 + 1 : Nat) : Int) := by omega
  rw [this]
  clear this
  omega
end
end Mine
end
section
open PySem PySem.W PyProof.Rows PySem.Calls PySem.Spec
namespace Mine
theorem intF_bd {n : Nat} {ks : List (List Nat)} {vals : List Int} {chk : Nat → Bool} (hv : ∀ v ∈ vals, -100 ≤ v ∧ v ≤ 100) : ∀ i, -100 ≤ (gameOf n ks vals chk).val i ∧ (gameOf n ks vals chk).val i ≤ 100 := by
  intro i
  show -100 ≤ vals.getD i 0 ∧ vals.getD i 0 ≤ 100
  rw [List.getD_eq_getElem?_getD]
  cases e : vals[i]? with
  | none => decide
  | some v => exact hv v (List.mem_of_getElem? e)
theorem Grow.root0 {D : Int} {ks : List (List Nat)} {pl : List Nat} (H : Grow D pl.length ks pl) : rowF ks 0 ≠ [] := by
  obtain ⟨r, h1, h2⟩ := H.root H.ge
  unfold rowF
  rw [List.getD_eq_getElem?_getD, h1]; exact h2
section
variable {G : GT} (hv : ∀ i, -100 ≤ G.val i ∧ G.val i ≤ 100) {d : Nat} (hd : d ≤ 900)
include hv hd
theorem wL_gt {nd : Nat} : ∀ x ∈ wL G d nd, -32001 < x := by
  intro x hx
  obtain ⟨k, _, rfl⟩ := List.mem_map.mp hx
  have := nega_bd hv d 1 k (by omega) (by omega)
  omega
theorem best_V (hk : G.kids 0 ≠ []) : (bmV G d 0).2 = (negaV G (d + 1) 0 0, (bestF (wL G d 0)).map fun (j : Nat) => 1 + (j : Int)) := by
  rw [bmV_bmF, bmF_is _ (wL_gt hv hd), nega_mx hk]; rfl
theorem wL_ne (hk : G.kids 0 ≠ []) : wL G d 0 ≠ [] := by
  unfold wL; simpa using hk
theorem bestB_ne (hk : G.kids 0 ≠ []) : bestF (wL G d 0) ≠ [] := best_ne (wL_ne hv hd hk) (wL_gt hv hd)
end
theorem bestB_lt {G : GT} {d : Nat} : ∀ j ∈ bestF (wL G d 0), j < (G.kids 0).length := fun j hj => by
  have := (mem_best.mp hj).1
  simpa [wL] using this
theorem bestB_len {G : GT} {d : Nat} (h : (G.kids 0).length ≤ 1000) : (bestF (wL G d 0)).length ≤ 1000 := Nat.le_trans best_len (by simpa [wL] using h)
theorem nega_rev {G G' : GT} (hk : ∀ i, G'.kids i = (G.kids i).reverse) (hv : ∀ i, G'.val i = G.val i) (hc : ∀ i, G'.chk i = G.chk i) : ∀ (m : Nat) (i : Int) (nd : Nat), negaV G' m i nd = negaV G m i nd := by
  intro m
  induction m with
  | zero => intro i nd; show leafV _ _ _ = leafV _ _ _; unfold leafV; rw [hv, hc]
  | succ m ih =>
    intro i nd
    by_cases h : G.kids nd = []
    · rw [nega_end h, nega_end (by rw [hk, h]; rfl)]; unfold endV; rw [hc]
    · rw [nega_mx h, nega_mx (by rw [hk]; simpa using h), hk, List.map_reverse, mx_rev]
      congr 1
      apply List.map_congr_left
      intro k _
      rw [ih]
theorem best_other {G G' : GT} (hk : ∀ i, G'.kids i = (G.kids i).reverse) (hv : ∀ i, G'.val i = G.val i) (hc : ∀ i, G'.chk i = G.chk i) {d : Nat} (hb : ∀ x ∈ wL G d 0, -32001 < x) {V : Int} (hV : (bmV G d 0).2 = (V, (bestF (wL G d 0)).map fun (j : Nat) => 1 + (j : Int))) :
    (bmV G' d 0).2 = (V, ((bestF (wL G d 0)).map fun (j : Nat) => ((G.kids 0).length : Int) + 1 - (1 + (j : Int))).reverse) := by
  have hw : wL G' d 0 = (wL G d 0).reverse := by
    unfold wL
    rw [hk, List.map_reverse]
    congr 1
    apply List.map_congr_left
    intro k _
    rw [nega_rev hk hv hc]
  rw [bmV_bmF, bmF_is _ hb] at hV
  have hV := (Prod.mk.inj hV).1
  rw [bmV_bmF, hw, bmF_is _ (fun x hx => hb x (List.mem_reverse.mp hx)), mx_rev, hV, best_rev, List.map_reverse, List.map_map]
  show (V, _) = (V, _)
  congr 2
  apply List.map_congr_left
  intro j hj
  have := (mem_best.mp hj).1
  have hl : (wL G d 0).length = (G.kids 0).length := by simp [wL]
  rw [hl] at this
  show 1 + (((wL G d 0).length - 1 - j : Nat) : Int) = _
  rw [hl]; omega
theorem nega_set0 {G : GT} {ks : List Nat} (hk : ∀ nd k, k ∈ G.kids nd → k ≠ 0) : ∀ (m : Nat) (i : Int) (nd : Nat), nd ≠ 0 → negaV (G.set0 ks) m i nd = negaV G m i nd := by
  intro m
  induction m with
  | zero => intro i nd _; rfl
  | succ m ih =>
    intro i nd hnd
    have hkk : (G.set0 ks).kids nd = G.kids nd := if_neg hnd
    by_cases h : G.kids nd = []
    · rw [nega_end h, nega_end (by rw [hkk, h])]; rfl
    · rw [nega_mx h, nega_mx (by rw [hkk]; exact h), hkk]
      congr 1
      apply List.map_congr_left
      intro k hk'
      rw [ih (i + 1) k (hk nd k hk')]
theorem kid0_mem {G : GT} {j : Nat} (h : j < (G.kids 0).length) : kid0 G j ∈ G.kids 0 := by
  unfold kid0
  rw [List.getD_eq_getElem?_getD, List.getElem?_eq_getElem h]; exact List.getElem_mem h
theorem wL_at {G : GT} {d j : Nat} (h : j < (G.kids 0).length) : (wL G d 0).getD j 0 = -(negaV G d 1 (kid0 G j)) := by
  unfold wL kid0
  rw [List.getD_eq_getElem?_getD, List.getElem?_map, List.getD_eq_getElem?_getD, List.getElem?_eq_getElem h]; rfl
theorem wL_set0 {G : GT} {d : Nat} {J : List Nat} (hk : ∀ nd k, k ∈ G.kids nd → k ≠ 0) (hJ : ∀ j ∈ J, j < (G.kids 0).length) : wL (G.set0 (J.map (kid0 G))) d 0 = J.map fun j => (wL G d 0).getD j 0 := by
  unfold wL
  show ((J.map (kid0 G)).map fun k => -(negaV (G.set0 _) d 1 k)) = _
  rw [List.map_map]
  apply List.map_congr_left
  intro j hj
  have h := hJ j hj
  show -(negaV (G.set0 _) d 1 (kid0 G j)) = (wL G d 0).getD j 0
  rw [wL_at h, nega_set0 hk _ _ _ (hk 0 _ (kid0_mem h))]
theorem alone_ok {G : GT} {d : Nat} {V : Int} (hk : ∀ nd k, k ∈ G.kids nd → k ≠ 0) (hne : bestF (wL G d 0) ≠ []) (hV : mx (wL G d 0) = V) (hV1 : -32001 < V) : (bmV (G.set0 (aloneK G (bestF (wL G d 0)))) d 0).2 = (V, rangeKs 1 (bestF (wL G d 0)).length) := by
  rw [bmV_bmF]
  have e := wL_set0 (d := d) hk (bestB_lt (G := G) (d := d))
  show (bmF (wL (G.set0 ((bestF (wL G d 0)).map (kid0 G))) d 0)).2 = _
  rw [e]
  have hl : ((bestF (wL G d 0)).map fun j => (wL G d 0).getD j 0).length = (bestF (wL G d 0)).length := List.length_map _
  rw [← hl]
  refine bm_all (by simpa using hne) (fun x hx => ?_) hV1
  obtain ⟨j, hj, rfl⟩ := List.mem_map.mp hx
  rw [(mem_best.mp hj).2, hV]
theorem others_ok {G : GT} {d : Nat} {V : Int} (hk : ∀ nd k, k ∈ G.kids nd → k ≠ 0) (hb : ∀ x ∈ wL G d 0, -32001 < x) (hV : mx (wL G d 0) = V) : othersK G (bestF (wL G d 0)) = [] ∨ negaV (G.set0 (othersK G (bestF (wL G d 0)))) (d + 1) 0 0 < V := by
  by_cases h : othersK G (bestF (wL G d 0)) = []
  · exact .inl h
  right
  have hJ : ∀ j ∈ othersJ (bestF (wL G d 0)) (G.kids 0).length, j < (G.kids 0).length ∧ ¬ j ∈ bestF (wL G d 0) := by
    intro j hj
    have := List.mem_filter.mp hj
    exact ⟨List.mem_range.mp this.1, by simpa using this.2⟩
  have e := wL_set0 (d := d) hk (fun j hj => (hJ j hj).1)
  rw [nega_mx (show (G.set0 (othersK G (bestF (wL G d 0)))).kids 0 ≠ [] from h)]
  show mx (wL (G.set0 ((othersJ (bestF (wL G d 0)) (G.kids 0).length).map (kid0 G))) d 0) < V
  rw [e]
  have hlen : (wL G d 0).length = (G.kids 0).length := by simp [wL]
  have hall : ∀ x ∈ (othersJ (bestF (wL G d 0)) (G.kids 0).length).map (fun j => (wL G d 0).getD j 0), -32001 < x ∧ x < V := by
    intro x hx
    obtain ⟨j, hj, rfl⟩ := List.mem_map.mp hx
    obtain ⟨h1, h2⟩ := hJ j hj
    have hm := getD_mem (l := wL G d 0) (j := j) (by omega)
    have h3 := le_mx _ _ hm
    have h4 : (wL G d 0).getD j 0 ≠ mx (wL G d 0) := fun e => h2 (mem_best.mpr ⟨by omega, e⟩)
    exact ⟨hb _ hm, by omega⟩
  refine (hall _ (mx_mem ?_ fun x hx => (hall x hx).1)).2
  simpa [othersK] using h
/-- one game against another: what helps the side at an even distance of s -/
theorem nega_mono {G G' : GT} {pl : List Nat} {s : Nat}
    (hkid : ∀ nd y k : Nat, pl[nd]? = some y → k ∈ G.kids nd → pl[k]? = some (y + 1))
    (H : ∀ nd y : Nat, pl[nd]? = some y → G'.chk nd = G.chk nd ∧ ((y + s) % 2 = 0 → G.val nd ≤ G'.val nd) ∧ ((y + s) % 2 = 1 → G'.val nd ≤ G.val nd) ∧ (G'.kids nd = G.kids nd ∨ ((y + s) % 2 = 0 ∧ G.kids nd ≠ [] ∧ ∃ k, G'.kids nd = G.kids nd ++ [k]))) :
    ∀ (m nd y : Nat), pl[nd]? = some y → ((y + s) % 2 = 0 → negaV G m y nd ≤ negaV G' m y nd) ∧ ((y + s) % 2 = 1 → negaV G' m y nd ≤ negaV G m y nd) := by
  intro m
  induction m with
  | zero =>
    intro nd y hy
    obtain ⟨h1, h2, h3, _⟩ := H nd y hy
    show (_ → leafV G y nd ≤ leafV G' y nd) ∧ (_ → leafV G' y nd ≤ leafV G y nd)
    unfold leafV
    rw [h1]
    split
    · exact ⟨fun _ => Int.le_refl _, fun _ => Int.le_refl _⟩
    · exact ⟨h2, h3⟩
  | succ m ih =>
    intro nd y hy
    obtain ⟨h1, h2, h3, h4⟩ := H nd y hy
    by_cases h : G.kids nd = []
    · have h' : G'.kids nd = [] := by
        rcases h4 with h4 | h4
        · rw [h4, h]
        · exact absurd h h4.2.1
      rw [nega_end h, nega_end h']
      unfold endV
      rw [h1]
      exact ⟨fun _ => Int.le_refl _, fun _ => Int.le_refl _⟩
    · have h' : G'.kids nd ≠ [] := by
        rcases h4 with h4 | ⟨_, _, k, h4⟩
        · rw [h4]; exact h
        · rw [h4]; simp
      rw [nega_mx h, nega_mx h']
      have kid : ∀ k ∈ G.kids nd, ((y + 1 + s) % 2 = 0 → negaV G m ((y : Int) + 1) k ≤ negaV G' m ((y : Int) + 1) k) ∧ ((y + 1 + s) % 2 = 1 → negaV G' m ((y : Int) + 1) k ≤ negaV G m ((y : Int) + 1) k) := by
        intro k hk
        have := ih k (y + 1) (hkid nd y k hy hk)
        rw [show ((y + 1 : Nat) : Int) = (y : Int) + 1 by omega] at this
        exact this
      refine ⟨fun hp => ?_, fun hp => ?_⟩
      · refine mx_mono fun x hx => ?_
        obtain ⟨k, hk, rfl⟩ := List.mem_map.mp hx
        refine ⟨-(negaV G' m ((y : Int) + 1) k), List.mem_map_of_mem ?_, ?_⟩
        · rcases h4 with h4 | ⟨_, _, k', h4⟩
          · rw [h4]; exact hk
          · rw [h4]; exact List.mem_append_left _ hk
        · have := (kid k hk).2 (by omega)
          omega
      · have h4 : G'.kids nd = G.kids nd := by
          rcases h4 with h4 | ⟨h4, _⟩
          · exact h4
          · omega
        rw [h4]
        refine mx_mono fun x hx => ?_
        obtain ⟨k, hk, rfl⟩ := List.mem_map.mp hx
        refine ⟨-(negaV G m ((y : Int) + 1) k), List.mem_map_of_mem hk, ?_⟩
        have := (kid k hk).1 (by omega)
        omega
end Mine
end
section
open PySem PySem.W PyProof.Rows PySem.Calls PySem.Spec
namespace Mine
theorem law_facts {D : Int} {dn : Nat} {ks : List (List Nat)} {pl : List Nat} {vals : List Int} {chk : Nat → Bool} (HG : Grow D pl.length ks pl) (hD : D = ((dn + 1 : Nat) : Int)) (h1 : 1 ≤ dn) (h2 : dn ≤ 2) (hv : ∀ v ∈ vals, -9 ≤ v ∧ v ≤ 9) :
    ∃ (V : Int) (B : List Nat), negaV (gameOf pl.length ks vals chk) (dn + 1) 0 0 = V ∧ -32000 ≤ V ∧ V ≤ 32000 ∧ lawV (gameOf pl.length ks vals chk) (plyF pl) D (dn + 1) 0 = V ∧ cntV (gameOf pl.length ks vals chk) (dn + 1) 0 = pl.length ∧ (gameOf pl.length ks vals chk).Fin (dn + 1) 0 ∧ 0 < (gameOf pl.length ks vals chk).n ∧
      (bmV (gameOf pl.length ks vals chk) dn 0).2 = (V, B.map fun (j : Nat) => 1 + (j : Int)) ∧ B ≠ [] ∧ (∀ j ∈ B, j < ((gameOf pl.length ks vals chk).kids 0).length) ∧ B.length ≤ 1000 ∧
      (bmV (gameOf pl.length (ks.map List.reverse) vals chk) dn 0).2 = (V, (B.map fun (j : Nat) => (((gameOf pl.length ks vals chk).kids 0).length : Int) + 1 - (1 + (j : Int))).reverse) ∧
      (bmV ((gameOf pl.length ks vals chk).set0 (aloneK (gameOf pl.length ks vals chk) B)) dn 0).2 = (V, rangeKs 1 B.length) ∧
      (othersK (gameOf pl.length ks vals chk) B = [] ∨ negaV ((gameOf pl.length ks vals chk).set0 (othersK (gameOf pl.length ks vals chk) B)) (dn + 1) 0 0 < V) := by
  have hv' : ∀ v ∈ vals, -100 ≤ v ∧ v ≤ 100 := fun v h => by have := hv v h; omega
  have hg := intF_bd (n := pl.length) (ks := ks) (chk := chk) hv'
  have hz : pl[0]? = some 0 := HG.zero
  have hb := nega_bd hg (dn + 1) 0 0 (by omega) (by omega)
  have hk : (gameOf pl.length ks vals chk).kids 0 ≠ [] := HG.root0
  have hk0 : ∀ nd k, k ∈ (gameOf pl.length ks vals chk).kids nd → k ≠ 0 := fun nd k h => by
    have := (HG.kid h).1
    omega
  have hgt := wL_gt hg (d := dn) (by omega) (nd := 0)
  have hbv := best_V hg (d := dn) (by omega) hk
  have hbne := bestB_ne hg (d := dn) (by omega) hk
  have hmx : mx (wL (gameOf pl.length ks vals chk) dn 0) = negaV (gameOf pl.length ks vals chk) (dn + 1) 0 0 := by rw [nega_mx hk]; rfl
  have hrk : ∀ i, (gameOf pl.length (ks.map List.reverse) vals chk).kids i = ((gameOf pl.length ks vals chk).kids i).reverse := by
    intro i
    show (ks.map List.reverse).getD i [] = (ks.getD i []).reverse
    rw [List.getD_eq_getElem?_getD, List.getElem?_map, List.getD_eq_getElem?_getD]
    cases ks[i]? <;> rfl
  refine ⟨_, _, rfl, hb.1, hb.2, ?_, HG.cnt hD (by omega), HG.fin hz (by rw [hD]; omega), HG.ge, hbv, hbne, bestB_lt, bestB_len (Nat.le_trans (HG.short 0) (by decide)), best_other hrk (fun _ => rfl) (fun _ => rfl) hgt hbv, alone_ok hk0 hbne hmx (by omega), others_ok hk0 hgt hmx⟩
  exact (HG.nega_law hv' (by omega) hz (by rw [hD]; omega)).symm
theorem room_le {dp d k : Nat} (hd : d ≤ 3) (hk : k ≤ 12) (h : dp + 20 < recursionLimit) : dp + d + k < recursionLimit := by omega
theorem units_le {un d : Nat} (hd : d ≤ 3) (h : un + 300 < cLine) : un + 8 * d + 100 < cLine := by omega
end Mine
end
section
open PySem PySem.W PyProof.Rows PySem.Calls PySem.Spec
namespace Mine

theorem mem_cons2 {a : Addr × Obj} {l n : List (Addr × Obj)} (h1 : a ∈ n) (h2 : ∀ q ∈ l, q ∈ n) : ∀ q ∈ a :: l, q ∈ n := fun q hq => (List.mem_cons.mp hq).elim (fun e => e ▸ h1) (h2 q)
theorem mem_app {a b n : List (Addr × Obj)} (h1 : ∀ q ∈ a, q ∈ n) (h2 : ∀ q ∈ b, q ∈ n) : ∀ q ∈ a ++ b, q ∈ n := fun q hq => (List.mem_append.mp hq).elim (h1 q) (h2 q)
/-- what the objects R, above g, hold for good -/
def Held (g : Heap) (R : List (Addr × Obj)) (P : Heap → Prop) : Prop := ∀ f, g.StaysIn f → (∀ p ∈ R, f.get? p.1 = some p.2) → P f
theorem Held.more {g : Heap} {R R' : List (Addr × Obj)} {P : Heap → Prop} (H : Held g R P) (h : ∀ p ∈ R, p ∈ R') : Held g R' P := fun f a b => H f a fun p hp => b p (h p hp)
section
variable {prog : Program} {w : World} {p : Program} {loose : List Str} {mean : ExcName → Option Value} {mg mb : Str → Option Value} {s : Shared} {g : Heap} {L : Addr} {m : Str → Option Value} {news : List (Addr × Obj)} {dp un : Nat} {fr : Option (List Env)} {gd : Option (List Code)} {Q E : Value → Shared → Prop}
theorem shell_R {gg : Obj → List (Addr × Obj)} {pe l : Addr} {vs : List Value} {ns : List Int} {k M : Int} {tk0 tM : Tok} {e c : Nat}
    (F : Fr g L s.heap m) (N : News g L s.heap news) (X : (hd.heap_1 w.params).In g) (T : Top p loose mean mg mb g) (U : UpdF pe (listOf (List.toArray [.ref l, .int k tk0]) e) news gg) (hl : (l, listOf vs.toArray c) ∈ news) (hlp : l ≠ pe) (room : dp < recursionLimit) (hi : IntsAre vs ns) (hns : ns.length ≤ 1000) (hk0 : 0 ≤ k) (hk1 : k ≤ 100000) (hM0 : 1 ≤ M) (hM1 : M ≤ 1000)
    (ret : ∀ x t h' tk' t' e', 0 ≤ x → x < M → Fr g L h' m → News g L h' (gg (listOf (List.toArray [.ref l, .int (k + 1) t']) e')) → Q (.int x t) { s with heap := h', toks := tk' }) :
    wpAny (model prog w) (ar dp un fr gd) (call (.ref 213) [.ref pe, .int M tM]) Q E s := by
  have z := N _ (updF_mem U)
  refine shell_spec (fz := hideAll s.heap [pe]) (X.keeps (fr_hide F z.2.2)) (T.keeps (fr_hide F z.2.2)) hide_stays room z.1 hid0 ⟨_, hide1 (N _ hl).1 hlp, rfl, c, rfl⟩ hi hns hk0 hk1 hM0 hM1 fun x t h' tk' t' e' h0 h1 hb hp => ?_
  obtain ⟨F', N'⟩ := after1 F N U hb hp
  exact ret x t h' tk' t' e' h0 h1 F' N'
def AllOff (R : List (Addr × Obj)) : List (Addr × Obj) → Prop
  | [] => True
  | q :: r => (∀ p ∈ R, p.1 ≠ q.1) ∧ AllOff R r
theorem allOff_of {R : List (Addr × Obj)} : ∀ {l : List (Addr × Obj)}, (∀ q ∈ l, ∀ p ∈ R, p.1 ≠ q.1) → AllOff R l
  | [], _ => trivial
  | q :: _, h => ⟨h q (.head _), allOff_of fun q hq => h q (.tail _ hq)⟩
def Off (R : List (Addr × Obj)) (ds : List Addr) : Prop := ∀ p ∈ R, ∀ d ∈ ds, p.1 ≠ d
theorem offR {R : List (Addr × Obj)} {ds : List Addr} {d : Addr} (h : Off R ds) (hd : d ∈ ds) : ∀ p ∈ R, p.1 ≠ d := fun p hp => h p hp d hd
theorem off_cons {R : List (Addr × Obj)} {ds : List Addr} {D : Addr} {o : Obj} (h : Off R ds) (hD : ∀ d ∈ ds, D ≠ d) : Off ((D, o) :: R) ds := fun p hp d hd => by
  rcases List.mem_cons.mp hp with rfl | hp
  · exact hD d hd
  · exact h p hp d hd
theorem fresh_off {g h : Heap} {L D : Addr} {ex : List (Addr × Obj)} (N : News g L h ex) (hD : h.get? D = none) : ∀ d ∈ ex.map (·.1), D ≠ d := fun d hd e => by
  obtain ⟨q, hq, rfl⟩ := List.mem_map.mp hd
  have := (N q hq).1
  rw [← e, hD] at this; cases this
theorem News.gr {g h : Heap} {L : Addr} {T C P p0 p1 p2 p3 p4 p5 p6 : Addr × Obj} {R : List (Addr × Obj)} (N : News g L h (T :: C :: P :: (R ++ [p0, p1, p2, p3, p4, p5, p6]))) : News g L h (T :: C :: P :: p0 :: p1 :: p2 :: p3 :: p4 :: p5 :: p6 :: R) := News.sub N (mem_cons2 (.head _) (mem_cons2 (.tail _ (.head _)) (mem_cons2 (.tail _ (.tail _ (.head _))) (mem_cons2 (.tail _ (.tail _ (.tail _ (List.mem_append_right R (.head _))))) (mem_cons2 (.tail _ (.tail _ (.tail _ (List.mem_append_right R (.tail _ (.head _)))))) (mem_cons2 (.tail _ (.tail _ (.tail _ (List.mem_append_right R (.tail _ (.tail _ (.head _))))))) (mem_cons2 (.tail _ (.tail _ (.tail _ (List.mem_append_right R (.tail _ (.tail _ (.tail _ (.head _)))))))) (mem_cons2 (.tail _ (.tail _ (.tail _ (List.mem_append_right R (.tail _ (.tail _ (.tail _ (.tail _ (.head _))))))))) (mem_cons2 (.tail _ (.tail _ (.tail _ (List.mem_append_right R (.tail _ (.tail _ (.tail _ (.tail _ (.tail _ (.head _)))))))))) (mem_cons2 (.tail _ (.tail _ (.tail _ (List.mem_append_right R (.tail _ (.tail _ (.tail _ (.tail _ (.tail _ (.tail _ (.head _))))))))))) (fun _ h => (.tail _ (.tail _ (.tail _ (List.mem_append_left _ h)))))))))))))))
theorem off_gr {R : List (Addr × Obj)} {l : List (Addr × Obj)} (h : AllOff R l) : Off R (l.map (·.1)) := by
  induction l with
  | nil => intro p _ d hd; cases hd
  | cons a l ih =>
    intro p hp d hd
    rcases List.mem_cons.mp hd with rfl | hd
    · exact h.1 p hp
    · exact ih h.2 p hp d hd
theorem News.canon {g h : Heap} {L : Addr} {T C P p l c5 c4 c3 c2 c1 : Addr × Obj} {R : List (Addr × Obj)} (N : News g L h (T :: C :: P :: p :: l :: c5 :: c4 :: c3 :: c2 :: c1 :: R)) : News g L h (p :: c5 :: c4 :: c3 :: c2 :: c1 :: C :: P :: l :: R) := News.sub N (by
  intro q hq
  simp only [List.mem_cons] at hq ⊢
  rcases hq with h | h | h | h | h | h | h | h | h | h <;> simp [h])
theorem canon_ex {p c5 c4 c3 c2 c1 q : Addr × Obj} {R : List (Addr × Obj)} (h : q ∈ [p, c5, c4, c3, c2, c1]) : q ∈ p :: c5 :: c4 :: c3 :: c2 :: c1 :: R := (mem_cons2 (.head _) (mem_cons2 (.tail _ (.head _)) (mem_cons2 (.tail _ (.tail _ (.head _))) (mem_cons2 (.tail _ (.tail _ (.tail _ (.head _)))) (mem_cons2 (.tail _ (.tail _ (.tail _ (.tail _ (.head _))))) (mem_cons2 (.tail _ (.tail _ (.tail _ (.tail _ (.tail _ (.head _)))))) (fun _ h => absurd h List.not_mem_nil))))))) _ h
theorem rowsL_at {f : Heap} {cs : List Value} {R : List (Addr × Obj)} {ks : List (List Nat)} {Dc : Addr} {cc : Nat} (H : RowsL cs R ks) (hD : f.get? Dc = some (listOf cs.toArray cc)) (hR : ∀ p ∈ R, f.get? p.1 = some p.2) : RowsAt f Dc ks.length fun i => ks.getD i [] := by
  refine ⟨cs.toArray, ⟨_, hD, rfl, cc, rfl⟩, by simpa using H.1, fun i hi => ?_⟩
  obtain ⟨a, row, c, e1, e2, e3⟩ := H.2 i ks[i] (List.getElem?_eq_getElem hi)
  refine ⟨a, row, by simpa using e1, ⟨_, hR _ e2, rfl, c, rfl⟩, ?_⟩
  show IntsAre row (ZL (ks.getD i []))
  rw [List.getD_eq_getElem?_getD, List.getElem?_eq_getElem hi]; exact e3
theorem intsL_at {f : Heap} {vs : List Value} {ns : List Int} {D : Addr} {c : Nat} (hi : IntsAre vs ns) (hD : f.get? D = some (listOf vs.toArray c)) : IntsAt f D ns.length fun i => ns.getD i 0 := by
  refine ⟨vs.toArray, ⟨_, hD, rfl, c, rfl⟩, by rw [List.size_toArray, hi.length], fun i hlt => ?_⟩
  obtain ⟨t, ht⟩ := hi.get i _ (List.getElem?_eq_getElem hlt)
  refine ⟨t, ?_⟩
  show vs.toArray[i]? = some (Value.int (ns.getD i 0) t)
  rw [List.getD_eq_getElem?_getD, List.getElem?_eq_getElem hlt]; simpa using ht
theorem boolsL_at {f : Heap} {vs : List Value} {n : Nat} {b : Nat → Bool} {D : Addr} {c : Nat} (hl : vs.length = n) (hb : ∀ i, i < n → vs[i]? = some (.bool (b i))) (hD : f.get? D = some (listOf vs.toArray c)) : BoolsAt f D n b :=
  ⟨vs.toArray, ⟨_, hD, rfl, c, rfl⟩, by simpa using hl, fun i hi => by simpa using hb i hi⟩
theorem mem10 {a b c d e f g h i j q : Addr × Obj} {R : List (Addr × Obj)} (hq : q ∈ R) : q ∈ a :: b :: c :: d :: e :: f :: g :: h :: i :: j :: R :=
  .tail _ (.tail _ (.tail _ (.tail _ (.tail _ (.tail _ (.tail _ (.tail _ (.tail _ (.tail _ hq)))))))))
theorem grown_R {gg : Obj → List (Addr × Obj)} {pe l : Addr} {vs : List Value} {ns : List Int} {k D : Int} {tk0 tD : Tok} {e c : Nat}
    (F : Fr g L s.heap m) (N : News g L s.heap news) (X : (hd.heap_1 w.params).In g) (T : Top p loose mean mg mb g) (U : UpdF pe (listOf (List.toArray [.ref l, .int k tk0]) e) news gg) (hl : (l, listOf vs.toArray c) ∈ news) (hlp : l ≠ pe) (room : dp + 2 < recursionLimit) (hi : IntsAre vs ns) (hns : ns.length ≤ 1000) (hk0 : 0 ≤ k) (hk1 : k ≤ 10000) (hD : 1 ≤ D) (hD1 : D ≤ 100)
    (ret : ∀ T Dc Dp cs ps R ks pl kq tq e' cc cp h' tk', Fr g L h' m → News g L h' ((T, { cls := .type "tuple", data := .seq #[.ref Dc, .ref Dp] }) :: (Dc, listOf (List.toArray cs) cc) :: (Dp, listOf (List.toArray ps) cp) :: (R ++ gg (listOf (List.toArray [.ref l, .int kq tq]) e'))) → k ≤ kq → kq ≤ k + 20 → Grow D pl.length ks pl → IntsAre ps (ZL pl) → RowsL cs R ks →
      AllNe T (gg (listOf (List.toArray [.ref l, .int kq tq]) e')) → AllNe Dc (gg (listOf (List.toArray [.ref l, .int kq tq]) e')) → AllNe Dp (gg (listOf (List.toArray [.ref l, .int kq tq]) e')) → AllOff R (gg (listOf (List.toArray [.ref l, .int kq tq]) e')) → Q (.ref T) { s with heap := h', toks := tk' }) :
    wpAny (model prog w) (ar dp un fr gd) (call (.ref 220) [.ref pe, .int D tD]) Q E s := by
  have z := N _ (updF_mem U)
  refine grown_spec (fz := hideAll s.heap [pe]) (X.keeps (fr_hide F z.2.2)) (T.keeps (fr_hide F z.2.2)) hide_stays room z.1 hid0 ⟨_, hide1 (N _ hl).1 hlp, rfl, c, rfl⟩ hi hns hk0 hk1 hD hD1 fun T Dc Dp cs ps R ks pl kq tq e' cc cp h' tk' hb hp a1 a2 a3 a4 a5 a6 _ _ _ _ => ?_
  obtain ⟨F', N', hq⟩ := after2 F N U hb hp a6
  exact ret T Dc Dp cs ps R ks pl kq tq e' cc cp h' tk' F' (by simpa using N') a1 a2 a3 a4 a5 (allNe_of fun q hq' => Ne.symm (hq _ (.head _) q hq')) (allNe_of fun q hq' => Ne.symm (hq _ (.tail _ (.head _)) q hq')) (allNe_of fun q hq' => Ne.symm (hq _ (.tail _ (.tail _ (.head _))) q hq')) (allOff_of fun q hq' p hp => hq _ (.tail _ (.tail _ (.tail _ hp))) q hq')
end
section
variable {prog : Program} {w : World} {A : Around} {env : Env} {E : Value → Shared → Prop} {s : Shared} {h₀ : Heap} {L : Addr} {m : Str → Option Value} {ex : List (Addr × Obj)} {pe : Addr} {o : Obj} {elt iter : Expr} {x : Str} {px : Pos} {ifs : List Expr} {scope : Scope} {cl : List (Str × Addr)} {pos : Pos} {Q : Value → Shared → Prop}
/-- a comprehension whose turns change the one object pe -/
theorem compSt_listP {ax : Addr} {its : Array Value} (J : Nat → List Value → List (Addr × Obj) → List (Addr × Obj) → Prop)
    (hh : A.handled = none) (F : Fr h₀ L s.heap m) (N : News h₀ L s.heap ((pe, o) :: ex)) (hex : ∀ p ∈ ex, p.1 ≠ pe) (hl : s.heap.IsList ax its) (hax : ax ≠ pe) (hsz : its.size ≤ sizeLine)
    (hlen : ∀ i ys mu R, J i ys mu R → ys.length ≤ i) (hj0 : J 0 [] [(pe, o)] [])
    (hcell : ∀ y ∈ scope.names, y.2 ≠ .cell) (hkind : scope.kind = .function) (hx : scope.names.lookup x = some .local)
    (step : CompTurn prog w A env elt ifs scope cl x s.heap [pe] its.size (fun i v => its[i]? = some v) J s)
    (done : ∀ D h tk ys mu R, J its.size ys mu R → Fr h₀ L h m → CompDone h₀ L [pe] ex s D ys mu R h → Q (.ref D) { s with heap := h, toks := tk }) :
    CompSt prog w A env elt x px iter ifs scope cl pos none Q E (.ref ax) s :=
  compSt_list (mu₀ := [(pe, o)]) [pe] J hh F N hl (by simpa using hax) hsz (fun p hp => by rw [List.mem_singleton.mp hp]; exact .head _) rfl (fun p hp => ⟨.tail _ hp, by simpa using hex p hp⟩) hlen hj0 hcell hkind hx step done
end
theorem item_0 {prog : Program} {w : World} {A : Around} {E : Value → Shared → Prop} {s : Shared} {g : Heap} {L : Addr} {m : Str → Option Value} {Q : Value → Shared → Prop} {value slice : PySem.Expr} {l : Addr} {its : Array Value} {k : Nat} {u : Tok} {v : Value}
    (F : Fr g L s.heap m) (hl : g.IsList l its) (hx : its[k]? = some v) (hk : k ≤ 1000) (h : Q v s)
    (hs : subscripted slice false (.ref l) (.int (0 + (k : Int)) u) = operate [.ref l, .int (0 + (k : Int)) u] (getItem (.ref l) (.int (0 + (k : Int)) u)) := by with_unfolding_all rfl) :
    wpAny (model prog w) A (subscriptTail value slice (.ref l) (.int (0 + (k : Int)) u)) Q E s :=
  item_g F hl (by omega) (by omega) (by rw [show (0 + (k : Int)).toNat = k by omega]; exact hx) h hs
theorem chk_snoc {ys2 : List Value} {ks : List (List Nat)} {vals : List Int} {i : Nat} {b : Bool} (h1 : ys2.length = i) (h2 : ∀ j, j < i → ys2[j]? = some (Value.bool (chkF ks vals j))) (hb : b = chkF ks vals i) : ∀ j, j < i + 1 → (ys2 ++ [Value.bool b])[j]? = some (Value.bool (chkF ks vals j)) := by
  intro j hj
  by_cases e : j = i
  · subst e
    rw [List.getElem?_append_right (by omega), h1, hb]; simp
  · rw [List.getElem?_append_left (by omega)]; exact h2 j (by omega)
theorem chk_t {ks : List (List Nat)} {vals : List Int} {i : Nat} (a : decide (ZL (ks.getD i []) = []) = true) : (((fun i => vals.getD i 0) i + (0 + (i : Int))).fmod 5 == 0) = chkF ks vals i := by
  have : ks.getD i [] = [] := by simpa [ZL] using a
  unfold chkF
  rw [this, Int.zero_add]; rfl
theorem chk_f {ks : List (List Nat)} {vals : List Int} {i : Nat} (a : ¬ decide (ZL (ks.getD i []) = []) = true) : false = chkF ks vals i := by
  have : ¬ ks.getD i [] = [] := by simpa [ZL] using a
  unfold chkF
  rw [decide_eq_false this]; rfl
theorem chk_f' {ks : List (List Nat)} {vals : List Int} {i : Nat} (a : decide (ZL (ks.getD i []) = []) = false) : decide (ZL (ks.getD i []) = []) = chkF ks vals i := by
  rw [a]; exact chk_f (by rw [a]; decide)
end Mine
end
section
open PySem PySem.W PyProof.Rows PySem.Calls PySem.Spec
namespace Mine
theorem sub_tl {W l : List (Addr × Obj)} {a : Addr × Obj} (h : ∀ p ∈ W, p ∈ l) : ∀ p ∈ W, p ∈ a :: l := fun p hp => .tail _ (h p hp)
/-- the part of h that g and W hold -/
def heapOf (h g : Heap) (W : List (Addr × Obj)) : Heap := hideAll h ((List.range h.objs.size).filter fun b => (g.get? b).isNone && !(W.map (·.1)).contains b)
theorem heapOf_get {h g : Heap} {W : List (Addr × Obj)} {b : Addr} {o : Obj} (e : (heapOf h g W).get? b = some o) : h.get? b = some o ∧ ((∃ o', g.get? b = some o') ∨ b ∈ W.map (·.1)) := by
  have e1 := of_hideAll _ e
  refine ⟨e1, Classical.byContradiction fun hn => ?_⟩
  have hm : b ∈ (List.range h.objs.size).filter fun b => (g.get? b).isNone && !(W.map (·.1)).contains b := by
    rw [List.mem_filter]
    refine ⟨List.mem_range.mpr (Heap.lt_size e1), ?_⟩
    cases eg : g.get? b with
    | none =>
      have : ¬ b ∈ W.map (·.1) := fun q => hn (.inr q)
      simpa using this
    | some o' => exact absurd (.inl ⟨o', eg⟩) hn
  have := hideAll_none (h := h) _ hm
  rw [show hideAll h _ = heapOf h g W from rfl, e] at this
  cases this
theorem heapOf_base {h g : Heap} {W : List (Addr × Obj)} (k : g.StaysIn h) : g.StaysIn (heapOf h g W) := fun b o e => hideAll_get _ (k b o e) (by
  intro q
  have := (List.mem_filter.mp q).2
  rw [e] at this; simp at this)
theorem heapOf_led {h g : Heap} {W : List (Addr × Obj)} (k : ∀ p ∈ W, h.get? p.1 = some p.2) : ∀ p ∈ W, (heapOf h g W).get? p.1 = some p.2 := fun p hp => hideAll_get _ (k p hp) (by
  intro q
  have := (List.mem_filter.mp q).2
  rw [Bool.and_eq_true] at this
  have h2 := this.2
  have : p.1 ∈ W.map (·.1) := List.mem_map_of_mem hp
  simp at h2
  exact h2 p.2 hp)
theorem heapOf_stays {h g f : Heap} {W : List (Addr × Obj)} (k : g.StaysIn h) (kW : ∀ p ∈ W, h.get? p.1 = some p.2) (kf : g.StaysIn f) (kfW : ∀ p ∈ W, f.get? p.1 = some p.2) : (heapOf h g W).StaysIn f := fun b o e => by
  obtain ⟨e1, h2⟩ := heapOf_get e
  rcases h2 with ⟨o', h2⟩ | h2
  · have := k b o' h2
    rw [e1] at this
    cases this
    exact kf b o h2
  · obtain ⟨p, hp, rfl⟩ := List.mem_map.mp h2
    have := kW p hp
    rw [e1] at this
    cases this
    exact kfW p hp
def newObjs (h h' : Heap) (pa : Addr) : List (Addr × Obj) := (List.range h'.objs.size).filterMap fun (b : Nat) => if (h.get? b).isNone && !(b == pa) then (h'.get? b).map fun o => (b, o) else none
theorem newObjs_mem {h h' : Heap} {pa : Addr} {p : Addr × Obj} (hp : p ∈ newObjs h h' pa) : h'.get? p.1 = some p.2 ∧ h.get? p.1 = none ∧ p.1 ≠ pa := by
  obtain ⟨b, _, h2⟩ := List.mem_filterMap.mp hp
  split at h2
  · rename_i hc
    rw [Bool.and_eq_true] at hc
    cases e : h'.get? b with
    | none => rw [e] at h2; cases h2
    | some o =>
      rw [e] at h2
      cases h2
      exact ⟨e, by simpa using hc.1, by simpa using hc.2⟩
  · cases h2
theorem mem_newObjs {h h' : Heap} {pa b : Addr} {o : Obj} (e : h'.get? b = some o) (h0 : h.get? b = none) (hn : b ≠ pa) : (b, o) ∈ newObjs h h' pa := by
  refine List.mem_filterMap.mpr ⟨b, List.mem_range.mpr (Heap.lt_size e), ?_⟩
  have : ((h.get? b).isNone && !(@BEq.beq Nat _ b pa)) = true := by rw [h0]; simpa using hn
  rw [if_pos this, e]; rfl
def GHeld (w : World) (g : Heap) (W : List (Addr × Obj)) (gm pa : Addr) (G : GT) : Prop := ∀ f, g.StaysIn f → (∀ p ∈ W, f.get? p.1 = some p.2) → GameAt w f gm pa G
theorem GHeld.now {w : World} {g h : Heap} {L gm pa : Addr} {m : Str → Option Value} {W news : List (Addr × Obj)} {G : GT} (H : GHeld w g W gm pa G) (F : Fr g L h m) (N : News g L h news) (hs : ∀ p ∈ W, p ∈ news) (hne : ∀ p ∈ W, p.1 ≠ pa) (hp0 : g.get? pa = none) : GameAt w (hideAll h [pa]) gm pa G :=
  H _ (fr_hide F hp0) fun p hp => hide1 (N p (hs p hp)).1 (hne p hp)
section
variable {prog : Program} {w : World} {p : Program} {loose : List Str} {mean : ExcName → Option Value} {mg mb : Str → Option Value} {s : Shared} {g : Heap} {L : Addr} {m : Str → Option Value} {news W : List (Addr × Obj)} {dp un : Nat} {fr : Option (List Env)} {gd : Option (List Code)} {Q E : Value → Shared → Prop} {gm pa : Addr} {G : GT} {xs : Array Value} {nd : Nat} {tn : Tok} {e : Nat} {d : Nat} {dI i : Int} {td ti tq : Tok} {gg : Obj → List (Addr × Obj)}
theorem game_R {c v ck : Addr} (F : Fr g L s.heap m) (N : News g L s.heap news) (X : (hd.heap_1 w.params).In g) (T : Top p loose mean mg mb g) (room : dp + 6 < recursionLimit) (hs : ∀ p ∈ W, p ∈ news)
    (hH : ∀ f, g.StaysIn f → (∀ p ∈ W, f.get? p.1 = some p.2) → RowsAt f c G.n G.kids ∧ IntsAt f v G.n G.val ∧ BoolsAt f ck G.n G.chk) (hn : G.n ≤ 1000) (hw : G.WF)
    (ret : ∀ x pa t e RG h' tk', Fr g L h' m → News g L h' ((pa, listOf ((#[] : Array Value).push (.int ((0 : Nat) : Int) t)) e) :: (RG ++ news)) → (∀ q ∈ news, q.1 ≠ pa) → (∀ p ∈ RG, p.1 ≠ pa) → (∀ p ∈ RG, ∀ q ∈ news, p.1 ≠ q.1) → GHeld w g (RG ++ W) x pa G → Q (.ref x) { s with heap := h', toks := tk' }) :
    wpAny (model prog w) (ar dp un fr gd) (call (.ref 225) [.ref c, .ref v, .ref ck]) Q E s := by
  have kW : ∀ p ∈ W, s.heap.get? p.1 = some p.2 := fun p hp => (N p (hs p hp)).1
  have sb : g.StaysIn (heapOf s.heap g W) := heapOf_base F.keep
  obtain ⟨h1, h2, h3⟩ := hH _ sb (heapOf_led kW)
  refine game_spec (fz := heapOf s.heap g W) (X.keeps sb) (T.keeps sb) (fun b o e => (heapOf_get e).1) room h1 h2 h3 hn hw fun x pa t e h' tk' hb hp0 hp hG => ?_
  have F' := Fr.but0 F hb
  have N' := News.but0 N hb
  have h0 : ∀ b, s.heap.get? b = none → b ≠ L ∧ g.get? b = none := fun b hb0 => by
    refine ⟨fun e => ?_, ?_⟩
    · obtain ⟨oL, es, ep, hL, _⟩ := F.ns
      rw [e, hL] at hb0; cases hb0
    · cases eg : g.get? b with
      | none => rfl
      | some o => rw [F.keep b o eg] at hb0; cases hb0
  refine ret x pa t e (newObjs s.heap h' pa) h' tk' F' ?_ (fun q hq => ne_of_none hp0 (N q hq).1) (fun p hp => (newObjs_mem hp).2.2) (fun p hp q hq e => ?_) (fun f hgf hf => ?_)
  · intro q hq
    rcases List.mem_cons.mp hq with rfl | hq
    · exact ⟨hp, h0 _ hp0⟩
    · rcases List.mem_append.mp hq with hq | hq
      · exact ⟨(newObjs_mem hq).1, h0 _ (newObjs_mem hq).2.1⟩
      · exact N' q hq
  · have a1 := (newObjs_mem hp).2.1
    rw [e, (N q hq).1] at a1; cases a1
  · exact hG f (heapOf_stays F.keep kW hgf fun p hp => hf p (List.mem_append_right _ hp)) fun b o e1 e2 e3 => hf (b, o) (List.mem_append_left _ (mem_newObjs e1 e2 e3))
theorem neg_W (F : Fr g L s.heap m) (N : News g L s.heap news) (X : (hd.heap_1 w.params).In g) (T : Top p loose mean mg mb g) (U : UpdF pa (listOf (xs.push (.int nd tn)) e) news gg) (GH : GHeld w g W gm pa G) (hs : ∀ p ∈ W, p ∈ news) (hne : ∀ p ∈ W, p.1 ≠ pa) (room : dp + d + 5 < recursionLimit) (hnd : nd < G.n) (hz : xs.size + d ≤ 980) (hn : G.n ≤ 1000) (hw : G.WF) (hdI : dI = d)
    (ret : ∀ t h' tk' e', Fr g L h' m → News g L h' (gg (listOf (xs.push (.int nd tn)) e')) → Q (.int (negaV G d i nd) t) { s with heap := h', toks := tk' }) :
    wpAny (model prog w) (ar dp un fr gd) (call (.ref 49) [.ref gm, .int dI td, .int i ti, .int 0 tq]) Q E s := by
  have z := N _ (updF_mem U)
  refine neg_spec d (X.keeps (fr_hide F z.2.2)) (T.keeps (fr_hide F z.2.2)) hide_stays room (GH.now F N hs hne z.2.2) z.1 hid0 hnd hz hn hw hdI fun x t h' tk' e' hx hb hp => ?_
  subst hx
  obtain ⟨F', N'⟩ := after1 F N U hb hp
  exact ret t h' tk' e' F' N'
theorem ab_W {al be : Int} {tal tbe : Tok} (F : Fr g L s.heap m) (N : News g L s.heap news) (X : (hd.heap_1 w.params).In g) (T : Top p loose mean mg mb g) (U : UpdF pa (listOf (xs.push (.int nd tn)) e) news gg) (GH : GHeld w g W gm pa G) (hs : ∀ p ∈ W, p ∈ news) (hne : ∀ p ∈ W, p.1 ≠ pa) (room : dp + d + 5 < recursionLimit) (hnd : nd < G.n) (hz : xs.size + d ≤ 980) (hn : G.n ≤ 1000) (hw : G.WF) (hdI : dI = d) (hal : -32001 ≤ al) (hab : al < be) (hbe : be ≤ 32001)
    (ret : ∀ x t h' tk' e', AbOk (negaV G d i nd) al be x → Fr g L h' m → News g L h' (gg (listOf (xs.push (.int nd tn)) e')) → Q (.int x t) { s with heap := h', toks := tk' }) :
    wpAny (model prog w) (ar dp un fr gd) (call (.ref 77) [.ref gm, .int al tal, .int be tbe, .int dI td, .int i ti, .int 0 tq]) Q E s := by
  have z := N _ (updF_mem U)
  refine ab_spec d (X.keeps (fr_hide F z.2.2)) (T.keeps (fr_hide F z.2.2)) hide_stays room (GH.now F N hs hne z.2.2) z.1 hid0 hnd hz hn hw hdI hal hab hbe fun x t h' tk' e' hx hb hp => ?_
  obtain ⟨F', N'⟩ := after1 F N U hb hp
  exact ret x t h' tk' e' hx F' N'
theorem cnt_W (F : Fr g L s.heap m) (N : News g L s.heap news) (X : (hd.heap_1 w.params).In g) (T : Top p loose mean mg mb g) (U : UpdF pa (listOf (xs.push (.int nd tn)) e) news gg) (GH : GHeld w g W gm pa G) (hs : ∀ p ∈ W, p ∈ news) (hne : ∀ p ∈ W, p.1 ≠ pa) (room : dp + d + 5 < recursionLimit) (hnd : nd < G.n) (hz : xs.size + d ≤ 980) (hn : G.n ≤ 1000) (hw : G.WF) (hfi : G.Fin d nd) (hdI : dI = d)
    (ret : ∀ t h' tk' e', Fr g L h' m → News g L h' (gg (listOf (xs.push (.int nd tn)) e')) → Q (.int (cntV G d nd) t) { s with heap := h', toks := tk' }) :
    wpAny (model prog w) (ar dp un fr gd) (call (.ref 63) [.ref gm, .int dI td, .int i ti, .int 0 tq]) Q E s := by
  have z := N _ (updF_mem U)
  refine cnt_spec d (X.keeps (fr_hide F z.2.2)) (T.keeps (fr_hide F z.2.2)) hide_stays room (GH.now F N hs hne z.2.2) z.1 hid0 hnd hz hn hw hfi hdI fun x t h' tk' e' hx hb hp => ?_
  subst hx
  obtain ⟨F', N'⟩ := after1 F N U hb hp
  exact ret t h' tk' e' F' N'
theorem best_W (F : Fr g L s.heap m) (N : News g L s.heap news) (X : (hd.heap_1 w.params).In g) (T : Top p loose mean mg mb g) (U : UpdF pa (listOf (xs.push (.int nd tn)) e) news gg) (GH : GHeld w g W gm pa G) (hs : ∀ p ∈ W, p ∈ news) (hne : ∀ p ∈ W, p.1 ≠ pa) (room : dp + d + 6 < recursionLimit) (hnd : nd < G.n) (hz : xs.size + d ≤ 970) (hn : G.n ≤ 1000) (hw : G.WF) (hdI : dI = d + 1) (hbm : (bmV G d nd).2.2 ≠ [])
    (ret : ∀ D Df vs cf tb h' tk' e', Fr g L h' m → News g L h' ((D, { cls := .type "tuple", data := .seq #[.int (bmV G d nd).2.1 tb, .ref Df] }) :: (Df, listOf vs.toArray cf) :: gg (listOf (xs.push (.int nd tn)) e')) → IntsAre vs (bmV G d nd).2.2 → AllNe D news → AllNe Df news → Q (.ref D) { s with heap := h', toks := tk' }) :
    wpAny (model prog w) (ar dp un fr gd) (call (.ref 56) [.ref gm, .int dI td, .int 0 tq]) Q E s := by
  have z := N _ (updF_mem U)
  refine best_spec (X.keeps (fr_hide F z.2.2)) (T.keeps (fr_hide F z.2.2)) hide_stays room (GH.now F N hs hne z.2.2) z.1 hid0 hnd hz hn hw hdI hbm fun D Df vs cf tb h' tk' e' hb hp h1 h2 h3 h4 => ?_
  have hM : MadeL s.heap h' [(D, { cls := .type "tuple", data := .seq #[.int (bmV G d nd).2.1 tb, .ref Df] }), (Df, listOf vs.toArray cf)] := by
    intro p hp
    rcases List.mem_cons.mp hp with rfl | hp
    · exact ⟨h1, h4.1⟩
    rcases List.mem_cons.mp hp with rfl | hp
    · exact ⟨h2, h4.2⟩
    cases hp
  obtain ⟨F', N', hq⟩ := after2 F N U hb hp hM
  exact ret D Df vs cf tb h' tk' e' F' N' h3 (allNe_of fun q hq => ne_of_none h4.1 (N q hq).1) (allNe_of fun q hq => ne_of_none h4.2 (N q hq).1)
/-- the lists of the law -/
def LHeld (g : Heap) (W : List (Addr × Obj)) (c pl v ck : Addr) (G : GT) (plv : Nat → Int) : Prop := ∀ f, g.StaysIn f → (∀ p ∈ W, f.get? p.1 = some p.2) → RowsAt f c G.n G.kids ∧ IntsAt f pl G.n plv ∧ IntsAt f v G.n G.val ∧ BoolsAt f ck G.n G.chk
theorem lv_W {c pl v ck : Addr} {plv : Nat → Int} {D : Int} {tD : Tok} (F : Fr g L s.heap m) (N : News g L s.heap news) (X : (hd.heap_1 w.params).In g) (T : Top p loose mean mg mb g) (H : LHeld g W c pl v ck G plv) (hs : ∀ p ∈ W, p ∈ news) (room : dp + d + 5 < recursionLimit) (hun : un + 8 * d + 100 < cLine) (hnd : nd < G.n) (hn : G.n ≤ 1000) (hw : G.WF) (hfi : G.Fin d nd)
    (ret : ∀ t h' tk', Fr g L h' m → News g L h' news → Q (.int (lawV G plv D d nd) t) { s with heap := h', toks := tk' }) :
    wpAny (model prog w) (ar dp un fr gd) (call (.ref 230) [.ref c, .ref pl, .ref v, .ref ck, .int D tD, .int nd tn]) Q E s := by
  obtain ⟨h1, h2, h3, h4⟩ := H s.heap F.keep fun p hp => (N p (hs p hp)).1
  exact lv_spec d (X.keeps F.keep) (T.keeps F.keep) (fun _ _ e => e) room hun h1 h2 h3 h4 hnd hn hw hfi fun x t h' tk' hx hb => by subst hx; exact ret t h' tk' (Fr.but0 F hb) (News.but0 N hb)
theorem right_W {c pl v ck bl : Addr} {plv : Nat → Int} {D V : Int} {tD tV : Tok} {bs : List Value} {B : List Nat} {cb : Nat} (F : Fr g L s.heap m) (N : News g L s.heap news) (X : (hd.heap_1 w.params).In g) (T : Top p loose mean mg mb g) (H : LHeld g W c pl v ck G plv) (hs : ∀ p ∈ W, p ∈ news) (room : dp + d + 12 < recursionLimit) (hun : un + 200 < cLine) (hbl : (bl, listOf bs.toArray cb) ∈ news) (hbi : IntsAre bs (B.map fun (j : Nat) => 1 + (j : Int))) (hB : ∀ j ∈ B, j < (G.kids 0).length) (hBl : B.length ≤ 1000) (hn : G.n ≤ 1000) (hn0 : 0 < G.n) (hw : G.WF) (hD : D = d + 1) (hd9 : d ≤ 900) (hBne : B ≠ []) (hbm : (bmV (G.set0 (aloneK G B)) d 0).2 = (V, rangeKs 1 B.length)) (hoth : othersK G B = [] ∨ negaV (G.set0 (othersK G B)) (d + 1) 0 0 < V)
    (ret : ∀ h' tk', Fr g L h' m → News g L h' news → Q (.bool true) { s with heap := h', toks := tk' }) :
    wpAny (model prog w) (ar dp un fr gd) (call (.ref 235) [.ref c, .ref v, .ref ck, .int D tD, .int V tV, .ref bl]) Q E s := by
  obtain ⟨h1, h2, h3, h4⟩ := H s.heap F.keep fun p hp => (N p (hs p hp)).1
  exact right_spec (X.keeps F.keep) (T.keeps F.keep) (fun _ _ e => e) room hun h1 h3 h4 ⟨_, (N _ hbl).1, rfl, cb, rfl⟩ hbi hB hBl hn hn0 hw hD hd9 hBne hbm hoth fun h' tk' hb => ret h' tk' (Fr.but0 F hb) (News.but0 N hb)
end
theorem GHeld.more {w : World} {g : Heap} {W W' : List (Addr × Obj)} {gm pa : Addr} {G : GT} (H : GHeld w g W gm pa G) (h : ∀ p ∈ W, p ∈ W') : GHeld w g W' gm pa G := fun f a b => H f a fun p hp => b p (h p hp)
theorem LHeld.more {g : Heap} {W W' : List (Addr × Obj)} {c pl v ck : Addr} {G : GT} {plv : Nat → Int} (H : LHeld g W c pl v ck G plv) (h : ∀ p ∈ W, p ∈ W') : LHeld g W' c pl v ck G plv := fun f a b => H f a fun p hp => b p (h p hp)
theorem RowsL.more {cs : List Value} {R R' : List (Addr × Obj)} {ks : List (List Nat)} (H : RowsL cs R ks) (h : ∀ p ∈ R, p ∈ R') : RowsL cs R' ks := ⟨H.1, fun i r e => by
  obtain ⟨a, row, c, e1, e2, e3⟩ := H.2 i r e
  exact ⟨a, row, c, e1, h _ e2, e3⟩⟩
theorem lheld_mk {g h : Heap} {L : Addr} {m : Str → Option Value} {cs ps ys ysk : List Value} {R : List (Addr × Obj)} {S : Addr × Obj} {ks : List (List Nat)} {pl : List Nat} {vals : List Int} {Dc Dp D Dk : Addr} {cc cp cd ck : Nat} (_F : Fr g L h m) (hrows : RowsL cs R ks) (hps : IntsAre ps (ZL pl)) (b3 : IntsAre ys vals) (hkl : ks.length = pl.length) (b4 : vals.length = pl.length) (hk1 : ysk.length = pl.length) (hk2 : ∀ j, j < pl.length → ysk[j]? = some (.bool (chkF ks vals j))) :
    LHeld g ((Dk, listOf ysk.toArray ck) :: (D, listOf ys.toArray cd) :: (Dc, listOf cs.toArray cc) :: (Dp, listOf ps.toArray cp) :: S :: R) Dc Dp D Dk (gameOf pl.length ks vals (chkF ks vals)) (plyF pl) := by
  intro f _ hf
  have h1 := rowsL_at hrows (hf _ (.tail _ (.tail _ (.head _)))) fun p hp => hf p (.tail _ (.tail _ (.tail _ (.tail _ (.tail _ hp)))))
  have h2 := intsL_at hps (hf _ (.tail _ (.tail _ (.tail _ (.head _)))))
  have h3 := intsL_at b3 (hf _ (.tail _ (.head _)))
  rw [hkl] at h1
  rw [b4] at h3
  rw [show (ZL pl).length = pl.length by simp [ZL]] at h2
  exact ⟨h1, h2, h3, boolsL_at hk1 hk2 (hf _ (.head _))⟩
theorem News.canon2 {g h : Heap} {L : Addr} {Dk D p c5 c4 c3 c2 c1 Dc Dp l : Addr × Obj} {R : List (Addr × Obj)} (N : News g L h (Dk :: D :: p :: c5 :: c4 :: c3 :: c2 :: c1 :: Dc :: Dp :: l :: R)) : News g L h (p :: c5 :: c4 :: c3 :: c2 :: c1 :: Dk :: D :: Dc :: Dp :: l :: R) := News.sub N (mem_cons2 (.tail _ (.tail _ (.head _))) (mem_cons2 (.tail _ (.tail _ (.tail _ (.head _)))) (mem_cons2 (.tail _ (.tail _ (.tail _ (.tail _ (.head _))))) (mem_cons2 (.tail _ (.tail _ (.tail _ (.tail _ (.tail _ (.head _)))))) (mem_cons2 (.tail _ (.tail _ (.tail _ (.tail _ (.tail _ (.tail _ (.head _))))))) (mem_cons2 (.tail _ (.tail _ (.tail _ (.tail _ (.tail _ (.tail _ (.tail _ (.head _)))))))) (mem_cons2 (.head _) (mem_cons2 (.tail _ (.head _)) (mem_cons2 (.tail _ (.tail _ (.tail _ (.tail _ (.tail _ (.tail _ (.tail _ (.tail _ (.head _))))))))) (mem_cons2 (.tail _ (.tail _ (.tail _ (.tail _ (.tail _ (.tail _ (.tail _ (.tail _ (.tail _ (.head _)))))))))) (mem_cons2 (.tail _ (.tail _ (.tail _ (.tail _ (.tail _ (.tail _ (.tail _ (.tail _ (.tail _ (.tail _ (.head _))))))))))) (fun _ h => (.tail _ (.tail _ (.tail _ (.tail _ (.tail _ (.tail _ (.tail _ (.tail _ (.tail _ (.tail _ (.tail _ h)))))))))))))))))))))))
theorem News.canon3 {g h : Heap} {L : Addr} {a Dk D p c5 c4 c3 c2 c1 Dc Dp l : Addr × Obj} {RG R : List (Addr × Obj)} (N : News g L h (a :: (RG ++ (p :: c5 :: c4 :: c3 :: c2 :: c1 :: Dk :: D :: Dc :: Dp :: l :: R)))) : News g L h (a :: p :: c5 :: c4 :: c3 :: c2 :: c1 :: Dk :: D :: Dc :: Dp :: l :: (RG ++ R)) := News.sub N (mem_cons2 (.head _) (mem_cons2 (.tail _ (List.mem_append_right RG (.head _))) (mem_cons2 (.tail _ (List.mem_append_right RG (.tail _ (.head _)))) (mem_cons2 (.tail _ (List.mem_append_right RG (.tail _ (.tail _ (.head _))))) (mem_cons2 (.tail _ (List.mem_append_right RG (.tail _ (.tail _ (.tail _ (.head _)))))) (mem_cons2 (.tail _ (List.mem_append_right RG (.tail _ (.tail _ (.tail _ (.tail _ (.head _))))))) (mem_cons2 (.tail _ (List.mem_append_right RG (.tail _ (.tail _ (.tail _ (.tail _ (.tail _ (.head _)))))))) (mem_cons2 (.tail _ (List.mem_append_right RG (.tail _ (.tail _ (.tail _ (.tail _ (.tail _ (.tail _ (.head _))))))))) (mem_cons2 (.tail _ (List.mem_append_right RG (.tail _ (.tail _ (.tail _ (.tail _ (.tail _ (.tail _ (.tail _ (.head _)))))))))) (mem_cons2 (.tail _ (List.mem_append_right RG (.tail _ (.tail _ (.tail _ (.tail _ (.tail _ (.tail _ (.tail _ (.tail _ (.head _))))))))))) (mem_cons2 (.tail _ (List.mem_append_right RG (.tail _ (.tail _ (.tail _ (.tail _ (.tail _ (.tail _ (.tail _ (.tail _ (.tail _ (.head _)))))))))))) (mem_cons2 (.tail _ (List.mem_append_right RG (.tail _ (.tail _ (.tail _ (.tail _ (.tail _ (.tail _ (.tail _ (.tail _ (.tail _ (.tail _ (.head _))))))))))))) (mem_app (fun _ h => (.tail _ (List.mem_append_left _ h))) (fun _ h => (.tail _ (List.mem_append_right RG (.tail _ (.tail _ (.tail _ (.tail _ (.tail _ (.tail _ (.tail _ (.tail _ (.tail _ (.tail _ (.tail _ h)))))))))))))))))))))))))))
theorem tail5_mem {Dk D Dc Dp l : Addr × Obj} {RG R : List (Addr × Obj)} : ∀ p ∈ RG ++ (Dk :: D :: Dc :: Dp :: l :: R), p ∈ Dk :: D :: Dc :: Dp :: l :: (RG ++ R) := (mem_app (fun _ h => (.tail _ (.tail _ (.tail _ (.tail _ (.tail _ (List.mem_append_left _ h))))))) (mem_cons2 (.head _) (mem_cons2 (.tail _ (.head _)) (mem_cons2 (.tail _ (.tail _ (.head _))) (mem_cons2 (.tail _ (.tail _ (.tail _ (.head _)))) (mem_cons2 (.tail _ (.tail _ (.tail _ (.tail _ (.head _))))) (fun _ h => (.tail _ (.tail _ (.tail _ (.tail _ (.tail _ (List.mem_append_right RG h)))))))))))))
theorem tail5_sub {Dk D Dc Dp l : Addr × Obj} {RG R : List (Addr × Obj)} : ∀ p ∈ Dk :: D :: Dc :: Dp :: l :: R, p ∈ Dk :: D :: Dc :: Dp :: l :: (RG ++ R) := fun p hp => tail5_mem p (List.mem_append_right _ hp)
theorem ex11 {p c5 c4 c3 c2 c1 Dk D Dc Dp l q : Addr × Obj} {R : List (Addr × Obj)} (h : q ∈ [p, c5, c4, c3, c2, c1, Dk, D, Dc, Dp, l]) : q ∈ p :: c5 :: c4 :: c3 :: c2 :: c1 :: Dk :: D :: Dc :: Dp :: l :: R := (mem_cons2 (.head _) (mem_cons2 (.tail _ (.head _)) (mem_cons2 (.tail _ (.tail _ (.head _))) (mem_cons2 (.tail _ (.tail _ (.tail _ (.head _)))) (mem_cons2 (.tail _ (.tail _ (.tail _ (.tail _ (.head _))))) (mem_cons2 (.tail _ (.tail _ (.tail _ (.tail _ (.tail _ (.head _)))))) (mem_cons2 (.tail _ (.tail _ (.tail _ (.tail _ (.tail _ (.tail _ (.head _))))))) (mem_cons2 (.tail _ (.tail _ (.tail _ (.tail _ (.tail _ (.tail _ (.tail _ (.head _)))))))) (mem_cons2 (.tail _ (.tail _ (.tail _ (.tail _ (.tail _ (.tail _ (.tail _ (.tail _ (.head _))))))))) (mem_cons2 (.tail _ (.tail _ (.tail _ (.tail _ (.tail _ (.tail _ (.tail _ (.tail _ (.tail _ (.head _)))))))))) (mem_cons2 (.tail _ (.tail _ (.tail _ (.tail _ (.tail _ (.tail _ (.tail _ (.tail _ (.tail _ (.tail _ (.head _))))))))))) (fun _ h => absurd h List.not_mem_nil)))))))))))) _ h
theorem off_game {pa : Addr} {p c5 c4 c3 c2 c1 Dk D Dc Dp l : Addr × Obj} {RG R : List (Addr × Obj)} (h1 : ∀ q ∈ p :: c5 :: c4 :: c3 :: c2 :: c1 :: Dk :: D :: Dc :: Dp :: l :: R, q.1 ≠ pa) (h2 : ∀ q ∈ RG, q.1 ≠ pa) (h3 : ∀ r ∈ RG, ∀ q ∈ p :: c5 :: c4 :: c3 :: c2 :: c1 :: Dk :: D :: Dc :: Dp :: l :: R, r.1 ≠ q.1) (h4 : Off R [p.1, c5.1, c4.1, c3.1, c2.1, c1.1]) : Off (RG ++ R) [pa, p.1, c5.1, c4.1, c3.1, c2.1, c1.1] := by
  intro q hq d hd
  rcases List.mem_append.mp hq with hq | hq
  · rcases List.mem_cons.mp hd with rfl | hd
    · exact h2 q hq
    · have hd' : d ∈ ([p, c5, c4, c3, c2, c1].map (·.1)) := hd
      obtain ⟨z, hz, rfl⟩ := List.mem_map.mp hd'
      exact h3 q hq z (canon_ex hz)
  · rcases List.mem_cons.mp hd with rfl | hd
    · exact h1 q (by simp [hq])
    · exact h4 q hq d hd
theorem off_sub {R : List (Addr × Obj)} {a b : List Addr} (h : Off R a) (hs : ∀ d ∈ b, d ∈ a) : Off R b := fun p hp d hd => h p hp d (hs d hd)
theorem tail5_back {Dk D Dc Dp l : Addr × Obj} {RG R : List (Addr × Obj)} {p : Addr × Obj} (h : p ∈ Dk :: D :: Dc :: Dp :: l :: (RG ++ R)) : p ∈ RG ++ (Dk :: D :: Dc :: Dp :: l :: R) := (mem_cons2 (List.mem_append_right RG (.head _)) (mem_cons2 (List.mem_append_right RG (.tail _ (.head _))) (mem_cons2 (List.mem_append_right RG (.tail _ (.tail _ (.head _)))) (mem_cons2 (List.mem_append_right RG (.tail _ (.tail _ (.tail _ (.head _))))) (mem_cons2 (List.mem_append_right RG (.tail _ (.tail _ (.tail _ (.tail _ (.head _)))))) (mem_app (fun _ h => (List.mem_append_left _ h)) (fun _ h => (List.mem_append_right RG (.tail _ (.tail _ (.tail _ (.tail _ (.tail _ h))))))))))))) _ h
theorem lst_eq {ys : List Value} : LCg.lst ys = listOf ys.toArray ys.length := rfl
theorem off_W {pa : Addr} {p c5 c4 c3 c2 c1 Dk D Dc Dp l : Addr × Obj} {RG R : List (Addr × Obj)} (h1 : ∀ q ∈ p :: c5 :: c4 :: c3 :: c2 :: c1 :: Dk :: D :: Dc :: Dp :: l :: R, q.1 ≠ pa) (h2 : ∀ q ∈ RG, q.1 ≠ pa) : ∀ q ∈ Dk :: D :: Dc :: Dp :: l :: (RG ++ R), q.1 ≠ pa := fun q hq => by
  rcases List.mem_append.mp (tail5_back hq) with h | h
  · exact h2 q h
  · exact h1 q (.tail _ (.tail _ (.tail _ (.tail _ (.tail _ (.tail _ h))))))
end Mine
end
section
open PySem PySem.W PyProof.Rows PySem.Calls PySem.Spec
namespace Mine
theorem rowsL_nil {R : List (Addr × Obj)} : RowsL [] R [] := ⟨rfl, fun i r h => by cases h⟩
theorem rev_g {prog : Program} {w : World} {A : Around} {E : Value → Shared → Prop} {s : Shared} {h₀ : Heap} {L l : Addr} {m : Str → Option Value} {news : List (Addr × Obj)} {value slice : PySem.Expr} {vs : List Value} {ns : List Int} {vk : Value} {ops : List Value} {Q : Value → Shared → Prop} (F : Fr h₀ L s.heap m) (N : News h₀ L s.heap news) (hl : h₀.IsList l vs.toArray) (pk : IsPart vk (some (-1))) (hi : IntsAre vs ns) (hz : ns.length ≤ 1000)
    (h : ∀ D ws h', Fr h₀ L h' m → News h₀ L h' ((D, listOf (List.toArray ws) 0) :: news) → (∀ p ∈ news, p.1 < D) → IntsAre ws ns.reverse → Q (.ref D) { s with heap := h' })
    (hs : subscripted slice false (.ref l) (.ref s.heap.objs.size) = operate ops (getItem (.ref l) (.ref s.heap.objs.size))) (ht : ∀ r, letTemporaryGo value (.ref l) r = pure ()) :
    wpAny (model prog w) A (subscriptTail value slice (.ref l) (.ref s.heap.objs.size)) Q E { s with heap := s.heap.push { cls := .type "slice", data := .fields #[.none, .none, vk] } } :=
  krv_ints F N (isList_stays F.keep hl) pk hi (fun D ws h' F' N' l1 hI _ => h D ws h' F' N' l1 hI) hs ht (by rw [sizeLine_eq, List.size_toArray, hi.length]; omega)
theorem rowsL_rev {ys : List Value} {R : List (Addr × Obj)} {ks : List (List Nat)} {i : Nat} {r : List Nat} {D : Addr} {ws : List Value} {c : Nat} (H : RowsL ys R ((ks.take i).map List.reverse)) (hr : ks[i]? = some r) (hw : IntsAre ws (ZL r).reverse) : RowsL (ys ++ [.ref D]) ((D, listOf ws.toArray c) :: R) ((ks.take (i + 1)).map List.reverse) := by
  have et : (ks.take (i + 1)).map List.reverse = (ks.take i).map List.reverse ++ [r.reverse] := by rw [List.take_add_one, hr]; simp
  rw [et]
  refine ⟨by simp [H.1], fun j q hq => ?_⟩
  rcases Nat.lt_trichotomy j ((ks.take i).map List.reverse).length with h1 | h1 | h1
  · rw [List.getElem?_append_left h1] at hq
    obtain ⟨x, row, c', e1, e2, e3⟩ := H.2 j q hq
    exact ⟨x, row, c', by rw [List.getElem?_append_left (by rw [H.1]; exact h1)]; exact e1, .tail _ e2, e3⟩
  · rw [List.getElem?_append_right (Nat.le_of_eq h1.symm), h1, Nat.sub_self] at hq
    have : q = r.reverse := by simpa using hq.symm
    subst this
    refine ⟨D, ws, c, ?_, .head _, ?_⟩
    · rw [List.getElem?_append_right (by rw [H.1]; omega), H.1, h1, Nat.sub_self]; rfl
    · have : ZL r.reverse = (ZL r).reverse := by simp [ZL]
      rw [this]; exact hw
  · rw [List.getElem?_eq_none (by simp; simp at h1; omega)] at hq; cases hq
theorem off_fresh {g h : Heap} {L : Addr} {news R9 : List (Addr × Obj)} (N : News g L h news) (h9 : ∀ p ∈ R9, h.get? p.1 = none) : ∀ p ∈ R9, ∀ q ∈ news, p.1 ≠ q.1 := fun p hp q hq e => by
  have a1 := h9 p hp
  rw [e, (N q hq).1] at a1; cases a1
theorem ex7 {x y a p c5 c4 c3 c2 c1 q : Addr × Obj} {W : List (Addr × Obj)} (h : q ∈ [a, p, c5, c4, c3, c2, c1]) : q ∈ x :: y :: a :: p :: c5 :: c4 :: c3 :: c2 :: c1 :: W := (mem_cons2 (.tail _ (.tail _ (.head _))) (mem_cons2 (.tail _ (.tail _ (.tail _ (.head _)))) (mem_cons2 (.tail _ (.tail _ (.tail _ (.tail _ (.head _))))) (mem_cons2 (.tail _ (.tail _ (.tail _ (.tail _ (.tail _ (.head _)))))) (mem_cons2 (.tail _ (.tail _ (.tail _ (.tail _ (.tail _ (.tail _ (.head _))))))) (mem_cons2 (.tail _ (.tail _ (.tail _ (.tail _ (.tail _ (.tail _ (.tail _ (.head _)))))))) (mem_cons2 (.tail _ (.tail _ (.tail _ (.tail _ (.tail _ (.tail _ (.tail _ (.tail _ (.head _))))))))) (fun _ h => absurd h List.not_mem_nil)))))))) _ h
theorem News.canon4 {g h : Heap} {L : Addr} {E T b a Dk D p c5 c4 c3 c2 c1 Dc Dp l : Addr × Obj} {RG R : List (Addr × Obj)} (N : News g L h (E :: (RG ++ (T :: b :: a :: p :: c5 :: c4 :: c3 :: c2 :: c1 :: Dk :: D :: Dc :: Dp :: l :: R)))) : News g L h (E :: b :: a :: p :: c5 :: c4 :: c3 :: c2 :: c1 :: Dk :: D :: Dc :: Dp :: l :: (RG ++ R)) := News.sub N (mem_cons2 (.head _) (mem_cons2 (.tail _ (List.mem_append_right RG (.tail _ (.head _)))) (mem_cons2 (.tail _ (List.mem_append_right RG (.tail _ (.tail _ (.head _))))) (mem_cons2 (.tail _ (List.mem_append_right RG (.tail _ (.tail _ (.tail _ (.head _)))))) (mem_cons2 (.tail _ (List.mem_append_right RG (.tail _ (.tail _ (.tail _ (.tail _ (.head _))))))) (mem_cons2 (.tail _ (List.mem_append_right RG (.tail _ (.tail _ (.tail _ (.tail _ (.tail _ (.head _)))))))) (mem_cons2 (.tail _ (List.mem_append_right RG (.tail _ (.tail _ (.tail _ (.tail _ (.tail _ (.tail _ (.head _))))))))) (mem_cons2 (.tail _ (List.mem_append_right RG (.tail _ (.tail _ (.tail _ (.tail _ (.tail _ (.tail _ (.tail _ (.head _)))))))))) (mem_cons2 (.tail _ (List.mem_append_right RG (.tail _ (.tail _ (.tail _ (.tail _ (.tail _ (.tail _ (.tail _ (.tail _ (.head _))))))))))) (mem_cons2 (.tail _ (List.mem_append_right RG (.tail _ (.tail _ (.tail _ (.tail _ (.tail _ (.tail _ (.tail _ (.tail _ (.tail _ (.head _)))))))))))) (mem_cons2 (.tail _ (List.mem_append_right RG (.tail _ (.tail _ (.tail _ (.tail _ (.tail _ (.tail _ (.tail _ (.tail _ (.tail _ (.tail _ (.head _))))))))))))) (mem_cons2 (.tail _ (List.mem_append_right RG (.tail _ (.tail _ (.tail _ (.tail _ (.tail _ (.tail _ (.tail _ (.tail _ (.tail _ (.tail _ (.tail _ (.head _)))))))))))))) (mem_cons2 (.tail _ (List.mem_append_right RG (.tail _ (.tail _ (.tail _ (.tail _ (.tail _ (.tail _ (.tail _ (.tail _ (.tail _ (.tail _ (.tail _ (.tail _ (.head _))))))))))))))) (mem_cons2 (.tail _ (List.mem_append_right RG (.tail _ (.tail _ (.tail _ (.tail _ (.tail _ (.tail _ (.tail _ (.tail _ (.tail _ (.tail _ (.tail _ (.tail _ (.tail _ (.head _)))))))))))))))) (mem_app (fun _ h => (.tail _ (List.mem_append_left _ h))) (fun _ h => (.tail _ (List.mem_append_right RG (.tail _ (.tail _ (.tail _ (.tail _ (.tail _ (.tail _ (.tail _ (.tail _ (.tail _ (.tail _ (.tail _ (.tail _ (.tail _ (.tail _ h))))))))))))))))))))))))))))))))
theorem off_W4 {pa : Addr} {T b a Dk D p c5 c4 c3 c2 c1 Dc Dp l : Addr × Obj} {RG R : List (Addr × Obj)} (h1 : ∀ q ∈ Dk :: D :: Dc :: Dp :: l :: R, q.1 ≠ pa) (h2 : ∀ r ∈ RG, ∀ q ∈ T :: b :: a :: p :: c5 :: c4 :: c3 :: c2 :: c1 :: Dk :: D :: Dc :: Dp :: l :: R, r.1 ≠ q.1) (ha : a.1 = pa) : ∀ q ∈ Dk :: D :: Dc :: Dp :: l :: (RG ++ R), q.1 ≠ pa := fun q hq => by
  rcases List.mem_append.mp (tail5_back hq) with h | h
  · exact ha ▸ h2 q h a (.tail _ (.tail _ (.head _)))
  · exact h1 q h
theorem off_O4 {T b a Dk D p c5 c4 c3 c2 c1 Dc Dp l : Addr × Obj} {RG R : List (Addr × Obj)} (h4 : Off R [a.1, p.1, c5.1, c4.1, c3.1, c2.1, c1.1]) (h2 : ∀ r ∈ RG, ∀ q ∈ T :: b :: a :: p :: c5 :: c4 :: c3 :: c2 :: c1 :: Dk :: D :: Dc :: Dp :: l :: R, r.1 ≠ q.1) : Off (RG ++ R) [a.1, p.1, c5.1, c4.1, c3.1, c2.1, c1.1] := by
  intro q hq d hd
  rcases List.mem_append.mp hq with hq | hq
  · have hd' : d ∈ ([a, p, c5, c4, c3, c2, c1].map (·.1)) := hd
    obtain ⟨z, hz, rfl⟩ := List.mem_map.mp hd'
    exact h2 q hq z (ex7 hz)
  · exact h4 q hq d hd
theorem sub_hd {W l : List (Addr × Obj)} {a : Addr × Obj} (ha : a ∈ l) (h : ∀ p ∈ W, p ∈ l) : ∀ p ∈ a :: W, p ∈ l := fun p hp => by
  rcases List.mem_cons.mp hp with rfl | hp
  · exact ha
  · exact h p hp
theorem News.canon5 {g h : Heap} {L : Addr} {E o b a Dk D p c5 c4 c3 c2 c1 Dc Dp l : Addr × Obj} {RG R : List (Addr × Obj)} (N : News g L h (o :: (RG ++ (E :: b :: a :: p :: c5 :: c4 :: c3 :: c2 :: c1 :: Dk :: D :: Dc :: Dp :: l :: R)))) : News g L h (o :: b :: a :: p :: c5 :: c4 :: c3 :: c2 :: c1 :: Dk :: D :: Dc :: Dp :: l :: (E :: (RG ++ R))) := News.sub N (mem_cons2 (.head _) (mem_cons2 (.tail _ (List.mem_append_right RG (.tail _ (.head _)))) (mem_cons2 (.tail _ (List.mem_append_right RG (.tail _ (.tail _ (.head _))))) (mem_cons2 (.tail _ (List.mem_append_right RG (.tail _ (.tail _ (.tail _ (.head _)))))) (mem_cons2 (.tail _ (List.mem_append_right RG (.tail _ (.tail _ (.tail _ (.tail _ (.head _))))))) (mem_cons2 (.tail _ (List.mem_append_right RG (.tail _ (.tail _ (.tail _ (.tail _ (.tail _ (.head _)))))))) (mem_cons2 (.tail _ (List.mem_append_right RG (.tail _ (.tail _ (.tail _ (.tail _ (.tail _ (.tail _ (.head _))))))))) (mem_cons2 (.tail _ (List.mem_append_right RG (.tail _ (.tail _ (.tail _ (.tail _ (.tail _ (.tail _ (.tail _ (.head _)))))))))) (mem_cons2 (.tail _ (List.mem_append_right RG (.tail _ (.tail _ (.tail _ (.tail _ (.tail _ (.tail _ (.tail _ (.tail _ (.head _))))))))))) (mem_cons2 (.tail _ (List.mem_append_right RG (.tail _ (.tail _ (.tail _ (.tail _ (.tail _ (.tail _ (.tail _ (.tail _ (.tail _ (.head _)))))))))))) (mem_cons2 (.tail _ (List.mem_append_right RG (.tail _ (.tail _ (.tail _ (.tail _ (.tail _ (.tail _ (.tail _ (.tail _ (.tail _ (.tail _ (.head _))))))))))))) (mem_cons2 (.tail _ (List.mem_append_right RG (.tail _ (.tail _ (.tail _ (.tail _ (.tail _ (.tail _ (.tail _ (.tail _ (.tail _ (.tail _ (.tail _ (.head _)))))))))))))) (mem_cons2 (.tail _ (List.mem_append_right RG (.tail _ (.tail _ (.tail _ (.tail _ (.tail _ (.tail _ (.tail _ (.tail _ (.tail _ (.tail _ (.tail _ (.tail _ (.head _))))))))))))))) (mem_cons2 (.tail _ (List.mem_append_right RG (.tail _ (.tail _ (.tail _ (.tail _ (.tail _ (.tail _ (.tail _ (.tail _ (.tail _ (.tail _ (.tail _ (.tail _ (.tail _ (.head _)))))))))))))))) (mem_cons2 (.tail _ (List.mem_append_right RG (.head _))) (mem_app (fun _ h => (.tail _ (List.mem_append_left _ h))) (fun _ h => (.tail _ (List.mem_append_right RG (.tail _ (.tail _ (.tail _ (.tail _ (.tail _ (.tail _ (.tail _ (.tail _ (.tail _ (.tail _ (.tail _ (.tail _ (.tail _ (.tail _ h)))))))))))))))))))))))))))))))))
theorem tail6_mem {E Dk D Dc Dp l : Addr × Obj} {RG R : List (Addr × Obj)} : ∀ p ∈ RG ++ (E :: Dk :: D :: Dc :: Dp :: l :: R), p ∈ Dk :: D :: Dc :: Dp :: l :: (E :: (RG ++ R)) := (mem_app (fun _ h => (.tail _ (.tail _ (.tail _ (.tail _ (.tail _ (.tail _ (List.mem_append_left _ h)))))))) (mem_cons2 (.tail _ (.tail _ (.tail _ (.tail _ (.tail _ (.head _)))))) (mem_cons2 (.head _) (mem_cons2 (.tail _ (.head _)) (mem_cons2 (.tail _ (.tail _ (.head _))) (mem_cons2 (.tail _ (.tail _ (.tail _ (.head _)))) (mem_cons2 (.tail _ (.tail _ (.tail _ (.tail _ (.head _))))) (fun _ h => (.tail _ (.tail _ (.tail _ (.tail _ (.tail _ (.tail _ (List.mem_append_right RG h)))))))))))))))
theorem tail6_back {E Dk D Dc Dp l : Addr × Obj} {RG R : List (Addr × Obj)} : ∀ p ∈ Dk :: D :: Dc :: Dp :: l :: (E :: (RG ++ R)), p ∈ RG ++ (E :: Dk :: D :: Dc :: Dp :: l :: R) := (mem_cons2 (List.mem_append_right RG (.tail _ (.head _))) (mem_cons2 (List.mem_append_right RG (.tail _ (.tail _ (.head _)))) (mem_cons2 (List.mem_append_right RG (.tail _ (.tail _ (.tail _ (.head _))))) (mem_cons2 (List.mem_append_right RG (.tail _ (.tail _ (.tail _ (.tail _ (.head _)))))) (mem_cons2 (List.mem_append_right RG (.tail _ (.tail _ (.tail _ (.tail _ (.tail _ (.head _))))))) (mem_cons2 (List.mem_append_right RG (.head _)) (mem_app (fun _ h => (List.mem_append_left _ h)) (fun _ h => (List.mem_append_right RG (.tail _ (.tail _ (.tail _ (.tail _ (.tail _ (.tail _ h)))))))))))))))
theorem tail6_sub {E Dk D Dc Dp l : Addr × Obj} {RG R : List (Addr × Obj)} : ∀ p ∈ Dk :: D :: Dc :: Dp :: l :: R, p ∈ Dk :: D :: Dc :: Dp :: l :: (E :: (RG ++ R)) := fun p hp => tail6_mem p (List.mem_append_right _ (.tail _ hp))
theorem off_W5 {pa : Addr} {E b a Dk D p c5 c4 c3 c2 c1 Dc Dp l : Addr × Obj} {RG R : List (Addr × Obj)} (h1 : ∀ q ∈ Dk :: D :: Dc :: Dp :: l :: R, q.1 ≠ pa) (h2 : ∀ r ∈ RG, ∀ q ∈ E :: b :: a :: p :: c5 :: c4 :: c3 :: c2 :: c1 :: Dk :: D :: Dc :: Dp :: l :: R, r.1 ≠ q.1) (ha : a.1 = pa) (hE : a.1 ≠ E.1) : ∀ q ∈ Dk :: D :: Dc :: Dp :: l :: (E :: (RG ++ R)), q.1 ≠ pa := fun q hq => by
  rcases List.mem_append.mp (tail6_back _ hq) with h | h
  · exact ha ▸ h2 q h a (.tail _ (.tail _ (.head _)))
  · rcases List.mem_cons.mp h with rfl | h
    · exact ha ▸ Ne.symm hE
    · exact h1 q h
theorem off_Wo {o : Addr} {E b a Dk D p c5 c4 c3 c2 c1 Dc Dp l : Addr × Obj} {RG R : List (Addr × Obj)} (h1 : ∀ q ∈ E :: b :: a :: p :: c5 :: c4 :: c3 :: c2 :: c1 :: Dk :: D :: Dc :: Dp :: l :: R, q.1 ≠ o) (h2 : ∀ q ∈ RG, q.1 ≠ o) : ∀ q ∈ Dk :: D :: Dc :: Dp :: l :: (E :: (RG ++ R)), q.1 ≠ o := fun q hq => by
  rcases List.mem_append.mp (tail6_back _ hq) with h | h
  · exact h2 q h
  · rcases List.mem_cons.mp h with rfl | h
    · exact h1 _ (.head _)
    · exact h1 q (.tail _ (.tail _ (.tail _ (.tail _ (.tail _ (.tail _ (.tail _ (.tail _ (.tail _ h)))))))))
theorem off_O5 {o : Addr} {E b a Dk D p c5 c4 c3 c2 c1 Dc Dp l : Addr × Obj} {RG R : List (Addr × Obj)} (h4 : Off R [a.1, p.1, c5.1, c4.1, c3.1, c2.1, c1.1]) (h1 : ∀ q ∈ E :: b :: a :: p :: c5 :: c4 :: c3 :: c2 :: c1 :: Dk :: D :: Dc :: Dp :: l :: R, q.1 ≠ o) (h3 : ∀ q ∈ RG, q.1 ≠ o) (h2 : ∀ r ∈ RG, ∀ q ∈ E :: b :: a :: p :: c5 :: c4 :: c3 :: c2 :: c1 :: Dk :: D :: Dc :: Dp :: l :: R, r.1 ≠ q.1) (hE : AllNe E.1 [a, p, c5, c4, c3, c2, c1]) : Off (E :: (RG ++ R)) [o, a.1, p.1, c5.1, c4.1, c3.1, c2.1, c1.1] := by
  intro q hq d hd
  rcases List.mem_cons.mp hd with rfl | hd
  · rcases List.mem_cons.mp hq with rfl | hq
    · exact h1 _ (.head _)
    rcases List.mem_append.mp hq with hq | hq
    · exact h3 q hq
    · exact h1 q (by simp [hq])
  · rcases List.mem_cons.mp hq with rfl | hq
    · simp only [AllNe, and_true] at hE
      simp only [List.mem_cons, List.not_mem_nil, or_false] at hd
      rcases hd with rfl | rfl | rfl | rfl | rfl | rfl | rfl
      · exact Ne.symm hE.1
      · exact Ne.symm hE.2.1
      · exact Ne.symm hE.2.2.1
      · exact Ne.symm hE.2.2.2.1
      · exact Ne.symm hE.2.2.2.2.1
      · exact Ne.symm hE.2.2.2.2.2.1
      · exact Ne.symm hE.2.2.2.2.2.2
    rcases List.mem_append.mp hq with hq | hq
    · have hd' : d ∈ ([a, p, c5, c4, c3, c2, c1].map (·.1)) := hd
      obtain ⟨z, hz, rfl⟩ := List.mem_map.mp hd'
      exact h2 q hq z (ex7 hz)
    · exact h4 q hq d hd
theorem wf_rev {n : Nat} {ks : List (List Nat)} {vals : List Int} {chk : Nat → Bool} (h : (gameOf n ks vals chk).WF) : (gameOf n (ks.map List.reverse) vals chk).WF := by
  have hrk : ∀ i, (gameOf n (ks.map List.reverse) vals chk).kids i = ((gameOf n ks vals chk).kids i).reverse := by
    intro i
    show (ks.map List.reverse).getD i [] = (ks.getD i []).reverse
    rw [List.getD_eq_getElem?_getD, List.getElem?_map, List.getD_eq_getElem?_getD]
    cases ks[i]? <;> rfl
  exact ⟨fun nd hnd => by rw [hrk, List.length_reverse]; exact h.len nd hnd, fun nd hnd k hk => h.lt nd hnd k (by rw [hrk] at hk; exact List.mem_reverse.mp hk), fun nd hnd hc => by rw [hrk, h.ck nd hnd hc]; rfl⟩
theorem ex13 {x b a p c5 c4 c3 c2 c1 Dk D Dc Dp l q : Addr × Obj} {W : List (Addr × Obj)} (h : q ∈ [b, a, p, c5, c4, c3, c2, c1, Dk, D, Dc, Dp, l]) : q ∈ x :: b :: a :: p :: c5 :: c4 :: c3 :: c2 :: c1 :: Dk :: D :: Dc :: Dp :: l :: W := (mem_cons2 (.tail _ (.head _)) (mem_cons2 (.tail _ (.tail _ (.head _))) (mem_cons2 (.tail _ (.tail _ (.tail _ (.head _)))) (mem_cons2 (.tail _ (.tail _ (.tail _ (.tail _ (.head _))))) (mem_cons2 (.tail _ (.tail _ (.tail _ (.tail _ (.tail _ (.head _)))))) (mem_cons2 (.tail _ (.tail _ (.tail _ (.tail _ (.tail _ (.tail _ (.head _))))))) (mem_cons2 (.tail _ (.tail _ (.tail _ (.tail _ (.tail _ (.tail _ (.tail _ (.head _)))))))) (mem_cons2 (.tail _ (.tail _ (.tail _ (.tail _ (.tail _ (.tail _ (.tail _ (.tail _ (.head _))))))))) (mem_cons2 (.tail _ (.tail _ (.tail _ (.tail _ (.tail _ (.tail _ (.tail _ (.tail _ (.tail _ (.head _)))))))))) (mem_cons2 (.tail _ (.tail _ (.tail _ (.tail _ (.tail _ (.tail _ (.tail _ (.tail _ (.tail _ (.tail _ (.head _))))))))))) (mem_cons2 (.tail _ (.tail _ (.tail _ (.tail _ (.tail _ (.tail _ (.tail _ (.tail _ (.tail _ (.tail _ (.tail _ (.head _)))))))))))) (mem_cons2 (.tail _ (.tail _ (.tail _ (.tail _ (.tail _ (.tail _ (.tail _ (.tail _ (.tail _ (.tail _ (.tail _ (.tail _ (.head _))))))))))))) (mem_cons2 (.tail _ (.tail _ (.tail _ (.tail _ (.tail _ (.tail _ (.tail _ (.tail _ (.tail _ (.tail _ (.tail _ (.tail _ (.tail _ (.head _)))))))))))))) (fun _ h => absurd h List.not_mem_nil)))))))))))))) _ h
theorem other_held {g : Heap} {ys : List Value} {R : List (Addr × Obj)} {ks : List (List Nat)} {n : Nat} {vals : List Int} {chk : Nat → Bool} {plv : Nat → Int} {E : Addr} {ce : Nat} {Dk D Dc Dp l : Addr × Obj} {a1 a2 a3 a4 : Addr} (H : RowsL ys R (ks.map List.reverse)) (hn : ks.length = n) (LH : LHeld g (Dk :: D :: Dc :: Dp :: l :: R) a1 a2 a3 a4 (gameOf n ks vals chk) plv) :
    ∀ f, g.StaysIn f → (∀ p ∈ (E, listOf ys.toArray ce) :: Dk :: D :: Dc :: Dp :: l :: R, f.get? p.1 = some p.2) → RowsAt f E (gameOf n (ks.map List.reverse) vals chk).n (gameOf n (ks.map List.reverse) vals chk).kids ∧ IntsAt f a3 (gameOf n (ks.map List.reverse) vals chk).n (gameOf n (ks.map List.reverse) vals chk).val ∧ BoolsAt f a4 (gameOf n (ks.map List.reverse) vals chk).n (gameOf n (ks.map List.reverse) vals chk).chk := by
  intro f hg hf
  have h1 := rowsL_at H (hf _ (.head _)) fun p hp => hf p (by simp [hp])
  rw [List.length_map, hn] at h1
  have h2 := LH f hg fun p hp => hf p (.tail _ hp)
  exact ⟨h1, h2.2.2⟩
theorem rev_N {prog : Program} {w : World} {A : Around} {E : Value → Shared → Prop} {s : Shared} {h₀ : Heap} {L l : Addr} {m : Str → Option Value} {news : List (Addr × Obj)} {value slice : PySem.Expr} {vs : List Value} {ns : List Int} {vk : Value} {ops : List Value} {c : Nat} {Q : Value → Shared → Prop} (F : Fr h₀ L s.heap m) (N : News h₀ L s.heap news) (hl : (l, listOf vs.toArray c) ∈ news) (pk : IsPart vk (some (-1))) (hi : IntsAre vs ns) (hz : ns.length ≤ 1000)
    (h : ∀ D ws h', Fr h₀ L h' m → News h₀ L h' ((D, listOf (List.toArray ws) 0) :: news) → (∀ p ∈ news, p.1 < D) → IntsAre ws ns.reverse → Q (.ref D) { s with heap := h' })
    (hs : subscripted slice false (.ref l) (.ref s.heap.objs.size) = operate ops (getItem (.ref l) (.ref s.heap.objs.size))) (ht : ∀ r, letTemporaryGo value (.ref l) r = pure ()) :
    wpAny (model prog w) A (subscriptTail value slice (.ref l) (.ref s.heap.objs.size)) Q E { s with heap := s.heap.push { cls := .type "slice", data := .fields #[.none, .none, vk] } } :=
  krv_ints F N ⟨_, (N _ hl).1, rfl, c, rfl⟩ pk hi (fun D ws h' F' N' l1 hI _ => h D ws h' F' N' l1 hI) hs ht (by rw [sizeLine_eq, List.size_toArray, hi.length]; omega)
theorem win_eq {V x : Int} (h : AbOk V (V - 1) (V + 1) x) : x = V := by unfold AbOk at h; omega
theorem win_ge {V x : Int} (h : AbOk V (V - 1) V x) : ¬ x < V := by unfold AbOk at h; omega
theorem win_le {V x : Int} (h : AbOk V V (V + 1) x) : ¬ V < x := by unfold AbOk at h; omega
def Apart (a b : Addr) : Prop := a ≠ b
theorem apart_ne {a b : Addr} (h : Apart a b) : a ≠ b := h
theorem apart_ne' {a b : Addr} (h : Apart b a) : a ≠ b := Ne.symm h
theorem ne_gN {prog : Program} {w : World} {A : Around} {E : Value → Shared → Prop} {s : Shared} {g : Heap} {L : Addr} {m : Str → Option Value} {news : List (Addr × Obj)} {a b : Addr} {xs ys : List Value} {ns ms : List Int} {c : Nat} {Q : Value → Shared → Prop} (F : Fr g L s.heap m) (N : News g L s.heap news)
    (ha : g.IsList a xs.toArray) (hb : (b, listOf ys.toArray c) ∈ news) (hi : IntsAre xs ns) (hj : IntsAre ys ms) (hu : A.units + 64 < cLine) (h : Q (.bool (!decide (ns = ms))) s) : wpAny (model prog w) A (compareOp .NotEq (.ref a) (.ref b)) Q E s :=
  ke_ne_ints (isList_stays F.keep ha) ⟨_, (N _ hb).1, rfl, c, rfl⟩ hi hj hu h
def innerJ (ks : List (List Nat)) (i : Nat) : List Nat := (List.range i).filter fun j => !(decide (ZL (rowF ks j) = []))
abbrev innerI (ks : List (List Nat)) (i : Nat) : List Int := (innerJ ks i).map fun (j : Nat) => 0 + (j : Int)
theorem inner_in {ks : List (List Nat)} {i : Nat} (h : (!decide (ZL (rowF ks i) = [])) = true) : innerI ks (i + 1) = innerI ks i ++ [0 + (i : Int)] := by
  unfold innerI innerJ
  rw [List.range_succ, List.filter_append, List.map_append]
  simp only [List.filter_cons, h, if_true, List.filter_nil, List.map_cons, List.map_nil]
theorem inner_out {ks : List (List Nat)} {i : Nat} (h : (!decide (ZL (rowF ks i) = [])) = false) : innerI ks (i + 1) = innerI ks i := by
  unfold innerI innerJ
  rw [List.range_succ, List.filter_append, List.map_append]
  simp only [List.filter_cons, h, List.filter_nil, List.map_nil, List.append_nil, Bool.false_eq_true, if_false]
theorem inner_len {ks : List (List Nat)} {i : Nat} : (innerJ ks i).length ≤ i := Nat.le_trans (List.length_filter_le _ _) (by simp)
theorem mem_inner {ks : List (List Nat)} {i j : Nat} (h : j ∈ innerJ ks i) : j < i ∧ rowF ks j ≠ [] := by
  have := List.mem_filter.mp h
  refine ⟨List.mem_range.mp this.1, ?_⟩
  have h2 := this.2
  intro e
  rw [e] at h2
  simp [ZL] at h2
theorem inner_pos {ks : List (List Nat)} {n : Nat} (hn : 0 < n) (h : rowF ks 0 ≠ []) : 0 < (innerJ ks n).length := by
  apply List.length_pos_of_mem (a := 0)
  unfold innerJ
  rw [List.mem_filter]
  exact ⟨List.mem_range.mpr hn, by simpa [ZL] using h⟩
theorem len_I {prog : Program} {w : World} {A : Around} {E : Value → Shared → Prop} {s : Shared} {g : Heap} {L : Addr} {news : List (Addr × Obj)} {Q : Value → Shared → Prop} {l : Addr} {row : List Value} {ns : List Int} {c : Nat} (N : News g L s.heap news) (hl : (l, listOf row.toArray c) ∈ news) (hi : IntsAre row ns) (hz : ns.length ≤ 20)
    (h : ∀ t tk, Q (.int (ns.length : Int) t) { s with toks := tk }) : wpAny (model prog w) A (call (.builtin "len") [.ref l]) Q E s := by
  have e : row.toArray.size = ns.length := by simp [hi.length]
  exact len_N N hl (by rw [e]; omega) (by rw [e]; exact h)
theorem inner_in' {ks : List (List Nat)} {i : Nat} (h : decide (ZL (rowF ks i) = []) = false) : innerI ks (i + 1) = innerI ks i ++ [0 + (i : Int)] := inner_in (by rw [h]; rfl)
theorem inner_out' {ks : List (List Nat)} {i : Nat} (h : decide (ZL (rowF ks i) = []) = true) : innerI ks (i + 1) = innerI ks i := inner_out (by rw [h]; rfl)
def Ph8 : Prop := True
end Mine
end
section
open PySem PySem.W PyProof.Rows PySem.Calls PySem.Spec
namespace Mine
theorem ex7b {x a p c5 c4 c3 c2 c1 q : Addr × Obj} {W : List (Addr × Obj)} (h : q ∈ [a, p, c5, c4, c3, c2, c1]) : q ∈ x :: a :: p :: c5 :: c4 :: c3 :: c2 :: c1 :: W := (mem_cons2 (.tail _ (.head _)) (mem_cons2 (.tail _ (.tail _ (.head _))) (mem_cons2 (.tail _ (.tail _ (.tail _ (.head _)))) (mem_cons2 (.tail _ (.tail _ (.tail _ (.tail _ (.head _))))) (mem_cons2 (.tail _ (.tail _ (.tail _ (.tail _ (.tail _ (.head _)))))) (mem_cons2 (.tail _ (.tail _ (.tail _ (.tail _ (.tail _ (.tail _ (.head _))))))) (mem_cons2 (.tail _ (.tail _ (.tail _ (.tail _ (.tail _ (.tail _ (.tail _ (.head _)))))))) (fun _ h => absurd h List.not_mem_nil)))))))) _ h
def AllA (D : Addr) : List (Addr × Obj) → Prop
  | [] => True
  | p :: r => Apart p.1 D ∧ AllA D r
theorem allA_of {D : Addr} : ∀ {l : List (Addr × Obj)}, (∀ q ∈ l, q.1 ≠ D) → AllA D l
  | [], _ => trivial
  | p :: _, h => ⟨h p (.head _), allA_of fun q hq => h q (.tail _ hq)⟩
end Mine
end
section
open PySem PySem.W PyProof.Rows PySem.Calls PySem.Spec PyProof.Rows.LCg
namespace Mine
section
variable {prog : Program} {w : World} {A : Around} {E : Value → Shared → Prop} {s : Shared}
theorem comp_loopT {R : Result → Shared → Prop} {elt target iter : Expr} {scope : Scope} {pos : Pos} {it acc : Value} {env : Env} (I : Nat → Shared → Prop)
    (turn : ∀ n s, I n s → wpAny (model prog w) A (pyNext it) (fun r s₁ => match r with
      | none => R (.ok .next) s₁
      | some v => wpAny (model prog w) A (letOwnedTupleGo target it v) (fun _ s₂ => wpAny (model prog w) A (assign target env v) (fun _ s₃ =>
          wpAny (model prog w) A (eval elt env) (fun x s₄ => wpAny (model prog w) A (call (.builtin "list.append") [acc, x]) (fun _ s₅ => ∃ m, m < n ∧ I m s₅)
            (notedBy (model prog w) A env fun e s' => R (.error e) s') s₄) (notedBy (model prog w) A env fun e s' => R (.error e) s') s₃) (notedBy (model prog w) A env fun e s' => R (.error e) s') s₂) (notedBy (model prog w) A env fun e s' => R (.error e) s') s₁) (notedBy (model prog w) A env fun e s' => R (.error e) s') s)
    (n : Nat) (h : I n s) : codeAny (model prog w) A (.compLoop (.ListComp elt [⟨target, iter, [], 0⟩] scope pos) 0 it acc env) R s := by
  refine codeAny_loop rfl I (fun n s hI => ?_) n h
  show wpAny _ A ((compTurn (.ListComp elt [⟨target, iter, [], 0⟩] scope pos) 0 it acc env).onRaise (fun x => do noteFrame x env; theTreesLotGoes x)) _ _ s
  refine wpAny_noted ?_
  rw [compTurn_list]
  refine wpAny_bind (wpAny_standAt (wpAny_bind (wpAny_mono (turn n s hI) (fun r s₁ h₁ => ?_) fun _ _ h' => h')))
  cases r with
  | none => exact wpAny_pure h₁
  | some v =>
    refine wpAny_bind (wpAny_mono h₁ (fun _ s₂ h₂ => wpAny_bind (wpAny_mono h₂ (fun _ s₃ h₃ => wpAny_bind (wpAny_tests_nil ?_)) fun _ _ h' => h')) fun _ _ h' => h')
    exact wpAny_bind (wpAny_bind (wpAny_mono h₃ (fun x s₄ h₄ => wpAny_bind (wpAny_mono h₄ (fun _ s₅ h₅ => wpAny_pure (wpAny_pure ⟨rfl, h₅⟩)) fun _ _ h' => h')) fun _ _ h' => h'))
variable {env : Env}
def CompStT (prog : Program) (w : World) (A : Around) (env : Env) (elt target iter : Expr) (scope : Scope) (cl : List (Str × Addr)) (pos : Pos) (Q : Value → Shared → Prop) (E : Value → Shared → Prop) (xv : Value) (s₁ : Shared) : Prop :=
  wpAny (model prog w) A (pyIter xv) (fun it s₂ => wpAny (model prog w) A (newList []) (fun acc s₃ => wpAny (model prog w) A (newFunctionEnv scope env.globals cl [] env.qual none .none (some env)) (fun cenv s₄ =>
    codeAny (model prog w) A (.compStart (.ListComp elt [⟨target, iter, [], 0⟩] scope pos) 0 it acc { cenv with scope := relabel scope env }) (compPost (model prog w) A E none Q acc cenv.locals) s₄) E s₃) E s₂) E s₁
theorem comp_evalT {elt target iter : Expr} {scope : Scope} {cl : List (Str × Addr)} {pos : Pos} {Q : Value → Shared → Prop}
    (hclos : closureFor scope env = pure cl) (hkind : scope.kind = .function) (hnames : ∀ y ∈ scope.names, y.2 = .local → scope.names.lookup y.1 = some .local) (hs : ∀ x, foldedSetIterable iter env x = pure x)
    (h : wpAny (model prog w) A (eval iter env) (CompStT prog w A env elt target iter scope cl pos Q E) E s) :
    wpAny (model prog w) A (eval (.ListComp elt [⟨target, iter, [], 0⟩] scope pos) env) Q E s := by
  rw [eval_ListComp]
  exact wpAny_comprehension_free (use := none) rfl hs hclos hkind hnames h
inductive EnumInv (s : Shared) (e it l : Addr) (items : Array Value) (D : Addr) (J : Nat → List Value → List (Addr × Obj) → Prop) (k : Nat) (s' : Shared) : Prop
  | mk (h' : Heap) (tk i : Nat) (old : Value) (ys : List Value) (m' : Str → Option Value) (R : List (Addr × Obj)) (hs : s' = { s with heap := h', toks := tk }) (hi : i ≤ items.size) (hk : k = items.size + 1 - i) (he : IsEnum h' e it ((i : Nat) : Int) old) (hit : h'.IsListIter it l i) (hl : h'.IsList l items)
    (keep : ∀ b o, s.heap.get? b = some o → b ≠ e → b ≠ it → h'.get? b = some o) (hn : h'.Ns (D + 1) m') (hacc : h'.get? D = some (lst ys)) (hmem : ∀ p ∈ R, h'.get? p.1 = some p.2) (hR : ∀ p ∈ R, p.1 ≠ D ∧ p.1 ≠ D + 1 ∧ s.heap.get? p.1 = none) (hj : J i ys R)
theorem compSt_enum {h₀ : Heap} {L e it l : Addr} {m : Str → Option Value} {fz : List (Addr × Obj)} {items : Array Value} {elt iter : Expr} {x1 x2 : Str} {p1 p2 pt : Pos} {k0 : Nat} {scope : Scope} {cl : List (Str × Addr)} {pos : Pos} {Q : Value → Shared → Prop} (J : Nat → List Value → List (Addr × Obj) → Prop)
    (hh : A.handled = none) (F : Fr h₀ L s.heap m) (N : News h₀ L s.heap fz) (he : IsEnum s.heap e it 0 .none) (hit : s.heap.IsListIter it l 0) (hl : s.heap.IsList l items)
    (hei : e ≠ it) (hle : l ≠ e) (hli : l ≠ it) (hze : ∀ p ∈ fz, p.1 ≠ e ∧ p.1 ≠ it) (h0e : h₀.get? e = none ∧ h₀.get? it = none) (hLe : L ≠ e ∧ L ≠ it) (hsz : items.size ≤ sizeLine)
    (hlen : ∀ i ys R, J i ys R → ys.length ≤ i) (hj0 : J 0 [] [])
    (hcell : ∀ y ∈ scope.names, y.2 ≠ .cell) (hkind : scope.kind = .function) (hx1 : scope.names.lookup x1 = some .local) (hx2 : scope.names.lookup x2 = some .local)
    (step : ∀ (g : Heap) (C : Addr) (i : Nat) (t : Tok) (v : Value) (ys : List Value) (R : List (Addr × Obj)) (h : Heap) (tk : Nat) (mr : Str → Option Value), (∀ b o, s.heap.get? b = some o → b ≠ e → b ≠ it → g.get? b = some o) → items[i]? = some v → J i ys R → Fr g C h (fun y => if y = x2 then some v else if y = x1 then some (.int (i : Int) t) else mr y) → News g C h R →
      wpAny (model prog w) A (eval elt (compEnvC scope cl C env)) (fun y s₄ => EltEnd g C [] (fun _ R' => J (i + 1) (ys ++ [y]) R') { s with heap := h, toks := tk } s₄) (fun _ _ => False) { s with heap := h, toks := tk })
    (done : ∀ D h tk ys R, J items.size ys R → Fr h₀ L h m → News h₀ L h ((D, lst ys) :: (R ++ fz)) → s.heap.get? D = none → (∀ p ∈ R, p.1 ≠ D ∧ s.heap.get? p.1 = none) → Q (.ref D) { s with heap := h, toks := tk }) :
    CompStT prog w A env elt (.Tuple [.Name x1 p1, .Name x2 p2] k0 pt) iter scope cl pos Q E (.ref e) s := by
  unfold CompStT
  refine wpAny_pyIter_enum he ?_
  refine wpAny_newObj_type (wpAny_newFunctionEnv hcell (by intro y hy; simp at hy) (fun h₁ hns₁ hsb₁ => ?_) hkind)
  dsimp only at hns₁ hsb₁ ⊢
  generalize hH2 : s.heap.push { cls := .type "list", dict := none, data := .seq ([] : List Value).toArray } = H2 at hns₁ hsb₁ ⊢
  have hC : H2.objs.size = s.heap.objs.size + 1 := by rw [← hH2, Heap.size_push]
  generalize hDd : s.heap.objs.size = D at *
  generalize hCd : H2.objs.size = C at *
  subst hC
  have below : ∀ b o, s.heap.get? b = some o → b < D := fun b o e => hDd ▸ Heap.lt_size e
  have old : ∀ b o, s.heap.get? b = some o → h₁.get? b = some o := fun b o e => hsb₁.extBut b o (Nat.ne_of_lt (Nat.lt_succ_of_lt (below b o e))) (Heap.get?_push_of_some _ (hH2 ▸ Heap.get?_push_of_some _ e))
  have hacc : h₁.get? D = some (lst []) := hsb₁.extBut _ _ (Nat.ne_of_lt (Nat.lt_succ_self _)) (Heap.get?_push_of_some _ (hH2 ▸ hDd ▸ Heap.get?_push_size _ rfl))
  obtain ⟨oi, hoi, _⟩ := id hit
  obtain ⟨ol, hol, _⟩ := id hl
  have heD : e < D := below _ _ he
  have hiD : it < D := below _ _ hoi
  have hlD : l < D := below _ _ hol
  have noneD : ∀ b, D ≤ b → s.heap.get? b = none := fun b hb => by
    cases e1 : s.heap.get? b with
    | none => rfl
    | some o => exact absurd (below b o e1) (Nat.not_lt.mpr hb)
  have loop : ∀ s₃ : Shared, s₃ = { s with heap := h₁, toks := s.toks + ([] : List (Str × Value)).length } →
      codeAny (model prog w) A (.compLoop (.ListComp elt [⟨.Tuple [.Name x1 p1, .Name x2 p2] k0 pt, iter, [], 0⟩] scope pos) 0 (.ref e) (.ref D) (compEnvC scope cl (D + 1) env)) (compPost (model prog w) A E none Q (.ref D) (D + 1)) s₃ := by
    rintro s₃ rfl
    refine comp_loopT
      (EnumInv s e it l items D J) ?_ (items.size + 1)
      ⟨h₁, _, 0, .none, [], _, [], rfl, Nat.zero_le _, rfl, old _ _ he, hit.at fun o x => old _ o x, hl.at fun o x => old _ o x, (fun b o x _ _ => old _ _ x), hns₁, hacc, (by simp), (by simp), hj0⟩
    rintro k s' ⟨h', tk, i, od, ys, m', R, rfl, hi, rfl, he', hit', hl', hk', hn', hacc', hmem, hR, hj⟩
    cases hv : items[i]? with
    | none =>
      have hsz' : i = items.size := Nat.le_antisymm hi (by simpa using hv)
      subst hsz'
      refine wpAny_pyNext_enum_end hh he' hit' hl' hv fun h₂ hx => ?_
      have kp : ∀ b o, b ≠ it → h'.get? b = some o → h₂.get? b = some o := fun b o hb x => hx b o hb x
      refine ⟨m', hn'.at fun o x => kp _ o (Ne.symm (Nat.ne_of_lt (Nat.lt_succ_of_lt hiD))) x, fun h'' hs => ?_⟩
      have up : ∀ b o, s.heap.get? b = some o → b ≠ e → b ≠ it → h''.get? b = some o := fun b o x n1 n2 => hs.extBut b o (Nat.ne_of_lt (Nat.lt_succ_of_lt (below _ _ x))) (kp b o n2 (hk' b o x n1 n2))
      have none0 : ∀ b, s.heap.get? b = none → b ≠ L ∧ h₀.get? b = none := fun b x => by
        obtain ⟨oL, es, ep, hL, r⟩ := F.ns
        refine ⟨fun q => (by rw [q, hL] at x; cases x), ?_⟩
        cases q : h₀.get? b with
        | none => rfl
        | some o => rw [F.keep b o q] at x; cases x
      have hDD : h''.get? D = some (lst ys) := hs.extBut _ _ (Nat.ne_of_lt (Nat.lt_succ_self _)) (kp _ _ (Ne.symm (Nat.ne_of_lt hiD)) hacc')
      obtain ⟨oL, es, ep, hL, r⟩ := F.ns
      refine done D h'' _ ys R hj ⟨⟨oL, es, ep, up _ _ hL hLe.1 hLe.2, r⟩, fun b o x => up b o (F.keep b o x) (fun q => by rw [q, h0e.1] at x; cases x) (fun q => by rw [q, h0e.2] at x; cases x), F.above⟩ (fun p hp => ?_) (noneD D (Nat.le_refl _)) fun p hp => ⟨(hR p hp).1, (hR p hp).2.2⟩
      rcases List.mem_cons.mp hp with rfl | hp
      · exact ⟨hDD, none0 _ (noneD D (Nat.le_refl _))⟩
      rcases List.mem_append.mp hp with hp | hp
      · refine ⟨hs.extBut _ _ (hR p hp).2.1 (kp _ _ (fun q => ?_) (hmem p hp)), none0 _ (hR p hp).2.2⟩
        have := (hR p hp).2.2
        rw [q, hoi] at this; cases this
      · exact ⟨up _ _ (N p hp).1 (hze p hp).1 (hze p hp).2, (N p hp).2⟩
    | some v =>
      have hlt : i < items.size := (Array.getElem?_eq_some_iff.mp hv).1
      have hCe : D + 1 ≠ e := Ne.symm (Nat.ne_of_lt (Nat.lt_succ_of_lt heD))
      have hCi : D + 1 ≠ it := Ne.symm (Nat.ne_of_lt (Nat.lt_succ_of_lt hiD))
      have ltH : ∀ b o, h'.get? b = some o → b < h'.objs.size := fun b o x => Heap.lt_size x
      refine wpAny_pyNext_enum_item he' hit' hl' hv hei fun h₂ heo hit₂ ht₂ hz₂ hk₂ => ?_
      refine wpAny_letOwnedTupleGo_enum heo fun h₃ he₃ hs₃ => ?_
      replace hs₃ : Heap.SameBut e h₂ h₃ := hs₃
      have ht₃ : h₃.IsTuple h'.objs.size #[.int (i : Int) tk, v] := ⟨_, (hs₃.2 _ (Nat.ne_of_gt (Heap.lt_size he'))).trans ht₂, rfl, _, rfl⟩
      have hz₃ : h₃.objs.size = h'.objs.size + 1 := hs₃.1.trans hz₂
      refine wpAny_assign_Tuple hh ht₃ rfl rfl fun h₄ hx₄ => ?_
      replace hx₄ : Heap.ExtBut h₃.objs.size h₃ h₄ := hx₄
      have k3 : ∀ b o, b ≠ e → b ≠ it → h'.get? b = some o → h₃.get? b = some o := fun b o n1 n2 x => (hs₃.2 b n1).trans (hk₂ b o n1 n2 x)
      have k4 : ∀ b o, b < h'.objs.size → h₃.get? b = some o → h₄.get? b = some o := fun b o hb x => hx₄ b o (by rw [hz₃]; exact Nat.ne_of_lt (Nat.lt_succ_of_lt hb)) x
      have hn₄ : h₄.Ns (D + 1) m' := (hn'.at fun o x => k3 _ o hCe hCi x).at fun o x => k4 _ o hn'.lt x
      show wpAny _ A (do holding [v] (assign (.Name x1 p1) (compEnvC scope cl (D + 1) env) (.int (i : Int) tk)); do holding [] (assign (.Name x2 p2) (compEnvC scope cl (D + 1) env) v); pure ()) _ _ _
      refine wpAny_bind (wpAny_holding (wpAny_assign_Name (wpAny_storeName_local (lookup_relabel_local hx1) hn₄ (fun h₅ hn₅ hs₅ => ?_) (by simp [compEnvC, relabel, hkind]))))
      replace hs₅ : Heap.SameBut (D + 1) h₄ h₅ := hs₅
      refine wpAny_bind (wpAny_holding (wpAny_assign_Name (wpAny_storeName_local (lookup_relabel_local hx2) hn₅ (fun h₆ hn₆ hs₆ => wpAny_pure ?_) (by simp [compEnvC, relabel, hkind]))))
      replace hs₆ : Heap.SameBut (D + 1) h₅ h₆ := hs₆
      have k6 : ∀ b o, b ≠ D + 1 → b < h'.objs.size → h₃.get? b = some o → h₆.get? b = some o := fun b o n hb x => hs₆.extBut b o n (hs₅.extBut b o n (k4 b o hb x))
      have keep₆ : ∀ b o, b ≠ e → b ≠ it → b ≠ D + 1 → h'.get? b = some o → h₆.get? b = some o := fun b o n1 n2 n3 x => k6 b o n3 (Heap.lt_size x) (k3 b o n1 n2 x)
      have he₆ : IsEnum h₆ e it ((i + 1 : Nat) : Int) v := by
        have e1 : ((i + 1 : Nat) : Int) = (i : Int) + 1 := by omega
        rw [e1]; exact k6 e _ (Ne.symm hCe) (Heap.lt_size he') he₃
      obtain ⟨oi', hoi', _⟩ := id hit'
      have hit₆ : h₆.IsListIter it l (i + 1) := (hit₂.extBut hs₃.extBut (Ne.symm hei)).at fun o x => k6 it o (Ne.symm hCi) (Heap.lt_size hoi') x
      have hl₆ : h₆.IsList l items := hl'.at fun o x => keep₆ l o hle hli (Nat.ne_of_lt (Nat.lt_succ_of_lt hlD)) x
      have hpe : ∀ p ∈ R, p.1 ≠ e ∧ p.1 ≠ it := fun p hp => ⟨fun q => (by have := (hR p hp).2.2; rw [q] at this; rw [show s.heap.get? e = _ from he] at this; cases this), fun q => (by have := (hR p hp).2.2; rw [q, hoi] at this; cases this)⟩
      have hmem₆ : ∀ p ∈ R, h₆.get? p.1 = some p.2 := fun p hp => keep₆ _ _ (hpe p hp).1 (hpe p hp).2 (hR p hp).2.1 (hmem p hp)
      generalize hg : cutAt h₆ (D + 1) (R.map (·.1)) = g
      have hgs : ∀ b o, h₆.get? b = some o → b ≤ D → b ∉ R.map (·.1) → g.get? b = some o := fun b o x h1 h3 => hg ▸ cut_get x (Nat.lt_succ_of_le h1) h3
      have Fg : Fr g (D + 1) h₆ (fun y => if y = x2 then some v else if y = x1 then some (.int (i : Int) tk) else m' y) := ⟨hn₆, fun b o x => (of_cut (hg ▸ x)).2, hg ▸ cut_size⟩
      have Ng : News g (D + 1) h₆ R := fun p hp => ⟨hmem₆ p hp, (hR p hp).2.1, hg ▸ cut_none (.inl (List.mem_map_of_mem hp))⟩
      have notR : ∀ b o, s.heap.get? b = some o → b ∉ R.map (·.1) := fun b o x q => by
        obtain ⟨p, hp, rfl⟩ := List.mem_map.mp q
        rw [(hR p hp).2.2] at x; cases x
      have hgH : ∀ b o, s.heap.get? b = some o → b ≠ e → b ≠ it → g.get? b = some o := fun b o x n1 n2 =>
        hgs b o (keep₆ b o n1 n2 (Nat.ne_of_lt (Nat.lt_succ_of_lt (below _ _ x))) (hk' b o x n1 n2)) (Nat.le_of_lt (below _ _ x)) (notR b o x)
      have hgD : g.get? D = some (lst ys) := hgs D _ (keep₆ _ _ (Ne.symm (Nat.ne_of_lt heD)) (Ne.symm (Nat.ne_of_lt hiD)) (Nat.ne_of_lt (Nat.lt_succ_self _)) hacc') (Nat.le_refl _) fun q => by
        obtain ⟨p, hp, x⟩ := List.mem_map.mp q
        exact (hR p hp).1 x
      have hge : ∀ o, h₆.get? e = some o → g.get? e = some o := fun o x => hgs e o x (Nat.le_of_lt heD) (notR _ _ he)
      have hgi : ∀ o, h₆.get? it = some o → g.get? it = some o := fun o x => hgs it o x (Nat.le_of_lt hiD) (notR _ _ hoi)
      refine wpAny_mono (step g (D + 1) i tk v ys R h₆ _ m' hgH hv hj Fg Ng) (fun y s₄ h₄' => ?_) fun _ _ x => x.elim
      obtain ⟨h₇, tk₇, m₇, mu₇, R₇, rfl, F₇, N₇, hmu₇, hj₇⟩ := h₄'
      obtain rfl : mu₇ = [] := List.map_eq_nil_iff.mp hmu₇
      rw [List.append_nil] at N₇
      have hnone : ∀ p ∈ R₇, p.1 ≠ D ∧ p.1 ≠ D + 1 ∧ s.heap.get? p.1 = none := fun p hp => by
        have hgp := (N₇ p hp).2.2
        refine ⟨fun q => (by rw [q, hgD] at hgp; cases hgp), (N₇ p hp).2.1, ?_⟩
        cases x : s.heap.get? p.1 with
        | none => rfl
        | some o =>
          by_cases n1 : p.1 = e
          · rw [n1, hge _ he₆] at hgp; cases hgp
          · by_cases n2 : p.1 = it
            · obtain ⟨o2, ho2, _⟩ := id hit₆
              rw [n2, hgi _ ho2] at hgp; cases hgp
            · rw [hgH _ _ x n1 n2] at hgp; cases hgp
      refine append_at (hsz := by show ys.toArray.size ≤ sizeLine; rw [List.size_toArray]; exact Nat.le_trans (hlen _ _ _ hj) (Nat.le_trans hi hsz)) (F₇.keep _ _ hgD) fun h₈ hs₈ hD₈ => ?_
      have k8 : ∀ b o, b ≠ D → g.get? b = some o → h₈.get? b = some o := fun b o n x => hs₈.extBut b o n (F₇.keep b o x)
      refine ⟨items.size + 1 - (i + 1), by omega, h₈, tk₇, i + 1, v, ys ++ [y], m₇, R₇, rfl, hlt, rfl, k8 e _ (Nat.ne_of_lt heD) (hge _ he₆), ?_, ?_, fun b o x n1 n2 => k8 b o (Nat.ne_of_lt (below _ _ x)) (hgH b o x n1 n2), F₇.ns.sameBut hs₈ (Nat.succ_ne_self _), hD₈.trans (congrArg some (lst_snoc ys y)), fun p hp => hs₈.extBut _ _ (hnone p hp).1 (N₇ p hp).1, hnone, hj₇⟩
      · exact hit₆.at fun o x => k8 it o (Nat.ne_of_lt hiD) (hgi o x)
      · exact hl₆.at fun o x => k8 l o (Nat.ne_of_lt hlD) (hgs l o x (Nat.le_of_lt hlD) (notR _ _ hol))
  exact codeAny_compStart_list (loop _ rfl) (wpAny_pyIter_enum (old _ _ he) (loop _ rfl))
end
theorem inner_at {ks : List (List Nat)} {n : Nat} {x : Int} (h0 : 0 ≤ x) (h1 : x < ((innerI ks n).length : Int)) : ∃ nd : Nat, (innerI ks n).getD x.toNat 0 = 0 + (nd : Int) ∧ nd < n ∧ rowF ks nd ≠ [] := by
  have hl : x.toNat < (innerJ ks n).length := by rw [List.length_map] at h1; omega
  have hm := mem_inner (List.getElem_mem hl)
  refine ⟨(innerJ ks n)[x.toNat], ?_, hm⟩
  rw [List.getD_eq_getElem?_getD, List.getElem?_map, List.getElem?_eq_getElem hl]; rfl
theorem comp_enum {prog : Program} {w : World} {A : Around} {E : Value → Shared → Prop} {s : Shared} {env : Env} {h₀ : Heap} {L l : Addr} {m : Str → Option Value} {fz : List (Addr × Obj)} {items : Array Value} {c : Nat} {elt iter : Expr} {x1 x2 : Str} {p1 p2 pt : Pos} {k0 : Nat} {scope : Scope} {cl : List (Str × Addr)} {pos : Pos} {Q : Value → Shared → Prop} (J : Nat → List Value → List (Addr × Obj) → Prop)
    (hh : A.handled = none) (F : Fr h₀ L s.heap m) (N : News h₀ L s.heap fz) (hl : (l, listOf items c) ∈ fz) (hsz : items.size ≤ sizeLine)
    (hlen : ∀ i ys R, J i ys R → ys.length ≤ i) (hj0 : J 0 [] [])
    (hcell : ∀ y ∈ scope.names, y.2 ≠ .cell) (hkind : scope.kind = .function) (hx1 : scope.names.lookup x1 = some .local) (hx2 : scope.names.lookup x2 = some .local)
    (step : ∀ (g : Heap) (C : Addr) (i : Nat) (t : Tok) (v : Value) (ys : List Value) (R : List (Addr × Obj)) (h : Heap) (tk : Nat) (mr : Str → Option Value), (∀ b o, s.heap.get? b = some o → g.get? b = some o) → items[i]? = some v → J i ys R → Fr g C h (fun y => if y = x2 then some v else if y = x1 then some (.int (i : Int) t) else mr y) → News g C h R →
      wpAny (model prog w) A (eval elt (compEnvC scope cl C env)) (fun y s₄ => EltEnd g C [] (fun _ R' => J (i + 1) (ys ++ [y]) R') { s with heap := h, toks := tk } s₄) (fun _ _ => False) { s with heap := h, toks := tk })
    (done : ∀ D h tk ys R, J items.size ys R → Fr h₀ L h m → News h₀ L h ((D, lst ys) :: (R ++ fz)) → (∀ q ∈ fz, q.1 ≠ D) → (∀ p ∈ R, p.1 ≠ D ∧ ∀ q ∈ fz, p.1 ≠ q.1) → Q (.ref D) { s with heap := h, toks := tk }) :
    wpAny (model prog w) A (call (.type "enumerate") [.ref l]) (CompStT prog w A env elt (.Tuple [.Name x1 p1, .Name x2 p2] k0 pt) iter scope cl pos Q E) E s := by
  have zl := N _ hl
  have hls : s.heap.IsList l items := ⟨_, zl.1, rfl, c, rfl⟩
  refine call_enumerate_list hls fun hE heE hiE hzE up => ?_
  have lts : ∀ b o, s.heap.get? b = some o → b < s.heap.objs.size := fun b o e => Heap.lt_size e
  have none0 : ∀ b, s.heap.objs.size ≤ b → s.heap.get? b = none := fun b hb => by
    cases e : s.heap.get? b with
    | none => rfl
    | some o => exact absurd (lts b o e) (Nat.not_lt.mpr hb)
  have n0 : ∀ b, s.heap.get? b = none → b ≠ L ∧ h₀.get? b = none := fun b x => by
    obtain ⟨oL, es, ep, hL, r⟩ := F.ns
    refine ⟨fun q => (by rw [q, hL] at x; cases x), ?_⟩
    cases q : h₀.get? b with
    | none => rfl
    | some o => rw [F.keep b o q] at x; cases x
  have c1 := none0 s.heap.objs.size (Nat.le_refl _)
  have c2 := none0 (s.heap.objs.size + 1) (Nat.le_succ _)
  refine compSt_enum (m := m) J hh ⟨?_, fun b o e => up b o (F.keep b o e), F.above⟩ (fun p hp => ⟨up _ _ (N p hp).1, (N p hp).2⟩) (it := s.heap.objs.size) (l := l) (items := items) heE hiE (hls.at fun o x => up l o x) (Nat.succ_ne_self _) (Nat.ne_of_lt (Nat.lt_succ_of_lt (lts _ _ zl.1))) (Nat.ne_of_lt (lts _ _ zl.1)) (fun p hp => ⟨Nat.ne_of_lt (Nat.lt_succ_of_lt (lts _ _ (N p hp).1)), Nat.ne_of_lt (lts _ _ (N p hp).1)⟩) ⟨(n0 _ c2).2, (n0 _ c1).2⟩ ⟨Ne.symm (n0 _ c2).1, Ne.symm (n0 _ c1).1⟩ hsz hlen hj0 hcell hkind hx1 hx2 ?_ ?_
  · obtain ⟨oL, es, ep, hL, r⟩ := F.ns
    exact ⟨oL, es, ep, up _ _ hL, r⟩
  · intro g C i t v ys R h tk mr hg hv hj Fg Ng
    exact step g C i t v ys R h tk mr (fun b o e => hg b o (up b o e) (Nat.ne_of_lt (Nat.lt_succ_of_lt (lts b o e))) (Nat.ne_of_lt (lts b o e))) hv hj Fg Ng
  · intro D h tk ys R hj F' N' hD hR
    refine done D h tk ys R hj F' N' (fun q hq e => ?_) fun p hp => ⟨(hR p hp).1, fun q hq e => ?_⟩
    · rw [← e, up _ _ (N q hq).1] at hD; cases hD
    · have := (hR p hp).2
      rw [e, up _ _ (N q hq).1] at this; cases this
def moreF (ks : List (List Nat)) (nd n j : Nat) : List Nat := if j = nd then rowF ks j ++ [n] else rowF ks j
theorem rowsL_snoc2 {ys : List Value} {R : List (Addr × Obj)} {ls : List (List Nat)} {a : Addr} {row : List Value} {c : Nat} {r : List Nat} (H : RowsL ys R ls) (hm : (a, listOf row.toArray c) ∈ R) (hi : IntsAre row (ZL r)) : RowsL (ys ++ [.ref a]) R (ls ++ [r]) := by
  refine ⟨by simp [H.1], fun j q hq => ?_⟩
  rcases Nat.lt_trichotomy j ls.length with h1 | h1 | h1
  · rw [List.getElem?_append_left h1] at hq
    obtain ⟨x, row, c', e1, e2, e3⟩ := H.2 j q hq
    exact ⟨x, row, c', by rw [List.getElem?_append_left (by rw [H.1]; exact h1)]; exact e1, e2, e3⟩
  · rw [List.getElem?_append_right (Nat.le_of_eq h1.symm), h1, Nat.sub_self] at hq
    have : q = r := by simpa using hq.symm
    subst this
    exact ⟨a, row, c, by rw [List.getElem?_append_right (by rw [H.1]; omega), H.1, h1, Nat.sub_self]; rfl, hm, hi⟩
  · rw [List.getElem?_eq_none (by simp; omega)] at hq; cases hq
theorem range_map_snoc {α : Type} {f : Nat → α} {i : Nat} : (List.range (i + 1)).map f = (List.range i).map f ++ [f i] := by rw [List.range_succ, List.map_append]; rfl
theorem len_G {prog : Program} {w : World} {A : Around} {E : Value → Shared → Prop} {s : Shared} {g : Heap} {L : Addr} {m : Str → Option Value} {Q : Value → Shared → Prop} {l : Addr} {its : Array Value} {n : Nat} (F : Fr g L s.heap m) (hl : g.IsList l its) (hn : its.size = n) (hz : n ≤ 1000)
    (h : ∀ t tk, Q (.int (n : Int) t) { s with toks := tk }) : wpAny (model prog w) A (call (.builtin "len") [.ref l]) Q E s := by
  subst hn
  exact call_len_list (isList_stays F.keep hl) (by omega) (h _ _)
theorem add_gN {prog : Program} {w : World} {A : Around} {E : Value → Shared → Prop} {s : Shared} {h₀ : Heap} {L a b : Addr} {m : Str → Option Value} {news : List (Addr × Obj)} {xs ys : List Value} {cb : Nat} {Q : Value → Shared → Prop} (F : Fr h₀ L s.heap m) (N : News h₀ L s.heap news) (ha : h₀.IsList a xs.toArray) (hb : (b, listOf ys.toArray cb) ∈ news) (hx : xs.length ≤ 1000) (hy : ys.length ≤ 1000)
    (h : ∀ D h', Fr h₀ L h' m → News h₀ L h' ((D, listOf (xs ++ ys).toArray 0) :: news) → (∀ p ∈ news, p.1 < D) → Q (.ref D) { s with heap := h' }) : wpAny (model prog w) A (binaryOp .Add (.ref a) (.ref b)) Q E s :=
  kmk_add_lit F N (isList_stays F.keep ha) (N.isList hb) rfl h (by rw [sizeLine_eq]; simp; omega)
end Mine
end
section
open PySem PySem.W PyProof.Rows PySem.Calls PySem.Spec
namespace Mine
abbrev moreK (ks : List (List Nat)) (nd n : Nat) : List (List Nat) := (List.range n).map (moreF ks nd n) ++ [[]]
abbrev chk2 (ks : List (List Nat)) (vals : List Int) (n : Nat) (b : Bool) (j : Nat) : Bool := if j = n then b else chkF ks vals j
theorem moreK_at {ks : List (List Nat)} {nd n j : Nat} (h : j < n) : rowF (moreK ks nd n) j = moreF ks nd n j := by
  unfold rowF moreK
  rw [List.getD_eq_getElem?_getD, List.getElem?_append_left (by simpa using h), List.getElem?_map, List.getElem?_range h]; rfl
theorem moreK_end {ks : List (List Nat)} {nd n j : Nat} (h : n ≤ j) : rowF (moreK ks nd n) j = [] := by
  unfold rowF moreK
  rw [List.getD_eq_getElem?_getD, List.getElem?_append_right (by simpa using h)]
  cases e : ([[]] : List (List Nat))[j - ((List.range n).map (moreF ks nd n)).length]? with
  | none => rfl
  | some r =>
    have := List.mem_of_getElem? e
    simp at this
    subst this; rfl
section
variable {D : Int} {dn : Nat} {ks : List (List Nat)} {pl : List Nat} {vals : List Int} {nd y : Nat} (HG : Grow D pl.length ks pl)
include HG
theorem more_wf {k : Int} {b : Bool} (hnd : rowF ks nd ≠ []) : (gameOf (pl.length + 1) (moreK ks nd pl.length) (vals ++ [k]) (chk2 ks vals pl.length b)).WF := by
  have hb := HG.b
  have hrow : ∀ j, j < pl.length → ∀ x ∈ rowF (moreK ks nd pl.length) j, x < pl.length + 1 := by
    intro j hj x hx
    rw [moreK_at hj] at hx
    unfold moreF at hx
    split at hx
    · rcases List.mem_append.mp hx with h | h
      · exact Nat.lt_succ_of_lt (HG.kid h).2.1
      · rw [List.mem_singleton.mp h]; exact Nat.lt_succ_self _
    · exact Nat.lt_succ_of_lt (HG.kid hx).2.1
  refine ⟨fun j hj => ?_, fun j hj x hx => ?_, fun j hj hc => ?_⟩
  · show (rowF (moreK ks nd pl.length) j).length ≤ 1000
    by_cases h : j < pl.length
    · rw [moreK_at h]
      have := HG.short j
      unfold moreF
      split
      · rw [List.length_append, List.length_singleton]; omega
      · omega
    · rw [moreK_end (by omega)]; decide
  · by_cases h : j < pl.length
    · exact hrow j h x hx
    · have hx' : x ∈ rowF (moreK ks nd pl.length) j := hx
      rw [moreK_end (by omega)] at hx'; cases hx'
  · show rowF (moreK ks nd pl.length) j = []
    by_cases h : j < pl.length
    · have hc' : chk2 ks vals pl.length b j = true := hc
      unfold chk2 at hc'
      rw [if_neg (by omega)] at hc'
      have := chkF_row hc'
      rw [moreK_at h]
      unfold moreF
      rw [if_neg (fun (e : j = nd) => hnd (e ▸ this)), this]
    · exact moreK_end (by omega)
theorem more_facts {k : Int} {b : Bool} (hnd : rowF ks nd ≠ []) (hy : pl[nd]? = some y) (hl : vals.length = pl.length) :
    (y % 2 = 0 → negaV (gameOf pl.length ks vals (chkF ks vals)) (dn + 1) 0 0 ≤ negaV (gameOf (pl.length + 1) (moreK ks nd pl.length) (vals ++ [k]) (chk2 ks vals pl.length b)) (dn + 1) 0 0) ∧
    (y % 2 = 1 → negaV (gameOf (pl.length + 1) (moreK ks nd pl.length) (vals ++ [k]) (chk2 ks vals pl.length b)) (dn + 1) 0 0 ≤ negaV (gameOf pl.length ks vals (chkF ks vals)) (dn + 1) 0 0) := by
  have key := nega_mono (G := gameOf pl.length ks vals (chkF ks vals)) (G' := gameOf (pl.length + 1) (moreK ks nd pl.length) (vals ++ [k]) (chk2 ks vals pl.length b)) (pl := pl) (s := y) ?_ ?_ (dn + 1) 0 0 HG.zero
  · rw [Nat.zero_add] at key; exact key
  · intro j z x hz hx
    obtain ⟨_, _, z', h1, h2⟩ := HG.kid (show x ∈ rowF ks j from hx)
    rw [hz] at h1
    cases h1; exact h2
  · intro j z hz
    have hj : j < pl.length := (List.getElem?_eq_some_iff.mp hz).1
    have hval : (vals ++ [k]).getD j 0 = vals.getD j 0 := by
      rw [List.getD_eq_getElem?_getD, List.getElem?_append_left (by omega), List.getD_eq_getElem?_getD]
    refine ⟨if_neg (by omega), fun _ => by show vals.getD j 0 ≤ (vals ++ [k]).getD j 0; rw [hval]; exact Int.le_refl _, fun _ => by show (vals ++ [k]).getD j 0 ≤ vals.getD j 0; rw [hval]; exact Int.le_refl _, ?_⟩
    show rowF (moreK ks nd pl.length) j = rowF ks j ∨ ((z + y) % 2 = 0 ∧ rowF ks j ≠ [] ∧ ∃ x, rowF (moreK ks nd pl.length) j = rowF ks j ++ [x])
    rw [moreK_at hj]
    unfold moreF
    split
    · rename_i e
      subst e
      rw [hy] at hz
      cases hz
      exact .inr ⟨by omega, hnd, _, rfl⟩
    · exact .inl rfl
theorem raised_facts {vals3 : List Int} {en : Nat} (hy : pl[en]? = some y) (h3 : ∀ j, j < pl.length → (j ≠ en → vals3.getD j 0 = vals.getD j 0) ∧ vals.getD j 0 ≤ vals3.getD j 0) :
    (y % 2 = 0 → negaV (gameOf pl.length ks vals (chkF ks vals)) (dn + 1) 0 0 ≤ negaV (gameOf pl.length ks vals3 (chkF ks vals)) (dn + 1) 0 0) ∧
    (y % 2 = 1 → negaV (gameOf pl.length ks vals3 (chkF ks vals)) (dn + 1) 0 0 ≤ negaV (gameOf pl.length ks vals (chkF ks vals)) (dn + 1) 0 0) := by
  have key := nega_mono (G := gameOf pl.length ks vals (chkF ks vals)) (G' := gameOf pl.length ks vals3 (chkF ks vals)) (pl := pl) (s := y) ?_ ?_ (dn + 1) 0 0 HG.zero
  · rw [Nat.zero_add] at key; exact key
  · intro j z x hz hx
    obtain ⟨_, _, z', h1, h2⟩ := HG.kid (show x ∈ rowF ks j from hx)
    rw [hz] at h1
    cases h1; exact h2
  · intro j z hz
    have hj : j < pl.length := (List.getElem?_eq_some_iff.mp hz).1
    refine ⟨rfl, fun _ => (h3 j hj).2, fun hp => ?_, .inl rfl⟩
    have hne : j ≠ en := by
      intro e
      subst e
      rw [hy] at hz
      cases hz
      omega
    show vals3.getD j 0 ≤ vals.getD j 0
    rw [(h3 j hj).1 hne]; exact Int.le_refl _
end
section
variable {g h : Heap} {L : Addr} {news : List (Addr × Obj)}
theorem rows_more {ys : List Value} {R : List (Addr × Obj)} {ks : List (List Nat)} {nd n : Nat} {Dm le : Addr} {c c2 : Nat} (N : News g L h news) (H : RowsL ys R ((List.range n).map (moreF ks nd n))) (hc : (Dm, listOf (ys ++ [Value.ref le]).toArray c) ∈ news) (he : (le, listOf (List.toArray []) c2) ∈ news) (hR : ∀ p ∈ R, p ∈ news) : RowsAt h Dm (n + 1) (rowF (moreK ks nd n)) := by
  have H2 := rowsL_snoc2 (c := c2) (r := []) (H.more (R' := (le, listOf (List.toArray []) c2) :: R) fun p hp => .tail _ hp) (.head _) .nil
  have := rowsL_at H2 (N _ hc).1 (fun p hp => by
    rcases List.mem_cons.mp hp with rfl | hp
    · exact (N _ he).1
    · exact (N p (hR p hp)).1)
  rw [List.length_append, List.length_map, List.length_range] at this
  exact this
theorem ints_more {ys : List Value} {vals : List Int} {n : Nat} {Dv : Addr} {c : Nat} {k : Int} {t : Tok} (N : News g L h news) (hi : IntsAre ys vals) (hl : vals.length = n) (hc : (Dv, listOf (ys ++ [Value.int k t]).toArray c) ∈ news) : IntsAt h Dv (n + 1) (intF (vals ++ [k])) := by
  have := intsL_at (ints_snoc (t := t) (k := k) hi) (N _ hc).1
  rw [List.length_append, hl] at this
  exact this
theorem bools_more {ysk : List Value} {ks : List (List Nat)} {vals : List Int} {n : Nat} {Dk : Addr} {c : Nat} {b : Bool} (N : News g L h news) (h1 : ysk.length = n) (h2 : ∀ j, j < n → ysk[j]? = some (.bool (chkF ks vals j))) (hc : (Dk, listOf (ysk ++ [Value.bool b]).toArray c) ∈ news) : BoolsAt h Dk (n + 1) (chk2 ks vals n b) := by
  refine boolsL_at (by simp [h1]) (fun i hi => ?_) (N _ hc).1
  unfold chk2
  by_cases e : i = n
  · subst e
    rw [List.getElem?_append_right (by omega), h1, if_pos rfl]; simp
  · rw [List.getElem?_append_left (by omega), if_neg e]; exact h2 i (by omega)
end
theorem zl_par {pl : List Nat} {nd y : Nat} (hy : pl[nd]? = some y) : ((ZL pl).getD (0 + (nd : Int)).toNat 0).fmod 2 = 0 ↔ y % 2 = 0 := by
  have e : (ZL pl).getD (0 + (nd : Int)).toNat 0 = (y : Int) := by
    rw [show (0 + (nd : Int)).toNat = nd by omega]
    exact plyF_some hy
  rw [e, Int.fmod_eq_emod_of_nonneg _ (by decide)]
  omega
theorem side_le {pl : List Nat} {nd y : Nat} {V V2 : Int} (hy : pl[nd]? = some y) (h : (y % 2 = 0 → V ≤ V2) ∧ (y % 2 = 1 → V2 ≤ V)) : (((ZL pl).getD (0 + (nd : Int)).toNat 0).fmod 2 = 0 → V ≤ V2) ∧ (¬ ((ZL pl).getD (0 + (nd : Int)).toNat 0).fmod 2 = 0 → V2 ≤ V) := by
  rw [zl_par hy]
  exact ⟨h.1, fun hn => h.2 (by omega)⟩
section
variable {prog : Program} {w : World} {A : Around} {env : Env} {E : Value → Shared → Prop} {s : Shared} {h₀ : Heap} {L : Addr} {m : Str → Option Value} {ex : List (Addr × Obj)} {pe : Addr} {o : Obj} {elt iter : Expr} {x y : Str} {px py : Pos} {ifs : List Expr} {scope : Scope} {cl : List (Str × Addr)} {pos : Pos} {Q : Value → Shared → Prop}
/-- a comprehension over a range whose turns change the one object pe -/
theorem compSt_rangePA {r : Addr} {a b : Int} {t₀ u₀ v₀ : Tok} {n : Nat} (hy : env.kindOf y = some .local) (hp : (env.scope.kind == .class || (env.scope.kind == .module && env.locals != env.globals)) = false) (hLe : env.locals = L) (J : Nat → List Value → List (Addr × Obj) → List (Addr × Obj) → Prop)
    (hh : A.handled = none) (F : Fr h₀ L s.heap m) (N : News h₀ L s.heap ((pe, o) :: ex)) (hex : ∀ p ∈ ex, p.1 ≠ pe) (hr : IsRange s.heap r a b 1 t₀ u₀ v₀) (hsm : Builtin.Range.small a b 1 = true) (hn : Builtin.Range.rangeSize a b 1 = ((n : Nat) : Int)) (hsz : n ≤ sizeLine)
    (hlen : ∀ i ys mu R, J i ys mu R → ys.length ≤ i) (hj0 : J 0 [] [(pe, o)] [])
    (hcell : ∀ y ∈ scope.names, y.2 ≠ .cell) (hkind : scope.kind = .function) (hx : scope.names.lookup x = some .local)
    (step : CompTurn prog w A env elt ifs scope cl x s.heap [pe] n (fun i v => ∃ t, v = .int (a + (i : Int)) t) J s)
    (done : ∀ D h tk ys mu R, J n ys mu R → Fr h₀ L h (fun z => if z = y then some (.ref D) else m z) → CompDone h₀ L [pe] ex s D ys mu R h → ∀ v, Q v { s with heap := h, toks := tk }) :
    CompSt prog w A env elt x px iter ifs scope cl pos (some (assign (.Name y py) env)) Q E (.ref r) s :=
  compSt_rangeA (mu₀ := [(pe, o)]) hy hp hLe [pe] J hh F N hr hsm hn hsz (fun p hp => by rw [List.mem_singleton.mp hp]; exact .head _) rfl (fun p hp => ⟨.tail _ hp, by simpa using hex p hp⟩) hlen hj0 hcell hkind hx step done
end
theorem News.drop2 {g h : Heap} {L : Addr} {b a p : Addr × Obj} {l : List (Addr × Obj)} (N : News g L h (b :: a :: p :: l)) : News g L h (p :: l) := News.sub N fun _ hq => .tail _ (.tail _ hq)
end Mine
end
section
open PySem PySem.W PyProof.Rows PySem.Calls PySem.Spec
namespace Mine
theorem raise_one {v x xe : Int} {i : Nat} (hx : 0 ≤ x) (he : 0 ≤ xe) : (i ≠ xe.toNat → v + (if (0 + (i : Int) == xe) = true then 1 else 0) * (1 + x) = v) ∧ v ≤ v + (if (0 + (i : Int) == xe) = true then 1 else 0) * (1 + x) := by
  by_cases h : (0 + (i : Int) == xe) = true
  · rw [if_pos h]
    have : 0 + (i : Int) = xe := by simpa using h
    exact ⟨fun hn => absurd (by omega) hn, by omega⟩
  · rw [if_neg h]
    exact ⟨fun _ => by omega, by omega⟩
theorem raise_snoc {vals vals3 : List Int} {i en : Nat} {e : Int} (h4 : vals3.length = i) (h5 : ∀ j, j < i → (j ≠ en → vals3.getD j 0 = vals.getD j 0) ∧ vals.getD j 0 ≤ vals3.getD j 0) (he : (i ≠ en → e = vals.getD i 0) ∧ vals.getD i 0 ≤ e) : ∀ j, j < i + 1 → (j ≠ en → (vals3 ++ [e]).getD j 0 = vals.getD j 0) ∧ vals.getD j 0 ≤ (vals3 ++ [e]).getD j 0 := by
  intro j hj
  by_cases h : j = i
  · subst h
    have e1 : (vals3 ++ [e]).getD j 0 = e := by rw [← h4]; exact getD_last
    rw [e1]; exact he
  · rw [getD_snoc (by omega)]; exact h5 j (by omega)
section
variable {g h : Heap} {L : Addr} {news : List (Addr × Obj)}
theorem rows_N {cs : List Value} {R : List (Addr × Obj)} {ks : List (List Nat)} {n : Nat} {Dc : Addr} {c : Nat} (N : News g L h news) (H : RowsL cs R ks) (hn : ks.length = n) (hc : (Dc, listOf cs.toArray c) ∈ news) (hR : ∀ p ∈ R, p ∈ news) : RowsAt h Dc n (rowF ks) := by
  have := rowsL_at H (N _ hc).1 fun p hp => (N p (hR p hp)).1
  rw [hn] at this
  exact this
theorem ints_N {ys : List Value} {vals : List Int} {n : Nat} {Dv : Addr} {c : Nat} (N : News g L h news) (hi : IntsAre ys vals) (hl : vals.length = n) (hc : (Dv, listOf ys.toArray c) ∈ news) : IntsAt h Dv n (intF vals) := by
  have := intsL_at hi (N _ hc).1
  rw [hl] at this
  exact this
theorem bools_N {ysk : List Value} {n : Nat} {Dk : Addr} {c : Nat} {b : Nat → Bool} (N : News g L h news) (h1 : ysk.length = n) (h2 : ∀ j, j < n → ysk[j]? = some (.bool (b j))) (hc : (Dk, listOf ysk.toArray c) ∈ news) : BoolsAt h Dk n b := boolsL_at h1 h2 (N _ hc).1
end
theorem zl_par' {pl : List Nat} {y : Nat} {xe : Int} (h0 : 0 ≤ xe) (hy : pl[xe.toNat]? = some y) : ((ZL pl).getD xe.toNat 0).fmod 2 = 0 ↔ y % 2 = 0 := by
  have e : (ZL pl).getD xe.toNat 0 = (y : Int) := plyF_some hy
  rw [e, Int.fmod_eq_emod_of_nonneg _ (by decide)]
  omega
theorem side_le' {pl : List Nat} {y : Nat} {xe V V2 : Int} (h0 : 0 ≤ xe) (hy : pl[xe.toNat]? = some y) (h : (y % 2 = 0 → V ≤ V2) ∧ (y % 2 = 1 → V2 ≤ V)) : (((ZL pl).getD xe.toNat 0).fmod 2 = 0 → V ≤ V2) ∧ (¬ ((ZL pl).getD xe.toNat 0).fmod 2 = 0 → V2 ≤ V) := by
  rw [zl_par' h0 hy]
  exact ⟨h.1, fun hn => h.2 (by omega)⟩
end Mine
end
section
open PySem PySem.W PyProof.Rows PySem.Calls PySem.Spec
namespace Mine
inductive Hide (T : Prop) : Prop where
  | mk (t : T)
theorem Hide.get {T : Prop} : Hide T → T
  | ⟨t⟩ => t
section
local macro_rules | `(tactic| k_qdec) => `(tactic| kernel_rfl)
local macro_rules | `(tactic| ktr_unf) => `(tactic| k_extra "r1")
local macro_rules | `(tactic| k_inst) => `(tactic| exact inst_F (by k_asm) (by assumption) (by assumption))
local macro_rules | `(tactic| ktr_room) => `(tactic| k_extra "r9")
local macro_rules | `(tactic| tb_start) => `(tactic| first | with_reducible assumption | ((try simp only [Array.size_push]); omega))
local macro_rules | `(tactic| walk_at "subscriptTail") => `(tactic| k_extra "g16")
local macro_rules | `(tactic| walk_at "eval Name") => `(tactic| k_extra "g10")

local macro_rules | `(tactic| k_all) => `(tactic| k_extra "r48")
local macro_rules | `(tactic| walk_at "call ref") => `(tactic| k_extra "g17")
local macro_rules | `(tactic| walk_at "call builtin:len") => `(tactic| k_extra "r36")
local macro_rules | `(tactic| walk_at "exec Assign cons ListComp") => `(tactic| refine for_stop ?_)
local macro_rules | `(tactic| walk_at "compareOp Eq ref ref") => `(tactic| k_extra "r53")
local macro_rules | `(tactic| walk_at "eval ListComp") => `(tactic| refine for_stop ?_)
set_option maxHeartbeats 1000000 in
noncomputable def seg1 : Σ' T : Prop, Hide T → PySem.Challenge.rw_tg0016_01.Holds := by
  refine ⟨?zT, ?zf⟩
  case zf =>
    refine fun zh => hd ?_
    k_go0
    (rename Frag.In _ _ => KX0)
    (rename Top _ _ _ _ _ _ => T0)
    rename_i _ o5 o4 o3 o2 o1 y5 y4 y3 y2 y1 _ X0
    clear X0
    replace y5 : o5.data = .cell none := y5
    replace y4 : o4.data = .cell none := y4
    replace y3 : o3.data = .cell none := y3
    replace y2 : o2.data = .cell none := y2
    replace y1 : o1.data = .cell none := y1
    show wpAny _ _ _ _ _ _
    try dsimp only
    k_fold
    k_steps
    (rename Fr _ _ _ _ => F9)
    (rename News _ _ _ _ => N9)
    (rename IntsAre _ (List.take 50 _) => I9)
    (rename _ = min 50 _ => hz9)
    (rename _ < (2 : Int) => x1)
    rename_i sla ws _ hL9 ll1 pe _ ll2 _ oc1 dc1 _ _
    show wpAny _ _ _ _ _ _
    refine grown_R F9 N9 (by k_asm) (by k_asm) (by k_updF) (by k_mem) (by k_ne) (by decide) I9 (by omega) (by omega) (by omega) (by omega) (by omega) ?_
    clear F9 N9
    intro Tt Dc Dp cs ps R ks pl kq tq e' cc cp h9 tk9 F9 N9 hkq1 hkq2 HG hps hrows n1 n2 n3 n4
    replace N9 := News.gr N9
    simp only [AllNe, and_true] at n1 n2 n3
    have hOff := off_gr n4
    clear n4
    k_steps
    (rename Fr _ _ _ _ => F9)
    (rename News _ _ _ _ => N9)
    (rename _ = Data.cell (some (Value.ref Dc)) => dc2)
    rename_i oc2 _
    show wpAny _ _ _ _ _ _
    refine wpAny_Assign_Name ?_ (by with_unfolding_all rfl)
    refine comp_eval (by with_unfolding_all rfl) rfl (by decide) (by intro _; with_unfolding_all rfl) ?_
    k_steps
    have hpz : ps.toArray.size = pl.length := by rw [List.size_toArray, hps.length]; simp
    have hplb := HG.b
    (rename Fr _ _ _ _ => F9)
    have sl9 := (N9 _ (.tail _ (.tail _ (.tail _ (.tail _ (.head _)))))).1
    have cl9 := (N9 (_, oc1) (by k_mem)).1
    have pl9 := (N9 _ (.tail _ (.tail _ (.head _)))).1
    have N8 := News.canon N9
    clear N9
    have hR1 : Off ((Dc, listOf cs.toArray cc) :: (Dp, listOf ps.toArray cp) :: (sla, listOf ws.toArray 0) :: R) [pe] := by
      refine off_cons (off_cons (off_cons (fun p hp d hd => hOff p hp d (by rw [List.mem_singleton.mp hd]; k_mem)) ?_) ?_) ?_
      · intro d hd; rw [List.mem_singleton.mp hd]; k_ne
      · intro d hd; rw [List.mem_singleton.mp hd]; k_ne
      · intro d hd; rw [List.mem_singleton.mp hd]; k_ne
    refine compSt_listP (its := ps.toArray) (fun i ys mu R' => R' = [] ∧ ∃ kr tr er vals, mu = [(pe, listOf (List.toArray [.ref sla, .int kr tr]) er)] ∧ kq ≤ kr ∧ kr ≤ kq + i ∧ IntsAre ys vals ∧ vals.length = i ∧ ∀ v ∈ vals, -9 ≤ v ∧ v ≤ 9) rfl F9 N8 ?_ ⟨_, pl9, rfl, _, rfl⟩ (Ne.symm n3.1) (by rw [hpz, sizeLine_eq]; omega) ?_ ?_ (by decide) rfl rfl ?_ ?_
    · k_all
    · rintro i ys mu R' ⟨rfl, kr, tr, er, vals, rfl, a, b, c, d, e⟩
      rw [c.length, d]; exact Nat.le_refl _
    · exact ⟨rfl, kq, tq, e', [], rfl, Int.le_refl _, by omega, .nil, rfl, by simp⟩
    · refine turn_plain ?_
      rintro g2 C i v9 ys mu R' h tk mr hg hi hv9 ⟨rfl, kr, tr, er, vals, rfl, b1, b2, b3, b4, b5⟩ F2 N2
      rw [hpz] at hi
      have X2 := KX0.keeps (fun b o e => hg b o (F9.keep b o e) (by rw [List.mem_singleton]; rintro rfl; rw [(N8 _ (.head _)).2.2] at e; cases e) : _)
      have T2 := T0.keeps (fun b o e => hg b o (F9.keep b o e) (by rw [List.mem_singleton]; rintro rfl; rw [(N8 _ (.head _)).2.2] at e; cases e) : _)
      have c1 := hg _ _ cl9 (by rw [List.mem_singleton]; k_ne)
      have l1 : g2.IsList sla ws.toArray := ⟨_, hg _ _ sl9 (by rw [List.mem_singleton]; k_ne), rfl, _, rfl⟩
      clear F9 N8
      simp only [List.nil_append] at N2
      k_steps
      (rename Fr _ _ _ _ => F7)
      (rename News _ _ _ _ => N7)
      (rename _ < (19 : Int) => x9)
      (rename (0 : Int) ≤ _ => x8)
      refine ⟨_, _, _, [(pe, _)], [], rfl, F7, N7, rfl, rfl, _, _, _, vals ++ [_], rfl, by omega, by omega, ints_snoc b3, by simp [b4], ?_⟩
      intro v hv
      rcases List.mem_append.mp hv with h | h
      · exact b5 v h
      · rw [List.mem_singleton.mp h]; omega
    rintro D h tk ys mu R' ⟨rfl, kr, tr, er, vals, rfl, b1, b2, b3, b4, b5⟩ F8 cd
    have N9 := cd.news
    simp only [List.nil_append, List.singleton_append] at N9
    rw [hpz] at b2 b4
    have nD := allNe_of fun q hq => ne_of_none cd.fresh (N8 q (canon_ex hq)).1
    simp only [AllNe, and_true] at nD
    clear F9 N8
    k_steps
    (rename News _ _ _ _ => N9)
    (rename Fr _ _ _ _ => F9)
    rename_i zr1 zr2 zr3 zr4 zr5 zr6 zr7 zr8 zr9 zr10 zr11 zr12 zr13 zr14 zr15 zr16 zr17 zr18 zr19 zr20 zr21 zr22 zr23 zr24 zr25 zr26 zr27 zr28 zr29 zr30 zr31 zr32 zr33 zr34 zr35 zr36 zr37 zr38 zr39 zr40 zr41 zr42 zr43 zr44 zr45 zr46 zr47 zr48 zr49 zr50 zr51 zr52 zr53 zr54 zr55 zr56 zr57 zr58 zr59 zr60 zr61
    revert zr1 zr2 zr3 zr4 zr5 zr6 zr7 zr8 zr9 zr10 zr11 zr12 zr13 KX0 zr14 zr15 zr16 T0 zr17 zr18 zr19 zr20 zr21 zr22 zr23 zr24 zr25 zr26 zr27 zr28 zr29 zr30 zr31 zr32 zr33 zr34 zr35 zr36 zr37 zr38 zr39 zr40 zr41 zr42 zr43 zr44 zr45 zr46 zr47 zr48 o5 o4 o3 o2 o1 y5 y4 y3 y2 y1 qk ek sla ws zr49 I9 hz9 hL9 ll1 pe zr50 ll2 zr51 oc1 dc1 zr52 xd zqt' zqh' zqtk' zqt2' zqe' hx0 x1 zr53 zr54 Tt Dc Dp cs ps R ks pl kq tq e' cc cp h9 tk9 hkq1 hkq2 HG hps hrows n1 n2 n3 hOff zr55 zr56 oc2 dc2 zr57 zr58 hpz hplb sl9 cl9 pl9 hR1 D h tk ys kr tr er vals b1 b2 b3 b4 b5 cd nD zr59 zr60 F9 N9 zr61
    exact zh.get
set_option maxHeartbeats 1000000 in
noncomputable def seg2 : Σ' T : Prop, Hide T → seg1.fst := by
  refine ⟨?zT, ?zf⟩
  case zf =>
    refine fun zh => ?_
    w_top off
    intro _ _ _ _ _ _ _ _ _ _ _ _ _ KX0 _ _ _ T0 _ _ _ _ _ _ _ _ _ _ _ _ _ _ _ _ _ _ _ _ _ _ _ _ _ _ _ _ _ _ _ _ o5 o4 o3 o2 o1 y5 y4 y3 y2 y1 qk ek sla ws _ I9 hz9 hL9 ll1 pe _ ll2 _ oc1 dc1 _ xd zqt' zqh' zqtk' zqt2' zqe' hx0 x1 _ _ Tt Dc Dp cs ps R ks pl kq tq e' cc cp h9 tk9 hkq1 hkq2 HG hps hrows n1 n2 n3 hOff _ _ oc2 dc2 _ _ hpz hplb sl9 cl9 pl9 hR1 D h tk ys kr tr er vals b1 b2 b3 b4 b5 cd nD _ _ F9 N9 _
    (rename _ = Data.cell (some (Value.ref D)) => dc3)
    rename_i oc3
    obtain ⟨dn, hdn, hdn1, hdn2⟩ : ∃ dn : Nat, (2 + xd : Int) = (dn : Int) + 1 ∧ 1 ≤ dn ∧ dn ≤ 2 := ⟨xd.toNat + 1, by omega, by omega, by omega⟩
    show wpAny _ _ _ _ _ _
    refine comp_assign (by with_unfolding_all rfl) (by with_unfolding_all rfl) rfl (by decide) (by intro _; with_unfolding_all rfl) ?_
    k_steps
    (rename IsRange _ _ _ _ _ _ _ _ => Rg)
    (rename Fr _ _ _ _ => F9)
    (rename News _ _ _ _ => N9)
    have cc2 := (N9 (_, oc2) (by k_mem)).1
    have cc3 := (N9 (_, oc3) (by k_mem)).1
    have dcl := (N9 (Dc, _) (by k_mem)).1
    have dvl := (N9 (D, _) (by k_mem)).1
    have hRr : ∀ p ∈ R, _ := fun p hp => (N9 p (mem10 hp)).1
    have hkl : ks.length = pl.length := HG.len
    refine compSt_rangeA (y := Str.ofString "checks") (mu₀ := []) rfl rfl rfl [] (fun i ys mu R => R = [] ∧ mu = [] ∧ ys.length = i ∧ ∀ j, j < i → ys[j]? = some (Value.bool (chkF ks vals j))) rfl F9 N9 Rg (small_one (by omega) (by omega) (by omega) (by omega)) (rangeSize_nat _ _) (by rw [sizeLine_eq]; omega) (by simp) rfl (fun q hq => ⟨hq, by simp⟩) (by rintro i ys mu R ⟨rfl, rfl, hys, _⟩; omega) ⟨rfl, rfl, rfl, by simp⟩ (by decide) rfl rfl ?_ ?_
    · refine turn_plain ?_
      rintro g2 C i v9 ys2 mu R' h tk mr hg hi ⟨t9, rfl⟩ ⟨rfl, rfl, hys1, hys2⟩ F2 N2
      have hi2 : i < pl.length := by omega
      have st2 : ∀ b o, _ → g2.get? b = some o := fun b o e => hg b o e (by simp)
      have X2 := KX0.keeps (fun b o e => st2 b o (F9.keep b o e) : _)
      have T2 := T0.keeps (fun b o e => st2 b o (F9.keep b o e) : _)
      replace cc2 := st2 _ _ cc2
      replace cc3 := st2 _ _ cc3
      obtain ⟨ca, ca1, ca2, ca3⟩ := rowsL_at hrows (st2 _ _ dcl) fun p hp => st2 _ _ (hRr p hp)
      obtain ⟨ra, row, ra1, ra2, ra3⟩ := ca3 i (by omega)
      obtain ⟨va, va1, va2, va3⟩ := intsL_at b3 (st2 _ _ dvl)
      obtain ⟨tv, va4⟩ := va3 i (by omega)
      clear F9 N9 Rg
      simp only [List.nil_append] at N2
      k_steps
      · (rename Fr _ _ _ _ => F7)
        (rename News _ _ _ _ => N7)
        exact ⟨_, _, _, [], [], rfl, F7, (by intro q hq; cases hq), rfl, rfl, rfl, by simp [hys1], chk_snoc hys1 hys2 (chk_t (by assumption))⟩
      · (rename Fr _ _ _ _ => F7)
        exact ⟨_, _, _, [], [], rfl, F7, (by intro q hq; cases hq), rfl, rfl, rfl, by simp [hys1], chk_snoc hys1 hys2 (chk_f' (by assumption))⟩
    rintro Dk hk tkk ysk mu R' ⟨rfl, rfl, hys1, hys2⟩ F8 cd2 v9
    have N8 := cd2.news
    simp only [List.nil_append] at N8
    have nK := allNe_of fun q hq => ne_of_none cd2.fresh (N9 q (.tail _ (canon_ex hq))).1
    simp only [AllNe, and_true] at nK
    clear F9 N9
    dsimp only [envOfC] at F8 N8
    simp only [lst_eq] at N8
    replace N8 := News.canon2 N8
    rw [show (((pl.length : Int) - 0).toNat) = pl.length by omega] at hys1 hys2
    k_steps
    (rename Fr _ _ _ _ => F9)
    (rename News _ _ _ _ => N9)
    show wpAny _ _ _ _ _ _
    have LH := lheld_mk (S := (sla, listOf ws.toArray 0)) (cc := cc) (cp := cp) (cd := ys.length) (ck := ysk.length) (Dc := Dc) (Dp := Dp) (D := D) (Dk := Dk) F9 hrows hps b3 hkl b4 hys1 hys2
    have hGn : (gameOf pl.length ks vals (chkF ks vals)).n ≤ 1000 := Nat.le_trans HG.b (by decide)
    have hwf : (gameOf pl.length ks vals (chkF ks vals)).WF := HG.wf fun i _ h => chkF_row h
    refine game_R (W := (Dk, listOf ysk.toArray ysk.length) :: (D, listOf ys.toArray ys.length) :: (Dc, listOf cs.toArray cc) :: (Dp, listOf ps.toArray cp) :: (sla, listOf ws.toArray 0) :: R) F9 N9 (by k_asm) (by k_asm) (by decide) ?_ (fun f a b => ⟨(LH f a b).1, (LH f a b).2.2⟩) hGn hwf ?_
    · (repeat' (first | (with_reducible exact fun _ hp => hp) | (refine sub_tl ?_)))
    intro gm pa tpa epa RG hA tkA F8 N8 nPq nRp nRo GH
    have hO7 := off_game nPq nRp nRo (off_sub hOff (by intro d hd; simp only [List.map_cons, List.map_nil, List.mem_cons, List.not_mem_nil, or_false] at hd ⊢; rcases hd with h | h | h | h | h | h <;> simp [h]))
    have nP := allNe_of fun q hq => nPq q (ex11 hq)
    simp only [AllNe, and_true] at nP
    replace N8 := News.canon3 N8
    replace GH := GH.more tail5_mem
    replace LH := LH.more (tail5_sub (RG := RG))
    replace hrows := hrows.more (fun p hp => List.mem_append_right RG hp)
    have hWp := off_W nPq nRp
    clear hOff nPq nRp nRo F9 N9
    (generalize RG ++ R = R2 at N8 GH LH hrows hWp hO7)
    have hdn' : (2 + xd : Int) = ((dn + 1 : Nat) : Int) := by omega
    k_steps
    (rename Fr _ _ _ _ => F9)
    (rename News _ _ _ _ => N9)
    show wpAny _ _ _ _ _ _
    clear n1 sl9 cl9 pl9 hR1 cd cd2 Rg cc2 cc3 dcl dvl hRr hpz 
    rename_i zr1 zr2 zr3 zr4 zr5 zr6 zr7 zr8 zr9 zr10 zr11 zr12 zr13 zr14 zr15 zr16 zr17 zr18 zr19 zr20 zr21 zr22 zr23 zr24 zr25 zr26 zr27 zr28 zr29 zr30 zr31 zr32 zr33 zr34 zr35 zr36 zr37 zr38 zr39 zr40 zr41 zr42 zr43 zr44 zr45 zr46 zr47 zr48 zr49 zr50 zr51 zr52 zr53 zr54 zr55 zr56 zr57 zr58 zr59 zr60 zr61 zr62 zr63 zr64 zr65 zr66 zr67 zr68 zr69
    revert zr1 zr2 zr3 zr4 zr5 zr6 zr7 zr8 zr9 zr10 zr11 zr12 zr13 KX0 zr14 zr15 zr16 T0 zr17 zr18 zr19 zr20 zr21 zr22 zr23 zr24 zr25 zr26 zr27 zr28 zr29 zr30 zr31 zr32 zr33 zr34 zr35 zr36 zr37 zr38 zr39 zr40 zr41 zr42 zr43 zr44 zr45 zr46 zr47 zr48 o5 o4 o3 o2 o1 y5 y4 y3 y2 y1 qk ek sla ws zr49 I9 hz9 hL9 ll1 pe zr50 ll2 zr51 oc1 dc1 zr52 xd zqt' zqh' zqtk' zqt2' zqe' hx0 x1 zr53 zr54 Tt Dc Dp cs ps R ks pl kq tq e' cc cp h9 tk9 hkq1 hkq2 HG hps n2 n3 zr55 zr56 oc2 dc2 zr57 zr58 hplb D h zr59 ys kr tr er vals b1 b2 b3 b4 b5 nD zr60 oc3 dc3 dn hdn hdn1 hdn2 zr61 zr62 zr63 zr64 zr65 zr66 zr67 zr68 hkl Dk hk tkk ysk hys1 hys2 v9 nK hGn hwf gm pa tpa epa RG hA tkA nP R2 GH LH hrows hWp hO7 hdn' zr69 F9 N9 tk
    exact zh.get
set_option maxHeartbeats 1000000 in
noncomputable def seg3 : Σ' T : Prop, Hide T → seg2.fst := by
  refine ⟨?zT, ?zf⟩
  case zf =>
    refine fun zh => ?_
    w_top off
    intro _ _ _ _ _ _ _ _ _ _ _ _ _ KX0 _ _ _ T0 _ _ _ _ _ _ _ _ _ _ _ _ _ _ _ _ _ _ _ _ _ _ _ _ _ _ _ _ _ _ _ _ o5 o4 o3 o2 o1 y5 y4 y3 y2 y1 qk ek sla ws _ I9 hz9 hL9 ll1 pe _ ll2 _ oc1 dc1 _ xd zqt' zqh' zqtk' zqt2' zqe' hx0 x1 _ _ Tt Dc Dp cs ps R ks pl kq tq e' cc cp h9 tk9 hkq1 hkq2 HG hps n2 n3 _ _ oc2 dc2 _ _ hplb D h _ ys kr tr er vals b1 b2 b3 b4 b5 nD _ oc3 dc3 dn hdn hdn1 hdn2 _ _ _ _ _ _ _ _ hkl Dk hk tkk ysk hys1 hys2 v9 nK hGn hwf gm pa tpa epa RG hA tkA nP R2 GH LH hrows hWp hO7 hdn' _ F9 N9 tk
    obtain ⟨V, B, hV, hV1, hV2, hlaw, hcnt, hfin, hn0, hbm, hBne, hBlt, hBl, hrev, hal, hoth⟩ := law_facts (chk := chkF ks vals) HG hdn' hdn1 hdn2 b5
    refine neg_W (d := dn + 1) F9 N9 (by k_asm) (by k_asm) (by k_updF) GH (by (repeat' (first | (with_reducible exact fun _ hp => hp) | (refine sub_tl ?_)))) hWp (room_le (by omega) (by decide) (by decide)) hn0 (by show 0 + _ ≤ _; omega) hGn hwf hdn' ?_
    clear F9 N9
    rw [hV]
    intro tV hB9 tkB epb F9 N9
    k_steps
    (rename Fr _ _ _ _ => F9)
    (rename News _ _ _ _ => N9)
    show wpAny _ _ _ _ _ _
    refine lv_W (d := dn + 1) (nd := 0) (plv := plyF pl) F9 N9 (by k_asm) (by k_asm) LH (by (repeat' (first | (with_reducible exact fun _ hp => hp) | (refine sub_tl ?_)))) (room_le (by omega) (by decide) (by decide)) (units_le (by omega) (by decide)) hn0 hGn hwf hfin ?_
    clear F9 N9
    rw [hlaw]
    intro tV hB9 tkB F9 N9
    k_steps
    (rename Fr _ _ _ _ => F9)
    (rename News _ _ _ _ => N9)
    show wpAny _ _ _ _ _ _
    refine cnt_W (d := dn + 1) F9 N9 (by k_asm) (by k_asm) (by k_updF) GH (by (repeat' (first | (with_reducible exact fun _ hp => hp) | (refine sub_tl ?_)))) hWp (room_le (by omega) (by decide) (by decide)) hn0 (by show 0 + _ ≤ _; omega) hGn hwf hfin hdn' ?_
    clear F9 N9
    rw [hcnt]
    intro tV2 hB9 tkB epb2 F9 N9
    k_steps
    (rename Fr _ _ _ _ => F9)
    (rename News _ _ _ _ => N9)
    show wpAny _ _ _ _ _ _
    have hbne2 : (bmV (gameOf pl.length ks vals (chkF ks vals)) dn 0).2.2 ≠ [] := by rw [hbm]; simpa using hBne
    refine best_W (d := dn) F9 N9 (by k_asm) (by k_asm) (by k_updF) GH (by (repeat' (first | (with_reducible exact fun _ hp => hp) | (refine sub_tl ?_)))) hWp (room_le (by omega) (by decide) (by decide)) hn0 (by show 0 + _ ≤ _; omega) hGn hwf hdn hbne2 ?_
    clear F9 N9 hbne2
    rw [hbm]
    dsimp only
    intro Tb Db bs cb tb hC tkC epc F9 N9 hbs nT nDb
    k_steps
    (rename Fr _ _ _ _ => F9)
    (rename News _ _ _ _ => N9)
    show wpAny _ _ _ _ _ _
    simp only [AllNe] at nT nDb
    rename_i zr1 zr2 zr3 zr4 zr5 zr6 zr7 zr8 zr9 zr10 zr11 zr12 zr13 zr14 zr15 zr16 zr17 zr18 zr19 zr20 zr21 zr22 zr23 zr24 zr25 zr26 zr27 zr28 zr29 zr30 zr31 zr32 zr33 zr34 zr35 zr36 zr37 zr38 zr39 zr40 zr41 zr42 zr43 zr44 zr45 zr46 zr47 zr48 zr49 zr50 zr51 zr52 zr53 zr54 zr55 zr56 zr57 zr58 zr59 zr60 zr61 zr62 zr63 zr64 zr65 zr66 zr67 zr68 zr69 zr70 zr71 zr72 zr73 zr74 zr75 zr76 zr77 zr78 zr79 zr80 zr81 zr82 zr83 zr84
    revert zr1 zr2 zr3 zr4 zr5 zr6 zr7 zr8 zr9 zr10 zr11 zr12 zr13 KX0 zr14 zr15 zr16 T0 zr17 zr18 zr19 zr20 zr21 zr22 zr23 zr24 zr25 zr26 zr27 zr28 zr29 zr30 zr31 zr32 zr33 zr34 zr35 zr36 zr37 zr38 zr39 zr40 zr41 zr42 zr43 zr44 zr45 zr46 zr47 zr48 o5 o4 o3 o2 o1 y5 y4 y3 y2 y1 qk ek sla ws zr49 I9 hz9 hL9 ll1 pe zr50 ll2 zr51 oc1 dc1 zr52 xd zqt' zqh' zqtk' zqt2' zqe' hx0 x1 zr53 zr54 Tt Dc Dp cs ps R ks pl kq tq e' cc cp h9 tk9 hkq1 hkq2 HG hps n2 n3 zr55 zr56 oc2 dc2 zr57 zr58 hplb D h zr59 ys kr tr er vals b1 b2 b3 b4 b5 nD zr60 oc3 dc3 dn hdn hdn1 hdn2 zr61 zr62 zr63 zr64 zr65 zr66 zr67 zr68 hkl Dk hk tkk ysk hys1 hys2 v9 nK hGn hwf gm pa tpa epa RG hA tkA nP R2 GH LH hrows hWp hO7 hdn' zr69 zr70 V B hV hV1 hV2 hlaw hcnt hfin hn0 hbm hBne hBlt hBl hrev hal hoth zr71 zr72 zr73 epb zr74 zr75 tV zr76 zr77 zr78 tV2 hB9 tkB epb2 zr79 zr80 zr81 Tb Db bs cb tb hC tkC epc hbs nT nDb zr82 zr83 zr84 F9 N9 tk
    exact zh.get
local macro_rules | `(tactic| walk_at "subscriptTail Name Slice ref ref") => `(tactic| k_extra "r61")
set_option maxHeartbeats 1000000 in
noncomputable def seg4 : Σ' T : Prop, Hide T → seg3.fst := by
  refine ⟨?zT, ?zf⟩
  case zf =>
    refine fun zh => ?_
    w_top off
    intro _ _ _ _ _ _ _ _ _ _ _ _ _ KX0 _ _ _ T0 _ _ _ _ _ _ _ _ _ _ _ _ _ _ _ _ _ _ _ _ _ _ _ _ _ _ _ _ _ _ _ _ o5 o4 o3 o2 o1 y5 y4 y3 y2 y1 qk ek sla ws _ I9 hz9 hL9 ll1 pe _ ll2 _ oc1 dc1 _ xd zqt' zqh' zqtk' zqt2' zqe' hx0 x1 _ _ Tt Dc Dp cs ps R ks pl kq tq e' cc cp h9 tk9 hkq1 hkq2 HG hps n2 n3 _ _ oc2 dc2 _ _ hplb D h _ ys kr tr er vals b1 b2 b3 b4 b5 nD _ oc3 dc3 dn hdn hdn1 hdn2 _ _ _ _ _ _ _ _ hkl Dk hk tkk ysk hys1 hys2 v9 nK hGn hwf gm pa tpa epa RG hA tkA nP R2 GH LH hrows hWp hO7 hdn' _ _ V B hV hV1 hV2 hlaw hcnt hfin hn0 hbm hBne hBlt hBl hrev hal hoth _ _ _ epb _ _ tV _ _ _ tV2 hB9 tkB epb2 _ _ _ Tb Db bs cb tb hC tkC epc hbs nT nDb _ _ _ F9 N9 tk
    refine comp_eval (by with_unfolding_all rfl) rfl (by decide) (by intro _; with_unfolding_all rfl) ?_
    k_steps
    (rename Fr _ _ _ _ => F9)
    (rename News _ _ _ _ => N9)
    have dcl := (N9 (Dc, _) (by k_mem)).1
    have hRr : ∀ p ∈ R2, _ := fun p hp => (N9 p (by (repeat (first | (with_reducible exact hp) | (refine List.mem_cons_of_mem _ ?_))))).1
    have hcz : cs.toArray.size = pl.length := by rw [List.size_toArray, hrows.1, hkl]
    refine compSt_list (mu₀ := []) [] (fun i ys mu R => mu = [] ∧ RowsL ys R ((ks.take i).map List.reverse)) rfl F9 N9 ⟨_, dcl, rfl, _, rfl⟩ (by simp) (by rw [hcz, sizeLine_eq]; omega) (by simp) rfl (fun q hq => ⟨hq, by simp⟩) (by rintro i ys mu R ⟨rfl, hys⟩; rw [hys.1, List.length_map, List.length_take]; omega) ⟨rfl, rowsL_nil⟩ (by decide) rfl rfl ?_ ?_
    · refine turn_plain ?_
      rintro g2 C i v9 ys2 mu R' h tk mr hg hi hv9 ⟨rfl, hys⟩ F2 N2
      rw [hcz] at hi
      have st2 : ∀ b o, _ → g2.get? b = some o := fun b o e => hg b o e (by simp)
      have X2 := KX0.keeps (fun b o e => st2 b o (F9.keep b o e) : _)
      have T2 := T0.keeps (fun b o e => st2 b o (F9.keep b o e) : _)
      obtain ⟨ca, ca1, ca2, ca3⟩ := rowsL_at hrows (st2 _ _ dcl) fun p hp => st2 _ _ (hRr p hp)
      obtain ⟨r, hr⟩ : ∃ r, ks[i]? = some r := ⟨_, List.getElem?_eq_getElem (by omega)⟩
      obtain ⟨ra, row, c9, ra1, ra2, ra3⟩ := hrows.2 i r hr
      have hrz : (ZL r).length ≤ 1000 := by
        have := HG.short i
        have e : rowF ks i = r := by unfold rowF; rw [List.getD_eq_getElem?_getD, hr]; rfl
        rw [e] at this
        simp [ZL]; omega
      rw [List.getElem?_toArray, ra1] at hv9
      obtain rfl := Option.some.inj hv9
      have rl : g2.IsList ra row.toArray := ⟨_, st2 _ _ (hRr _ ra2), rfl, _, rfl⟩
      clear F9 N9
      simp only [List.append_nil] at N2
      k_steps
      (rename Fr _ _ _ _ => F7)
      (rename News _ _ _ _ => N7)
      (rename IntsAre _ (ZL r).reverse => hI7)
      refine ⟨_, _, _, [], _, rfl, F7, ?_, rfl, rfl, rowsL_rev (c := 0) hys hr hI7⟩
      rw [List.append_nil]; exact N7
    rintro D9 h9 tk9 ys9 mu R9 ⟨rfl, hys9⟩ F8 cd9
    have N8 := cd9.news
    simp only [List.nil_append] at N8
    try dsimp only [envOfC] at F8 N8
    simp only [lst_eq] at N8
    have nRo := off_fresh N9 fun p hp => (cd9.offR p hp).2 (by simp)
    have nD9 := allNe_of fun q hq => ne_of_none cd9.fresh (N9 q (ex7 hq)).1
    simp only [AllNe, and_true] at nD9
    replace N8 := News.canon4 N8
    have hWp3 := off_W4 hWp nRo rfl
    have hO73 := off_O4 hO7 nRo
    have GH3 := GH.more (tail5_sub (RG := R9))
    have LH3 := LH.more (tail5_sub (RG := R9))
    have hrows3 := hrows.more (fun p hp => List.mem_append_right R9 hp)
    have hys3 := hys9.more (fun p hp => List.mem_append_left R2 hp)
    clear hWp hO7 GH LH hrows hys9 nRo F9 N9 cd9 dcl hRr
    (generalize R9 ++ R2 = R3 at N8 GH3 LH3 hrows3 hWp3 hO73 hys3)
    rw [hcz, ← hkl, List.take_length] at hys3
    k_steps
    (rename Fr _ _ _ _ => F9)
    (rename News _ _ _ _ => N9)
    show wpAny _ _ _ _ _ _
    rename_i zr1 zr2 zr3 zr4 zr5 zr6 zr7 zr8 zr9 zr10 zr11 zr12 zr13 zr14 zr15 zr16 zr17 zr18 zr19 zr20 zr21 zr22 zr23 zr24 zr25 zr26 zr27 zr28 zr29 zr30 zr31 zr32 zr33 zr34 zr35 zr36 zr37 zr38 zr39 zr40 zr41 zr42 zr43 zr44 zr45 zr46 zr47 zr48 zr49 zr50 zr51 zr52 zr53 zr54 zr55 zr56 zr57 zr58 zr59 zr60 zr61 zr62 zr63 zr64 zr65 zr66 zr67 zr68 zr69 zr70 zr71 zr72 zr73 zr74 zr75 zr76 zr77 zr78 zr79 zr80 zr81 zr82 zr83 zr84 zr85 zr86
    revert zr1 zr2 zr3 zr4 zr5 zr6 zr7 zr8 zr9 zr10 zr11 zr12 zr13 KX0 zr14 zr15 zr16 T0 zr17 zr18 zr19 zr20 zr21 zr22 zr23 zr24 zr25 zr26 zr27 zr28 zr29 zr30 zr31 zr32 zr33 zr34 zr35 zr36 zr37 zr38 zr39 zr40 zr41 zr42 zr43 zr44 zr45 zr46 zr47 zr48 o5 o4 o3 o2 o1 y5 y4 y3 y2 y1 qk ek sla ws zr49 I9 hz9 hL9 ll1 pe zr50 ll2 zr51 oc1 dc1 zr52 xd zqt' zqh' zqtk' zqt2' zqe' hx0 x1 zr53 zr54 Tt Dc Dp cs ps R ks pl kq tq e' cc cp zr55 zr56 hkq1 hkq2 HG hps n2 n3 zr57 zr58 oc2 dc2 zr59 zr60 hplb D h zr61 ys kr tr er vals b1 b2 b3 b4 b5 nD zr62 oc3 dc3 dn hdn hdn1 hdn2 zr63 zr64 zr65 zr66 zr67 zr68 zr69 zr70 hkl Dk hk tkk ysk hys1 hys2 v9 nK hGn hwf gm pa tpa epa RG hA tkA nP R2 hdn' zr71 zr72 V B hV hV1 hV2 hlaw hcnt hfin hn0 hbm hBne hBlt hBl hrev hal hoth zr73 zr74 zr75 epb zr76 zr77 tV zr78 zr79 zr80 tV2 hB9 tkB epb2 zr81 zr82 zr83 Tb Db bs cb tb hC tkC epc hbs nT nDb zr84 zr85 zr86 tk hcz D9 h9 tk9 ys9 R9 F9 nD9 R3 N9 GH3 LH3 hrows3 hWp3 hO73 hys3
    exact zh.get
set_option maxHeartbeats 1000000 in
noncomputable def seg5 : Σ' T : Prop, Hide T → seg4.fst := by
  refine ⟨?zT, ?zf⟩
  case zf =>
    refine fun zh => ?_
    w_top off
    intro _ _ _ _ _ _ _ _ _ _ _ _ _ KX0 _ _ _ T0 _ _ _ _ _ _ _ _ _ _ _ _ _ _ _ _ _ _ _ _ _ _ _ _ _ _ _ _ _ _ _ _ o5 o4 o3 o2 o1 y5 y4 y3 y2 y1 qk ek sla ws _ I9 hz9 hL9 ll1 pe _ ll2 _ oc1 dc1 _ xd zqt' zqh' zqtk' zqt2' zqe' hx0 x1 _ _ Tt Dc Dp cs ps R ks pl kq tq e' cc cp _ _ hkq1 hkq2 HG hps n2 n3 _ _ oc2 dc2 _ _ hplb D h _ ys kr tr er vals b1 b2 b3 b4 b5 nD _ oc3 dc3 dn hdn hdn1 hdn2 _ _ _ _ _ _ _ _ hkl Dk hk tkk ysk hys1 hys2 v9 nK hGn hwf gm pa tpa epa RG hA tkA nP R2 hdn' _ _ V B hV hV1 hV2 hlaw hcnt hfin hn0 hbm hBne hBlt hBl hrev hal hoth _ _ _ epb _ _ tV _ _ _ tV2 hB9 tkB epb2 _ _ _ Tb Db bs cb tb hC tkC epc hbs nT nDb _ _ _ tk hcz D9 h9 tk9 ys9 R9 F9 nD9 R3 N9 GH3 LH3 hrows3 hWp3 hO73 hys3
    refine game_R (W := (D9, listOf ys9.toArray ys9.length) :: (Dk, listOf ysk.toArray ysk.length) :: (D, listOf ys.toArray ys.length) :: (Dc, listOf cs.toArray cc) :: (Dp, listOf ps.toArray cp) :: (sla, listOf ws.toArray 0) :: R3) (G := gameOf pl.length (ks.map List.reverse) vals (chkF ks vals)) F9 N9 (by k_asm) (by k_asm) (by decide) (sub_hd (.head _) (by (repeat' (first | (with_reducible exact fun _ hp => hp) | (refine sub_tl ?_))))) (other_held hys3 hkl LH3) (Nat.le_trans HG.b (by decide)) (wf_rev hwf) ?_
    intro om oa tpo epo RGo hO tkO F8 N8 nPq nRp nRo GH1
    have nPo := allNe_of fun q hq => nPq q (ex13 hq)
    simp only [AllNe, and_true] at nPo
    have hO8 := off_O5 hO73 nPq nRp nRo (by simpa only [AllNe, and_true] using nD9)
    have hWo := off_Wo nPq nRp
    have hWp4 := off_W5 hWp3 nRo rfl nD9.1
    replace N8 := News.canon5 N8
    replace GH1 := GH1.more tail6_mem
    have GH4 := GH3.more (tail6_sub (E := (D9, listOf ys9.toArray ys9.length)) (RG := RGo))
    have LH4 := LH3.more (tail6_sub (E := (D9, listOf ys9.toArray ys9.length)) (RG := RGo))
    have hrows4 := hrows3.more (fun p hp => List.mem_cons_of_mem (D9, listOf ys9.toArray ys9.length) (List.mem_append_right RGo hp))
    clear hWp3 hO73 GH3 LH3 hrows3 hys3 nPq nRp nRo F9 N9
    (generalize (D9, listOf ys9.toArray ys9.length) :: (RGo ++ R3) = R4 at N8 GH1 GH4 LH4 hrows4 hWp4 hWo hO8)
    k_steps
    (rename Fr _ _ _ _ => F9)
    (rename News _ _ _ _ => N9)
    show wpAny _ _ _ _ _ _
    have hbne2 : (bmV (gameOf pl.length (ks.map List.reverse) vals (chkF ks vals)) dn 0).2.2 ≠ [] := by rw [hrev]; simpa using hBne
    refine best_W (d := dn) F9 N9 (by k_asm) (by k_asm) (by k_updF) GH1 (by (repeat' (first | (with_reducible exact fun _ hp => hp) | (refine sub_tl ?_)))) hWo (room_le (by omega) (by decide) (by decide)) hn0 (by show 0 + _ ≤ _; omega) (Nat.le_trans HG.b (by decide)) (wf_rev hwf) hdn hbne2 ?_
    clear F9 N9 hbne2
    rw [hrev]
    dsimp only
    intro To Do os co to hC2 tkC2 epo2 F9 N9 hos nTo nDo
    simp only [AllNe] at nTo nDo
    k_steps
    (rename Fr _ _ _ _ => F9)
    (rename News _ _ _ _ => N9)
    show wpAny _ _ _ _ _ _
    rename_i zr1 zr2 zr3 zr4 zr5 zr6 zr7 zr8 zr9 zr10 zr11 zr12 zr13 zr14 zr15 zr16 zr17 zr18 zr19 zr20 zr21 zr22 zr23 zr24 zr25 zr26 zr27 zr28 zr29 zr30 zr31 zr32 zr33 zr34 zr35 zr36 zr37 zr38 zr39 zr40 zr41 zr42 zr43 zr44 zr45 zr46 zr47 zr48 zr49 zr50 zr51 zr52 zr53 zr54 zr55 zr56 zr57 zr58 zr59 zr60 zr61 zr62 zr63 zr64 zr65 zr66 zr67 zr68 zr69 zr70 zr71 zr72 zr73 zr74 zr75 zr76 zr77 zr78 zr79 zr80 zr81 zr82 zr83 zr84 zr85 zr86 zr87 zr88 zr89
    revert zr1 zr2 zr3 zr4 zr5 zr6 zr7 zr8 zr9 zr10 zr11 zr12 zr13 KX0 zr14 zr15 zr16 T0 zr17 zr18 zr19 zr20 zr21 zr22 zr23 zr24 zr25 zr26 zr27 zr28 zr29 zr30 zr31 zr32 zr33 zr34 zr35 zr36 zr37 zr38 zr39 zr40 zr41 zr42 zr43 zr44 zr45 zr46 zr47 zr48 o5 o4 o3 o2 o1 y5 y4 y3 y2 y1 qk ek sla ws zr49 I9 hz9 hL9 ll1 pe zr50 ll2 zr51 oc1 dc1 zr52 xd zqt' zqh' zqtk' zqt2' zqe' hx0 x1 zr53 zr54 Tt Dc Dp cs ps R ks pl kq tq e' cc cp zr55 zr56 hkq1 hkq2 HG hps n2 n3 zr57 zr58 oc2 dc2 zr59 zr60 hplb D h zr61 ys kr tr er vals b1 b2 b3 b4 b5 nD zr62 oc3 dc3 dn hdn hdn1 hdn2 zr63 zr64 zr65 zr66 zr67 zr68 zr69 zr70 hkl Dk hk tkk ysk hys1 hys2 v9 nK hGn hwf gm pa tpa epa RG hA tkA nP R2 hdn' zr71 zr72 V B hV hV1 hV2 hlaw hcnt hfin hn0 hbm hBne hBlt hBl hrev hal hoth zr73 zr74 zr75 epb zr76 zr77 tV zr78 zr79 zr80 tV2 hB9 tkB epb2 zr81 zr82 zr83 Tb Db bs cb tb hC tkC epc hbs nT nDb zr84 zr85 zr86 zr87 hcz D9 h9 tk9 ys9 R9 nD9 R3 om oa tpo epo RGo hO tkO nPo R4 GH1 GH4 LH4 hrows4 hWp4 hWo hO8 zr88 tk zr89 To Do os co to hC2 tkC2 epo2 F9 N9 hos nTo nDo
    exact zh.get
local macro_rules | `(tactic| walk_at "subscriptTail") => `(tactic| k_extra "r42")
local macro_rules | `(tactic| walk_at "call builtin:len") => `(tactic| k_extra "r5")
local macro_rules | `(tactic| walk_at "compareOp NotEq ref ref") => `(tactic| refine for_stop ?_)
local macro_rules | `(tactic| walk_at "subscriptTail ListComp Slice ref ref") => `(tactic| k_extra "r62")
set_option maxHeartbeats 1000000 in
noncomputable def seg6 : Σ' T : Prop, Hide T → seg5.fst := by
  refine ⟨?zT, ?zf⟩
  case zf =>
    refine fun zh => ?_
    w_top off
    intro _ _ _ _ _ _ _ _ _ _ _ _ _ KX0 _ _ _ T0 _ _ _ _ _ _ _ _ _ _ _ _ _ _ _ _ _ _ _ _ _ _ _ _ _ _ _ _ _ _ _ _ o5 o4 o3 o2 o1 y5 y4 y3 y2 y1 qk ek sla ws _ I9 hz9 hL9 ll1 pe _ ll2 _ oc1 dc1 _ xd zqt' zqh' zqtk' zqt2' zqe' hx0 x1 _ _ Tt Dc Dp cs ps R ks pl kq tq e' cc cp _ _ hkq1 hkq2 HG hps n2 n3 _ _ oc2 dc2 _ _ hplb D h _ ys kr tr er vals b1 b2 b3 b4 b5 nD _ oc3 dc3 dn hdn hdn1 hdn2 _ _ _ _ _ _ _ _ hkl Dk hk tkk ysk hys1 hys2 v9 nK hGn hwf gm pa tpa epa RG hA tkA nP R2 hdn' _ _ V B hV hV1 hV2 hlaw hcnt hfin hn0 hbm hBne hBlt hBl hrev hal hoth _ _ _ epb _ _ tV _ _ _ tV2 hB9 tkB epb2 _ _ _ Tb Db bs cb tb hC tkC epc hbs nT nDb _ _ _ _ hcz D9 h9 tk9 ys9 R9 nD9 R3 om oa tpo epo RGo hO tkO nPo R4 GH1 GH4 LH4 hrows4 hWp4 hWo hO8 _ tk _ To Do os co to hC2 tkC2 epo2 F9 N9 hos nTo nDo
    refine comp_eval (by with_unfolding_all rfl) rfl (by decide) (by intro _; with_unfolding_all rfl) ?_
    k_steps
    (rename Fr _ _ _ _ => F9)
    (rename News _ _ _ _ => N9)
    have dbl := (N9 (Db, _) (by k_mem)).1
    have dcl := (N9 (Dc, _) (by k_mem)).1
    have cc2 := (N9 (_, oc2) (by k_mem)).1
    have hRr : ∀ p ∈ R4, _ := fun p hp => (N9 p (by (repeat (first | (with_reducible exact hp) | (refine List.mem_cons_of_mem _ ?_))))).1
    have hbz : bs.toArray.size = B.length := by rw [List.size_toArray, hbs.length, List.length_map]
    refine compSt_list (mu₀ := []) [] (fun i ys mu R => R = [] ∧ mu = [] ∧ IntsAre ys ((B.take i).map fun (j : Nat) => (((rowF ks 0).length : Nat) : Int) + 1 - (1 + (j : Int)))) rfl F9 N9 ⟨_, dbl, rfl, _, rfl⟩ (by simp) (by rw [hbz, sizeLine_eq]; omega) (by simp) rfl (fun q hq => ⟨hq, by simp⟩) (by rintro i ys mu R ⟨rfl, rfl, hys⟩; rw [hys.length, List.length_map, List.length_take]; omega) ⟨rfl, rfl, .nil⟩ (by decide) rfl rfl ?_ ?_
    · refine turn_plain ?_
      rintro g2 C i v9 ys2 mu R' h tk mr hg hi hv9 ⟨rfl, rfl, hys⟩ F2 N2
      obtain ⟨j, tk9, hj9, rfl⟩ := best_item hbs hv9
      have st2 : ∀ b o, _ → g2.get? b = some o := fun b o e => hg b o e (by simp)
      have X2 := KX0.keeps (fun b o e => st2 b o (F9.keep b o e) : _)
      have T2 := T0.keeps (fun b o e => st2 b o (F9.keep b o e) : _)
      replace cc2 := st2 _ _ cc2
      obtain ⟨ca, ca1, ca2, ca3⟩ := rowsL_at hrows4 (st2 _ _ dcl) fun p hp => st2 _ _ (hRr p hp)
      obtain ⟨ra, row, ra1, ra2, ra3⟩ := ca3 0 (by have := HG.ge; omega)
      have hrz : (rowF ks 0).length ≤ 1000 := Nat.le_trans (HG.short 0) (by decide)
      replace ra3 : IntsAre row (ZL (rowF ks 0)) := ra3
      clear F9 N9
      simp only [List.nil_append] at N2
      k_steps
      (rename Fr _ _ _ _ => F7)
      (rename News _ _ _ _ => N7)
      exact ⟨_, _, _, [], [], rfl, F7, N7, rfl, rfl, rfl, by rw [take_map_snoc hj9]; exact ints_snoc hys⟩
    rintro D10 h10 tk10 ys10 mu R9 ⟨rfl, rfl, hys10⟩ F8 cd9
    have N8 := cd9.news
    simp only [List.nil_append] at N8
    try dsimp only [envOfC] at F8 N8
    simp only [lst_eq] at N8
    clear F9 N9 cd9 dbl dcl cc2 hRr
    rw [hbz, List.take_length] at hys10
    have hz10 : (B.map fun (j : Nat) => (((rowF ks 0).length : Nat) : Int) + 1 - (1 + (j : Int))).length ≤ 1000 := by rw [List.length_map]; exact hBl
    k_steps
    (rename Fr _ _ _ _ => F9)
    (rename News _ _ _ _ => N9)
    show wpAny _ _ _ _ _ _
    (rename IntsAre _ (List.reverse _) => hI10)
    refine ne_pair N9 (by k_mem) (by k_mem) (by k_mem) (by k_mem) hos hI10 (by dsimp only [Around.deeper]; decide) ⟨rfl, rfl⟩ ?_
    k_steps
    (rename Fr _ _ _ _ => F9)
    (rename News _ _ _ _ => N9)
    replace N9 : News _ _ _ ((Db, listOf bs.toArray cb) :: (pa, _) :: _) := News.sub N9 (by repeat (first | (with_reducible exact fun _ hp => hp) | (refine sub_tl ?_)))
    obtain ⟨_, _, _, _, _, _, _, _, _, _, _⟩ : Apart _ _ ∧ Apart _ _ ∧ Apart _ _ ∧ Apart _ _ ∧ Apart _ _ ∧ Apart _ _ ∧ Apart _ _ ∧ Apart _ _ ∧ Apart _ _ ∧ Apart _ _ ∧ Apart _ _ := nP
    obtain ⟨_, _, _, _, _, _, _, _, _, _, _, _, _⟩ : Apart _ _ ∧ Apart _ _ ∧ Apart _ _ ∧ Apart _ _ ∧ Apart _ _ ∧ Apart _ _ ∧ Apart _ _ ∧ Apart _ _ ∧ Apart _ _ ∧ Apart _ _ ∧ Apart _ _ ∧ Apart _ _ ∧ AllNe _ _ := nDb
    obtain ⟨_, _, _, _, _, _⟩ : Apart _ _ ∧ Apart _ _ ∧ Apart _ _ ∧ Apart _ _ ∧ Apart _ _ ∧ Apart _ _ := nK
    obtain ⟨_, _, _, _, _, _⟩ : Apart _ _ ∧ Apart _ _ ∧ Apart _ _ ∧ Apart _ _ ∧ Apart _ _ ∧ Apart _ _ := nD
    obtain ⟨_, _, _, _, _, _, _⟩ : Apart _ _ ∧ Apart _ _ ∧ Apart _ _ ∧ Apart _ _ ∧ Apart _ _ ∧ Apart _ _ ∧ Apart _ _ := n2
    obtain ⟨_, _, _, _, _, _, _⟩ : Apart _ _ ∧ Apart _ _ ∧ Apart _ _ ∧ Apart _ _ ∧ Apart _ _ ∧ Apart _ _ ∧ Apart _ _ := n3
    clear nT nTo nDo nPo nD9 hWo GH1 hos hys10 hI10 hz10 hbz
    dsimp only at hO8
    show wpAny _ _ _ _ _ _
    rename_i zr1 zr2 zr3 zr4 zr5 zr6 zr7 zr8 zr9 zr10 zr11 zr12 zr13 zr14 zr15 zr16 zr17 zr18 zr19 zr20 zr21 zr22 zr23 zr24 zr25 zr26 zr27 zr28 zr29 zr30 zr31 zr32 zr33 zr34 zr35 zr36 zr37 zr38 zr39 zr40 zr41 zr42 zr43 zr44 zr45 zr46 zr47 zr48 zr49 zr50 zr51 zr52 zr53 zr54 zr55 zr56 zr57 zr58 zr59 zr60 zr61 zr62 zr63 zr64 zr65 zr66 zr67 zr68 zr69 zr70 zr71 zr72 zr73 zr74 zr75 zr76 zr77 zr78 zr79 zr80 zr81 zr82 zr83 zr84 zr85 zr86 zr87 zr88 zr89 zr90 zr91 zr92 zr93 zr94 zr95 zr96 zr97 zr98 zr99 zr100 zr101 zr102 zr103 zr104 zr105 zr106 zr107 zr108 zr109 zr110 zr111 zr112 zr113 zr114 zr115 zr116 zr117 zr118 zr119 zr120 zr121 zr122 zr123 zr124 zr125 zr126 zr127 zr128 zr129 zr130 zr131 zr132 zr133 zr134 zr135 zr136 zr137 zr138 zr139 zr140 zr141 zr142 zr143 zr144 zr145 zr146 zr147 zr148
    revert zr1 zr2 zr3 zr4 zr5 zr6 zr7 zr8 zr9 zr10 zr11 zr12 zr13 KX0 zr14 zr15 zr16 T0 zr17 zr18 zr19 zr20 zr21 zr22 zr23 zr24 zr25 zr26 zr27 zr28 zr29 zr30 zr31 zr32 zr33 zr34 zr35 zr36 zr37 zr38 zr39 zr40 zr41 zr42 zr43 zr44 zr45 zr46 zr47 zr48 o5 o4 o3 o2 o1 y5 y4 y3 y2 y1 qk ek sla ws zr49 I9 hz9 hL9 ll1 pe zr50 ll2 zr51 oc1 dc1 zr52 xd zqt' zqh' zqtk' zqt2' zqe' hx0 x1 zr53 zr54 Tt Dc Dp cs ps R ks pl kq tq e' cc cp zr55 zr56 hkq1 hkq2 HG hps zr57 zr58 oc2 dc2 zr59 zr60 hplb D h zr61 ys kr tr er vals b1 b2 b3 b4 b5 zr62 oc3 dc3 dn hdn hdn1 hdn2 zr63 zr64 zr65 zr66 zr67 zr68 zr69 zr70 hkl Dk hk tkk ysk hys1 hys2 v9 hGn hwf gm pa tpa epa RG hA tkA R2 hdn' zr71 zr72 V B hV hV1 hV2 hlaw hcnt hfin hn0 hbm hBne hBlt hBl hrev hal hoth zr73 zr74 zr75 epb zr76 zr77 tV zr78 zr79 zr80 tV2 hB9 tkB epb2 zr81 zr82 zr83 Tb Db bs cb tb hC tkC epc hbs zr84 zr85 zr86 zr87 hcz D9 h9 tk9 ys9 R9 R3 om oa tpo epo RGo hO tkO R4 GH4 LH4 hrows4 hWp4 hO8 zr88 zr89 zr90 To Do os co to hC2 tkC2 epo2 D10 h10 tk10 ys10 zr91 zr92 zr93 zr94 zr95 zr96 zr97 F9 zr98 tk N9 zr99 zr100 zr101 zr102 zr103 zr104 zr105 zr106 zr107 zr108 zr109 zr110 zr111 zr112 zr113 zr114 zr115 zr116 zr117 zr118 zr119 zr120 zr121 zr122 zr123 zr124 zr125 zr126 zr127 zr128 zr129 zr130 zr131 zr132 zr133 zr134 zr135 zr136 zr137 zr138 zr139 zr140 zr141 zr142 zr143 zr144 zr145 zr146 zr147 zr148
    exact zh.get
local macro_rules | `(tactic| k_ne) => `(tactic| k_extra "r63")
set_option maxHeartbeats 1000000 in
noncomputable def seg7 : Σ' T : Prop, Hide T → seg6.fst := by
  refine ⟨?zT, ?zf⟩
  case zf =>
    refine fun zh => ?_
    w_top off
    intro _ _ _ _ _ _ _ _ _ _ _ _ _ KX0 _ _ _ T0 _ _ _ _ _ _ _ _ _ _ _ _ _ _ _ _ _ _ _ _ _ _ _ _ _ _ _ _ _ _ _ _ o5 o4 o3 o2 o1 y5 y4 y3 y2 y1 qk ek sla ws _ I9 hz9 hL9 ll1 pe _ ll2 _ oc1 dc1 _ xd zqt' zqh' zqtk' zqt2' zqe' hx0 x1 _ _ Tt Dc Dp cs ps R ks pl kq tq e' cc cp _ _ hkq1 hkq2 HG hps _ _ oc2 dc2 _ _ hplb D h _ ys kr tr er vals b1 b2 b3 b4 b5 _ oc3 dc3 dn hdn hdn1 hdn2 _ _ _ _ _ _ _ _ hkl Dk hk tkk ysk hys1 hys2 v9 hGn hwf gm pa tpa epa RG hA tkA R2 hdn' _ _ V B hV hV1 hV2 hlaw hcnt hfin hn0 hbm hBne hBlt hBl hrev hal hoth _ _ _ epb _ _ tV _ _ _ tV2 hB9 tkB epb2 _ _ _ Tb Db bs cb tb hC tkC epc hbs _ _ _ _ hcz D9 h9 tk9 ys9 R9 R3 om oa tpo epo RGo hO tkO R4 GH4 LH4 hrows4 hWp4 hO8 _ _ _ To Do os co to hC2 tkC2 epo2 D10 h10 tk10 ys10 _ _ _ _ _ _ _ F9 _ tk N9 _ _ _ _ _ _ _ _ _ _ _ _ _ _ _ _ _ _ _ _ _ _ _ _ _ _ _ _ _ _ _ _ _ _ _ _ _ _ _ _ _ _ _ _ _ _ _ _ _ _
    refine ab_W (d := dn + 1) F9 N9 (by k_asm) (by k_asm) (by k_updF) GH4 (by (repeat' (first | (with_reducible exact fun _ hp => hp) | (refine sub_tl ?_)))) hWp4 (room_le (by omega) (by decide) (by decide)) hn0 (by show 0 + _ ≤ _; omega) hGn hwf hdn' (by omega) (by omega) (by omega) ?_
    clear F9 N9
    rw [hV]
    intro x tx hB9 tkB epb hx F9 N9
    obtain rfl : V = x := (win_eq hx).symm
    clear hx
    k_steps
    (rename Fr _ _ _ _ => F9)
    (rename News _ _ _ _ => N9)
    show wpAny _ _ _ _ _ _
    refine ab_W (d := dn + 1) F9 N9 (by k_asm) (by k_asm) (by k_updF) GH4 (by (repeat' (first | (with_reducible exact fun _ hp => hp) | (refine sub_tl ?_)))) hWp4 (room_le (by omega) (by decide) (by decide)) hn0 (by show 0 + _ ≤ _; omega) hGn hwf hdn' (by omega) (by omega) (by omega) ?_
    clear F9 N9
    rw [hV]
    intro x tx hB9 tkB epb hx2 F9 N9
    have hx2 := win_ge hx2
    k_steps
    (rename Fr _ _ _ _ => F9)
    (rename News _ _ _ _ => N9)
    show wpAny _ _ _ _ _ _
    refine ab_W (d := dn + 1) F9 N9 (by k_asm) (by k_asm) (by k_updF) GH4 (by (repeat' (first | (with_reducible exact fun _ hp => hp) | (refine sub_tl ?_)))) hWp4 (room_le (by omega) (by decide) (by decide)) hn0 (by show 0 + _ ≤ _; omega) hGn hwf hdn' (by omega) (by omega) (by omega) ?_
    clear F9 N9
    rw [hV]
    intro x tx hB9 tkB epb hx3 F9 N9
    have hx3 := win_le hx3
    k_steps
    (rename Fr _ _ _ _ => F9)
    (rename News _ _ _ _ => N9)
    show wpAny _ _ _ _ _ _
    refine right_W (d := dn) (B := B) F9 N9 (by k_asm) (by k_asm) LH4 (by (repeat' (first | (with_reducible exact fun _ hp => hp) | (refine sub_tl ?_)))) (room_le (by omega) (by decide) (by decide)) (by decide) (by k_mem) hbs hBlt hBl hGn hn0 hwf hdn (by omega) hBne hal hoth ?_
    clear F9 N9 hx2 hx3
    intro hB9 tkB F9 N9
    k_steps
    (rename Fr _ _ _ _ => F9)
    (rename News _ _ _ _ => N9)
    show wpAny _ _ _ _ _ _
    rename_i zr1 zr2 zr3 zr4 zr5 zr6 zr7 zr8 zr9 zr10 zr11 zr12 zr13 zr14 zr15 zr16 zr17 zr18 zr19 zr20 zr21 zr22 zr23 zr24 zr25 zr26 zr27 zr28 zr29 zr30 zr31 zr32 zr33 zr34 zr35 zr36 zr37 zr38 zr39 zr40 zr41 zr42 zr43 zr44 zr45 zr46 zr47 zr48 zr49 zr50 zr51 zr52 zr53 zr54 zr55 zr56 zr57 zr58 zr59 zr60 zr61 zr62 zr63 zr64 zr65 zr66 zr67 zr68 zr69 zr70 zr71 zr72 zr73 zr74 zr75 zr76 zr77 zr78 zr79 zr80 zr81 zr82 zr83 zr84 zr85 zr86 zr87 zr88 zr89 zr90 zr91 zr92 zr93 zr94 zr95 zr96 zr97 zr98 zr99 zr100 zr101 zr102 zr103 zr104 zr105 zr106 zr107 zr108 zr109 zr110 zr111 zr112 zr113 zr114 zr115 zr116 zr117 zr118 zr119 zr120 zr121 zr122 zr123 zr124 zr125 zr126 zr127 zr128 zr129 zr130 zr131 zr132 zr133 zr134 zr135 zr136 zr137 zr138 zr139 zr140 zr141 zr142 zr143 zr144 zr145 zr146 zr147 zr148 zr149 zr150 zr151 zr152 zr153 zr154 zr155 zr156 zr157 zr158 zr159 zr160 zr161 zr162 zr163
    revert zr1 zr2 zr3 zr4 zr5 zr6 zr7 zr8 zr9 zr10 zr11 zr12 zr13 KX0 zr14 zr15 zr16 T0 zr17 zr18 zr19 zr20 zr21 zr22 zr23 zr24 zr25 zr26 zr27 zr28 zr29 zr30 zr31 zr32 zr33 zr34 zr35 zr36 zr37 zr38 zr39 zr40 zr41 zr42 zr43 zr44 zr45 zr46 zr47 zr48 o5 o4 o3 o2 o1 y5 y4 y3 y2 y1 qk ek sla ws zr49 I9 hz9 hL9 ll1 pe zr50 ll2 zr51 oc1 dc1 zr52 xd zqt' zqh' zqtk' zqt2' zqe' hx0 x1 zr53 zr54 Tt Dc Dp cs ps R ks pl kq tq e' cc cp zr55 zr56 hkq1 hkq2 HG hps zr57 zr58 oc2 dc2 zr59 zr60 hplb D h zr61 ys kr tr er vals b1 b2 b3 b4 b5 zr62 oc3 dc3 dn hdn hdn1 hdn2 zr63 zr64 zr65 zr66 zr67 zr68 zr69 zr70 hkl Dk hk tkk ysk hys1 hys2 v9 hGn hwf gm pa tpa epa RG hA tkA R2 hdn' zr71 zr72 V B hV hV1 hV2 hlaw hcnt hfin hn0 hbm hBne hBlt hBl hrev hal hoth zr73 zr74 zr75 zr76 zr77 zr78 tV zr79 zr80 zr81 tV2 zr82 zr83 epb2 zr84 zr85 zr86 Tb Db bs cb tb hC tkC epc hbs zr87 zr88 zr89 zr90 hcz D9 h9 tk9 ys9 R9 R3 om oa tpo epo RGo hO tkO R4 GH4 LH4 hrows4 hWp4 hO8 zr91 zr92 zr93 To Do os co to hC2 tkC2 epo2 D10 h10 tk10 ys10 zr94 zr95 zr96 zr97 zr98 zr99 zr100 zr101 tk zr102 zr103 zr104 zr105 zr106 zr107 zr108 zr109 zr110 zr111 zr112 zr113 zr114 zr115 zr116 zr117 zr118 zr119 zr120 zr121 zr122 zr123 zr124 zr125 zr126 zr127 zr128 zr129 zr130 zr131 zr132 zr133 zr134 zr135 zr136 zr137 zr138 zr139 zr140 zr141 zr142 zr143 zr144 zr145 zr146 zr147 zr148 zr149 zr150 zr151 zr152 zr153 zr154 zr155 zr156 zr157 zr158 zr159 zr160 zr161 hx2 x tx zr162 zr163 epb hx3 hB9 tkB F9 N9
    exact zh.get
local macro_rules | `(tactic| walk_at "compareOp NotEq ref ref") => `(tactic| k_extra "r64")
local macro_rules | `(tactic| walk_at "call builtin:len") => `(tactic| k_extra "r65")
local macro_rules | `(tactic| walk_at "call ref") => `(tactic| k_extra "r66")
set_option maxHeartbeats 1000000 in
noncomputable def seg8 : Σ' T : Prop, Hide T → seg7.fst := by
  refine ⟨?zT, ?zf⟩
  case zf =>
    refine fun zh => ?_
    w_top off
    intro _ _ _ _ _ _ _ _ _ _ _ _ _ KX0 _ _ _ T0 _ _ _ _ _ _ _ _ _ _ _ _ _ _ _ _ _ _ _ _ _ _ _ _ _ _ _ _ _ _ _ _ o5 o4 o3 o2 o1 y5 y4 y3 y2 y1 qk ek sla ws _ I9 hz9 hL9 ll1 pe _ ll2 _ oc1 dc1 _ xd zqt' zqh' zqtk' zqt2' zqe' hx0 x1 _ _ Tt Dc Dp cs ps R ks pl kq tq e' cc cp _ _ hkq1 hkq2 HG hps _ _ oc2 dc2 _ _ hplb D h _ ys kr tr er vals b1 b2 b3 b4 b5 _ oc3 dc3 dn hdn hdn1 hdn2 _ _ _ _ _ _ _ _ hkl Dk hk tkk ysk hys1 hys2 v9 hGn hwf gm pa tpa epa RG hA tkA R2 hdn' _ _ V B hV hV1 hV2 hlaw hcnt hfin hn0 hbm hBne hBlt hBl hrev hal hoth _ _ _ _ _ _ tV _ _ _ tV2 _ _ epb2 _ _ _ Tb Db bs cb tb hC tkC epc hbs _ _ _ _ hcz D9 h9 tk9 ys9 R9 R3 om oa tpo epo RGo hO tkO R4 GH4 LH4 hrows4 hWp4 hO8 _ _ _ To Do os co to hC2 tkC2 epo2 D10 h10 tk10 ys10 _ _ _ _ _ _ _ _ tk _ _ _ _ _ _ _ _ _ _ _ _ _ _ _ _ _ _ _ _ _ _ _ _ _ _ _ _ _ _ _ _ _ _ _ _ _ _ _ _ _ _ _ _ _ _ _ _ _ _ _ _ _ _ _ _ _ _ _ _ hx2 x tx _ _ epb hx3 hB9 tkB F9 N9
    have ph8 : Ph8 := True.intro
    refine comp_assign (by with_unfolding_all rfl) (by with_unfolding_all rfl) rfl (by decide) (by intro _; with_unfolding_all rfl) ?_
    k_steps
    (rename IsRange _ _ _ _ _ _ _ _ => Rg)
    (rename Fr _ _ _ _ => F9)
    (rename News _ _ _ _ => N9)
    have cc2 := (N9 (_, oc2) (by k_mem)).1
    have dcl := (N9 (Dc, _) (by k_mem)).1
    have hRr : ∀ p ∈ R4, _ := fun p hp => (N9 p (by (repeat (first | (with_reducible exact hp) | (refine List.mem_cons_of_mem _ ?_))))).1
    refine compSt_rangeA (y := Str.ofString "inner") (mu₀ := []) rfl rfl rfl [] (fun i ys mu R => R = [] ∧ mu = [] ∧ IntsAre ys (innerI ks i)) rfl F9 N9 Rg (small_one (by omega) (by omega) (by omega) (by omega)) (rangeSize_nat _ _) (by rw [sizeLine_eq]; omega) (by simp) rfl (fun q hq => ⟨hq, by simp⟩) (by rintro i ys mu R ⟨rfl, rfl, hys⟩; rw [hys.length, List.length_map]; exact inner_len) ⟨rfl, rfl, .nil⟩ (by decide) rfl rfl ?_ ?_
    · refine turn_test ?_
      rintro g2 C i v9 ys2 mu R' h tk mr hg hi ⟨t9, rfl⟩ ⟨rfl, rfl, hys⟩ F2 N2
      have hi2 : i < pl.length := by omega
      have st2 : ∀ b o, _ → g2.get? b = some o := fun b o e => hg b o e (by simp)
      have X2 := KX0.keeps (fun b o e => st2 b o (F9.keep b o e) : _)
      have T2 := T0.keeps (fun b o e => st2 b o (F9.keep b o e) : _)
      replace cc2 := st2 _ _ cc2
      obtain ⟨ca, ca1, ca2, ca3⟩ := rowsL_at hrows4 (st2 _ _ dcl) fun p hp => st2 _ _ (hRr p hp)
      obtain ⟨ra, row, ra1, ra2, ra3⟩ := ca3 i (by omega)
      replace ra3 : IntsAre row (ZL (rowF ks i)) := ra3
      clear F9 N9 Rg
      simp only [List.nil_append] at N2
      k_steps
      · (rename decide _ = true => a9)
        (rename Fr _ _ _ _ => F7)
        exact ⟨_, _, _, [], [], rfl, F7, News.nil, rfl, rfl, rfl, by rw [inner_out' a9]; exact hys⟩
      · (rename decide _ = false => a9)
        (rename Fr _ _ _ _ => F7)
        exact ⟨_, _, _, [], [], rfl, F7, News.nil, rfl, rfl, rfl, by rw [inner_in' a9]; exact ints_snoc hys⟩
    rintro D10 h10 tk10 ys10 mu R9 ⟨rfl, rfl, hys10⟩ F8 cd9 v9
    have N8 := cd9.news
    simp only [List.nil_append] at N8
    try dsimp only [envOfC] at F8 N8
    simp only [lst_eq] at N8
    rw [show (((pl.length : Int) - 0).toNat) = pl.length by omega] at hys10
    have nD10 := allA_of fun q hq => ne_of_none cd9.fresh (N9 q (ex7b hq)).1
    simp only [AllA, and_true] at nD10
    obtain ⟨_, _, _, _, _, _, _⟩ := nD10
    clear F9 N9 Rg cc2 dcl hRr cd9
    have hil : (innerI ks pl.length).length ≤ 20 := by rw [List.length_map]; exact Nat.le_trans inner_len hplb
    have hil0 : 0 < (innerI ks pl.length).length := by rw [List.length_map]; exact inner_pos HG.ge HG.root0
    k_steps
    (rename Fr _ _ _ _ => F9)
    (rename News _ _ _ _ => N9)
    show wpAny _ _ _ _ _ _
    refine shell_R F9 N9 (by k_asm) (by k_asm) (by k_updF) (by k_mem) (by k_ne) (by decide) I9 (by omega) (by omega) (by omega) (by omega) (by omega) ?_
    clear F9 N9
    intro xn tn hN tkN ts1 es1 hxn0 hxn1 F9 N9
    k_steps
    (rename Fr _ _ _ _ => F9)
    (rename News _ _ _ _ => N9)
    (rename _ = Data.cell (some (Value.int (List.getD _ _ _) _)) => dn4)
    rename_i on4
    rename_i zr1 zr2 zr3 zr4 zr5 zr6 zr7 zr8 zr9 zr10 zr11 zr12 zr13 zr14 zr15 zr16 zr17 zr18 zr19 zr20 zr21 zr22 zr23 zr24 zr25 zr26 zr27 zr28 zr29 zr30 zr31 zr32 zr33 zr34 zr35 zr36 zr37 zr38 zr39 zr40 zr41 zr42 zr43 zr44 zr45 zr46 zr47 zr48 zr49 zr50 zr51 zr52 zr53 zr54 zr55 zr56 zr57 zr58 zr59 zr60 zr61 zr62 zr63 zr64 zr65 zr66 zr67 zr68 zr69 zr70 zr71 zr72 zr73 zr74 zr75 zr76 zr77 zr78 zr79 zr80 zr81 zr82 zr83 zr84 zr85 zr86 zr87 zr88 zr89 zr90 zr91 zr92 zr93 zr94 zr95 zr96 zr97 zr98 zr99 zr100 zr101 zr102 zr103 zr104 zr105 zr106 zr107 zr108 zr109 zr110 zr111 zr112 zr113 zr114 zr115 zr116 zr117 zr118 zr119 zr120 zr121 zr122 zr123 zr124 zr125 zr126 zr127 zr128 zr129 zr130 zr131 zr132 zr133 zr134 zr135 zr136 zr137 zr138 zr139 zr140 zr141 zr142 zr143 zr144 zr145 zr146 zr147 zr148 zr149 zr150 zr151 zr152 zr153 zr154 zr155 zr156 zr157 zr158 zr159 zr160 zr161 zr162 zr163 zr164 zr165 zr166 zr167 zr168 zr169 zr170 zr171 zr172 zr173 zr174 zr175 zr176 zr177 zr178 zr179 zr180 zr181 zr182 zr183 zr184 zr185 zr186 zr187 zr188
    revert zr1 zr2 zr3 zr4 zr5 zr6 zr7 zr8 zr9 zr10 zr11 zr12 zr13 KX0 zr14 zr15 zr16 T0 zr17 zr18 zr19 zr20 zr21 zr22 zr23 zr24 zr25 zr26 zr27 zr28 zr29 zr30 zr31 zr32 zr33 zr34 zr35 zr36 zr37 zr38 zr39 zr40 zr41 zr42 zr43 zr44 zr45 zr46 zr47 zr48 o5 o4 o3 o2 o1 y5 y4 y3 y2 y1 qk ek sla ws zr49 I9 hz9 hL9 ll1 pe zr50 ll2 zr51 oc1 dc1 zr52 xd zqt' zqh' zqtk' zqt2' zqe' hx0 x1 zr53 zr54 Tt Dc Dp cs ps R ks pl kq tq e' cc cp zr55 zr56 hkq1 hkq2 HG hps zr57 zr58 oc2 dc2 zr59 zr60 hplb D h zr61 ys kr tr er vals b1 b2 b3 b4 b5 zr62 oc3 dc3 dn hdn hdn1 hdn2 zr63 zr64 zr65 zr66 zr67 zr68 zr69 zr70 hkl Dk hk tkk ysk hys1 hys2 zr71 hGn hwf gm pa tpa epa RG hA tkA R2 hdn' zr72 zr73 V B hV hV1 hV2 hlaw hcnt hfin hn0 hbm hBne hBlt hBl hrev hal hoth zr74 zr75 zr76 zr77 zr78 zr79 tV zr80 zr81 zr82 tV2 zr83 zr84 epb2 zr85 zr86 zr87 Tb Db bs cb tb hC tkC epc hbs zr88 zr89 zr90 zr91 hcz D9 h9 tk9 ys9 R9 R3 om oa tpo epo RGo hO tkO R4 GH4 LH4 hrows4 hWp4 hO8 zr92 zr93 zr94 To Do os co to hC2 tkC2 epo2 zr95 zr96 zr97 zr98 zr99 zr100 zr101 zr102 zr103 zr104 zr105 zr106 zr107 zr108 zr109 zr110 zr111 zr112 zr113 zr114 zr115 zr116 zr117 zr118 zr119 zr120 zr121 zr122 zr123 zr124 zr125 zr126 zr127 zr128 zr129 zr130 zr131 zr132 zr133 zr134 zr135 zr136 zr137 zr138 zr139 zr140 zr141 zr142 zr143 zr144 zr145 zr146 zr147 zr148 zr149 zr150 zr151 zr152 zr153 zr154 zr155 zr156 zr157 zr158 zr159 zr160 zr161 zr162 zr163 zr164 zr165 zr166 zr167 hx2 x tx zr168 zr169 epb hx3 hB9 tkB zqkPh zr170 zr171 zr172 zr173 zr174 zr175 zr176 zr177 D10 h10 tk10 ys10 hys10 v9 zr178 zr179 zr180 zr181 zr182 zr183 zr184 hil hil0 zr185 zr186 xn tn hN tkN ts1 es1 hxn0 hxn1 zr187 zr188 on4 F9 N9 dn4 tk
    exact zh.get
local macro_rules | `(tactic| walk_at "call builtin:len") => `(tactic| k_extra "r67")
local macro_rules | `(tactic| walk_at "binaryOp Add ref ref") => `(tactic| k_extra "g18")
set_option maxHeartbeats 1000000 in
noncomputable def seg9 : Σ' T : Prop, Hide T → seg8.fst := by
  refine ⟨?zT, ?zf⟩
  case zf =>
    refine fun zh => ?_
    w_top off
    intro _ _ _ _ _ _ _ _ _ _ _ _ _ KX0 _ _ _ T0 _ _ _ _ _ _ _ _ _ _ _ _ _ _ _ _ _ _ _ _ _ _ _ _ _ _ _ _ _ _ _ _ o5 o4 o3 o2 o1 y5 y4 y3 y2 y1 qk ek sla ws _ I9 hz9 hL9 ll1 pe _ ll2 _ oc1 dc1 _ xd zqt' zqh' zqtk' zqt2' zqe' hx0 x1 _ _ Tt Dc Dp cs ps R ks pl kq tq e' cc cp _ _ hkq1 hkq2 HG hps _ _ oc2 dc2 _ _ hplb D h _ ys kr tr er vals b1 b2 b3 b4 b5 _ oc3 dc3 dn hdn hdn1 hdn2 _ _ _ _ _ _ _ _ hkl Dk hk tkk ysk hys1 hys2 _ hGn hwf gm pa tpa epa RG hA tkA R2 hdn' _ _ V B hV hV1 hV2 hlaw hcnt hfin hn0 hbm hBne hBlt hBl hrev hal hoth _ _ _ _ _ _ tV _ _ _ tV2 _ _ epb2 _ _ _ Tb Db bs cb tb hC tkC epc hbs _ _ _ _ hcz D9 h9 tk9 ys9 R9 R3 om oa tpo epo RGo hO tkO R4 GH4 LH4 hrows4 hWp4 hO8 _ _ _ To Do os co to hC2 tkC2 epo2 _ _ _ _ _ _ _ _ _ _ _ _ _ _ _ _ _ _ _ _ _ _ _ _ _ _ _ _ _ _ _ _ _ _ _ _ _ _ _ _ _ _ _ _ _ _ _ _ _ _ _ _ _ _ _ _ _ _ _ _ _ _ _ _ _ _ _ _ _ _ _ _ _ hx2 x tx _ _ epb hx3 hB9 tkB zqkPh _ _ _ _ _ _ _ _ D10 h10 tk10 ys10 hys10 v9 _ _ _ _ _ _ _ hil hil0 _ _ xn tn hN tkN ts1 es1 hxn0 hxn1 _ _ on4 F9 N9 dn4 tk
    obtain ⟨nd, hnd1, hnd2, hnd3⟩ := inner_at hxn0 hxn1
    rw [hnd1] at dn4
    show wpAny _ _ _ _ _ _
    refine comp_evalT (by with_unfolding_all rfl) rfl (by decide) (by intro _; with_unfolding_all rfl) ?_
    k_steps
    (rename Fr _ _ _ _ => F9)
    (rename News _ _ _ _ => N9)
    show wpAny _ _ _ _ _ _
    have dcl := (N9 (Dc, _) (by k_mem)).1
    have cc2 := (N9 (_, oc2) (by k_mem)).1
    have cc4 := (N9 (_, on4) (by k_mem)).1
    have hRr : ∀ p ∈ R4, _ := fun p hp => (N9 p (by (repeat (first | (with_reducible exact hp) | (refine List.mem_cons_of_mem _ ?_))))).1
    have hp1 : pl.length ≤ 1000 := by omega
    refine comp_enum (m := _) (fun i ys R => RowsL ys (R ++ R4) ((List.range i).map (moreF ks nd pl.length))) rfl F9 N9 (by k_mem) (by rw [hcz, sizeLine_eq]; omega) (by rintro i ys R hys; rw [hys.1, List.length_map, List.length_range]; exact Nat.le_refl _) rowsL_nil (by decide) rfl rfl rfl ?_ ?_
    · intro g2 C i t9 v9 ys2 R' h tk mr hg hv9 hys F2 N2
      have hi : i < pl.length := by rw [← hcz]; exact (Array.getElem?_eq_some_iff.mp hv9).1
      have X2 := KX0.keeps (fun b o e => hg b o (F9.keep b o e) : _)
      have T2 := T0.keeps (fun b o e => hg b o (F9.keep b o e) : _)
      obtain ⟨r, hr⟩ : ∃ r, ks[i]? = some r := ⟨_, List.getElem?_eq_getElem (by omega)⟩
      obtain ⟨ra, row, c9, ra1, ra2, ra3⟩ := hrows4.2 i r hr
      rw [List.getElem?_toArray, ra1] at hv9
      obtain rfl := Option.some.inj hv9
      have rl : g2.IsList ra row.toArray := ⟨_, hg _ _ (hRr _ ra2), rfl, _, rfl⟩
      have cl2 : g2.IsList Dc cs.toArray := ⟨_, hg _ _ dcl, rfl, _, rfl⟩
      have e9 : rowF ks i = r := by unfold rowF; rw [List.getD_eq_getElem?_getD, hr]; rfl
      have hrz : row.length ≤ 1000 := by
        have := HG.short i
        rw [e9] at this
        rw [ra3.length, List.length_map]; omega
      replace cc2 := hg _ _ cc2
      replace cc4 := hg _ _ cc4
      clear F9 N9
      k_steps
      · (rename ((_ : Nat) : Int) = 0 + _ => a9)
        (rename Fr _ _ _ _ => F7)
        (rename News _ _ _ _ => N7)
        have em : moreF ks nd pl.length i = r ++ [pl.length] := by unfold moreF; rw [if_pos (by omega), e9]
        refine ⟨_, _, _, [], _, rfl, F7, (by rw [List.append_nil]; exact N7), rfl, ?_⟩
        show RowsL _ _ _
        rw [range_map_snoc, em]
        exact rowsL_snoc2 (c := 0) (hys.more fun p hp => .tail _ (.tail _ hp)) (.head _) (by simpa [ZL] using ints_snoc ra3)
      · (rename ¬ (_ : Int) = 0 + _ => a9)
        (rename Fr _ _ _ _ => F7)
        have em : moreF ks nd pl.length i = r := by unfold moreF; rw [if_neg (by omega), e9]
        refine ⟨_, _, _, [], _, rfl, F7, (by rw [List.append_nil]; exact N2), rfl, ?_⟩
        show RowsL _ _ _
        rw [range_map_snoc, em]
        exact rowsL_snoc2 hys (List.mem_append_right _ ra2) ra3
    intro D11 h11 tk11 ys11 R11 hys11 F8 N8 nD11 nR11
    rw [hcz] at hys11
    simp only [lst_eq] at N8
    replace N8 := News.canon4 N8
    have hO9 := off_O4 (off_sub hO8 (fun d hd => .tail _ hd)) (fun r hr => (nR11 r hr).2)
    have nA11 := allA_of fun q hq => nD11 q (ex7 hq)
    simp only [AllA, and_true] at nA11
    obtain ⟨_, _, _, _, _, _, _⟩ := nA11
    have hrows5 := hrows4.more (fun p hp => List.mem_append_right R11 hp)
    clear hO8 hrows4 F9 N9 dcl cc2 cc4 hRr nD11 nR11 GH4 LH4 hWp4
    (generalize R11 ++ R4 = R5 at N8 hrows5 hys11 hO9)
    have hyl : ys11.length ≤ 1000 := by rw [hys11.1, List.length_map, List.length_range]; omega
    try dsimp only [envOfC] at F8 N8
    k_steps
    (rename Fr _ _ _ _ => F9)
    (rename News _ _ _ _ => N9)
    rename_i le _ _ _ _ _ Dm _ _ _ _
    rename_i zr1 zr2 zr3 zr4 zr5 zr6 zr7 zr8 zr9 zr10 zr11 zr12 zr13 zr14 zr15 zr16 zr17 zr18 zr19 zr20 zr21 zr22 zr23 zr24 zr25 zr26 zr27 zr28 zr29 zr30 zr31 zr32 zr33 zr34 zr35 zr36 zr37 zr38 zr39 zr40 zr41 zr42 zr43 zr44 zr45 zr46 zr47 zr48 zr49 zr50 zr51 zr52 zr53 zr54 zr55 zr56 zr57 zr58 zr59 zr60 zr61 zr62 zr63 zr64 zr65 zr66 zr67 zr68 zr69 zr70 zr71 zr72 zr73 zr74 zr75 zr76 zr77 zr78 zr79 zr80 zr81 zr82 zr83 zr84 zr85 zr86 zr87 zr88 zr89 zr90 zr91 zr92 zr93 zr94 zr95 zr96 zr97 zr98 zr99 zr100 zr101 zr102 zr103 zr104 zr105 zr106 zr107 zr108 zr109 zr110 zr111 zr112 zr113 zr114 zr115 zr116 zr117 zr118 zr119 zr120 zr121 zr122 zr123 zr124 zr125 zr126 zr127 zr128 zr129 zr130 zr131 zr132 zr133 zr134 zr135 zr136 zr137 zr138 zr139 zr140 zr141 zr142 zr143 zr144 zr145 zr146 zr147 zr148 zr149 zr150 zr151 zr152 zr153 zr154 zr155 zr156 zr157 zr158 zr159 zr160 zr161 zr162 zr163 zr164 zr165 zr166 zr167 zr168 zr169 zr170 zr171 zr172 zr173 zr174 zr175 zr176 zr177 zr178 zr179 zr180 zr181 zr182 zr183 zr184 zr185 zr186 zr187 zr188 zr189 zr190 zr191 zr192 zr193 zr194 zr195 zr196 zr197 zr198 zr199 zr200 zr201 zr202
    revert zr1 zr2 zr3 zr4 zr5 zr6 zr7 zr8 zr9 zr10 zr11 zr12 zr13 KX0 zr14 zr15 zr16 T0 zr17 zr18 zr19 zr20 zr21 zr22 zr23 zr24 zr25 zr26 zr27 zr28 zr29 zr30 zr31 zr32 zr33 zr34 zr35 zr36 zr37 zr38 zr39 zr40 zr41 zr42 zr43 zr44 zr45 zr46 zr47 zr48 o5 o4 o3 o2 o1 y5 y4 y3 y2 y1 qk ek sla ws zr49 I9 hz9 hL9 ll1 pe zr50 ll2 zr51 oc1 dc1 zr52 xd zqt' zr53 zqtk' zqt2' zqe' hx0 x1 zr54 zr55 Tt Dc Dp cs ps R ks pl kq tq e' cc cp zr56 zr57 hkq1 hkq2 HG hps zr58 zr59 oc2 dc2 zr60 zr61 hplb D h zr62 ys kr tr er vals b1 b2 b3 b4 b5 zr63 oc3 dc3 dn hdn hdn1 hdn2 zr64 zr65 zr66 zr67 zr68 zr69 zr70 zr71 hkl Dk hk tkk ysk hys1 hys2 zr72 hGn hwf gm pa tpa epa RG hA tkA R2 hdn' zr73 zr74 V B hV hV1 hV2 hlaw hcnt hfin hn0 hbm hBne hBlt hBl hrev hal hoth zr75 zr76 zr77 zr78 zr79 zr80 tV zr81 zr82 zr83 tV2 zr84 zr85 epb2 zr86 zr87 zr88 Tb Db bs cb tb hC tkC epc hbs zr89 zr90 zr91 zr92 hcz D9 h9 tk9 ys9 R9 R3 om oa tpo epo RGo hO tkO R4 zr93 zr94 zr95 To Do os co to hC2 tkC2 epo2 zr96 zr97 zr98 zr99 zr100 zr101 zr102 zr103 zr104 zr105 zr106 zr107 zr108 zr109 zr110 zr111 zr112 zr113 zr114 zr115 zr116 zr117 zr118 zr119 zr120 zr121 zr122 zr123 zr124 zr125 zr126 zr127 zr128 zr129 zr130 zr131 zr132 zr133 zr134 zr135 zr136 zr137 zr138 zr139 zr140 zr141 zr142 zr143 zr144 zr145 zr146 zr147 zr148 zr149 zr150 zr151 zr152 zr153 zr154 zr155 zr156 zr157 zr158 zr159 zr160 zr161 zr162 zr163 zr164 zr165 zr166 zr167 zr168 hx2 x tx zr169 zr170 epb hx3 hB9 tkB zqkPh zr171 zr172 zr173 zr174 zr175 zr176 zr177 zr178 D10 h10 tk10 ys10 hys10 v9 zr179 zr180 zr181 zr182 zr183 zr184 zr185 hil hil0 zr186 zr187 xn tn hN tkN ts1 es1 hxn0 hxn1 zr188 zr189 on4 zr190 nd dn4 hnd1 hnd2 hnd3 hp1 D11 h11 tk11 ys11 R11 zr191 zr192 zr193 le zr194 zr195 zr196 R5 hrows5 hys11 hO9 hyl zr197 zr198 Dm zr199 zr200 zr201 zqD' zqh' zql1 zr202 F9 N9 tk
    exact zh.get
local macro_rules | `(tactic| walk_at "none here") => `(tactic| fail)
local macro_rules | `(tactic| walk_at "isTrue IfExp") => `(tactic| refine for_stop ?_)
local macro_rules | `(tactic| walk_at "StF") => `(tactic| exact ⟨_, _, rfl, by with_reducible assumption, by with_reducible assumption⟩)
set_option maxHeartbeats 1000000 in
noncomputable def seg10 : Σ' T : Prop, Hide T → seg9.fst := by
  refine ⟨?zT, ?zf⟩
  case zf =>
    refine fun zh => ?_
    w_top off
    intro _ _ _ _ _ _ _ _ _ _ _ _ _ KX0 _ _ _ T0 _ _ _ _ _ _ _ _ _ _ _ _ _ _ _ _ _ _ _ _ _ _ _ _ _ _ _ _ _ _ _ _ o5 o4 o3 o2 o1 y5 y4 y3 y2 y1 qk ek sla ws _ I9 hz9 hL9 ll1 pe _ ll2 _ oc1 dc1 _ xd zqt' _ zqtk' zqt2' zqe' hx0 x1 _ _ Tt Dc Dp cs ps R ks pl kq tq e' cc cp _ _ hkq1 hkq2 HG hps _ _ oc2 dc2 _ _ hplb D h _ ys kr tr er vals b1 b2 b3 b4 b5 _ oc3 dc3 dn hdn hdn1 hdn2 _ _ _ _ _ _ _ _ hkl Dk hk tkk ysk hys1 hys2 _ hGn hwf gm pa tpa epa RG hA tkA R2 hdn' _ _ V B hV hV1 hV2 hlaw hcnt hfin hn0 hbm hBne hBlt hBl hrev hal hoth _ _ _ _ _ _ tV _ _ _ tV2 _ _ epb2 _ _ _ Tb Db bs cb tb hC tkC epc hbs _ _ _ _ hcz D9 h9 tk9 ys9 R9 R3 om oa tpo epo RGo hO tkO R4 _ _ _ To Do os co to hC2 tkC2 epo2 _ _ _ _ _ _ _ _ _ _ _ _ _ _ _ _ _ _ _ _ _ _ _ _ _ _ _ _ _ _ _ _ _ _ _ _ _ _ _ _ _ _ _ _ _ _ _ _ _ _ _ _ _ _ _ _ _ _ _ _ _ _ _ _ _ _ _ _ _ _ _ _ _ hx2 x tx _ _ epb hx3 hB9 tkB zqkPh _ _ _ _ _ _ _ _ D10 h10 tk10 ys10 hys10 v9 _ _ _ _ _ _ _ hil hil0 _ _ xn tn hN tkN ts1 es1 hxn0 hxn1 _ _ on4 _ nd dn4 hnd1 hnd2 hnd3 hp1 D11 h11 tk11 ys11 R11 _ _ _ le _ _ _ R5 hrows5 hys11 hO9 hyl _ _ Dm _ _ _ zqD' zqh' zql1 _ F9 N9 tk
    have hy1 : ys.length ≤ 1000 := by rw [b3.length, b4]; omega
    have hy2 : ysk.length ≤ 1000 := by omega
    show wpAny _ _ _ _ _ _
    refine shell_R F9 N9 (by k_asm) (by k_asm) (by k_updF) (by k_mem) (by k_ne) (by decide) I9 (by omega) (by omega) (by omega) (by omega) (by omega) ?_
    clear F9 N9
    intro xa txa hSxa tkSxa tsxa esxa hxa0 hxa1 F9 N9
    k_steps
    (rename Fr _ _ _ _ => F9)
    (rename News _ _ _ _ => N9)
    show wpAny _ _ _ _ _ _
    refine shell_R F9 N9 (by k_asm) (by k_asm) (by k_updF) (by k_mem) (by k_ne) (by decide) I9 (by omega) (by omega) (by omega) (by omega) (by omega) ?_
    clear F9 N9
    intro xb txb hSxb tkSxb tsxb esxb hxb0 hxb1 F9 N9
    k_steps
    (rename Fr _ _ _ _ => F9)
    (rename News _ _ _ _ => N9)
    show wpAny _ _ _ _ _ _
    refine game_use (G := gameOf (pl.length + 1) (moreK ks nd pl.length) (vals ++ [xa - 9]) (chk2 ks vals pl.length (xb == 0))) F9 N9 (by k_asm) (by k_asm) (by decide) (rows_more N9 hys11 (by k_mem) (by k_mem) (by (repeat' (first | (with_reducible exact fun _ hp => hp) | (refine sub_tl ?_))))) (ints_more N9 b3 b4 (by k_mem)) (bools_more N9 hys1 hys2 (by k_mem)) (by show pl.length + 1 ≤ 1000; omega) (more_wf HG hnd3) ?_
    clear F9 N9
    intro gm2 pa2 tp2 ep2 hG2 tkG2 F9 N9 hne2 GA2 _
    obtain ⟨y, hy⟩ : ∃ y, pl[nd]? = some y := ⟨_, List.getElem?_eq_getElem hnd2⟩
    have hmf := more_facts (dn := dn) (k := xa - 9) (b := xb == 0) HG hnd3 hy b4
    rw [hV] at hmf
    k_steps
    show wpAny _ _ _ _ _ _
    refine neg_now (d := dn + 1) F9 N9 hne2 (by k_asm) (by k_asm) GA2 (room_le (by omega) (by decide) (by decide)) (by show 0 < pl.length + 1; omega) (by show 0 + _ ≤ _; omega) (by show pl.length + 1 ≤ 1000; omega) (more_wf HG hnd3) hdn' ?_
    clear F9 N9 GA2
    (generalize negaV (gameOf (pl.length + 1) _ _ _) (dn + 1) 0 0 = V2 at hmf ⊢)
    intro tV2 hG3 tkG3 ep3 F9 N9
    have hmf2 := side_le hy hmf
    k_steps
    (rename Fr _ _ _ _ => F9)
    (rename News _ _ _ _ => N9)
    show wpAny _ _ _ _ _ _
    refine cut' false F9 N9 ?_ ?_
    · refine isTrue_IfExp ?_
      k_steps
      all_goals (refine decide_eq_false ?_; first | (have := hmf2.1 (by assumption); omega) | (have := hmf2.2 (by assumption); omega))
    clear F9 N9
    intro hC9 tkC9 F9 N9
    have hpz2 : (ZL pl).length = pl.length := by simp [ZL]
    k_steps
    (rename Fr _ _ _ _ => F9)
    (rename News _ _ _ _ => N9)
    rename_i zr1 zr2 zr3 zr4 zr5 zr6 zr7 zr8 zr9 zr10 zr11 zr12 zr13 zr14 zr15 zr16 zr17 zr18 zr19 zr20 zr21 zr22 zr23 zr24 zr25 zr26 zr27 zr28 zr29 zr30 zr31 zr32 zr33 zr34 zr35 zr36 zr37 zr38 zr39 zr40 zr41 zr42 zr43 zr44 zr45 zr46 zr47 zr48 zr49 zr50 zr51 zr52 zr53 zr54 zr55 zr56 zr57 zr58 zr59 zr60 zr61 zr62 zr63 zr64 zr65 zr66 zr67 zr68 zr69 zr70 zr71 zr72 zr73 zr74 zr75 zr76 zr77 zr78 zr79 zr80 zr81 zr82 zr83 zr84 zr85 zr86 zr87 zr88 zr89 zr90 zr91 zr92 zr93 zr94 zr95 zr96 zr97 zr98 zr99 zr100 zr101 zr102 zr103 zr104 zr105 zr106 zr107 zr108 zr109 zr110 zr111 zr112 zr113 zr114 zr115 zr116 zr117 zr118 zr119 zr120 zr121 zr122 zr123 zr124 zr125 zr126 zr127 zr128 zr129 zr130 zr131 zr132 zr133 zr134 zr135 zr136 zr137 zr138 zr139 zr140 zr141 zr142 zr143 zr144 zr145 zr146 zr147 zr148 zr149 zr150 zr151 zr152 zr153 zr154 zr155 zr156 zr157 zr158 zr159 zr160 zr161 zr162 zr163 zr164 zr165 zr166 zr167 zr168 zr169 zr170 zr171 zr172 zr173 zr174 zr175 zr176 zr177 zr178 zr179 zr180 zr181 zr182 zr183 zr184 zr185 zr186 zr187 zr188 zr189 zr190 zr191 zr192 zr193 zr194 zr195 zr196 zr197 zr198 zr199 zr200 zr201 zr202 zr203 zr204 zr205 zr206 zr207 zr208 zr209 zr210 zr211 zr212 zr213 zr214 zr215 zr216 zr217 zr218 zr219 zr220
    revert zr1 zr2 zr3 zr4 zr5 zr6 zr7 zr8 zr9 zr10 zr11 zr12 zr13 KX0 zr14 zr15 zr16 T0 zr17 zr18 zr19 zr20 zr21 zr22 zr23 zr24 zr25 zr26 zr27 zr28 zr29 zr30 zr31 zr32 zr33 zr34 zr35 zr36 zr37 zr38 zr39 zr40 zr41 zr42 zr43 zr44 zr45 zr46 zr47 zr48 o5 o4 o3 o2 o1 y5 y4 y3 y2 y1 qk ek sla ws zr49 I9 hz9 hL9 ll1 pe zr50 ll2 zr51 oc1 dc1 zr52 xd zqt' zr53 zqtk' zqt2' zqe' hx0 x1 zr54 zr55 Tt Dc Dp cs ps R ks pl kq tq e' cc cp zr56 zr57 hkq1 hkq2 HG hps zr58 zr59 oc2 dc2 zr60 zr61 hplb D h zr62 ys kr tr er vals b1 b2 b3 b4 b5 zr63 oc3 dc3 dn hdn hdn1 hdn2 zr64 zr65 zr66 zr67 zr68 zr69 zr70 zr71 hkl Dk hk tkk ysk hys1 hys2 zr72 hGn hwf gm pa tpa epa RG hA tkA R2 hdn' zr73 zr74 V B hV hV1 hV2 hlaw hcnt hfin hn0 hbm hBne hBlt hBl hrev hal hoth zr75 zr76 zr77 zr78 zr79 zr80 tV zr81 zr82 zr83 zr84 zr85 zr86 epb2 zr87 zr88 zr89 Tb Db bs cb tb hC tkC epc hbs zr90 zr91 zr92 zr93 hcz D9 h9 tk9 ys9 R9 R3 om oa tpo epo RGo hO tkO R4 zr94 zr95 zr96 To Do os co to hC2 tkC2 epo2 zr97 zr98 zr99 zr100 zr101 zr102 zr103 zr104 zr105 zr106 zr107 zr108 zr109 zr110 zr111 zr112 zr113 zr114 zr115 zr116 zr117 zr118 zr119 zr120 zr121 zr122 zr123 zr124 zr125 zr126 zr127 zr128 zr129 zr130 zr131 zr132 zr133 zr134 zr135 zr136 zr137 zr138 zr139 zr140 zr141 zr142 zr143 zr144 zr145 zr146 zr147 zr148 zr149 zr150 zr151 zr152 zr153 zr154 zr155 zr156 zr157 zr158 zr159 zr160 zr161 zr162 zr163 zr164 zr165 zr166 zr167 zr168 zr169 hx2 x tx zr170 zr171 epb hx3 hB9 tkB zqkPh zr172 zr173 zr174 zr175 zr176 zr177 zr178 zr179 D10 h10 tk10 ys10 hys10 v9 zr180 zr181 zr182 zr183 zr184 zr185 zr186 hil hil0 zr187 zr188 xn tn hN tkN ts1 es1 hxn0 hxn1 zr189 zr190 on4 zr191 nd dn4 hnd1 hnd2 hnd3 hp1 D11 h11 tk11 ys11 R11 zr192 zr193 zr194 le zr195 zr196 zr197 R5 hrows5 hys11 hO9 hyl zr198 zr199 Dm zr200 zr201 zr202 zr203 zr204 zr205 zr206 zr207 hy1 hy2 xa txa hSxa tkSxa tsxa esxa hxa0 hxa1 zr208 zr209 zr210 zr211 zr212 zr213 xb txb hSxb tkSxb tsxb esxb hxb0 hxb1 zr214 zr215 zr216 zqD' zqh' zql1 gm2 pa2 tp2 ep2 hG2 tkG2 hne2 zr217 y hy V2 hmf tV2 hG3 tkG3 ep3 hmf2 zr218 tk hC9 tkC9 F9 N9 hpz2 zr219 zr220
    exact zh.get
set_option maxHeartbeats 1000000 in
noncomputable def seg11 : Σ' T : Prop, Hide T → seg10.fst := by
  refine ⟨?zT, ?zf⟩
  case zf =>
    refine fun zh => ?_
    w_top off
    intro _ _ _ _ _ _ _ _ _ _ _ _ _ KX0 _ _ _ T0 _ _ _ _ _ _ _ _ _ _ _ _ _ _ _ _ _ _ _ _ _ _ _ _ _ _ _ _ _ _ _ _ o5 o4 o3 o2 o1 y5 y4 y3 y2 y1 qk ek sla ws _ I9 hz9 hL9 ll1 pe _ ll2 _ oc1 dc1 _ xd zqt' _ zqtk' zqt2' zqe' hx0 x1 _ _ Tt Dc Dp cs ps R ks pl kq tq e' cc cp _ _ hkq1 hkq2 HG hps _ _ oc2 dc2 _ _ hplb D h _ ys kr tr er vals b1 b2 b3 b4 b5 _ oc3 dc3 dn hdn hdn1 hdn2 _ _ _ _ _ _ _ _ hkl Dk hk tkk ysk hys1 hys2 _ hGn hwf gm pa tpa epa RG hA tkA R2 hdn' _ _ V B hV hV1 hV2 hlaw hcnt hfin hn0 hbm hBne hBlt hBl hrev hal hoth _ _ _ _ _ _ tV _ _ _ _ _ _ epb2 _ _ _ Tb Db bs cb tb hC tkC epc hbs _ _ _ _ hcz D9 h9 tk9 ys9 R9 R3 om oa tpo epo RGo hO tkO R4 _ _ _ To Do os co to hC2 tkC2 epo2 _ _ _ _ _ _ _ _ _ _ _ _ _ _ _ _ _ _ _ _ _ _ _ _ _ _ _ _ _ _ _ _ _ _ _ _ _ _ _ _ _ _ _ _ _ _ _ _ _ _ _ _ _ _ _ _ _ _ _ _ _ _ _ _ _ _ _ _ _ _ _ _ _ hx2 x tx _ _ epb hx3 hB9 tkB zqkPh _ _ _ _ _ _ _ _ D10 h10 tk10 ys10 hys10 v9 _ _ _ _ _ _ _ hil hil0 _ _ xn tn hN tkN ts1 es1 hxn0 hxn1 _ _ on4 _ nd dn4 hnd1 hnd2 hnd3 hp1 D11 h11 tk11 ys11 R11 _ _ _ le _ _ _ R5 hrows5 hys11 hO9 hyl _ _ Dm _ _ _ _ _ _ _ _ hy1 hy2 xa txa hSxa tkSxa tsxa esxa hxa0 hxa1 _ _ _ _ _ _ xb txb hSxb tkSxb tsxb esxb hxb0 hxb1 _ _ _ zqD' zqh' zql1 gm2 pa2 tp2 ep2 hG2 tkG2 hne2 _ y hy V2 hmf tV2 hG3 tkG3 ep3 hmf2 _ tk hC9 tkC9 F9 N9 hpz2 _ _
    replace N9 : News _ _ _ ((Db, listOf bs.toArray cb) :: (pa, _) :: (pe, _) :: _) := News.sub N9 (by repeat (first | (with_reducible exact fun _ hp => hp) | (refine sub_tl ?_)))
    replace N9 := News.drop2 N9
    have hO10 := off_sub hO9 (fun d hd => .tail _ hd)
    clear hO9
    show wpAny _ _ _ _ _ _
    refine shell_R F9 N9 (by k_asm) (by k_asm) (by k_updF) (by k_mem) (by k_ne) (by decide) I9 (by omega) (by omega) (by omega) (by omega) (by omega) ?_
    clear F9 N9
    intro xe te hE9 tkE tse ese hxe0 hxe1 F9 N9
    have hvl : vals.length ≤ 20 := by omega
    k_steps
    (rename Fr _ _ _ _ => F9)
    (rename News _ _ _ _ => N9)
    show wpAny _ _ _ _ _ _
    (rename _ = Data.cell (some (Value.int xe te)) => dn5)
    rename_i on5
    rename_i zr1 zr2 zr3 zr4 zr5 zr6 zr7 zr8 zr9 zr10 zr11 zr12 zr13 zr14 zr15 zr16 zr17 zr18 zr19 zr20 zr21 zr22 zr23 zr24 zr25 zr26 zr27 zr28 zr29 zr30 zr31 zr32 zr33 zr34 zr35 zr36 zr37 zr38 zr39 zr40 zr41 zr42 zr43 zr44 zr45 zr46 zr47 zr48 zr49 zr50 zr51 zr52 zr53 zr54 zr55 zr56 zr57 zr58 zr59 zr60 zr61 zr62 zr63 zr64 zr65 zr66 zr67 zr68 zr69 zr70 zr71 zr72 zr73 zr74 zr75 zr76 zr77 zr78 zr79 zr80 zr81 zr82 zr83 zr84 zr85 zr86 zr87 zr88 zr89 zr90 zr91 zr92 zr93 zr94 zr95 zr96 zr97 zr98 zr99 zr100 zr101 zr102 zr103 zr104 zr105 zr106 zr107 zr108 zr109 zr110 zr111 zr112 zr113 zr114 zr115 zr116 zr117 zr118 zr119 zr120 zr121 zr122 zr123 zr124 zr125 zr126 zr127 zr128 zr129 zr130 zr131 zr132 zr133 zr134 zr135 zr136 zr137 zr138 zr139 zr140 zr141 zr142 zr143 zr144 zr145 zr146 zr147 zr148 zr149 zr150 zr151 zr152 zr153 zr154 zr155 zr156 zr157 zr158 zr159 zr160 zr161 zr162 zr163 zr164 zr165 zr166 zr167 zr168 zr169 zr170 zr171 zr172 zr173 zr174 zr175 zr176 zr177 zr178 zr179 zr180 zr181 zr182 zr183 zr184 zr185 zr186 zr187 zr188 zr189 zr190 zr191 zr192 zr193 zr194 zr195 zr196 zr197 zr198 zr199 zr200 zr201 zr202 zr203 zr204 zr205 zr206 zr207 zr208 zr209 zr210 zr211 zr212 zr213 zr214 zr215 zr216 zr217 zr218 zr219 zr220 zr221 zr222
    revert zr1 zr2 zr3 zr4 zr5 zr6 zr7 zr8 zr9 zr10 zr11 zr12 zr13 KX0 zr14 zr15 zr16 T0 zr17 zr18 zr19 zr20 zr21 zr22 zr23 zr24 zr25 zr26 zr27 zr28 zr29 zr30 zr31 zr32 zr33 zr34 zr35 zr36 zr37 zr38 zr39 zr40 zr41 zr42 zr43 zr44 zr45 zr46 zr47 zr48 o5 o4 o3 o2 o1 y5 y4 y3 y2 y1 qk ek sla ws zr49 I9 hz9 hL9 ll1 pe zr50 ll2 zr51 oc1 dc1 zr52 xd zqt' zr53 zqtk' zqt2' zqe' hx0 x1 zr54 zr55 Tt Dc Dp cs ps R ks pl kq tq e' cc cp zr56 zr57 hkq1 hkq2 HG hps zr58 zr59 oc2 dc2 zr60 zr61 hplb D h zr62 ys kr tr er vals b1 b2 b3 b4 b5 zr63 oc3 dc3 dn hdn hdn1 hdn2 zr64 zr65 zr66 zr67 zr68 zr69 zr70 zr71 hkl Dk hk tkk ysk hys1 hys2 zr72 hGn hwf gm pa tpa epa RG hA tkA R2 hdn' zr73 zr74 V B hV hV1 hV2 hlaw hcnt hfin hn0 hbm hBne hBlt hBl hrev hal hoth zr75 zr76 zr77 zr78 zr79 zr80 tV zr81 zr82 zr83 zr84 zr85 zr86 epb2 zr87 zr88 zr89 Tb Db bs cb tb hC tkC epc hbs zr90 zr91 zr92 zr93 hcz D9 h9 tk9 ys9 R9 R3 om oa tpo epo RGo hO tkO R4 zr94 zr95 zr96 To Do os co to hC2 tkC2 epo2 zr97 zr98 zr99 zr100 zr101 zr102 zr103 zr104 zr105 zr106 zr107 zr108 zr109 zr110 zr111 zr112 zr113 zr114 zr115 zr116 zr117 zr118 zr119 zr120 zr121 zr122 zr123 zr124 zr125 zr126 zr127 zr128 zr129 zr130 zr131 zr132 zr133 zr134 zr135 zr136 zr137 zr138 zr139 zr140 zr141 zr142 zr143 zr144 zr145 zr146 zr147 zr148 zr149 zr150 zr151 zr152 zr153 zr154 zr155 zr156 zr157 zr158 zr159 zr160 zr161 zr162 zr163 zr164 zr165 zr166 zr167 zr168 zr169 hx2 x tx zr170 zr171 epb hx3 hB9 tkB zqkPh zr172 zr173 zr174 zr175 zr176 zr177 zr178 zr179 D10 h10 tk10 ys10 hys10 v9 zr180 zr181 zr182 zr183 zr184 zr185 zr186 hil hil0 zr187 zr188 xn tn hN tkN ts1 es1 hxn0 hxn1 zr189 zr190 on4 zr191 nd dn4 hnd1 hnd2 hnd3 hp1 D11 h11 tk11 ys11 R11 zr192 zr193 zr194 le zr195 zr196 zr197 R5 hrows5 hys11 hyl zr198 zr199 Dm zr200 zr201 zr202 zr203 zr204 zr205 zr206 zr207 hy1 hy2 xa txa hSxa tkSxa tsxa esxa hxa0 hxa1 zr208 zr209 zr210 zr211 zr212 zr213 xb txb hSxb tkSxb tsxb esxb hxb0 hxb1 zr214 zr215 zr216 zqD' zqh' zql1 gm2 pa2 tp2 ep2 hG2 tkG2 hne2 zr217 y hy V2 hmf tV2 hG3 tkG3 ep3 hmf2 zr218 zr219 hC9 tkC9 hpz2 zr220 zr221 hO10 xe te hE9 tkE tse ese hxe0 hxe1 hvl zr222 on5 F9 N9 dn5 tk
    exact zh.get
set_option maxHeartbeats 1000000 in
noncomputable def seg12 : Σ' T : Prop, Hide T → seg11.fst := by
  refine ⟨?zT, ?zf⟩
  case zf =>
    refine fun zh => ?_
    w_top off
    intro _ _ _ _ _ _ _ _ _ _ _ _ _ KX0 _ _ _ T0 _ _ _ _ _ _ _ _ _ _ _ _ _ _ _ _ _ _ _ _ _ _ _ _ _ _ _ _ _ _ _ _ o5 o4 o3 o2 o1 y5 y4 y3 y2 y1 qk ek sla ws _ I9 hz9 hL9 ll1 pe _ ll2 _ oc1 dc1 _ xd zqt' _ zqtk' zqt2' zqe' hx0 x1 _ _ Tt Dc Dp cs ps R ks pl kq tq e' cc cp _ _ hkq1 hkq2 HG hps _ _ oc2 dc2 _ _ hplb D h _ ys kr tr er vals b1 b2 b3 b4 b5 _ oc3 dc3 dn hdn hdn1 hdn2 _ _ _ _ _ _ _ _ hkl Dk hk tkk ysk hys1 hys2 _ hGn hwf gm pa tpa epa RG hA tkA R2 hdn' _ _ V B hV hV1 hV2 hlaw hcnt hfin hn0 hbm hBne hBlt hBl hrev hal hoth _ _ _ _ _ _ tV _ _ _ _ _ _ epb2 _ _ _ Tb Db bs cb tb hC tkC epc hbs _ _ _ _ hcz D9 h9 tk9 ys9 R9 R3 om oa tpo epo RGo hO tkO R4 _ _ _ To Do os co to hC2 tkC2 epo2 _ _ _ _ _ _ _ _ _ _ _ _ _ _ _ _ _ _ _ _ _ _ _ _ _ _ _ _ _ _ _ _ _ _ _ _ _ _ _ _ _ _ _ _ _ _ _ _ _ _ _ _ _ _ _ _ _ _ _ _ _ _ _ _ _ _ _ _ _ _ _ _ _ hx2 x tx _ _ epb hx3 hB9 tkB zqkPh _ _ _ _ _ _ _ _ D10 h10 tk10 ys10 hys10 v9 _ _ _ _ _ _ _ hil hil0 _ _ xn tn hN tkN ts1 es1 hxn0 hxn1 _ _ on4 _ nd dn4 hnd1 hnd2 hnd3 hp1 D11 h11 tk11 ys11 R11 _ _ _ le _ _ _ R5 hrows5 hys11 hyl _ _ Dm _ _ _ _ _ _ _ _ hy1 hy2 xa txa hSxa tkSxa tsxa esxa hxa0 hxa1 _ _ _ _ _ _ xb txb hSxb tkSxb tsxb esxb hxb0 hxb1 _ _ _ zqD' zqh' zql1 gm2 pa2 tp2 ep2 hG2 tkG2 hne2 _ y hy V2 hmf tV2 hG3 tkG3 ep3 hmf2 _ _ hC9 tkC9 hpz2 _ _ hO10 xe te hE9 tkE tse ese hxe0 hxe1 hvl _ on5 F9 N9 dn5 tk
    refine comp_assign (by with_unfolding_all rfl) (by with_unfolding_all rfl) rfl (by decide) (by intro _; with_unfolding_all rfl) ?_
    k_steps
    (rename IsRange _ _ _ _ _ _ _ _ => Rg)
    (rename Fr _ _ _ _ => F9)
    (rename News _ _ _ _ => N9)
    have cc1 := (N9 (_, oc1) (by k_mem)).1
    have cc3 := (N9 (_, oc3) (by k_mem)).1
    have cc5 := (N9 (_, on5) (by k_mem)).1
    have dvl := (N9 (D, _) (by k_mem)).1
    have dsl := (N9 (sla, _) (by k_mem)).1
    refine compSt_rangePA (y := Str.ofString "raised") rfl rfl rfl (fun i ys' mu R' => R' = [] ∧ ∃ kr' tr' er' vals3, mu = [(pe, listOf (List.toArray [.ref sla, .int kr' tr']) er')] ∧ 0 ≤ kr' ∧ kr' ≤ kr + 4 + i ∧ IntsAre ys' vals3 ∧ vals3.length = i ∧ ∀ j, j < i → (j ≠ xe.toNat → vals3.getD j 0 = vals.getD j 0) ∧ vals.getD j 0 ≤ vals3.getD j 0) rfl F9 N9 ?_ Rg (small_one (by omega) (by omega) (by omega) (by omega)) (rangeSize_nat _ _) (by rw [sizeLine_eq]; omega) ?_ ?_ (by decide) rfl rfl ?_ ?_
    · k_all
    · rintro i ys' mu R' ⟨rfl, kr', tr', er', vals3, rfl, b1', b2', b3', b4', b5'⟩
      rw [b3'.length, b4']; exact Nat.le_refl _
    · exact ⟨rfl, _, _, _, [], rfl, by omega, by omega, .nil, rfl, by simp⟩
    · refine turn_plain ?_
      rintro g2 C i v9 ys2 mu R' h tk mr hg hi ⟨t9, rfl⟩ ⟨rfl, kr', tr', er', vals3, rfl, b1', b2', b3', b4', b5'⟩ F2 N2
      have hi2 : i < pl.length := by omega
      have X2 := KX0.keeps (fun b o e => hg b o (F9.keep b o e) (by rw [List.mem_singleton]; rintro rfl; rw [(N9 _ (.head _)).2.2] at e; cases e) : _)
      have T2 := T0.keeps (fun b o e => hg b o (F9.keep b o e) (by rw [List.mem_singleton]; rintro rfl; rw [(N9 _ (.head _)).2.2] at e; cases e) : _)
      replace cc1 := hg _ _ cc1 (by rw [List.mem_singleton]; k_ne)
      replace cc3 := hg _ _ cc3 (by rw [List.mem_singleton]; k_ne)
      replace cc5 := hg _ _ cc5 (by rw [List.mem_singleton]; k_ne)
      have l1 : g2.IsList sla ws.toArray := ⟨_, hg _ _ dsl (by rw [List.mem_singleton]; k_ne), rfl, _, rfl⟩
      obtain ⟨va, va1, va2, va3⟩ := intsL_at b3 (hg _ _ dvl (by rw [List.mem_singleton]; k_ne))
      obtain ⟨tv, va4⟩ := va3 i (by omega)
      clear F9 N9 Rg
      simp only [List.nil_append] at N2
      k_steps
      (rename Fr _ _ _ _ => F7)
      show wpAny _ _ _ _ _ _
      refine shell_use F7 N2 (by k_asm) (by k_asm) (by k_updF) (by decide) l1 I9 (by omega) (by omega) (by omega) (by omega) (by omega) ?_
      clear F7 N2
      intro xr tr9 hR9 tkR tsr esr hxr0 hxr1 F2 N2
      k_steps
      (rename Fr _ _ _ _ => F7)
      (rename News _ _ _ _ => N7)
      exact ⟨_, _, _, [(pe, _)], [], rfl, F7, N7, rfl, rfl, _, _, _, vals3 ++ [_], rfl, by omega, by omega, ints_snoc b3', by simp [b4'], raise_snoc b4' b5' (raise_one hxr0 hxe0)⟩
    rintro D13 h13 tk13 ys13 mu R' ⟨rfl, kr', tr', er', vals3, rfl, b1', b2', b3', b4', b5'⟩ F8 cd9 v9
    rw [show (((vals.length : Int) - 0).toNat) = pl.length by omega] at b4' b5'
    have N8 := cd9.news
    simp only [List.nil_append, List.singleton_append] at N8
    try dsimp only [envOfC] at F8 N8
    simp only [lst_eq] at N8
    clear F9 N9 cd9 Rg cc1 cc3 cc5 dvl dsl
    k_steps
    (rename Fr _ _ _ _ => F9)
    (rename News _ _ _ _ => N9)
    show wpAny _ _ _ _ _ _
    rename_i zr1 zr2 zr3 zr4 zr5 zr6 zr7 zr8 zr9 zr10 zr11 zr12 zr13 zr14 zr15 zr16 zr17 zr18 zr19 zr20 zr21 zr22 zr23 zr24 zr25 zr26 zr27 zr28 zr29 zr30 zr31 zr32 zr33 zr34 zr35 zr36 zr37 zr38 zr39 zr40 zr41 zr42 zr43 zr44 zr45 zr46 zr47 zr48 zr49 zr50 zr51 zr52 zr53 zr54 zr55 zr56 zr57 zr58 zr59 zr60 zr61 zr62 zr63 zr64 zr65 zr66 zr67 zr68 zr69 zr70 zr71 zr72 zr73 zr74 zr75 zr76 zr77 zr78 zr79 zr80 zr81 zr82 zr83 zr84 zr85 zr86 zr87 zr88 zr89 zr90 zr91 zr92 zr93 zr94 zr95 zr96 zr97 zr98 zr99 zr100 zr101 zr102 zr103 zr104 zr105 zr106 zr107 zr108 zr109 zr110 zr111 zr112 zr113 zr114 zr115 zr116 zr117 zr118 zr119 zr120 zr121 zr122 zr123 zr124 zr125 zr126 zr127 zr128 zr129 zr130 zr131 zr132 zr133 zr134 zr135 zr136 zr137 zr138 zr139 zr140 zr141 zr142 zr143 zr144 zr145 zr146 zr147 zr148 zr149 zr150 zr151 zr152 zr153 zr154 zr155 zr156 zr157 zr158 zr159 zr160 zr161 zr162 zr163 zr164 zr165 zr166 zr167 zr168 zr169 zr170 zr171 zr172 zr173 zr174 zr175 zr176 zr177 zr178 zr179 zr180 zr181 zr182 zr183 zr184 zr185 zr186 zr187 zr188 zr189 zr190 zr191 zr192 zr193 zr194 zr195 zr196 zr197 zr198 zr199 zr200 zr201 zr202 zr203 zr204 zr205 zr206 zr207 zr208 zr209 zr210 zr211 zr212 zr213 zr214 zr215 zr216 zr217 zr218 zr219 zr220 zr221 zr222 zr223 zr224 zr225 zr226 zr227 zr228 zr229 zr230 zr231 zr232 zr233
    revert zr1 zr2 zr3 zr4 zr5 zr6 zr7 zr8 zr9 zr10 zr11 zr12 zr13 KX0 zr14 zr15 zr16 T0 zr17 zr18 zr19 zr20 zr21 zr22 zr23 zr24 zr25 zr26 zr27 zr28 zr29 zr30 zr31 zr32 zr33 zr34 zr35 zr36 zr37 zr38 zr39 zr40 zr41 zr42 zr43 zr44 zr45 zr46 zr47 zr48 o5 o4 o3 o2 o1 y5 y4 y3 y2 y1 qk ek sla ws zr49 I9 hz9 hL9 ll1 pe zr50 ll2 zr51 oc1 dc1 zr52 xd zqt' zr53 zqtk' zqt2' zqe' hx0 x1 zr54 zr55 Tt Dc Dp cs ps R ks pl kq tq e' cc cp zr56 zr57 hkq1 hkq2 HG hps zr58 zr59 oc2 dc2 zr60 zr61 hplb D h zr62 ys kr tr er vals b1 b2 b3 b4 b5 zr63 oc3 dc3 dn hdn hdn1 hdn2 zr64 zr65 zr66 zr67 zr68 zr69 zr70 zr71 hkl Dk hk tkk ysk hys1 hys2 zr72 hGn hwf gm pa tpa epa RG hA tkA R2 hdn' zr73 zr74 V B hV hV1 hV2 hlaw hcnt hfin hn0 hbm hBne hBlt hBl hrev hal hoth zr75 zr76 zr77 zr78 zr79 zr80 tV zr81 zr82 zr83 zr84 zr85 zr86 epb2 zr87 zr88 zr89 Tb Db bs cb tb hC tkC epc hbs zr90 zr91 zr92 zr93 hcz D9 h9 tk9 ys9 R9 R3 om oa tpo epo RGo hO tkO R4 zr94 zr95 zr96 To Do os co to hC2 tkC2 epo2 zr97 zr98 zr99 zr100 zr101 zr102 zr103 zr104 zr105 zr106 zr107 zr108 zr109 zr110 zr111 zr112 zr113 zr114 zr115 zr116 zr117 zr118 zr119 zr120 zr121 zr122 zr123 zr124 zr125 zr126 zr127 zr128 zr129 zr130 zr131 zr132 zr133 zr134 zr135 zr136 zr137 zr138 zr139 zr140 zr141 zr142 zr143 zr144 zr145 zr146 zr147 zr148 zr149 zr150 zr151 zr152 zr153 zr154 zr155 zr156 zr157 zr158 zr159 zr160 zr161 zr162 zr163 zr164 zr165 zr166 zr167 zr168 zr169 hx2 x tx zr170 zr171 epb hx3 hB9 tkB zqkPh zr172 zr173 zr174 zr175 zr176 zr177 zr178 zr179 D10 h10 tk10 ys10 hys10 zr180 zr181 zr182 zr183 zr184 zr185 zr186 zr187 hil hil0 zr188 zr189 xn tn hN tkN ts1 es1 hxn0 hxn1 zr190 zr191 on4 zr192 nd dn4 hnd1 hnd2 hnd3 hp1 D11 h11 tk11 ys11 R11 zr193 zr194 zr195 le zr196 zr197 zr198 R5 hrows5 hys11 hyl zr199 zr200 Dm zr201 zr202 zr203 zr204 zr205 zr206 zr207 zr208 hy1 hy2 xa txa hSxa tkSxa tsxa esxa hxa0 hxa1 zr209 zr210 zr211 zr212 zr213 zr214 xb txb hSxb tkSxb tsxb esxb hxb0 hxb1 zr215 zr216 zr217 zqD' zqh' zql1 gm2 pa2 tp2 ep2 hG2 tkG2 hne2 zr218 y hy V2 hmf tV2 hG3 tkG3 ep3 hmf2 zr219 zr220 hC9 tkC9 hpz2 zr221 zr222 hO10 xe te hE9 tkE tse ese hxe0 hxe1 hvl zr223 on5 zr224 zr225 dn5 tk zr226 zr227 zr228 zr229 zr230 zr231 zr232 zr233 D13 h13 tk13 ys13 kr' tr' er' vals3 b1' b2' b3' b4' b5' F9 v9 N9
    exact zh.get
set_option maxHeartbeats 1000000 in
theorem seg13 : seg12.fst := by
    intro _ _ _ _ _ _ _ _ _ _ _ _ _ KX0 _ _ _ T0 _ _ _ _ _ _ _ _ _ _ _ _ _ _ _ _ _ _ _ _ _ _ _ _ _ _ _ _ _ _ _ _ o5 o4 o3 o2 o1 y5 y4 y3 y2 y1 qk ek sla ws _ I9 hz9 hL9 ll1 pe _ ll2 _ oc1 dc1 _ xd zqt' _ zqtk' zqt2' zqe' hx0 x1 _ _ Tt Dc Dp cs ps R ks pl kq tq e' cc cp _ _ hkq1 hkq2 HG hps _ _ oc2 dc2 _ _ hplb D h _ ys kr tr er vals b1 b2 b3 b4 b5 _ oc3 dc3 dn hdn hdn1 hdn2 _ _ _ _ _ _ _ _ hkl Dk hk tkk ysk hys1 hys2 _ hGn hwf gm pa tpa epa RG hA tkA R2 hdn' _ _ V B hV hV1 hV2 hlaw hcnt hfin hn0 hbm hBne hBlt hBl hrev hal hoth _ _ _ _ _ _ tV _ _ _ _ _ _ epb2 _ _ _ Tb Db bs cb tb hC tkC epc hbs _ _ _ _ hcz D9 h9 tk9 ys9 R9 R3 om oa tpo epo RGo hO tkO R4 _ _ _ To Do os co to hC2 tkC2 epo2 _ _ _ _ _ _ _ _ _ _ _ _ _ _ _ _ _ _ _ _ _ _ _ _ _ _ _ _ _ _ _ _ _ _ _ _ _ _ _ _ _ _ _ _ _ _ _ _ _ _ _ _ _ _ _ _ _ _ _ _ _ _ _ _ _ _ _ _ _ _ _ _ _ hx2 x tx _ _ epb hx3 hB9 tkB zqkPh _ _ _ _ _ _ _ _ D10 h10 tk10 ys10 hys10 _ _ _ _ _ _ _ _ hil hil0 _ _ xn tn hN tkN ts1 es1 hxn0 hxn1 _ _ on4 _ nd dn4 hnd1 hnd2 hnd3 hp1 D11 h11 tk11 ys11 R11 _ _ _ le _ _ _ R5 hrows5 hys11 hyl _ _ Dm _ _ _ _ _ _ _ _ hy1 hy2 xa txa hSxa tkSxa tsxa esxa hxa0 hxa1 _ _ _ _ _ _ xb txb hSxb tkSxb tsxb esxb hxb0 hxb1 _ _ _ zqD' zqh' zql1 gm2 pa2 tp2 ep2 hG2 tkG2 hne2 _ y hy V2 hmf tV2 hG3 tkG3 ep3 hmf2 _ _ hC9 tkC9 hpz2 _ _ hO10 xe te hE9 tkE tse ese hxe0 hxe1 hvl _ on5 _ _ dn5 tk _ _ _ _ _ _ _ _ D13 h13 tk13 ys13 kr' tr' er' vals3 b1' b2' b3' b4' b5' F9 v9 N9
    have hwf3 : (gameOf pl.length ks vals3 (chkF ks vals)).WF := HG.wf fun i _ h => chkF_row h
    refine game_use (G := gameOf pl.length ks vals3 (chkF ks vals)) F9 N9 (by k_asm) (by k_asm) (by decide) (rows_N N9 hrows5 hkl (by k_mem) (by (repeat' (first | (with_reducible exact fun _ hp => hp) | (refine sub_tl ?_))))) (ints_N N9 b3' b4' (by k_mem)) (bools_N N9 hys1 hys2 (by k_mem)) hGn hwf3 ?_
    clear F9 N9
    intro gm3 pa3 tp3 ep3 hG4 tkG4 F9 N9 hne3 GA3 _
    obtain ⟨ye, hye⟩ : ∃ ye, pl[xe.toNat]? = some ye := ⟨_, List.getElem?_eq_getElem (by omega)⟩
    have hrf := raised_facts (dn := dn) (vals := vals) HG hye b5'
    rw [hV] at hrf
    k_steps
    show wpAny _ _ _ _ _ _
    refine neg_now (d := dn + 1) F9 N9 hne3 (by k_asm) (by k_asm) GA3 (room_le (by omega) (by decide) (by decide)) hn0 (by show 0 + _ ≤ _; omega) hGn hwf3 hdn' ?_
    clear F9 N9 GA3
    (generalize negaV (gameOf pl.length ks vals3 _) (dn + 1) 0 0 = V3 at hrf ⊢)
    intro tV3 hG5 tkG5 ep4 F9 N9
    have hrf2 := side_le' hxe0 hye hrf
    clear hmf hmf2 hrf
    k_steps
end
theorem cw : PySem.Challenge.rw_tg0016_01.Holds := seg1.snd ⟨seg2.snd ⟨seg3.snd ⟨seg4.snd ⟨seg5.snd ⟨seg6.snd ⟨seg7.snd ⟨seg8.snd ⟨seg9.snd ⟨seg10.snd ⟨seg11.snd ⟨seg12.snd ⟨seg13⟩⟩⟩⟩⟩⟩⟩⟩⟩⟩⟩⟩
end Mine
end
theorem PySem.Challenge.cw_tg0016_01_holds : PySem.Challenge.rw_tg0016_01.Holds :=
  Mine.cw
