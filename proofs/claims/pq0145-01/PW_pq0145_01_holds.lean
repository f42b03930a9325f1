import PyProof.Rows.All
import Wide.All
import OpenK.AllK
import Wide.FinOn
import KE.KSuper
import Lean
import PySem.Challenge.RW_pq0145_01
set_option Elab.async false
set_option rowWalk.seconds 0
set_option compiler.extract_closed false
namespace Mine
open PySem PySem.W PyProof.Rows
section
open PySem PySem.W PyProof.Rows
set_option compiler.extract_closed false
set_option maxRecDepth 100000
set_option maxHeartbeats 8000000
noncomputable def q : Program := view PySem.Challenge.pw_pq0145_01 [1,2,3,4,5,6,7,8,9,10,11,12,13,15,16,17,18,19,20,21,22,23,24,25,26,28,29,30,31,32,33,34,35,36,37,38,39,40,42,44,45,46,47,48,49,50,51,52,53,54,56,58,59,60,61]
theorem pre : importsNone PySem.Challenge.pw_pq0145_01 = true := by decide +kernel
theorem said : PySem.Challenge.rw_pq0145_01.wellSaid = true := by
  rw [Fast.te9446332074065402090]
  kernel_rfl
noncomputable def goT (ok : Thread → Bool) (st : SharedT → Thread → Option (SharedT × Thread)) : Nat → SharedT → Thread → Option SharedT
  | 0, _, _ => none
  | n + 1, s, t => match through t with
    | true => some s
    | false => match ok t with
      | false => none
      | true => match st s t with
        | some (s', t') => goT ok st n s' t'
        | none => none
theorem goT_of {p : Program} {w : World} {n₀ : Nat} {ann : Option Value} : ∀ {n : Nat} {s s' : SharedT} {t : Thread}, goT (stepOk n₀ ann) (stepT (denote treeTable) p w) n s t = some s' → topRun treeTable p w n₀ ann n s.abs t = some s'.abs
  | 0, _, _, _, h => by cases h
  | n + 1, s, s', t, h => by
    unfold goT at h
    unfold topRun
    cases e : through t with
    | true => rw [e] at h; cases h; rfl
    | false =>
      rw [e] at h
      cases k : stepOk n₀ ann t with
      | false => rw [k] at h; cases h
      | true =>
        rw [k] at h
        cases m : stepT (denote treeTable) p w s t with
        | none => rw [m] at h; cases h
        | some r => obtain ⟨s₂, t₂⟩ := r; rw [m] at h; dsimp only; rw [stepT_spec m]; exact goT_of h
noncomputable def tr0 (p : Params) : BT := ((((((((((BT.nil.ins 0 (boot_o_0 p)).ins 1 (boot_o_1 p)).ins 2 (boot_o_2 p)).ins 3 (boot_o_3 p)).ins 4 (boot_o_4 p)).ins 5 (boot_o_5 p)).ins 6 (boot_o_6 p)).ins 7 (boot_o_7 p)).ins 8 (boot_o_8 p)).ins 9 (boot_o_9 p)).ins 10 (boot_o_10 p)
noncomputable def s0 (w : World) (os : OsState) : SharedT := ⟨tr0 w.params, 11, (boot_heap w.params).life, Array.mk [], boot_drawn, boot_toks, os⟩
theorem s0_abs (w : World) (os : OsState) : (s0 w os).abs = ⟨boot_heap w.params, Array.mk [], boot_drawn, boot_toks, os⟩ := by kernel_rfl
theorem ann0 (w : World) : ((boot_heap w.params).isNs mainGlobals && (Array.mk ([] : List GenState)).size == 0, (boot_heap w.params).objs.size, (boot_heap w.params).nsMap mainGlobals "__annotations__") = (true, 11, some (Value.ref 6)) := by kernel_rfl
theorem left {p q : Program} {loose : List Str} {Xt : Shared → Bool} {α : Type} {Yf : Shared → α} {Ya : World → α} {N : Nat} (hN : Nat.ble 600 N = true) (e : opening p = plainProg p.main.scope.names) (f : ∀ s, fenceModules? p s = some s)
    (h1 : ∀ w os, (goT (stepOk 11 (some (Value.ref 6))) (stepT (denote treeTable) p w) N (s0 w os) (topStub p)).map (fun s => (fun s : Shared => (staticsOk (importedModules p.main.body) (boot_heap w.params) s.heap && namesBound p s.heap && gensDone s && laidKept (boot_heap w.params) s.heap, seen ((recsOf q).map (·.name)) (ownsOf q) [] { s with gens := #[] })) s.abs) = some (true, expectedOf q))
    (h2 : ∀ w os, (goT (stepOk 11 (some (Value.ref 6))) (stepT (denote treeTable) p w) N (s0 w os) (topStub p)).map (fun s => (fun s : Shared => (s.heap.bltView, s.heap.keysOk (looseW q loose) ((recsOf q).map (·.name)) ((litsOf q).map (·.1)) ((clssOf q (looseW q loose)).map (·.name)) && s.heap.accountedOkI (importedModules p.main.body) && s.heap.isNs mainGlobals && s.heap.isNs builtinsNs && tablesOk q s.heap && Xt s && s.gens.size == 0, tabsOk q s)) s.abs) = some (bltViewBooted, true, true))
    (h3 : ∀ w os, (goT (stepOk 11 (some (Value.ref 6))) (stepT (denote treeTable) p w) N (s0 w os) (topStub p)).map (fun s => (fun s : Shared => (pinSeenD q (drecsOf q) s, plainSeenE q (looseW q loose) s, plainSeenD q loose s, wideSeen q s, clsSeenW q loose s)) s.abs) = some (pinGoodD (drecsOf q), plainGoodE q (looseW q loose), plainGoodD q loose, wideGood q, clsGoodW q loose))
    (h4 : ∀ w os, (goT (stepOk 11 (some (Value.ref 6))) (stepT (denote treeTable) p w) N (s0 w os) (topStub p)).map (fun s => Yf s.abs) = some (Ya w)) : LeftO p q loose Xt Yf Ya N := fun w => by
  obtain ⟨⟨hh, gs, d, k, os⟩, e1, e'⟩ := Option.map_eq_some_iff.mp (boot_open e hN f w)
  obtain ⟨rfl, rfl, rfl, rfl⟩ : hh = boot_heap w.params ∧ gs = Array.mk [] ∧ d = boot_drawn ∧ k = boot_toks := by simpa using e'
  obtain ⟨z1, z2, z3⟩ : _ ∧ _ ∧ _ := by simpa only [Prod.mk.injEq] using ann0 w
  obtain ⟨s', r, l⟩ := Option.map_eq_some_iff.mp (h1 w os)
  have y := h2 w os
  have x := h3 w os
  have x6 := h4 w os
  rw [r] at x y x6
  have y := Option.some.inj y
  have x := Option.some.inj x
  have x6 := Option.some.inj x6
  dsimp only at l x y
  obtain ⟨l1, l2⟩ := Prod.mk.inj l
  obtain ⟨y1, y⟩ := Prod.mk.inj y
  obtain ⟨y2, y3⟩ := Prod.mk.inj y
  obtain ⟨x1, x⟩ := Prod.mk.inj x
  obtain ⟨x2, x⟩ := Prod.mk.inj x
  obtain ⟨x3, x⟩ := Prod.mk.inj x
  obtain ⟨x4, x5⟩ := Prod.mk.inj x
  have r := goT_of r
  rw [s0_abs] at r
  have g : openSeen q loose (importedModules p.main.body) Xt true s'.abs = openGood q loose := by
    unfold openSeen openGood
    rw [l2, y1, y3, x1, x2, x3, x4, x5]
    exact congrArg (fun b => (expectedOf q, bltViewBooted, b, true, pinGoodD (drecsOf q), plainGoodE q (looseW q loose), plainGoodD q loose, wideGood q, clsGoodW q loose)) y2
  unfold openEnds
  rw [e1]
  show (topFrom treeTable p w N _).map _ = _
  unfold topFrom
  dsimp only
  rw [z1, z2, z3, r]
  show ((match staticsOk (importedModules p.main.body) (boot_heap w.params) s'.abs.heap && namesBound p s'.abs.heap && gensDone s'.abs && laidKept (boot_heap w.params) s'.abs.heap with | true => some s'.abs | false => none).map _) = _
  rw [l1]
  exact congrArg some (Prod.ext g x6)
open PySem.W.Fast in
theorem core1 (w : World) (os : OsState) : (goT (stepOk 11 (some (Value.ref 6))) (stepT (denote treeTable) (RowW.prog (OpenRow.toRowW (OpenLaw.row PySem.Challenge.rw_pq0145_01))) w) 4588 (s0 w os) (topStub (RowW.prog (OpenRow.toRowW (OpenLaw.row PySem.Challenge.rw_pq0145_01))))).map (fun s => (fun s : Shared => (staticsOk (importedModules (RowW.prog (OpenRow.toRowW (OpenLaw.row PySem.Challenge.rw_pq0145_01))).main.body) (boot_heap w.params) s.heap && namesBound (RowW.prog (OpenRow.toRowW (OpenLaw.row PySem.Challenge.rw_pq0145_01))) s.heap && gensDone s && laidKept (boot_heap w.params) s.heap, seen ((recsOf Mine.q).map (·.name)) (ownsOf Mine.q) [] { s with gens := #[] })) s.abs) = some (true, expectedOf Mine.q) := by
  rw [te6613529449190102663, te10156331382660048174, te11892475500146522536, te14364793385576792824, te5923862056798008813, te5160383126252970620, te5991557255702980513, te3399658132070893891]
  kernel_rfl
open PySem.W.Fast in
theorem core2 (w : World) (os : OsState) : (goT (stepOk 11 (some (Value.ref 6))) (stepT (denote treeTable) (RowW.prog (OpenRow.toRowW (OpenLaw.row PySem.Challenge.rw_pq0145_01))) w) 4588 (s0 w os) (topStub (RowW.prog (OpenRow.toRowW (OpenLaw.row PySem.Challenge.rw_pq0145_01))))).map (fun s => (fun s : Shared => (s.heap.bltView, s.heap.keysOk (looseW Mine.q [PySem.Str.ofString "BasicError"]) ((recsOf Mine.q).map (·.name)) ((litsOf Mine.q).map (·.1)) ((clssOf Mine.q (looseW Mine.q [PySem.Str.ofString "BasicError"])).map (·.name)) && s.heap.accountedOkI (importedModules (RowW.prog (OpenRow.toRowW (OpenLaw.row PySem.Challenge.rw_pq0145_01))).main.body) && s.heap.isNs mainGlobals && s.heap.isNs builtinsNs && tablesOk Mine.q s.heap && (fun s => xlAt Mine.q [] s && recOk (RowW.records (OpenRow.toRowW (OpenLaw.row PySem.Challenge.rw_pq0145_01))) s) s && s.gens.size == 0, tabsOk Mine.q s)) s.abs) = some (bltViewBooted, true, true) := by
  rw [te6613529449190102663, te10156331382660048174, te11892475500146522536, te14364793385576792824, te3399658132070893891, te10880121769531294198, te821141287760084731, te7409074990110511671, te13664370479719496447, te14722251495701143533, te5923862056798008813, te10994771534591457954, te479339242167458305]
  kernel_rfl
open PySem.W.Fast in
theorem core3 (w : World) (os : OsState) : (goT (stepOk 11 (some (Value.ref 6))) (stepT (denote treeTable) (RowW.prog (OpenRow.toRowW (OpenLaw.row PySem.Challenge.rw_pq0145_01))) w) 4588 (s0 w os) (topStub (RowW.prog (OpenRow.toRowW (OpenLaw.row PySem.Challenge.rw_pq0145_01))))).map (fun s => (fun s : Shared => (pinSeenD Mine.q (drecsOf Mine.q) s, plainSeenE Mine.q (looseW Mine.q [PySem.Str.ofString "BasicError"]) s, plainSeenD Mine.q [PySem.Str.ofString "BasicError"] s, wideSeen Mine.q s, clsSeenW Mine.q [PySem.Str.ofString "BasicError"] s)) s.abs) = some (pinGoodD (drecsOf Mine.q), plainGoodE Mine.q (looseW Mine.q [PySem.Str.ofString "BasicError"]), plainGoodD Mine.q [PySem.Str.ofString "BasicError"], wideGood Mine.q, clsGoodW Mine.q [PySem.Str.ofString "BasicError"]) := by
  rw [te6613529449190102663, te10156331382660048174, te11892475500146522536, te14364793385576792824, te16090120013241838585, te3247288618530077131, te2386780881361962483, te821141287760084731, te11698064438423848299, te7317090234206586261, te7369524293546568484]
  kernel_rfl
local macro_rules | `(tactic| o_law) => `(tactic| refine holds_law Mine.said fun _ => ?_)
open PySem.W.Fast in
local macro_rules | `(tactic| o_head $H) => `(tactic| (
  refine holds_open (q := Mine.q) (loose := [PySem.Str.ofString "BasicError"]) (Xt := fun s => xlAt Mine.q [] s && recOk (RowW.records (OpenRow.toRowW (OpenLaw.row PySem.Challenge.rw_pq0145_01))) s) (XP := XL Mine.q []) (Yf := Hook.obs $H) (Ya := Hook.val $H) (YP := Hook.says $H) (N := 4588) ?hl (Hook.of $H) (Hook.keeps $H) (fun s e => xl_of s (Bool.and_eq_true_iff.mp e).1) XL.keeps (by rfl) (by rfl) (by rfl) (fun s e => recFacts_of (Bool.and_eq_true_iff.mp e).2) (by rfl) (by first | assumption | decide +kernel) (by decide +kernel) ⟨rfl, rfl, rfl, rfl, rfl, by decide +kernel⟩ ?hw ?hc
  rotate_left 2
  case hl =>
    refine left (by rfl) (by kernel_rfl) (fun s => by kernel_rfl) core1 core2 core3 ?_
    intro w os
    rw [te6613529449190102663, te10156331382660048174, te11892475500146522536, te14364793385576792824]
    kernel_rfl))
open_top hd for PySem.Challenge.rw_pq0145_01
end
section
open PySem PySem.W PyProof.Rows
set_option maxRecDepth 100000
set_option maxHeartbeats 80000000
/-- the number of figures -/
noncomputable def figs (n : Int) : Int := if n < 10 then 1 else if n < 100 then 2 else if n < 1000 then 3 else if n < 10000 then 4 else if n < 100000 then 5 else if n < 1000000 then 6 else if n < 10000000 then 7 else if n < 100000000 then 8 else 9
noncomputable def figsInv (n m b : Int) : Prop := (m = 1 ∧ b = 10) ∨ (m = 2 ∧ b = 100 ∧ 10 ≤ n) ∨ (m = 3 ∧ b = 1000 ∧ 100 ≤ n) ∨ (m = 4 ∧ b = 10000 ∧ 1000 ≤ n) ∨ (m = 5 ∧ b = 100000 ∧ 10000 ≤ n) ∨ (m = 6 ∧ b = 1000000 ∧ 100000 ≤ n) ∨ (m = 7 ∧ b = 10000000 ∧ 1000000 ≤ n) ∨ (m = 8 ∧ b = 100000000 ∧ 10000000 ≤ n) ∨ (m = 9 ∧ b = 1000000000 ∧ 100000000 ≤ n)
theorem figs_next {n m b : Int} (h : figsInv n m b) (hb : b ≤ n) (hn : n < 1000000000) : figsInv n (m + 1) (b * 10) := by
  unfold figsInv at *
  rcases h with h | h | h | h | h | h | h | h | h
  · obtain ⟨rfl, rfl⟩ := h; exact .inr (.inl ⟨rfl, rfl, hb⟩)
  · obtain ⟨rfl, rfl, _⟩ := h; exact .inr (.inr (.inl ⟨rfl, rfl, hb⟩))
  · obtain ⟨rfl, rfl, _⟩ := h; exact .inr (.inr (.inr (.inl ⟨rfl, rfl, hb⟩)))
  · obtain ⟨rfl, rfl, _⟩ := h; exact .inr (.inr (.inr (.inr (.inl ⟨rfl, rfl, hb⟩))))
  · obtain ⟨rfl, rfl, _⟩ := h; exact .inr (.inr (.inr (.inr (.inr (.inl ⟨rfl, rfl, hb⟩)))))
  · obtain ⟨rfl, rfl, _⟩ := h; exact .inr (.inr (.inr (.inr (.inr (.inr (.inl ⟨rfl, rfl, hb⟩))))))
  · obtain ⟨rfl, rfl, _⟩ := h; exact .inr (.inr (.inr (.inr (.inr (.inr (.inr (.inl ⟨rfl, rfl, hb⟩)))))))
  · obtain ⟨rfl, rfl, _⟩ := h; exact .inr (.inr (.inr (.inr (.inr (.inr (.inr (.inr (⟨rfl, rfl, hb⟩))))))))
  · obtain ⟨rfl, rfl, _⟩ := h; exact absurd hb (by omega)
theorem figs_end {n m b : Int} (h : figsInv n m b) (hb : ¬ b ≤ n) : m = figs n := by
  unfold figsInv at h; unfold figs
  rcases h with h | h | h | h | h | h | h | h | h
  all_goals ((first | obtain ⟨rfl, rfl, h⟩ := h | obtain ⟨rfl, rfl⟩ := h); (repeat' split) <;> omega)
theorem figs_meas {n m b : Int} (h : figsInv n m b) : (12 - (m + 1)).toNat < (12 - m).toNat := by
  unfold figsInv at h
  rcases h with h | h | h | h | h | h | h | h | h
  all_goals (have := h.1; omega)
theorem figs_bd {n m b : Int} (h : figsInv n m b) : 1 ≤ m ∧ m ≤ 9 := by
  unfold figsInv at h
  rcases h with h | h | h | h | h | h | h | h | h
  all_goals (have := h.1; omega)
noncomputable abbrev loose : List Str := looseW q [Str.ofString "BasicError"] ++ List.map (fun x => x.name) (recsOf q) ++ List.map (fun x => x.fst) (litsOf q) ++ List.map (fun x => x.name) (clssOf q (looseW q [Str.ofString "BasicError"]))
inductive Int1 (news : List (Addr × Obj)) : List Value → Int → Prop where
  | mk (n : Int) (tk : Tok) : Int1 news [.int n tk] n
noncomputable abbrev figT : ToldN Int where
  Rel := Int1
  Ok := fun n => 0 ≤ n ∧ n < 1000000000
  size := fun _ => 0
  Tl := fun tl => tl = []
  Out := fun _ r n => ∃ v, (v = figs n ∧ 1 ≤ v ∧ v ≤ 9) ∧ ∃ tk, r = .int v tk

theorem figT_tells (w : World) (mean : ExcName → Option Value) (mg mb : Str → Option Value) : ∀ d, TellsN PySem.Challenge.rw_pq0145_01.row.prog w (hd.heap_1 w.params) topProg loose mean mg mb 51 figT d := by
  w_top off
  k_with_none
  k_fill
  refine tellsN_of fun d IH => ?_
  unfold TellsN
  intro dp un gd cn cs a ccd cl outer A₀ base h₀ L m news s vs Q E B F X N T hk hR hok hd hu hret
  cases hR
  obtain ⟨hok0, hok1⟩ := hok
  ktr_unf
  refine wpAny_call ?_
  k_dflt ktr_enter
  (k_with "state" => first | exact Or.inl ⟨rfl, rfl⟩ | exact figs_next (by assumption) (by assumption) (by assumption))
  (k_with "measure" => exact figs_meas (by assumption))
  (k_with "exec While Compare cons nil" => k_while_given ["number"] (fun number script m b => figsInv number m b) (fun number script m b => (12 - m).toNat) "many" "bound")
  k_steps
  exact hret _ [] _ _ (by k_asm) (by intro p hp; rw [List.append_nil] at hp; exact (by assumption : News h₀ L _ _) p (.tail _ hp)) ktn_ord0 rfl ⟨_, ⟨figs_end (by assumption) (by assumption), figs_bd (by assumption)⟩, _, rfl⟩
end
section
open PySem PySem.W PyProof.Rows
set_option maxRecDepth 100000
set_option maxHeartbeats 80000000

theorem news_sub {h₀ h : Heap} {L : Addr} {l l' : List (Addr × Obj)} (N : News h₀ L h l') (hs : ∀ p ∈ l, p ∈ l') : News h₀ L h l := fun p hp => N p (hs p hp)
inductive Int2 (news : List (Addr × Obj)) : List Value → Int × Int → Prop where
  | mk (n p : Int) (tk tk' : Tok) : Int2 news [.int n tk, .int p tk'] (n, p)
noncomputable def rnd (n p : Int) : Int := if p ≤ 0 then n else if p > figs n + 1 then 0 else
  if 2 * (n % 10 ^ p.toNat) > 10 ^ p.toNat ∨ (2 * (n % 10 ^ p.toNat) = 10 ^ p.toNat ∧ n / 10 ^ p.toNat % 2 = 1) then n / 10 ^ p.toNat + 1 else n / 10 ^ p.toNat
noncomputable abbrev rndT : ToldN (Int × Int) where
  Rel := Int2
  Ok := fun d => 0 ≤ d.1 ∧ d.1 < 1000000000 ∧ 0 ≤ d.2 ∧ d.2 ≤ 4
  size := fun _ => 1
  Tl := fun tl => tl = []
  Out := fun _ r d => ∃ tk, r = .int (rnd d.1 d.2) tk
end
local macro_rules | `(tactic| walk_at "binaryOp FloorDiv int int") => `(tactic| (k_here; (with_reducible refine floordiv_int ?kbe ?_ (Or.inl (PyProof.noPylong_of_log2 ?kbp))); (case kbe => assumption); (case kbp => assumption)))
section
open PySem PySem.W PyProof.Rows
set_option maxRecDepth 100000
set_option maxHeartbeats 80000000
local macro_rules | `(tactic| ktr_rel) => `(tactic| first | assumption | exact Int1.mk _ _ | exact Int2.mk _ _ _ _ | (dsimp only [figT]; exact ⟨by omega, by omega⟩))
local macro_rules | `(tactic| walk_at "binaryOp Mod int int") => `(tactic| (k_here; (with_reducible refine mod_int' ?kbe ?_); (case kbe => assumption)))
theorem rnd_a {n p : Int} (h : p ≤ 0) : n = rnd n p := by unfold rnd; rw [if_pos h]
theorem rnd_b {n p : Int} (h : ¬ p ≤ 0) (h2 : figs n + 1 < p) : 0 = rnd n p := by unfold rnd; rw [if_neg h, if_pos h2]
theorem rnd_c {n p : Int} (h : ¬ p ≤ 0) (h2 : ¬ figs n + 1 < p) (h3 : 10 ^ p.toNat < 2 * n.fmod (10 ^ p.toNat)) : n.fdiv (10 ^ p.toNat) + 1 = rnd n p := by
  have hp : (0 : Int) ≤ 10 ^ p.toNat := Int.le_of_lt (Int.pow_pos (by decide))
  rw [Int.fmod_eq_emod_of_nonneg _ hp] at h3
  unfold rnd; rw [if_neg h, if_neg h2, if_pos (.inl h3), Int.fdiv_eq_ediv_of_nonneg _ hp]
theorem rnd_d {n p : Int} (h : ¬ p ≤ 0) (h2 : ¬ figs n + 1 < p) (h4 : 2 * n.fmod (10 ^ p.toNat) = 10 ^ p.toNat) (h5 : (n.fdiv (10 ^ p.toNat)).fmod 2 = 1) : n.fdiv (10 ^ p.toNat) + 1 = rnd n p := by
  have hp : (0 : Int) ≤ 10 ^ p.toNat := Int.le_of_lt (Int.pow_pos (by decide))
  rw [Int.fmod_eq_emod_of_nonneg _ hp] at h4
  rw [Int.fdiv_eq_ediv_of_nonneg _ hp, Int.fmod_eq_emod_of_nonneg _ (by decide)] at h5
  unfold rnd; rw [if_neg h, if_neg h2, if_pos (.inr ⟨h4, h5⟩), Int.fdiv_eq_ediv_of_nonneg _ hp]
theorem rnd_f {n p : Int} (h : ¬ p ≤ 0) (h2 : ¬ figs n + 1 < p) (h3 : ¬ 10 ^ p.toNat < 2 * n.fmod (10 ^ p.toNat)) (h4 : 2 * n.fmod (10 ^ p.toNat) ≠ 10 ^ p.toNat) : n.fdiv (10 ^ p.toNat) = rnd n p := by
  have hp : (0 : Int) ≤ 10 ^ p.toNat := Int.le_of_lt (Int.pow_pos (by decide))
  rw [Int.fmod_eq_emod_of_nonneg _ hp] at h3 h4
  unfold rnd; rw [if_neg h, if_neg h2, if_neg (fun q => q.elim h3 (fun r => h4 r.1)), Int.fdiv_eq_ediv_of_nonneg _ hp]
theorem rnd_e {n p : Int} (h : ¬ p ≤ 0) (h2 : ¬ figs n + 1 < p) (h3 : ¬ 10 ^ p.toNat < 2 * n.fmod (10 ^ p.toNat)) (h4 : (n.fdiv (10 ^ p.toNat)).fmod 2 ≠ 1) : n.fdiv (10 ^ p.toNat) = rnd n p := by
  have hp : (0 : Int) ≤ 10 ^ p.toNat := Int.le_of_lt (Int.pow_pos (by decide))
  rw [Int.fmod_eq_emod_of_nonneg _ hp] at h3
  rw [Int.fdiv_eq_ediv_of_nonneg _ hp, Int.fmod_eq_emod_of_nonneg _ (by decide)] at h4
  unfold rnd; rw [if_neg h, if_neg h2, if_neg (fun q => q.elim h3 (fun r => h4 r.2)), Int.fdiv_eq_ediv_of_nonneg _ hp]
theorem rndT_tells (w : World) (mean : ExcName → Option Value) (mg mb : Str → Option Value) : ∀ d, TellsN PySem.Challenge.rw_pq0145_01.row.prog w (hd.heap_1 w.params) topProg loose mean mg mb 58 rndT d := by
  w_top off
  k_with_none
  k_fill
  have C1 := figT_tells w mean mg mb
  refine tellsN_of fun d IH => ?_
  unfold TellsN
  intro dp un gd cn cs a ccd cl outer A₀ base h₀ L m news s vs Q E B F X N T hk hR hok hd hu hret
  cases hR
  ktr_unf

  rename_i n p tk tk'
  obtain ⟨hok0, hok1, hok2, hok3⟩ := hok
  dsimp only at hok0 hok1 hok2 hok3
  have hpos : (0 : Int) < 10 ^ p.toNat := Int.pow_pos (by decide)
  have hne : (10 : Int) ^ p.toNat ≠ 0 := by omega
  have hlog : ((10 : Int) ^ p.toNat).natAbs.log2 < 9000 := by
    have hp5 : p = 0 ∨ p = 1 ∨ p = 2 ∨ p = 3 ∨ p = 4 := by omega
    rcases hp5 with rfl | rfl | rfl | rfl | rfl <;> decide
  refine wpAny_call ?_
  (k_with "call ref" => (ktn_call (Str.ofString "figures_of") figT; (obtain ⟨_, ⟨rfl, hb8, hb9⟩, tk9, rfl⟩ : ∃ v : Int, (v = figs _ ∧ 1 ≤ v ∧ v ≤ 9) ∧ ∃ tk, _ = Value.int v tk := by assumption); (try dsimp only); (try k_fold)))

  all_goals k_dflt ktr_enter
  k_steps
  all_goals (refine hret _ [] _ _ (by k_asm) (news_sub (by assumption) (by intro p hp; (try rw [List.append_nil] at hp); first | exact hp | exact .tail _ hp | exact .tail _ (.tail _ hp) | exact .tail _ (.tail _ (.tail _ hp)))) ktn_ord0 rfl (ktn_int ?_))
  all_goals first | exact rnd_a (by assumption) | exact rnd_b (by assumption) (by assumption) | exact rnd_c (by assumption) (by assumption) (by assumption) | exact rnd_d (by assumption) (by assumption) (by assumption) (by assumption) | exact rnd_e (by assumption) (by assumption) (by assumption) (by assumption) | exact rnd_f (by assumption) (by assumption) (by assumption) (by assumption)
end
section
open PySem PySem.W PyProof.Rows
set_option maxRecDepth 100000
set_option maxHeartbeats 80000000

noncomputable def fit (n p : Int) : Bool := decide (-(2 ^ (p - 1).toNat) ≤ n ∧ n < 2 ^ (p - 1).toNat)
noncomputable abbrev fitT : ToldN (Int × Int) where
  Rel := Int2
  Ok := fun d => 1 ≤ d.2 ∧ d.2 ≤ 20
  size := fun _ => 0
  Tl := fun tl => tl = []
  Out := fun _ r d => r = .bool (fit d.1 d.2)
theorem fit_a {n p : Int} (h : -(1 * 2 ^ (p - 1).toNat) ≤ n) : decide (n < 1 * 2 ^ (p - 1).toNat) = fit n p := by
  unfold fit; rw [Int.one_mul] at h ⊢; simp only [h, true_and]
theorem fit_b {n p : Int} (h : ¬ -(1 * 2 ^ (p - 1).toNat) ≤ n) : decide (-(1 * 2 ^ (p - 1).toNat) ≤ n) = fit n p := by
  unfold fit; rw [Int.one_mul] at h ⊢; simp only [h, false_and]
theorem fitT_tells (w : World) (mean : ExcName → Option Value) (mg mb : Str → Option Value) : ∀ d, TellsN PySem.Challenge.rw_pq0145_01.row.prog w (hd.heap_1 w.params) topProg loose mean mg mb 79 fitT d := by
  w_top off
  k_with_none
  k_fill
  refine tellsN_of fun d IH => ?_
  unfold TellsN
  intro dp un gd cn cs a ccd cl outer A₀ base h₀ L m news s vs Q E B F X N T hk hR hok hd hu hret
  cases hR
  ktr_unf

  rename_i n p tk tk'
  obtain ⟨hok2, hok3⟩ := hok
  dsimp only at hok2 hok3
  refine wpAny_call ?_
  k_dflt ktr_enter

  k_steps
  all_goals (refine hret _ [] _ _ (by k_asm) (news_sub (by assumption) (by intro p hp; (try rw [List.append_nil] at hp); exact hp)) ktn_ord0 rfl (congrArg Value.bool ?_))
  all_goals first | exact fit_a (by assumption) | exact fit_b (by assumption)
end
section
open PySem PySem.W PyProof.Rows
set_option maxRecDepth 100000
set_option maxHeartbeats 80000000

/-- the written number c * 10 ^ e, its zeros at the end struck -/
noncomputable def Mk (c e c' e' : Int) : Prop := (c = 0 ∧ c' = 0 ∧ e' = 0) ∨ (c' ≠ 0 ∧ e ≤ e' ∧ c' * 10 ^ (e' - e).toNat = c)
noncomputable def Strip (s₀ e₀ s e : Int) : Prop := 0 < s ∧ e₀ ≤ e ∧ s * 10 ^ (e - e₀).toNat = s₀
theorem strip_next {s₀ e₀ s e : Int} (h : Strip s₀ e₀ s e) (hz : s.fmod 10 = 0) : Strip s₀ e₀ (s.fdiv 10) (e + 1) := by
  obtain ⟨h1, h2, h3⟩ := h
  rw [Int.fmod_eq_emod_of_nonneg _ (by decide)] at hz
  rw [Int.fdiv_eq_ediv_of_nonneg _ (by decide)]
  refine ⟨by omega, by omega, ?_⟩
  have e1 : (e + 1 - e₀).toNat = (e - e₀).toNat + 1 := by omega
  have e2 : s = s / 10 * 10 := by omega
  rw [e1, Int.pow_succ, ← Int.mul_assoc, Int.mul_right_comm, ← e2]
  exact h3
theorem strip_facts {s₀ e₀ s e : Int} (h : Strip s₀ e₀ s e) (hs : s₀ < 1000000000) : 0 < s ∧ s < 1000000000 ∧ e₀ ≤ e ∧ e ≤ e₀ + 9 := by
  obtain ⟨h1, h2, h3⟩ := h
  have hp : (0 : Int) < 10 ^ (e - e₀).toNat := Int.pow_pos (by decide)
  have hle : s ≤ s₀ := by
    rw [← h3]
    have := Int.mul_le_mul_of_nonneg_left (show (1 : Int) ≤ 10 ^ (e - e₀).toNat by omega) (Int.le_of_lt h1)
    rwa [Int.mul_one] at this
  refine ⟨h1, by omega, h2, ?_⟩
  by_cases hk : e ≤ e₀ + 9
  · exact hk
  · exfalso
    obtain ⟨k, hk'⟩ : ∃ k, (e - e₀).toNat = k + 10 := ⟨(e - e₀).toNat - 10, by omega⟩
    rw [hk', Int.pow_add] at h3
    have hq : (0 : Int) < 10 ^ k := Int.pow_pos (by decide)
    have a1 := Int.mul_le_mul_of_nonneg_left (show (1 : Int) ≤ 10 ^ k by omega) (Int.le_of_lt h1)
    have a2 : s * (10 ^ k * 10 ^ 10) = (s * 10 ^ k) * 10000000000 := by rw [← Int.mul_assoc]; rfl
    rw [a2] at h3
    omega
theorem strip_meas {s₀ e₀ s e : Int} (h : Strip s₀ e₀ s e) : (s.fdiv 10).toNat < s.toNat := by
  rw [Int.fdiv_eq_ediv_of_nonneg _ (by decide)]
  have := h.1; omega
theorem mk_zero {c e : Int} (h : (if c < 0 then -c else c) = 0) : Mk c e 0 0 := .inl ⟨by split at h <;> omega, rfl, rfl⟩
theorem mk_neg {c e s e' : Int} (h : Strip (if c < 0 then -c else c) e s e') (hc : c < 0) : Mk c e (-s) e' := by
  rw [if_pos hc] at h
  obtain ⟨h1, h2, h3⟩ := h
  exact .inr ⟨by omega, h2, by rw [Int.neg_mul, h3, Int.neg_neg]⟩
theorem mk_pos {c e s e' : Int} (h : Strip (if c < 0 then -c else c) e s e') (hc : ¬ c < 0) : Mk c e s e' := by
  rw [if_neg hc] at h
  obtain ⟨h1, h2, h3⟩ := h
  exact .inr ⟨by omega, h2, h3⟩
inductive Made1 (news : List (Addr × Obj)) : List Value → Int × Int → Prop where
  | mk (c e : Int) (tk tk' tk'' : Tok) : Made1 news [.int c tk, .int e tk', .int 9 tk''] (c, e)
noncomputable abbrev tup (vs : Array Value) : Obj := { cls := .type "tuple", data := .seq vs }
noncomputable def OnePair (tl : List (Addr × Obj)) : Prop := ∃ a c e t u, tl = [(a, tup #[.int c t, .int e u])]
noncomputable def LastPair (l : List (Addr × Obj)) (r : Value) (P : Int → Int → Prop) : Prop := ∃ a c e t u, r = .ref a ∧ l.getLast? = some (a, tup #[.int c t, .int e u]) ∧ P c e
theorem lastp_app {α : Type} {l : List α} {y z : α} : (l ++ [y]).getLast? = some z ↔ y = z := by rw [List.getLast?_concat, Option.some.injEq]
theorem lastp_cons {α : Type} {l : List α} {x y z : α} : (x :: (l ++ [y])).getLast? = some z ↔ y = z := by rw [← List.cons_append, lastp_app]
theorem ord_sub {l l' tl : List (Addr × Obj)} (h : ∀ q ∈ l', ∀ p ∈ tl, q.1 < p.1) (hs : ∀ p ∈ l, p ∈ l') : ∀ q ∈ l, ∀ p ∈ tl, q.1 < p.1 := fun q hq => h q (hs q hq)
theorem last_pair {news : List (Addr × Obj)} {a : Addr} {c e : Int} {t u : Tok} {P : Int → Int → Prop} (h : P c e) : LastPair (news ++ [(a, tup #[.int c t, .int e u])]) (.ref a) P := ⟨a, c, e, t, u, rfl, by rw [List.getLast?_concat], h⟩
noncomputable abbrev madeT : ToldN (Int × Int) where
  Rel := Made1
  Ok := fun d => -1000000000 < d.1 ∧ d.1 < 1000000000 ∧ -20 ≤ d.2 ∧ d.2 ≤ 20
  size := fun _ => 1
  Tl := OnePair
  Out := fun l r d => LastPair l r (Mk d.1 d.2)
local macro_rules | `(tactic| ktr_rel) => `(tactic| first | assumption | exact Int1.mk _ _ | exact Int2.mk _ _ _ _ | (dsimp only [figT]; exact ⟨by omega, by omega⟩))
theorem madeT_tells (w : World) (mean : ExcName → Option Value) (mg mb : Str → Option Value) : ∀ d, TellsN PySem.Challenge.rw_pq0145_01.row.prog w (hd.heap_1 w.params) topProg loose mean mg mb 65 madeT d := by
  w_top off
  k_with_none
  k_fill
  have C1 := figT_tells w mean mg mb
  refine tellsN_of fun d IH => ?_
  unfold TellsN
  intro dp un gd cn cs a ccd cl outer A₀ base h₀ L m news s vs Q E B F X N T hk hR hok hd hu hret
  cases hR
  ktr_unf

  rename_i c e tk tk' tk''
  obtain ⟨hok0, hok1, hok2, hok3⟩ := hok
  dsimp only at hok0 hok1 hok2 hok3
  refine wpAny_call ?_

  k_dflt ktr_enter
  (k_with "call ref" => (ktn_call (Str.ofString "figures_of") figT; (obtain ⟨_, ⟨rfl, hb8, hb9⟩, tk9, rfl⟩ : ∃ v : Int, (v = figs _ ∧ 1 ≤ v ∧ v ≤ 9) ∧ ∃ tk, _ = Value.int v tk := by assumption); (try dsimp only); (try k_fold)))
  (k_with "call ref" => ((have hs9 := strip_facts (by assumption) (by split <;> omega)); (obtain ⟨hs1, hs2, hs3, hs4⟩ := hs9); ktn_call (Str.ofString "figures_of") figT; (obtain ⟨_, ⟨rfl, hb8, hb9⟩, tk9, rfl⟩ : ∃ v : Int, (v = figs _ ∧ 1 ≤ v ∧ v ≤ 9) ∧ ∃ tk, _ = Value.int v tk := by assumption); (try dsimp only); (try k_fold)))
  (k_with "state" => first | exact ⟨by omega, Int.le_refl _, by simp⟩ | exact strip_next (by assumption) (by assumption))
  (k_with "measure" => exact strip_meas (by assumption))
  (k_with "exec While Compare cons nil" => k_while_given ["size!", "exponent!"] (fun s₀ e₀ script s e => Strip s₀ e₀ s e) (fun s₀ e₀ script s e => s.toNat) "size" "exponent")
  k_steps
  all_goals (refine hret _ _ _ _ (by k_asm) (ktn_tl1 (by k_asm)) (ktn_ord1 (by ktn_lt)) ⟨_, _, _, _, _, rfl⟩ (last_pair ?_))
  all_goals first | exact mk_zero (by assumption) | exact mk_neg (by assumption) (by assumption) | exact mk_pos (by assumption) (by assumption)
end
section
open PySem PySem.W PyProof.Rows
set_option maxRecDepth 100000
set_option maxHeartbeats 80000000

inductive Dec1 (news : List (Addr × Obj)) : List Value → Int × Int → Prop where
  | pair (a : Addr) (c e : Int) (tk tk' tk'' : Tok) : (a, tup #[.int c tk, .int e tk']) ∈ news → Dec1 news [.ref a, .int 9 tk''] (c, e)
  | whole (c : Int) (tk tk'' : Tok) : Dec1 news [.int c tk, .int 9 tk''] (c, 0)
noncomputable abbrev decT : ToldN (Int × Int) where
  Rel := Dec1
  Ok := fun d => -1000000000 < d.1 ∧ d.1 < 1000000000 ∧ -20 ≤ d.2 ∧ d.2 ≤ 20
  size := fun _ => 2
  Tl := OnePair
  Out := fun l r d => LastPair l r (Mk d.1 d.2)
local macro_rules | `(tactic| ktr_rel) => `(tactic| first | assumption | exact Int1.mk _ _ | exact Int2.mk _ _ _ _ | exact Made1.mk _ _ _ _ _ | (dsimp only [figT]; exact ⟨by omega, by omega⟩) | (dsimp only [madeT]; exact ⟨by omega, by omega, by omega, by omega⟩))
theorem decT_tells (w : World) (mean : ExcName → Option Value) (mg mb : Str → Option Value) : ∀ d, TellsN PySem.Challenge.rw_pq0145_01.row.prog w (hd.heap_1 w.params) topProg loose mean mg mb 93 decT d := by
  w_top off
  k_with_none
  k_fill
  have C1 := madeT_tells w mean mg mb
  refine tellsN_of fun d IH => ?_
  unfold TellsN
  intro dp un gd cn cs a ccd cl outer A₀ base h₀ L m news s vs Q E B F X N T hk hR hok hd hu hret
  obtain ⟨hok0, hok1, hok2, hok3⟩ := hok
  cases hR
  ktr_unf

  all_goals dsimp only at hok0 hok1 hok2 hok3
  all_goals refine wpAny_call ?_
  all_goals k_dflt ktr_enter
  (k_with "call ref" => (ktn_call (Str.ofString "made") madeT; (obtain ⟨a9, c9, e9, t9, u9, htl9⟩ := (by assumption : OnePair _)); subst htl9; (obtain ⟨b9, d9, f9, v9, x9, rfl, hl9, hk9⟩ := (by assumption : LastPair _ _ _)); (simp only [List.getLast?_cons_cons, lastp_cons, lastp_app, List.getLast?_singleton, Option.some.injEq, Prod.mk.injEq, Obj.mk.injEq, Data.seq.injEq, Array.mk.injEq, List.cons.injEq, Value.int.injEq, true_and, and_true] at hl9); (obtain ⟨rfl, ⟨rfl, rfl⟩, rfl, rfl⟩ := hl9); (try dsimp only at hk9); (try dsimp only); (try k_fold)))

  k_steps
  all_goals (refine hret _ _ _ _ (by k_asm) (news_sub (by assumption) (by intro p hp; (try rw [List.append_nil] at hp); (try simp only [List.mem_append, List.mem_cons, List.mem_singleton, List.not_mem_nil, or_false] at hp ⊢); first | exact hp | exact .inr hp | exact .inr (.inr hp) | exact .inr (.inr (.inr hp)) | (rcases hp with hp | hp <;> simp only [hp, true_or, or_true]))) (ord_sub (by assumption) (by intro p hp; first | exact hp | exact .tail _ hp | exact .tail _ (.tail _ hp) | (simp only [List.mem_append, List.mem_cons]; simp only [hp, true_or, or_true]))) ⟨_, _, _, _, _, rfl⟩ (last_pair ?_))

  all_goals first | assumption
end
section
open PySem PySem.W PyProof.Rows
set_option maxRecDepth 100000
set_option maxHeartbeats 80000000

inductive Add1 (news : List (Addr × Obj)) : List Value → (Int × Int) × (Int × Int) → Prop where
  | mk (a b : Addr) (c e d f : Int) (t u v x y : Tok) : (a, tup #[.int c t, .int e u]) ∈ news → (b, tup #[.int d v, .int f x]) ∈ news → Add1 news [.ref a, .ref b, .int 9 y] ((c, e), (d, f))
noncomputable def addc (c e d f : Int) : Int := c * 10 ^ (e - (if f < e then f else e)).toNat + d * 10 ^ (f - (if f < e then f else e)).toNat
noncomputable abbrev addT : ToldN ((Int × Int) × (Int × Int)) where
  Rel := Add1
  Ok := fun d => -1000000000 < addc d.1.1 d.1.2 d.2.1 d.2.2 ∧ addc d.1.1 d.1.2 d.2.1 d.2.2 < 1000000000 ∧ -10 ≤ d.1.2 ∧ d.1.2 ≤ 10 ∧ -10 ≤ d.2.2 ∧ d.2.2 ≤ 10 ∧ -1000000000 < d.1.1 ∧ d.1.1 < 1000000000 ∧ -1000000000 < d.2.1 ∧ d.2.1 < 1000000000
  size := fun _ => 2
  Tl := OnePair
  Out := fun l r d => LastPair l r (Mk (addc d.1.1 d.1.2 d.2.1 d.2.2) (if d.2.2 < d.1.2 then d.2.2 else d.1.2))
local macro_rules | `(tactic| ktr_rel) => `(tactic| first | assumption | (dsimp only [madeT]; exact ⟨by assumption, by assumption, by assumption, by assumption⟩) | exact Int1.mk _ _ | exact Int2.mk _ _ _ _ | exact Made1.mk _ _ _ _ _ | (dsimp only [figT]; exact ⟨by omega, by omega⟩) | (dsimp only [madeT]; exact ⟨by omega, by omega, by omega, by omega⟩))
local macro_rules | `(tactic| walk_at "binaryOp Pow int int") => `(tactic| (k_here; (with_reducible refine pow_int_small ?kb1 ?kb2 ?kb3 ?_); (case kb1 => assumption); (case kb2 => assumption); (case kb3 => decide)))
theorem addT_tells (w : World) (mean : ExcName → Option Value) (mg mb : Str → Option Value) : ∀ d, TellsN PySem.Challenge.rw_pq0145_01.row.prog w (hd.heap_1 w.params) topProg loose mean mg mb 129 addT d := by
  w_top off
  k_with_none
  k_fill
  have C1 := madeT_tells w mean mg mb
  refine tellsN_of fun d IH => ?_
  unfold TellsN
  intro dp un gd cn cs a ccd cl outer A₀ base h₀ L m news s vs Q E B F X N T hk hR hok hd hu hret
  obtain ⟨hok0, hok1, hok2, hok3, hok4, hok5, hok6, hok7, hok8, hok9⟩ := hok
  cases hR
  ktr_unf

  rename_i a b c e d f t u v x y ha hb
  dsimp only at hok0 hok1 hok2 hok3 hok4 hok5 hok6 hok7 hok8 hok9
  have hp1 : 0 ≤ e - (if f < e then f else e) := by split <;> omega
  have hp2 : e - (if f < e then f else e) ≤ 1000000 := by split <;> omega
  have hp3 : 0 ≤ f - (if f < e then f else e) := by split <;> omega
  have hp4 : f - (if f < e then f else e) ≤ 1000000 := by split <;> omega
  have hp5 : -20 ≤ (if f < e then f else e) := by split <;> omega
  have hp6 : (if f < e then f else e) ≤ 20 := by split <;> omega
  unfold addc at hok0 hok1
  refine wpAny_call ?_
  k_dflt ktr_enter
  (k_with "call ref" => ((with_reducible show wpAny _ _ (call (Value.ref 122) _) _ _ _); refine wpAny_call ?_; k_dflt (refine' code_def ?k1 ?k2 ?k3 ?k4 ?k5 ?kA ?kF ?kK ?k6 ?k7 ?k8 ?k9 ?kB ?_ ?c2 ?c3 ?c4 ?c5; (case kA => exact rfl); (case kF => exact rfl); (case kK => exact rfl); (case k1 => k_asm); (case k2 => k_asm); (case k3 => k_asm); (case k4 => k_asm); (case k5 => k_asm); (case k6 => k_is); (case k7 => k_is); (case k8 => ktr_room); (case k9 => exact BindsTo.of_eq rfl); (case c5 => decide); (case kB => exact locs rfl); (case c2 => exact rfl); (case c3 => exact rfl); (case c4 => exact rfl); k_whole; intro gX LX hX FGX FX NX BX XX TX; (try dsimp only); (try k_fold))))
  (k_with "call ref" => (ktn_call (Str.ofString "made") madeT; (obtain ⟨a9, c9, e9, t9, u9, htl9⟩ := (by assumption : OnePair _)); subst htl9; (obtain ⟨b9, d9, f9, v9, x9, rfl, hl9, hk9⟩ := (by assumption : LastPair _ _ _)); (simp only [List.getLast?_cons_cons, lastp_cons, lastp_app, List.getLast?_singleton, Option.some.injEq, Prod.mk.injEq, Obj.mk.injEq, Data.seq.injEq, Array.mk.injEq, List.cons.injEq, Value.int.injEq, true_and, and_true] at hl9); (obtain ⟨rfl, ⟨rfl, rfl⟩, rfl, rfl⟩ := hl9); (try dsimp only at hk9); (try dsimp only); (try k_fold)))

  k_steps
  all_goals (refine hret _ _ _ _ (by k_asm) (news_sub (by assumption) (by intro p hp; (try rw [List.append_nil] at hp); (try simp only [List.mem_append, List.mem_cons, List.mem_singleton, List.not_mem_nil, or_false] at hp ⊢); first | exact hp | exact .inr hp | exact .inr (.inr hp) | exact .inr (.inr (.inr hp)) | (rcases hp with hp | hp <;> simp only [hp, true_or, or_true]))) (ord_sub (by assumption) (by intro p hp; first | exact hp | exact .tail _ hp | exact .tail _ (.tail _ hp) | (simp only [List.mem_append, List.mem_cons]; simp only [hp, true_or, or_true]))) ⟨_, _, _, _, _, rfl⟩ (last_pair ?_))

  all_goals first | assumption
end
section
open PySem PySem.W PyProof.Rows
theorem ten_pos (k : Nat) : (0 : Int) < 10 ^ k := Int.pow_pos (by decide)
theorem mk_trans {a x b y c z : Int} (h1 : Mk a x b y) (h2 : Mk b y c z) : Mk a x c z := by
  rcases h1 with ⟨rfl, rfl, rfl⟩ | ⟨hb, hxy, h1⟩
  · rcases h2 with ⟨_, rfl, rfl⟩ | ⟨hc, _, h2⟩
    · exact .inl ⟨rfl, rfl, rfl⟩
    · have := ten_pos (z - 0).toNat
      rcases Int.mul_eq_zero.mp h2 with q | q <;> omega
  · rcases h2 with ⟨rfl, _, _⟩ | ⟨hc, hyz, h2⟩
    · exact absurd rfl hb
    · refine .inr ⟨hc, by omega, ?_⟩
      have e : (z - x).toNat = (z - y).toNat + (y - x).toNat := by omega
      rw [e, Int.pow_add, ← Int.mul_assoc, h2, h1]
theorem mk_neg' {a x b y : Int} (h : Mk a x b y) : Mk (0 - a) x (0 - b) y := by
  rcases h with ⟨rfl, rfl, rfl⟩ | ⟨hb, hxy, h⟩
  · exact .inl ⟨rfl, rfl, rfl⟩
  · refine .inr ⟨by omega, hxy, ?_⟩
    rw [Int.zero_sub, Int.neg_mul, h, Int.zero_sub]
theorem mk_small {d f : Int} (h : Mk 3 0 d f) : d = 3 ∧ f = 0 := by
  rcases h with ⟨h, _⟩ | ⟨_, hf, h⟩
  · cases h
  · obtain ⟨n, rfl⟩ : ∃ n : Nat, f = n := ⟨f.toNat, by omega⟩
    have e : ((n : Int) - 0).toNat = n := by omega
    rw [e] at h
    cases n with
    | zero => exact ⟨by simpa using h, rfl⟩
    | succ n =>
      rw [Int.pow_succ] at h
      have : (d * 10 ^ n) * 10 = 3 := by rw [Int.mul_assoc]; exact h
      omega
theorem mk_bounds {a p c e : Int} (h : Mk a (-p) c e) (hp0 : 0 ≤ p) (hp : p ≤ 4) (hl : -9000 < a) (hh : a < 9000) : -9000 < c ∧ c < 9000 ∧ -4 ≤ e ∧ e ≤ 4 := by
  rcases h with ⟨rfl, rfl, rfl⟩ | ⟨hc, he, h⟩
  · omega
  · obtain ⟨n, hn⟩ : ∃ n : Nat, (e - -p).toNat = n := ⟨_, rfl⟩
    rw [hn] at h
    have hn4 : n < 4 := by
      rcases Nat.lt_or_ge n 4 with q | q
      · exact q
      · exfalso
        obtain ⟨k, rfl⟩ : ∃ k, n = k + 4 := ⟨n - 4, by omega⟩
        rw [Int.pow_add, ← Int.mul_assoc] at h
        have hz : c * 10 ^ k ≠ 0 := fun q => by
          rcases Int.mul_eq_zero.mp q with q | q
          · exact hc q
          · have := ten_pos k; omega
        have e4 : (10 : Int) ^ 4 = 10000 := by decide
        rw [e4] at h
        omega
    have hc' : -9000 < c ∧ c < 9000 := by
      have h3 : n = 0 ∨ n = 1 ∨ n = 2 ∨ n = 3 := by omega
      rcases h3 with rfl | rfl | rfl | rfl <;> simp at h <;> omega
    omega
theorem two_fact {top p c e : Int} (h : Mk top (-p) c e) (hp0 : 0 ≤ p) :
    addc c e 3 0 * 10 ^ ((if 0 < e then 0 else e) + p).toNat = top + 3 * 10 ^ p.toNat ∧ -p ≤ (if 0 < e then 0 else e) := by
  rcases h with ⟨rfl, rfl, rfl⟩ | ⟨hc, he, h⟩
  · refine ⟨?_, by simp; omega⟩
    simp [addc]
  · unfold addc
    by_cases q : 0 < e
    · simp only [if_pos q]
      refine ⟨?_, by omega⟩
      have e1 : (e - -p).toNat = (e - 0).toNat + (0 + p).toNat := by omega
      have e2 : ((0 : Int) - 0).toNat = 0 := rfl
      have e3 : (0 + p).toNat = p.toNat := by omega
      rw [e1, Int.pow_add, ← Int.mul_assoc] at h
      rw [Int.add_mul, h, e2, e3]
      simp
    · simp only [if_neg q]
      refine ⟨?_, he⟩
      have e1 : (e - e).toNat = 0 := by omega
      have e2 : (e - -p).toNat = (e + p).toNat := by omega
      have e3 : p.toNat = (0 - e).toNat + (e + p).toNat := by omega
      rw [e2] at h
      rw [Int.add_mul, e1, Int.mul_assoc 3, ← Int.pow_add, ← e3, Int.pow_zero, Int.mul_one, h]
theorem two_ok {top p c e c' e' d f : Int} (h1 : Mk top (-p) c e) (h2 : Mk c e c' e') (h3 : Mk 3 0 d f) (hp0 : 0 ≤ p) (hp : p ≤ 4) (hl : -9000 < top) (hh : top < 9000) :
    addT.Ok ((c', e'), (d, f)) ∧ ∀ c'' e'', Mk (addc c' e' d f) (if f < e' then f else e') c'' e'' → Mk (top + 3 * 10 ^ p.toNat) (-p) c'' e'' := by
  obtain ⟨rfl, rfl⟩ := mk_small h3
  have h := mk_trans h1 h2
  obtain ⟨b1, b2, b3, b4⟩ := mk_bounds h hp0 hp hl hh
  obtain ⟨k1, k2⟩ := two_fact h hp0
  have hpp : (0 : Int) < 10 ^ p.toNat ∧ (10 : Int) ^ p.toNat ≤ 10000 := by
    have : p = 0 ∨ p = 1 ∨ p = 2 ∨ p = 3 ∨ p = 4 := by omega
    rcases this with rfl | rfl | rfl | rfl | rfl <;> decide
  have hq := ten_pos ((if 0 < e' then 0 else e') + p).toNat
  refine ⟨⟨?_, ?_, by dsimp only; omega, by dsimp only; omega, by dsimp only; omega, by dsimp only; omega, by dsimp only; omega, by dsimp only; omega, by dsimp only; omega, by dsimp only; omega⟩, fun c'' e'' hk => ?_⟩
  · show -1000000000 < addc c' e' 3 0
    generalize addc c' e' 3 0 = X at *
    generalize (10 : Int) ^ ((if 0 < e' then 0 else e') + p).toNat = Y at *
    rcases Int.lt_or_le X 0 with q | q
    · have := Int.mul_le_mul_of_nonneg_left (show (1 : Int) ≤ Y by omega) (show 0 ≤ -X by omega)
      rw [Int.neg_mul, Int.neg_mul, Int.mul_one] at this
      omega
    · omega
  · show addc c' e' 3 0 < 1000000000
    generalize addc c' e' 3 0 = X at *
    generalize (10 : Int) ^ ((if 0 < e' then 0 else e') + p).toNat = Y at *
    rcases Int.lt_or_le 0 X with q | q
    · have := Int.mul_le_mul_of_nonneg_left (show (1 : Int) ≤ Y by omega) (Int.le_of_lt q)
      omega
    · omega
  · rcases hk with ⟨z, rfl, rfl⟩ | ⟨hc, he, hk⟩
    · rw [z, Int.zero_mul] at k1
      exact .inl ⟨k1.symm, rfl, rfl⟩
    · refine .inr ⟨hc, by omega, ?_⟩
      have e1 : (e'' - -p).toNat = (e'' - (if 0 < e' then 0 else e')).toNat + ((if 0 < e' then 0 else e') + p).toNat := by omega
      rw [e1, Int.pow_add, ← Int.mul_assoc, hk, k1]
end
section
open PySem PySem.W PyProof.Rows
set_option maxRecDepth 100000
set_option maxHeartbeats 80000000

noncomputable abbrev lst (vs : Array Value) : Obj := { cls := .type "list", data := .seq vs }
inductive Part1 (news : List (Addr × Obj)) : List Value → List Value → Prop where
  | dec (a : Addr) (v : Value) (t : Tok) : (a, tup #[.str "decimal" t, v]) ∈ news → Part1 news [.ref a] []
  | name (a : Addr) (v : Value) (t : Tok) : (a, tup #[.str "name" t, v]) ∈ news → Part1 news [.ref a] []
  | neg (a : Addr) (v : Value) (t : Tok) : (a, tup #[.str "neg" t, v]) ∈ news → Part1 news [.ref a] [v]
  | two (a : Addr) (v x y : Value) (t : Tok) : (a, tup #[.str "two" t, v, x, y]) ∈ news → Part1 news [.ref a] [x, y]
noncomputable def OneList (tl : List (Addr × Obj)) : Prop := ∃ a vs, tl = [(a, lst vs)]
noncomputable def LastList (l : List (Addr × Obj)) (r : Value) (vs : List Value) : Prop := ∃ a, r = .ref a ∧ l.getLast? = some (a, lst vs.toArray)
local macro_rules | `(tactic| k_mem) => `(tactic| ((show @Membership.mem (Addr × Obj) (List (Addr × Obj)) _ _ _); ktr_member))
noncomputable abbrev partT : ToldN (List Value) where
  Rel := Part1
  Ok := fun _ => True
  size := fun _ => 0
  Tl := OneList
  Out := fun l r d => LastList l r d
theorem partT_tells (w : World) (mean : ExcName → Option Value) (mg mb : Str → Option Value) : ∀ d, TellsN PySem.Challenge.rw_pq0145_01.row.prog w (hd.heap_1 w.params) topProg loose mean mg mb 276 partT d := by
  w_top off
  k_with_none
  k_fill
  refine tellsN_of fun d IH => ?_
  unfold TellsN
  intro dp un gd cn cs a ccd cl outer A₀ base h₀ L m news s vs Q E B F X N T hk hR hok hd hu hret
  cases hR
  ktr_unf

  all_goals refine wpAny_call ?_
  all_goals k_dflt ktr_enter
  k_steps
  all_goals (refine hret _ _ _ _ (by k_asm) (news_sub (by assumption) (by intro p hp; (simp only [List.mem_append, List.mem_cons, List.mem_singleton, List.not_mem_nil, or_false] at hp ⊢); rcases hp with hp | hp <;> repeat (first | exact hp | exact .inl hp | refine .inr ?_))) (ktn_ord1 (by first | assumption | exact And.right (by assumption) | exact And.right (And.right (by assumption)) | exact And.right (And.right (And.right (by assumption))) | exact And.right (And.right (And.right (And.right (by assumption)))) | exact allLt_of (by assumption))) ⟨_, _, rfl⟩ ⟨_, rfl, by rw [List.getLast?_concat]⟩)
end
section
open PySem PySem.W PyProof.Rows PySem.Calls
set_option maxRecDepth 100000
set_option maxHeartbeats 800000
theorem wd_lookup : typeLookup (.type "wrapper_descriptor") "__get__" = pure (some (.builtin "wrapper_descriptor.__get__")) := by rw [typeLookup_type, builtinLookup_eq_fast]; kernel_rfl
theorem wd_slot : Slot "wrapper_descriptor" "__get__" "wrapper_descriptor.__get__" := .of (owner := "wrapper_descriptor") (n := "__get__") (by rw [typeLookup_type, builtinLookup_eq_fast]; kernel_rfl) (by decide +kernel) (by decide +kernel) (by decide +kernel)
  (by first | exact .inl (by decide +kernel) | exact .inr (by decide +kernel)) (by rw [isSubtype_type]; kernel_rfl)
theorem wd_entry : entryFor table "wrapper_descriptor.__get__" = some Builtin.«wrapper_descriptor.__get__» := entryFor_of_tree (by kernel_rfl)
theorem wd_args (a b c : Value) : argsOk "wrapper_descriptor.__get__" ⟨[a, b, c], []⟩ := by unfold argsOk; kernel_rfl
theorem ei_type : typeOf (.builtin "Exception.__init__") = pure (.type "wrapper_descriptor") := by kernel_rfl
theorem ei_kind : builtinKind "Exception.__init__" = some .slot := by decide +kernel
theorem ei_init : entryFor table "Exception.__init__" = some Builtin.«BaseException.__init__» := _root_.PySem.F.excCall_Exception.initEntry
theorem wd_check (x C : Addr) : checkBuiltinCall "wrapper_descriptor.__get__" ⟨[.builtin "Exception.__init__", .ref x, .ref C], []⟩ = pure () := by kernel_rfl
theorem ei_owner : ".".intercalate ("Exception.__init__".cutAt '.').dropLast = "Exception" := by decide +kernel
section
variable {prog : Program} {w : World} {A : Around} {E : Value → Shared → Prop} {h : Heap} {g : Array GenState} {d : Drawn} {t : Nat} {os : OsState}
variable {nm q : Str} {C N : Addr} {bs bm : List Value} {hdct : Bool} {sn : List Str} {sub : List Value} {ab : Bool} {col : Option Bool} {dd : Option Addr} {k0 k1 k2 k3 k5 : Option Value} {newId : String}
noncomputable abbrev wrapObj (x : Addr) : Obj := { cls := .type "method-wrapper", data := .fields #[.builtin "Exception.__init__", .ref x] }
theorem ei_bound {M : Model} {e : Addr} {oe : Obj} {v : Value} {Q : Unit → Shared → Prop} (he : h.get? e = some oe) (hcls : oe.cls = .ref C) (hC : h.get? C = some (excClassObj nm q C N bs bm hdct sn sub ab col dd k0 k1 k2 k3 k5 newId)) (hb : bm.contains (.type "Exception") = true)
    (hq : Q () ⟨h, g, d, t, os⟩) : wpAny M A (checkBoundCall "Exception.__init__" ⟨[.ref e, v], []⟩) Q E ⟨h, g, d, t, os⟩ := by
  have F := _root_.PySem.F.excBase_Exception
  have hcB : (Value.ref C :: bm).contains (.type "Exception") = true := by rw [List.contains_cons, hb, Bool.or_true]
  have hshort := F.noStar
  simp only [checkBoundCall, F.initKind, F.initRow]
  repeat (first | (with_reducible refine wpAny_loadPart_at he ?_; rw [hcls]) | with_reducible refine wpAny_loadPart_at hC ?_ | (with_reducible refine wpAny_isSubtype_exc hC ?_; rw [hcB]) | wp_step)
  all_goals exact hq
theorem wd_get {x : Addr} {ox : Obj} {Q : Fin → Shared → Prop} (hx : h.get? x = some ox) (hxc : ox.cls = .ref C) (hC : h.get? C = some (excClassObj nm q C N bs bm hdct sn sub ab col dd k0 k1 k2 k3 k5 newId)) (hb : bm.contains (.type "Exception") = true)
    (hq : Q (.done (.ret (.ref h.objs.size))) ⟨h.push (wrapObj x), g, d, t, os⟩) :
    wpAny (model prog w) A (Builtin.«wrapper_descriptor.__get__» ⟨[.builtin "Exception.__init__", .ref x, .ref C], []⟩) Q E ⟨h, g, d, t, os⟩ := by
  have hcB : (Value.ref C :: bm).contains (.type "Exception") = true := by rw [List.contains_cons, hb, Bool.or_true]
  unfold Builtin.«wrapper_descriptor.__get__»
  repeat (first | (with_reducible refine wpAny_loadPart_at hx ?_; rw [hxc]) | (rw [ei_owner]; with_reducible refine wpAny_isSubtype_exc hC ?_; rw [hcB]) | wp_step | dsimp only)
  all_goals exact hq
theorem sg_get {so x D : Addr} {ox : Obj} {l : List Value} {K : Frag} {tk : Tok} {Q : Fin → Shared → Prop}
    (hso : h.get? so = some (ks_superObj D x C)) (hno : Looks (model prog w) h (opaqueClassAbove (.ref C)) none)
    (hm : Looks (model prog w) h (mroOf (.ref C)) l) (X : K.In h) (hf : alongIn K "__init__" ((l.dropWhile (· != .ref D)).drop 1) = some (some (.builtin "Exception.__init__"))) (hxC : x ≠ C)
    (hx : h.get? x = some ox) (hxc : ox.cls = .ref C) (hC : h.get? C = some (excClassObj nm q C N bs bm hdct sn sub ab col dd k0 k1 k2 k3 k5 newId)) (hb : bm.contains (.type "Exception") = true)
    (hq : Q (.done (.ret (.ref h.objs.size))) ⟨h.push (wrapObj x), g, d, t, os⟩) :
    wpAny (model prog w) A (Builtin.«super.__getattribute__» ⟨[.ref so, .str "__init__" tk], []⟩) Q E ⟨h, g, d, t, os⟩ := by
  have hne : (Value.ref x == Value.ref C) = false := by simp [hxC]
  have f0 : (#[.ref D, .ref x, .ref C] : Array Value)[0]? = some (.ref D) := rfl
  have f1 : (#[.ref D, .ref x, .ref C] : Array Value)[1]? = some (.ref x) := rfl
  have f2 : (#[.ref D, .ref x, .ref C] : Array Value)[2]? = some (.ref C) := rfl
  have hdt : (ks_superObj D x C).data = .fields #[.ref D, .ref x, .ref C] := rfl
  have hnc : ((Str.ofString "__init__") == (Str.ofString "__class__")) = false := by decide
  have hl := wd_lookup
  unfold Builtin.«super.__getattribute__»
  repeat (first
    | (with_reducible refine wpAny_field hso hdt f0 ?_) | (with_reducible refine wpAny_field hso hdt f1 ?_) | (with_reducible refine wpAny_field hso hdt f2 ?_)
    | (with_reducible refine ks_wpAny_notOpaque hno ?_)
    | (with_reducible refine Looks.at hm ?_)
    | (refine ks_forIn_along X (fun _ _ => rfl) rfl ?_ hf)
    | (with_reducible refine wpAny_of_eq ei_type ?_) | (with_reducible refine wpAny_of_eq wd_lookup ?_)
    | (with_reducible refine wpAny_call (codeAny_call_builtin wd_slot.plain wd_entry ?_))
    | (simp only [hnc, hne, Bool.or_false, Bool.false_eq_true, if_false])
    | wp_step | dsimp only)
  refine wpAny_of_eq (wd_check x C) (wpAny_mono (Q := fun fin s' => fin = .done (.ret (.ref h.objs.size)) ∧ s' = ⟨h.push (wrapObj x), g, d, t, os⟩) (E := fun _ _ => False) (wd_get hx hxc hC hb ⟨rfl, rfl⟩) (fun fin s' hf => ?_) fun _ _ z => z.elim)
  obtain ⟨rfl, rfl⟩ := hf
  dsimp only
  repeat wp_step
  all_goals exact hq
/-- the method that super() hands out: the base's __init__, bound -/
theorem sg_method {so x D : Addr} {ox : Obj} {l : List Value} {K : Frag} {pl : Sem Bool} {Q : Value × List Value → Shared → Prop}
    (hso : h.get? so = some (ks_superObj D x C)) (hno : Looks (model prog w) h (opaqueClassAbove (.ref C)) none)
    (hm : Looks (model prog w) h (mroOf (.ref C)) l) (X : K.In h) (hf : alongIn K "__init__" ((l.dropWhile (· != .ref D)).drop 1) = some (some (.builtin "Exception.__init__"))) (hxC : x ≠ C)
    (hx : h.get? x = some ox) (hxc : ox.cls = .ref C) (hC : h.get? C = some (excClassObj nm q C N bs bm hdct sn sub ab col dd k0 k1 k2 k3 k5 newId)) (hb : bm.contains (.type "Exception") = true)
    (hq : Q (.ref h.objs.size, []) ⟨h.push (wrapObj x), g, d, t + 1, os⟩) : wpAny (model prog w) A (getMethod (.ref so) "__init__" pl) Q E ⟨h, g, d, t, os⟩ := by
  have hlk := _root_.PySem.F.ks_slot_super_ga.lookup
  have hcan := _root_.PySem.F.ks_canon_super_ga
  have hT : ∀ t', (⟨h, g, d, t', os⟩ : Shared).TypeIs (.ref so) "super" := fun _ => ⟨_, hso, rfl⟩
  unfold getMethod
  refine wpAny_bind (wpAny_specialOf (hT _) hlk ?_)
  simp only [hcan, if_true]
  unfold getAttr getAttrBy
  refine wpAny_bind (wpAny_bind (wpAny_mkText (wpAny_holding (wpAny_bind (wpAny_typeOf (hT _) (wpAny_bind (wpAny_of_eq hlk ?_)))))))
  dsimp only
  unfold getAttrByItsOwn hookBefore callGetattribute boundAndCalled
  refine wpAny_bind (wpAny_of_eq (a := none) rfl ?_)
  refine wpAny_bind (wpAny_attempt (wpAny_holding (wpAny_bind (wpAny_of_eq (_root_.PySem.F.ks_slot_super_ga.bind _) ?_))))
  refine wpAny_mono (Q := fun v s' => v = .ref h.objs.size ∧ s' = ⟨h.push (wrapObj x), g, d, t + 1, os⟩) (E := fun _ _ => False) (wpAny_call_entry _root_.PySem.F.ks_slot_super_ga (hT _) _root_.PySem.F.ks_entry_super_ga (sg_get hso hno hm X hf hxC hx hxc hC hb ⟨_, rfl, rfl, rfl⟩) (_root_.PySem.F.ks_gaArgs_super _ _)) (fun v s' hv => ?_) fun _ _ z => z.elim
  obtain ⟨rfl, rfl⟩ := hv
  exact wpAny_pure (wpAny_pure hq)
/-- the base's __init__ puts the arguments into the exception -/
theorem bi_init {x : Addr} {v : Value} {ox : Obj} {ws : Array Value} {Q : Fin → Shared → Prop}
    (hx : h.get? x = some ox) (hd : ox.data = .fields ws) (hsz : 0 < ws.size)
    (hq : ∀ h', (∀ b o, b ≠ x → h.get? b = some o → h'.get? b = some o) → h'.get? x = some { ox with data := .fields (ws.setIfInBounds 0 (.ref h.objs.size)) } → Q (.done (.ret .none)) ⟨h', g, d, t, os⟩) :
    wpAny (model prog w) A (Builtin.«BaseException.__init__» ⟨[.ref x, v], []⟩) Q E ⟨h, g, d, t, os⟩ := by
  show wpAny _ _ (newTuple [v] >>= fun tu => Builtin.BaseException.bexcPut (.ref x) 0 tu >>= fun _ => ret .none) _ _ _
  refine wpAny_bind (wpAny_newTuple ?_ (by rw [sizeLine_eq]; show 1 ≤ _; omega))
  have hx1 := Heap.get?_push_of_some (h := h) { cls := .type "tuple", data := .seq [v].toArray } hx
  have old : ∃ a0, ws[0]? = some a0 := ⟨ws[0], Array.getElem?_eq_some_iff.mpr ⟨hsz, rfl⟩⟩
  obtain ⟨a0, h0⟩ := old
  unfold Builtin.BaseException.bexcPut
  refine wpAny_bind (wpAny_bind (wpAny_field hx1 hd h0 ?_))
  refine wpAny_bind (wpAny_setField hx1 hd hsz ?_)
  have fin : Q (.done (.ret .none)) ⟨(h.push { cls := .type "tuple", data := .seq [v].toArray }).update x (Obj.mapFields (·.setIfInBounds 0 (Value.ref h.objs.size))), g, d, t, os⟩ := by
    refine hq _ (fun b o hb e => ?_) ?_
    · rw [Heap.get?_update_other _ _ (Ne.symm hb)]
      exact Heap.get?_push_of_some _ e
    · rw [Heap.get?_update_self _ hx1 (Obj.isFreed_of_fields (Obj.data_mapFields hd _))]
      obtain ⟨oc, od, odt, osl⟩ := ox
      dsimp only at hd
      subst hd
      rfl
  cases a0 with
  | ref a => exact wpAny_letGo (wpAny_pure fin)
  | _ => exact wpAny_pure (wpAny_pure fin)
/-- calling it puts the arguments into the exception -/
theorem mw_call {x q' : Addr} {v : Value} {ox : Obj} {ws : Array Value} {Q : Value → Shared → Prop}
    (hq' : h.get? q' = some (wrapObj x)) (hx : h.get? x = some ox) (hxc : ox.cls = .ref C) (hd : ox.data = .fields ws) (hsz : 0 < ws.size) (hC : h.get? C = some (excClassObj nm q C N bs bm hdct sn sub ab col dd k0 k1 k2 k3 k5 newId)) (hb : bm.contains (.type "Exception") = true)
    (hq : ∀ h', (∀ b o, b ≠ x → h.get? b = some o → h'.get? b = some o) → h'.get? x = some { ox with data := .fields (ws.setIfInBounds 0 (.ref h.objs.size)) } → Q .none ⟨h', g, d, t, os⟩) :
    wpAny (model prog w) A (call (.ref q') [v]) Q E ⟨h, g, d, t, os⟩ := by
  refine wpAny_call (codeAny_of_tree ?_)
  show wpAny _ _ (callAny (.ref q') _) _ _ _
  unfold callAny
  refine wpAny_bind (wpAny_load hq' ?_)
  refine wpAny_bind (ei_bound hx hxc hC hb ?_)
  refine wpAny_pure ⟨plainId_quiet (by decide +kernel) _, codeAny_builtin ei_init ?_⟩
  exact bi_init hx hd hsz hq
end
end
section
open PySem PySem.W PyProof.Rows PySem.Calls
set_option maxRecDepth 100000
set_option maxHeartbeats 4000000
/-- the exception's object, its dict and its fields -/
noncomputable abbrev excObj (dd : Option Addr) (ws : Array Value) : Obj := { cls := .ref 34, dict := dd, data := .fields ws }
theorem exc_inst0 {h₀ h : Heap} {L x : Addr} {news : List (Addr × Obj)} {ws : Array Value} (N : News h₀ L h news) (h1 : (x, excObj none ws) ∈ news) : InstAt h x (excObj none ws) 34 none := ⟨(N _ h1).1, rfl, rfl, trivial⟩
theorem exc_inst1 {h₀ h : Heap} {L x dx : Addr} {od : Obj} {news : List (Addr × Obj)} {ws : Array Value} (N : News h₀ L h news) (h1 : (x, excObj (some dx) ws) ∈ news) (h2 : (dx, od) ∈ news) : InstAt h x (excObj (some dx) ws) 34 (some od) := ⟨(N _ h1).1, rfl, rfl, (N _ h2).1⟩
theorem ns_some_of {K : Frag} {h : Heap} {N : Addr} {mg : Str → Option Value} {n : Str} {v : Value} (X : K.In h) (G : h.Ns N mg) (e : nsIn K N n = some (some v)) : mg n = some v := by
  obtain ⟨o, es, ep, ho, hd, _, hf⟩ := G
  unfold nsIn at e
  split at e
  · rename_i q
    have z := X _ _ q
    rw [ho] at z
    cases z
    cases hd
    split at e
    · rename_i he
      cases e
      rw [← hf]
      unfold nsFind findBy
      rw [← Array.find?_toList, he]
      rfl
    · split at e <;> cases e
  · cases e
end
local macro_rules | `(tactic| k_inst) => `(tactic| first
  | (refine' exc_inst0 ?N ?h1; (case N => k_asm); (case h1 => k_mem))
  | (refine' exc_inst1 ?N ?h1 ?h2; (case N => k_asm); (case h1 => k_mem); (case h2 => k_mem)))
section
open PySem PySem.W PyProof.Rows PySem.Calls
set_option maxRecDepth 100000
set_option maxHeartbeats 4000000

theorem fr_but {h₀ h h' : Heap} {L x : Addr} {m : Str → Option Value} (F : Fr h₀ L h m) (hx : h₀.get? x = none) (hxL : x ≠ L) (k : ∀ b o, b ≠ x → h.get? b = some o → h'.get? b = some o) : Fr h₀ L h' m := by
  obtain ⟨⟨o, es, ep, ho, r⟩, kp, ab⟩ := F
  refine ⟨⟨o, es, ep, k _ _ (Ne.symm hxL) ho, r⟩, fun b o e => k b o (fun q => ?_) (kp b o e), ab⟩
  rw [q, hx] at e; cases e
theorem news_but {h₀ h h' : Heap} {L x : Addr} {o o' : Obj} {l : List (Addr × Obj)} (N : News h₀ L h ((x, o) :: l)) (hl : ∀ p ∈ l, p.1 ≠ x) (k : ∀ b o, b ≠ x → h.get? b = some o → h'.get? b = some o) (hx : h'.get? x = some o') : News h₀ L h' ((x, o') :: l) := fun p hp => by
  rcases List.mem_cons.mp hp with rfl | hp
  · exact ⟨hx, (N _ (.head _)).2⟩
  · exact ⟨k _ _ (hl p hp) (N _ (.tail _ hp)).1, (N _ (.tail _ hp)).2⟩
theorem exc_with {M : Model} {A : Around} {E : Value → Shared → Prop} {s : Shared} {q x : Addr} {pos : Pos} {first : List Value} {e : Expr} {rest : List Expr} {env : Env} {Q : Value → Shared → Prop}
    (h : wpAny M A (spliced (backTo pos (starEach (e :: rest) env))) (fun vs s₁ => s₁.heap.get? q = some (wrapObj x) ∧ wpAny M A (call (.ref q) (first ++ vs)) Q E s₁) E s)
    (he : starEach (e :: rest) env = (false, eval e env) :: starEach rest env := by rfl) (hplain : (backTo pos (starEach rest env)).any (·.1) = false := by rfl) :
    wpAny M A (callWith pos (.ref q) first (backTo pos (starEach (e :: rest) env)) []) Q E s := by
  rw [he] at h ⊢
  refine callWith_of (P := fun h => h.get? q = some (wrapObj x)) (by show ((false || (backTo pos (starEach rest env)).any (·.1)) || false) = false; rw [hplain]; rfl) (fun h hq => ⟨.machine, .inr (.inl rfl), ?_⟩) (evalArgs_plain h)
  exact (Looks.ld (part := none) hq).andThen .now
theorem inst_look {h : Heap} {x : Addr} {mA : Str → Option Value} {n : Str} {v : Value} (I : h.InstFk x 34 mA) (hm : mA n = some v) : ∃ o dd od, h.get? x = some o ∧ o.dict = some dd ∧ dd ≠ x ∧ h.get? dd = some od ∧ lookIn n od = some (some v) ∧ (∀ vs, od.data ≠ .fields vs) := by
  obtain ⟨o, ho, _, _, hd⟩ := I
  rcases hd with ⟨_, hn⟩ | ⟨dd, hdd, hne, ⟨od, es, ep, h1, h2, _, _, h5⟩, _⟩
  · rw [hn] at hm; cases hm
  · refine ⟨o, dd, od, ho, hdd, hne, h1, ?_, fun vs q => by rw [h2] at q; cases q⟩
    have z := h5 n
    rw [hm] at z
    unfold lookIn
    rw [h2]
    dsimp only
    unfold nsFind findBy at z
    rw [← Array.find?_toList] at z
    cases hf : es.toList.find? (·.key.isStr n) with
    | none => rw [hf] at z; cases z
    | some en => rw [hf] at z; exact congrArg some z
theorem under_frames {A : Around} {l : List Env} {a : List Value} (h : A.frames = some l) : (A.under (.builtin "type.__call__" ⟨a, []⟩)).frames = some l := by
  show pushEnvs (Code.envs (.builtin "type.__call__" ⟨a, []⟩)) A.frames = _
  rw [h]; rfl
end
section
open PySem PySem.W PyProof.Rows PySem.Calls
open Builtin Builtin.ObjectAttr
set_option maxRecDepth 100000
set_option maxHeartbeats 1000000
section
variable {prog : Program} {w : World} {A : Around} {E : Value → Shared → Prop} {h : Heap} {g : Array GenState} {d : Drawn} {t : Nat} {os : OsState}
variable {nm q : Str} {C N x : Addr} {bs bm : List Value} {sn : List Str} {sub : List Value} {ab : Bool} {col : Option Bool} {dd : Option Addr} {k0 k1 k2 k3 k5 : Option Value} {B newId sa owner : String}
  {mN : Str → Option Value} {name : Str} {v : Value}
/-- the first attribute of an object without a dict: a new dict that holds it alone -/
theorem first_entry {tk : Tok} {ws : Array Value} {Q : Fin → Shared → Prop} (SF : StoreFacts B bm sa owner)
    (hC : h.get? C = some (excClassObj nm q C N bs bm true sn sub ab col dd k0 k1 k2 k3 k5 newId)) (hn : h.Ns N mN) (hna : mN name = none)
    (hB : typeLookup (.type B) name = pure none) (hx : h.get? x = some { cls := .ref C, data := .fields ws })
    (hq : ∀ h' tk', h'.get? x = some { cls := .ref C, dict := some h.objs.size, data := .fields ws } → (∀ b o, b ≠ x → h.get? b = some o → h'.get? b = some o) →
      h'.Ns1 h.objs.size (fun y => if y = name then some v else none) → h'.ExactDictFk h.objs.size → Q (.done (.ret .none)) ⟨h', g, d, tk', os⟩) :
    wpAny (model prog w) A (Builtin.«object.__setattr__» ⟨[.ref x, .str name tk, v], []⟩) Q E ⟨h, g, d, t, os⟩ := by
  have hpass := SF.passes (.ref x)
  have hc : ({ cls := .ref C, data := .fields ws } : Obj).cls = .ref C := rfl
  have hx₁ : (h.push { cls := .type "dict", data := .dict #[] }).get? x = some { cls := .ref C, data := .fields ws } := Heap.get?_push_of_some _ hx
  have hxs : x ≠ h.objs.size := Nat.ne_of_lt (Heap.lt_size hx)
  have hgd : ((h.push { cls := .type "dict", data := .dict #[] }).update x fun o => { cls := o.cls, dict := some h.objs.size, data := o.data, slots := o.slots }).get? h.objs.size
      = some { cls := .type "dict", data := .dict #[] } := (Heap.get?_update_ne _ _ _ _ hxs.symm).trans (Heap.get?_push_at rfl rfl)
  have hnd : ((h.push { cls := .type "dict", data := .dict #[] }).update x fun o => { cls := o.cls, dict := some h.objs.size, data := o.data, slots := o.slots }).Ns1 h.objs.size (fun _ => none) :=
    Heap.Ns1.of_empty ⟨_, #[], _, hgd, rfl, fun e he => absurd he (by simp), fun _ => rfl⟩
  unfold Builtin.«object.__setattr__»
  repeat (first | rw [refuse_eq] | (rw [refuseLoop_ref, hpass]) | (with_reducible refine wpAny_loadPart_at hx ?_; rw [hc]) | with_reducible refine wpAny_mroOf_exc hC ?_ | (with_reducible refine wpAny_typeLookup_exc hC hn SF.mro hB ?_; rw [hna]) | (with_reducible refine wpAny_nsSet1EFk hnd fun h' hn' hs hkeepD => ?_) | wp_step)
  obtain ⟨oD, esD, epD, hoD, hdD, hcD⟩ := hn'.count (Within.cons name v Within.nil)
  have hp : oD.data.pastItsLine = none := by rw [hdD]; exact pastItsLine_dict (Nat.le_trans hcD (by rw [List.length_cons, List.length_nil, sizeLine_eq]; omega))
  refine wpAny_loadPart_at hoD ?_
  rw [hp]
  refine wpAny_pure (wpAny_pure (hq h' _ ?_ (fun b o hb e => ?_) ?_ ?_))
  · refine (hs.2 x hxs).trans ?_
    rw [Heap.get?_update_self _ hx₁ rfl]
  · exact (hs.2 b (Nat.ne_of_lt (Heap.lt_size e))).trans ((Heap.get?_update_ne _ _ _ _ hb).trans (Heap.get?_push_of_some _ e))
  · exact hn'
  · obtain ⟨od', e', c', d'⟩ := hkeepD _ hgd
    exact ⟨od', e', c', d'⟩
theorem first_attr {ws : Array Value} {Q : Unit → Shared → Prop} (SF : StoreFacts B bm sa owner)
    (hC : h.get? C = some (excClassObj nm q C N bs bm true sn sub ab col dd k0 k1 k2 k3 k5 newId)) (hn : h.Ns N mN) (hns : mN "__setattr__" = none) (hna : mN name = none)
    (hB : typeLookup (.type B) name = pure none) (hx : h.get? x = some { cls := .ref C, data := .fields ws })
    (hq : ∀ h' tk', h'.get? x = some { cls := .ref C, dict := some h.objs.size, data := .fields ws } → (∀ b o, b ≠ x → h.get? b = some o → h'.get? b = some o) →
      h'.Ns1 h.objs.size (fun y => if y = name then some v else none) → h'.ExactDictFk h.objs.size → Q () ⟨h', g, d, tk', os⟩) :
    wpAny (model prog w) A (setAttr (.ref x) name v) Q E ⟨h, g, d, t, os⟩ := by
  have f3 := SF.slot.bind (.ref x)
  have hc : ({ cls := .ref C, data := .fields ws } : Obj).cls = .ref C := rfl
  unfold setAttr callSpecial? specialOf
  repeat (any_goals (first | assumption | (with_reducible refine wpAny_loadPart_at hx ?_; rw [hc]) | (with_reducible refine wpAny_typeLookup_exc hC hn SF.mro SF.slot.lookup ?_; rw [hns]) | wp_step))
  refine codeAny_call_builtin SF.slot.plain SF.entry (wpAny_check_sa SF hC hx rfl (first_entry SF hC hn hna hB hx fun h' tk' a b c e => ?_))
  repeat (any_goals (first | assumption | wp_step))
  exact hq h' tk' a b c e
end
end
section
open PySem PySem.W PyProof.Rows PySem.Calls
set_option maxRecDepth 100000
set_option maxHeartbeats 4000000
theorem be_call (w : World) : ∀ (A A₀ : Around) (env : Env) (outer : List Env) (base h₀ : Heap) (L : Addr) (m mg mb : Str → Option Value) (mean : ExcName → Option Value) (news : List (Addr × Obj)) (s : Shared) (c : Str) (tk : Tok) (Q E : Value → Shared → Prop),
    (hd.heap_1 w.params).In h₀ → Fr h₀ L s.heap m → News h₀ L s.heap news → Below A₀ base outer h₀ → Top topProg loose mean mg mb h₀ → A.frames = some (env :: outer) → env.frame = some L → env.scope.kind = .function →
    A.depth + 10 < recursionLimit →
    (∀ e dd od ws h' tk', Fr h₀ L h' m → News h₀ L h' ((e, excObj (some dd) ws) :: (dd, od) :: news) → (∀ p ∈ (dd, od) :: news, p.1 ≠ e) → lookIn "code" od = some (some (.str c tk)) → (∀ vs, od.data ≠ .fields vs) → (∃ a0, ws[0]? = some a0) → ws[1]? = some .none → Q (.ref e) { s with heap := h', toks := tk' }) →
    wpAny (model PySem.Challenge.rw_pq0145_01.row.prog w) A (call (.ref 34) [.str c tk]) Q E s := by
  w_top off
  k_with_none
  k_fill
  intro A A₀ env outer base h₀ L m mg mb mean news s c tk Q E K F N B T hA hf hke hroom hQ
  have X := K.keeps F.keep
  obtain ⟨hp, g, d, t, os⟩ := s
  have hnN := Heap.Ns.of_isNs (isNs_of_in (N := 33) X (by kernel_rfl))
  refine wpAny_call_exc_init _root_.PySem.F.excBase_Exception (X 34 _ rfl) hnN (ns_some_of X hnN (by kernel_rfl)) (X 31 _ rfl) rfl fun h' e hm => ?_
  obtain ⟨ta, he, hta, _⟩ := hm.there
  have F1 := F.keeps hm.keeps
  have N0 : News h₀ L h' news := fun q hq => ⟨hm.keeps _ _ (N q hq).1, (N q hq).2⟩
  have hen : h₀.get? e = none := kts_none F.keep hm.new
  have N1 := News.more F1 N0 he (fun es n q => by cases q) hen
  have hlt : ∀ p ∈ news, p.1 ≠ e := fun p hp' q => by
    have z := (N p hp').1
    rw [q] at z; rw [hm.new] at z; cases z
  refine wpAny_call ?_
  k_dflt (refine' ks_code_super (s := ⟨h', g, d, t, os⟩) B F1 K N1 T ?hA hf hke ?k6 ?k7 ?k8 ?k9 ?kB ?_ ?c1 ?c2 ?c3 ?c4; (case k6 => k_is); (case k7 => k_is); (case k8 => show A.depth + 1 < recursionLimit; omega); (case k9 => exact binds_K (X.keeps hm.keeps) rfl (by k_is) rfl rfl rfl); (case kB => exact locs rfl); (case hA => exact under_frames hA); (case c1 => decide); (case c2 => exact rfl); (case c3 => exact rfl); (case c4 => exact rfl))
  intro g' L' h' FG' F' N' B' X' T' l1
  try k_lt l1
  try dsimp only
  k_steps
  rename_i so h2 F2 N2 l2
  have hne2 : e ≠ so := Nat.ne_of_lt l2.1
  have e2 := N2 (e, _) (.tail _ (.head _))
  have so2 := N2 (so, _) (.head _)
  have X2 : (hd.heap_1 w.params).In h2 := X'.keeps F2.keep
  have ma (M : Model) : Looks M h2 (mroOf (.ref 34)) [.ref 34, .type "Exception", .type "BaseException", .type "object"] := fun A Q E s k q => wpAny_bind ((looks_clsIn X2 (C := 34) rfl) A _ E s k (wpAny_pure q))
  refine sg_method so2.1 (looks_opaque X2 (by k_is)) (ma _) X2 (by kernel_rfl) (ks_ne X2 (exc_inst0 N2 (.tail _ (.head _))) (by k_is)) e2.1 rfl (X2 34 _ rfl) rfl ?_
  have F3 := F2.push (wrapObj e)
  have N3 := N2.push F2 (wrapObj e)
  refine exc_with (x := e) ?_
  k_steps
  · exact (N3 _ (.head _)).1
  have X3 : (hd.heap_1 w.params).In (h2.push (wrapObj e)) := X'.keeps F3.keep
  refine mw_call (N3 _ (.head _)).1 (N3 (e, _) (.tail _ (.tail _ (.head _)))).1 rfl rfl (Nat.zero_lt_succ _) (X3 34 _ rfl) rfl fun h4 k4 e4 => ?_
  have F4 := fr_but F3 e2.2.2 e2.2.1 k4
  have N4 : News g' L' h4 ((e, _) :: news) := news_but (h := h2.push (wrapObj e)) (o := excObj none _) (fun p hp => N3 p (.tail _ (.tail _ hp))) hlt k4 e4
  clear N3 F3 F2 N2 e4
  try dsimp only
  k_steps
  have e4' := (N4 _ (.head _)).1
  have hX4 : (hd.heap_1 w.params).In h4 := X'.keeps F4.keep
  have hn4 := Heap.Ns.of_isNs (isNs_of_in (N := 33) hX4 (by kernel_rfl))
  have hee : e ≠ 34 := ks_ne hX4 (exc_inst0 N4 (.head _)) (by k_is)
  refine first_attr _root_.PySem.F.store_Exception (hX4 34 _ rfl) hn4 (nsMap_none_of_in hX4 (by kernel_rfl) (by kernel_rfl)) (nsMap_none_of_in hX4 (by kernel_rfl) (by kernel_rfl)) (by rw [typeLookup_type, builtinLookup_eq_fast]; kernel_rfl) (N4 _ (.head _)).1 fun h5 tk5 e5 k5 ns5 ed5 => ?_
  have F5 := fr_but F4 e2.2.2 e2.2.1 k5
  have I5 : h5.InstFk e 34 (fun y => if y = Str.ofString "code" then some (.str c tk) else none) := ⟨_, e5, rfl, (fun c q => by cases q), .inr ⟨_, rfl, Nat.ne_of_gt (Heap.lt_size (N4 _ (.head _)).1), ns5, ed5⟩⟩
  k_steps
  have hX5 : (hd.heap_1 w.params).In h5 := X'.keeps F5.keep
  have hn5 := Heap.Ns.of_isNs (isNs_of_in (N := 33) hX5 (by kernel_rfl))
  refine store_attrFk _root_.PySem.F.store_Exception (hX5 34 _ rfl) hn5 (nsMap_none_of_in hX5 (by kernel_rfl) (by kernel_rfl)) (nsMap_none_of_in hX5 (by kernel_rfl) (by kernel_rfl)) (by rw [typeLookup_type, builtinLookup_eq_fast]; kernel_rfl) hee I5 (fun h6 tk6 I6 k6 s6 => ?_) (Within.cons _ _ Within.nil)
  have k46 : ∀ b o, b ≠ e → h4.get? b = some o → h6.get? b = some o := fun b o hb q => k6 b o hb (fun o₀ dx h1 h2 => by rw [e5] at h1; cases h1; cases h2; exact Nat.ne_of_lt (Heap.lt_size q)) (k5 b o hb q)
  have F6 := fr_but F4 e2.2.2 e2.2.1 k46
  obtain ⟨o6, e6, c6, d6, sl6, dd6⟩ := s6 _ e5
  obtain ⟨ws6, e6', hw0, hw1⟩ : ∃ ws, h6.get? e = some (excObj (some h4.objs.size) ws) ∧ (∃ a0, ws[0]? = some a0) ∧ ws[1]? = some .none := by
    obtain ⟨oc, od, odt, osl⟩ := o6
    dsimp only at c6 d6 sl6
    subst c6 d6 sl6
    have z := dd6 _ rfl
    dsimp only at z
    subst z
    exact ⟨_, e6, ⟨_, rfl⟩, rfl⟩
  obtain ⟨o7, dd, od, e7, hdd, hne7, hod, hlk, hnf⟩ := inst_look (n := Str.ofString "code") I6 (v := .str c tk) (by rw [if_neg (by decide), if_pos rfl])
  rw [e6'] at e7
  cases e7
  cases hdd
  have N6 : News g' L' h6 ((e, excObj (some h4.objs.size) ws6) :: news) := news_but N4 hlt k46 e6'
  have N7 : News g' L' h6 ((e, excObj (some h4.objs.size) ws6) :: (h4.objs.size, od) :: news) := fun p hp => by
    rcases List.mem_cons.mp hp with rfl | hp
    · exact N6 _ (.head _)
    · rcases List.mem_cons.mp hp with rfl | hp
      · exact ⟨hod, Nat.ne_of_gt F4.ns.lt, none_at_size (s := ⟨h4, g, d, t, os⟩) F4⟩
      · exact N6 _ (.tail _ hp)
  clear N4 N6
  k_steps
  exact hQ _ _ _ _ _ _ (by assumption) (by assumption) (fun p hp => (List.mem_cons.mp hp).elim (fun q => q ▸ Nat.ne_of_gt (Heap.lt_size e4')) (hlt p)) hlk hnf hw0 hw1
theorem be_call2 (w : World) : ∀ (A A₀ : Around) (env : Env) (outer : List Env) (base h₀ : Heap) (L : Addr) (m mg mb : Str → Option Value) (mean : ExcName → Option Value) (news : List (Addr × Obj)) (s : Shared) (c : Str) (tk : Tok) (v2 : Value) (Q E : Value → Shared → Prop),
    (hd.heap_1 w.params).In h₀ → Fr h₀ L s.heap m → News h₀ L s.heap news → Below A₀ base outer h₀ → Top topProg loose mean mg mb h₀ → A.frames = some (env :: outer) → env.frame = some L → env.scope.kind = .function →
    A.depth + 10 < recursionLimit →
    (∀ e dd od ws h' tk', Fr h₀ L h' m → News h₀ L h' ((e, excObj (some dd) ws) :: (dd, od) :: news) → (∀ p ∈ (dd, od) :: news, p.1 ≠ e) → lookIn "code" od = some (some (.str c tk)) → (∀ vs, od.data ≠ .fields vs) → (∃ a0, ws[0]? = some a0) → ws[1]? = some .none → Q (.ref e) { s with heap := h', toks := tk' }) →
    wpAny (model PySem.Challenge.rw_pq0145_01.row.prog w) A (call (.ref 34) [.str c tk, v2]) Q E s := by
  w_top off
  k_with_none
  k_fill
  intro A A₀ env outer base h₀ L m mg mb mean news s c tk v2 Q E K F N B T hA hf hke hroom hQ
  have X := K.keeps F.keep
  obtain ⟨hp, g, d, t, os⟩ := s
  have hnN := Heap.Ns.of_isNs (isNs_of_in (N := 33) X (by kernel_rfl))
  refine wpAny_call_exc_init _root_.PySem.F.excBase_Exception (X 34 _ rfl) hnN (ns_some_of X hnN (by kernel_rfl)) (X 31 _ rfl) rfl fun h' e hm => ?_
  obtain ⟨ta, he, hta, _⟩ := hm.there
  have F1 := F.keeps hm.keeps
  have N0 : News h₀ L h' news := fun q hq => ⟨hm.keeps _ _ (N q hq).1, (N q hq).2⟩
  have hen : h₀.get? e = none := kts_none F.keep hm.new
  have N1 := News.more F1 N0 he (fun es n q => by cases q) hen
  have hlt : ∀ p ∈ news, p.1 ≠ e := fun p hp' q => by
    have z := (N p hp').1
    rw [q] at z; rw [hm.new] at z; cases z
  refine wpAny_call ?_
  k_dflt (refine' ks_code_super (s := ⟨h', g, d, t, os⟩) B F1 K N1 T ?hA hf hke ?k6 ?k7 ?k8 ?k9 ?kB ?_ ?c1 ?c2 ?c3 ?c4; (case k6 => k_is); (case k7 => k_is); (case k8 => show A.depth + 1 < recursionLimit; omega); (case k9 => exact binds_K (X.keeps hm.keeps) rfl (by k_is) rfl rfl rfl); (case kB => exact locs rfl); (case hA => exact under_frames hA); (case c1 => decide); (case c2 => exact rfl); (case c3 => exact rfl); (case c4 => exact rfl))
  intro g' L' h' FG' F' N' B' X' T' l1
  try k_lt l1
  try dsimp only
  refine ks_wpAt_execs_cons (ks_wpAt_Expr_any (ks_wpAt_MethodCall ?_))
  k_steps
  rename_i so h2 F2 N2 l2
  have hne2 : e ≠ so := Nat.ne_of_lt l2.1
  have e2 := N2 (e, _) (.tail _ (.head _))
  have so2 := N2 (so, _) (.head _)
  have X2 : (hd.heap_1 w.params).In h2 := X'.keeps F2.keep
  have ma (M : Model) : Looks M h2 (mroOf (.ref 34)) [.ref 34, .type "Exception", .type "BaseException", .type "object"] := fun A Q E s k q => wpAny_bind ((looks_clsIn X2 (C := 34) rfl) A _ E s k (wpAny_pure q))
  refine sg_method so2.1 (looks_opaque X2 (by k_is)) (ma _) X2 (by kernel_rfl) (ks_ne X2 (exc_inst0 N2 (.tail _ (.head _))) (by k_is)) e2.1 rfl (X2 34 _ rfl) rfl ?_
  have F3 := F2.push (wrapObj e)
  have N3 := N2.push F2 (wrapObj e)
  refine exc_with (x := e) ?_
  k_steps
  · exact (N3 _ (.head _)).1
  have X3 : (hd.heap_1 w.params).In (h2.push (wrapObj e)) := X'.keeps F3.keep
  refine mw_call (N3 _ (.head _)).1 (N3 (e, _) (.tail _ (.tail _ (.head _)))).1 rfl rfl (Nat.zero_lt_succ _) (X3 34 _ rfl) rfl fun h4 k4 e4 => ?_
  have F4 := fr_but F3 e2.2.2 e2.2.1 k4
  have N4 : News g' L' h4 ((e, _) :: news) := news_but (h := h2.push (wrapObj e)) (o := excObj none _) (fun p hp => N3 p (.tail _ (.tail _ hp))) hlt k4 e4
  clear N3 F3 F2 N2 e4
  try dsimp only
  k_steps
  have e4' := (N4 _ (.head _)).1
  have hX4 : (hd.heap_1 w.params).In h4 := X'.keeps F4.keep
  have hn4 := Heap.Ns.of_isNs (isNs_of_in (N := 33) hX4 (by kernel_rfl))
  have hee : e ≠ 34 := ks_ne hX4 (exc_inst0 N4 (.head _)) (by k_is)
  refine first_attr _root_.PySem.F.store_Exception (hX4 34 _ rfl) hn4 (nsMap_none_of_in hX4 (by kernel_rfl) (by kernel_rfl)) (nsMap_none_of_in hX4 (by kernel_rfl) (by kernel_rfl)) (by rw [typeLookup_type, builtinLookup_eq_fast]; kernel_rfl) (N4 _ (.head _)).1 fun h5 tk5 e5 k5 ns5 ed5 => ?_
  have F5 := fr_but F4 e2.2.2 e2.2.1 k5
  have I5 : h5.InstFk e 34 (fun y => if y = Str.ofString "code" then some (.str c tk) else none) := ⟨_, e5, rfl, (fun c q => by cases q), .inr ⟨_, rfl, Nat.ne_of_gt (Heap.lt_size (N4 _ (.head _)).1), ns5, ed5⟩⟩
  k_steps
  have hX5 : (hd.heap_1 w.params).In h5 := X'.keeps F5.keep
  have hn5 := Heap.Ns.of_isNs (isNs_of_in (N := 33) hX5 (by kernel_rfl))
  refine store_attrFk _root_.PySem.F.store_Exception (hX5 34 _ rfl) hn5 (nsMap_none_of_in hX5 (by kernel_rfl) (by kernel_rfl)) (nsMap_none_of_in hX5 (by kernel_rfl) (by kernel_rfl)) (by rw [typeLookup_type, builtinLookup_eq_fast]; kernel_rfl) hee I5 (fun h6 tk6 I6 k6 s6 => ?_) (Within.cons _ _ Within.nil)
  have k46 : ∀ b o, b ≠ e → h4.get? b = some o → h6.get? b = some o := fun b o hb q => k6 b o hb (fun o₀ dx h1 h2 => by rw [e5] at h1; cases h1; cases h2; exact Nat.ne_of_lt (Heap.lt_size q)) (k5 b o hb q)
  have F6 := fr_but F4 e2.2.2 e2.2.1 k46
  obtain ⟨o6, e6, c6, d6, sl6, dd6⟩ := s6 _ e5
  obtain ⟨ws6, e6', hw0, hw1⟩ : ∃ ws, h6.get? e = some (excObj (some h4.objs.size) ws) ∧ (∃ a0, ws[0]? = some a0) ∧ ws[1]? = some .none := by
    obtain ⟨oc, od, odt, osl⟩ := o6
    dsimp only at c6 d6 sl6
    subst c6 d6 sl6
    have z := dd6 _ rfl
    dsimp only at z
    subst z
    exact ⟨_, e6, ⟨_, rfl⟩, rfl⟩
  obtain ⟨o7, dd, od, e7, hdd, hne7, hod, hlk, hnf⟩ := inst_look (n := Str.ofString "code") I6 (v := .str c tk) (by rw [if_neg (by decide), if_pos rfl])
  rw [e6'] at e7
  cases e7
  cases hdd
  have N6 : News g' L' h6 ((e, excObj (some h4.objs.size) ws6) :: news) := news_but N4 hlt k46 e6'
  have N7 : News g' L' h6 ((e, excObj (some h4.objs.size) ws6) :: (h4.objs.size, od) :: news) := fun p hp => by
    rcases List.mem_cons.mp hp with rfl | hp
    · exact N6 _ (.head _)
    · rcases List.mem_cons.mp hp with rfl | hp
      · exact ⟨hod, Nat.ne_of_gt F4.ns.lt, none_at_size (s := ⟨h4, g, d, t, os⟩) F4⟩
      · exact N6 _ (.tail _ hp)
  clear N4 N6
  k_steps
  exact hQ _ _ _ _ _ _ (by assumption) (by assumption) (fun p hp => (List.mem_cons.mp hp).elim (fun q => q ▸ Nat.ne_of_gt (Heap.lt_size e4')) (hlt p)) hlk hnf hw0 hw1
end
section
open PySem PySem.W PyProof.Rows PySem.Calls PySem.Spec
set_option maxRecDepth 100000
set_option maxHeartbeats 1000000
/-- the exception with its dict, its newest traceback at hand -/
noncomputable def TrD (h B : Heap) (e dd : Addr) (fl : Value) : Prop :=
  ∃ ws T oT ts, h.get? e = some (excObj (some dd) ws) ∧ ws[1]? = some (.ref T) ∧ B.get? T = none ∧ T ≠ e ∧ h.get? T = some oT ∧ oT.data = .fields ts ∧ ts[3]? = some fl
section
variable {M : Model} {A : Around} {E : Value → Shared → Prop} {s : Shared} {B : Heap} {env : Env} {outer l : List Env} {L e dd : Addr} {ws : Array Value}
theorem entryD {head : Value} {hadNext : Bool} {Q : Unit → Shared → Prop} (hfr : A.frames = some (env :: outer)) (hl : s.heap.FunFrames B (env :: outer)) (hf : env.frame = some L)
    (he : s.heap.get? e = some (excObj (some dd) ws)) (hkb : B.StaysIn s.heap) (hen : B.get? e = none) (hsz : 1 < ws.size)
    (h : ∀ h', B.StaysIn h' → h'.FunFrames B (env :: outer) → TrD h' B e dd (rawInt L) → s.heap.UpToSlots h' → Q () { s with heap := h' }) :
    wpAny M A (do let a ← frameOf env; let pl ← entryPlaceOf L hadNext; let b ← EntryCells.newEntry head a .none (rawInt L) .none pl; setField (.ref e) 1 b) Q E s := by
  have hd : (excObj (some dd) ws).data = .fields ws := rfl
  have hene : e ∉ (env :: outer).filterMap (·.frame) := fun hm => by
    obtain ⟨_, o, ho, hnf⟩ := hl.mem hm
    rw [he] at ho
    cases ho
    exact hnf ws rfl
  refine wpAny_bind (wpAny_frameOf_fun hfr hl hf fun h₁ hs₁ => ?_)
  refine wpAny_bind (wpAny_entryPlaceOf fun pl hpl => ?_)
  unfold EntryCells.newEntry newFields
  refine wpAny_bind (wpAny_newObj_type ?_ (hpl.sizeOk5 _ _ _ _ _))
  generalize hob : ({ cls := .type "traceback", dict := none, data := .fields ([head, .ref L, .none, rawInt L, .none] ++ (if pl.isEmpty then List.replicate 6 Value.none else pl)).toArray } : Obj) = ob
  have he₁ : h₁.get? e = some (excObj (some dd) ws) := (hs₁.2.1 e hene).trans he
  have kb₁ : B.StaysIn h₁ := fun b o hbo => (hs₁.2.1 b fun hm => by rw [(hl.mem hm).1] at hbo; cases hbo).trans (hkb b o hbo)
  have he₂ := Heap.get?_push_of_some (h := h₁) ob he₁
  refine wpAny_setField he₂ hd hsz ?_
  have hTe : h₁.objs.size ≠ e := Nat.ne_of_gt (Heap.lt_size he₁)
  have he₃ := Heap.get?_update_self (Obj.mapFields (·.setIfInBounds 1 (Value.ref h₁.objs.size))) he₂ rfl
  have hT₃ : ((h₁.push ob).update e (Obj.mapFields (·.setIfInBounds 1 (Value.ref h₁.objs.size)))).get? h₁.objs.size = some ob :=
    (Heap.get?_update_other _ _ (Ne.symm hTe)).trans (Heap.get?_push_size h₁ (by rw [← hob]; rfl))
  have keep : ∀ b o, b ≠ e → h₁.get? b = some o → ((h₁.push ob).update e (Obj.mapFields (·.setIfInBounds 1 (Value.ref h₁.objs.size)))).get? b = some o := fun b o hbe hb => by
    rw [Heap.get?_update_other _ _ (Ne.symm hbe)]
    exact Heap.get?_push_of_some _ hb
  have noRec : ∀ b o, s.heap.get? b = some o → (∀ vs, o.data ≠ .fields vs) → b ≠ e := fun b o hb hnf q => by
    rw [q, he] at hb
    cases hb
    exact hnf ws rfl
  refine h _ (fun b o hbo => keep b o (fun q => by rw [q, hen] at hbo; cases hbo) (kb₁ b o hbo)) (hl.of_keeps fun b o hb hnf => ?_) ⟨_, h₁.objs.size, ob, ([head, .ref L, .none, rawInt L, .none] ++ (if pl.isEmpty then List.replicate 6 Value.none else pl)).toArray, he₃, by simp [hsz], kb₁.fresh, hTe, hT₃, by rw [← hob], ?_⟩ (fun b o hb hnf => ?_)
  · obtain ⟨sl, hs⟩ := hs₁.2.2 b o hb
    exact ⟨_, keep b _ (noRec b o hb hnf) hs, rfl⟩
  · first | (simp; done) | (rcases hpl with rfl | ⟨_, _, _, _, _, _, _, rfl⟩ <;> simp)
  · obtain ⟨sl, hs⟩ := hs₁.2.2 b o hb
    exact ⟨sl, keep b _ (noRec b o hb hnf) hs⟩
theorem noteD_first {Q : Unit → Shared → Prop} (hfr : A.frames = some (env :: outer)) (hl : s.heap.FunFrames B (env :: outer)) (hf : env.frame = some L)
    (he : s.heap.get? e = some (excObj (some dd) ws)) (hkb : B.StaysIn s.heap) (hen : B.get? e = none) (h1 : ws[1]? = some .none)
    (h : ∀ h', B.StaysIn h' → h'.FunFrames B (env :: outer) → TrD h' B e dd (rawInt L) → s.heap.UpToSlots h' → Q () { s with heap := h' }) : wpAny M A (noteFrame (.ref e) env) Q E s := by
  unfold noteFrame
  simp only [hf]
  refine wpAny_bind (wpAny_field he rfl h1 ?_)
  rw [if_neg (by decide)]
  exact entryD hfr hl hf he hkb hen (Array.getElem?_eq_some_iff.mp h1).1 h
theorem noteD_next {Q : Unit → Shared → Prop} (hfr : A.frames = some (env :: outer)) (hl : s.heap.FunFrames B (env :: outer)) (hf : env.frame = some L) (ht : TrD s.heap B e dd .none) (hkb : B.StaysIn s.heap) (hen : B.get? e = none)
    (h : ∀ h', B.StaysIn h' → h'.FunFrames B (env :: outer) → TrD h' B e dd (rawInt L) → s.heap.UpToSlots h' → Q () { s with heap := h' }) : wpAny M A (noteFrame (.ref e) env) Q E s := by
  obtain ⟨ws, T, oT, ts, he, h1, hnT, hTe, hT, hdT, h3⟩ := ht
  unfold noteFrame
  simp only [hf]
  refine wpAny_bind (wpAny_field he rfl h1 ?_)
  rw [if_pos (show (Value.ref T != Value.none) = true from by simp)]
  refine wpAny_bind (wpAny_field hT hdT h3 ?_)
  rw [if_neg (show ¬ ((Value.none == rawInt L) = true) from by simp [rawInt])]
  refine wpAny_bind (wpAny_setField hT hdT (Array.getElem?_eq_some_iff.mp h3).1 ?_)
  have other : ∀ b, b ≠ T → (s.heap.update T (Obj.mapFields (·.setIfInBounds 3 Value.none))).get? b = s.heap.get? b := fun b hb => Heap.get?_update_other _ _ (Ne.symm hb)
  have noRec : ∀ b o, s.heap.get? b = some o → (∀ vs, o.data ≠ .fields vs) → b ≠ T := fun b o hb hnf q => by
    rw [q, hT] at hb
    cases hb
    exact hnf ts hdT
  exact entryD hfr (hl.of_keeps fun b o hb hnf => ⟨o, (other b (noRec b o hb hnf)).trans hb, rfl⟩) hf ((other e (Ne.symm hTe)).trans he)
    (fun b o hbo => (other b fun q => by rw [q, hnT] at hbo; cases hbo).trans (hkb b o hbo)) hen (Array.getElem?_eq_some_iff.mp h1).1
    fun h' x1 x2 x3 x4 => h h' x1 x2 x3 fun b o hb hnf => x4 b o ((other b (noRec b o hb hnf)).trans hb) hnf
theorem flightD {fl : Value} {Q : Unit → Shared → Prop} (hkb : B.StaysIn s.heap) (hl : s.heap.FunFrames B l) (ht : TrD s.heap B e dd fl)
    (h : ∀ h', B.StaysIn h' → h'.FunFrames B l → TrD h' B e dd .none → s.heap.UpToSlots h' → Q () { s with heap := h' }) : wpAny M A (setFlight (.ref e) none) Q E s := by
  obtain ⟨ws, T, oT, ts, he, h1, hnT, hTe, hT, hdT, h3⟩ := ht
  have hsz3 : 3 < ts.size := (Array.getElem?_eq_some_iff.mp h3).1
  have other : ∀ b, b ≠ T → (s.heap.update T (Obj.mapFields (·.setIfInBounds 3 ((none : Option Addr).elim Value.none fun f => rawInt f)))).get? b = s.heap.get? b := fun b hb => Heap.get?_update_other _ _ (Ne.symm hb)
  have noRec : ∀ b o, s.heap.get? b = some o → (∀ vs, o.data ≠ .fields vs) → b ≠ T := fun b o hb hnf q => by
    rw [q, hT] at hb
    cases hb
    exact hnf ts hdT
  unfold setFlight
  refine wpAny_bind (wpAny_field he rfl h1 ?_)
  rw [if_pos (show (Value.ref T != Value.none) = true from by simp)]
  refine wpAny_setField hT hdT hsz3 (h _ (fun b o hbo => (other b fun q => by rw [q, hnT] at hbo; cases hbo).trans (hkb b o hbo))
    (hl.of_keeps fun b o hb hnf => ⟨o, (other b (noRec b o hb hnf)).trans hb, rfl⟩) ?_ fun b o hb hnf => ⟨o.slots, (other b (noRec b o hb hnf)).trans hb⟩)
  exact ⟨ws, T, _, _, (other e (Ne.symm hTe)).trans he, h1, hnT, hTe, Heap.get?_update_self _ hT (Obj.isFreed_of_fields (Obj.data_mapFields hdT _)), Obj.data_mapFields hdT _, by simp [hsz3]⟩
end
/-- the exception in flight: what B holds stays, the ledger is in B -/
noncomputable def FlyD (base G : Heap) (l : List Env) (e dd : Addr) (news : List (Addr × Obj)) (h : Heap) : Prop :=
  ∃ B, base.StaysIn B ∧ (∀ b o, G.get? b = some o → b ∉ l.filterMap (·.frame) → B.get? b = some o) ∧ (∀ q ∈ news, B.get? q.1 = some q.2 ∧ G.get? q.1 = none ∧ base.get? q.1 = none) ∧
    B.StaysIn h ∧ B.get? e = none ∧ h.FunFrames B l ∧ TrD h B e dd .none
theorem fly_sub {base G h : Heap} {l : List Env} {e dd : Addr} {news news' : List (Addr × Obj)} (R : FlyD base G l e dd news h) (hs : ∀ p ∈ news', p ∈ news) : FlyD base G l e dd news' h := by
  obtain ⟨B, r1, r2, r3, r4⟩ := R
  exact ⟨B, r1, r2, fun q hq => r3 q (hs q hq), r4⟩
section
variable {M : Model} {A : Around} {E : Value → Shared → Prop} {s' : Shared} {base g g₂ : Heap} {env : Env} {outer : List Env} {L e dd : Addr} {m : Str → Option Value} {Q : Unit → Shared → Prop} {news : List (Addr × Obj)} {ws : Array Value}
theorem frame_mem {b : Addr} (hf : env.frame = some L) (hm : b ∈ (env :: outer).filterMap (·.frame)) : b = L ∨ b ∈ outer.filterMap (·.frame) := by
  obtain ⟨en, he, hb⟩ := List.mem_filterMap.mp hm
  rcases List.mem_cons.mp he with rfl | he
  · rw [hf] at hb; exact .inl (Option.some.inj hb).symm
  · exact .inr (List.mem_filterMap.mpr ⟨en, he, hb⟩)
theorem leaveD1 (K : Below A base outer g) (F : Fr g L s'.heap m) (N : News g L s'.heap ((e, excObj (some dd) ws) :: news)) (hne : ∀ p ∈ news, p.1 ≠ e) (h1 : ws[1]? = some .none) (hf : env.frame = some L) (hk : env.scope.kind = .function)
    (hQ : ∀ h', FlyD base g outer e dd news h' → g.UpToSlots h' → Q () { s' with heap := h' }) : wpAny M (A.deeper env) (leaving env (.ref e)) Q E s' := by
  have K' := pushX (env := env) K F hf hk
  generalize hfs : (env :: outer).filterMap (·.frame) = fs
  have hin : ∀ en ∈ (env :: outer), ∀ b, en.frame = some b → b ∈ e :: fs := fun en he b hb => .tail _ (hfs ▸ List.mem_filterMap.mpr ⟨en, he, hb⟩)
  have hge : g.get? e = none := (N _ (.head _)).2.2
  have hbe : base.get? e = none := fresh_of_stays K.stays hge
  have he := (N _ (.head _)).1
  have nfs : ∀ b o, base.get? b = some o → b ∉ fs := fun b o q hm => by
    rw [← hfs] at hm
    rw [(K'.frames.mem hm).1] at q; cases q
  have st : base.StaysIn (hideAll s'.heap (e :: fs)) := fun b o q => hideAll_get _ (K'.stays b o q) fun hm => by
    rcases List.mem_cons.mp hm with rfl | hm
    · rw [hbe] at q; cases q
    · exact nfs b o q hm
  have sg : ∀ b o, g.get? b = some o → b ∉ outer.filterMap (·.frame) → (hideAll s'.heap (e :: fs)).get? b = some o := fun b o q nm => hideAll_get _ (F.keep b o q) fun hm => by
    rcases List.mem_cons.mp hm with rfl | hm
    · rw [hge] at q; cases q
    · rw [← hfs] at hm
      rcases frame_mem hf hm with z | z
      · rw [z, kts_self F] at q; cases q
      · exact nm z
  have hl : ∀ q ∈ news, (hideAll s'.heap (e :: fs)).get? q.1 = some q.2 ∧ g.get? q.1 = none ∧ base.get? q.1 = none := fun q hq => by
    obtain ⟨n1, n2, n3⟩ := N q (.tail _ hq)
    refine ⟨hideAll_get _ n1 fun hm => ?_, n3, fresh_of_stays K.stays n3⟩
    rcases List.mem_cons.mp hm with z | hm
    · exact hne q hq z
    · rw [← hfs] at hm
      rcases frame_mem hf hm with z | z
      · exact n2 z
      · obtain ⟨o, ho, _⟩ := (K.frames.mem z).2
        rw [n3] at ho; cases ho
  unfold leaving
  refine wpAny_bind (noteD_first K'.stack (funFrames_hide K'.frames hin) hf he (fun b o q => of_hideAll _ q) (hideAll_none _ (.head _)) h1 fun h' x1 x2 x3 x4 => ?_)
  refine flightD (l := env :: outer) x1 x2 x3 fun h'' y1 y2 y3 y4 => ?_
  obtain ⟨_, _, y2'⟩ := y2
  exact hQ h'' ⟨_, st, sg, hl, y1, hideAll_none _ (.head _), y2', y3⟩ ((Heap.UpToSlots.of_keeps F.keep).trans (x4.trans y4))
theorem leaveD2 (K : Below A base outer g) (F : Fr g L g₂ m) (R : FlyD base g₂ (env :: outer) e dd news s'.heap) (hsm : g₂.UpToSlots s'.heap) (hf : env.frame = some L)
    (hQ : ∀ h', FlyD base g outer e dd news h' → g.UpToSlots h' → Q () { s' with heap := h' }) : wpAny M (A.deeper env) (leaving env (.ref e)) Q E s' := by
  obtain ⟨B, hB, hBG, hl, hs, hen, hff, ht⟩ := R
  unfold leaving
  refine wpAny_bind (noteD_next (Around.frames_deeper K.stack) hff hf ht hs hen fun h' x1 x2 x3 x4 => ?_)
  refine flightD (l := env :: outer) x1 x2 x3 fun h'' y1 y2 y3 y4 => ?_
  obtain ⟨_, _, y2'⟩ := y2
  refine hQ h'' ⟨B, hB, fun b o q nm => hBG b o (F.keep b o q) (fun hm => ?_), fun q hq => ⟨(hl q hq).1, kts_none F.keep (hl q hq).2.1, (hl q hq).2.2⟩, y1, hen, y2', y3⟩ ((Heap.UpToSlots.of_keeps F.keep).trans (hsm.trans (x4.trans y4)))
  rcases frame_mem hf hm with z | z
  · rw [z, kts_self F] at q; cases q
  · exact nm z
end
end
section
open PySem PySem.W PyProof.Rows PySem.Calls PySem.Spec
set_option maxRecDepth 100000
set_option maxHeartbeats 1000000
/-- leaving a def in which a clause may have caught: the ground may have turned, what h₀ holds and the caller's frame stand -/
noncomputable def LeaveH (h₀ : Heap) (L : Addr) (m : Str → Option Value) (R : Result → Shared → Prop) (v : Value) (s' : Shared) : Prop :=
  ∃ g' L' m' news', Fr h₀ L g' m ∧ Fr g' L' s'.heap m' ∧ News g' L' s'.heap news' ∧ (Fr h₀ L s'.heap m → News h₀ L s'.heap news' → R (.ok (.ret v)) s')
theorem turn_fr {h₀ g g' : Heap} {L : Addr} {m : Str → Option Value} {fs : List Addr} (F : Fr h₀ L g m) (T : KtsTurn fs g g') (hfs : ∀ b ∈ fs, h₀.get? b = none) : Fr h₀ L g' m := by
  obtain ⟨⟨o, es, ep, ho, hd, r⟩, kp, ab⟩ := F
  obtain ⟨sl, hs⟩ := T.up ho
  exact ⟨⟨_, es, ep, hs, hd, r⟩, fun b o e => T.other b o (kp b o e) (fun hm => by rw [hfs b hm] at e; cases e), ab⟩
section
variable {prog : Program} {w : World} {A₀ A : Around} {s : Shared} {base h₀ : Heap} {env : Env} {L : Addr} {m mg mb : Str → Option Value} {news : List (Addr × Obj)} {K : Frag} {p : Program} {loose : List Str} {mean : ExcName → Option Value}
  {R : Result → Shared → Prop} {name qual : Str} {params : Arguments} {body : List Stmt} {scope : Scope} {dV kV doc pm cdv ct oc : Value} {an od : Option Addr} {osl : Array (Option Value)} {f : Addr} {args : Args} {binds : List (Str × Value)}
theorem code_heard (B : Below A₀ base [] h₀) (F : Fr h₀ L s.heap m) (X₀ : K.In h₀) (N : News h₀ L s.heap news) (T : Top p loose mean mg mb h₀) (hA : A.frames = some [env]) (hf : env.frame = some L) (hke : env.scope.kind = .function)
    (ho : K.lookup f = some ⟨oc, od, .func (fnOf name qual params body scope dV kV doc pm an cdv ct), osl⟩) (hcd : codeIn K cdv qual = true) (hroom : A.depth < recursionLimit)
    (hbind : BindsTo s (fnOf name qual params body scope dV kV doc pm an cdv ct) args binds) (hloc : ∀ y ∈ binds, scope.names.lookup y.1 = some .local)
    (h : ∀ g L' h₁, Fr h₀ L g m → Fr g L' h₁ (fun y => binds.reverse.lookup y) → News g L' h₁ news → Below A base [env] g → K.In g → Top p loose mean mg mb g → KtsTurn [L] g g →
      wpAny (model prog w) (A.deeper (envOf qual scope L' f cdv)) (execs body (envOf qual scope L' f cdv))
        (fun fl s' => LeaveH h₀ L m R (match fl with | .ret v => v | _ => .none) s')
        (fun e s' => wpAny (model prog w) (A.deeper (envOf qual scope L' f cdv)) (leaving (envOf qual scope L' f cdv) e) (fun _ s'' => R (.error e) s'') (fun e' s'' => R (.error e') s'') s')
        { s with heap := h₁, toks := s.toks + binds.length })
    (hco : scope.isCoroutine = false) (hgen : scope.isGenerator = false) (hk : scope.kind = .function)
    (hcell : ∀ x ∈ scope.names, x.2 ≠ .cell) : codeAny (model prog w) A (.call (.ref f) args) R s := by
  obtain ⟨FG, BG, st, _⟩ := groundX (R := R) B F N hA hf hke
  refine codeAny_call_def (fd := fnOf name qual params body scope dV kV doc pm an cdv ct) (body := body) (binds := binds) hroom ((X₀.keeps F.keep) _ _ ho) rfl (T.nolimit.keeps F.keep) (codeRec_of (X₀.keeps F.keep) hcd) rfl hbind hcell hloc (fun h₁ hns hk₁ => ?_) hco hgen hk
  refine wpAny_mono (h _ s.heap.objs.size h₁ FG ⟨hns, fun b o e => hk₁ b o (of_hideAll _ e), Nat.le_of_eq (hideAll_size _ _)⟩
    (fun p hp => ⟨hk₁ _ _ (N p hp).1, Nat.ne_of_lt (Heap.lt_size (N p hp).1), hideAll_none _ (List.mem_map_of_mem hp)⟩) BG (X₀.keeps st) (T.keeps st) KtsTurn.refl) (fun fl s' hl => ?_) fun _ _ y => y
  obtain ⟨g', L', m', news', FG', F', N', k⟩ := hl
  obtain ⟨o, es, ep, hoL, hd, r⟩ := FG'.ns
  refine k ⟨⟨o, es, ep, F'.keep _ _ hoL, hd, r⟩, fun b o e => F'.keep b o (FG'.keep b o e), FG'.above⟩ fun p hp => ⟨(N' p hp).1, fun q => ?_, ?_⟩
  · have z := (N' p hp).2.2
    rw [q, hoL] at z; cases z
  · exact kts_none FG'.keep (N' p hp).2.2
end
theorem leaveH_ {h₀ g' : Heap} {L L' : Addr} {m m' : Str → Option Value} {news' : List (Addr × Obj)} {R : Result → Shared → Prop} {v : Value} {s' : Shared} (G' : Fr h₀ L g' m) (F' : Fr g' L' s'.heap m') (N' : News g' L' s'.heap news')
    (k : Fr h₀ L s'.heap m → News h₀ L s'.heap news' → R (.ok (.ret v)) s') : LeaveH h₀ L m R v s' := ⟨g', L', m', news', G', F', N', k⟩
section
variable {prog : Program} {w : World} {A₀ : Around} {E : Value → Shared → Prop} {s' : Shared} {base g G : Heap} {outer : List Env} {L a e dd : Addr} {m : Str → Option Value} {name : Str} {scope : Scope} {cd : Value}
  {n : Str} {b₀ : Stmt} {suite : List Stmt} {pos np : Pos} {rest : List ExceptHandler} {Q : Flow → Shared → Prop} {news : List (Addr × Obj)} {KF : Frag}
  {p : Program} {loose : List Str} {mean : ExcName → Option Value} {mg mb : Str → Option Value} {x : Str}
theorem caughtD (R : FlyD base G (envOf name scope L a cd :: outer) e dd news s'.heap) (F : Fr g L G m) (K : Below A₀ base outer g) (hsm : G.UpToSlots s'.heap) (XB : KF.In base) (TB : Top p loose mean mg mb base)
    (ex : nsIn KF mainGlobals x = some (some (.ref 34))) (q : ktsIn KF 34 "BaseException" = true)
    (k : ∀ h' g' tk ws, KtsTurn (outer.filterMap (·.frame)) g g' → Fr g' L h' (fun y => if y = n then some (.ref e) else m y) → News g' L h' ((e, excObj (some dd) ws) :: news) → Below A₀ base outer g' → KF.In g' → Top p loose mean mg mb g' →
      wpAny (model prog w) ((A₀.deeper (envOf name scope L a cd)).mark (some (.ref e))) (execs (b₀ :: suite) (envOf name scope L a cd))
        (fun f s₄ => wpAny (model prog w) (A₀.deeper (envOf name scope L a cd)) (do bindName (envOf name scope L a cd) n .none; unbindBehindTheSuite (envOf name scope L a cd) n pos) (fun _ s₅ => Q f s₅) E s₄)
        (AsSuiteRaised (model prog w) ((A₀.deeper (envOf name scope L a cd)).mark (some (.ref e))) (envOf name scope L a cd) n pos (notedBy (model prog w) ((A₀.deeper (envOf name scope L a cd)).mark (some (.ref e))) (envOf name scope L a cd) (cameBackBy (model prog w) (A₀.deeper (envOf name scope L a cd)) (envOf name scope L a cd) E)))
        { s' with heap := h', toks := tk })
    (hk : scope.kind = .function := by rfl) (hlo : (envOf name scope L a cd).kindOf n = some .local := by rfl) (hx : (envOf name scope L a cd).kindOf x = some .globalImplicit := by rfl) (hd : (x == ("__debug__" : Str)) = false := by decide) :
    wpAny (model prog w) (A₀.deeper (envOf name scope L a cd)) (noteFrame (.ref e) (envOf name scope L a cd))
      (fun _ s₂ => wpAny (model prog w) (A₀.deeper (envOf name scope L a cd)) (setFlight (.ref e) none) (fun _ s₃ =>
        wpAny (model prog w) (A₀.deeper (envOf name scope L a cd)) (handleBy (.ref e) (envOf name scope L a cd) (.ExceptHandler (some (.Name x np)) (some n) (b₀ :: suite) pos :: rest)) Q E s₃) E s₂) E s' := by
  obtain ⟨B, hB, hBG, hl, hs, hen, hff, ht⟩ := R
  have hL : B.get? L = none := by
    obtain ⟨_, ⟨L', _, hf, hn', _⟩, _⟩ := hff
    obtain rfl : L = L' := Option.some.inj hf
    exact hn'
  refine noteD_next (Around.frames_deeper K.stack) hff rfl ht hs hen fun h₄ a1 a2 a3 a4 => ?_
  refine flightD (l := envOf name scope L a cd :: outer) a1 a2 a3 fun h₅ b1 b2 b3 b4 => ?_
  have hsm₅ := hsm.trans (a4.trans b4)
  obtain ⟨g₅, T₅, F₅, K₅⟩ := kts_ground K F hBG b1 hsm₅
  have X₅ : KF.In g₅ := XB.keeps K₅.stays
  have P₅ : TopRead p loose mg mb g₅ := topRead_of (TB.keeps K₅.stays)
  obtain ⟨nm, q', N, bs, bm, hdct, sn, sub, ab, col, ddC, k0, k1, k2, k3, k5, newId, hC, hbase, hbT⟩ := kts_cls X₅ q
  have hC₅ := F₅.keep _ _ hC
  obtain ⟨ws5, T5, oT5, ts5, he5, _⟩ := id b3
  refine wpAny_handleBy_cons (codeAny_handlers_test (name_K F₅ X₅ P₅ ex ?_ hk hx hd)) (by intro q; cases q)
  refine wpAny_excMatches_sub_self hC₅ he5 rfl hbase (codeAny_handlers_suite_as ?_)
  refine flightD (l := envOf name scope L a cd :: outer) b1 b2 b3 fun h₆ c1 c2 c3 c4 => ?_
  have hsm₆ := hsm₅.trans c4
  obtain ⟨g₆, T₆, F₆, K₆⟩ := kts_ground K F hBG c1 hsm₆
  obtain ⟨ws, T6, oT6, ts6, he6, _⟩ := id c3
  have ne₆ : g₆.get? e = none := T₆.none_ _ (kts_fresh F hBG hen fun o ho hm => by
    obtain ⟨_, o', ho', hd⟩ := K.frames.mem hm
    rw [ho] at ho'
    cases ho'
    obtain ⟨sl, hs'⟩ := hsm₆ _ _ (F.keep _ _ ho) hd
    rw [he6] at hs'
    exact hd ws (congrArg Obj.data (Option.some.inj hs')).symm)
  have N₆ := News.more F₆ (fun q hq => ⟨c1 _ _ (hl q hq).1, (fun z => by have := (hl q hq).1; rw [z, hL] at this; cases this), T₆.none_ _ (kts_none F.keep (hl q hq).2.1)⟩ : News g₆ L h₆ news) he6 (fun es n q => by cases q) ne₆
  have X₆ : KF.In g₆ := XB.keeps K₆.stays
  have P₆ : Top p loose mean mg mb g₆ := TB.keeps K₆.stays
  refine stN F₆ N₆ (fun h₇ F₇ N₇ => ?_) hk hlo
  exact k h₇ g₆ _ ws T₆ F₇ N₇ K₆ X₆ P₆
end
section
variable {prog : Program} {w : World} {A : Around} {E : Value → Shared → Prop} {s : Shared} {K : Frag} {h₀ : Heap} {L e dd : Addr} {od : Obj} {ws : Array Value} {m : Str → Option Value} {news : List (Addr × Obj)} {v : Value}
theorem code_attr {expr : Bool} {Q : Value → Shared → Prop} (F : Fr h₀ L s.heap m) (X₀ : K.In h₀) (N : News h₀ L s.heap news) (h1 : (e, excObj (some dd) ws) ∈ news) (h2 : (dd, od) ∈ news) (hl : lookIn "code" od = some (some v))
    (hg : plainGet K 34 "code" = true) (hh : hasDictIn K 34 = true) (ha : findIn K (.ref 34) "code" = some none) (hv : handedIn v = true) (h : Q v { s with toks := s.toks + 1 }) : wpAny (model prog w) A (getAttr (.ref e) "code" expr) Q E s :=
  get_value (X₀.keeps F.keep) (exc_inst1 N h1 h2) (plainGet_of hg).1 (findObj_own hh ha rfl hl) hv h
/-- raise of an exception that the statement makes -/
theorem exc_raise {env : Env} {x : Expr} {pos : Pos} {Q : Flow → Shared → Prop} (hh : A.handled = none)
    (h : wpAny (model prog w) A (eval x env) (fun v s₁ => ∃ e dd ws, v = .ref e ∧ K.In s₁.heap ∧ s₁.heap.get? e = some (excObj dd ws) ∧ ws[1]? = some .none ∧ E (.ref e) s₁) E s) (q : ktsIn K 34 "BaseException" = true) :
    wpAny (model prog w) A (exec (.Raise (some x) none pos) env) Q E s := by
  rw [arm_exec_Raise]
  simp only [evalOpt, Option.map]
  refine wpAny_bind (wpAny_standAt ?_)
  unfold raiseStmt
  refine wpAny_bind (wpAny_bind (wpAny_mono h (fun v s₁ h₁ => ?_) fun _ _ x => x))
  obtain ⟨e, dd, ws, rfl, X, he, h1, hE⟩ := h₁
  obtain ⟨nm, q', N, bs, bm, hdct, sn, sub, ab, col, ddC, k0, k1, k2, k3, k5, newId, hC, hbase, hbT⟩ := kts_cls X q
  have hcB : (Value.ref 34 :: bm).contains (.type "BaseException") = true := by rw [List.contains_cons, hbase, Bool.or_true]
  obtain ⟨hp, g, d, tk, os⟩ := s₁
  have hcls : (excObj dd ws).cls = .ref 34 := rfl
  repeat (first | (with_reducible refine wpAny_loadPart_at he ?_) | with_reducible refine wpAny_loadPart_at hC ?_ | (with_reducible refine wpAny_isSubtype_exc hC ?_; rw [hcB]) | wp_step)
  rw [h1]
  refine wpAny_pure ?_
  rw [if_neg (by decide)]
  exact wpAny_pure (wpAny_raiseNew_none hh hE)
end
end
section
open PySem PySem.W PyProof.Rows PySem.Calls PySem.Spec
set_option maxRecDepth 100000
set_option maxHeartbeats 1000000
/-- leaving a def: as LeaveK, the ground at hand -/
noncomputable def LeaveR (h₀ : Heap) (L : Addr) (m : Str → Option Value) (g : Heap) (R : Result → Shared → Prop) (v : Value) (s' : Shared) : Prop :=
  ∃ L' m' news', Fr g L' s'.heap m' ∧ News g L' s'.heap news' ∧ (Fr h₀ L s'.heap m → News h₀ L s'.heap news' → (∀ b o, g.get? b = some o → s'.heap.get? b = some o) → R (.ok (.ret v)) s')
theorem leaveR_ {h₀ g : Heap} {L L' : Addr} {m m' : Str → Option Value} {news' : List (Addr × Obj)} {R : Result → Shared → Prop} {v : Value} {s' : Shared} (F' : Fr g L' s'.heap m') (N' : News g L' s'.heap news')
    (k : Fr h₀ L s'.heap m → News h₀ L s'.heap news' → (∀ b o, g.get? b = some o → s'.heap.get? b = some o) → R (.ok (.ret v)) s') : LeaveR h₀ L m g R v s' := ⟨L', m', news', F', N', k⟩
section
variable {prog : Program} {w : World} {A₀ A : Around} {s : Shared} {base h₀ : Heap} {env : Env} {outer : List Env} {L : Addr} {m mg mb : Str → Option Value} {news : List (Addr × Obj)} {K : Frag} {p : Program} {loose : List Str} {mean : ExcName → Option Value}
  {R : Result → Shared → Prop} {name qual : Str} {params : Arguments} {body : List Stmt} {scope : Scope} {dV kV doc pm cdv ct oc : Value} {an od : Option Addr} {osl : Array (Option Value)} {f : Addr} {args : Args} {binds : List (Str × Value)}
theorem code_defR (B : Below A₀ base outer h₀) (F : Fr h₀ L s.heap m) (X₀ : K.In h₀) (N : News h₀ L s.heap news) (T : Top p loose mean mg mb h₀) (hA : A.frames = some (env :: outer)) (hf : env.frame = some L) (hke : env.scope.kind = .function)
    (ho : K.lookup f = some ⟨oc, od, .func (fnOf name qual params body scope dV kV doc pm an cdv ct), osl⟩) (hcd : codeIn K cdv qual = true) (hroom : A.depth < recursionLimit)
    (hbind : BindsTo s (fnOf name qual params body scope dV kV doc pm an cdv ct) args binds) (hloc : ∀ y ∈ binds, scope.names.lookup y.1 = some .local)
    (h : ∀ g L' h₁, (∀ b o, b ∉ news.map (·.1) → s.heap.get? b = some o → g.get? b = some o) → Fr h₀ L g m → Fr g L' h₁ (fun y => binds.reverse.lookup y) → News g L' h₁ news → Below A base (env :: outer) g → K.In g → Top p loose mean mg mb g →
      wpAny (model prog w) (A.deeper (envOf qual scope L' f cdv)) (execs body (envOf qual scope L' f cdv))
        (fun fl s' => LeaveR h₀ L m g R (match fl with | .ret v => v | _ => .none) s')
        (fun e s' => wpAny (model prog w) (A.deeper (envOf qual scope L' f cdv)) (leaving (envOf qual scope L' f cdv) e) (fun _ s'' => R (.error e) s'') (fun e' s'' => R (.error e') s'') s')
        { s with heap := h₁, toks := s.toks + binds.length })
    (hco : scope.isCoroutine = false) (hgen : scope.isGenerator = false) (hk : scope.kind = .function)
    (hcell : ∀ x ∈ scope.names, x.2 ≠ .cell) : codeAny (model prog w) A (.call (.ref f) args) R s := by
  obtain ⟨FG, BG, st, lv⟩ := groundX (R := R) B F N hA hf hke
  refine codeAny_call_def (fd := fnOf name qual params body scope dV kV doc pm an cdv ct) (body := body) (binds := binds) hroom ((X₀.keeps F.keep) _ _ ho) rfl (T.nolimit.keeps F.keep) (codeRec_of (X₀.keeps F.keep) hcd) rfl hbind hcell hloc (fun h₁ hns hk₁ => ?_) hco hgen hk
  refine wpAny_mono (h _ s.heap.objs.size h₁ (fun b o hb e => hideAll_get _ e hb) FG ⟨hns, fun b o e => hk₁ b o (of_hideAll _ e), Nat.le_of_eq (hideAll_size _ _)⟩
    (fun p hp => ⟨hk₁ _ _ (N p hp).1, Nat.ne_of_lt (Heap.lt_size (N p hp).1), hideAll_none _ (List.mem_map_of_mem hp)⟩) BG (X₀.keeps st) (T.keeps st)) (fun fl s' hl => ?_) fun _ _ y => y
  obtain ⟨L', m', news', F', N', k⟩ := hl
  exact lv _ _ ⟨L', m', news', F', N', fun a b => k a b F'.keep⟩
end
/-- what the call made is a new object beside any ledger; what stood stands -/
theorem keep_all {h₀ g h h' : Heap} {L L' : Addr} {m : Str → Option Value} {lit lit' : List (Addr × Obj)} {a : Addr} {o : Obj} (N : News h₀ L h lit) (N' : News h₀ L h' ((a, o) :: lit')) (hg : ∀ b x, b ∉ lit.map (·.1) → h.get? b = some x → g.get? b = some x) (hk : ∀ b x, g.get? b = some x → h'.get? b = some x)
    (hs : ∀ p ∈ lit, h'.get? p.1 = some p.2) (hn : ∀ p ∈ lit, p.1 ≠ a) (hga : g.get? a = none) (l : List (Addr × Obj)) (Nl : News h₀ L h l) : News h₀ L h' ((a, o) :: l) ∧ ∀ p ∈ l, p.1 ≠ a := by
  refine ⟨fun p hp => ?_, fun p hp q => ?_⟩
  · rcases List.mem_cons.mp hp with rfl | hp
    · exact N' _ (.head _)
    · obtain ⟨n1, n2, n3⟩ := Nl p hp
      by_cases hm : p.1 ∈ lit.map (·.1)
      · obtain ⟨q, hq, e⟩ := List.mem_map.mp hm
        have z := (N q hq).1
        rw [e, n1] at z
        refine ⟨?_, n2, n3⟩
        have := hs q hq
        rw [e] at this
        rw [this, z]
      · exact ⟨hk _ _ (hg _ _ hm n1), n2, n3⟩
  · by_cases hm : p.1 ∈ lit.map (·.1)
    · obtain ⟨x, hx, e⟩ := List.mem_map.mp hm
      exact hn x hx (e.trans q)
    · have z := hg _ _ hm (Nl p hp).1
      rw [q, hga] at z
      cases z
end
section
open PySem PySem.W PyProof.Rows PySem.Calls PySem.Spec
set_option maxRecDepth 100000
set_option maxHeartbeats 1000000
section
variable {prog : Program} {w : World} {A : Around} {E : Value → Shared → Prop} {s : Shared} {h₀ : Heap} {L : Addr} {m : Str → Option Value} {env : Env}
/-- a comprehension's source: a tuple of the ledger -/
noncomputable def SrcTup (prog : Program) (w : World) (A : Around) (h₀ : Heap) (L : Addr) (m : Str → Option Value) (env : Env) (elt : Expr) (x : Str) (scope : Scope) (cl : List (Str × Addr)) (Fin : Shared → List Value → List (Addr × Obj) → Prop) (xv : Value) (s₁ : Shared) : Prop :=
  ∃ ax its k news, xv = .ref ax ∧ A.handled = none ∧ Fr h₀ L s₁.heap m ∧ News h₀ L s₁.heap news ∧ (ax, ({ cls := .type "tuple", data := .seq its k } : Obj)) ∈ news ∧ its.size ≤ sizeLine ∧
    ∀ s₂ : Shared, (∃ h, s₂ = { s₁ with heap := h }) → LCg.CompRest prog w A h₀ L m env elt x scope cl s₂ (fun nw => (ax, ({ cls := .type "tuple", data := .seq its k } : Obj)) ∈ nw) (fun i v => its[i]? = some v) (Fin s₂) its.size 0 [] news
theorem SrcTup.intro {elt : Expr} {x : Str} {scope : Scope} {cl : List (Str × Addr)} {Fin : Shared → List Value → List (Addr × Obj) → Prop} {ax : Addr} {its : Array Value} {k : Nat} {news : List (Addr × Obj)} {s₁ : Shared}
    (hh : A.handled = none) (F : Fr h₀ L s₁.heap m) (N : News h₀ L s₁.heap news) (hm : (ax, ({ cls := .type "tuple", data := .seq its k } : Obj)) ∈ news) (hsz : its.size ≤ sizeLine)
    (h : ∀ g, LCg.CompRest prog w A h₀ L m env elt x scope cl { s₁ with heap := g } (fun nw => (ax, ({ cls := .type "tuple", data := .seq its k } : Obj)) ∈ nw) (fun i v => its[i]? = some v) (Fin { s₁ with heap := g }) its.size 0 [] news) :
    SrcTup prog w A h₀ L m env elt x scope cl Fin (.ref ax) s₁ := ⟨ax, its, k, news, rfl, hh, F, N, hm, hsz, fun _ ⟨g, e⟩ => e ▸ h g⟩
theorem assign_comp_tup {elt iter : Expr} {x y : Str} {px py : Pos} {scope : Scope} {cl : List (Str × Addr)} {pos spos : Pos} {Q : Flow → Shared → Prop} (F₀ : Fr h₀ L s.heap m) (hLe : env.locals = L)
    (hsw : swapsWith (.ListComp elt [⟨.Name x px, iter, [], 0⟩] scope pos) (some (.Name y py)) spos.line env = pure true)
    (hclos : closureFor scope env = pure cl) (hcell : ∀ z ∈ scope.names, z.2 ≠ .cell) (hkind : scope.kind = .function)
    (hnames : ∀ z ∈ scope.names, z.2 = .local → scope.names.lookup z.1 = some .local) (hx : scope.names.lookup x = some .local)
    (hy : env.kindOf y = some .local) (hp : (env.scope.kind == .class || (env.scope.kind == .module && env.locals != env.globals)) = false)
    (h : wpAny (model prog w) A (eval iter env) (SrcTup prog w A h₀ L m env elt x scope cl (fun s₂ => LCg.FinA h₀ L m s₂ y Q)) E s)
    (hs : ∀ x, foldedSetIterable iter env x = pure x := by intro _; rfl) :
    wpAny (model prog w) A (exec (.Assign [.Name y py] (.ListComp elt [⟨.Name x px, iter, [], 0⟩] scope pos) spos) env) Q E s := by
  subst hLe
  rw [exec_Assign_Name_used _ _ _ _ hsw]
  refine wpAny_bind (wpAny_standAt (wpAny_bind ?_))
  show wpAny _ A (do let _ ← comprehension (.ListComp elt [⟨.Name x px, iter, [], 0⟩] scope pos) scope env _ (newList []) false (eval iter env) (some (assign (.Name y py) env))) _ _ s
  refine wpAny_bind (wpAny_mono (wpAny_comprehension_free (use := some (assign (.Name y py) env)) (Q := fun _ s' => Q .next s') rfl hs hclos hkind hnames
    (wpAny_mono h (fun xv s₁ h₁ => ?_) fun _ _ e => e)) (fun _ s' hq => wpAny_pure (wpAny_pure hq)) fun _ _ e => e)
  obtain ⟨ax, its, k, news, rfl, hh, F, N, hm, hsz, R⟩ := h₁
  have hax := (N _ hm).1
  have hl : s₁.heap.IsTuple ax its := ⟨_, hax, rfl, k, rfl⟩
  have hlt : ax < s₁.heap.objs.size := Heap.lt_size hax
  refine wpAny_pyIter_tuple hl ?_
  have up : ∀ b o, s₁.heap.get? b = some o → (s₁.heap.push { cls := .type "tuple_iterator", data := .fields #[.ref ax, .int 0 0] }).get? b = some o := fun b o e => Heap.get?_push_of_some _ e
  refine LCg.block_U (Walks.tuple hh s₁.heap.objs.size ax (Nat.ne_of_lt hlt) its) hsz (fun i h st => by obtain ⟨o, e, _⟩ := st.1; exact ⟨o, e⟩)
    (fun i h h' o nw st e e' _ Nw S => ⟨st.1.at fun o' q => by rw [e] at q; cases q; exact e', ⟨_, (Nw _ S).1, rfl, k, rfl⟩⟩) hcell hkind hx ⟨⟨_, Heap.get?_push_size _ rfl, rfl, rfl⟩, hl.at fun o e => up _ _ e⟩ (fun b hb => ?_)
    (F.keeps up) (N.grown up) (Nat.ne_of_lt F.ns.lt) (none_at_size F) (fun p hp => Nat.ne_of_lt (Heap.lt_size (N p hp).1)) hm (R _ ⟨_, rfl⟩) ?_
  · show b < (s₁.heap.push _).objs.size
    rw [Heap.size_push]
    rcases List.mem_cons.mp hb with rfl | hb
    · exact Nat.lt_succ_self _
    · rw [List.mem_singleton.mp hb]; exact Nat.lt_succ_of_lt hlt
  · intro D C h' tk m' ys news' F' N' o1 hn hC₀ hD₀ hCL hDL hCD offC fin
    show wpAny _ A (assign (.Name y py) env (.ref D)) _ _ _
    refine wpAny_assign_Name (wpAny_storeName_local hy F'.ns (fun h₂ hn₂ hs₂ => ?_) hp)
    have hL₀ : h₀.get? env.locals = none := Heap.get?_none_of_le F'.above
    have F₂ : Fr h₀ env.locals h₂ (fun z => if z = y then some (.ref D) else m z) := ⟨hn₂, fun b o e => hs₂.extBut b o (fun q => by rw [q, hL₀] at e; cases e) (F'.keep b o e), F'.above⟩
    refine ⟨m', hn.sameBut hs₂ hCL, fun h'' hs'' => fin D h'' _ (F₂.change hs'' hCL hC₀) (fun p hp => ?_) o1⟩
    have z : h₂.get? p.1 = some p.2 := hs₂.extBut _ _ (N' p hp).2.1 (N' p hp).1
    refine ⟨hs''.extBut _ _ ?_ z, (N' p hp).2⟩
    rcases List.mem_cons.mp hp with rfl | hp
    · exact Ne.symm hCD
    · exact offC p hp
end
end
section
open PySem PySem.W PyProof.Rows PySem.Calls PySem.Spec
set_option maxRecDepth 100000
set_option maxHeartbeats 1000000
section
variable {prog : Program} {w : World} {A : Around} {E : Value → Shared → Prop} {s : Shared} {h₀ : Heap} {L : Addr} {m : Str → Option Value} {env : Env}
/-- a comprehension's source: a made list, from behind -/
noncomputable def SrcRev (prog : Program) (w : World) (A : Around) (h₀ : Heap) (L : Addr) (m : Str → Option Value) (env : Env) (elt : Expr) (x : Str) (scope : Scope) (cl : List (Str × Addr)) (Fin : Shared → List Value → List (Addr × Obj) → Prop) (xv : Value) (s₁ : Shared) : Prop :=
  ∃ I l its rv k news, xv = .ref I ∧ A.handled = none ∧ Fr h₀ L s₁.heap m ∧ News h₀ L s₁.heap ((I, revObj l ((its.size : Int) - 1)) :: news) ∧ (∀ p ∈ news, p.1 ≠ I) ∧ (l, ({ cls := .type "list", data := .seq its k } : Obj)) ∈ news ∧ its.size ≤ sizeLine ∧ (∀ i, i < its.size → rv[i]? = its[its.size - 1 - i]?) ∧
    ∀ s₂ : Shared, (∃ h, s₂ = { s₁ with heap := h }) → LCg.CompRest prog w A h₀ L m env elt x scope cl s₂ (fun nw => (l, ({ cls := .type "list", data := .seq its k } : Obj)) ∈ nw) (fun i v => (rv : Array Value)[i]? = some v) (Fin s₂) its.size 0 [] news
theorem SrcRev.one {elt : Expr} {x : Str} {scope : Scope} {cl : List (Str × Addr)} {Fin : Shared → List Value → List (Addr × Obj) → Prop} {I l : Addr} {a : Value} {k : Nat} {news : List (Addr × Obj)} {s₁ : Shared}
    (hh : A.handled = none) (F : Fr h₀ L s₁.heap m) (N : News h₀ L s₁.heap ((I, revObj l 0) :: news)) (hI : ∀ p ∈ news, p.1 ≠ I) (hm : (l, ({ cls := .type "list", data := .seq #[a] k } : Obj)) ∈ news)
    (h : ∀ g, LCg.CompRest prog w A h₀ L m env elt x scope cl { s₁ with heap := g } (fun nw => (l, ({ cls := .type "list", data := .seq #[a] k } : Obj)) ∈ nw) (fun i v => #[a][i]? = some v) (Fin { s₁ with heap := g }) 1 0 [] news) :
    SrcRev prog w A h₀ L m env elt x scope cl Fin (.ref I) s₁ := ⟨I, l, #[a], #[a], k, news, rfl, hh, F, N, hI, hm, (by rw [sizeLine_eq]; show 1 ≤ 16777216; decide), (fun i hi => by
      have : i = 0 := by have : i < 1 := hi; omega
      subst this; rfl), fun _ ⟨g, e⟩ => e ▸ h g⟩
theorem SrcRev.two {elt : Expr} {x : Str} {scope : Scope} {cl : List (Str × Addr)} {Fin : Shared → List Value → List (Addr × Obj) → Prop} {I l : Addr} {a b : Value} {k : Nat} {news : List (Addr × Obj)} {s₁ : Shared}
    (hh : A.handled = none) (F : Fr h₀ L s₁.heap m) (N : News h₀ L s₁.heap ((I, revObj l 1) :: news)) (hI : ∀ p ∈ news, p.1 ≠ I) (hm : (l, ({ cls := .type "list", data := .seq #[a, b] k } : Obj)) ∈ news)
    (h : ∀ g, LCg.CompRest prog w A h₀ L m env elt x scope cl { s₁ with heap := g } (fun nw => (l, ({ cls := .type "list", data := .seq #[a, b] k } : Obj)) ∈ nw) (fun i v => #[b, a][i]? = some v) (Fin { s₁ with heap := g }) 2 0 [] news) :
    SrcRev prog w A h₀ L m env elt x scope cl Fin (.ref I) s₁ := ⟨I, l, #[a, b], #[b, a], k, news, rfl, hh, F, N, hI, hm, (by rw [sizeLine_eq]; show 2 ≤ 16777216; decide), (fun i hi => by
      have : i = 0 ∨ i = 1 := by have : i < 2 := hi; omega
      rcases this with rfl | rfl <;> rfl), fun _ ⟨g, e⟩ => e ▸ h g⟩
theorem comp_rev {elt iter : Expr} {x : Str} {px : Pos} {scope : Scope} {cl : List (Str × Addr)} {pos : Pos} {Q : Value → Shared → Prop} (F₀ : Fr h₀ L s.heap m)
    (hclos : closureFor scope env = pure cl) (hcell : ∀ y ∈ scope.names, y.2 ≠ .cell) (hkind : scope.kind = .function)
    (hnames : ∀ y ∈ scope.names, y.2 = .local → scope.names.lookup y.1 = some .local) (hx : scope.names.lookup x = some .local)
    (h : wpAny (model prog w) A (eval iter env) (SrcRev prog w A h₀ L m env elt x scope cl (fun s₂ => LCg.FinE h₀ L m s₂ Q)) E s)
    (hs : ∀ x, foldedSetIterable iter env x = pure x := by intro _; rfl) :
    wpAny (model prog w) A (eval (.ListComp elt [⟨.Name x px, iter, [], 0⟩] scope pos) env) Q E s := by
  rw [eval_ListComp]
  refine wpAny_comprehension_free (use := none) rfl hs hclos hkind hnames (wpAny_mono h (fun xv s₁ h₁ => ?_) fun _ _ e => e)
  obtain ⟨I, l, its, rv, k, news, rfl, hh, F, N, hI, hm, hsz, hrv, R⟩ := h₁
  obtain ⟨e1, e2, e3⟩ := N _ (.head _)
  have N' : News h₀ L s₁.heap news := fun p hp => N p (.tail _ hp)
  have hl : s₁.heap.IsList l its := ⟨_, (N' _ hm).1, rfl, k, rfl⟩
  have hlI : l ≠ I := hI _ hm
  have hit : s₁.heap.IsRevIter I l ((its.size : Int) - 1) := ⟨_, e1, rfl, rfl⟩
  refine wpAny_pyIter_revIter hit ?_
  have W := Walks.listRev (prog := prog) (w := w) (A := A) hh I l hlI its
  have W' : Walks prog w A I [I, l] [I] its.size (fun i v => rv[i]? = some v) (fun i h => i ≤ its.size ∧ h.IsRevIter I l ((its.size : Int) - 1 - (i : Int)) ∧ h.IsList l its) :=
    { sub := W.sub, frame := W.frame, done := W.done, self := W.self, item := fun i s Q E hi st hQ => W.item i s Q E hi st fun v h' tk hP => hQ v h' tk (by rw [hrv i hi]; exact hP) }
  refine LCg.block_U W' hsz (fun i h st => by obtain ⟨o, e, _⟩ := st.2.1; exact ⟨o, e⟩)
    (fun i h h' o nw st e e' _ Nw S => ⟨st.1, st.2.1.at fun o' q => by rw [e] at q; cases q; exact e', ⟨_, (Nw _ S).1, rfl, k, rfl⟩⟩) hcell hkind hx ⟨Nat.zero_le _, by simpa using hit, hl⟩ (fun b hb => ?_)
    F N' (Ne.symm e2) e3 hI hm (R _ ⟨_, rfl⟩) ?_
  · rcases List.mem_cons.mp hb with rfl | hb
    · exact Heap.lt_size e1
    · rw [List.mem_singleton.mp hb]; exact Heap.lt_size (N' _ hm).1
  · intro D C h tk m' ys news' F' N' o1 hn hC₀ hD₀ hCL hDL hCD offC fin
    refine ⟨m', hn, fun h'' hs'' => fin D h'' tk (F'.change hs'' hCL hC₀) (fun p hp => ?_) o1⟩
    refine ⟨hs''.extBut _ _ ?_ (N' p hp).1, (N' p hp).2⟩
    rcases List.mem_cons.mp hp with rfl | hp
    · exact Ne.symm hCD
    · exact offC p hp
end
end
section
open PySem PySem.W PyProof.Rows PySem.Calls PySem.Spec
set_option maxRecDepth 100000
set_option maxHeartbeats 1000000
noncomputable abbrev pairO (a : Value) : Obj := { cls := .type "tuple", data := .seq #[a, .bool false] }
section
variable {prog : Program} {w : World} {A : Around} {E : Value → Shared → Prop} {s : Shared} {h₀ : Heap} {L : Addr} {m : Str → Option Value} {env : Env}
theorem pair_rest {x : Str} {p1 p2 p3 : Pos} {kk kk2 : Nat} {scope : Scope} {cl : List (Str × Addr)} {S : List (Addr × Obj) → Prop} {P : Nat → Value → Prop} {Fin : List Value → List (Addr × Obj) → Prop} {k i : Nat} {ys : List Value} {news : List (Addr × Obj)} {a : Value}
    (hPa : ∀ v, P i v → v = a) (hS : S news) (hSm : ∀ q l, S l → S (q :: l)) (hk : ∀ C, (compEnvC scope cl C env).scope.kind = .function) (hl : ∀ C, (compEnvC scope cl C env).kindOf x = some .local) (hd : (x == ("__debug__" : Str)) = false)
    (h : ∀ T, (∀ p ∈ news, p.1 ≠ T) → LCg.CompRest prog w A h₀ L m env (.Tuple [.Name x p1, .Constant (.bool false) kk p2] kk2 p3) x scope cl s S P Fin k (i + 1) (ys ++ [.ref T]) ((T, pairO a) :: news)) :
    LCg.CompRest prog w A h₀ L m env (.Tuple [.Name x p1, .Constant (.bool false) kk p2] kk2 p3) x scope cl s S P Fin (k + 1) i ys news := by
  refine LCg.CompRest.succ fun v I oI C oC D m₂ h' tk E' hP hC hx F N off ne => ?_
  obtain rfl := hPa v hP
  refine wpAny_Tuple ?_
  walk1
  refine ldVarK (hC.ns (N (C, oC) (.tail _ (.head _))).1) hx ?_ (hk C) (hl C) hd
  walk1
  walk1
  walk1
  have hT : ∀ p ∈ news, p.1 ≠ h'.objs.size := fun p hp => Nat.ne_of_lt (Heap.lt_size (N p (.tail _ (.tail _ (.tail _ hp)))).1)
  refine ⟨by rw [sizeLine_eq]; show 2 ≤ 16777216; decide, LCg.CompEnd.intro (F.push _) (N.push F _) ((h'.objs.size, pairO v) :: news) (fun p hp => ?_) (LCg.Off3.of fun p hp => ?_) (hSm _ _ hS) (h _ hT)⟩
  · rcases List.mem_cons.mp hp with rfl | hp
    · exact .tail _ (.head _)
    · rcases List.mem_cons.mp hp with rfl | hp
      · exact .tail _ (.tail _ (.head _))
      · rcases List.mem_cons.mp hp with rfl | hp
        · exact .tail _ (.tail _ (.tail _ (.head _)))
        · rcases List.mem_cons.mp hp with rfl | hp
          · exact .head _
          · exact .tail _ (.tail _ (.tail _ (.tail _ hp)))
  · rcases List.mem_cons.mp hp with rfl | hp
    · exact ⟨Nat.ne_of_gt (Heap.lt_size (N (I, oI) (.head _)).1), Nat.ne_of_gt (Heap.lt_size (N (C, oC) (.tail _ (.head _))).1), Nat.ne_of_gt (Heap.lt_size (N (D, _) (.tail _ (.tail _ (.head _)))).1)⟩
    · exact off.mem p hp
theorem off1_mem {D : Addr} {l : List (Addr × Obj)} (h : LCg.Off1 D l) : ∀ p ∈ l, p.1 ≠ D := by
  induction l with
  | nil => intro p hp; cases hp
  | cons q r ih =>
    intro p hp
    rcases List.mem_cons.mp hp with rfl | hp
    · exact h.1
    · exact ih h.2 p hp
/-- [(part, False) for part in reversed(parts)], parts of one or two items -/
noncomputable def RevP (prog : Program) (w : World) (A : Around) (h₀ : Heap) (L : Addr) (m : Str → Option Value) (Q : Value → Shared → Prop) (xv : Value) (s₁ : Shared) : Prop :=
  ∃ I l k news, xv = .ref I ∧ A.handled = none ∧ Fr h₀ L s₁.heap m ∧ (∀ p ∈ news, p.1 ≠ I) ∧
    ((∃ a, News h₀ L s₁.heap ((I, revObj l 0) :: news) ∧ (l, ({ cls := .type "list", data := .seq #[a] k } : Obj)) ∈ news ∧
        ∀ D T h tk, Fr h₀ L h m → News h₀ L h ((D, LCg.lst [.ref T]) :: (T, pairO a) :: news) → (∀ p ∈ (T, pairO a) :: news, p.1 ≠ D) → (∀ p ∈ news, p.1 ≠ T) → Q (.ref D) { s₁ with heap := h, toks := tk }) ∨
     (∃ a b, News h₀ L s₁.heap ((I, revObj l 1) :: news) ∧ (l, ({ cls := .type "list", data := .seq #[a, b] k } : Obj)) ∈ news ∧
        ∀ D T U h tk, Fr h₀ L h m → News h₀ L h ((D, LCg.lst [.ref T, .ref U]) :: (U, pairO a) :: (T, pairO b) :: news) → (∀ p ∈ (U, pairO a) :: (T, pairO b) :: news, p.1 ≠ D) → (∀ p ∈ (T, pairO b) :: news, p.1 ≠ U) → (∀ p ∈ news, p.1 ≠ T) → Q (.ref D) { s₁ with heap := h, toks := tk }))
theorem RevP.one {Q : Value → Shared → Prop} {s₁ : Shared} {I l : Addr} {a : Value} {k : Nat} {news : List (Addr × Obj)} (hh : A.handled = none) (F : Fr h₀ L s₁.heap m) (N : News h₀ L s₁.heap ((I, revObj l 0) :: news)) (hI : ∀ p ∈ news, p.1 ≠ I) (hm : (l, ({ cls := .type "list", data := .seq #[a] k } : Obj)) ∈ news)
    (h : ∀ D T h tk, Fr h₀ L h m → News h₀ L h ((D, LCg.lst [.ref T]) :: (T, pairO a) :: news) → (∀ p ∈ (T, pairO a) :: news, p.1 ≠ D) → (∀ p ∈ news, p.1 ≠ T) → Q (.ref D) { s₁ with heap := h, toks := tk }) : RevP prog w A h₀ L m Q (.ref I) s₁ := ⟨I, l, k, news, rfl, hh, F, hI, .inl ⟨a, N, hm, h⟩⟩
theorem RevP.two {Q : Value → Shared → Prop} {s₁ : Shared} {I l : Addr} {a b : Value} {k : Nat} {news : List (Addr × Obj)} (hh : A.handled = none) (F : Fr h₀ L s₁.heap m) (N : News h₀ L s₁.heap ((I, revObj l 1) :: news)) (hI : ∀ p ∈ news, p.1 ≠ I) (hm : (l, ({ cls := .type "list", data := .seq #[a, b] k } : Obj)) ∈ news)
    (h : ∀ D T U h tk, Fr h₀ L h m → News h₀ L h ((D, LCg.lst [.ref T, .ref U]) :: (U, pairO a) :: (T, pairO b) :: news) → (∀ p ∈ (U, pairO a) :: (T, pairO b) :: news, p.1 ≠ D) → (∀ p ∈ (T, pairO b) :: news, p.1 ≠ U) → (∀ p ∈ news, p.1 ≠ T) → Q (.ref D) { s₁ with heap := h, toks := tk }) : RevP prog w A h₀ L m Q (.ref I) s₁ := ⟨I, l, k, news, rfl, hh, F, hI, .inr ⟨a, b, N, hm, h⟩⟩
theorem rev_pairs {iter : Expr} {x : Str} {p1 p2 p3 px : Pos} {kk kk2 : Nat} {scope : Scope} {cl : List (Str × Addr)} {pos : Pos} {Q : Value → Shared → Prop} (F₀ : Fr h₀ L s.heap m)
    (hclos : closureFor scope env = pure cl) (hcell : ∀ y ∈ scope.names, y.2 ≠ .cell) (hkind : scope.kind = .function)
    (hnames : ∀ y ∈ scope.names, y.2 = .local → scope.names.lookup y.1 = some .local) (hx : scope.names.lookup x = some .local)
    (hk : ∀ C, (compEnvC scope cl C env).scope.kind = .function) (hl : ∀ C, (compEnvC scope cl C env).kindOf x = some .local) (hd : (x == ("__debug__" : Str)) = false)
    (h : wpAny (model prog w) A (eval iter env) (RevP prog w A h₀ L m Q) E s)
    (hs : ∀ x, foldedSetIterable iter env x = pure x := by intro _; rfl) :
    wpAny (model prog w) A (eval (.ListComp (.Tuple [.Name x p1, .Constant (.bool false) kk p2] kk2 p3) [⟨.Name x px, iter, [], 0⟩] scope pos) env) Q E s := by
  refine comp_rev F₀ hclos hcell hkind hnames hx (wpAny_mono h (fun xv s₁ h₁ => ?_) fun _ _ e => e) hs
  obtain ⟨I, l, k, news, rfl, hh, F, hI, ⟨a, N, hm, hq⟩ | ⟨a, b, N, hm, hq⟩⟩ := h₁
  · refine SrcRev.one hh F N hI hm fun g => ?_
    refine pair_rest (k := 0) (a := a) (fun v hv => (Option.some.inj hv).symm) hm (fun q l hl => .tail _ hl) hk hl hd fun T hT => ?_
    intro D h tk F' N' o1
    exact hq D T h tk F' N' (off1_mem o1) hT
  · refine SrcRev.two hh F N hI hm fun g => ?_
    refine pair_rest (k := 1) (a := b) (fun v hv => (Option.some.inj hv).symm) hm (fun q l hl => .tail _ hl) hk hl hd fun T hT => ?_
    refine pair_rest (k := 0) (a := a) (fun v hv => (Option.some.inj hv).symm) (.tail _ hm) (fun q l hl => .tail _ hl) hk hl hd fun U hU => ?_
    intro D h tk F' N' o1
    exact hq D T U h tk F' N' (off1_mem o1) hU hT
end
/-- two addresses of the ledger are apart -/
theorem ne_l {l : List (Addr × Obj)} {a b : Addr} {o : Obj} (h : ∀ p ∈ l, p.1 ≠ a) (m : (b, o) ∈ l) : @Ne Nat b a := h _ m
theorem ne_r {l : List (Addr × Obj)} {a b : Addr} {o : Obj} (h : ∀ p ∈ l, p.1 ≠ a) (m : (b, o) ∈ l) : @Ne Nat a b := fun e => h _ m e.symm
end
section
open PySem PySem.W PyProof.Rows PySem.Calls
set_option maxRecDepth 100000
set_option maxHeartbeats 1000000
theorem excga_slot : Slot "Exception" "__getattribute__" "BaseException.__getattribute__" := .of (owner := "BaseException") (n := "__getattribute__") (by rw [typeLookup_type, builtinLookup_eq_fast]; kernel_rfl) (by decide +kernel) (by decide +kernel) (by decide +kernel)
  (by first | exact .inl (by decide +kernel) | exact .inr (by decide +kernel)) (by rw [isSubtype_type]; kernel_rfl)
section
variable {prog : Program} {w : World} {A : Around} {E : Value → Shared → Prop} {K : Frag} {x C : Addr} {ox : Obj} {od : Option Obj} {name : Str} {expr : Bool} {v : Value}
theorem excga_check {M : Model} {h : Heap} {g : Array GenState} {d : Drawn} {t : Nat} {os : OsState} {a : Addr} {o : Obj} {nm q : Str} {C N : Addr} {bs bm : List Value} {hdct : Bool} {sn : List Str} {sub : List Value} {ab : Bool} {col : Option Bool} {dd : Option Addr} {k0 k1 k2 k3 k5 : Option Value} {newId : String} {nameV : Value} {Q : Unit → Shared → Prop} (hC : h.get? C = some (excClassObj nm q C N bs bm hdct sn sub ab col dd k0 k1 k2 k3 k5 newId)) (hb : bm.contains (.type "BaseException") = true)
    (hx : h.get? a = some o) (hc : o.cls = .ref C) (hq : Q () ⟨h, g, d, t, os⟩) : wpAny M A (checkBuiltinCall "BaseException.__getattribute__" ⟨[.ref a, nameV], []⟩) Q E ⟨h, g, d, t, os⟩ := by
  have hk : builtinKind "BaseException.__getattribute__" = some .slot := by decide +kernel
  have hsplit : splitId "BaseException.__getattribute__" = some ("BaseException", "__getattribute__") := by decide +kernel
  have hcB : (Value.ref C :: bm).contains (.type "BaseException") = true := by rw [List.contains_cons, hb, Bool.or_true]
  have ha := F.args_bexc_ga (.ref a) nameV
  simp only [checkBuiltinCall, hk, hsplit]
  refine wpAny_bind ?_
  · unfold isInstance
    repeat (first | (with_reducible refine wpAny_loadPart_at hx ?_; rw [hc]) | (with_reducible refine wpAny_isSubtype_exc hC ?_; rw [hcB]) | wp_step)
    exact hq
/-- an attribute of an exception of an own class, out of its dict -/
theorem exc_attr {s : Shared} {Q : Value → Shared → Prop} (X : K.In s.heap) (I : InstAt s.heap x ox C od) (hga : findIn K (.ref C) "__getattribute__" = some (some (.builtin "BaseException.__getattribute__"))) (hgk : findIn K (.ref C) "__getattr__" = some none)
    (hf : findObj K C od name = some (.value v)) (hh : handedIn v = true) (q : ktsIn K C "BaseException" = true) (h : Q v { s with toks := s.toks + 1 }) : wpAny (model prog w) A (getAttr (.ref x) name expr) Q E s := by
  obtain ⟨nm, q', N, bs, bm, hdct, sn, sub, ab, col, ddC, k0, k1, k2, k3, k5, newId, hC, hbase, hbT⟩ := kts_cls X q
  have hx := I.at_
  have hc := I.cls
  obtain ⟨hp, g, d, t, os⟩ := s
  have L0 := I.type (M := model prog w)
  have L1 := looks_findIn (M := model prog w) X hga
  have L2 := looks_findIn (M := model prog w) X hgk
  have L3 := looks_find (M := model prog w) X I hf
  have f3 := excga_slot.bind (.ref x)
  have hx0 : (expr && onTheHeap (Value.builtin "BaseException.__getattribute__")) = false := by cases expr <;> rfl
  have hx2 : (Value.builtin "BaseException.__getattribute__" == Value.builtin "object.__getattribute__") = false := by decide +kernel
  have hx1 : (onTheHeap (Value.ref C) && Value.builtin "BaseException.__getattribute__" == Value.builtin "object.__getattribute__") = false := by rw [hx2]; rfl
  unfold getAttr getAttrBy
  refine wpAny_bind (wpAny_mkText (wpAny_holding (wpAny_bind (L0.at (wpAny_bind (L1.at ?_))))))
  dsimp only
  rw [hx1]
  simp only [Bool.false_eq_true, if_false]
  unfold getAttrByItsOwn hookBefore callGetattribute boundAndCalled
  rw [hx0]
  simp only [Bool.false_eq_true, if_false, show onTheHeap (Value.ref C) = true from rfl, if_true]
  refine wpAny_bind (L2.at ?_)
  refine wpAny_bind (wpAny_attempt (wpAny_holding (wpAny_bind (wpAny_of_eq f3 ?_))))
  refine wpAny_call (codeAny_call_builtin excga_slot.plain F.entry_bexc_ga (excga_check hC hbase hx hc ?_))
  show wpAny _ _ (Builtin.«object.__getattribute__» _) _ _ _
  unfold Builtin.«object.__getattribute__»
  refine wpAny_bind (wpAny_pure (wpAny_bind (wpAny_pure (wpAny_bind (L0.at (wpAny_bind (L3.at ?_)))))))
  refine wpAny_pure ?_
  show wpAny _ _ (handedOut v) _ _ _
  rw [handedOut_of hh]; exact wpAny_pure h
theorem code_attr2 {s : Shared} {h₀ : Heap} {L e dd : Addr} {od : Obj} {ws : Array Value} {m : Str → Option Value} {news : List (Addr × Obj)} {Q : Value → Shared → Prop} (F : Fr h₀ L s.heap m) (X₀ : K.In h₀) (N : News h₀ L s.heap news) (h1 : (e, excObj (some dd) ws) ∈ news) (h2 : (dd, od) ∈ news) (hl : lookIn "code" od = some (some v))
    (hga : findIn K (.ref 34) "__getattribute__" = some (some (.builtin "BaseException.__getattribute__"))) (hgk : findIn K (.ref 34) "__getattr__" = some none) (hh : hasDictIn K 34 = true) (ha : findIn K (.ref 34) "code" = some none) (q : ktsIn K 34 "BaseException" = true) (hv : handedIn v = true) (h : Q v { s with toks := s.toks + 1 }) : wpAny (model prog w) A (getAttr (.ref e) "code" expr) Q E s :=
  exc_attr (X₀.keeps F.keep) (exc_inst1 N h1 h2) hga hgk (findObj_own hh ha rfl hl) hv q h
end
end
section
section
open PySem PySem.W PyProof.Rows
set_option maxRecDepth 100000
set_option maxHeartbeats 80000000

theorem two_okA {top p c e c' e' d f : Int} (h1 : Mk top (-p) c e) (h2 : Mk c e c' e') (h3 : Mk 3 0 d f) (hp0 : 0 ≤ p) (hp : p ≤ 4) (hl : -9000 < top) (hh : top < 9000) : addT.Ok ((c', e'), (d, f)) := (two_ok h1 h2 h3 hp0 hp hl hh).1
theorem two_fin {top p c e c' e' d f c'' e'' : Int} (hk : Mk (addc c' e' d f) (if f < e' then f else e') c'' e'') (h3 : Mk 3 0 d f) (h2 : Mk c e c' e') (h1 : Mk top (-p) c e) (hp0 : 0 ≤ p) (hp : p ≤ 4) (hl : -9000 < top) (hh : top < 9000) : Mk (top + 3 * 10 ^ p.toNat) (-p) c'' e'' := (two_ok h1 h2 h3 hp0 hp hl hh).2 _ _ hk
noncomputable abbrev Ord1 (l : List (Addr × Obj)) (a : Addr) (o : Obj) : Prop := ∀ q ∈ l, ∀ p ∈ [(a, o)], q.1 < p.1
theorem keep_sub {h₀ g h h' : Heap} {L a : Addr} {lit l9 l8 : List (Addr × Obj)} {o o' : Obj} (N : News h₀ L h lit) (N' : News h₀ L h' l9) (hs : ∀ p ∈ lit, p ∈ l9) (ha : (a, o) ∈ l9) (o9 : Ord1 l8 a o') (hs8 : ∀ p ∈ lit, p ∈ l8) (hg : ∀ b x, b ∉ lit.map (·.1) → h.get? b = some x → g.get? b = some x) (hk : ∀ b x, g.get? b = some x → h'.get? b = some x)
    (hga : g.get? a = none) (l : List (Addr × Obj)) (Nl : News h₀ L h l) : News h₀ L h' ((a, o) :: l) ∧ ∀ p ∈ l, p.1 ≠ a :=
  keep_all (L' := L) (m := fun _ => none) (lit' := []) N (fun p hp => N' p (by rw [List.mem_singleton.mp hp]; exact ha)) hg hk (fun p hp => (N' p (hs p hp)).1) (fun p hp => Nat.ne_of_lt (o9 p (hs8 p hp) _ (.head _))) hga l Nl
theorem eq_str_b {prog : Program} {w : World} {A : Around} {E : Value → Shared → Prop} {s : Shared} {x y : Str} {t u : Tok} {b : Bool} {Q : Value → Shared → Prop} (h : Q (.bool b) s) (e : (x == y) = b) : wpAny (model prog w) A (compareOp .Eq (.str x t) (.str y u)) Q E s := eq_str (by rw [e]; exact h)
theorem tup_K {K : Frag} {h₀ h : Heap} {L t : Addr} {m : Str → Option Value} {od : Option Addr} {items : Array Value} {n : Nat} {sl : Array (Option Value)} (F : Fr h₀ L h m) (X : K.In h₀) (hl : K.lookup t = some ⟨.type "tuple", od, .seq items n, sl⟩) : IsTup h t items := ⟨_, F.keep _ _ (X _ _ hl), rfl, _, rfl⟩
theorem item_lst {prog : Program} {w : World} {A : Around} {E : Value → Shared → Prop} {s : Shared} {value slice : PySem.Expr} {h₀ : Heap} {L l : Addr} {news : List (Addr × Obj)} {xs : List Value} {k : Int} {u : Tok} {v : Value} {Q : Value → Shared → Prop}
    (N : News h₀ L s.heap news) {n : Nat} (hm : (l, ({ cls := .type "list", data := .seq xs.toArray n } : Obj)) ∈ news) (h0 : 0 ≤ k) (hhi : k < 2 ^ 63) (hx : xs[k.toNat]? = some v) (h : Q v s)
    (hs : subscripted slice false (.ref l) (.int k u) = operate [.ref l, .int k u] (getItem (.ref l) (.int k u)) := by with_unfolding_all rfl) :
    wpAny (model prog w) A (subscriptTail value slice (.ref l) (.int k u)) Q E s := by
  have hl : s.heap.IsList l xs.toArray := ⟨_, (N _ hm).1, rfl, _, rfl⟩
  exact tail_any hl.typeIs slot_list_getitem.lookup (wpAny_getItem_list hl h0 hhi (by simpa using hx) h) hs
end
local macro_rules | `(tactic| walk_at "compareOp In str ref") => `(tactic| (k_here; (with_reducible show wpAny _ _ (compareOp CmpOp.In (Value.str _ _) (Value.ref _)) _ _ _); (with_unfolding_all refine' in_tuple_strs ?k1 ?k2 ?_; (case k1 => exact tup_K (by k_asm) (by k_asm) (by k_dflt k_is)); (case k2 => kde_strs); k_whole)))
local macro_rules | `(tactic| walk_at "subscriptTail Name Constant ref int") => `(tactic| (k_here; k_dflt (refine' item_lst ?N ?m ?a ?b ?x ?_; (case N => k_asm); (case m => k_mem); (case a => decide); (case b => decide); (case x => rfl); k_whole)))
local macro_rules | `(tactic| ktr_room) => `(tactic| ((try simp only [depth_under_make, depth_under_kw, depth_in1, depth_deeper, depth_caller]); (try dsimp only [ktrTop]); omega))
local macro_rules | `(tactic| ktr_units) => `(tactic| ((have hcL9 := cLine_is); (try simp only [units_in1, units_deeper, Around.mark_units, units_caller]); (try dsimp only [ktrTop]); omega))
local macro_rules | `(tactic| walk_at "compareOp Eq str str") => `(tactic| (k_here; k_dflt (first | refine eq_str_b (b := false) ?_ (by kernel_rfl!) | refine eq_str_b (b := true) ?_ (by kernel_rfl!))))
local macro_rules | `(tactic| k_mem) => `(tactic| ((with_reducible (repeat (first | exact List.Mem.head _ | refine List.Mem.tail _ ?_))); done))
local macro_rules | `(tactic| walk_at "call builtin:isinstance") => `(tactic| (k_here; (with_reducible show wpAny _ _ (call _ [Value.ref _, Value.type _]) _ _ _); k_dflt (kit_obj kitx_tuple)))
section
open PySem PySem.W PyProof.Rows
set_option maxRecDepth 100000
set_option maxHeartbeats 80000000
local macro_rules | `(tactic| ktr_rel) => `(tactic| ((try dsimp only [decT, addT]); first
  | (refine' Dec1.pair _ _ _ _ _ _ ?_; k_mem) | (refine' Dec1.whole _ _ _) | (refine' Add1.mk _ _ _ _ _ _ _ _ _ _ _ ?_ ?_ <;> k_mem) | (exact ⟨by omega, by omega, by omega, by omega⟩) | (refine' two_okA ?h1 ?h2 ?h3 ?_ ?_ ?_ ?_; (case h3 => assumption); (case h2 => assumption); (case h1 => assumption); all_goals assumption)))
local macro_rules | `(tactic| walk_at "exec Assign cons ListComp") => `(tactic| (k_here; lcg_look; k_dflt (refine assign_comp_tup (F₀ := by k_asm) (by rfl) (by with_unfolding_all rfl) (by rfl) (by decide) (by rfl) (by decide) (by rfl) (by rfl) (by rfl) ?_)))
local macro_rules | `(tactic| walk_at "SrcTup") => `(tactic| (k_here; k_dflt (refine SrcTup.intro (by rfl) (by k_asm) (by k_asm) (by k_mem) (by exact Nat.le_of_ble_eq_true rfl) ?_; intro g'; lcg_lit)))
local macro_rules | `(tactic| lcg_src) => `(tactic| k_mem)
theorem two_call (w : World) (mean : ExcName → Option Value) (mg mb : Str → Option Value) : ∀ (dp un : Nat) (gd : Option (List Code)) (cn : Str) (cs : Scope) (a : Addr) (ccd : Value) (cl : List (Str × Addr)) (outer : List Env) (A₀ : Around) (base h₀ : Heap) (L : Addr) (m : Str → Option Value) (s : Shared) (Q E : Value → Shared → Prop) (r : Addr) (c e : Int) (t u k1 k2 k3 k4 : Tok) (b top p : Int),
    Below A₀ base outer h₀ → Fr h₀ L s.heap m → (hd.heap_1 w.params).In h₀ → News h₀ L s.heap [(r, tup #[.int c t, .int e u])] → Top topProg loose mean mg mb h₀ → cs.kind = .function → Mk top (-p) c e → 0 ≤ p → p ≤ 4 → -9000 < top → top < 9000 → dp + 20 < recursionLimit → un + 160 < cLine →
    (∀ a9 c9 e9 t9 u9 h9 tk9, Fr h₀ L h9 m → (∀ l, News h₀ L s.heap l → News h₀ L h9 ((a9, tup #[.int c9 t9, .int e9 u9]) :: l) ∧ ∀ p ∈ l, p.1 ≠ a9) → Mk (top + 3 * 10 ^ p.toNat) (-p) c9 e9 → Q (.ref a9) { s with heap := h9, toks := tk9 }) →
    wpAny (model PySem.Challenge.rw_pq0145_01.row.prog w) (ktrTop dp un gd cn cs L a ccd cl outer) (call (.ref 304) [.str "+" k1, .ref r, .int 3 k2, .int b k3, .int 9 k4]) Q E s := by
  w_top off
  k_with_none
  k_fill
  have C1 := decT_tells w mean mg mb
  have C2 := addT_tells w mean mg mb
  intro dp un gd cn cs a ccd cl outer A₀ base h₀ L m s Q E r c e t u k1 k2 k3 k4 b top p B F X N T hk hM hp0 hp4 hl hh hd hu hret
  have hB := mk_bounds hM hp0 hp4 hl hh
  refine wpAny_call ?_
  k_dflt (refine' code_defR ?k1 ?k2 ?k3 ?k4 ?k5 ?kA ?kF ?kK ?k6 ?k7 ?k8 ?k9 ?kB ?_ ?c2 ?c3 ?c4 ?c5; (case kA => exact rfl); (case kF => exact rfl); (case kK => assumption); (case k1 => k_asm); (case k2 => k_asm); (case k3 => k_asm); (case k4 => k_asm); (case k5 => k_asm); (case k6 => k_is); (case k7 => k_is); (case k8 => ktr_room); (case k9 => exact BindsTo.of_eq rfl); (case c5 => decide); (case kB => exact locs rfl); (case c2 => exact rfl); (case c3 => exact rfl); (case c4 => exact rfl); k_whole; intro g0 L0 h0 hg0 FG0 F0 N0 B0 X0 T0; (try dsimp only); (try k_fold))
  (k_with "call ref" => ((fail_if_success (with_reducible show wpAny _ _ (call (Value.ref 93) _) _ _ _)); (fail_if_success (with_reducible show wpAny _ _ (call (Value.ref 129) _) _ _ _)); refine wpAny_call ?_; k_dflt (refine' code_def ?k1 ?k2 ?k3 ?k4 ?k5 ?kA ?kF ?kK ?k6 ?k7 ?k8 ?k9 ?kB ?_ ?c2 ?c3 ?c4 ?c5; (case kA => exact rfl); (case kF => exact rfl); (case kK => exact rfl); (case k1 => k_asm); (case k2 => k_asm); (case k3 => k_asm); (case k4 => k_asm); (case k5 => k_asm); (case k6 => k_is); (case k7 => k_is); (case k8 => ktr_room); (case k9 => exact BindsTo.of_eq rfl); (case c5 => decide); (case kB => exact locs rfl); (case c2 => exact rfl); (case c3 => exact rfl); (case c4 => exact rfl); k_whole; intro gX LX hX FGX FX NX BX XX TX; (try dsimp only); (try k_fold))))
  (k_with "call ref" => (ktn_call (Str.ofString "decimal_of") decT; (obtain ⟨a9, c9, e9, t9, u9, htl9⟩ := (by assumption : OnePair _)); subst htl9; (obtain ⟨b9, d9, f9, v9, x9, rfl, hl9, hk9⟩ := (by assumption : LastPair _ _ _)); (simp only [List.getLast?_cons_cons, lastp_cons, lastp_app, List.getLast?_singleton, Option.some.injEq, Prod.mk.injEq, Obj.mk.injEq, Data.seq.injEq, Array.mk.injEq, List.cons.injEq, Value.int.injEq, true_and, and_true] at hl9); (obtain ⟨rfl, ⟨rfl, rfl⟩, rfl, rfl⟩ := hl9); (try dsimp only at hk9); (try dsimp only); (try k_fold)))
  (k_with "call ref" => (ktn_call (Str.ofString "d_add") addT; (obtain ⟨a9, c9, e9, t9, u9, htl9⟩ := (by assumption : OnePair _)); subst htl9; (obtain ⟨b9, d9, f9, v9, x9, rfl, hl9, hk9⟩ := (by assumption : LastPair _ _ _)); (simp only [List.getLast?_cons_cons, lastp_cons, lastp_app, List.getLast?_singleton, Option.some.injEq, Prod.mk.injEq, Obj.mk.injEq, Data.seq.injEq, Array.mk.injEq, List.cons.injEq, Value.int.injEq, true_and, and_true] at hl9); (obtain ⟨rfl, ⟨rfl, rfl⟩, rfl, rfl⟩ := hl9); (try dsimp only at hk9); (try dsimp only); (try k_fold)))
  k_steps
  try k_unfold
  try dsimp only
  have N9 := (by assumption : News g0 L0 _ _)
  have o9 := (by assumption : Ord1 _ a9 _)
  refine leaveR_ (by k_asm) N9 (fun kF kN kg => ?_)
  refine hret _ _ _ _ _ _ _ kF (keep_sub N kN (by lcg_sub) (by k_mem) o9 (by lcg_sub) hg0 kg (N9 (a9, _) (by k_mem)).2.2) (two_fin hk9 (by assumption) (by assumption) hM hp0 hp4 hl hh)
end
section
open PySem PySem.W PyProof.Rows
set_option maxRecDepth 100000
set_option maxHeartbeats 80000000

noncomputable abbrev hooksD (w : World) (bk q : Addr) (bits : Int) (k1 k2 k3 k4 : Tok) (t2 t3 : Tok) : Obj := dictOf
  [{ hash := PyData.keyHash w.params "values", key := .str "values" k1, val := .ref bk }, { hash := PyData.keyHash w.params "bits", key := .str "bits" k2, val := .int bits t2 },
   { hash := PyData.keyHash w.params "digits", key := .str "digits" k3, val := .int 9 t3 }, { hash := PyData.keyHash w.params "asked", key := .str "asked" k4, val := .ref q }] 4
noncomputable def AllNq (a : Nat) : List (Addr × Obj) → Prop
  | [] => True
  | p :: r => (@Ne Nat p.1 a) ∧ AllNq a r
theorem allNq_of {a : Nat} : ∀ {l : List (Addr × Obj)}, (∀ p ∈ l, p.1 ≠ a) → AllNq a l
  | [], _ => trivial
  | p :: _, h => ⟨h p (.head _), allNq_of fun q hq => h q (.tail _ hq)⟩
noncomputable abbrev lstN (xs : List Value) (n : Nat) : Obj := { cls := .type "list", data := .seq xs.toArray n }
theorem keep_subN {h₀ g h h' : Heap} {L a : Addr} {lit l9 : List (Addr × Obj)} {o : Obj} (N : News h₀ L h lit) (N' : News h₀ L h' l9) (hs : ∀ p ∈ lit, p ∈ l9) (ha : (a, o) ∈ l9) (o9 : ∀ p ∈ lit, p.1 ≠ a) (hg : ∀ b x, b ∉ lit.map (·.1) → h.get? b = some x → g.get? b = some x) (hk : ∀ b x, g.get? b = some x → h'.get? b = some x)
    (hga : g.get? a = none) (l : List (Addr × Obj)) (Nl : News h₀ L h l) : News h₀ L h' ((a, o) :: l) ∧ ∀ p ∈ l, p.1 ≠ a :=
  keep_all (L' := L) (m := fun _ => none) (lit' := []) N (fun p hp => N' p (by rw [List.mem_singleton.mp hp]; exact ha)) hg hk (fun p hp => (N' p (hs p hp)).1) o9 hga l Nl
local macro_rules | `(tactic| ktr_rel) => `(tactic| ((try dsimp only [decT]); first
  | (refine' Dec1.pair _ _ _ _ _ _ ?_; k_mem) | (refine' Dec1.whole _ _ _) | (exact ⟨by omega, by omega, by omega, by omega⟩)))
theorem wt_dec (w : World) (mean : ExcName → Option Value) (mg mb : Str → Option Value) : ∀ (dp un : Nat) (gd : Option (List Code)) (cn : Str) (cs : Scope) (a : Addr) (ccd : Value) (cl : List (Str × Addr)) (outer : List Env) (A₀ : Around) (base h₀ : Heap) (L : Addr) (m : Str → Option Value) (s : Shared) (Q E : Value → Shared → Prop) (t v ps : Addr) (size p ne : Int) (u1 u2 u3 : Tok) (hk dh bk q : Addr) (bits : Int) (k1 k2 k3 k4 t2 t3 : Tok) ,
    Below A₀ base outer h₀ → Fr h₀ L s.heap m → (hd.heap_1 w.params).In h₀ → News h₀ L s.heap [(t, tup #[.str "decimal" u1, .ref v]), (v, tup #[.int size u2, .int ne u3]), (hk, instObj 389 dh), (dh, hooksD w bk q bits k1 k2 k3 k4 t2 t3)] → Top topProg loose mean mg mb h₀ → cs.kind = .function → ne = -p → 0 ≤ size → size < 9000 → 0 ≤ p → p ≤ 4 → dp + 20 < recursionLimit → un + 160 < cLine →
    (∀ a9 c9 e9 t9 u9 h9 tk9, Fr h₀ L h9 m → (∀ l, News h₀ L s.heap l → News h₀ L h9 ((a9, tup #[.int c9 t9, .int e9 u9]) :: l) ∧ ∀ p ∈ l, p.1 ≠ a9) → Mk size (-p) c9 e9 → Q (.ref a9) { s with heap := h9, toks := tk9 }) →
    wpAny (model PySem.Challenge.rw_pq0145_01.row.prog w) (ktrTop dp un gd cn cs L a ccd cl outer) (call (.ref 325) [.ref t, .ref ps, .ref hk]) Q E s := by
  w_top off
  k_with_none
  k_fill
  have C1 := decT_tells w mean mg mb
  intro dp un gd cn cs a ccd cl outer A₀ base h₀ L m s Q E t v ps size p ne u1 u2 u3 hk dh bk q bits k1 k2 k3 k4 t2 t3 B F X N T hk' hne hs0 hs9 hp0 hp4 hd hu hret
  subst hne
  refine wpAny_call ?_
  k_dflt (refine' code_defR ?k1 ?k2 ?k3 ?k4 ?k5 ?kA ?kF ?kK ?k6 ?k7 ?k8 ?k9 ?kB ?_ ?c2 ?c3 ?c4 ?c5; (case kA => exact rfl); (case kF => exact rfl); (case kK => assumption); (case k1 => k_asm); (case k2 => k_asm); (case k3 => k_asm); (case k4 => k_asm); (case k5 => k_asm); (case k6 => k_is); (case k7 => k_is); (case k8 => ktr_room); (case k9 => exact BindsTo.of_eq rfl); (case c5 => decide); (case kB => exact locs rfl); (case c2 => exact rfl); (case c3 => exact rfl); (case c4 => exact rfl); k_whole; intro g0 L0 h0 hg0 FG0 F0 N0 B0 X0 T0; (try dsimp only); (try k_fold))
  (k_with "call ref" => ((fail_if_success (with_reducible show wpAny _ _ (call (Value.ref 93) _) _ _ _)); refine wpAny_call ?_; k_dflt (refine' code_def ?k1 ?k2 ?k3 ?k4 ?k5 ?kA ?kF ?kK ?k6 ?k7 ?k8 ?k9 ?kB ?_ ?c2 ?c3 ?c4 ?c5; (case kA => exact rfl); (case kF => exact rfl); (case kK => exact rfl); (case k1 => k_asm); (case k2 => k_asm); (case k3 => k_asm); (case k4 => k_asm); (case k5 => k_asm); (case k6 => k_is); (case k7 => k_is); (case k8 => ktr_room); (case k9 => exact BindsTo.of_eq rfl); (case c5 => decide); (case kB => exact locs rfl); (case c2 => exact rfl); (case c3 => exact rfl); (case c4 => exact rfl); k_whole; intro gX LX hX FGX FX NX BX XX TX; (try dsimp only); (try k_fold))))
  (k_with "call ref" => (ktn_call (Str.ofString "decimal_of") decT; (obtain ⟨a9, c9, e9, t9, u9, htl9⟩ := (by assumption : OnePair _)); subst htl9; (obtain ⟨b9, d9, f9, v9, x9, rfl, hl9, hk9⟩ := (by assumption : LastPair _ _ _)); (simp only [List.getLast?_cons_cons, lastp_cons, lastp_app, List.getLast?_singleton, Option.some.injEq, Prod.mk.injEq, Obj.mk.injEq, Data.seq.injEq, Array.mk.injEq, List.cons.injEq, Value.int.injEq, true_and, and_true] at hl9); (obtain ⟨rfl, ⟨rfl, rfl⟩, rfl, rfl⟩ := hl9); (try dsimp only at hk9); (try dsimp only); (try k_fold)))
  k_steps
  all_goals try k_unfold
  all_goals try dsimp only
  all_goals (have N9 := (by assumption : News g0 L0 _ _))
  (have o9 := (fun p hp => (by assumption : Ord1 _ a9 _) p hp _ (.head _)))
  k_lt o9
  all_goals refine leaveR_ (by k_asm) N9 (fun kF kN kg => ?_)
  all_goals refine hret _ _ _ _ _ _ _ kF (keep_subN N kN (by lcg_sub) (by k_mem) (by k_all) hg0 kg (N9 (_, _) (by k_mem)).2.2) (by assumption)
theorem wt_neg (w : World) (mean : ExcName → Option Value) (mg mb : Str → Option Value) : ∀ (dp un : Nat) (gd : Option (List Code)) (cn : Str) (cs : Scope) (a : Addr) (ccd : Value) (cl : List (Str × Addr)) (outer : List Env) (A₀ : Around) (base h₀ : Heap) (L : Addr) (m : Str → Option Value) (s : Shared) (Q E : Value → Shared → Prop) (t r ps : Addr) (x : Value) (top p c e : Int) (n : Nat) (u1 u2 u3 : Tok) (hk dh bk q : Addr) (bits : Int) (k1 k2 k3 k4 t2 t3 : Tok) ,
    Below A₀ base outer h₀ → Fr h₀ L s.heap m → (hd.heap_1 w.params).In h₀ → News h₀ L s.heap [(t, tup #[.str "neg" u1, x]), (ps, lstN [.ref r] n), (r, tup #[.int c u2, .int e u3]), (hk, instObj 389 dh), (dh, hooksD w bk q bits k1 k2 k3 k4 t2 t3)] → Top topProg loose mean mg mb h₀ → cs.kind = .function → Mk top (-p) c e → dp + 20 < recursionLimit → un + 160 < cLine →
    (∀ a9 c9 e9 t9 u9 h9 tk9, Fr h₀ L h9 m → (∀ l, News h₀ L s.heap l → News h₀ L h9 ((a9, tup #[.int c9 t9, .int e9 u9]) :: l) ∧ ∀ p ∈ l, p.1 ≠ a9) → Mk (0 - top) (-p) c9 e9 → Q (.ref a9) { s with heap := h9, toks := tk9 }) →
    wpAny (model PySem.Challenge.rw_pq0145_01.row.prog w) (ktrTop dp un gd cn cs L a ccd cl outer) (call (.ref 325) [.ref t, .ref ps, .ref hk]) Q E s := by
  w_top off
  k_with_none
  k_fill
  intro dp un gd cn cs a ccd cl outer A₀ base h₀ L m s Q E t r ps x top p c e n u1 u2 u3 hk dh bk q bits k1 k2 k3 k4 t2 t3 B F X N T hk' hM hd hu hret
  refine wpAny_call ?_
  k_dflt (refine' code_defR ?k1 ?k2 ?k3 ?k4 ?k5 ?kA ?kF ?kK ?k6 ?k7 ?k8 ?k9 ?kB ?_ ?c2 ?c3 ?c4 ?c5; (case kA => exact rfl); (case kF => exact rfl); (case kK => assumption); (case k1 => k_asm); (case k2 => k_asm); (case k3 => k_asm); (case k4 => k_asm); (case k5 => k_asm); (case k6 => k_is); (case k7 => k_is); (case k8 => ktr_room); (case k9 => exact BindsTo.of_eq rfl); (case c5 => decide); (case kB => exact locs rfl); (case c2 => exact rfl); (case c3 => exact rfl); (case c4 => exact rfl); k_whole; intro g0 L0 h0 hg0 FG0 F0 N0 B0 X0 T0; (try dsimp only); (try k_fold))
  (k_with "call ref" => (refine wpAny_call ?_; k_dflt (refine' code_def ?k1 ?k2 ?k3 ?k4 ?k5 ?kA ?kF ?kK ?k6 ?k7 ?k8 ?k9 ?kB ?_ ?c2 ?c3 ?c4 ?c5; (case kA => exact rfl); (case kF => exact rfl); (case kK => exact rfl); (case k1 => k_asm); (case k2 => k_asm); (case k3 => k_asm); (case k4 => k_asm); (case k5 => k_asm); (case k6 => k_is); (case k7 => k_is); (case k8 => ktr_room); (case k9 => exact BindsTo.of_eq rfl); (case c5 => decide); (case kB => exact locs rfl); (case c2 => exact rfl); (case c3 => exact rfl); (case c4 => exact rfl); k_whole; intro gX LX hX FGX FX NX BX XX TX; (try dsimp only); (try k_fold))))
  k_steps
  all_goals try k_unfold
  all_goals try dsimp only
  all_goals (have N9 := (by assumption : News g0 L0 _ _))
  all_goals refine leaveR_ (by k_asm) N9 (fun kF kN kg => ?_)
  all_goals refine hret _ _ _ _ _ _ _ kF (keep_subN N kN (by lcg_sub) (by k_mem) (by k_all) hg0 kg (N9 (_, _) (by k_mem)).2.2) (mk_neg' hM)
theorem wt_two (w : World) (mean : ExcName → Option Value) (mg mb : Str → Option Value) : ∀ (dp un : Nat) (gd : Option (List Code)) (cn : Str) (cs : Scope) (a : Addr) (ccd : Value) (cl : List (Str × Addr)) (outer : List Env) (A₀ : Around) (base h₀ : Heap) (L : Addr) (m : Str → Option Value) (s : Shared) (Q E : Value → Shared → Prop) (t r ps : Addr) (x y : Value) (top p c e : Int) (n : Nat) (u1 u2 u3 u4 u5 : Tok) (hk dh bk q : Addr) (bits : Int) (k1 k2 k3 k4 t2 t3 : Tok) ,
    Below A₀ base outer h₀ → Fr h₀ L s.heap m → (hd.heap_1 w.params).In h₀ → News h₀ L s.heap [(t, tup #[.str "two" u1, .str "+" u4, x, y]), (ps, lstN [.ref r, .int 3 u5] n), (r, tup #[.int c u2, .int e u3]), (hk, instObj 389 dh), (dh, hooksD w bk q bits k1 k2 k3 k4 t2 t3)] → Top topProg loose mean mg mb h₀ → cs.kind = .function → Mk top (-p) c e → 0 ≤ p → p ≤ 4 → -9000 < top → top < 9000 → dp + 40 < recursionLimit → un + 320 < cLine →
    (∀ a9 c9 e9 t9 u9 h9 tk9, Fr h₀ L h9 m → (∀ l, News h₀ L s.heap l → News h₀ L h9 ((a9, tup #[.int c9 t9, .int e9 u9]) :: l) ∧ ∀ p ∈ l, p.1 ≠ a9) → Mk (top + 3 * 10 ^ p.toNat) (-p) c9 e9 → Q (.ref a9) { s with heap := h9, toks := tk9 }) →
    wpAny (model PySem.Challenge.rw_pq0145_01.row.prog w) (ktrTop dp un gd cn cs L a ccd cl outer) (call (.ref 325) [.ref t, .ref ps, .ref hk]) Q E s := by
  w_top off
  k_with_none
  k_fill
  intro dp un gd cn cs a ccd cl outer A₀ base h₀ L m s Q E t r ps x y top p c e n u1 u2 u3 u4 u5 hk dh bk q bits k1 k2 k3 k4 t2 t3 B F X N T hk' hM hp0 hp4 hl hh hd hu hret
  refine wpAny_call ?_
  k_dflt (refine' code_defR ?k1 ?k2 ?k3 ?k4 ?k5 ?kA ?kF ?kK ?k6 ?k7 ?k8 ?k9 ?kB ?_ ?c2 ?c3 ?c4 ?c5; (case kA => exact rfl); (case kF => exact rfl); (case kK => assumption); (case k1 => k_asm); (case k2 => k_asm); (case k3 => k_asm); (case k4 => k_asm); (case k5 => k_asm); (case k6 => k_is); (case k7 => k_is); (case k8 => ktr_room); (case k9 => exact BindsTo.of_eq rfl); (case c5 => decide); (case kB => exact locs rfl); (case c2 => exact rfl); (case c3 => exact rfl); (case c4 => exact rfl); k_whole; intro g0 L0 h0 hg0 FG0 F0 N0 B0 X0 T0; (try dsimp only); (try k_fold))
  (k_with "call ref" => ((fail_if_success (with_reducible show wpAny _ _ (call (Value.ref 304) _) _ _ _)); refine wpAny_call ?_; k_dflt (refine' code_def ?k1 ?k2 ?k3 ?k4 ?k5 ?kA ?kF ?kK ?k6 ?k7 ?k8 ?k9 ?kB ?_ ?c2 ?c3 ?c4 ?c5; (case kA => exact rfl); (case kF => exact rfl); (case kK => exact rfl); (case k1 => k_asm); (case k2 => k_asm); (case k3 => k_asm); (case k4 => k_asm); (case k5 => k_asm); (case k6 => k_is); (case k7 => k_is); (case k8 => ktr_room); (case k9 => exact BindsTo.of_eq rfl); (case c5 => decide); (case kB => exact locs rfl); (case c2 => exact rfl); (case c3 => exact rfl); (case c4 => exact rfl); k_whole; intro gX LX hX FGX FX NX BX XX TX; (try dsimp only); (try k_fold))))
  (k_with "call ref" => ((with_reducible show wpAny _ _ (call (Value.ref 304) _) _ _ _); k_dflt (refine' two_call w mean mg mb _ _ _ _ _ _ _ _ _ _ _ _ _ _ _ _ _ _ _ _ _ _ _ _ _ _ _ _ _ ?kB ?kF ?kK ?kN ?kT ?kk ?c0 ?c1 ?c2 ?c3 ?c4 ?kd ?ku ?_; (case kB => k_asm); (case kF => k_asm); (case kK => k_asm); (case kT => k_asm); (case kk => first | exact rfl | assumption); (case kN => exact news_sub (by k_asm) (by lcg_sub)); (case c0 => first | assumption | omega); (case c1 => first | assumption | omega); (case c2 => first | assumption | omega); (case c3 => first | assumption | omega); (case c4 => first | assumption | omega); (case kd => ktr_room); (case ku => ktr_units)); k_whole; intro a9 c9 e9 t9 u9 h9 tk9 F9 K9 hk9; (obtain ⟨N9, n9⟩ := K9 _ (by k_asm : News _ _ _ _)); clear K9; (replace n9 := allNq_of n9); (simp only [AllNq, and_true] at n9); (try k_sweep); (try dsimp only); (try k_fold)))
  k_steps
  all_goals try k_unfold
  all_goals try dsimp only
  all_goals (have N9 := (by assumption : News g0 L0 _ _))
  all_goals refine leaveR_ (by k_asm) N9 (fun kF kN kg => ?_)
  all_goals refine hret _ _ _ _ _ _ _ kF (keep_subN N kN (by lcg_sub) (by k_mem) (by k_all) hg0 kg (N9 (_, _) (by k_mem)).2.2) (by assumption)
end
section
open PySem PySem.W PyProof.Rows
set_option maxRecDepth 100000
set_option maxHeartbeats 80000000

theorem all_sub {l l' : List (Addr × Obj)} {a : Addr} (h : ∀ p ∈ l', p.1 ≠ a) (hs : ∀ p ∈ l, p ∈ l') : ∀ p ∈ l, p.1 ≠ a := fun p hp => h p (hs p hp)
theorem keep_q {h₀ g h h' : Heap} {L q : Addr} {lit l9 : List (Addr × Obj)} {o o' : Obj} (N : News h₀ L h ((q, o) :: lit)) (N' : News h₀ L h' l9) (hs : ∀ p ∈ lit, p ∈ l9) (hq : (q, o') ∈ l9) (hg : ∀ b x, b ∉ ((q, o) :: lit).map (·.1) → h.get? b = some x → g.get? b = some x) (hk : ∀ b x, g.get? b = some x → h'.get? b = some x)
    (l : List (Addr × Obj)) (Nl : News h₀ L h l) (nq : ∀ p ∈ l, p.1 ≠ q) : News h₀ L h' ((q, o') :: l) := by
  intro p hp
  rcases List.mem_cons.mp hp with rfl | hp
  · exact N' _ hq
  · obtain ⟨n1, n2, n3⟩ := Nl p hp
    by_cases hm : p.1 ∈ ((q, o) :: lit).map (·.1)
    · obtain ⟨r, hr, e⟩ := List.mem_map.mp hm
      have z := (N r hr).1
      rw [e, n1] at z
      rcases List.mem_cons.mp hr with rfl | hr
      · exact absurd e.symm (nq p hp)
      · have y := (N' r (hs r hr)).1
        rw [e] at y
        exact ⟨by rw [y, z], n2, n3⟩
    · exact ⟨hk _ _ (hg _ _ hm n1), n2, n3⟩
theorem keep_qa {h₀ g h h' : Heap} {L q a : Addr} {lit l9 : List (Addr × Obj)} {o o' oa : Obj} (N : News h₀ L h ((q, o) :: lit)) (N' : News h₀ L h' l9) (hs : ∀ p ∈ lit, p ∈ l9) (hq : (q, o') ∈ l9) (ha : (a, oa) ∈ l9) (o9 : ∀ p ∈ (q, o) :: lit, p.1 ≠ a) (hg : ∀ b x, b ∉ ((q, o) :: lit).map (·.1) → h.get? b = some x → g.get? b = some x) (hk : ∀ b x, g.get? b = some x → h'.get? b = some x)
    (hga : g.get? a = none) (l : List (Addr × Obj)) (Nl : News h₀ L h l) (nq : ∀ p ∈ l, p.1 ≠ q) : News h₀ L h' ((a, oa) :: (q, o') :: l) ∧ (∀ p ∈ l, p.1 ≠ a) ∧ q ≠ a := by
  refine ⟨?_, ?_, o9 _ (.head _)⟩
  · intro p hp
    rcases List.mem_cons.mp hp with rfl | hp
    · exact N' _ ha
    · exact keep_q N N' hs hq hg hk l Nl nq p hp
  · intro p hp e
    by_cases hm : p.1 ∈ ((q, o) :: lit).map (·.1)
    · obtain ⟨r, hr, e'⟩ := List.mem_map.mp hm
      exact o9 r hr (e'.trans e)
    · have z := hg _ _ hm (Nl p hp).1
      rw [e, hga] at z
      cases z
end
local macro_rules | `(tactic| walk_at "eval ListComp") => `(tactic| (k_here; k_dflt (refine rev_pairs (F₀ := by k_asm) (by rfl) (by decide) (by rfl) (by decide) (by rfl) (fun _ => by rfl) (fun _ => by rfl) (by decide) ?_)))
local macro_rules | `(tactic| walk_at "RevP") => `(tactic| (k_here; k_dflt (first | (refine RevP.one (by rfl) (by k_asm) (by k_asm) (by k_all) (by k_mem) ?_; intro D' T' h' tk' F' N' nD' nT') | (refine RevP.two (by rfl) (by k_asm) (by k_asm) (by k_all) (by k_mem) ?_; intro D' T' U' h' tk' F' N' nD' nU' nT')); (try k_sweep); (try dsimp only)))
local macro_rules | `(tactic| k_ne) => `(tactic| (refine neN ?_; (try dsimp only); first | exact ne_l (by with_reducible assumption) (by k_mem) | exact ne_r (by with_reducible assumption) (by k_mem) | omega))
section
open PySem PySem.W PyProof.Rows
set_option maxRecDepth 100000
set_option maxHeartbeats 80000000
theorem wt_A (w : World) (mean : ExcName → Option Value) (mg mb : Str → Option Value) : ∀ (dp un : Nat) (gd : Option (List Code)) (cn : Str) (cs : Scope) (a : Addr) (ccd : Value) (cl : List (Str × Addr)) (outer : List Env) (A₀ : Around) (base h₀ : Heap) (L : Addr) (m : Str → Option Value) (s : Shared) (Q E : Value → Shared → Prop) (t : Addr) (ps : Value) (u1 u2 : Tok) (hk dh bk q : Addr) (bits : Int) (k1 k2 k3 k4 t2 t3 : Tok) (bo : Obj) (b1 b2 b3 b4 : Tok) (DD : List (PyData × PyData)) (vs : Array Value) (nq : Nat) ,
    Below A₀ base outer h₀ → Fr h₀ L s.heap m → (hd.heap_1 w.params).In h₀ → News h₀ L s.heap ((q, listOf vs nq) :: [(t, tup #[.str "name" u1, .str "A" u2]), (hk, instObj 389 dh), (dh, hooksD w bk q bits k1 k2 k3 k4 t2 t3), (bk, bo)]) → Top topProg loose mean mg mb h₀ → cs.kind = .function → (bk == sysModules) = false → bo.IsDictOf (PySem.strKind PySem.Challenge.rw_pq0145_01.row.prog w) (strPairs [(.str "A" b1, .int 3 b2), (.str "T$" b3, .str "x" b4)]) → PyProof.V.FlatPairs PyData.str (strPairs [(.str "A" b1, .int 3 b2), (.str "T$" b3, .str "x" b4)]) DD → vs.size ≤ sizeLine → (∀ p ∈ ([(t, tup #[.str "name" u1, .str "A" u2]), (hk, instObj 389 dh), (dh, hooksD w bk q bits k1 k2 k3 k4 t2 t3), (bk, bo)] : List (Addr × Obj)), p.1 ≠ q) → dp + 20 < recursionLimit → un + 160 < cLine →
    (∀ h9 tk9 tk8 n9 t9, Fr h₀ L h9 m → (∀ l, News h₀ L s.heap l → (∀ p ∈ l, p.1 ≠ q) → News h₀ L h9 ((q, listOf (vs.push (.str "A" tk8)) n9) :: l)) → Q (.int 3 t9) { s with heap := h9, toks := tk9 }) →
    wpAny (model PySem.Challenge.rw_pq0145_01.row.prog w) (ktrTop dp un gd cn cs L a ccd cl outer) (call (.ref 325) [.ref t, ps, .ref hk]) Q E s := by
  w_top off
  k_with_none
  k_fill
  intro dp un gd cn cs a ccd cl outer A₀ base h₀ L m s Q E t ps u1 u2 hk dh bk q bits k1 k2 k3 k4 t2 t3 bo b1 b2 b3 b4 DD vs nq B F X N T hk' lo hd' hf' hsz nq0 hd hu hret
  refine wpAny_call ?_
  k_dflt (refine' code_defR ?k1 ?k2 ?k3 ?k4 ?k5 ?kA ?kF ?kK ?k6 ?k7 ?k8 ?k9 ?kB ?_ ?c2 ?c3 ?c4 ?c5; (case kA => exact rfl); (case kF => exact rfl); (case kK => assumption); (case k1 => k_asm); (case k2 => k_asm); (case k3 => k_asm); (case k4 => k_asm); (case k5 => k_asm); (case k6 => k_is); (case k7 => k_is); (case k8 => ktr_room); (case k9 => exact BindsTo.of_eq rfl); (case c5 => decide); (case kB => exact locs rfl); (case c2 => exact rfl); (case c3 => exact rfl); (case c4 => exact rfl); k_whole; intro g0 L0 h0 hg0 FG0 F0 N0 B0 X0 T0; (try dsimp only); (try k_fold))
  (k_with "compareOp NotIn str ref" => (k_dflt (refine kdg_notin (knd := PySem.strKind _ _) (k := Str.ofString "A") (by k_asm) (by k_mem) (by k_asm) (by k_asm) (by exact rfl) true (by rfl) ?_); (try dsimp only)))
  (k_with "getItem ref str" => (k_dflt (refine kdt_getItem (knd := PySem.strKind _ _) (k := Str.ofString "A") (by k_asm) (by k_mem) (by k_asm) (by exact rfl) (by rfl) ?_); (try dsimp only)))
  (k_with "call ref" => (refine wpAny_call ?_; k_dflt (refine' code_def ?k1 ?k2 ?k3 ?k4 ?k5 ?kA ?kF ?kK ?k6 ?k7 ?k8 ?k9 ?kB ?_ ?c2 ?c3 ?c4 ?c5; (case kA => exact rfl); (case kF => exact rfl); (case kK => exact rfl); (case k1 => k_asm); (case k2 => k_asm); (case k3 => k_asm); (case k4 => k_asm); (case k5 => k_asm); (case k6 => k_is); (case k7 => k_is); (case k8 => ktr_room); (case k9 => exact BindsTo.of_eq rfl); (case c5 => decide); (case kB => exact locs rfl); (case c2 => exact rfl); (case c3 => exact rfl); (case c4 => exact rfl); k_whole; intro gX LX hX FGX FX NX BX XX TX; (try dsimp only); (try k_fold))))
  k_steps
  all_goals try k_unfold
  all_goals try dsimp only
  have N9 := (by assumption : News g0 L0 _ _)
  refine leaveR_ (by k_asm) N9 (fun kF kN kg => ?_)
  refine hret _ _ u2 (nq + 1) b2 kF (keep_q N kN ?a ?b hg0 kg)
  case a => lcg_sub
  case b => k_mem
theorem wt_T (w : World) (mean : ExcName → Option Value) (mg mb : Str → Option Value) : ∀ (dp un : Nat) (gd : Option (List Code)) (cn : Str) (cs : Scope) (a : Addr) (ccd : Value) (cl : List (Str × Addr)) (outer : List Env) (A₀ : Around) (base h₀ : Heap) (L : Addr) (m : Str → Option Value) (s : Shared) (Q E : Value → Shared → Prop) (t : Addr) (ps : Value) (u1 u2 : Tok) (hk dh bk q : Addr) (bits : Int) (k1 k2 k3 k4 t2 t3 : Tok) (bo : Obj) (b1 b2 b3 b4 : Tok) (DD : List (PyData × PyData)) (vs : Array Value) (nq : Nat) ,
    Below A₀ base outer h₀ → Fr h₀ L s.heap m → (hd.heap_1 w.params).In h₀ → News h₀ L s.heap ((q, listOf vs nq) :: [(t, tup #[.str "name" u1, .str "T$" u2]), (hk, instObj 389 dh), (dh, hooksD w bk q bits k1 k2 k3 k4 t2 t3), (bk, bo)]) → Top topProg loose mean mg mb h₀ → cs.kind = .function → (bk == sysModules) = false → bo.IsDictOf (PySem.strKind PySem.Challenge.rw_pq0145_01.row.prog w) (strPairs [(.str "A" b1, .int 3 b2), (.str "T$" b3, .str "x" b4)]) → PyProof.V.FlatPairs PyData.str (strPairs [(.str "A" b1, .int 3 b2), (.str "T$" b3, .str "x" b4)]) DD → vs.size ≤ sizeLine → (∀ p ∈ ([(t, tup #[.str "name" u1, .str "T$" u2]), (hk, instObj 389 dh), (dh, hooksD w bk q bits k1 k2 k3 k4 t2 t3), (bk, bo)] : List (Addr × Obj)), p.1 ≠ q) → dp + 20 < recursionLimit → un + 160 < cLine →
    (∀ h9 tk9 tk8 n9 t9, Fr h₀ L h9 m → (∀ l, News h₀ L s.heap l → (∀ p ∈ l, p.1 ≠ q) → News h₀ L h9 ((q, listOf (vs.push (.str "T$" tk8)) n9) :: l)) → Q (.str "x" t9) { s with heap := h9, toks := tk9 }) →
    wpAny (model PySem.Challenge.rw_pq0145_01.row.prog w) (ktrTop dp un gd cn cs L a ccd cl outer) (call (.ref 325) [.ref t, ps, .ref hk]) Q E s := by
  w_top off
  k_with_none
  k_fill
  intro dp un gd cn cs a ccd cl outer A₀ base h₀ L m s Q E t ps u1 u2 hk dh bk q bits k1 k2 k3 k4 t2 t3 bo b1 b2 b3 b4 DD vs nq B F X N T hk' lo hd' hf' hsz nq0 hd hu hret
  refine wpAny_call ?_
  k_dflt (refine' code_defR ?k1 ?k2 ?k3 ?k4 ?k5 ?kA ?kF ?kK ?k6 ?k7 ?k8 ?k9 ?kB ?_ ?c2 ?c3 ?c4 ?c5; (case kA => exact rfl); (case kF => exact rfl); (case kK => assumption); (case k1 => k_asm); (case k2 => k_asm); (case k3 => k_asm); (case k4 => k_asm); (case k5 => k_asm); (case k6 => k_is); (case k7 => k_is); (case k8 => ktr_room); (case k9 => exact BindsTo.of_eq rfl); (case c5 => decide); (case kB => exact locs rfl); (case c2 => exact rfl); (case c3 => exact rfl); (case c4 => exact rfl); k_whole; intro g0 L0 h0 hg0 FG0 F0 N0 B0 X0 T0; (try dsimp only); (try k_fold))
  (k_with "compareOp NotIn str ref" => (k_dflt (refine kdg_notin (knd := PySem.strKind _ _) (k := Str.ofString "T$") (by k_asm) (by k_mem) (by k_asm) (by k_asm) (by exact rfl) true (by rfl) ?_); (try dsimp only)))
  (k_with "getItem ref str" => (k_dflt (refine kdt_getItem (knd := PySem.strKind _ _) (k := Str.ofString "T$") (by k_asm) (by k_mem) (by k_asm) (by exact rfl) (by rfl) ?_); (try dsimp only)))
  (k_with "call ref" => (refine wpAny_call ?_; k_dflt (refine' code_def ?k1 ?k2 ?k3 ?k4 ?k5 ?kA ?kF ?kK ?k6 ?k7 ?k8 ?k9 ?kB ?_ ?c2 ?c3 ?c4 ?c5; (case kA => exact rfl); (case kF => exact rfl); (case kK => exact rfl); (case k1 => k_asm); (case k2 => k_asm); (case k3 => k_asm); (case k4 => k_asm); (case k5 => k_asm); (case k6 => k_is); (case k7 => k_is); (case k8 => ktr_room); (case k9 => exact BindsTo.of_eq rfl); (case c5 => decide); (case kB => exact locs rfl); (case c2 => exact rfl); (case c3 => exact rfl); (case c4 => exact rfl); k_whole; intro gX LX hX FGX FX NX BX XX TX; (try dsimp only); (try k_fold))))
  k_steps
  all_goals try k_unfold
  all_goals try dsimp only
  have N9 := (by assumption : News g0 L0 _ _)
  refine leaveR_ (by k_asm) N9 (fun kF kN kg => ?_)
  refine hret _ _ u2 (nq + 1) b4 kF (keep_q N kN ?a ?b hg0 kg)
  case a => lcg_sub
  case b => k_mem
end
section
open PySem PySem.W PyProof.Rows
set_option maxRecDepth 100000
set_option maxHeartbeats 80000000
theorem wt_N (w : World) (mean : ExcName → Option Value) (mg mb : Str → Option Value) : ∀ (dp un : Nat) (gd : Option (List Code)) (cn : Str) (cs : Scope) (a : Addr) (ccd : Value) (cl : List (Str × Addr)) (outer : List Env) (A₀ : Around) (base h₀ : Heap) (L : Addr) (m : Str → Option Value) (s : Shared) (Q E : Value → Shared → Prop) (t : Addr) (ps : Value) (u1 u2 : Tok) (hk dh bk q : Addr) (bits : Int) (k1 k2 k3 k4 t2 t3 : Tok) (bo : Obj) (b1 b2 b3 b4 : Tok) (DD : List (PyData × PyData)) (vs : Array Value) (nq : Nat) (x1 x2 x3 : Addr) (o1 o2 o3 : Obj) ,
    Below A₀ base outer h₀ → Fr h₀ L s.heap m → (hd.heap_1 w.params).In h₀ → News h₀ L s.heap ((q, listOf vs nq) :: [(t, tup #[.str "name" u1, .str "NONE" u2]), (hk, instObj 389 dh), (dh, hooksD w bk q bits k1 k2 k3 k4 t2 t3), (bk, bo), (x1, o1), (x2, o2), (x3, o3)]) → Top topProg loose mean mg mb h₀ → cs.kind = .function → (bk == sysModules) = false → bo.IsDictOf (PySem.strKind PySem.Challenge.rw_pq0145_01.row.prog w) (strPairs [(.str "A" b1, .int 3 b2), (.str "T$" b3, .str "x" b4)]) → PyProof.V.FlatPairs PyData.str (strPairs [(.str "A" b1, .int 3 b2), (.str "T$" b3, .str "x" b4)]) DD → vs.size ≤ sizeLine → (∀ p ∈ ([(t, tup #[.str "name" u1, .str "NONE" u2]), (hk, instObj 389 dh), (dh, hooksD w bk q bits k1 k2 k3 k4 t2 t3), (bk, bo), (x1, o1), (x2, o2), (x3, o3)] : List (Addr × Obj)), p.1 ≠ q) → dp + 40 < recursionLimit → un + 320 < cLine →
    (∀ g e dd od tkc h9 tk9, Fr h₀ L g m → FlyD base g (envX cn cs L a ccd cl :: outer) e dd [(dd, od), (x1, o1), (x2, o2), (x3, o3)] h9 → g.UpToSlots h9 → lookIn "code" od = some (some (.str "NM" tkc)) → E (.ref e) { s with heap := h9, toks := tk9 }) →
    wpAny (model PySem.Challenge.rw_pq0145_01.row.prog w) (ktrTop dp un gd cn cs L a ccd cl outer) (call (.ref 325) [.ref t, ps, .ref hk]) Q E s := by
  w_top off
  k_with_none
  k_fill
  intro dp un gd cn cs a ccd cl outer A₀ base h₀ L m s Q E t ps u1 u2 hk dh bk q bits k1 k2 k3 k4 t2 t3 bo b1 b2 b3 b4 DD vs nq x1 x2 x3 o1 o2 o3 B F X N T hk' lo hd' hf' hsz nq0 hd hu hret
  refine wpAny_call ?_
  k_dflt (refine' code_defR ?k1 ?k2 ?k3 ?k4 ?k5 ?kA ?kF ?kK ?k6 ?k7 ?k8 ?k9 ?kB ?_ ?c2 ?c3 ?c4 ?c5; (case kA => exact rfl); (case kF => exact rfl); (case kK => assumption); (case k1 => k_asm); (case k2 => k_asm); (case k3 => k_asm); (case k4 => k_asm); (case k5 => k_asm); (case k6 => k_is); (case k7 => k_is); (case k8 => ktr_room); (case k9 => exact BindsTo.of_eq rfl); (case c5 => decide); (case kB => exact locs rfl); (case c2 => exact rfl); (case c3 => exact rfl); (case c4 => exact rfl); k_whole; intro g0 L0 h0 hg0 FG0 F0 N0 B0 X0 T0; (try dsimp only); (try k_fold))
  (k_with "compareOp NotIn str ref" => (k_dflt (refine kdg_notin (knd := PySem.strKind _ _) (k := Str.ofString "NONE") (by k_asm) (by k_mem) (by k_asm) (by k_asm) (by exact rfl) false (by rfl) ?_); (try dsimp only)))
  (k_with "getItem ref str" => (k_dflt (refine kdt_getItem (knd := PySem.strKind _ _) (k := Str.ofString "NONE") (by k_asm) (by k_mem) (by k_asm) (by exact rfl) (by rfl) ?_); (try dsimp only)))
  (k_with "call ref" => ((fail_if_success (with_reducible show wpAny _ _ (call (Value.ref 34) _) _ _ _)); refine wpAny_call ?_; k_dflt (refine' code_def ?k1 ?k2 ?k3 ?k4 ?k5 ?kA ?kF ?kK ?k6 ?k7 ?k8 ?k9 ?kB ?_ ?c2 ?c3 ?c4 ?c5; (case kA => exact rfl); (case kF => exact rfl); (case kK => exact rfl); (case k1 => k_asm); (case k2 => k_asm); (case k3 => k_asm); (case k4 => k_asm); (case k5 => k_asm); (case k6 => k_is); (case k7 => k_is); (case k8 => ktr_room); (case k9 => exact BindsTo.of_eq rfl); (case c5 => decide); (case kB => exact locs rfl); (case c2 => exact rfl); (case c3 => exact rfl); (case c4 => exact rfl); k_whole; intro gX LX hX FGX FX NX BX XX TX; (try dsimp only); (try k_fold))))
  (k_with "exec Raise some none" => (k_dflt (refine' exc_raise (K := Mine.hd.heap_1 w.params) ?hh ?_ ?q; (case hh => first | exact rfl | k_asm); (case q => (first | exact rfl | kernel_rfl!)))))
  (k_with "call ref" => ((with_reducible show wpAny _ _ (call (Value.ref 34) [_, _]) _ _ _); k_dflt (refine' be_call2 w _ _ _ _ _ _ _ _ _ _ _ _ _ _ _ _ _ _ ?kK ?kF ?kN ?kB ?kT ?kA ?kf ?kk ?kr ?_; (case kK => k_asm); (case kF => k_asm); (case kN => k_asm); (case kB => k_asm); (case kT => k_asm); (case kA => exact rfl); (case kf => exact rfl); (case kk => exact rfl); (case kr => ktr_room)); k_whole; intro eE ddE odE wsE hE tkE FE NE nE lkE nfE w0E w1E; (try dsimp only); refine' ⟨eE, some ddE, wsE, rfl, ?x1, (NE _ (.head _)).1, w1E, ?_⟩; (case x1 => exact Frag.In.keeps (by k_asm) FE.keep)))
  (k_with "leaving ref" => (k_dflt (refine' leaveD1 ?K ?F NE nE w1E rfl rfl ?_; (case K => k_asm); (case F => k_asm)); k_whole; intro hY Y9 y9; (try dsimp only)))
  (k_with "leaving ref" => (k_dflt (refine' leaveD2 ?K ?F Y9 y9 rfl ?_; (case K => k_asm); (case F => k_asm)); k_whole; clear Y9 y9; intro hY Y9 y9; (try dsimp only)))
  k_steps
  all_goals try k_unfold
  all_goals try dsimp only
  refine hret g0 eE ddE odE _ _ _ FG0 (fly_sub Y9 ?a) y9 lkE
  case a => lcg_sub
end
section
open PySem PySem.W PyProof.Rows
set_option maxRecDepth 100000
set_option maxHeartbeats 80000000
theorem toss_call (w : World) (mean : ExcName → Option Value) (mg mb : Str → Option Value) : ∀ (dp un : Nat) (gd : Option (List Code)) (cn : Str) (cs : Scope) (a : Addr) (ccd : Value) (cl : List (Str × Addr)) (outer : List Env) (A₀ : Around) (base h₀ : Heap) (L : Addr) (m : Str → Option Value) (s : Shared) (Q E : Value → Shared → Prop) (c r : Addr) (ys : List Value) (il : List Int) (k many : Int) (tk u : Tok) (n : Nat),
    Below A₀ base outer h₀ → Fr h₀ L s.heap m → (hd.heap_1 w.params).In h₀ → News h₀ L s.heap ((c, listOf #[.ref r, .int k tk] n) :: [(r, LCg.lst ys)]) → Top topProg loose mean mg mb h₀ → cs.kind = .function → IntsAre ys il → ys.length = il.length → il.length ≤ 12 → 0 ≤ k + 1 → k < 99 → 0 < many → (∀ p ∈ ([(r, LCg.lst ys)] : List (Addr × Obj)), p.1 ≠ c) → dp + 20 < recursionLimit → un + 160 < cLine →
    (∀ v t9 h9 tk9 tk8, 0 ≤ v → v < many → Fr h₀ L h9 m → (∀ l, News h₀ L s.heap l → (∀ p ∈ l, p.1 ≠ c) → News h₀ L h9 ((c, listOf #[.ref r, .int (k + 1) tk8] n) :: l)) → Q (.int v t9) { s with heap := h9, toks := tk9 }) →
    wpAny (model PySem.Challenge.rw_pq0145_01.row.prog w) (ktrTop dp un gd cn cs L a ccd cl outer) (call (.ref 400) [.ref c, .int many u]) Q E s := by
  w_top off
  k_with_none
  k_fill
  intro dp un gd cn cs a ccd cl outer A₀ base h₀ L m s Q E c r ys il k many tk u n B F X N T hk' hI hL hl12 hk0 hk9 hm0 nq0 hd hu hret
  refine wpAny_call ?_
  k_dflt (refine' code_defR ?k1 ?k2 ?k3 ?k4 ?k5 ?kA ?kF ?kK ?k6 ?k7 ?k8 ?k9 ?kB ?_ ?c2 ?c3 ?c4 ?c5; (case kA => exact rfl); (case kF => exact rfl); (case kK => assumption); (case k1 => k_asm); (case k2 => k_asm); (case k3 => k_asm); (case k4 => k_asm); (case k5 => k_asm); (case k6 => k_is); (case k7 => k_is); (case k8 => ktr_room); (case k9 => exact BindsTo.of_eq rfl); (case c5 => decide); (case kB => exact locs rfl); (case c2 => exact rfl); (case c3 => exact rfl); (case c4 => exact rfl); k_whole; intro g0 L0 h0 hg0 FG0 F0 N0 B0 X0 T0; (try dsimp only); (try k_fold))
  (k_with "call builtin:len cons nil" => (k_dflt (refine KM.len_K (by k_asm) (by k_mem) hI (by omega) ?_); (try dsimp only)))
  k_steps
  all_goals try k_unfold
  all_goals try dsimp only
  all_goals (have N9 := (by assumption : News g0 L0 _ _))
  all_goals refine leaveR_ (by k_asm) N9 (fun kF kN kg => ?_)
  all_goals (refine' hret _ _ _ _ _ ?p1 ?p2 kF (keep_q N kN ?a ?b hg0 kg); (case b => exact List.Mem.head _); (case a => lcg_sub); (case p1 => exact Int.fmod_nonneg_of_pos _ hm0); (case p2 => exact Int.fmod_lt_of_pos _ hm0))
end
section
open PySem PySem.W PyProof.Rows
set_option maxRecDepth 100000
set_option maxHeartbeats 80000000

noncomputable def nxt (t b : Int) : Int := if b < 2 * (t - t.fdiv b * b) ∨ (2 * (t - t.fdiv b * b) = b ∧ (t.fdiv b).fmod 2 ≠ 0) then t.fdiv b + 1 else t.fdiv b
noncomputable abbrev nextT : ToldN (Int × Int) where
  Rel := Int2
  Ok := fun d => -1000000 < d.1 ∧ d.1 < 1000000 ∧ 0 < d.2 ∧ d.2 ≤ 10000
  size := fun _ => 0
  Tl := fun tl => tl = []
  Out := fun _ r d => ∃ tk, r = .int (nxt d.1 d.2) tk
theorem nxt_a {t b : Int} (h : b < 2 * (t - t.fdiv b * b)) : t.fdiv b + 1 = nxt t b := by unfold nxt; rw [if_pos (.inl h)]
theorem nxt_b {t b : Int} (h : 2 * (t - t.fdiv b * b) = b) (h2 : (t.fdiv b).fmod 2 ≠ 0) : t.fdiv b + 1 = nxt t b := by unfold nxt; rw [if_pos (.inr ⟨h, h2⟩)]
theorem nxt_c {t b : Int} (h : ¬ b < 2 * (t - t.fdiv b * b)) (h2 : 2 * (t - t.fdiv b * b) ≠ b) : t.fdiv b = nxt t b := by unfold nxt; rw [if_neg (fun q => q.elim h (fun r => h2 r.1))]
theorem nxt_d {t b : Int} (h : ¬ b < 2 * (t - t.fdiv b * b)) (h2 : (t.fdiv b).fmod 2 = 0) : t.fdiv b = nxt t b := by unfold nxt; rw [if_neg (fun q => q.elim h (fun r => r.2 h2))]
theorem nextT_tells (w : World) (mean : ExcName → Option Value) (mg mb : Str → Option Value) : ∀ d, TellsN PySem.Challenge.rw_pq0145_01.row.prog w (hd.heap_1 w.params) topProg loose mean mg mb 407 nextT d := by
  w_top off
  k_with_none
  k_fill
  refine tellsN_of fun d IH => ?_
  unfold TellsN
  intro dp un gd cn cs a ccd cl outer A₀ base h₀ L m news s vs Q E B F X N T hk hR hok hd hu hret
  cases hR
  ktr_unf

  rename_i n p tk tk'
  obtain ⟨hok0, hok1, hok2, hok3⟩ := hok
  dsimp only at hok0 hok1 hok2 hok3
  have hne : p ≠ 0 := by omega
  have hlog : p.natAbs.log2 < 9000 := by
    have : p.natAbs.log2 < 14 := (Nat.log2_lt (by omega)).mpr (by omega)
    omega
  refine wpAny_call ?_

  all_goals k_dflt ktr_enter
  k_steps
  all_goals (refine hret _ [] _ _ (by k_asm) (news_sub (by assumption) (by intro p hp; (try rw [List.append_nil] at hp); exact hp)) ktn_ord0 rfl (ktn_int ?_))
  all_goals first | exact nxt_a (by assumption) | exact nxt_b (by assumption) (by assumption) | exact nxt_c (by assumption) (by assumption) | exact nxt_d (by assumption) (by assumption)
end
section
open PySem PySem.W PyProof.Rows
set_option maxRecDepth 100000
set_option maxHeartbeats 80000000

noncomputable def near (c e : Int) : Int := if 0 ≤ e then c * 10 ^ e.toNat else if c < 0 then -(rnd (if c < 0 then -c else c) (-e)) else rnd (if c < 0 then -c else c) (-e)
inductive Pair1 (news : List (Addr × Obj)) : List Value → Int × Int → Prop where
  | mk (a : Addr) (c e : Int) (tk tk' : Tok) : (a, tup #[.int c tk, .int e tk']) ∈ news → Pair1 news [.ref a] (c, e)
noncomputable abbrev nearT : ToldN (Int × Int) where
  Rel := Pair1
  Ok := fun d => -1000000 < d.1 ∧ d.1 < 1000000 ∧ -4 ≤ d.2 ∧ d.2 ≤ 4
  size := fun _ => 2
  Tl := fun tl => tl = []
  Out := fun _ r d => ∃ tk, r = .int (near d.1 d.2) tk
local macro_rules | `(tactic| ktr_rel) => `(tactic| first | assumption | exact Int2.mk _ _ _ _ | (dsimp only [rndT]; exact ⟨by (try split) <;> omega, by (try split) <;> omega, by omega, by omega⟩))
theorem near_a {c e : Int} (h : 0 ≤ e) : c * 10 ^ e.toNat = near c e := by unfold near; rw [if_pos h]
theorem near_b {c e : Int} (h : ¬ 0 ≤ e) (h2 : c < 0) : -(rnd (if c < 0 then -c else c) (-e)) = near c e := by unfold near; rw [if_neg h]; simp only [if_pos h2]
theorem near_c {c e : Int} (h : ¬ 0 ≤ e) (h2 : ¬ c < 0) : rnd (if c < 0 then -c else c) (-e) = near c e := by unfold near; rw [if_neg h]; simp only [if_neg h2]
theorem nearT_tells (w : World) (mean : ExcName → Option Value) (mg mb : Str → Option Value) : ∀ d, TellsN PySem.Challenge.rw_pq0145_01.row.prog w (hd.heap_1 w.params) topProg loose mean mg mb 72 nearT d := by
  w_top off
  k_with_none
  k_fill
  have C1 := rndT_tells w mean mg mb
  refine tellsN_of fun d IH => ?_
  unfold TellsN
  intro dp un gd cn cs a ccd cl outer A₀ base h₀ L m news s vs Q E B F X N T hk hR hok hd hu hret
  cases hR
  ktr_unf

  rename_i a c e tk tk' hm
  obtain ⟨hok0, hok1, hok2, hok3⟩ := hok
  dsimp only at hok0 hok1 hok2 hok3
  refine wpAny_call ?_
  (k_with "call ref" => ktn_call (Str.ofString "rounded_by") rndT)

  all_goals k_dflt ktr_enter
  k_steps
  all_goals (refine hret _ [] _ _ (by k_asm) (news_sub (by assumption) (by intro p hp; (try rw [List.append_nil] at hp); first | exact hp | exact .tail _ hp | exact .tail _ (.tail _ hp) | exact .tail _ (.tail _ (.tail _ hp)))) ktn_ord0 rfl (ktn_int ?_))
  all_goals first | exact near_a (by assumption) | exact near_b (by assumption) (by assumption) | exact near_c (by assumption) (by assumption)
end
section
open PySem PySem.W PyProof.Rows
set_option maxRecDepth 100000
set_option maxHeartbeats 4000000
theorem sub_cons {α : Type} {x : α} {l l' : List α} (h : x ∈ l') (hs : ∀ p ∈ l, p ∈ l') : ∀ p ∈ x :: l, p ∈ l' := fun p hp => by
  rcases List.mem_cons.mp hp with rfl | hp
  · exact h
  · exact hs p hp
theorem sub_nil {α : Type} {l' : List α} : ∀ p ∈ ([] : List α), p ∈ l' := fun _ hp => nomatch hp
theorem Part1.mono {l l' : List (Addr × Obj)} {vs ps : List Value} (h : Part1 l vs ps) (hs : ∀ p ∈ l, p ∈ l') : Part1 l' vs ps := by
  cases h with
  | dec a v t hm => exact .dec a v t (hs _ hm)
  | name a v t hm => exact .name a v t (hs _ hm)
  | neg a v t hm => exact .neg a v t (hs _ hm)
  | two a v x y t hm => exact .two a v x y t (hs _ hm)
theorem parts_call (w : World) (mean : ExcName → Option Value) (mg mb : Str → Option Value) : ∀ (dp un : Nat) (gd : Option (List Code)) (cn : Str) (cs : Scope) (a : Addr) (ccd : Value) (cl : List (Str × Addr)) (outer : List Env) (A₀ : Around) (base h₀ : Heap) (L : Addr) (m : Str → Option Value) (s : Shared) (Q E : Value → Shared → Prop) (news : List (Addr × Obj)) (t : Addr) (ps : List Value),
    Below A₀ base outer h₀ → Fr h₀ L s.heap m → (hd.heap_1 w.params).In h₀ → News h₀ L s.heap news → Top topProg loose mean mg mb h₀ → cs.kind = .function → Part1 news [.ref t] ps → dp < recursionLimit → un < cLine →
    (∀ a8 h9 tk9, Fr h₀ L h9 m → News h₀ L h9 ((a8, lst ps.toArray) :: news) → (∀ p ∈ news, p.1 ≠ a8) → Q (.ref a8) { s with heap := h9, toks := tk9 }) →
    wpAny (model PySem.Challenge.rw_pq0145_01.row.prog w) (ktrTop dp un gd cn cs L a ccd cl outer) (call (.ref 276) [.ref t]) Q E s := by
  intro dp un gd cn cs a ccd cl outer A₀ base h₀ L m s Q E news t ps B F X N T hk hP hd hu hret
  refine tellsN_use B F X N T hk hP (partT_tells w mean mg mb _) trivial hd hu ?_
  intro r tl h' tk' F' N' ho ht hl
  obtain ⟨a8, v8, rfl⟩ := ht
  obtain ⟨b8, rfl, hl8⟩ := hl
  rw [List.getLast?_concat] at hl8
  simp only [Option.some.injEq, Prod.mk.injEq, Obj.mk.injEq, Data.seq.injEq, true_and, and_true] at hl8
  obtain ⟨rfl, rfl⟩ := hl8
  refine hret _ _ _ F' (news_sub N' ?_) (fun p hp => Nat.ne_of_lt (ho p hp _ (.head _)))
  intro p hp
  rcases List.mem_cons.mp hp with rfl | hp
  · exact List.mem_append.mpr (.inr (.head _))
  · exact List.mem_append.mpr (.inl hp)
/-- what a node's call does to the asked list and beside it -/
noncomputable def Went (g : Heap) (L q : Addr) (h h' : Heap) (o o' : Obj) (nw : List (Addr × Obj)) : Prop :=
  ∀ l, News g L h ((q, o) :: l) → (∀ p ∈ l, p.1 ≠ q) → News g L h' ((q, o') :: (l ++ nw)) ∧ ∀ a ∈ nw, a.1 ≠ q ∧ ∀ r ∈ l, r.1 ≠ a.1
theorem Went.use {g h h9 : Heap} {L q wl vl : Addr} {o o' ow ov : Obj} {nw rest led : List (Addr × Obj)} (K : Went g L q h h9 o o' nw) (N : News g L h led) (h1 : (wl, ow) ∈ led) (h2 : (vl, ov) ∈ led) (h3 : (q, o) ∈ led) (h4 : ∀ p ∈ rest, p ∈ led)
    (n1 : wl ≠ q) (n2 : vl ≠ q) (n3 : ∀ p ∈ rest, p.1 ≠ q) (n4 : ∀ p ∈ rest, p.1 ≠ wl) (n5 : ∀ p ∈ rest, p.1 ≠ vl) :
    News g L h9 ((wl, ow) :: (vl, ov) :: (q, o') :: (rest ++ nw)) ∧ (∀ a ∈ nw, ∀ r ∈ rest, r.1 ≠ a.1) ∧ (∀ p ∈ rest ++ nw, p.1 ≠ wl) ∧ (∀ p ∈ rest ++ nw, p.1 ≠ vl) ∧ (∀ p ∈ rest ++ nw, p.1 ≠ q) := by
  obtain ⟨K1, K2⟩ := K ((wl, ow) :: (vl, ov) :: rest) (news_sub N (sub_cons h3 (sub_cons h1 (sub_cons h2 h4)))) (fun p hp => by
    rcases List.mem_cons.mp hp with rfl | hp
    · exact n1
    · rcases List.mem_cons.mp hp with rfl | hp
      · exact n2
      · exact n3 p hp)
  refine ⟨news_sub K1 ?_, fun a ha r hr => (K2 a ha).2 r (.tail _ (.tail _ hr)), fun p hp => ?_, fun p hp => ?_, fun p hp => ?_⟩
  · refine sub_cons (.tail _ (.head _)) (sub_cons (.tail _ (.tail _ (.head _))) (sub_cons (.head _) fun p hp => .tail _ (.tail _ (.tail _ hp))))
  · rcases List.mem_append.mp hp with hp | hp
    · exact n4 p hp
    · exact fun e => (K2 p hp).2 (wl, ow) (.head _) e.symm
  · rcases List.mem_append.mp hp with hp | hp
    · exact n5 p hp
    · exact fun e => (K2 p hp).2 (vl, ov) (.tail _ (.head _)) e.symm
  · rcases List.mem_append.mp hp with hp | hp
    · exact n3 p hp
    · exact (K2 p hp).1
theorem keep_went {h₀ g h h' : Heap} {L q : Addr} {lit led nw : List (Addr × Obj)} {o o' : Obj} (N : News h₀ L h ((q, o) :: lit)) (N' : News h₀ L h' led) (hq : (q, o') ∈ led) (hs : ∀ p ∈ lit, p ∈ led) (hn : ∀ p ∈ nw, p ∈ led) (nq : ∀ p ∈ nw, p.1 ≠ q) (hnl : ∀ a ∈ nw, ∀ r ∈ lit, r.1 ≠ a.1)
    (hg : ∀ b x, b ∉ ((q, o) :: lit).map (·.1) → h.get? b = some x → g.get? b = some x) (hk : ∀ b x, g.get? b = some x → h'.get? b = some x) (hgn : ∀ p ∈ nw, g.get? p.1 = none) : Went h₀ L q h h' o o' nw := by
  intro l Nl nl
  have Nl' : News h₀ L h l := fun p hp => Nl p (.tail _ hp)
  have k := keep_q N N' hs hq hg hk l Nl' nl
  refine ⟨fun p hp => ?_, fun a ha => ⟨nq a ha, fun r hr e => ?_⟩⟩
  · rcases List.mem_cons.mp hp with rfl | hp
    · exact N' _ hq
    · rcases List.mem_append.mp hp with hp | hp
      · exact k p (.tail _ hp)
      · exact N' p (hn p hp)
  · by_cases hm : r.1 ∈ ((q, o) :: lit).map (·.1)
    · rcases List.mem_cons.mp hm with hm | hm
      · exact nl r hr hm
      · obtain ⟨x, hx, ex⟩ := List.mem_map.mp hm
        exact hnl a ha x hx (ex.trans e)
    · have z := hg _ _ hm (Nl' r hr).1
      rw [e, hgn a ha] at z
      cases z
noncomputable def NodeC (M : Model) (A : Around) (E : Value → Shared → Prop) (s0 : Shared) (g : Heap) (L hk q t : Addr) (args : List Value) (o : Obj) (rest : List (Addr × Obj)) (P : Value → Obj → List (Addr × Obj) → Prop) : Prop :=
  ∀ (h : Heap) (tk : Nat) (m : Str → Option Value) (pl : Addr) (n : Nat) (Q : Value → Shared → Prop), Fr g L h m → News g L h ((pl, lstN args n) :: (q, o) :: rest) → (∀ p ∈ rest, p.1 ≠ q) → pl ≠ q →
    (∀ v h9 tk9 o' nw, Fr g L h9 m → Went g L q h h9 o o' nw → P v o' nw → Q v { s0 with heap := h9, toks := tk9 }) →
    wpAny M A (call (.ref 325) [.ref t, .ref pl, .ref hk]) Q E { s0 with heap := h, toks := tk }
noncomputable def LoopSt (s0 : Shared) (g : Heap) (L hk q : Addr) (W V : List Value) (o : Obj) (rest : List (Addr × Obj)) (s : Shared) : Prop :=
  ∃ h tk m wl vl nW nV, s = { s0 with heap := h, toks := tk } ∧ Fr g L h m ∧ News g L h ((wl, listOf W.toArray nW) :: (vl, listOf V.toArray nV) :: (q, o) :: rest) ∧ (wl ≠ vl ∧ wl ≠ q ∧ vl ≠ q) ∧ (∀ p ∈ rest, p.1 ≠ wl) ∧ (∀ p ∈ rest, p.1 ≠ vl) ∧ (∀ p ∈ rest, p.1 ≠ q) ∧
    m (Str.ofString "waiting") = some (.ref wl) ∧ m (Str.ofString "values") = some (.ref vl) ∧ m (Str.ofString "hooks") = some (.ref hk)
theorem LoopSt.opened {s0 : Shared} {g : Heap} {L hk q : Addr} {W V : List Value} {o : Obj} {rest : List (Addr × Obj)} {s : Shared} {G : Shared → Prop} (H : LoopSt s0 g L hk q W V o rest s)
    (k : ∀ h tk (u : Str → Option Value) wl vl nW nV, Fr g L h (fun y => if y = Str.ofString "waiting" then some (.ref wl) else if y = Str.ofString "values" then some (.ref vl) else if y = Str.ofString "hooks" then some (.ref hk) else u y) →
      News g L h ((wl, listOf W.toArray nW) :: (vl, listOf V.toArray nV) :: (q, o) :: rest) → wl ≠ vl → wl ≠ q → vl ≠ q → (∀ p ∈ rest, p.1 ≠ wl) → (∀ p ∈ rest, p.1 ≠ vl) → (∀ p ∈ rest, p.1 ≠ q) → G { s0 with heap := h, toks := tk }) : G s := by
  obtain ⟨h, tk, m, wl, vl, nW, nV, rfl, F, N, ⟨a, b, c⟩, d, e, f, x, y, z⟩ := H
  refine k h tk m wl vl nW nV ?_ N a b c d e f
  have q : (fun y => if y = Str.ofString "waiting" then some (.ref wl) else if y = Str.ofString "values" then some (.ref vl) else if y = Str.ofString "hooks" then some (.ref hk) else m y) = m := by
    funext y
    by_cases h1 : y = Str.ofString "waiting"
    · rw [if_pos h1, h1, x]
    · rw [if_neg h1]
      by_cases h2 : y = Str.ofString "values"
      · rw [if_pos h2, h2, ‹m (Str.ofString "values") = _›]
      · rw [if_neg h2]
        by_cases h3 : y = Str.ofString "hooks"
        · rw [if_pos h3, h3, z]
        · rw [if_neg h3]
  rw [q]
  exact F
theorem LoopSt.less {s0 : Shared} {g : Heap} {L hk q : Addr} {W V : List Value} {o : Obj} {rest rest' : List (Addr × Obj)} {s : Shared} (H : LoopSt s0 g L hk q W V o rest s) (hs : ∀ p ∈ rest', p ∈ rest) : LoopSt s0 g L hk q W V o rest' s := by
  obtain ⟨h, tk, m, wl, vl, nW, nV, rfl, F, N, ⟨a, b, c⟩, d, e, f, x⟩ := H
  exact ⟨h, tk, m, wl, vl, nW, nV, rfl, F, news_sub N (sub_cons (.head _) (sub_cons (.tail _ (.head _)) (sub_cons (.tail _ (.tail _ (.head _))) fun p hp => .tail _ (.tail _ (.tail _ (hs p hp)))))), ⟨a, b, c⟩, fun p hp => d p (hs p hp), fun p hp => e p (hs p hp), fun p hp => f p (hs p hp), x⟩
theorem LoopSt.made {s0 : Shared} {g h : Heap} {L hk q wl vl : Addr} {m : Str → Option Value} {W V : List Value} {o : Obj} {rest led : List (Addr × Obj)} {nW nV tk : Nat} (F : Fr g L h m) (N : News g L h led) (x : m (Str.ofString "waiting") = some (.ref wl)) (y : m (Str.ofString "values") = some (.ref vl)) (z : m (Str.ofString "hooks") = some (.ref hk))
    (h1 : (wl, listOf W.toArray nW) ∈ led) (h2 : (vl, listOf V.toArray nV) ∈ led) (h3 : (q, o) ∈ led) (h4 : ∀ p ∈ rest, p ∈ led) (a : wl ≠ vl) (b : wl ≠ q) (c : vl ≠ q) (d : ∀ p ∈ rest, p.1 ≠ wl) (e : ∀ p ∈ rest, p.1 ≠ vl) (f : ∀ p ∈ rest, p.1 ≠ q) : LoopSt s0 g L hk q W V o rest { s0 with heap := h, toks := tk } :=
  ⟨h, tk, m, wl, vl, nW, nV, rfl, F, news_sub N (sub_cons h1 (sub_cons h2 (sub_cons h3 h4))), ⟨a, b, c⟩, d, e, f, x, y, z⟩
theorem ne_lt {D : Addr} {l : List (Addr × Obj)} (h : AllLt D l) : ∀ p ∈ l, p.1 ≠ D := fun p hp => Nat.ne_of_lt (ktn_ltOf h p hp)
structure Turns (M : Model) (A : Around) (E : Value → Shared → Prop) (s0 : Shared) (g : Heap) (L hk q : Addr) (lit : List (Addr × Obj)) (Post : Value → Obj → List (Addr × Obj) → Prop) (R : Shared → Prop) : Prop where
  leaf0 : ∀ (W : List Value) (o : Obj) (rest : List (Addr × Obj)) (pr t : Addr) (P : Value → Obj → List (Addr × Obj) → Prop) (s : Shared), LoopSt s0 g L hk q (W ++ [.ref pr]) [] o rest s → W.length < 50 → (pr, tup #[.ref t, .bool false]) ∈ rest → Part1 rest [.ref t] [] → NodeC M A E s0 g L hk q t [] o rest P →
    (∀ v o' nw s', P v o' nw → (∀ a ∈ nw, ∀ r ∈ rest, r.1 ≠ a.1) → LoopSt s0 g L hk q W [v] o' (rest ++ nw) s' → R s') → R s
  leaf1 : ∀ (W : List Value) (x : Value) (o : Obj) (rest : List (Addr × Obj)) (pr t : Addr) (P : Value → Obj → List (Addr × Obj) → Prop) (s : Shared), LoopSt s0 g L hk q (W ++ [.ref pr]) [x] o rest s → W.length < 50 → (pr, tup #[.ref t, .bool false]) ∈ rest → Part1 rest [.ref t] [] → NodeC M A E s0 g L hk q t [] o rest P →
    (∀ v o' nw s', P v o' nw → (∀ a ∈ nw, ∀ r ∈ rest, r.1 ≠ a.1) → LoopSt s0 g L hk q W [x, v] o' (rest ++ nw) s' → R s') → R s
  rdy1 : ∀ (W : List Value) (x y : Value) (o : Obj) (rest : List (Addr × Obj)) (pr t : Addr) (P : Value → Obj → List (Addr × Obj) → Prop) (s : Shared), LoopSt s0 g L hk q (W ++ [.ref pr]) [x] o rest s → W.length < 50 → (pr, tup #[.ref t, .bool true]) ∈ rest → Part1 rest [.ref t] [y] → NodeC M A E s0 g L hk q t [x] o rest P →
    (∀ v o' nw s', P v o' nw → (∀ a ∈ nw, ∀ r ∈ rest, r.1 ≠ a.1) → LoopSt s0 g L hk q W [v] o' (rest ++ nw) s' → R s') → R s
  rdy2 : ∀ (W : List Value) (x x' y y' : Value) (o : Obj) (rest : List (Addr × Obj)) (pr t : Addr) (P : Value → Obj → List (Addr × Obj) → Prop) (s : Shared), LoopSt s0 g L hk q (W ++ [.ref pr]) [x, x'] o rest s → W.length < 50 → (pr, tup #[.ref t, .bool true]) ∈ rest → Part1 rest [.ref t] [y, y'] → NodeC M A E s0 g L hk q t [x, x'] o rest P →
    (∀ v o' nw s', P v o' nw → (∀ a ∈ nw, ∀ r ∈ rest, r.1 ≠ a.1) → LoopSt s0 g L hk q W [v] o' (rest ++ nw) s' → R s') → R s
  psh1 : ∀ (W V : List Value) (y : Value) (o : Obj) (rest : List (Addr × Obj)) (pr t : Addr) (s : Shared), LoopSt s0 g L hk q (W ++ [.ref pr]) V o rest s → W.length < 50 → (pr, tup #[.ref t, .bool false]) ∈ rest → Part1 rest [.ref t] [y] →
    (∀ p1 p2 s', LoopSt s0 g L hk q (W ++ [.ref p1] ++ [.ref p2]) V o ((p1, tup #[.ref t, .bool true]) :: (p2, tup #[y, .bool false]) :: rest) s' → R s') → R s
  psh2 : ∀ (W V : List Value) (y y' : Value) (o : Obj) (rest : List (Addr × Obj)) (pr t : Addr) (s : Shared), LoopSt s0 g L hk q (W ++ [.ref pr]) V o rest s → W.length < 50 → (pr, tup #[.ref t, .bool false]) ∈ rest → Part1 rest [.ref t] [y, y'] →
    (∀ p1 p2 p3 s', LoopSt s0 g L hk q (W ++ [.ref p1] ++ [.ref p2, .ref p3]) V o ((p1, tup #[.ref t, .bool true]) :: (p2, tup #[y', .bool false]) :: (p3, tup #[y, .bool false]) :: rest) s' → R s') → R s
  fin : ∀ (v : Value) (o : Obj) (rest nw : List (Addr × Obj)) (s : Shared), LoopSt s0 g L hk q [] [v] o rest s → (∀ p ∈ lit, p ∈ rest) → (∀ p ∈ nw, p ∈ rest) → (∀ a ∈ nw, ∀ r ∈ lit, r.1 ≠ a.1) → Post v o nw → R s
noncomputable def Rai (base g : Heap) (L : Addr) (envs : List Env) (s0 : Shared) (xs : List (Addr × Obj)) (E : Value → Shared → Prop) : Prop :=
  ∀ (g' : Heap) (m' : Str → Option Value) (e dd : Addr) (od : Obj) (tkc : Tok) (h9 : Heap) (tk9 : Nat), Fr g L g' m' → FlyD base g' envs e dd ((dd, od) :: xs) h9 → g'.UpToSlots h9 → lookIn "code" od = some (some (.str "NM" tkc)) → E (.ref e) { s0 with heap := h9, toks := tk9 }
section
variable {prog : Program} {w : World} {A : Around} {E : Value → Shared → Prop} {s : Shared} {env : Env} {test : PySem.Expr} {body : List Stmt} {Q : Flow → Shared → Prop}
noncomputable def LoopPost (R : Shared → Prop) (f : Flow) (s : Shared) : Prop :=
  match f with
  | .next => R s
  | .cont => R s
  | .brk => False
  | .ret _ => False
/-- a turn that is walked to its end is R -/
noncomputable def Hub (prog : Program) (w : World) (A : Around) (E : Value → Shared → Prop) (env : Env) (test : PySem.Expr) (body : List Stmt) (R : Shared → Prop) : Prop :=
  ∀ s, wpAny (model prog w) A (isTrue test env (eval test env)) (fun b s₂ => WhlIf b (wpAny (model prog w) A (execs body env) (LoopPost R) E s₂) False) E s → R s
noncomputable def HubF (prog : Program) (w : World) (A : Around) (E : Value → Shared → Prop) (env : Env) (test : PySem.Expr) (Q : Flow → Shared → Prop) (R : Shared → Prop) : Prop :=
  ∀ s, wpAny (model prog w) A (isTrue test env (eval test env)) (fun b s₂ => WhlIf b False (Q .next s₂)) E s → R s
theorem loop_intro (hE : PassesOwn (model prog w) A env E) (h : ∀ R : Shared → Prop, Hub prog w A E env test body R → HubF prog w A E env test Q R → R s) :
    WhlRest prog w A E env test body [] Q 0 s := by
  refine h (fun s => WhlRest prog w A E env test body [] Q 0 s) (fun s h => whl_turn (k := 0) hE (wpAny_mono h (fun b s₂ h₂ => ?_) fun _ _ x => x)) (fun s h => whl_turn (k := 0) hE (wpAny_mono h (fun b s₂ h₂ => ?_) fun _ _ x => x))
  · cases b with
    | false =>
      unfold WhlIf at h₂
      rw [if_neg Bool.false_ne_true] at h₂
      exact h₂.elim
    | true =>
      have h₃ : wpAny (model prog w) A (execs body env) (LoopPost (fun s => WhlRest prog w A E env test body [] Q 0 s)) E s₂ := by
        unfold WhlIf at h₂
        rw [if_pos rfl] at h₂
        exact h₂
      unfold WhlIf
      rw [if_pos rfl]
      refine wpAny_mono h₃ (fun f s₃ q => ?_) fun _ _ x => x
      cases f with
      | next => exact q
      | cont => exact q
      | brk => exact q.elim
      | ret v => exact q.elim
  · cases b with
    | true =>
      unfold WhlIf at h₂
      rw [if_pos rfl] at h₂
      exact h₂.elim
    | false =>
      have h₃ : Q .next s₂ := by
        unfold WhlIf at h₂
        rw [if_neg Bool.false_ne_true] at h₂
        exact h₂
      unfold WhlIf
      rw [if_neg Bool.false_ne_true]
      exact wpAny_pure h₃
end
theorem len_w {prog : Program} {w : World} {A : Around} {E : Value → Shared → Prop} {s : Shared} {h₀ : Heap} {L D : Addr} {news : List (Addr × Obj)} {W : List Value} {x : Value} {c : Nat} {Q : Value → Shared → Prop} (N : News h₀ L s.heap news) (hm : (D, listOf (W ++ [x]).toArray c) ∈ news) (hW : W.length < 50) (h : Q (.int ((W.length + 1 : Nat) : Int) (s.toks + 1)) { s with toks := s.toks + 1 + 1 }) :
    wpAny (model prog w) A (call (.builtin "len") [.ref D]) Q E s := KM.len_K N hm (by simp) (by omega) h
theorem last_w (W : List Value) (x : Value) : kl_last (W ++ [x]).toArray.toList = some (W, x) := by
  show kl_last (W ++ [x]) = _
  induction W with
  | nil => rfl
  | cons y r ih => show (match kl_last (r ++ [x]) with | some (p, z) => some (y :: p, z) | none => some ([], y)) = _; rw [ih]
theorem room_w {W : List Value} {x : Value} (h : W.length < 50) : (W ++ [x]).toArray.toList.length ≤ sizeLine := by rw [sizeLine_eq]; simp; omega
theorem extend_w {prog : Program} {w : World} {A : Around} {E : Value → Shared → Prop} {s : Shared} {h₀ : Heap} {L D b : Addr} {m : Str → Option Value} {news news' : List (Addr × Obj)} {W : List Value} {x : Value} {zs : List Value} {n n2 : Nat} {Q : Value → Shared → Prop} (F : Fr h₀ L s.heap m) (N : News h₀ L s.heap news) (hb : (b, listOf zs.toArray n2) ∈ news) (hne : zs.length ≠ 0) (hz : zs.length < 50) (hW : W.length < 50)
    (U : Upd D (listOf (W.toArray.push x) n) (listOf (W ++ [x] ++ zs).toArray (n + 1)) news news')
    (h : ∀ h', Fr h₀ L h' m → News h₀ L h' news' → Q .none { s with heap := h' }) : wpAny (model prog w) A (call (.builtin "list.extend") [.ref D, .ref b]) Q E s := by
  have e : W.toArray.push x = (W ++ [x]).toArray := by simp
  rw [e] at U
  refine kl_extend F N hb (l := W ++ [x] ++ zs) ?_ ?_ U ?_ ?_ ?_ h
  · simp
  · simpa using hne
  · simp [Builtin.List.listTooLong, sizeLine_eq]
    omega
  · rw [sizeLine_eq]; simp; omega
  · rw [sizeLine_eq]; simp; omega
end
section
local macro_rules | `(tactic| k_all) => `(tactic| (with_reducible assumption))
local macro_rules | `(tactic| k_ne) => `(tactic| (refine neN ?_; (try dsimp only); first | (with_reducible assumption) | (with_reducible exact Ne.symm (by assumption)) | omega | exact ne_l (by with_reducible assumption) (by k_mem) | exact ne_r (by with_reducible assumption) (by k_mem)))
section
open PySem PySem.W PyProof.Rows
set_option maxRecDepth 100000
set_option maxHeartbeats 80000000
local macro_rules | `(tactic| ktr_rel) => `(tactic| first | exact trivial | (refine' Part1.dec _ _ _ ?_; k_mem) | (refine' Part1.name _ _ _ ?_; k_mem) | (refine' Part1.neg _ _ _ ?_; k_mem) | (refine' Part1.two _ _ _ _ _ ?_; k_mem))
local macro_rules | `(tactic| walk_at "call builtin:len") => `(tactic| (k_here; k_dflt (refine len_w (by k_asm) (by k_mem) (by assumption) ?_); (try dsimp only)))
local macro_rules | `(tactic| walk_at "call builtin:list.pop") => `(tactic| (k_here; (with_reducible show wpAny _ _ (call (Value.builtin _) [Value.ref _]) _ _ _); k_dflt (refine' kl_pop ?F ?N ?e ?U ?z ?_; (case F => k_asm); (case N => k_asm); (case U => k_upd); (case e => exact last_w _ _); (case z => exact room_w (by assumption))); kl_rest))
local macro_rules | `(tactic| walk_at "WhlIf") => `(tactic| (refine WhlIf.no (by first | rfl | exact decide_eq_false (by omega)) ?_))
local macro_rules | `(tactic| walk_at "WhlIf") => `(tactic| (refine WhlIf.yes (by first | rfl | exact decide_eq_true (by omega)) ?_))
theorem worth_any (w : World) (mean : ExcName → Option Value) (mg mb : Str → Option Value) : ∀ (dp un : Nat) (gd : Option (List Code)) (cn : Str) (cs : Scope) (a : Addr) (ccd : Value) (cl : List (Str × Addr)) (outer : List Env) (A₀ : Around) (base h₀ : Heap) (L : Addr) (m : Str → Option Value) (s : Shared) (Q E : Value → Shared → Prop) (t hk q : Addr) (o : Obj) (lit xs : List (Addr × Obj)) (Post : Value → Obj → List (Addr × Obj) → Prop) (rz : Prop),
    Below A₀ base outer h₀ → Fr h₀ L s.heap m → (hd.heap_1 w.params).In h₀ → News h₀ L s.heap ((q, o) :: lit) → Top topProg loose mean mg mb h₀ → cs.kind = .function → (∀ p ∈ lit, p.1 ≠ q) → dp + 60 < recursionLimit → un + 480 < cLine →
    (∀ v h9 tk9 o' nw, Fr h₀ L h9 m → Went h₀ L q s.heap h9 o o' nw → Post v o' nw → Q v { s with heap := h9, toks := tk9 }) →
    (rz → Rai base h₀ L (envX cn cs L a ccd cl :: outer) s xs E) →
    (∀ (dp' un' : Nat) (gd' : Option (List Code)) (cn' : Str) (cs' : Scope) (a' : Addr) (ccd' : Value) (cl' : List (Str × Addr)) (outer' : List Env) (A' : Around) (base' g : Heap) (L' : Addr) (s0 : Shared) (E' : Value → Shared → Prop) (R : Shared → Prop) (env : Env) (test : PySem.Expr) (body : List Stmt), Hub PySem.Challenge.rw_pq0145_01.row.prog w (ktrTop dp' un' gd' cn' cs' L' a' ccd' cl' outer') E' env test body R →
      Below A' base' outer' g → (hd.heap_1 w.params).In g → Top topProg loose mean mg mb g → cs'.kind = .function → dp' + 50 < recursionLimit → un' + 400 < cLine →
      Turns (model PySem.Challenge.rw_pq0145_01.row.prog w) (ktrTop dp' un' gd' cn' cs' L' a' ccd' cl' outer') E' s0 g L' hk q lit Post R → (rz → Rai base' g L' (envX cn' cs' L' a' ccd' cl' :: outer') s0 xs E') →
      ∀ pr s', LoopSt s0 g L' hk q [.ref pr] [] o ((pr, tup #[.ref t, .bool false]) :: lit) s' → R s') →
    wpAny (model PySem.Challenge.rw_pq0145_01.row.prog w) (ktrTop dp un gd cn cs L a ccd cl outer) (call (.ref 330) [.ref t, .ref hk]) Q E s := by
  w_top off
  k_with_none
  k_fill
  intro dp un gd cn cs a ccd cl outer A₀ base h₀ L m s Q E t hk q o lit xs Post rz B F X N T hk' nq hd hu hret hrai plan
  refine wpAny_call ?_
  k_dflt (refine' code_defR ?k1 ?k2 ?k3 ?k4 ?k5 ?kA ?kF ?kK ?k6 ?k7 ?k8 ?k9 ?kB ?_ ?c2 ?c3 ?c4 ?c5; (case kA => exact rfl); (case kF => exact rfl); (case kK => assumption); (case k1 => k_asm); (case k2 => k_asm); (case k3 => k_asm); (case k4 => k_asm); (case k5 => k_asm); (case k6 => k_is); (case k7 => k_is); (case k8 => ktr_room); (case k9 => exact BindsTo.of_eq rfl); (case c5 => decide); (case kB => exact locs rfl); (case c2 => exact rfl); (case c3 => exact rfl); (case c4 => exact rfl); k_whole; intro g0 L0 h0 hg0 FG0 F0 N0 B0 X0 T0; (try dsimp only); (try k_fold))
  (k_with "exec While Compare cons nil" => (refine whl_start 0 ?_; k_dflt (refine' loop_intro ?hE (fun R hR hF => ?_); (case hE => first | passes_own | with_unfolding_all passes_own))))
  k_steps
  refine' plan _ _ _ _ _ _ _ _ _ _ _ _ _ s _ R _ _ _ hR B0 X0 T0 rfl ?bd ?bu ⟨?leaf0, ?leaf1, ?rdy1, ?rdy2, ?psh1, ?psh2, ?fin⟩ ?rai _ _ ?start
  case leaf0 =>
    intro W o rest pr t P s H hW hpr hP hC hnext
    refine LoopSt.opened H (fun h tk u wl vl nW nV F N n1 n2 n3 n4 n5 n6 => ?_)
    have n7 := n4 _ hpr
    have n8 := n5 _ hpr
    have n9 := n6 _ hpr
    have N1 := news_sub N (sub_cons (.head _) (sub_cons (.tail _ (.head _)) (sub_cons (.tail _ (.tail _ (.head _))) (sub_cons (.tail _ (.tail _ (.tail _ hpr))) (fun p hp => .tail _ (.tail _ (.tail _ hp)))))))
    clear N
    dsimp only at n7 n8 n9
    refine hR _ ?_
    (k_with "call ref" => ((with_reducible show wpAny _ _ (call (Value.ref 276) _) _ _ _); k_dflt (refine' parts_call w mean mg mb _ _ _ _ _ _ _ _ _ _ _ _ _ _ _ _ _ _ t [] ?kB ?kF ?kK ?kN ?kT ?kk ?kP ?kd ?ku ?_; (case kB => k_asm); (case kF => k_asm); (case kK => k_asm); (case kN => k_asm); (case kT => k_asm); (case kk => first | exact rfl | assumption); (case kP => exact Part1.mono hP (by intro p hp; repeat (first | exact hp | refine List.Mem.tail _ ?_))); (case kd => ktr_room); (case ku => ktr_units)); k_whole; intro a8 h8 tk8 F8 N8 nP8; (try k_sweep); (try dsimp only); (try k_fold)))
    (k_with "call ref" => ((with_reducible show wpAny _ _ (call (Value.ref 325) _) _ _ _); k_dflt (refine' hC _ _ _ _ _ _ ?kF ?kN ?kq ?kl ?_; (case kF => k_asm); (case kN => exact news_sub (by k_asm) (sub_cons (by k_mem) (sub_cons (by k_mem) (by intro p hp; repeat (first | exact hp | refine List.Mem.tail _ ?_))))); (case kq => assumption); (case kl => k_ne)); k_whole; intro v9 h9 tk9 o9 nw9 F9 K9 hP9; (obtain ⟨N9, d1, d2, d3, d4⟩ := Went.use K9 (by k_asm : News _ _ _ _) (by k_mem : (wl, _) ∈ _) (by k_mem : (vl, _) ∈ _) (by k_mem) (by intro p hp; repeat (first | exact hp | refine List.Mem.tail _ ?_) : ∀ p ∈ rest, p ∈ _) (by assumption) (by assumption) (by assumption) (by assumption) (by assumption)); clear K9; (try k_sweep); (try dsimp only); (try k_fold)))
    k_steps
    all_goals dsimp only [LoopPost]
    exact hnext _ _ _ _ hP9 d1 (LoopSt.made (by k_asm) (by k_asm) (by rfl) (by rfl) (by rfl) (by k_mem) (by k_mem) (by k_mem) (by intro p hp; repeat (first | exact hp | refine List.Mem.tail _ ?_)) (by k_ne) (by k_ne) (by k_ne) (by first | assumption | exact ne_lt (by first | assumption | exact And.right (by assumption) | exact And.right (And.right (by assumption)) | exact And.right (And.right (And.right (by assumption))) | exact And.right (And.right (And.right (And.right (by assumption)))) | exact And.right (And.right (And.right (And.right (And.right (by assumption))))) | exact And.right (And.right (And.right (And.right (And.right (And.right (by assumption)))))) | exact And.right (And.right (And.right (And.right (And.right (And.right (And.right (by assumption))))))) | exact And.right (And.right (And.right (And.right (And.right (And.right (And.right (And.right (by assumption)))))))))) (by first | assumption | exact ne_lt (by first | assumption | exact And.right (by assumption) | exact And.right (And.right (by assumption)) | exact And.right (And.right (And.right (by assumption))) | exact And.right (And.right (And.right (And.right (by assumption)))) | exact And.right (And.right (And.right (And.right (And.right (by assumption))))) | exact And.right (And.right (And.right (And.right (And.right (And.right (by assumption)))))) | exact And.right (And.right (And.right (And.right (And.right (And.right (And.right (by assumption))))))) | exact And.right (And.right (And.right (And.right (And.right (And.right (And.right (And.right (by assumption)))))))))) (by first | assumption | exact ne_lt (by first | assumption | exact And.right (by assumption) | exact And.right (And.right (by assumption)) | exact And.right (And.right (And.right (by assumption))) | exact And.right (And.right (And.right (And.right (by assumption)))) | exact And.right (And.right (And.right (And.right (And.right (by assumption))))) | exact And.right (And.right (And.right (And.right (And.right (And.right (by assumption)))))) | exact And.right (And.right (And.right (And.right (And.right (And.right (And.right (by assumption))))))) | exact And.right (And.right (And.right (And.right (And.right (And.right (And.right (And.right (by assumption)))))))))))
  case leaf1 =>
    intro W x o rest pr t P s H hW hpr hP hC hnext
    refine LoopSt.opened H (fun h tk u wl vl nW nV F N n1 n2 n3 n4 n5 n6 => ?_)
    have n7 := n4 _ hpr
    have n8 := n5 _ hpr
    have n9 := n6 _ hpr
    have N1 := news_sub N (sub_cons (.head _) (sub_cons (.tail _ (.head _)) (sub_cons (.tail _ (.tail _ (.head _))) (sub_cons (.tail _ (.tail _ (.tail _ hpr))) (fun p hp => .tail _ (.tail _ (.tail _ hp)))))))
    clear N
    dsimp only at n7 n8 n9
    refine hR _ ?_
    (k_with "call ref" => ((with_reducible show wpAny _ _ (call (Value.ref 276) _) _ _ _); k_dflt (refine' parts_call w mean mg mb _ _ _ _ _ _ _ _ _ _ _ _ _ _ _ _ _ _ t [] ?kB ?kF ?kK ?kN ?kT ?kk ?kP ?kd ?ku ?_; (case kB => k_asm); (case kF => k_asm); (case kK => k_asm); (case kN => k_asm); (case kT => k_asm); (case kk => first | exact rfl | assumption); (case kP => exact Part1.mono hP (by intro p hp; repeat (first | exact hp | refine List.Mem.tail _ ?_))); (case kd => ktr_room); (case ku => ktr_units)); k_whole; intro a8 h8 tk8 F8 N8 nP8; (try k_sweep); (try dsimp only); (try k_fold)))
    (k_with "call ref" => ((with_reducible show wpAny _ _ (call (Value.ref 325) _) _ _ _); k_dflt (refine' hC _ _ _ _ _ _ ?kF ?kN ?kq ?kl ?_; (case kF => k_asm); (case kN => exact news_sub (by k_asm) (sub_cons (by k_mem) (sub_cons (by k_mem) (by intro p hp; repeat (first | exact hp | refine List.Mem.tail _ ?_))))); (case kq => assumption); (case kl => k_ne)); k_whole; intro v9 h9 tk9 o9 nw9 F9 K9 hP9; (obtain ⟨N9, d1, d2, d3, d4⟩ := Went.use K9 (by k_asm : News _ _ _ _) (by k_mem : (wl, _) ∈ _) (by k_mem : (vl, _) ∈ _) (by k_mem) (by intro p hp; repeat (first | exact hp | refine List.Mem.tail _ ?_) : ∀ p ∈ rest, p ∈ _) (by assumption) (by assumption) (by assumption) (by assumption) (by assumption)); clear K9; (try k_sweep); (try dsimp only); (try k_fold)))
    k_steps
    all_goals dsimp only [LoopPost]
    exact hnext _ _ _ _ hP9 d1 (LoopSt.made (by k_asm) (by k_asm) (by rfl) (by rfl) (by rfl) (by k_mem) (by k_mem) (by k_mem) (by intro p hp; repeat (first | exact hp | refine List.Mem.tail _ ?_)) (by k_ne) (by k_ne) (by k_ne) (by first | assumption | exact ne_lt (by first | assumption | exact And.right (by assumption) | exact And.right (And.right (by assumption)) | exact And.right (And.right (And.right (by assumption))) | exact And.right (And.right (And.right (And.right (by assumption)))) | exact And.right (And.right (And.right (And.right (And.right (by assumption))))) | exact And.right (And.right (And.right (And.right (And.right (And.right (by assumption)))))) | exact And.right (And.right (And.right (And.right (And.right (And.right (And.right (by assumption))))))) | exact And.right (And.right (And.right (And.right (And.right (And.right (And.right (And.right (by assumption)))))))))) (by first | assumption | exact ne_lt (by first | assumption | exact And.right (by assumption) | exact And.right (And.right (by assumption)) | exact And.right (And.right (And.right (by assumption))) | exact And.right (And.right (And.right (And.right (by assumption)))) | exact And.right (And.right (And.right (And.right (And.right (by assumption))))) | exact And.right (And.right (And.right (And.right (And.right (And.right (by assumption)))))) | exact And.right (And.right (And.right (And.right (And.right (And.right (And.right (by assumption))))))) | exact And.right (And.right (And.right (And.right (And.right (And.right (And.right (And.right (by assumption)))))))))) (by first | assumption | exact ne_lt (by first | assumption | exact And.right (by assumption) | exact And.right (And.right (by assumption)) | exact And.right (And.right (And.right (by assumption))) | exact And.right (And.right (And.right (And.right (by assumption)))) | exact And.right (And.right (And.right (And.right (And.right (by assumption))))) | exact And.right (And.right (And.right (And.right (And.right (And.right (by assumption)))))) | exact And.right (And.right (And.right (And.right (And.right (And.right (And.right (by assumption))))))) | exact And.right (And.right (And.right (And.right (And.right (And.right (And.right (And.right (by assumption)))))))))))
  case rdy1 =>
    intro W x y o rest pr t P s H hW hpr hP hC hnext
    refine LoopSt.opened H (fun h tk u wl vl nW nV F N n1 n2 n3 n4 n5 n6 => ?_)
    have n7 := n4 _ hpr
    have n8 := n5 _ hpr
    have n9 := n6 _ hpr
    have N1 := news_sub N (sub_cons (.head _) (sub_cons (.tail _ (.head _)) (sub_cons (.tail _ (.tail _ (.head _))) (sub_cons (.tail _ (.tail _ (.tail _ hpr))) (fun p hp => .tail _ (.tail _ (.tail _ hp)))))))
    clear N
    dsimp only at n7 n8 n9
    refine hR _ ?_
    (k_with "call ref" => ((with_reducible show wpAny _ _ (call (Value.ref 276) _) _ _ _); k_dflt (refine' parts_call w mean mg mb _ _ _ _ _ _ _ _ _ _ _ _ _ _ _ _ _ _ t [y] ?kB ?kF ?kK ?kN ?kT ?kk ?kP ?kd ?ku ?_; (case kB => k_asm); (case kF => k_asm); (case kK => k_asm); (case kN => k_asm); (case kT => k_asm); (case kk => first | exact rfl | assumption); (case kP => exact Part1.mono hP (by intro p hp; repeat (first | exact hp | refine List.Mem.tail _ ?_))); (case kd => ktr_room); (case ku => ktr_units)); k_whole; intro a8 h8 tk8 F8 N8 nP8; (try k_sweep); (try dsimp only); (try k_fold)))
    (k_with "call ref" => ((with_reducible show wpAny _ _ (call (Value.ref 325) _) _ _ _); k_dflt (refine' hC _ _ _ _ _ _ ?kF ?kN ?kq ?kl ?_; (case kF => k_asm); (case kN => exact news_sub (by k_asm) (sub_cons (by k_mem) (sub_cons (by k_mem) (by intro p hp; repeat (first | exact hp | refine List.Mem.tail _ ?_))))); (case kq => assumption); (case kl => k_ne)); k_whole; intro v9 h9 tk9 o9 nw9 F9 K9 hP9; (obtain ⟨N9, d1, d2, d3, d4⟩ := Went.use K9 (by k_asm : News _ _ _ _) (by k_mem : (wl, _) ∈ _) (by k_mem : (vl, _) ∈ _) (by k_mem) (by intro p hp; repeat (first | exact hp | refine List.Mem.tail _ ?_) : ∀ p ∈ rest, p ∈ _) (by assumption) (by assumption) (by assumption) (by assumption) (by assumption)); clear K9; (try k_sweep); (try dsimp only); (try k_fold)))
    k_steps
    all_goals dsimp only [LoopPost]
    exact hnext _ _ _ _ hP9 d1 (LoopSt.made (by k_asm) (by k_asm) (by rfl) (by rfl) (by rfl) (by k_mem) (by k_mem) (by k_mem) (by intro p hp; repeat (first | exact hp | refine List.Mem.tail _ ?_)) (by k_ne) (by k_ne) (by k_ne) (by first | assumption | exact ne_lt (by first | assumption | exact And.right (by assumption) | exact And.right (And.right (by assumption)) | exact And.right (And.right (And.right (by assumption))) | exact And.right (And.right (And.right (And.right (by assumption)))) | exact And.right (And.right (And.right (And.right (And.right (by assumption))))) | exact And.right (And.right (And.right (And.right (And.right (And.right (by assumption)))))) | exact And.right (And.right (And.right (And.right (And.right (And.right (And.right (by assumption))))))) | exact And.right (And.right (And.right (And.right (And.right (And.right (And.right (And.right (by assumption)))))))))) (by first | assumption | exact ne_lt (by first | assumption | exact And.right (by assumption) | exact And.right (And.right (by assumption)) | exact And.right (And.right (And.right (by assumption))) | exact And.right (And.right (And.right (And.right (by assumption)))) | exact And.right (And.right (And.right (And.right (And.right (by assumption))))) | exact And.right (And.right (And.right (And.right (And.right (And.right (by assumption)))))) | exact And.right (And.right (And.right (And.right (And.right (And.right (And.right (by assumption))))))) | exact And.right (And.right (And.right (And.right (And.right (And.right (And.right (And.right (by assumption)))))))))) (by first | assumption | exact ne_lt (by first | assumption | exact And.right (by assumption) | exact And.right (And.right (by assumption)) | exact And.right (And.right (And.right (by assumption))) | exact And.right (And.right (And.right (And.right (by assumption)))) | exact And.right (And.right (And.right (And.right (And.right (by assumption))))) | exact And.right (And.right (And.right (And.right (And.right (And.right (by assumption)))))) | exact And.right (And.right (And.right (And.right (And.right (And.right (And.right (by assumption))))))) | exact And.right (And.right (And.right (And.right (And.right (And.right (And.right (And.right (by assumption)))))))))))
  case rdy2 =>
    intro W x x' y y' o rest pr t P s H hW hpr hP hC hnext
    refine LoopSt.opened H (fun h tk u wl vl nW nV F N n1 n2 n3 n4 n5 n6 => ?_)
    have n7 := n4 _ hpr
    have n8 := n5 _ hpr
    have n9 := n6 _ hpr
    have N1 := news_sub N (sub_cons (.head _) (sub_cons (.tail _ (.head _)) (sub_cons (.tail _ (.tail _ (.head _))) (sub_cons (.tail _ (.tail _ (.tail _ hpr))) (fun p hp => .tail _ (.tail _ (.tail _ hp)))))))
    clear N
    dsimp only at n7 n8 n9
    refine hR _ ?_
    (k_with "call ref" => ((with_reducible show wpAny _ _ (call (Value.ref 276) _) _ _ _); k_dflt (refine' parts_call w mean mg mb _ _ _ _ _ _ _ _ _ _ _ _ _ _ _ _ _ _ t [y, y'] ?kB ?kF ?kK ?kN ?kT ?kk ?kP ?kd ?ku ?_; (case kB => k_asm); (case kF => k_asm); (case kK => k_asm); (case kN => k_asm); (case kT => k_asm); (case kk => first | exact rfl | assumption); (case kP => exact Part1.mono hP (by intro p hp; repeat (first | exact hp | refine List.Mem.tail _ ?_))); (case kd => ktr_room); (case ku => ktr_units)); k_whole; intro a8 h8 tk8 F8 N8 nP8; (try k_sweep); (try dsimp only); (try k_fold)))
    (k_with "call ref" => ((with_reducible show wpAny _ _ (call (Value.ref 325) _) _ _ _); k_dflt (refine' hC _ _ _ _ _ _ ?kF ?kN ?kq ?kl ?_; (case kF => k_asm); (case kN => exact news_sub (by k_asm) (sub_cons (by k_mem) (sub_cons (by k_mem) (by intro p hp; repeat (first | exact hp | refine List.Mem.tail _ ?_))))); (case kq => assumption); (case kl => k_ne)); k_whole; intro v9 h9 tk9 o9 nw9 F9 K9 hP9; (obtain ⟨N9, d1, d2, d3, d4⟩ := Went.use K9 (by k_asm : News _ _ _ _) (by k_mem : (wl, _) ∈ _) (by k_mem : (vl, _) ∈ _) (by k_mem) (by intro p hp; repeat (first | exact hp | refine List.Mem.tail _ ?_) : ∀ p ∈ rest, p ∈ _) (by assumption) (by assumption) (by assumption) (by assumption) (by assumption)); clear K9; (try k_sweep); (try dsimp only); (try k_fold)))
    k_steps
    all_goals dsimp only [LoopPost]
    exact hnext _ _ _ _ hP9 d1 (LoopSt.made (by k_asm) (by k_asm) (by rfl) (by rfl) (by rfl) (by k_mem) (by k_mem) (by k_mem) (by intro p hp; repeat (first | exact hp | refine List.Mem.tail _ ?_)) (by k_ne) (by k_ne) (by k_ne) (by first | assumption | exact ne_lt (by first | assumption | exact And.right (by assumption) | exact And.right (And.right (by assumption)) | exact And.right (And.right (And.right (by assumption))) | exact And.right (And.right (And.right (And.right (by assumption)))) | exact And.right (And.right (And.right (And.right (And.right (by assumption))))) | exact And.right (And.right (And.right (And.right (And.right (And.right (by assumption)))))) | exact And.right (And.right (And.right (And.right (And.right (And.right (And.right (by assumption))))))) | exact And.right (And.right (And.right (And.right (And.right (And.right (And.right (And.right (by assumption)))))))))) (by first | assumption | exact ne_lt (by first | assumption | exact And.right (by assumption) | exact And.right (And.right (by assumption)) | exact And.right (And.right (And.right (by assumption))) | exact And.right (And.right (And.right (And.right (by assumption)))) | exact And.right (And.right (And.right (And.right (And.right (by assumption))))) | exact And.right (And.right (And.right (And.right (And.right (And.right (by assumption)))))) | exact And.right (And.right (And.right (And.right (And.right (And.right (And.right (by assumption))))))) | exact And.right (And.right (And.right (And.right (And.right (And.right (And.right (And.right (by assumption)))))))))) (by first | assumption | exact ne_lt (by first | assumption | exact And.right (by assumption) | exact And.right (And.right (by assumption)) | exact And.right (And.right (And.right (by assumption))) | exact And.right (And.right (And.right (And.right (by assumption)))) | exact And.right (And.right (And.right (And.right (And.right (by assumption))))) | exact And.right (And.right (And.right (And.right (And.right (And.right (by assumption)))))) | exact And.right (And.right (And.right (And.right (And.right (And.right (And.right (by assumption))))))) | exact And.right (And.right (And.right (And.right (And.right (And.right (And.right (And.right (by assumption)))))))))))
  case psh1 =>
    intro W V y o rest pr t s H hW hpr hP hnext
    refine LoopSt.opened H (fun h tk u wl vl nW nV F N n1 n2 n3 n4 n5 n6 => ?_)
    have n7 := n4 _ hpr
    have n8 := n5 _ hpr
    have n9 := n6 _ hpr
    have N1 := news_sub N (sub_cons (.head _) (sub_cons (.tail _ (.head _)) (sub_cons (.tail _ (.tail _ (.head _))) (sub_cons (.tail _ (.tail _ (.tail _ hpr))) (fun p hp => .tail _ (.tail _ (.tail _ hp)))))))
    clear N
    dsimp only at n7 n8 n9
    refine hR _ ?_
    (k_with "call ref" => ((with_reducible show wpAny _ _ (call (Value.ref 276) _) _ _ _); k_dflt (refine' parts_call w mean mg mb _ _ _ _ _ _ _ _ _ _ _ _ _ _ _ _ _ _ t [y] ?kB ?kF ?kK ?kN ?kT ?kk ?kP ?kd ?ku ?_; (case kB => k_asm); (case kF => k_asm); (case kK => k_asm); (case kN => k_asm); (case kT => k_asm); (case kk => first | exact rfl | assumption); (case kP => exact Part1.mono hP (by intro p hp; repeat (first | exact hp | refine List.Mem.tail _ ?_))); (case kd => ktr_room); (case ku => ktr_units)); k_whole; intro a8 h8 tk8 F8 N8 nP8; (try k_sweep); (try dsimp only); (try k_fold)))
    (k_with "call builtin:list.extend" => (k_dflt (refine' extend_w ?kF ?kN ?kb ?kn ?kz ?kW ?kU ?_; (case kF => k_asm); (case kN => k_asm); (case kU => k_upd); (case kb => k_mem); (case kn => exact Nat.succ_ne_zero _); (case kz => exact Nat.le_of_ble_eq_true rfl); (case kW => assumption)); kl_rest))
    k_steps
    all_goals dsimp only [LoopPost]
    exact hnext _ _ _ (LoopSt.made (by k_asm) (by k_asm) (by rfl) (by rfl) (by rfl) (by k_mem) (by k_mem) (by k_mem) (sub_cons (by k_mem) (sub_cons (by k_mem) (by intro p hp; repeat (first | exact hp | refine List.Mem.tail _ ?_)))) (by k_ne) (by k_ne) (by k_ne) (List.forall_mem_cons.mpr ⟨by (refine neN ?_; clear n1 n2 n3 n7 n8 n9; dsimp only; first | exact ne_l (by with_reducible assumption) (by k_mem) | exact ne_r (by with_reducible assumption) (by k_mem) | omega), (List.forall_mem_cons.mpr ⟨by (refine neN ?_; clear n1 n2 n3 n7 n8 n9; dsimp only; first | exact ne_l (by with_reducible assumption) (by k_mem) | exact ne_r (by with_reducible assumption) (by k_mem) | omega), n4⟩)⟩) (List.forall_mem_cons.mpr ⟨by (refine neN ?_; clear n1 n2 n3 n7 n8 n9; dsimp only; first | exact ne_l (by with_reducible assumption) (by k_mem) | exact ne_r (by with_reducible assumption) (by k_mem) | omega), (List.forall_mem_cons.mpr ⟨by (refine neN ?_; clear n1 n2 n3 n7 n8 n9; dsimp only; first | exact ne_l (by with_reducible assumption) (by k_mem) | exact ne_r (by with_reducible assumption) (by k_mem) | omega), n5⟩)⟩) (List.forall_mem_cons.mpr ⟨by (refine neN ?_; clear n1 n2 n3 n7 n8 n9; dsimp only; first | exact ne_l (by with_reducible assumption) (by k_mem) | exact ne_r (by with_reducible assumption) (by k_mem) | omega), (List.forall_mem_cons.mpr ⟨by (refine neN ?_; clear n1 n2 n3 n7 n8 n9; dsimp only; first | exact ne_l (by with_reducible assumption) (by k_mem) | exact ne_r (by with_reducible assumption) (by k_mem) | omega), n6⟩)⟩))
  case psh2 =>
    intro W V y y' o rest pr t s H hW hpr hP hnext
    refine LoopSt.opened H (fun h tk u wl vl nW nV F N n1 n2 n3 n4 n5 n6 => ?_)
    have n7 := n4 _ hpr
    have n8 := n5 _ hpr
    have n9 := n6 _ hpr
    have N1 := news_sub N (sub_cons (.head _) (sub_cons (.tail _ (.head _)) (sub_cons (.tail _ (.tail _ (.head _))) (sub_cons (.tail _ (.tail _ (.tail _ hpr))) (fun p hp => .tail _ (.tail _ (.tail _ hp)))))))
    clear N
    dsimp only at n7 n8 n9
    refine hR _ ?_
    (k_with "call ref" => ((with_reducible show wpAny _ _ (call (Value.ref 276) _) _ _ _); k_dflt (refine' parts_call w mean mg mb _ _ _ _ _ _ _ _ _ _ _ _ _ _ _ _ _ _ t [y, y'] ?kB ?kF ?kK ?kN ?kT ?kk ?kP ?kd ?ku ?_; (case kB => k_asm); (case kF => k_asm); (case kK => k_asm); (case kN => k_asm); (case kT => k_asm); (case kk => first | exact rfl | assumption); (case kP => exact Part1.mono hP (by intro p hp; repeat (first | exact hp | refine List.Mem.tail _ ?_))); (case kd => ktr_room); (case ku => ktr_units)); k_whole; intro a8 h8 tk8 F8 N8 nP8; (try k_sweep); (try dsimp only); (try k_fold)))
    (k_with "call builtin:list.extend" => (k_dflt (refine' extend_w ?kF ?kN ?kb ?kn ?kz ?kW ?kU ?_; (case kF => k_asm); (case kN => k_asm); (case kU => k_upd); (case kb => k_mem); (case kn => exact Nat.succ_ne_zero _); (case kz => exact Nat.le_of_ble_eq_true rfl); (case kW => assumption)); kl_rest))
    k_steps
    all_goals dsimp only [LoopPost]
    exact hnext _ _ _ _ (LoopSt.made (by k_asm) (by k_asm) (by rfl) (by rfl) (by rfl) (by k_mem) (by k_mem) (by k_mem) (sub_cons (by k_mem) (sub_cons (by k_mem) (sub_cons (by k_mem) (by intro p hp; repeat (first | exact hp | refine List.Mem.tail _ ?_))))) (by k_ne) (by k_ne) (by k_ne) (List.forall_mem_cons.mpr ⟨by (refine neN ?_; clear n1 n2 n3 n7 n8 n9; dsimp only; first | exact ne_l (by with_reducible assumption) (by k_mem) | exact ne_r (by with_reducible assumption) (by k_mem) | omega), (List.forall_mem_cons.mpr ⟨by (refine neN ?_; clear n1 n2 n3 n7 n8 n9; dsimp only; first | exact ne_l (by with_reducible assumption) (by k_mem) | exact ne_r (by with_reducible assumption) (by k_mem) | omega), (List.forall_mem_cons.mpr ⟨by (refine neN ?_; clear n1 n2 n3 n7 n8 n9; dsimp only; first | exact ne_l (by with_reducible assumption) (by k_mem) | exact ne_r (by with_reducible assumption) (by k_mem) | omega), n4⟩)⟩)⟩) (List.forall_mem_cons.mpr ⟨by (refine neN ?_; clear n1 n2 n3 n7 n8 n9; dsimp only; first | exact ne_l (by with_reducible assumption) (by k_mem) | exact ne_r (by with_reducible assumption) (by k_mem) | omega), (List.forall_mem_cons.mpr ⟨by (refine neN ?_; clear n1 n2 n3 n7 n8 n9; dsimp only; first | exact ne_l (by with_reducible assumption) (by k_mem) | exact ne_r (by with_reducible assumption) (by k_mem) | omega), (List.forall_mem_cons.mpr ⟨by (refine neN ?_; clear n1 n2 n3 n7 n8 n9; dsimp only; first | exact ne_l (by with_reducible assumption) (by k_mem) | exact ne_r (by with_reducible assumption) (by k_mem) | omega), n5⟩)⟩)⟩) (List.forall_mem_cons.mpr ⟨by (refine neN ?_; clear n1 n2 n3 n7 n8 n9; dsimp only; first | exact ne_l (by with_reducible assumption) (by k_mem) | exact ne_r (by with_reducible assumption) (by k_mem) | omega), (List.forall_mem_cons.mpr ⟨by (refine neN ?_; clear n1 n2 n3 n7 n8 n9; dsimp only; first | exact ne_l (by with_reducible assumption) (by k_mem) | exact ne_r (by with_reducible assumption) (by k_mem) | omega), (List.forall_mem_cons.mpr ⟨by (refine neN ?_; clear n1 n2 n3 n7 n8 n9; dsimp only; first | exact ne_l (by with_reducible assumption) (by k_mem) | exact ne_r (by with_reducible assumption) (by k_mem) | omega), n6⟩)⟩)⟩))
  case bd => (simp only []; omega)
  case bu => (simp only []; omega)
  case start => exact LoopSt.made (W := [_]) (V := []) (by k_asm) (by k_asm) (by rfl) (by rfl) (by rfl) (by k_mem) (by k_mem) (by k_mem) (sub_cons (by k_mem) (by intro p hp; repeat (first | exact hp | refine List.Mem.tail _ ?_))) (by k_ne) (by k_ne) (by k_ne) (by k_all) (by k_all) (by k_all)
  case rai =>
    intro hz g' m' e dd od tkc h9 tk9 Fg Y9 y9 hc
    (k_with "leaving ref" => (k_dflt (refine' leaveD2 ?K ?F Y9 y9 rfl ?_; (case K => k_asm); (case F => k_asm)); k_whole; clear Y9 y9; intro hY Y9 y9; (try dsimp only)))
    k_steps
    all_goals try k_unfold
    all_goals try dsimp only
    exact hrai hz _ _ e dd od tkc _ _ FG0 Y9 y9 hc
  case fin =>
    intro v o rest nw s' H hl hn hnl hPost
    refine LoopSt.opened H (fun h tk u wl vl nW nV F N n1 n2 n3 n4 n5 n6 => ?_)
    refine hF _ ?_
    k_steps
    all_goals try k_unfold
    all_goals try dsimp only
    refine leaveR_ (by k_asm) (by k_asm : News _ _ _ ((wl, _) :: (vl, _) :: (q, o) :: rest)) (fun kF kN kg => ?_)
    have hgn : ∀ p ∈ nw, g0.get? p.1 = none := fun p hp => ((by k_asm : News g0 L0 _ ((wl, _) :: (vl, _) :: (q, o) :: rest)) p (.tail _ (.tail _ (.tail _ (hn p hp))))).2.2
    exact hret v _ _ o nw kF (keep_went ‹News h₀ L s.heap _› kN (.tail _ (.tail _ (.head _))) (fun p hp => .tail _ (.tail _ (.tail _ (hl p hp)))) (fun p hp => .tail _ (.tail _ (.tail _ (hn p hp)))) (fun p hp => n6 p (hn p hp)) hnl hg0 kg hgn) hPost
end
section
open PySem PySem.W PyProof.Rows
set_option maxRecDepth 100000
set_option maxHeartbeats 4000000
structure Cx (w : World) (mean : ExcName → Option Value) (mg mb : Str → Option Value) (dp un : Nat) (cs : Scope) (outer : List Env) (A₀ : Around) (base g : Heap) : Prop where
  B : Below A₀ base outer g
  X : (hd.heap_1 w.params).In g
  T : Top topProg loose mean mg mb g
  k : cs.kind = .function
  d : dp + 50 < recursionLimit
  u : un + 400 < cLine
/-- the hooks and the book -/
noncomputable def HookC (w : World) (hk q : Addr) (bits : Int) (lit : List (Addr × Obj)) : Prop :=
  ∃ (dh bk : Addr) (k1 k2 k3 k4 t2 t3 : Tok) (bo : Obj) (b1 b2 b3 b4 : Tok) (DD : List (PyData × PyData)), (hk, instObj 389 dh) ∈ lit ∧ (dh, hooksD w bk q bits k1 k2 k3 k4 t2 t3) ∈ lit ∧ (bk, bo) ∈ lit ∧ (bk == sysModules) = false ∧
    bo.IsDictOf (PySem.strKind PySem.Challenge.rw_pq0145_01.row.prog w) (strPairs [(.str "A" b1, .int 3 b2), (.str "T$" b3, .str "x" b4)]) ∧ PyProof.V.FlatPairs PyData.str (strPairs [(.str "A" b1, .int 3 b2), (.str "T$" b3, .str "x" b4)]) DD
theorem HookC.mono {w : World} {hk q : Addr} {bits : Int} {l l' : List (Addr × Obj)} (H : HookC w hk q bits l) (hs : ∀ p ∈ l, p ∈ l') : HookC w hk q bits l' := by
  obtain ⟨dh, bk, k1, k2, k3, k4, t2, t3, bo, b1, b2, b3, b4, DD, h1, h2, h3, r⟩ := H
  exact ⟨dh, bk, k1, k2, k3, k4, t2, t3, bo, b1, b2, b3, b4, DD, hs _ h1, hs _ h2, hs _ h3, r⟩
theorem went_new {g h h9 : Heap} {L q a9 : Addr} {o o9 : Obj} (K : ∀ l, News g L h l → News g L h9 ((a9, o9) :: l) ∧ ∀ p ∈ l, p.1 ≠ a9) : Went g L q h h9 o o [(a9, o9)] := by
  intro l N nq
  obtain ⟨N', n'⟩ := K _ N
  refine ⟨fun p hp => N' p ?_, fun a ha => ?_⟩
  · rcases List.mem_cons.mp hp with rfl | hp
    · exact .tail _ (.head _)
    · rcases List.mem_append.mp hp with hp | hp
      · exact .tail _ (.tail _ hp)
      · rw [List.mem_singleton.mp hp]; exact .head _
  · rw [List.mem_singleton.mp ha]
    exact ⟨fun e => n' (q, o) (.head _) e.symm, fun r hr => n' r (.tail _ hr)⟩
theorem went_upd {g h h9 : Heap} {L q : Addr} {o o' : Obj} (K : ∀ l, News g L h l → (∀ p ∈ l, p.1 ≠ q) → News g L h9 ((q, o') :: l)) : Went g L q h h9 o o' [] := by
  intro l N nq
  refine ⟨fun p hp => K l (fun p hp => N p (.tail _ hp)) nq p ?_, fun a ha => nomatch ha⟩
  rwa [List.append_nil] at hp
section
variable {w : World} {mean : ExcName → Option Value} {mg mb : Str → Option Value} {dp un : Nat} {gd : Option (List Code)} {cn : Str} {cs : Scope} {a : Addr} {ccd : Value} {cl : List (Str × Addr)} {outer : List Env} {A₀ : Around} {base g : Heap} {L : Addr} {s0 : Shared} {E : Value → Shared → Prop} {hk q t : Addr} {o : Obj} {bits : Int} {rest : List (Addr × Obj)}
theorem node_dec {v : Addr} {u1 u2 u3 : Tok} {size p : Int} (C : Cx w mean mg mb dp un cs outer A₀ base g) (H : HookC w hk q bits rest) (h1 : (t, tup #[.str "decimal" u1, .ref v]) ∈ rest) (h2 : (v, tup #[.int size u2, .int (-p) u3]) ∈ rest) (hs0 : 0 ≤ size) (hs9 : size < 9000) (hp0 : 0 ≤ p) (hp4 : p ≤ 4) :
    NodeC (model PySem.Challenge.rw_pq0145_01.row.prog w) (ktrTop dp un gd cn cs L a ccd cl outer) E s0 g L hk q t [] o rest (fun v9 o' nw => o' = o ∧ ∃ a9 c9 e9 t9 u9, v9 = .ref a9 ∧ nw = [(a9, tup #[.int c9 t9, .int e9 u9])] ∧ Mk size (-p) c9 e9) := by
  intro h tk m pl n Q F N nq npl k
  obtain ⟨dh, bk, k1, k2, k3, k4, t2, t3, bo, b1, b2, b3, b4, DD, i1, i2, i3, r⟩ := H
  have d := C.d; have u := C.u
  refine wt_dec w mean mg mb dp un gd cn cs a ccd cl outer A₀ base g L m _ Q E t v pl size p (-p) u1 u2 u3 hk dh bk q bits k1 k2 k3 k4 t2 t3 C.B F C.X (news_sub N (sub_cons (.tail _ (.tail _ h1)) (sub_cons (.tail _ (.tail _ h2)) (sub_cons (.tail _ (.tail _ i1)) (sub_cons (.tail _ (.tail _ i2)) sub_nil))))) C.T C.k rfl hs0 hs9 hp0 hp4 (by omega) (by omega) ?_
  intro a9 c9 e9 t9 u9 h9 tk9 F9 K hM
  exact k (.ref a9) h9 tk9 o [(a9, _)] F9 (went_new K) ⟨rfl, a9, c9, e9, t9, u9, rfl, rfl, hM⟩
theorem node_neg {r : Addr} {x : Value} {u1 u2 u3 : Tok} {top p c e : Int} (C : Cx w mean mg mb dp un cs outer A₀ base g) (H : HookC w hk q bits rest) (h1 : (t, tup #[.str "neg" u1, x]) ∈ rest) (h2 : (r, tup #[.int c u2, .int e u3]) ∈ rest) (hM : Mk top (-p) c e) :
    NodeC (model PySem.Challenge.rw_pq0145_01.row.prog w) (ktrTop dp un gd cn cs L a ccd cl outer) E s0 g L hk q t [.ref r] o rest (fun v9 o' nw => o' = o ∧ ∃ a9 c9 e9 t9 u9, v9 = .ref a9 ∧ nw = [(a9, tup #[.int c9 t9, .int e9 u9])] ∧ Mk (0 - top) (-p) c9 e9) := by
  intro h tk m pl n Q F N nq npl k
  obtain ⟨dh, bk, k1, k2, k3, k4, t2, t3, bo, b1, b2, b3, b4, DD, i1, i2, i3, r9⟩ := H
  have d := C.d; have u := C.u
  refine wt_neg w mean mg mb dp un gd cn cs a ccd cl outer A₀ base g L m _ Q E t r pl x top p c e n u1 u2 u3 hk dh bk q bits k1 k2 k3 k4 t2 t3 C.B F C.X (news_sub N (sub_cons (.tail _ (.tail _ h1)) (sub_cons (.head _) (sub_cons (.tail _ (.tail _ h2)) (sub_cons (.tail _ (.tail _ i1)) (sub_cons (.tail _ (.tail _ i2)) sub_nil)))))) C.T C.k hM (by omega) (by omega) ?_
  intro a9 c9 e9 t9 u9 h9 tk9 F9 K hM
  exact k (.ref a9) h9 tk9 o [(a9, _)] F9 (went_new K) ⟨rfl, a9, c9, e9, t9, u9, rfl, rfl, hM⟩
theorem node_two {r : Addr} {x y : Value} {u1 u2 u3 u4 u5 : Tok} {top p c e : Int} (C : Cx w mean mg mb dp un cs outer A₀ base g) (H : HookC w hk q bits rest) (h1 : (t, tup #[.str "two" u1, .str "+" u4, x, y]) ∈ rest) (h2 : (r, tup #[.int c u2, .int e u3]) ∈ rest) (hM : Mk top (-p) c e) (hp0 : 0 ≤ p) (hp4 : p ≤ 4) (hl : -9000 < top) (hh : top < 9000) :
    NodeC (model PySem.Challenge.rw_pq0145_01.row.prog w) (ktrTop dp un gd cn cs L a ccd cl outer) E s0 g L hk q t [.ref r, .int 3 u5] o rest (fun v9 o' nw => o' = o ∧ ∃ a9 c9 e9 t9 u9, v9 = .ref a9 ∧ nw = [(a9, tup #[.int c9 t9, .int e9 u9])] ∧ Mk (top + 3 * 10 ^ p.toNat) (-p) c9 e9) := by
  intro h tk m pl n Q F N nq npl k
  obtain ⟨dh, bk, k1, k2, k3, k4, t2, t3, bo, b1, b2, b3, b4, DD, i1, i2, i3, r9⟩ := H
  have d := C.d; have u := C.u
  refine wt_two w mean mg mb dp un gd cn cs a ccd cl outer A₀ base g L m _ Q E t r pl x y top p c e n u1 u2 u3 u4 u5 hk dh bk q bits k1 k2 k3 k4 t2 t3 C.B F C.X (news_sub N (sub_cons (.tail _ (.tail _ h1)) (sub_cons (.head _) (sub_cons (.tail _ (.tail _ h2)) (sub_cons (.tail _ (.tail _ i1)) (sub_cons (.tail _ (.tail _ i2)) sub_nil)))))) C.T C.k hM hp0 hp4 hl hh (by omega) (by omega) ?_
  intro a9 c9 e9 t9 u9 h9 tk9 F9 K hM
  exact k (.ref a9) h9 tk9 o [(a9, _)] F9 (went_new K) ⟨rfl, a9, c9, e9, t9, u9, rfl, rfl, hM⟩
theorem node_A {u1 u2 : Tok} {vs : Array Value} {nq : Nat} (C : Cx w mean mg mb dp un cs outer A₀ base g) (H : HookC w hk q bits rest) (h1 : (t, tup #[.str "name" u1, .str "A" u2]) ∈ rest) (hz : vs.size ≤ sizeLine) :
    NodeC (model PySem.Challenge.rw_pq0145_01.row.prog w) (ktrTop dp un gd cn cs L a ccd cl outer) E s0 g L hk q t [] (listOf vs nq) rest (fun v9 o' nw => nw = [] ∧ ∃ tk8 n9 t9, v9 = .int 3 t9 ∧ o' = listOf (vs.push (.str "A" tk8)) n9) := by
  intro h tk m pl n Q F N nq npl k
  obtain ⟨dh, bk, k1, k2, k3, k4, t2, t3, bo, b1, b2, b3, b4, DD, i1, i2, i3, lo, isd, fl⟩ := H
  have d := C.d; have u := C.u
  refine wt_A w mean mg mb dp un gd cn cs a ccd cl outer A₀ base g L m _ Q E t (.ref pl) u1 u2 hk dh bk q bits k1 k2 k3 k4 t2 t3 bo b1 b2 b3 b4 DD vs _ C.B F C.X (news_sub N (sub_cons (.tail _ (.head _)) (sub_cons (.tail _ (.tail _ h1)) (sub_cons (.tail _ (.tail _ i1)) (sub_cons (.tail _ (.tail _ i2)) (sub_cons (.tail _ (.tail _ i3)) sub_nil)))))) C.T C.k lo isd fl hz
    (all_sub nq (sub_cons h1 (sub_cons i1 (sub_cons i2 (sub_cons i3 sub_nil))))) (by omega) (by omega) ?_
  intro h9 tk9 tk8 n9 t9 F9 K
  exact k (.int 3 t9) h9 tk9 _ [] F9 (went_upd K) ⟨rfl, tk8, n9, t9, rfl, rfl⟩
theorem node_T {u1 u2 : Tok} {vs : Array Value} {nq : Nat} (C : Cx w mean mg mb dp un cs outer A₀ base g) (H : HookC w hk q bits rest) (h1 : (t, tup #[.str "name" u1, .str "T$" u2]) ∈ rest) (hz : vs.size ≤ sizeLine) :
    NodeC (model PySem.Challenge.rw_pq0145_01.row.prog w) (ktrTop dp un gd cn cs L a ccd cl outer) E s0 g L hk q t [] (listOf vs nq) rest (fun v9 o' nw => nw = [] ∧ ∃ tk8 n9 t9, v9 = .str "x" t9 ∧ o' = listOf (vs.push (.str "T$" tk8)) n9) := by
  intro h tk m pl n Q F N nq npl k
  obtain ⟨dh, bk, k1, k2, k3, k4, t2, t3, bo, b1, b2, b3, b4, DD, i1, i2, i3, lo, isd, fl⟩ := H
  have d := C.d; have u := C.u
  refine wt_T w mean mg mb dp un gd cn cs a ccd cl outer A₀ base g L m _ Q E t (.ref pl) u1 u2 hk dh bk q bits k1 k2 k3 k4 t2 t3 bo b1 b2 b3 b4 DD vs _ C.B F C.X (news_sub N (sub_cons (.tail _ (.head _)) (sub_cons (.tail _ (.tail _ h1)) (sub_cons (.tail _ (.tail _ i1)) (sub_cons (.tail _ (.tail _ i2)) (sub_cons (.tail _ (.tail _ i3)) sub_nil)))))) C.T C.k lo isd fl hz
    (all_sub nq (sub_cons h1 (sub_cons i1 (sub_cons i2 (sub_cons i3 sub_nil))))) (by omega) (by omega) ?_
  intro h9 tk9 tk8 n9 t9 F9 K
  exact k (.str "x" t9) h9 tk9 _ [] F9 (went_upd K) ⟨rfl, tk8, n9, t9, rfl, rfl⟩
theorem node_N {u1 u2 : Tok} {vs : Array Value} {nq : Nat} {x1 x2 x3 : Addr} {o1 o2 o3 : Obj} (C : Cx w mean mg mb dp un cs outer A₀ base g) (H : HookC w hk q bits rest) (h1 : (t, tup #[.str "name" u1, .str "NONE" u2]) ∈ rest) (j1 : (x1, o1) ∈ rest) (j2 : (x2, o2) ∈ rest) (j3 : (x3, o3) ∈ rest) (hz : vs.size ≤ sizeLine)
    (hrai : Rai base g L (envX cn cs L a ccd cl :: outer) s0 [(x1, o1), (x2, o2), (x3, o3)] E) :
    NodeC (model PySem.Challenge.rw_pq0145_01.row.prog w) (ktrTop dp un gd cn cs L a ccd cl outer) E s0 g L hk q t [] (listOf vs nq) rest (fun _ _ _ => False) := by
  intro h tk m pl n Q F N nq npl k
  obtain ⟨dh, bk, k1, k2, k3, k4, t2, t3, bo, b1, b2, b3, b4, DD, i1, i2, i3, lo, isd, fl⟩ := H
  have d := C.d; have u := C.u
  refine wt_N w mean mg mb dp un gd cn cs a ccd cl outer A₀ base g L m _ Q E t (.ref pl) u1 u2 hk dh bk q bits k1 k2 k3 k4 t2 t3 bo b1 b2 b3 b4 DD vs _ x1 x2 x3 o1 o2 o3 C.B F C.X (news_sub N (sub_cons (.tail _ (.head _)) (sub_cons (.tail _ (.tail _ h1)) (sub_cons (.tail _ (.tail _ i1)) (sub_cons (.tail _ (.tail _ i2)) (sub_cons (.tail _ (.tail _ i3)) (sub_cons (.tail _ (.tail _ j1)) (sub_cons (.tail _ (.tail _ j2)) (sub_cons (.tail _ (.tail _ j3)) sub_nil))))))))) C.T C.k lo isd fl hz
    (all_sub nq (sub_cons h1 (sub_cons i1 (sub_cons i2 (sub_cons i3 (sub_cons j1 (sub_cons j2 (sub_cons j3 sub_nil)))))))) (by omega) (by omega) ?_
  intro g' e dd od tkc h9 tk9 Fg R9 u9 hc
  exact hrai g' m e dd od tkc h9 tk9 Fg R9 u9 hc
end
noncomputable def Asks (b : Bool) (vs vs' : Array Value) : Prop := if b = true then ∃ tk, vs' = vs.push (.str "A" tk) else vs' = vs
/-- a tree's worth, from within the loop -/
noncomputable def TreeEv (w : World) (mean : ExcName → Option Value) (mg mb : Str → Option Value) (t hk q : Addr) (lit : List (Addr × Obj)) (top p : Int) (b : Bool) (n : Nat) : Prop :=
  ∀ (dp un : Nat) (gd : Option (List Code)) (cn : Str) (cs : Scope) (a : Addr) (ccd : Value) (cl : List (Str × Addr)) (outer : List Env) (A₀ : Around) (base g : Heap) (L : Addr) (s0 : Shared) (E : Value → Shared → Prop) (lit' : List (Addr × Obj)) (Post : Value → Obj → List (Addr × Obj) → Prop) (R : Shared → Prop),
    Cx w mean mg mb dp un cs outer A₀ base g → Turns (model PySem.Challenge.rw_pq0145_01.row.prog w) (ktrTop dp un gd cn cs L a ccd cl outer) E s0 g L hk q lit' Post R →
    ∀ (W : List Value) (vs : Array Value) (nq : Nat) (rest : List (Addr × Obj)) (pr : Addr) (s' : Shared), vs.size + 9 ≤ sizeLine → LoopSt s0 g L hk q (W ++ [.ref pr]) [] (listOf vs nq) rest s' → W.length + n < 40 → (pr, tup #[.ref t, .bool false]) ∈ rest → (∀ p ∈ lit, p ∈ rest) →
    (∀ a9 c9 e9 t9 u9 vs' nq' rest' s'', LoopSt s0 g L hk q W [.ref a9] (listOf vs' nq') rest' s'' → (∀ p ∈ rest, p ∈ rest') → (a9, tup #[.int c9 t9, .int e9 u9]) ∈ rest' → (∀ r ∈ rest, r.1 ≠ a9) → Mk top (-p) c9 e9 → Asks b vs vs' → R s'') → R s'
section
variable {w : World} {mean : ExcName → Option Value} {mg mb : Str → Option Value} {hk q t : Addr} {bits : Int} {lit : List (Addr × Obj)} {top p : Int} {b : Bool} {n : Nat}
theorem ev_dec {v : Addr} {u1 u2 u3 : Tok} {size : Int} (H : HookC w hk q bits lit) (h1 : (t, tup #[.str "decimal" u1, .ref v]) ∈ lit) (h2 : (v, tup #[.int size u2, .int (-p) u3]) ∈ lit) (hs0 : 0 ≤ size) (hs9 : size < 9000) (hp0 : 0 ≤ p) (hp4 : p ≤ 4) : TreeEv w mean mg mb t hk q lit size p false n := by
  intro dp un gd cn cs a ccd cl outer A₀ base g L s0 E lit' Post R C T W vs nq rest pr s' hz St hW hpr hl k
  refine T.leaf0 W _ rest pr t _ s' St (by omega) hpr (.dec _ _ _ (hl _ h1)) (node_dec C (H.mono hl) (hl _ h1) (hl _ h2) hs0 hs9 hp0 hp4) ?_
  rintro v o' nw s'' ⟨rfl, a9, c9, e9, t9, u9, rfl, rfl, hM⟩ hnw St'
  exact k a9 c9 e9 t9 u9 vs nq _ s'' St' (fun p hp => List.mem_append.mpr (.inl hp)) (List.mem_append.mpr (.inr (.head _))) (hnw _ (.head _)) hM rfl
theorem ev_neg {t1 : Addr} {u : Tok} (H : HookC w hk q bits lit) (h1 : (t1, tup #[.str "neg" u, .ref t]) ∈ lit) (TE : TreeEv w mean mg mb t hk q lit top p b n) : TreeEv w mean mg mb t1 hk q lit (0 - top) p b (n + 1) := by
  intro dp un gd cn cs a ccd cl outer A₀ base g L s0 E lit' Post R C T W vs nq rest pr s' hz St hW hpr hl k
  refine T.psh1 W [] _ _ rest pr t1 s' St (by omega) hpr (.neg _ _ _ (hl _ h1)) fun p1 p2 s1 St1 => ?_
  refine TE dp un gd cn cs a ccd cl outer A₀ base g L s0 E lit' Post R C T (W ++ [.ref p1]) vs nq _ p2 s1 hz St1 (by rw [List.length_append]; show W.length + 1 + n < 40; omega) (.tail _ (.head _)) (fun p hp => .tail _ (.tail _ (hl p hp))) ?_
  intro a9 c9 e9 t9 u9 vs' nq' rest' s2 St2 hs2 ha9 hn9 hM hA
  have hl2 := fun p hp => hs2 p (.tail _ (.tail _ (hl p hp)))
  refine T.rdy1 W _ _ _ rest' p1 t1 _ s2 St2 (by omega) (hs2 _ (.head _)) (.neg _ _ _ (hl2 _ h1)) (node_neg C (H.mono hl2) (hl2 _ h1) ha9 hM) ?_
  rintro v o' nw s3 ⟨rfl, b9, d9, f9, v9, x9, rfl, rfl, hM3⟩ hnw St3
  exact k b9 d9 f9 v9 x9 vs' nq' _ s3 St3 (fun p hp => List.mem_append.mpr (.inl (hs2 p (.tail _ (.tail _ hp))))) (List.mem_append.mpr (.inr (.head _))) (fun r hr => hnw _ (.head _) r (hs2 r (.tail _ (.tail _ hr)))) hM3 hA
theorem app2 {W : List Value} {x y z : Value} : W ++ [x] ++ [y, z] = W ++ [x] ++ [y] ++ [z] := by simp
theorem ev_two {t1 nA : Addr} {u1 u2 u3 u4 : Tok} (H : HookC w hk q bits lit) (h1 : (t1, tup #[.str "two" u1, .str "+" u2, .ref t, .ref nA]) ∈ lit) (h2 : (nA, tup #[.str "name" u3, .str "A" u4]) ∈ lit) (hp0 : 0 ≤ p) (hp4 : p ≤ 4) (hlo : -9000 < top) (hhi : top < 9000) (TE : TreeEv w mean mg mb t hk q lit top p false n) : TreeEv w mean mg mb t1 hk q lit (top + 3 * 10 ^ p.toNat) p true (n + 2) := by
  intro dp un gd cn cs a ccd cl outer A₀ base g L s0 E lit' Post R C T W vs nq rest pr s' hz St hW hpr hl k
  refine T.psh2 W [] _ _ _ rest pr t1 s' St (by omega) hpr (.two _ _ _ _ _ (hl _ h1)) fun p1 p2 p3 s1 St1 => ?_
  rw [app2] at St1
  refine TE dp un gd cn cs a ccd cl outer A₀ base g L s0 E lit' Post R C T (W ++ [.ref p1] ++ [.ref p2]) vs nq _ p3 s1 hz St1 (by rw [List.length_append, List.length_append]; show W.length + 1 + 1 + n < 40; omega) (.tail _ (.tail _ (.head _))) (fun p hp => .tail _ (.tail _ (.tail _ (hl p hp)))) ?_
  intro a9 c9 e9 t9 u9 vs' nq' rest' s2 St2 hs2 ha9 hn9 hM hA
  obtain rfl : vs' = vs := hA
  have hl2 := fun p hp => hs2 p (.tail _ (.tail _ (.tail _ (hl p hp))))
  refine T.leaf1 (W ++ [.ref p1]) _ _ rest' p2 nA _ s2 St2 (by rw [List.length_append]; show W.length + 1 < 50; omega) (hs2 _ (.tail _ (.head _))) (.name _ _ _ (hl2 _ h2)) (node_A C (H.mono hl2) (hl2 _ h2) (by omega)) ?_
  rintro v o' nw s3 ⟨rfl, tk8, n9, t9', rfl, rfl⟩ hnw St3
  rw [List.append_nil] at St3
  refine T.rdy2 W _ _ _ _ _ rest' p1 t1 _ s3 St3 (by omega) (hs2 _ (.head _)) (.two _ _ _ _ _ (hl2 _ h1)) (node_two C (H.mono hl2) (hl2 _ h1) ha9 hM hp0 hp4 hlo hhi) ?_
  rintro v o' nw s4 ⟨rfl, b9, d9, f9, v9, x9, rfl, rfl, hM3⟩ hnw St4
  exact k b9 d9 f9 v9 x9 _ n9 _ s4 St4 (fun p hp => List.mem_append.mpr (.inl (hs2 p (.tail _ (.tail _ (.tail _ hp)))))) (List.mem_append.mpr (.inr (.head _))) (fun r hr => hnw _ (.head _) r (hs2 r (.tail _ (.tail _ (.tail _ hr))))) hM3 ⟨tk8, rfl⟩
end
section
variable {w : World} {mean : ExcName → Option Value} {mg mb : Str → Option Value} {hk q t : Addr} {bits : Int} {lit : List (Addr × Obj)} {top p : Int} {b : Bool}
  {dp un : Nat} {gd : Option (List Code)} {cn : Str} {cs : Scope} {a : Addr} {ccd : Value} {cl : List (Str × Addr)} {outer : List Env} {A₀ : Around} {base h₀ : Heap} {L : Addr} {m : Str → Option Value} {s : Shared} {Q E : Value → Shared → Prop} {vs : Array Value} {nq : Nat}
theorem asks_size {vs vs' : Array Value} (h : Asks b vs vs') : vs'.size ≤ vs.size + 1 := by
  unfold Asks at h
  split at h
  · obtain ⟨tk, rfl⟩ := h; simp
  · rw [h]; omega
/-- worth of a tree -/
theorem worth_tree (TE : TreeEv w mean mg mb t hk q lit top p b 3) (B : Below A₀ base outer h₀) (F : Fr h₀ L s.heap m) (X : (hd.heap_1 w.params).In h₀) (N : News h₀ L s.heap ((q, listOf vs nq) :: lit)) (T : Top topProg loose mean mg mb h₀) (k : cs.kind = .function) (nl : ∀ p ∈ lit, p.1 ≠ q) (d : dp + 60 < recursionLimit) (u : un + 480 < cLine) (hz : vs.size + 9 ≤ sizeLine)
    (hret : ∀ a9 c9 e9 t9 u9 vs' nq' h9 tk9, Fr h₀ L h9 m → Went h₀ L q s.heap h9 (listOf vs nq) (listOf vs' nq') [(a9, tup #[.int c9 t9, .int e9 u9])] → Mk top (-p) c9 e9 → Asks b vs vs' → Q (.ref a9) { s with heap := h9, toks := tk9 }) :
    wpAny (model PySem.Challenge.rw_pq0145_01.row.prog w) (ktrTop dp un gd cn cs L a ccd cl outer) (call (.ref 330) [.ref t, .ref hk]) Q E s := by
  refine worth_any w mean mg mb dp un gd cn cs a ccd cl outer A₀ base h₀ L m s Q E t hk q _ lit [] (fun v o' nw => ∃ a9 c9 e9 t9 u9 vs' nq', v = .ref a9 ∧ o' = listOf vs' nq' ∧ nw = [(a9, tup #[.int c9 t9, .int e9 u9])] ∧ Mk top (-p) c9 e9 ∧ Asks b vs vs') False B F X N T k nl d u ?_ (fun z => z.elim) ?_
  · rintro v h9 tk9 o' nw F9 K ⟨a9, c9, e9, t9, u9, vs', nq', rfl, rfl, rfl, hM, hA⟩
    exact hret a9 c9 e9 t9 u9 vs' nq' h9 tk9 F9 K hM hA
  · intro dp' un' gd' cn' cs' a' ccd' cl' outer' A' base' g L' s0 E' R env test body hub B' X' T' k' d' u' Tn _ pr s' St
    refine TE dp' un' gd' cn' cs' a' ccd' cl' outer' A' base' g L' s0 E' lit _ R ⟨B', X', T', k', d', u'⟩ Tn [] vs nq _ pr s' hz St (by decide) (.head _) (fun p hp => .tail _ hp) ?_
    intro a9 c9 e9 t9 u9 vs' nq' rest' s2 St2 hs2 ha9 hn9 hM hA
    refine Tn.fin _ _ rest' [(a9, tup #[.int c9 t9, .int e9 u9])] s2 St2 (fun p hp => hs2 p (.tail _ hp)) (sub_cons ha9 sub_nil) (fun y hy r hr => ?_) ⟨a9, c9, e9, t9, u9, vs', nq', rfl, rfl, rfl, hM, hA⟩
    rw [List.mem_singleton.mp hy]
    exact hn9 r (.tail _ hr)
/-- worth of a sum with a lacking name -/
theorem worth_lack {tL nN x1 x2 x3 : Addr} {o1 o2 o3 : Obj} {u1 u2 u3 u4 : Tok} (H : HookC w hk q bits lit) (TE : TreeEv w mean mg mb t hk q lit top p b 3) (h1 : (tL, tup #[.str "two" u1, .str "+" u2, .ref t, .ref nN]) ∈ lit) (h2 : (nN, tup #[.str "name" u3, .str "NONE" u4]) ∈ lit) (j1 : (x1, o1) ∈ lit) (j2 : (x2, o2) ∈ lit) (j3 : (x3, o3) ∈ lit)
    (B : Below A₀ base outer h₀) (F : Fr h₀ L s.heap m) (X : (hd.heap_1 w.params).In h₀) (N : News h₀ L s.heap ((q, listOf vs nq) :: lit)) (T : Top topProg loose mean mg mb h₀) (k : cs.kind = .function) (nl : ∀ p ∈ lit, p.1 ≠ q) (d : dp + 60 < recursionLimit) (u : un + 480 < cLine) (hz : vs.size + 9 ≤ sizeLine)
    (hrai : Rai base h₀ L (envX cn cs L a ccd cl :: outer) s [(x1, o1), (x2, o2), (x3, o3)] E) :
    wpAny (model PySem.Challenge.rw_pq0145_01.row.prog w) (ktrTop dp un gd cn cs L a ccd cl outer) (call (.ref 330) [.ref tL, .ref hk]) Q E s := by
  refine worth_any w mean mg mb dp un gd cn cs a ccd cl outer A₀ base h₀ L m s Q E tL hk q _ lit [(x1, o1), (x2, o2), (x3, o3)] (fun _ _ _ => False) True B F X N T k nl d u (fun _ _ _ _ _ _ _ z => z.elim) (fun _ => hrai) ?_
  intro dp' un' gd' cn' cs' a' ccd' cl' outer' A' base' g L' s0 E' R env test body hub B' X' T' k' d' u' Tn hr' pr s' St
  refine Tn.psh2 [] [] _ _ _ _ pr tL s' St (by decide) (.head _) (.two _ _ _ _ _ (.tail _ h1)) fun p1 p2 p3 s1 St1 => ?_
  rw [app2] at St1
  refine TE dp' un' gd' cn' cs' a' ccd' cl' outer' A' base' g L' s0 E' lit _ R ⟨B', X', T', k', d', u'⟩ Tn ([] ++ [.ref p1] ++ [.ref p2]) vs nq _ p3 s1 hz St1 (by simp) (.tail _ (.tail _ (.head _))) (fun p hp => .tail _ (.tail _ (.tail _ (.tail _ hp)))) ?_
  intro a9 c9 e9 t9 u9 vs' nq' rest' s2 St2 hs2 ha9 hn9 hM hA
  have hl2 : ∀ p ∈ lit, p ∈ rest' := fun p hp => hs2 p (.tail _ (.tail _ (.tail _ (.tail _ hp))))
  have hz' := asks_size hA
  refine Tn.leaf1 ([] ++ [.ref p1]) _ _ rest' p2 nN _ s2 St2 (by simp) (hs2 _ (.tail _ (.head _))) (.name _ _ _ (hl2 _ h2)) (node_N ⟨B', X', T', k', d', u'⟩ (H.mono hl2) (hl2 _ h2) (hl2 _ j1) (hl2 _ j2) (hl2 _ j3) (by omega) (hr' trivial)) ?_
  rintro v o' nw s3 z
  exact z.elim
/-- worth of the text's name -/
theorem worth_text {u1 u2 : Tok} (H : HookC w hk q bits lit) (h1 : (t, tup #[.str "name" u1, .str "T$" u2]) ∈ lit) (B : Below A₀ base outer h₀) (F : Fr h₀ L s.heap m) (X : (hd.heap_1 w.params).In h₀) (N : News h₀ L s.heap ((q, listOf vs nq) :: lit)) (T : Top topProg loose mean mg mb h₀) (k : cs.kind = .function) (nl : ∀ p ∈ lit, p.1 ≠ q) (d : dp + 60 < recursionLimit) (u : un + 480 < cLine) (hz : vs.size + 9 ≤ sizeLine)
    (hret : ∀ vs' nq' t9 h9 tk9, Fr h₀ L h9 m → Went h₀ L q s.heap h9 (listOf vs nq) (listOf vs' nq') [] → vs'.size = vs.size + 1 → Q (.str "x" t9) { s with heap := h9, toks := tk9 }) :
    wpAny (model PySem.Challenge.rw_pq0145_01.row.prog w) (ktrTop dp un gd cn cs L a ccd cl outer) (call (.ref 330) [.ref t, .ref hk]) Q E s := by
  refine worth_any w mean mg mb dp un gd cn cs a ccd cl outer A₀ base h₀ L m s Q E t hk q _ lit [] (fun v o' nw => nw = [] ∧ ∃ tk8 n9 t9, v = .str "x" t9 ∧ o' = listOf (vs.push (.str "T$" tk8)) n9) False B F X N T k nl d u ?_ (fun z => z.elim) ?_
  · rintro v h9 tk9 o' nw F9 K ⟨rfl, tk8, n9, t9, rfl, rfl⟩
    exact hret _ n9 t9 h9 tk9 F9 K (by simp)
  · intro dp' un' gd' cn' cs' a' ccd' cl' outer' A' base' g L' s0 E' R env test body hub B' X' T' k' d' u' Tn _ pr s' St
    refine Tn.leaf0 [] _ _ pr t _ s' St (by decide) (.head _) (.name _ _ _ (.tail _ h1)) (node_T ⟨B', X', T', k', d', u'⟩ (H.mono fun p hp => .tail _ hp) (.tail _ h1) (by omega)) ?_
    rintro v o' nw s2 ⟨rfl, hx⟩ hnw St2
    rw [List.append_nil] at St2
    exact Tn.fin _ _ _ [] s2 St2 (fun p hp => .tail _ hp) sub_nil (fun _ h => nomatch h) ⟨rfl, hx⟩
end
end
section
open PySem PySem.W PyProof.Rows
set_option maxRecDepth 100000
set_option maxHeartbeats 80000000

theorem keep_same {h₀ g h h' : Heap} {L : Addr} {lit l9 : List (Addr × Obj)} (N : News h₀ L h lit) (N' : News h₀ L h' l9) (hs : ∀ p ∈ lit, p ∈ l9) (hg : ∀ b x, b ∉ lit.map (·.1) → h.get? b = some x → g.get? b = some x) (hk : ∀ b x, g.get? b = some x → h'.get? b = some x)
    (l : List (Addr × Obj)) (Nl : News h₀ L h l) : News h₀ L h' l := by
  intro p hp
  obtain ⟨n1, n2, n3⟩ := Nl p hp
  by_cases hm : p.1 ∈ lit.map (·.1)
  · obtain ⟨r, hr, e⟩ := List.mem_map.mp hm
    have z := (N r hr).1
    rw [e, n1] at z
    have y := (N' r (hs r hr)).1
    rw [e] at y
    exact ⟨by rw [y, z], n2, n3⟩
  · exact ⟨hk _ _ (hg _ _ hm n1), n2, n3⟩
theorem pow_ge {k : Nat} (h : 5 ≤ k) : (100000 : Int) ≤ 10 ^ k := by
  obtain ⟨j, rfl⟩ : ∃ j, k = j + 5 := ⟨k - 5, by omega⟩
  rw [Int.pow_add]
  have : (0 : Int) < 10 ^ j := Int.pow_pos (by decide)
  omega
theorem mk_near_bounds {top p c e : Int} (h : Mk top (-p) c e) (hl : -40000 < top) (hh : top < 40000) (hp0 : 0 ≤ p) (hp4 : p ≤ 4) : -1000000 < c ∧ c < 1000000 ∧ -4 ≤ e ∧ e ≤ 4 := by
  rcases h with ⟨_, rfl, rfl⟩ | ⟨hc, he, h⟩
  · omega
  · have hk : (e - -p).toNat < 5 := by
      apply Decidable.byContradiction
      intro q
      have h5 := pow_ge (Nat.le_of_not_lt q)
      have : (100000 : Int) ≤ c * 10 ^ (e - -p).toNat ∨ c * 10 ^ (e - -p).toNat ≤ -100000 := by
        by_cases hc0 : 0 < c
        · left
          have := Int.mul_le_mul_of_nonneg_right (show (1 : Int) ≤ c by omega) (Int.le_of_lt (Int.lt_of_lt_of_le (by decide) h5))
          omega
        · right
          have := Int.mul_le_mul_of_nonneg_right (show c ≤ (-1 : Int) by omega) (Int.le_of_lt (Int.lt_of_lt_of_le (by decide) h5))
          omega
      omega
    have hp : (1 : Int) ≤ 10 ^ (e - -p).toNat := Int.pow_pos (by decide)
    have hb : -40000 < c ∧ c < 40000 := by
      by_cases hc0 : 0 < c
      · have := Int.mul_le_mul_of_nonneg_left hp (Int.le_of_lt hc0)
        omega
      · have := Int.mul_le_mul_of_nonpos_left (show c ≤ 0 by omega) hp
        omega
    omega
theorem near_call (w : World) (mean : ExcName → Option Value) (mg mb : Str → Option Value) : ∀ (dp un : Nat) (gd : Option (List Code)) (cn : Str) (cs : Scope) (a : Addr) (ccd : Value) (cl : List (Str × Addr)) (outer : List Env) (A₀ : Around) (base h₀ : Heap) (L : Addr) (m : Str → Option Value) (s : Shared) (Q E : Value → Shared → Prop) (v : Addr) (c e : Int) (u1 u2 : Tok) (news : List (Addr × Obj)),
    Below A₀ base outer h₀ → Fr h₀ L s.heap m → (hd.heap_1 w.params).In h₀ → News h₀ L s.heap news → Top topProg loose mean mg mb h₀ → cs.kind = .function → (v, tup #[.int c u1, .int e u2]) ∈ news → (-1000000 < c ∧ c < 1000000 ∧ -4 ≤ e ∧ e ≤ 4) → dp + 2 < recursionLimit → un + 16 < cLine →
    (∀ t9 h9 tk9, Fr h₀ L h9 m → News h₀ L h9 news → Q (.int (near c e) t9) { s with heap := h9, toks := tk9 }) →
    wpAny (model PySem.Challenge.rw_pq0145_01.row.prog w) (ktrTop dp un gd cn cs L a ccd cl outer) (call (.ref 72) [.ref v]) Q E s := by
  intro dp un gd cn cs a ccd cl outer A₀ base h₀ L m s Q E v c e u1 u2 news B F X N T hk hm hb hd hu hret
  refine tellsN_use B F X N T hk (Pair1.mk v c e u1 u2 hm) (nearT_tells w mean mg mb _) hb hd hu ?_
  intro r tl h' tk' F' N' ho ht hl
  obtain rfl := ht
  obtain ⟨t9, rfl⟩ := hl
  exact hret _ _ _ F' (fun p hp => N' p (by rw [List.append_nil]; exact hp))
theorem fit_call (w : World) (mean : ExcName → Option Value) (mg mb : Str → Option Value) : ∀ (dp un : Nat) (gd : Option (List Code)) (cn : Str) (cs : Scope) (a : Addr) (ccd : Value) (cl : List (Str × Addr)) (outer : List Env) (A₀ : Around) (base h₀ : Heap) (L : Addr) (m : Str → Option Value) (s : Shared) (Q E : Value → Shared → Prop) (n p : Int) (u1 u2 : Tok) (news : List (Addr × Obj)),
    Below A₀ base outer h₀ → Fr h₀ L s.heap m → (hd.heap_1 w.params).In h₀ → News h₀ L s.heap news → Top topProg loose mean mg mb h₀ → cs.kind = .function → 1 ≤ p → p ≤ 20 → dp < recursionLimit → un < cLine →
    (∀ h9 tk9, Fr h₀ L h9 m → News h₀ L h9 news → Q (.bool (fit n p)) { s with heap := h9, toks := tk9 }) →
    wpAny (model PySem.Challenge.rw_pq0145_01.row.prog w) (ktrTop dp un gd cn cs L a ccd cl outer) (call (.ref 79) [.int n u1, .int p u2]) Q E s := by
  intro dp un gd cn cs a ccd cl outer A₀ base h₀ L m s Q E n p u1 u2 news B F X N T hk h1 h2 hd hu hret
  refine tellsN_use B F X N T hk (Int2.mk n p u1 u2) (fitT_tells w mean mg mb _) ⟨h1, h2⟩ hd hu ?_
  intro r tl h' tk' F' N' ho ht hl
  obtain rfl := ht
  obtain rfl := hl
  exact hret _ _ F' (fun p hp => N' p (by rw [List.append_nil]; exact hp))
theorem wo_call (w : World) (mean : ExcName → Option Value) (mg mb : Str → Option Value) : ∀ (dp un : Nat) (gd : Option (List Code)) (cn : Str) (cs : Scope) (a : Addr) (ccd : Value) (cl : List (Str × Addr)) (outer : List Env) (A₀ : Around) (base h₀ : Heap) (L : Addr) (m : Str → Option Value) (s : Shared) (Q E : Value → Shared → Prop) (v : Addr) (c e bits : Int) (u1 u2 u3 : Tok) (lit : List (Addr × Obj)),
    Below A₀ base outer h₀ → Fr h₀ L s.heap m → (hd.heap_1 w.params).In h₀ → News h₀ L s.heap ((v, tup #[.int c u1, .int e u2]) :: lit) → Top topProg loose mean mg mb h₀ → cs.kind = .function → (-1000000 < c ∧ c < 1000000 ∧ -4 ≤ e ∧ e ≤ 4) → 5 ≤ bits → bits ≤ 16 → dp + 20 < recursionLimit → un + 160 < cLine →
    (∀ t9 h9 tk9, Fr h₀ L h9 m → (∀ l, News h₀ L s.heap l → News h₀ L h9 l) → fit (near c e) bits = true → Q (.int (near c e) t9) { s with heap := h9, toks := tk9 }) →
    (∀ g e' dd od tkc h9 tk9, fit (near c e) bits = false → Fr h₀ L g m → FlyD base g (envX cn cs L a ccd cl :: outer) e' dd ((dd, od) :: lit) h9 → g.UpToSlots h9 → lookIn "code" od = some (some (.str "OV" tkc)) → E (.ref e') { s with heap := h9, toks := tk9 }) →
    wpAny (model PySem.Challenge.rw_pq0145_01.row.prog w) (ktrTop dp un gd cn cs L a ccd cl outer) (call (.ref 86) [.ref v, .int bits u3]) Q E s := by
  w_top off
  k_with_none
  k_fill
  intro dp un gd cn cs a ccd cl outer A₀ base h₀ L m s Q E v c e bits u1 u2 u3 lit B F X N T hk' hb hb5 hb16 hd hu hret hrai
  refine wpAny_call ?_
  k_dflt (refine' code_defR ?k1 ?k2 ?k3 ?k4 ?k5 ?kA ?kF ?kK ?k6 ?k7 ?k8 ?k9 ?kB ?_ ?c2 ?c3 ?c4 ?c5; (case kA => exact rfl); (case kF => exact rfl); (case kK => assumption); (case k1 => k_asm); (case k2 => k_asm); (case k3 => k_asm); (case k4 => k_asm); (case k5 => k_asm); (case k6 => k_is); (case k7 => k_is); (case k8 => ktr_room); (case k9 => exact BindsTo.of_eq rfl); (case c5 => decide); (case kB => exact locs rfl); (case c2 => exact rfl); (case c3 => exact rfl); (case c4 => exact rfl); k_whole; intro g0 L0 h0 hg0 FG0 F0 N0 B0 X0 T0; (try dsimp only); (try k_fold))
  (k_with "call ref" => ((with_reducible show wpAny _ _ (call (Value.ref 72) _) _ _ _); k_dflt (refine' near_call w mean mg mb _ _ _ _ _ _ _ _ _ _ _ _ _ _ _ _ _ _ _ _ _ _ _ ?kB ?kF ?kK ?kN ?kT ?kk ?cm ?cb ?kd ?ku ?_; (case kB => k_asm); (case kF => k_asm); (case kK => k_asm); (case kN => k_asm); (case kT => k_asm); (case kk => first | exact rfl | assumption); (case cm => k_mem); (case cb => assumption); (case kd => ktr_room); (case ku => ktr_units)); k_whole; intro t9 h9 tk9 F9 N9; (try k_sweep); (try dsimp only); (try k_fold)))
  (k_with "call ref" => ((with_reducible show wpAny _ _ (call (Value.ref 79) _) _ _ _); k_dflt (refine' fit_call w mean mg mb _ _ _ _ _ _ _ _ _ _ _ _ _ _ _ _ _ _ _ _ _ _ ?kB ?kF ?kK ?kN ?kT ?kk ?c1 ?c2 ?kd ?ku ?_; (case kB => k_asm); (case kF => k_asm); (case kK => k_asm); (case kN => k_asm); (case kT => k_asm); (case kk => first | exact rfl | assumption); (case c1 => omega); (case c2 => omega); (case kd => ktr_room); (case ku => ktr_units)); k_whole; intro h9 tk9 F9 N9; (cases hfit : fit (near c e) bits); (all_goals (try k_sweep)); (all_goals (try dsimp only)); (all_goals (try k_fold))))
  (k_with "exec Raise some none" => (k_dflt (refine' exc_raise (K := Mine.hd.heap_1 w.params) ?hh ?_ ?q; (case hh => first | exact rfl | k_asm); (case q => (first | exact rfl | kernel_rfl!)))))
  (k_with "call ref" => ((with_reducible show wpAny _ _ (call (Value.ref 34) [_]) _ _ _); k_dflt (refine' be_call w _ _ _ _ _ _ _ _ _ _ _ _ _ _ _ _ _ ?kK ?kF ?kN ?kB ?kT ?kA ?kf ?kk ?kr ?_; (case kK => k_asm); (case kF => k_asm); (case kN => k_asm); (case kB => k_asm); (case kT => k_asm); (case kA => exact rfl); (case kf => exact rfl); (case kk => exact rfl); (case kr => ktr_room)); k_whole; intro eE ddE odE wsE hE tkE FE NE nE lkE nfE w0E w1E; (try dsimp only); refine' ⟨eE, some ddE, wsE, rfl, ?x1, (NE _ (.head _)).1, w1E, ?_⟩; (case x1 => exact Frag.In.keeps (by k_asm) FE.keep)))
  (k_with "leaving ref" => (k_dflt (refine' leaveD1 ?K ?F NE nE w1E rfl rfl ?_; (case K => k_asm); (case F => k_asm)); k_whole; intro hY Y9 y9; (try dsimp only)))
  (k_with "leaving ref" => (k_dflt (refine' leaveD2 ?K ?F Y9 y9 rfl ?_; (case K => k_asm); (case F => k_asm)); k_whole; clear Y9 y9; intro hY Y9 y9; (try dsimp only)))
  k_steps
  all_goals try k_unfold
  all_goals try dsimp only
  · exact hrai g0 eE ddE odE _ _ _ hfit FG0 (fly_sub Y9 (sub_cons (.head _) fun p hp => .tail _ (.tail _ hp))) y9 lkE
  · refine leaveR_ (by k_asm) (by k_asm) (fun kF kN kg => ?_)
    exact hret _ _ _ kF (keep_same N kN (fun p hp => hp) hg0 kg) hfit
theorem wo_text (w : World) (mean : ExcName → Option Value) (mg mb : Str → Option Value) : ∀ (dp un : Nat) (gd : Option (List Code)) (cn : Str) (cs : Scope) (a : Addr) (ccd : Value) (cl : List (Str × Addr)) (outer : List Env) (A₀ : Around) (base h₀ : Heap) (L : Addr) (m : Str → Option Value) (s : Shared) (Q E : Value → Shared → Prop) (x : Str) (bits : Int) (tx u3 : Tok) (lit : List (Addr × Obj)),
    Below A₀ base outer h₀ → Fr h₀ L s.heap m → (hd.heap_1 w.params).In h₀ → News h₀ L s.heap lit → Top topProg loose mean mg mb h₀ → cs.kind = .function → dp + 20 < recursionLimit → un + 160 < cLine →
    (∀ g e' dd od tkc h9 tk9, Fr h₀ L g m → FlyD base g (envX cn cs L a ccd cl :: outer) e' dd ((dd, od) :: lit) h9 → g.UpToSlots h9 → lookIn "code" od = some (some (.str "TM" tkc)) → E (.ref e') { s with heap := h9, toks := tk9 }) →
    wpAny (model PySem.Challenge.rw_pq0145_01.row.prog w) (ktrTop dp un gd cn cs L a ccd cl outer) (call (.ref 86) [.str x tx, .int bits u3]) Q E s := by
  w_top off
  k_with_none
  k_fill
  intro dp un gd cn cs a ccd cl outer A₀ base h₀ L m s Q E x bits tx u3 lit B F X N T hk' hd hu hrai
  refine wpAny_call ?_
  k_dflt (refine' code_defR ?k1 ?k2 ?k3 ?k4 ?k5 ?kA ?kF ?kK ?k6 ?k7 ?k8 ?k9 ?kB ?_ ?c2 ?c3 ?c4 ?c5; (case kA => exact rfl); (case kF => exact rfl); (case kK => assumption); (case k1 => k_asm); (case k2 => k_asm); (case k3 => k_asm); (case k4 => k_asm); (case k5 => k_asm); (case k6 => k_is); (case k7 => k_is); (case k8 => ktr_room); (case k9 => exact BindsTo.of_eq rfl); (case c5 => decide); (case kB => exact locs rfl); (case c2 => exact rfl); (case c3 => exact rfl); (case c4 => exact rfl); k_whole; intro g0 L0 h0 hg0 FG0 F0 N0 B0 X0 T0; (try dsimp only); (try k_fold))
  (k_with "exec Raise some none" => (k_dflt (refine' exc_raise (K := Mine.hd.heap_1 w.params) ?hh ?_ ?q; (case hh => first | exact rfl | k_asm); (case q => (first | exact rfl | kernel_rfl!)))))
  (k_with "call ref" => ((with_reducible show wpAny _ _ (call (Value.ref 34) [_]) _ _ _); k_dflt (refine' be_call w _ _ _ _ _ _ _ _ _ _ _ _ _ _ _ _ _ ?kK ?kF ?kN ?kB ?kT ?kA ?kf ?kk ?kr ?_; (case kK => k_asm); (case kF => k_asm); (case kN => k_asm); (case kB => k_asm); (case kT => k_asm); (case kA => exact rfl); (case kf => exact rfl); (case kk => exact rfl); (case kr => ktr_room)); k_whole; intro eE ddE odE wsE hE tkE FE NE nE lkE nfE w0E w1E; (try dsimp only); refine' ⟨eE, some ddE, wsE, rfl, ?x1, (NE _ (.head _)).1, w1E, ?_⟩; (case x1 => exact Frag.In.keeps (by k_asm) FE.keep)))
  (k_with "leaving ref" => (k_dflt (refine' leaveD1 ?K ?F NE nE w1E rfl rfl ?_; (case K => k_asm); (case F => k_asm)); k_whole; intro hY Y9 y9; (try dsimp only)))
  (k_with "leaving ref" => (k_dflt (refine' leaveD2 ?K ?F Y9 y9 rfl ?_; (case K => k_asm); (case F => k_asm)); k_whole; clear Y9 y9; intro hY Y9 y9; (try dsimp only)))
  k_steps
  all_goals try k_unfold
  all_goals try dsimp only
  exact hrai g0 eE ddE odE _ _ _ FG0 Y9 y9 lkE

/-- what a call does: a value, or the project's own exception with its code; the ledger behind it -/
noncomputable def CallC (w : World) (mean : ExcName → Option Value) (mg mb : Str → Option Value) (n : Nat) (f : Value) (args : List Value) (lit : List (Addr × Obj)) (PQ : Value → List (Addr × Obj) → Prop) (PE : Str → List (Addr × Obj) → Prop) : Prop :=
  ∀ (dp un : Nat) (gd : Option (List Code)) (cn : Str) (cs : Scope) (a : Addr) (ccd : Value) (cl : List (Str × Addr)) (outer : List Env) (A₀ : Around) (base h₀ : Heap) (L : Addr) (m : Str → Option Value) (s : Shared) (Q E : Value → Shared → Prop),
    Below A₀ base outer h₀ → Fr h₀ L s.heap m → (hd.heap_1 w.params).In h₀ → News h₀ L s.heap lit → Top topProg loose mean mg mb h₀ → cs.kind = .function → dp + n < recursionLimit → un + 8 * n < cLine →
    (∀ v h9 tk9 led, Fr h₀ L h9 m → News h₀ L h9 led → PQ v led → Q v { s with heap := h9, toks := tk9 }) →
    (∀ g e dd od c tkc h9 tk9 led, Fr h₀ L g m → FlyD base g (envX cn cs L a ccd cl :: outer) e dd ((dd, od) :: led) h9 → g.UpToSlots h9 → lookIn "code" od = some (some (.str c tkc)) → PE c led → E (.ref e) { s with heap := h9, toks := tk9 }) →
    wpAny (model PySem.Challenge.rw_pq0145_01.row.prog w) (ktrTop dp un gd cn cs L a ccd cl outer) (call f args) Q E s
theorem ww_any {w : World} {mean : ExcName → Option Value} {mg mb : Str → Option Value} {t hk q f : Addr} {bits : Int} {lit : List (Addr × Obj)} {vs : Array Value} {nq : Nat} {top p : Int} {b : Bool} {PQ : Value → List (Addr × Obj) → Prop} {PE : Str → List (Addr × Obj) → Prop}
    (hH : HookC w hk q bits lit) (nl : ∀ p ∈ lit, p.1 ≠ q) (hz : vs.size + 9 ≤ sizeLine) (hf : ∀ h, (hd.heap_1 w.params).In h → (∀ p ∈ lit, h.get? p.1 = some p.2) → FnAt f h) (hTE : TreeEv w mean mg mb t hk q lit top p b 3) (hmade : ∀ (a9 : Addr) (c9 e9 : Int) (t9 u9 u : Tok) (vs' : Array Value) (nq' : Nat), Mk top (-p) c9 e9 → Asks b vs vs' → (∀ r ∈ lit, r.1 ≠ a9) → CallC w mean mg mb 50 (.ref f) [.ref a9, .int bits u] ((a9, tup #[.int c9 t9, .int e9 u9]) :: (q, listOf vs' nq') :: lit) PQ PE) :
    CallC w mean mg mb 100 (.ref 337) [.ref t, .ref hk, .ref f] ((q, listOf vs nq) :: lit) PQ PE := by
  w_top off
  k_with_none
  k_fill
  intro dp un gd cn cs a ccd cl outer A₀ base h₀ L m s Q E B F X N T hk' hd hu hret hrai
  obtain ⟨dh, bk, k1, k2, k3, k4, t2, t3, bo, b1, b2, b3, b4, DD, i1, i2, i3, lo, isd, fl⟩ := id hH
  refine wpAny_call ?_
  k_dflt (refine' code_defR ?k1 ?k2 ?k3 ?k4 ?k5 ?kA ?kF ?kK ?k6 ?k7 ?k8 ?k9 ?kB ?_ ?c2 ?c3 ?c4 ?c5; (case kA => exact rfl); (case kF => exact rfl); (case kK => assumption); (case k1 => k_asm); (case k2 => k_asm); (case k3 => k_asm); (case k4 => k_asm); (case k5 => k_asm); (case k6 => k_is); (case k7 => k_is); (case k8 => ktr_room); (case k9 => exact BindsTo.of_eq rfl); (case c5 => decide); (case kB => exact locs rfl); (case c2 => exact rfl); (case c3 => exact rfl); (case c4 => exact rfl); k_whole; intro g0 L0 h0 hg0 FG0 F0 N0 B0 X0 T0; (try dsimp only); (try k_fold))
  (k_with "callWith ref nil nil" => ((with_reducible show wpAny _ _ (callWith _ (Value.ref f) _ _ _) _ _ _); k_dflt (refine' callWith_F ?k1 ?_; (case k1 => exact hf _ (Frag.In.keeps (by k_asm) (Fr.keep (by k_asm : Fr g0 L0 _ _))) (fun p hp => ((by k_asm : News g0 L0 _ _) p (by repeat (first | exact hp | refine List.Mem.tail _ ?_))).1)); k_whole)))
  (k_with "FnAt" => (exact hf _ (Frag.In.keeps (by k_asm) (Fr.keep (by k_asm : Fr g0 L0 _ _))) (fun p hp => ((by k_asm : News g0 L0 _ _) p (by repeat (first | exact hp | refine List.Mem.tail _ ?_))).1)))
  (k_with "call ref" => ((with_reducible show wpAny _ _ (call (Value.ref 330) _) _ _ _); k_dflt (refine' worth_tree hTE ?kB ?kF ?kK ?kN ?kT ?kk ?nl ?kd ?ku ?hz ?_; (case kB => k_asm); (case kF => k_asm); (case kK => k_asm); (case kN => k_asm); (case kT => k_asm); (case kk => first | exact rfl | assumption); (case nl => exact nl); (case kd => ktr_room); (case ku => ktr_units); (case hz => exact hz)); k_whole; intro a9 c9 e9 t9 u9 vs' nq' h9 tk9 F9 K9 hM hA; (have N9 := (K9 lit (by k_asm) nl).1); (have nf9 := ((K9 lit (by k_asm) nl).2 _ (List.Mem.head _)).2); (have N8 := news_sub N9 (l := (a9, tup #[.int c9 t9, .int e9 u9]) :: (q, listOf vs' nq') :: (hk, instObj 389 dh) :: (dh, hooksD w bk q bits k1 k2 k3 k4 t2 t3) :: lit) (sub_cons (.tail _ (List.mem_append.mpr (.inr (.head _)))) (sub_cons (.head _) (sub_cons (.tail _ (List.mem_append.mpr (.inl i1))) (sub_cons (.tail _ (List.mem_append.mpr (.inl i2))) (fun p hp => .tail _ (List.mem_append.mpr (.inl hp)))))))); clear N9 K9; (try k_sweep); (try dsimp only); (try k_fold)))
  (k_with "call ref" => ((with_reducible show wpAny _ _ (call (Value.ref f) _) _ _ _); k_dflt (refine' hmade _ _ _ _ _ _ _ _ hM hA nf9 _ _ _ _ _ _ _ _ _ _ _ _ _ _ _ _ _ ?kB ?kF ?kK ?kN ?kT ?kk ?kd ?ku ?_ ?_; (case kB => k_asm); (case kF => k_asm); (case kK => k_asm); (case kN => exact news_sub (by k_asm) (sub_cons (by k_mem) (sub_cons (by k_mem) (by intro p hp; repeat (first | exact hp | refine List.Mem.tail _ ?_))))); (case kT => k_asm); (case kk => first | exact rfl | assumption); (case kd => ktr_room); (case ku => ktr_units);); (all_goals (first | (intro gE eE ddE odE cE tkE h9 tk9 led9 FE Y9 y9 lkE hP9; (try dsimp only)) | (intro v9 h9 tk9 led9 F9 N9 hP9; (try k_sweep); (try dsimp only); (try k_fold))))))
  (k_with "leaving ref" => (k_dflt (refine' leaveD2 ?K ?F Y9 y9 rfl ?_; (case K => k_asm); (case F => k_asm)); k_whole; clear Y9 y9; intro hY Y9 y9; (try dsimp only)))
  k_steps
  all_goals try k_unfold
  all_goals try dsimp only
  all_goals first
    | exact hrai g0 eE ddE odE cE tkE _ _ led9 FG0 Y9 y9 lkE hP9
    | (refine leaveR_ (by k_asm) N9 (fun kF kN kg => ?_); exact hret _ _ _ _ kF kN hP9)
theorem ww_text {w : World} {mean : ExcName → Option Value} {mg mb : Str → Option Value} {t hk q : Addr} {bits : Int} {lit : List (Addr × Obj)} {vs : Array Value} {nq : Nat} {u1 u2 : Tok}
    (hH : HookC w hk q bits lit) (nl : ∀ p ∈ lit, p.1 ≠ q) (hz : vs.size + 9 ≤ sizeLine) (hT : (t, tup #[.str "name" u1, .str "T$" u2]) ∈ lit) :
    CallC w mean mg mb 100 (.ref 337) [.ref t, .ref hk, .ref 86] ((q, listOf vs nq) :: lit) (fun _ _ => False) (fun c led => c = Str.ofString "TM" ∧ ∃ vs' nq', vs'.size = vs.size + 1 ∧ led = (q, listOf vs' nq') :: lit) := by
  w_top off
  k_with_none
  k_fill
  intro dp un gd cn cs a ccd cl outer A₀ base h₀ L m s Q E B F X N T hk' hd hu hret hrai
  obtain ⟨dh, bk, k1, k2, k3, k4, t2, t3, bo, b1, b2, b3, b4, DD, i1, i2, i3, lo, isd, fl⟩ := id hH
  refine wpAny_call ?_
  k_dflt (refine' code_defR ?k1 ?k2 ?k3 ?k4 ?k5 ?kA ?kF ?kK ?k6 ?k7 ?k8 ?k9 ?kB ?_ ?c2 ?c3 ?c4 ?c5; (case kA => exact rfl); (case kF => exact rfl); (case kK => assumption); (case k1 => k_asm); (case k2 => k_asm); (case k3 => k_asm); (case k4 => k_asm); (case k5 => k_asm); (case k6 => k_is); (case k7 => k_is); (case k8 => ktr_room); (case k9 => exact BindsTo.of_eq rfl); (case c5 => decide); (case kB => exact locs rfl); (case c2 => exact rfl); (case c3 => exact rfl); (case c4 => exact rfl); k_whole; intro g0 L0 h0 hg0 FG0 F0 N0 B0 X0 T0; (try dsimp only); (try k_fold))
  (k_with "call ref" => ((with_reducible show wpAny _ _ (call (Value.ref 330) _) _ _ _); k_dflt (refine' worth_text hH hT ?kB ?kF ?kK ?kN ?kT ?kk ?nl ?kd ?ku ?hz ?_; (case kB => k_asm); (case kF => k_asm); (case kK => k_asm); (case kN => k_asm); (case kT => k_asm); (case kk => first | exact rfl | assumption); (case nl => exact nl); (case kd => ktr_room); (case ku => ktr_units); (case hz => exact hz)); k_whole; intro vs' nq' t9 h9 tk9 F9 K9 hA; (have N9 := (K9 lit (by k_asm) nl).1);  (have N8 := news_sub N9 (l := (q, listOf vs' nq') :: (hk, instObj 389 dh) :: (dh, hooksD w bk q bits k1 k2 k3 k4 t2 t3) :: lit) (sub_cons (.head _) (sub_cons (.tail _ (List.mem_append.mpr (.inl i1))) (sub_cons (.tail _ (List.mem_append.mpr (.inl i2))) (fun p hp => .tail _ (List.mem_append.mpr (.inl hp))))))); clear N9 K9; (try k_sweep); (try dsimp only); (try k_fold)))
  (k_with "call ref" => ((with_reducible show wpAny _ _ (call (Value.ref 86) _) _ _ _); k_dflt (refine' wo_text w mean mg mb _ _ _ _ _ _ _ _ _ _ _ _ _ _ _ _ _ _ _ _ _ ((q, listOf vs' nq') :: lit) ?kB ?kF ?kK ?kN ?kT ?kk ?kd ?ku ?_; (case kB => k_asm); (case kF => k_asm); (case kK => k_asm); (case kN => exact news_sub (by k_asm) (sub_cons (by k_mem) (by intro p hp; repeat (first | exact hp | refine List.Mem.tail _ ?_)))); (case kT => k_asm); (case kk => first | exact rfl | assumption); (case kd => ktr_room); (case ku => ktr_units)); k_whole; intro gE eE ddE odE tkE h9 tk9 FE Y9 y9 lkE; (try dsimp only)))
  (k_with "leaving ref" => (k_dflt (refine' leaveD2 ?K ?F Y9 y9 rfl ?_; (case K => k_asm); (case F => k_asm)); k_whole; clear Y9 y9; intro hY Y9 y9; (try dsimp only)))
  k_steps
  all_goals try k_unfold
  all_goals try dsimp only
  exact hrai g0 eE ddE odE _ tkE _ _ ((q, listOf vs' nq') :: lit) FG0 Y9 y9 lkE ⟨rfl, vs', nq', hA, rfl⟩
theorem ww_lack {w : World} {mean : ExcName → Option Value} {mg mb : Str → Option Value} {t hk q f tL nN x1 x2 x3 : Addr} {bits : Int} {lit : List (Addr × Obj)} {vs : Array Value} {nq : Nat} {top p : Int} {b : Bool} {o1 o2 o3 : Obj} {u1 u2 u3 u4 : Tok}
    (hH : HookC w hk q bits lit) (nl : ∀ p ∈ lit, p.1 ≠ q) (hz : vs.size + 9 ≤ sizeLine) (hf : ∀ h, (hd.heap_1 w.params).In h → (∀ p ∈ lit, h.get? p.1 = some p.2) → FnAt f h) (hTE : TreeEv w mean mg mb t hk q lit top p b 3) (h1 : (tL, tup #[.str "two" u1, .str "+" u2, .ref t, .ref nN]) ∈ lit) (h2 : (nN, tup #[.str "name" u3, .str "NONE" u4]) ∈ lit) (j1 : (x1, o1) ∈ lit) (j2 : (x2, o2) ∈ lit) (j3 : (x3, o3) ∈ lit) :
    CallC w mean mg mb 100 (.ref 337) [.ref tL, .ref hk, .ref f] ((q, listOf vs nq) :: lit) (fun _ _ => False) (fun c led => c = Str.ofString "NM" ∧ led = [(x1, o1), (x2, o2), (x3, o3)]) := by
  w_top off
  k_with_none
  k_fill
  intro dp un gd cn cs a ccd cl outer A₀ base h₀ L m s Q E B F X N T hk' hd hu hret hrai
  obtain ⟨dh, bk, k1, k2, k3, k4, t2, t3, bo, b1, b2, b3, b4, DD, i1, i2, i3, lo, isd, fl⟩ := id hH
  refine wpAny_call ?_
  k_dflt (refine' code_defR ?k1 ?k2 ?k3 ?k4 ?k5 ?kA ?kF ?kK ?k6 ?k7 ?k8 ?k9 ?kB ?_ ?c2 ?c3 ?c4 ?c5; (case kA => exact rfl); (case kF => exact rfl); (case kK => assumption); (case k1 => k_asm); (case k2 => k_asm); (case k3 => k_asm); (case k4 => k_asm); (case k5 => k_asm); (case k6 => k_is); (case k7 => k_is); (case k8 => ktr_room); (case k9 => exact BindsTo.of_eq rfl); (case c5 => decide); (case kB => exact locs rfl); (case c2 => exact rfl); (case c3 => exact rfl); (case c4 => exact rfl); k_whole; intro g0 L0 h0 hg0 FG0 F0 N0 B0 X0 T0; (try dsimp only); (try k_fold))
  (k_with "callWith ref nil nil" => ((with_reducible show wpAny _ _ (callWith _ (Value.ref f) _ _ _) _ _ _); k_dflt (refine' callWith_F ?k1 ?_; (case k1 => exact hf _ (Frag.In.keeps (by k_asm) (Fr.keep (by k_asm : Fr g0 L0 _ _))) (fun p hp => ((by k_asm : News g0 L0 _ _) p (by repeat (first | exact hp | refine List.Mem.tail _ ?_))).1)); k_whole)))
  (k_with "FnAt" => (exact hf _ (Frag.In.keeps (by k_asm) (Fr.keep (by k_asm : Fr g0 L0 _ _))) (fun p hp => ((by k_asm : News g0 L0 _ _) p (by repeat (first | exact hp | refine List.Mem.tail _ ?_))).1)))
  (k_with "call ref" => ((with_reducible show wpAny _ _ (call (Value.ref 330) _) _ _ _); k_dflt (refine' worth_lack hH hTE h1 h2 j1 j2 j3 ?kB ?kF ?kK ?kN ?kT ?kk ?nl ?kd ?ku ?hz ?_; (case kB => k_asm); (case kF => k_asm); (case kK => k_asm); (case kN => k_asm); (case kT => k_asm); (case kk => first | exact rfl | assumption); (case nl => exact nl); (case kd => ktr_room); (case ku => ktr_units); (case hz => exact hz)); k_whole; intro gE mE eE ddE odE tkE h9 tk9 FE Y9 y9 lkE; (try k_sweep); (try dsimp only); (try k_fold)))
  (k_with "leaving ref" => (k_dflt (refine' leaveD2 ?K ?F Y9 y9 rfl ?_; (case K => k_asm); (case F => k_asm)); k_whole; clear Y9 y9; intro hY Y9 y9; (try dsimp only)))
  k_steps
  all_goals try k_unfold
  all_goals try dsimp only
  exact hrai g0 eE ddE odE _ tkE _ _ [(x1, o1), (x2, o2), (x3, o3)] FG0 Y9 y9 lkE ⟨rfl, rfl⟩

noncomputable def Wh (top p n : Int) : Prop := ∃ c e, Mk top (-p) c e ∧ n = near c e
theorem wo_C {w : World} {mean : ExcName → Option Value} {mg mb : Str → Option Value} {v : Addr} {c e bits : Int} {u1 u2 u3 : Tok} {lit : List (Addr × Obj)} (hb : -1000000 < c ∧ c < 1000000 ∧ -4 ≤ e ∧ e ≤ 4) (h5 : 5 ≤ bits) (h16 : bits ≤ 16) :
    CallC w mean mg mb 50 (.ref 86) [.ref v, .int bits u3] ((v, tup #[.int c u1, .int e u2]) :: lit) (fun r led => (∃ t9, r = .int (near c e) t9) ∧ fit (near c e) bits = true ∧ led = lit) (fun x led => x = Str.ofString "OV" ∧ fit (near c e) bits = false ∧ led = lit) := by
  intro dp un gd cn cs a ccd cl outer A₀ base h₀ L m s Q E B F X N T hk hd hu hQ hE
  exact wo_call w mean mg mb dp un gd cn cs a ccd cl outer A₀ base h₀ L m s Q E v c e bits u1 u2 u3 lit B F X N T hk hb h5 h16 (by omega) (by omega)
    (fun t9 h9 tk9 F9 K9 hf => hQ _ _ _ lit F9 (K9 _ (fun p hp => N p (.tail _ hp))) ⟨⟨t9, rfl⟩, hf, rfl⟩)
    (fun g e' dd od tkc h9 tk9 hf Fg R9 u9 hc => hE g e' dd od _ tkc h9 tk9 lit Fg R9 u9 hc ⟨rfl, hf, rfl⟩)
theorem CallC.mono {w : World} {mean : ExcName → Option Value} {mg mb : Str → Option Value} {n : Nat} {f : Value} {args : List Value} {lit : List (Addr × Obj)} {PQ PQ' : Value → List (Addr × Obj) → Prop} {PE PE' : Str → List (Addr × Obj) → Prop} (H : CallC w mean mg mb n f args lit PQ PE) (h1 : ∀ v l, PQ v l → PQ' v l) (h2 : ∀ c l, PE c l → PE' c l) : CallC w mean mg mb n f args lit PQ' PE' := by
  intro dp un gd cn cs a ccd cl outer A₀ base h₀ L m s Q E B F X N T hk hd hu hQ hE
  exact H dp un gd cn cs a ccd cl outer A₀ base h₀ L m s Q E B F X N T hk hd hu (fun v h9 tk9 led F9 N9 hP => hQ v h9 tk9 led F9 N9 (h1 _ _ hP)) (fun g e dd od c tkc h9 tk9 led Fg R9 u9 hc hP => hE g e dd od c tkc h9 tk9 led Fg R9 u9 hc (h2 _ _ hP))
theorem ww_tree {w : World} {mean : ExcName → Option Value} {mg mb : Str → Option Value} {t hk q : Addr} {bits : Int} {lit : List (Addr × Obj)} {vs : Array Value} {nq : Nat} {top p : Int} {b : Bool} (hTE : TreeEv w mean mg mb t hk q lit top p b 3) (hl : -40000 < top) (hh : top < 40000) (hp0 : 0 ≤ p) (hp4 : p ≤ 4) (h5 : 5 ≤ bits) (h16 : bits ≤ 16)
    (hH : HookC w hk q bits lit) (nl : ∀ p ∈ lit, p.1 ≠ q) (hz : vs.size + 9 ≤ sizeLine) :
    CallC w mean mg mb 100 (.ref 337) [.ref t, .ref hk, .ref 86] ((q, listOf vs nq) :: lit) (fun r led => ∃ n t9 vs' nq', r = .int n t9 ∧ Wh top p n ∧ fit n bits = true ∧ Asks b vs vs' ∧ led = (q, listOf vs' nq') :: lit) (fun x led => x = Str.ofString "OV" ∧ ∃ n vs' nq', Wh top p n ∧ fit n bits = false ∧ Asks b vs vs' ∧ led = (q, listOf vs' nq') :: lit) := by
  refine ww_any hH nl hz (fun h X _ => ⟨_, _, _, _, X 86 _ rfl⟩) hTE (fun a9 c9 e9 t9 u9 u vs' nq' hM hA _ => ?_)
  refine (wo_C (mk_near_bounds hM hl hh hp0 hp4) h5 h16).mono ?_ ?_
  · rintro v l ⟨⟨t9, rfl⟩, hf, rfl⟩
    exact ⟨_, t9, vs', nq', rfl, ⟨c9, e9, hM, rfl⟩, hf, hA, rfl⟩
  · rintro c l ⟨rfl, hf, rfl⟩
    exact ⟨rfl, _, vs', nq', ⟨c9, e9, hM, rfl⟩, hf, hA, rfl⟩
end
section
open PySem PySem.W PyProof.Rows
set_option maxRecDepth 100000
set_option maxHeartbeats 80000000
theorem heard {w : World} {mean : ExcName → Option Value} {mg mb : Str → Option Value} {f : Addr} {lit : List (Addr × Obj)} {PQ : Value → List (Addr × Obj) → Prop} {PE : Str → List (Addr × Obj) → Prop} (hf : ∀ h, (hd.heap_1 w.params).In h → (∀ p ∈ lit, h.get? p.1 = some p.2) → FnAt f h) (H : CallC w mean mg mb 150 (.ref f) [] lit PQ PE) : ∀ (dp un : Nat) (gd : Option (List Code)) (cn : Str) (cs : Scope) (a : Addr) (ccd : Value) (cl : List (Str × Addr)) (A₀ : Around) (base h₀ : Heap) (L : Addr) (m : Str → Option Value) (s : Shared) (Q E : Value → Shared → Prop),
    Below A₀ base [] h₀ → Fr h₀ L s.heap m → (hd.heap_1 w.params).In h₀ → News h₀ L s.heap lit → Top topProg loose mean mg mb h₀ → cs.kind = .function → (hd.heap_1 w.params).In base → Top topProg loose mean mg mb base → dp + 200 < recursionLimit → un + 1600 < cLine →
    (∀ v h9 tk9 led, Fr h₀ L h9 m → News h₀ L h9 led → (PQ v led ∨ ∃ c tkc, v = .str c tkc ∧ PE c led) → Q v { s with heap := h9, toks := tk9 }) →
    wpAny (model PySem.Challenge.rw_pq0145_01.row.prog w) (ktrTop dp un gd cn cs L a ccd cl []) (call (.ref 414) [.ref f]) Q E s := by
  w_top off
  k_with_none
  k_fill
  intro dp un gd cn cs a ccd cl A₀ base h₀ L m s Q E B F X N T hk' XB TB hd hu hret
  refine wpAny_call ?_
  k_dflt (refine' code_heard ?k1 ?k2 ?k3 ?k4 ?k5 ?kA ?kF ?kK ?k6 ?k7 ?k8 ?k9 ?kB ?_ ?c2 ?c3 ?c4 ?c5; (case kA => exact rfl); (case kF => exact rfl); (case kK => assumption); (case k1 => k_asm); (case k2 => k_asm); (case k3 => k_asm); (case k4 => k_asm); (case k5 => k_asm); (case k6 => k_is); (case k7 => k_is); (case k8 => ktr_room); (case k9 => exact BindsTo.of_eq rfl); (case c5 => decide); (case kB => exact locs rfl); (case c2 => exact rfl); (case c3 => exact rfl); (case c4 => exact rfl); k_whole; intro g0 L0 h0 FG0 F0 N0 B0 X0 T0 kt0; (try dsimp only); (try k_fold))
  (k_with "callWith ref nil nil" => ((with_reducible show wpAny _ _ (callWith _ (Value.ref f) _ _ _) _ _ _); k_dflt (refine' callWith_F0 ?k1 ?_; (case k1 => exact hf _ (Frag.In.keeps (by k_asm) (Fr.keep (by k_asm : Fr g0 L0 _ _))) (fun p hp => ((by k_asm : News g0 L0 _ _) p (by repeat (first | exact hp | refine List.Mem.tail _ ?_))).1)); k_whole; try dsimp only [List.nil_append, List.cons_append])))
  (k_with "FnAt" => (exact hf _ (Frag.In.keeps (by k_asm) (Fr.keep (by k_asm : Fr g0 L0 _ _))) (fun p hp => ((by k_asm : News g0 L0 _ _) p (by repeat (first | exact hp | refine List.Mem.tail _ ?_))).1)))
  (k_with "call ref" => ((with_reducible show wpAny _ _ (call (Value.ref f) _) _ _ _); k_dflt (refine' H _ _ _ _ _ _ _ _ _ _ _ _ _ _ _ _ _ ?kB ?kF ?kK ?kN ?kT ?kk ?kd ?ku ?_ ?_; (case kB => k_asm); (case kF => k_asm); (case kK => k_asm); (case kN => k_asm); (case kT => k_asm); (case kk => first | exact rfl | assumption); (case kd => ktr_room); (case ku => ktr_units)); (all_goals (first | (intro gE eE ddE odE cE tkE h9 tk9 led9 FE Y9 y9 lkE hP9; (try dsimp only)) | (intro v9 h9 tk9 led9 F9 N9 hP9; (try k_sweep); (try dsimp only); (try k_fold))))))
  (k_with "noteFrame ref" => (k_dflt (refine' caughtD (KF := Mine.hd.heap_1 w.params) (x := Str.ofString "BasicError") Y9 FE ?K y9 XB TB ?ex ?q ?_ ?e1 ?e2 ?e3 ?e4; (case K => k_asm); (case ex => first | exact rfl | k_is); (case q => (first | exact rfl | kernel_rfl!)); (case e1 => exact rfl); (case e2 => exact rfl); (case e3 => exact rfl); (case e4 => decide)); k_whole; intro hc gc tkc wsc ktc Fc Nc Bc Xc Tc; (try dsimp only); (try k_fold)))
  (k_with "getAttr ref" => (k_dflt (refine' code_attr2 (K := Mine.hd.heap_1 w.params) ?F ?X ?N ?h1 ?h2 lkE ?hga ?hgk ?hh ?ha ?q ?hv ?_; (case F => k_asm); (case X => k_asm); (case N => k_asm); (case h1 => k_mem); (case h2 => k_mem); (case hga => (first | exact rfl | kernel_rfl!)); (case hgk => (first | exact rfl | kernel_rfl!)); (case hh => (first | exact rfl | kernel_rfl!)); (case ha => (first | exact rfl | kernel_rfl!)); (case q => (first | exact rfl | kernel_rfl!)); (case hv => exact rfl)); (try dsimp only)))
  k_steps
  all_goals try k_unfold
  all_goals try dsimp only
  all_goals first
    | (refine leaveH_ FG0 (by k_asm) N9 (fun kF kN => ?_); exact hret _ _ _ _ kF kN (.inl hP9))
    | (refine leaveH_ (turn_fr FG0 ktc (fun b hb => by (obtain rfl := List.mem_singleton.mp hb); exact Heap.get?_none_of_le FG0.above)) (by k_asm) (by k_asm : News gc _ _ ((eE, _) :: (ddE, odE) :: led9)) (fun kF kN => ?_); exact hret _ _ _ led9 kF (news_sub kN (fun p hp => .tail _ (.tail _ hp))) (.inr ⟨cE, tkE, rfl, hP9⟩))
end
end
end
section
open PySem PySem.W PyProof.Rows
set_option maxRecDepth 100000
set_option maxHeartbeats 4000000
theorem upd_of {h₀ h h' : Heap} {L q : Addr} {o o' : Obj} {news news' : List (Addr × Obj)} (K : ∀ l, News h₀ L h l → (∀ p ∈ l, p.1 ≠ q) → News h₀ L h' ((q, o') :: l)) (N : News h₀ L h news) (U : Upd q o o' news news') : News h₀ L h' news' := by
  obtain ⟨pre, post, rfl, rfl, a, b⟩ := U.split
  have z := K (pre ++ post) (fun p hp => N p ((List.mem_append.mp hp).elim (fun y => List.mem_append.mpr (.inl y)) fun y => List.mem_append.mpr (.inr (.tail _ y)))) (fun p hp => (List.mem_append.mp hp).elim (a p) (b p))
  intro p hp
  refine z p ?_
  rcases List.mem_append.mp hp with hp | hp
  · exact .tail _ (List.mem_append.mpr (.inl hp))
  · rcases List.mem_cons.mp hp with rfl | hp
    · exact .head _
    · exact .tail _ (List.mem_append.mpr (.inr hp))
theorem split_wp {M : Model} {Γ : Ctx} {env : Env} {l2 : List Stmt} {Qp : Flow → Pos → Shared → Prop} {Ep : Value → Pos → Shared → Prop} : ∀ (l1 : List Stmt) (p : Pos) (s : Shared), Sem.wp M Γ (execs l1 env) (fun f p' s' => match f with | .next => Sem.wp M Γ (execs l2 env) Qp Ep p' s' | f => Qp f p' s') Ep p s → Sem.wp M Γ (execs (l1 ++ l2) env) Qp Ep p s
  | [], _, _, h => h
  | a :: l1, p, s, h => by
    rw [execs_cons, Sem.wp_bind'] at h
    show Sem.wp M Γ (execs (a :: (l1 ++ l2)) env) Qp Ep p s
    rw [execs_cons, Sem.wp_bind']
    refine Sem.wp_mono M Γ _ (fun f p' s' h' => ?_) (fun _ _ _ h' => h') _ _ h
    cases f with
    | next => exact split_wp l1 p' s' h'
    | cont => exact h'
    | brk => exact h'
    | ret v => exact h'
section
variable {M : Model} {A : Around} {E : Value → Shared → Prop} {s : Shared} {env : Env} {rest : List Stmt} {Q : Flow → Shared → Prop}
noncomputable def NextP (P : Shared → Prop) (f : Flow) (s : Shared) : Prop :=
  match f with
  | .next => P s
  | _ => False
theorem split_l (l1 : List Stmt) (P : Shared → Prop) (h1 : wpAny M A (execs l1 env) (NextP P) E s) (h2 : ∀ s', P s' → wpAny M A (execs rest env) Q E s') : wpAny M A (execs (l1 ++ rest) env) Q E s := fun Γ p hΓ => by
  refine split_wp l1 p s (Sem.wp_mono M Γ _ (fun f p' s' h' => ?_) (fun _ _ _ h' => h') _ _ (h1 Γ p hΓ))
  cases f with
  | next => exact h2 s' h' Γ p' hΓ
  | cont => exact h'.elim
  | brk => exact h'.elim
  | ret v => exact h'.elim
end
theorem all_gt {n a : Nat} {l : List (Addr × Obj)} (h : ∀ x ∈ l, @LT.lt Nat _ n x.1) (ha : a ≤ n) : ∀ x ∈ l, x.1 ≠ a := fun x hx e => Nat.lt_irrefl n (Nat.lt_of_lt_of_le (e ▸ h x hx) ha)
/-- the law's state between its statements -/
noncomputable def LawSt (w : World) (mean : ExcName → Option Value) (mg mb : Str → Option Value) (s0 : Shared) (g : Heap) (L : Nat) (T qs : Array Value) (bits top p : Int) (b : Bool) (s : Shared) : Prop :=
  ∃ (h : Heap) (tk : Nat) (m : Str → Option Value) (t hk q al nl : Nat) (oa oh ol ok ot : Obj) (n1 n2 n3 : Nat) (nv : Array Value) (tt tb ti : Tok) (lit : List (Addr × Obj)),
    s = { s0 with heap := h, toks := tk } ∧ Fr g L h m ∧
    News g L h ((L + 1, oa) :: (L + 1 + 1, oh) :: (L + 1 + 1 + 1, ol) :: (L + 1 + 1 + 1 + 1, ok) :: (L + 1 + 1 + 1 + 1 + 1, ot) :: (416, tabObj T) :: (al, listOf #[] n1) :: (nl, listOf nv n2) :: (q, listOf qs n3) :: lit) ∧
    (oa.data = .cell (some (.ref al)) ∧ oh.data = .cell (some (.ref hk)) ∧ ol.data = .cell none ∧ ok.data = .cell none ∧ ot.data = .cell (some (.ref t))) ∧
    (HookC w hk q bits lit ∧ TreeEv w mean mg mb t hk q lit top p b 3 ∧ Asks b #[] nv) ∧
    (416 < L ∧ L + 5 < al ∧ L + 5 < nl ∧ L + 5 < q ∧ al ≠ nl ∧ al ≠ q ∧ nl ≠ q) ∧ ((∀ x ∈ lit, @LT.lt Nat _ (L + 5) x.1) ∧ (∀ x ∈ lit, x.1 ≠ al) ∧ (∀ x ∈ lit, x.1 ≠ q)) ∧
    m (Str.ofString "top") = some (.int top tt) ∧ m (Str.ofString "bottom") = some (.int (10 ^ p.toNat) tb) ∧ m (Str.ofString "names") = some (.ref nl) ∧ m (Str.ofString "bits") = some (.int bits ti)
theorem map4 {m : Str → Option Value} {a b c d : Str} {x y z v : Value} (h1 : m a = some x) (h2 : m b = some y) (h3 : m c = some z) (h4 : m d = some v) :
    (fun k => if k = a then some x else if k = b then some y else if k = c then some z else if k = d then some v else m k) = m := by
  funext k
  by_cases e1 : k = a
  · rw [if_pos e1, e1, h1]
  · rw [if_neg e1]
    by_cases e2 : k = b
    · rw [if_pos e2, e2, h2]
    · rw [if_neg e2]
      by_cases e3 : k = c
      · rw [if_pos e3, e3, h3]
      · rw [if_neg e3]
        by_cases e4 : k = d
        · rw [if_pos e4, e4, h4]
        · rw [if_neg e4]
theorem LawSt.opened {w : World} {mean : ExcName → Option Value} {mg mb : Str → Option Value} {s0 : Shared} {g : Heap} {L : Nat} {T qs : Array Value} {bits top p : Int} {b : Bool} {s : Shared} {G : Shared → Prop} (H : LawSt w mean mg mb s0 g L T qs bits top p b s)
    (k : ∀ (h : Heap) (tk : Nat) (u : Str → Option Value) (t hk q al nl : Nat) (oa oh ol ok ot : Obj) (n1 n2 n3 : Nat) (nv : Array Value) (tt tb ti : Tok) (lit : List (Addr × Obj)),
      Fr g L h (fun y => if y = Str.ofString "top" then some (.int top tt) else if y = Str.ofString "bottom" then some (.int (10 ^ p.toNat) tb) else if y = Str.ofString "names" then some (.ref nl) else if y = Str.ofString "bits" then some (.int bits ti) else u y) →
      News g L h ((L + 1, oa) :: (L + 1 + 1, oh) :: (L + 1 + 1 + 1, ol) :: (L + 1 + 1 + 1 + 1, ok) :: (L + 1 + 1 + 1 + 1 + 1, ot) :: (416, tabObj T) :: (al, listOf #[] n1) :: (nl, listOf nv n2) :: (q, listOf qs n3) :: lit) →
      oa.data = .cell (some (.ref al)) → oh.data = .cell (some (.ref hk)) → ol.data = .cell none → ok.data = .cell none → ot.data = .cell (some (.ref t)) →
      HookC w hk q bits lit → TreeEv w mean mg mb t hk q lit top p b 3 → Asks b #[] nv → 416 < L → L + 5 < al → L + 5 < nl → L + 5 < q → al ≠ nl → al ≠ q → nl ≠ q → (∀ x ∈ lit, @LT.lt Nat _ (L + 5) x.1) → (∀ x ∈ lit, x.1 ≠ al) → (∀ x ∈ lit, x.1 ≠ q) → G { s0 with heap := h, toks := tk }) : G s := by
  obtain ⟨h, tk, m, t, hk, q, al, nl, oa, oh, ol, ok, ot, n1, n2, n3, nv, tt, tb, ti, lit, rfl, F, N, ⟨c1, c2, c3, c4, c5⟩, ⟨e1, e2, e3⟩, ⟨d1, d2, d3, d4, d5, d6, d7⟩, ⟨f1, f2, f3⟩, m1, m2, m3, m4⟩ := H
  refine k h tk m t hk q al nl oa oh ol ok ot n1 n2 n3 nv tt tb ti lit ?_ N c1 c2 c3 c4 c5 e1 e2 e3 d1 d2 d3 d4 d5 d6 d7 f1 f2 f3
  rw [map4 m1 m2 m3 m4]
  exact F
/-- the law's state behind its forms -/
noncomputable def LawP (w : World) (mean : ExcName → Option Value) (mg mb : Str → Option Value) (s0 : Shared) (g : Heap) (L : Nat) (s : Shared) : Prop :=
  ∃ (bits top p : Int) (b : Bool), (5 ≤ bits ∧ bits ≤ 16 ∧ 0 ≤ p ∧ p ≤ 4 ∧ -40000 < top ∧ top < 40000) ∧ LawSt w mean mg mb s0 g L #[] #[] bits top p b s
/-- the law's state ahead of its forms -/
noncomputable def LawQ (w : World) (s0 : Shared) (g : Heap) (L : Nat) (s : Shared) : Prop :=
  ∃ (h : Heap) (tk : Nat) (m : Str → Option Value) (t v hk q al nl : Nat) (oa oh ol ok ot : Obj) (n1 n2 n3 : Nat) (tt tb ti tf u1 u2 u3 : Tok) (lit : List (Addr × Obj)) (bits size p f : Int),
    s = { s0 with heap := h, toks := tk } ∧ (5 ≤ bits ∧ bits ≤ 16 ∧ 0 ≤ size ∧ size < 9000 ∧ 0 ≤ p ∧ p ≤ 4 ∧ 0 ≤ f ∧ f < 4) ∧ Fr g L h m ∧
    News g L h ((L + 1, oa) :: (L + 1 + 1, oh) :: (L + 1 + 1 + 1, ol) :: (L + 1 + 1 + 1 + 1, ok) :: (L + 1 + 1 + 1 + 1 + 1, ot) :: (416, tabObj #[]) :: (al, listOf #[] n1) :: (nl, listOf #[] n2) :: (q, listOf #[] n3) :: (t, tup #[.str "decimal" u1, .ref v]) :: (v, tup #[.int size u2, .int (-p) u3]) :: lit) ∧
    (oa.data = .cell (some (.ref al)) ∧ oh.data = .cell (some (.ref hk)) ∧ ol.data = .cell none ∧ ok.data = .cell none ∧ ot.data = .cell (some (.ref t))) ∧ HookC w hk q bits lit ∧
    (416 < L ∧ L + 5 < al ∧ L + 5 < nl ∧ L + 5 < q ∧ L + 5 < t ∧ L + 5 < v ∧ al ≠ nl ∧ al ≠ q ∧ nl ≠ q ∧ t ≠ al ∧ t ≠ q ∧ v ≠ al ∧ v ≠ q) ∧ ((∀ x ∈ lit, @LT.lt Nat _ (L + 5) x.1) ∧ (∀ x ∈ lit, x.1 ≠ al) ∧ (∀ x ∈ lit, x.1 ≠ q)) ∧
    m (Str.ofString "top") = some (.int size tt) ∧ m (Str.ofString "bottom") = some (.int (10 ^ p.toNat) tb) ∧ m (Str.ofString "names") = some (.ref nl) ∧ m (Str.ofString "bits") = some (.int bits ti) ∧ m (Str.ofString "form") = some (.int f tf)
theorem map5 {m : Str → Option Value} {a b c d e : Str} {x y z v r : Value} (h1 : m a = some x) (h2 : m b = some y) (h3 : m c = some z) (h4 : m d = some v) (h5 : m e = some r) :
    (fun k => if k = a then some x else if k = b then some y else if k = c then some z else if k = d then some v else if k = e then some r else m k) = m := by
  funext k
  by_cases e1 : k = a
  · rw [if_pos e1, e1, h1]
  · rw [if_neg e1]
    by_cases e2 : k = b
    · rw [if_pos e2, e2, h2]
    · rw [if_neg e2]
      by_cases e3 : k = c
      · rw [if_pos e3, e3, h3]
      · rw [if_neg e3]
        by_cases e4 : k = d
        · rw [if_pos e4, e4, h4]
        · rw [if_neg e4]
          by_cases e5 : k = e
          · rw [if_pos e5, e5, h5]
          · rw [if_neg e5]
theorem LawQ.opened {w : World} {s0 : Shared} {g : Heap} {L : Nat} {s : Shared} {G : Shared → Prop} (H : LawQ w s0 g L s)
    (k : ∀ (h : Heap) (tk : Nat) (u : Str → Option Value) (t v hk q al nl : Nat) (oa oh ol ok ot : Obj) (n1 n2 n3 : Nat) (tt tb ti tf u1 u2 u3 : Tok) (lit : List (Addr × Obj)) (bits size p f : Int), 5 ≤ bits → bits ≤ 16 → 0 ≤ size → size < 9000 → 0 ≤ p → p ≤ 4 → 0 ≤ f → f < 4 →
      Fr g L h (fun y => if y = Str.ofString "top" then some (.int size tt) else if y = Str.ofString "bottom" then some (.int (10 ^ p.toNat) tb) else if y = Str.ofString "names" then some (.ref nl) else if y = Str.ofString "bits" then some (.int bits ti) else if y = Str.ofString "form" then some (.int f tf) else u y) →
      News g L h ((L + 1, oa) :: (L + 1 + 1, oh) :: (L + 1 + 1 + 1, ol) :: (L + 1 + 1 + 1 + 1, ok) :: (L + 1 + 1 + 1 + 1 + 1, ot) :: (416, tabObj #[]) :: (al, listOf #[] n1) :: (nl, listOf #[] n2) :: (q, listOf #[] n3) :: (t, tup #[.str "decimal" u1, .ref v]) :: (v, tup #[.int size u2, .int (-p) u3]) :: lit) →
      oa.data = .cell (some (.ref al)) → oh.data = .cell (some (.ref hk)) → ol.data = .cell none → ok.data = .cell none → ot.data = .cell (some (.ref t)) → HookC w hk q bits lit →
      416 < L → L + 5 < al → L + 5 < nl → L + 5 < q → L + 5 < t → L + 5 < v → al ≠ nl → al ≠ q → nl ≠ q → t ≠ al → t ≠ q → v ≠ al → v ≠ q → (∀ x ∈ lit, @LT.lt Nat _ (L + 5) x.1) → (∀ x ∈ lit, x.1 ≠ al) → (∀ x ∈ lit, x.1 ≠ q) → G { s0 with heap := h, toks := tk }) : G s := by
  obtain ⟨h, tk, m, t, v, hk, q, al, nl, oa, oh, ol, ok, ot, n1, n2, n3, tt, tb, ti, tf, u1, u2, u3, lit, bits, size, p, f, rfl, ⟨b1, b2, b3, b4, b5, b6, b7, b8⟩, F, N, ⟨c1, c2, c3, c4, c5⟩, e1, ⟨d1, d2, d3, d4, d5, d6, d7, d8, d9, d10, d11, d12, d13⟩, ⟨f1, f2, f3⟩, m1, m2, m3, m4, m5⟩ := H
  refine k h tk m t v hk q al nl oa oh ol ok ot n1 n2 n3 tt tb ti tf u1 u2 u3 lit bits size p f b1 b2 b3 b4 b5 b6 b7 b8 ?_ N c1 c2 c3 c4 c5 e1 d1 d2 d3 d4 d5 d6 d7 d8 d9 d10 d11 d12 d13 f1 f2 f3
  rw [map5 m1 m2 m3 m4 m5]
  exact F
section
variable {w : World} {mean : ExcName → Option Value} {mg mb : Str → Option Value} {s0 : Shared} {g : Heap} {L : Nat} {m : Str → Option Value} {M : Model} {A : Around} {E : Value → Shared → Prop} {env : Env} {a1 a2 a3 a4 a5 a6 : Stmt} {rest : List Stmt} {Q : Flow → Shared → Prop}
theorem law_cut6 (xX : (hd.heap_1 w.params).In g) (xF : Fr g L s0.heap m)
    (h1 : wpAny M A (execs [a1, a2, a3, a4, a5, a6] env) (NextP (LawQ w s0 g L)) E s0) (h2 : ∀ s', LawQ w s0 g L s' → wpAny M A (execs rest env) Q E s') : wpAny M A (execs (a1 :: a2 :: a3 :: a4 :: a5 :: a6 :: rest) env) Q E s0 := split_l [a1, a2, a3, a4, a5, a6] _ h1 h2
theorem law_cut2 {s : Shared} (xT : Top topProg loose mean mg mb g) (H : LawQ w s0 g L s)
    (h1 : ∀ s1, LawQ w s0 g L s1 → wpAny M A (execs [a1, a2] env) (NextP (LawP w mean mg mb s0 g L)) E s1) (h2 : ∀ s', LawP w mean mg mb s0 g L s' → wpAny M A (execs rest env) Q E s') : wpAny M A (execs (a1 :: a2 :: rest) env) Q E s := split_l [a1, a2] _ (h1 s H) h2
/-- behind the first question -/
noncomputable def LawR (w : World) (mean : ExcName → Option Value) (mg mb : Str → Option Value) (s0 : Shared) (g : Heap) (L : Nat) (r1 r2 : Int) (s : Shared) : Prop :=
  ∃ (bits top p : Int) (b : Bool) (qs : Array Value) (c : Nat), (5 ≤ bits ∧ bits ≤ 16 ∧ 0 ≤ p ∧ p ≤ 4 ∧ -40000 < top ∧ top < 40000) ∧ Asks b #[] qs ∧ LawSt w mean mg mb s0 g L #[rawInt r1, rawInt r2, .ref c] qs bits top p b s
theorem law_cut3 {s : Shared} (r1 r2 : Int) (H : LawP w mean mg mb s0 g L s)
    (h1 : ∀ s1, LawP w mean mg mb s0 g L s1 → wpAny M A (execs [a1, a2, a3] env) (NextP (LawR w mean mg mb s0 g L r1 r2)) E s1) (h2 : ∀ s', LawR w mean mg mb s0 g L r1 r2 s' → wpAny M A (execs rest env) Q E s') : wpAny M A (execs (a1 :: a2 :: a3 :: rest) env) Q E s := split_l [a1, a2, a3] _ (h1 s H) h2
end
theorem LawQ.made {w : World} {s0 : Shared} {g h : Heap} {L t v hk q al nl dh bk : Nat} {m : Str → Option Value} {led : List (Addr × Obj)} {oa oh ol ok ot bo : Obj} {n1 n2 n3 tk : Nat} {tt tb ti tf u1 u2 u3 k1 k2 k3 k4 t2 t3 b1 b2 b3 b4 : Tok} {bits size p f bv pn : Int} {DD : List (PyData × PyData)}
    (F : Fr g L h m) (N : News g L h led) (x1 : m (Str.ofString "top") = some (.int size tt)) (x2 : m (Str.ofString "bottom") = some (.int bv tb)) (x3 : m (Str.ofString "names") = some (.ref nl)) (x4 : m (Str.ofString "bits") = some (.int bits ti)) (x5 : m (Str.ofString "form") = some (.int f tf))
    (i1 : (L + 1, oa) ∈ led) (c1 : oa.data = .cell (some (.ref al))) (i2 : (L + 1 + 1, oh) ∈ led) (c2 : oh.data = .cell (some (.ref hk))) (i3 : (L + 1 + 1 + 1, ol) ∈ led) (c3 : ol.data = .cell none) (i4 : (L + 1 + 1 + 1 + 1, ok) ∈ led) (c4 : ok.data = .cell none) (i5 : (L + 1 + 1 + 1 + 1 + 1, ot) ∈ led) (c5 : ot.data = .cell (some (.ref t)))
    (i6 : (416, tabObj #[]) ∈ led) (i7 : (al, listOf #[] n1) ∈ led) (i8 : (nl, listOf #[] n2) ∈ led) (i9 : (t, tup #[.str "decimal" u1, .ref v]) ∈ led) (i10 : (v, tup #[.int size u2, .int pn u3]) ∈ led) (i11 : (hk, instObj 389 dh) ∈ led) (i12 : (dh, hooksD w bk q bits k1 k2 k3 k4 t2 t3) ∈ led) (i13 : (q, listOf #[] n3) ∈ led) (i14 : (bk, bo) ∈ led)
    (lo : (bk == sysModules) = false) (isd : bo.IsDictOf (PySem.strKind PySem.Challenge.rw_pq0145_01.row.prog w) (strPairs [(.str "A" b1, .int 3 b2), (.str "T$" b3, .str "x" b4)])) (fl : PyProof.V.FlatPairs PyData.str (strPairs [(.str "A" b1, .int 3 b2), (.str "T$" b3, .str "x" b4)]) DD)
    (hbv : bv = 10 ^ p.toNat) (hpn : pn = -p) (hb : 5 ≤ bits ∧ bits ≤ 16 ∧ 0 ≤ size ∧ size < 9000 ∧ 0 ≤ p ∧ p ≤ 4 ∧ 0 ≤ f ∧ f < 4)
    (hd : 416 < L ∧ L + 5 < al ∧ L + 5 < nl ∧ L + 5 < q ∧ L + 5 < t ∧ L + 5 < v ∧ al ≠ nl ∧ al ≠ q ∧ nl ≠ q ∧ t ≠ al ∧ t ≠ q ∧ v ≠ al ∧ v ≠ q) (hl : L + 5 < hk ∧ L + 5 < dh ∧ L + 5 < bk ∧ hk ≠ al ∧ dh ≠ al ∧ bk ≠ al ∧ hk ≠ q ∧ dh ≠ q ∧ bk ≠ q) : LawQ w s0 g L { s0 with heap := h, toks := tk } := by
  obtain ⟨l1, l2, l3, l4, l5, l6, l7, l8, l9⟩ := hl
  subst hbv; subst hpn
  refine ⟨h, tk, m, t, v, hk, q, al, nl, oa, oh, ol, ok, ot, n1, n2, n3, tt, tb, ti, tf, u1, u2, u3, [(hk, instObj 389 dh), (dh, hooksD w bk q bits k1 k2 k3 k4 t2 t3), (bk, bo)], bits, size, p, f, rfl, hb, F, ?_, ⟨c1, c2, c3, c4, c5⟩,
    ⟨dh, bk, k1, k2, k3, k4, t2, t3, bo, b1, b2, b3, b4, DD, .head _, .tail _ (.head _), .tail _ (.tail _ (.head _)), lo, isd, fl⟩, hd, ⟨?_, ?_, ?_⟩, x1, x2, x3, x4, x5⟩
  · exact news_sub N (sub_cons i1 (sub_cons i2 (sub_cons i3 (sub_cons i4 (sub_cons i5 (sub_cons i6 (sub_cons i7 (sub_cons i8 (sub_cons i13 (sub_cons i9 (sub_cons i10 (sub_cons i11 (sub_cons i12 (sub_cons i14 sub_nil))))))))))))))
  · exact List.forall_mem_cons.mpr ⟨l1, List.forall_mem_cons.mpr ⟨l2, List.forall_mem_cons.mpr ⟨l3, List.forall_mem_nil _⟩⟩⟩
  · exact List.forall_mem_cons.mpr ⟨l4, List.forall_mem_cons.mpr ⟨l5, List.forall_mem_cons.mpr ⟨l6, List.forall_mem_nil _⟩⟩⟩
  · exact List.forall_mem_cons.mpr ⟨l7, List.forall_mem_cons.mpr ⟨l8, List.forall_mem_cons.mpr ⟨l9, List.forall_mem_nil _⟩⟩⟩
theorem pow_le4 {p : Int} (h0 : 0 ≤ p) (h4 : p ≤ 4) : 1 ≤ (10 : Int) ^ p.toNat ∧ (10 : Int) ^ p.toNat ≤ 10000 := by
  have : p = 0 ∨ p = 1 ∨ p = 2 ∨ p = 3 ∨ p = 4 := by omega
  rcases this with rfl | rfl | rfl | rfl | rfl <;> decide
section
variable {w : World} {mean : ExcName → Option Value} {mg mb : Str → Option Value} {s0 : Shared} {g h : Heap} {L t t' v hk q al nl : Nat} {m : Str → Option Value} {led lit ex : List (Addr × Obj)} {oa oh ol ok ot : Obj} {n1 n2 n3 tk : Nat} {tt tb ti u1 u2 u3 : Tok} {bits size top p : Int} {b : Bool} {nv : Array Value}
theorem LawP.made (F : Fr g L h m) (N : News g L h led) (x1 : m (Str.ofString "top") = some (.int top tt)) (x2 : m (Str.ofString "bottom") = some (.int (10 ^ p.toNat) tb)) (x3 : m (Str.ofString "names") = some (.ref nl)) (x4 : m (Str.ofString "bits") = some (.int bits ti))
    (i1 : (L + 1, oa) ∈ led) (c1 : oa.data = .cell (some (.ref al))) (i2 : (L + 1 + 1, oh) ∈ led) (c2 : oh.data = .cell (some (.ref hk))) (i3 : (L + 1 + 1 + 1, ol) ∈ led) (c3 : ol.data = .cell none) (i4 : (L + 1 + 1 + 1 + 1, ok) ∈ led) (c4 : ok.data = .cell none) (i5 : (L + 1 + 1 + 1 + 1 + 1, ot) ∈ led) (c5 : ot.data = .cell (some (.ref t')))
    (i6 : (416, tabObj #[]) ∈ led) (i7 : (al, listOf #[] n1) ∈ led) (i8 : (nl, listOf nv n2) ∈ led) (i9 : (q, listOf #[] n3) ∈ led) (i10 : (t, tup #[.str "decimal" u1, .ref v]) ∈ led) (i11 : (v, tup #[.int size u2, .int (-p) u3]) ∈ led) (hl : ∀ x ∈ lit, x ∈ led)
    (e1 : HookC w hk q bits lit) (TE : TreeEv w mean mg mb t' hk q (ex ++ (t, tup #[.str "decimal" u1, .ref v]) :: (v, tup #[.int size u2, .int (-p) u3]) :: lit) top p b 3) (hex : ∀ x ∈ ex, x ∈ led) (hx1 : ∀ x ∈ ex, @LT.lt Nat _ (L + 5) x.1) (hx2 : ∀ x ∈ ex, x.1 ≠ al) (hx3 : ∀ x ∈ ex, x.1 ≠ q) (hA : Asks b #[] nv)
    (hb : 5 ≤ bits ∧ bits ≤ 16 ∧ 0 ≤ p ∧ p ≤ 4 ∧ -40000 < top ∧ top < 40000) (d : 416 < L ∧ L + 5 < al ∧ L + 5 < nl ∧ L + 5 < q ∧ al ≠ nl ∧ al ≠ q ∧ nl ≠ q) (dt : L + 5 < t ∧ L + 5 < v ∧ t ≠ al ∧ t ≠ q ∧ v ≠ al ∧ v ≠ q)
    (f1 : ∀ x ∈ lit, @LT.lt Nat _ (L + 5) x.1) (f2 : ∀ x ∈ lit, x.1 ≠ al) (f3 : ∀ x ∈ lit, x.1 ≠ q) : LawP w mean mg mb s0 g L { s0 with heap := h, toks := tk } := by
  obtain ⟨g1, g2, g3, g4, g5, g6⟩ := dt
  refine ⟨bits, top, p, b, hb, h, tk, m, t', hk, q, al, nl, oa, oh, ol, ok, ot, n1, n2, n3, nv, tt, tb, ti, ex ++ (t, tup #[.str "decimal" u1, .ref v]) :: (v, tup #[.int size u2, .int (-p) u3]) :: lit, rfl, F, ?_, ⟨c1, c2, c3, c4, c5⟩, ⟨e1.mono fun x hx => List.mem_append.mpr (.inr (.tail _ (.tail _ hx))), TE, hA⟩, d, ⟨?_, ?_, ?_⟩, x1, x2, x3, x4⟩
  · refine news_sub N (sub_cons i1 (sub_cons i2 (sub_cons i3 (sub_cons i4 (sub_cons i5 (sub_cons i6 (sub_cons i7 (sub_cons i8 (sub_cons i9 fun x hx => ?_)))))))))
    rcases List.mem_append.mp hx with hx | hx
    · exact hex x hx
    · exact sub_cons i10 (sub_cons i11 hl) x hx
  · intro x hx
    rcases List.mem_append.mp hx with hx | hx
    · exact hx1 x hx
    · rcases List.mem_cons.mp hx with rfl | hx
      · exact g1
      · rcases List.mem_cons.mp hx with rfl | hx
        · exact g2
        · exact f1 x hx
  · intro x hx
    rcases List.mem_append.mp hx with hx | hx
    · exact hx2 x hx
    · rcases List.mem_cons.mp hx with rfl | hx
      · exact g3
      · rcases List.mem_cons.mp hx with rfl | hx
        · exact g5
        · exact f2 x hx
  · intro x hx
    rcases List.mem_append.mp hx with hx | hx
    · exact hx3 x hx
    · rcases List.mem_cons.mp hx with rfl | hx
      · exact g4
      · rcases List.mem_cons.mp hx with rfl | hx
        · exact g6
        · exact f3 x hx
end
section
variable {w : World} {mean : ExcName → Option Value} {mg mb : Str → Option Value} {t t1 t0 nA v hk q : Addr} {u1 u2 u3 u4 u5 u6 u7 u8 : Tok} {bits size p : Int} {lit : List (Addr × Obj)}
theorem te0 (H : HookC w hk q bits lit) (hs0 : 0 ≤ size) (hs9 : size < 9000) (hp0 : 0 ≤ p) (hp4 : p ≤ 4) : TreeEv w mean mg mb t hk q ([] ++ (t, tup #[.str "decimal" u1, .ref v]) :: (v, tup #[.int size u2, .int (-p) u3]) :: lit) size p false 3 :=
  ev_dec (H.mono fun x hx => .tail _ (.tail _ hx)) (.head _) (.tail _ (.head _)) hs0 hs9 hp0 hp4
theorem te1 (H : HookC w hk q bits lit) (hs0 : 0 ≤ size) (hs9 : size < 9000) (hp0 : 0 ≤ p) (hp4 : p ≤ 4) : TreeEv w mean mg mb t1 hk q ([(t1, tup #[.str "neg" u4, .ref t])] ++ (t, tup #[.str "decimal" u1, .ref v]) :: (v, tup #[.int size u2, .int (-p) u3]) :: lit) (0 - size) p false 3 :=
  ev_neg (H.mono fun x hx => .tail _ (.tail _ (.tail _ hx))) (.head _) (ev_dec (H.mono fun x hx => .tail _ (.tail _ (.tail _ hx))) (.tail _ (.head _)) (.tail _ (.tail _ (.head _))) hs0 hs9 hp0 hp4)
theorem te2 (H : HookC w hk q bits lit) (hs0 : 0 ≤ size) (hs9 : size < 9000) (hp0 : 0 ≤ p) (hp4 : p ≤ 4) : TreeEv w mean mg mb t1 hk q ([(t1, tup #[.str "two" u4, .str "+" u5, .ref t, .ref nA]), (nA, tup #[.str "name" u6, .str "A" u7])] ++ (t, tup #[.str "decimal" u1, .ref v]) :: (v, tup #[.int size u2, .int (-p) u3]) :: lit) (size + 3 * 10 ^ p.toNat) p true 3 :=
  ev_two (H.mono fun x hx => .tail _ (.tail _ (.tail _ (.tail _ hx)))) (.head _) (.tail _ (.head _)) hp0 hp4 (by omega) (by omega) (ev_dec (H.mono fun x hx => .tail _ (.tail _ (.tail _ (.tail _ hx)))) (.tail _ (.tail _ (.head _))) (.tail _ (.tail _ (.tail _ (.head _)))) hs0 hs9 hp0 hp4)
theorem te3 (H : HookC w hk q bits lit) (hs0 : 0 ≤ size) (hs9 : size < 9000) (hp0 : 0 ≤ p) (hp4 : p ≤ 4) : TreeEv w mean mg mb t0 hk q ([(t0, tup #[.str "two" u4, .str "+" u5, .ref t1, .ref nA]), (nA, tup #[.str "name" u6, .str "A" u7]), (t1, tup #[.str "neg" u8, .ref t])] ++ (t, tup #[.str "decimal" u1, .ref v]) :: (v, tup #[.int size u2, .int (-p) u3]) :: lit) (0 - size + 3 * 10 ^ p.toNat) p true 3 :=
  ev_two (H.mono fun x hx => .tail _ (.tail _ (.tail _ (.tail _ (.tail _ hx))))) (.head _) (.tail _ (.head _)) hp0 hp4 (by omega) (by omega) (ev_neg (H.mono fun x hx => .tail _ (.tail _ (.tail _ (.tail _ (.tail _ hx))))) (.tail _ (.tail _ (.head _))) (ev_dec (H.mono fun x hx => .tail _ (.tail _ (.tail _ (.tail _ (.tail _ hx))))) (.tail _ (.tail _ (.tail _ (.head _)))) (.tail _ (.tail _ (.tail _ (.tail _ (.head _))))) hs0 hs9 hp0 hp4))
end
theorem next_call (w : World) (mean : ExcName → Option Value) (mg mb : Str → Option Value) : ∀ (dp un : Nat) (gd : Option (List Code)) (cn : Str) (cs : Scope) (a : Addr) (ccd : Value) (cl : List (Str × Addr)) (outer : List Env) (A₀ : Around) (base h₀ : Heap) (L : Addr) (m : Str → Option Value) (s : Shared) (Q E : Value → Shared → Prop) (n p : Int) (u1 u2 : Tok) (news : List (Addr × Obj)),
    Below A₀ base outer h₀ → Fr h₀ L s.heap m → (hd.heap_1 w.params).In h₀ → News h₀ L s.heap news → Top topProg loose mean mg mb h₀ → cs.kind = .function → (-1000000 < n ∧ n < 1000000 ∧ 0 < p ∧ p ≤ 10000) → dp < recursionLimit → un < cLine →
    (∀ t9 h9 tk9, Fr h₀ L h9 m → News h₀ L h9 news → Q (.int (nxt n p) t9) { s with heap := h9, toks := tk9 }) →
    wpAny (model PySem.Challenge.rw_pq0145_01.row.prog w) (ktrTop dp un gd cn cs L a ccd cl outer) (call (.ref 407) [.int n u1, .int p u2]) Q E s := by
  intro dp un gd cn cs a ccd cl outer A₀ base h₀ L m s Q E n p u1 u2 news B F X N T hk hb hd hu hret
  refine tellsN_use B F X N T hk (Int2.mk n p u1 u2) (nextT_tells w mean mg mb _) hb hd hu ?_
  intro r tl h' tk' F' N' ho ht hl
  obtain rfl := ht
  obtain ⟨t9, rfl⟩ := hl
  exact hret _ _ _ F' (fun x hx => N' x (by rw [List.append_nil]; exact hx))
end
section
open PySem PySem.W PyProof.Rows
set_option maxRecDepth 100000
set_option maxHeartbeats 4000000
section
variable {w : World} {mean : ExcName → Option Value} {mg mb : Str → Option Value}
theorem TreeEv.mono {t hk q : Addr} {lit lit' : List (Addr × Obj)} {top p : Int} {b : Bool} {n : Nat} (H : TreeEv w mean mg mb t hk q lit top p b n) (hs : ∀ x ∈ lit, x ∈ lit') : TreeEv w mean mg mb t hk q lit' top p b n := by
  intro dp un gd cn cs a ccd cl outer A₀ base g L s0 E l2 Post R C T W vs nq rest pr s' hz St hW hpr hl k
  exact H dp un gd cn cs a ccd cl outer A₀ base g L s0 E l2 Post R C T W vs nq rest pr s' hz St hW hpr (fun x hx => hl x (hs x hx)) k
theorem CallC.sub {n : Nat} {f : Value} {args : List Value} {lit lit' : List (Addr × Obj)} {PQ : Value → List (Addr × Obj) → Prop} {PE : Str → List (Addr × Obj) → Prop} (H : CallC w mean mg mb n f args lit PQ PE) (hs : ∀ x ∈ lit, x ∈ lit') : CallC w mean mg mb n f args lit' PQ PE := by
  intro dp un gd cn cs a ccd cl outer A₀ base h₀ L m s Q E B F X N T hk hd hu hQ hE
  exact H dp un gd cn cs a ccd cl outer A₀ base h₀ L m s Q E B F X (news_sub N hs) T hk hd hu hQ hE
/-- a ledger but for one address -/
noncomputable abbrev but (q : Nat) (led : List (Addr × Obj)) : List (Addr × Obj) := led.filter fun x => !(Nat.beq x.1 q)
theorem but_ne {q : Nat} {led : List (Addr × Obj)} : ∀ x ∈ but q led, x.1 ≠ q := fun x hx e => by
  have := (List.mem_filter.mp hx).2
  rw [e, Nat.beq_refl] at this
  cases this
theorem Nat_beq_no {a b : Nat} (h : a ≠ b) : Nat.beq a b = false := by
  cases e : Nat.beq a b with
  | false => rfl
  | true => exact absurd (Nat.eq_of_beq_eq_true e) h
theorem but_mem {q : Nat} {led : List (Addr × Obj)} {x : Addr × Obj} (h : x ∈ led) (hx : x.1 ≠ q) : x ∈ but q led := List.mem_filter.mpr ⟨h, by rw [Nat_beq_no hx]; rfl⟩
theorem but_mem1 {q : Nat} {o : Obj} {led : List (Addr × Obj)} {x : Addr × Obj} (h : x ∈ led) (hx : x.1 ≠ q) : x ∈ (q, o) :: but q led := .tail _ (but_mem h hx)
section
variable {t hk q : Addr} {bits : Int} {lit led : List (Addr × Obj)} {vs : Array Value} {nq : Nat} {top p : Int} {b : Bool}
theorem led_sub (hq : (q, listOf vs nq) ∈ led) : ∀ x ∈ (q, listOf vs nq) :: but q led, x ∈ led := sub_cons hq fun x hx => (List.mem_filter.mp hx).1
theorem ww_led (hq : (q, listOf vs nq) ∈ led) (hl : ∀ x ∈ lit, x ∈ led) (nl : ∀ x ∈ lit, x.1 ≠ q) (hTE : TreeEv w mean mg mb t hk q lit top p b 3) (hH : HookC w hk q bits lit) (b1 : -40000 < top) (b2 : top < 40000) (hp0 : 0 ≤ p) (hp4 : p ≤ 4) (h5 : 5 ≤ bits) (h16 : bits ≤ 16) (hz : vs.size + 9 ≤ sizeLine) :
    CallC w mean mg mb 100 (.ref 337) [.ref t, .ref hk, .ref 86] led (fun r l9 => ∃ n t9 vs' nq', r = .int n t9 ∧ Wh top p n ∧ fit n bits = true ∧ Asks b vs vs' ∧ l9 = (q, listOf vs' nq') :: but q led) (fun x l9 => x = Str.ofString "OV" ∧ ∃ n vs' nq', Wh top p n ∧ fit n bits = false ∧ Asks b vs vs' ∧ l9 = (q, listOf vs' nq') :: but q led) :=
  (ww_tree (lit := but q led) (hTE.mono fun x hx => but_mem (hl x hx) (nl x hx)) b1 b2 hp0 hp4 h5 h16 (hH.mono fun x hx => but_mem (hl x hx) (nl x hx)) but_ne hz).sub (led_sub hq)
end
theorem heard2 {f : Addr} {args : List Value} {led : List (Addr × Obj)} {PQ : Value → List (Addr × Obj) → Prop} {PE : Str → List (Addr × Obj) → Prop} {dp un : Nat} {gd : Option (List Code)} {cn : Str} {cs : Scope} {a : Addr} {ccd : Value} {cl : List (Str × Addr)} {A₀ : Around} {base h₀ : Heap} {L : Addr} {m : Str → Option Value} {s : Shared} {Q E : Value → Shared → Prop}
    (B : Below A₀ base [] h₀) (F : Fr h₀ L s.heap m) (X : (hd.heap_1 w.params).In h₀) (N : News h₀ L s.heap led) (T : Top topProg loose mean mg mb h₀) (k : cs.kind = .function) (XB : (hd.heap_1 w.params).In base) (TB : Top topProg loose mean mg mb base) (d : dp + 200 < recursionLimit) (u : un + 1600 < cLine)
    (hf : ∀ h, (hd.heap_1 w.params).In h → (∀ p ∈ led, h.get? p.1 = some p.2) → FnAt f h) (hlam : CallC w mean mg mb 100 (.ref 337) args led PQ PE → CallC w mean mg mb 150 (.ref f) [] led PQ PE) (hw : CallC w mean mg mb 100 (.ref 337) args led PQ PE)
    (hret : ∀ v h9 tk9 led9, Fr h₀ L h9 m → News h₀ L h9 led9 → (PQ v led9 ∨ ∃ c tkc, v = .str c tkc ∧ PE c led9) → Q v { s with heap := h9, toks := tk9 }) : wpAny (model PySem.Challenge.rw_pq0145_01.row.prog w) (ktrTop dp un gd cn cs L a ccd cl []) (call (.ref 414) [.ref f]) Q E s :=
  heard hf (hlam hw) dp un gd cn cs a ccd cl A₀ base h₀ L m s Q E B F X N T k XB TB d u hret
end
theorem fit_yes {n bits : Int} (h : fit n bits = true) : 0 - 2 ^ (bits - 1).toNat ≤ n ∧ n < 2 ^ (bits - 1).toNat := by
  unfold fit at h
  have := of_decide_eq_true h
  omega
theorem fit_no {n bits : Int} (h : fit n bits = false) : ¬ (0 - 2 ^ (bits - 1).toNat ≤ n ∧ n < 2 ^ (bits - 1).toNat) := by
  unfold fit at h
  have := of_decide_eq_false h
  omega
section
variable {w : World} {mean : ExcName → Option Value} {mg mb : Str → Option Value} {s0 : Shared} {g h : Heap} {L t hk q al nl c : Nat} {m : Str → Option Value} {led lit : List (Addr × Obj)} {oa oh ol ok ot : Obj} {n1 n2 n4 tk : Nat} {tt tb ti : Tok} {bits top p r1 r2 : Int} {b : Bool} {nv vs T : Array Value}
theorem LawR.made (F : Fr g L h m) (N : News g L h ((q, listOf vs n4) :: but q led)) (x1 : m (Str.ofString "top") = some (.int top tt)) (x2 : m (Str.ofString "bottom") = some (.int (10 ^ p.toNat) tb)) (x3 : m (Str.ofString "names") = some (.ref nl)) (x4 : m (Str.ofString "bits") = some (.int bits ti))
    (i1 : (L + 1, oa) ∈ led) (i2 : (L + 1 + 1, oh) ∈ led) (i3 : (L + 1 + 1 + 1, ol) ∈ led) (i4 : (L + 1 + 1 + 1 + 1, ok) ∈ led) (i5 : (L + 1 + 1 + 1 + 1 + 1, ot) ∈ led) (i6 : (416, tabObj T) ∈ led) (hT : T = #[rawInt r1, rawInt r2, .ref c]) (i7 : (al, listOf #[] n1) ∈ led) (i8 : (nl, listOf nv n2) ∈ led) (hl : ∀ x ∈ lit, x ∈ led)
    (c1 : oa.data = .cell (some (.ref al))) (c2 : oh.data = .cell (some (.ref hk))) (c3 : ol.data = .cell none) (c4 : ok.data = .cell none) (c5 : ot.data = .cell (some (.ref t))) (e1 : HookC w hk q bits lit) (e2 : TreeEv w mean mg mb t hk q lit top p b 3) (e3 : Asks b #[] nv) (hA : Asks b #[] vs)
    (hb : 5 ≤ bits ∧ bits ≤ 16 ∧ 0 ≤ p ∧ p ≤ 4 ∧ -40000 < top ∧ top < 40000) (d : 416 < L ∧ L + 5 < al ∧ L + 5 < nl ∧ L + 5 < q ∧ al ≠ nl ∧ al ≠ q ∧ nl ≠ q) (f1 : ∀ x ∈ lit, @LT.lt Nat _ (L + 5) x.1) (f2 : ∀ x ∈ lit, x.1 ≠ al) (f3 : ∀ x ∈ lit, x.1 ≠ q) : LawR w mean mg mb s0 g L r1 r2 { s0 with heap := h, toks := tk } := by
  subst hT
  have d' := d
  obtain ⟨d1, d2, d3, d4, d5, d6, d7⟩ := d
  refine ⟨bits, top, p, b, vs, c, hb, hA, h, tk, m, t, hk, q, al, nl, oa, oh, ol, ok, ot, n1, n2, n4, nv, tt, tb, ti, lit, rfl, F, ?_, ⟨c1, c2, c3, c4, c5⟩, ⟨e1, e2, e3⟩, d', ⟨f1, f2, f3⟩, x1, x2, x3, x4⟩
  exact news_sub N (sub_cons (but_mem1 i1 (neN (by dsimp only; omega))) (sub_cons (but_mem1 i2 (neN (by dsimp only; omega))) (sub_cons (but_mem1 i3 (neN (by dsimp only; omega))) (sub_cons (but_mem1 i4 (neN (by dsimp only; omega))) (sub_cons (but_mem1 i5 (neN (by dsimp only; omega))) (sub_cons (but_mem1 i6 (neN (by dsimp only; omega))) (sub_cons (but_mem1 i7 d6) (sub_cons (but_mem1 i8 d7) (sub_cons (.head _) fun x hx => but_mem1 (hl x hx) (f3 x hx))))))))))
end
end
section
open PySem PySem.W PyProof.Rows
set_option maxRecDepth 100000
set_option maxHeartbeats 8000000
theorem nxt_scale {c u d : Int} (hu : 0 < u) (hd : 0 < d) : nxt (c * d) (u * d) = nxt c u := by
  unfold nxt
  have e : (c * d).fdiv (u * d) = c.fdiv u := by
    rw [Int.fdiv_eq_ediv_of_nonneg _ (Int.le_of_lt (Int.mul_pos hu hd)), Int.fdiv_eq_ediv_of_nonneg _ (Int.le_of_lt hu)]
    exact Int.mul_ediv_mul_of_pos_left _ _ hd
  rw [e]
  have e2 : 2 * (c * d - c.fdiv u * (u * d)) = 2 * (c - c.fdiv u * u) * d := by
    rw [← Int.mul_assoc (c.fdiv u), ← Int.sub_mul, Int.mul_assoc]
  rw [e2]
  have e3 : u * d < 2 * (c - c.fdiv u * u) * d ↔ u < 2 * (c - c.fdiv u * u) := ⟨fun h => Int.lt_of_mul_lt_mul_right h (Int.le_of_lt hd), fun h => Int.mul_lt_mul_of_pos_right h hd⟩
  have e4 : 2 * (c - c.fdiv u * u) * d = u * d ↔ 2 * (c - c.fdiv u * u) = u := ⟨fun h => Int.eq_of_mul_eq_mul_right (Int.ne_of_gt hd) h, fun h => by rw [h]⟩
  simp only [e3, e4]
theorem nxt_mul {n b : Int} (hb : 0 < b) : nxt (n * b) b = n := by
  unfold nxt
  have e : (n * b).fdiv b = n := by
    rw [Int.fdiv_eq_ediv_of_nonneg _ (Int.le_of_lt hb)]
    exact Int.mul_ediv_cancel _ (Int.ne_of_gt hb)
  rw [e, Int.sub_self, Int.mul_zero]
  rw [if_neg (by omega)]
noncomputable def hr (n u : Int) : Int := if 2 * (n % u) > u ∨ (2 * (n % u) = u ∧ n / u % 2 = 1) then n / u + 1 else n / u
theorem figs_small {n k : Int} (h : figs n + 1 < k) (hk4 : k ≤ 4) : (k = 3 ∨ k = 4) ∧ (k = 3 → n < 10) ∧ n < 100 := by
  unfold figs at h
  by_cases h1 : n < 10
  · rw [if_pos h1] at h; omega
  · rw [if_neg h1] at h
    by_cases h2 : n < 100
    · rw [if_pos h2] at h; omega
    · rw [if_neg h2] at h
      exfalso
      have : (3 : Int) ≤ (if n < 1000 then 3 else if n < 10000 then 4 else if n < 100000 then 5 else if n < 1000000 then 6 else if n < 10000000 then 7 else if n < 100000000 then 8 else 9) := by (repeat' split) <;> decide
      omega
theorem rnd_hr {n k : Int} (hk : 1 ≤ k) (hk4 : k ≤ 4) (hn : 0 ≤ n) : rnd n k = hr n (10 ^ k.toNat) := by
  unfold rnd
  rw [if_neg (by omega)]
  by_cases h : k > figs n + 1
  · rw [if_pos h]
    obtain ⟨h3, h4, h5⟩ := figs_small h hk4
    unfold hr
    rcases h3 with rfl | rfl
    · rw [show (10 : Int) ^ (3 : Int).toNat = 1000 from rfl, if_neg (by omega)]; omega
    · rw [show (10 : Int) ^ (4 : Int).toNat = 10000 from rfl, if_neg (by omega)]; omega
  · rw [if_neg h]; rfl
theorem fdv {c u : Int} (hu : 0 < u) : c.fdiv u = c / u := Int.fdiv_eq_ediv_of_nonneg _ (Int.le_of_lt hu)
theorem fmd {c : Int} : c.fmod 2 = c % 2 := Int.fmod_eq_emod_of_nonneg _ (by decide)
theorem hr_pos {n u : Int} (hu : 0 < u) : hr n u = nxt n u := by
  unfold hr nxt
  rw [fdv hu, fmd]
  have e : n - n / u * u = n % u := by rw [Int.emod_def, Int.mul_comm]
  rw [e]
  have e2 : n / u % 2 = 1 ↔ n / u % 2 ≠ 0 := by omega
  simp only [gt_iff_lt, e2]
theorem hr_neg {n u : Int} (hu : u = 10 ∨ u = 100 ∨ u = 1000 ∨ u = 10000) : -(hr n u) = nxt (-n) u := by
  have hu0 : 0 < u := by omega
  unfold hr nxt
  rw [fdv hu0, fmd]
  rcases hu with rfl | rfl | rfl | rfl
  all_goals (split <;> split <;> omega)
theorem rnd_nxt {c k : Int} (hk : 1 ≤ k) (hk4 : k ≤ 4) (xc : -1000000 < c) (xd : c < 1000000) : (if c < 0 then -(rnd (if c < 0 then -c else c) k) else rnd (if c < 0 then -c else c) k) = nxt c (10 ^ k.toNat) := by
  have hu : (10 : Int) ^ k.toNat = 10 ∨ (10 : Int) ^ k.toNat = 100 ∨ (10 : Int) ^ k.toNat = 1000 ∨ (10 : Int) ^ k.toNat = 10000 := by
    have : k = 1 ∨ k = 2 ∨ k = 3 ∨ k = 4 := by omega
    rcases this with rfl | rfl | rfl | rfl
    · exact .inl rfl
    · exact .inr (.inl rfl)
    · exact .inr (.inr (.inl rfl))
    · exact .inr (.inr (.inr rfl))
  by_cases h : c < 0
  · rw [if_pos h, if_pos h, rnd_hr hk hk4 (by omega), hr_neg hu, Int.neg_neg]
  · rw [if_neg h, if_neg h, rnd_hr hk hk4 (by omega), hr_pos (by omega)]
theorem wh_next {top p n : Int} (h : Wh top p n) (hl : -40000 < top) (hh : top < 40000) (hp0 : 0 ≤ p) (hp4 : p ≤ 4) : n = nxt top (10 ^ p.toNat) := by
  obtain ⟨c, e, hM, rfl⟩ := h
  obtain ⟨b1, b2, b3, b4⟩ := mk_near_bounds hM hl hh hp0 hp4
  have hpos : (0 : Int) < 10 ^ p.toNat := Int.pow_pos (by decide)
  rcases hM with ⟨rfl, rfl, rfl⟩ | ⟨hc, he, hM⟩
  · have := nxt_mul (n := 0) hpos
    rw [Int.zero_mul] at this
    rw [this]; rfl
  · by_cases h0 : 0 ≤ e
    · unfold near
      rw [if_pos h0]
      have e1 : (e - -p).toNat = e.toNat + p.toNat := by omega
      rw [e1, Int.pow_add, ← Int.mul_assoc] at hM
      rw [← hM, nxt_mul hpos]
    · unfold near
      rw [if_neg h0, rnd_nxt (by omega) (by omega) b1 b2]
      have e1 : p.toNat = (-e).toNat + (e - -p).toNat := by omega
      have hq : (0 : Int) < 10 ^ (e - -p).toNat := Int.pow_pos (by decide)
      have hu : (0 : Int) < 10 ^ (-e).toNat := Int.pow_pos (by decide)
      rw [← hM, e1, Int.pow_add, nxt_scale hu hq]
theorem mk_eq {top p c e : Int} (h : Mk top (-p) c e) (hp0 : 0 ≤ p) : c * 10 ^ (if e < 0 then 0 else e).toNat * 10 ^ p.toNat = top * 10 ^ (if 0 - e < 0 then 0 else 0 - e).toNat := by
  rcases h with ⟨rfl, rfl, rfl⟩ | ⟨hc, he, hM⟩
  · simp
  · by_cases h0 : 0 ≤ e
    · rw [if_neg (by omega)]
      have e1 : (e - -p).toNat = e.toNat + p.toNat := by omega
      have e2 : (if 0 - e < 0 then 0 else 0 - e).toNat = 0 := by split <;> omega
      rw [e1, Int.pow_add, ← Int.mul_assoc] at hM
      rw [e2, hM]; simp
    · rw [if_pos (by omega), if_neg (by omega)]
      have e1 : p.toNat = (e - -p).toNat + (0 - e).toNat := by omega
      rw [e1, Int.pow_add, ← Int.mul_assoc, ← hM]
      simp
end
section
open PySem PySem.W PyProof.Rows
set_option maxRecDepth 100000
set_option maxHeartbeats 4000000
theorem ne_asks {prog : Program} {w : World} {A : Around} {E : Value → Shared → Prop} {s : Shared} {h₀ : Heap} {L q nl : Addr} {news : List (Addr × Obj)} {qs nv : Array Value} {n n2 : Nat} {b : Bool} {Q : Value → Shared → Prop} (N : News h₀ L s.heap news) (h1 : (q, listOf qs n) ∈ news) (h2 : (nl, listOf nv n2) ∈ news) (a1 : Asks b #[] qs) (a2 : Asks b #[] nv) (hu : A.units + 64 < cLine)
    (h : Q (.bool false) s) : wpAny (model prog w) A (compareOp .NotEq (.ref q) (.ref nl)) Q E s := by
  cases b with
  | false =>
    obtain rfl : qs = #[] := a1
    obtain rfl : nv = #[] := a2
    exact ne_dataH (reads_list_at (N _ h1).1 rfl rfl .nil) (reads_list_at (N _ h2).1 rfl rfl .nil) (by decide) (by decide) hu h
  | true =>
    obtain ⟨t1, rfl⟩ : ∃ t, qs = #[].push (.str "A" t) := a1
    obtain ⟨t2, rfl⟩ : ∃ t, nv = #[].push (.str "A" t) := a2
    refine ne_dataH (reads_list_at (N _ h1).1 rfl rfl (.cons (Reads.str _ _) .nil)) (reads_list_at (N _ h2).1 rfl rfl (.cons (Reads.str _ _) .nil)) (by decide +kernel) (by decide +kernel) hu ?_
    have e : (!PyData.eqv (PyData.list [PyData.str (Str.ofString "A")]) (PyData.list [PyData.str (Str.ofString "A")])) = false := by decide +kernel
    exact e ▸ h
theorem but_upd {g h : Heap} {L q : Addr} {o o' : Obj} {led led' : List (Addr × Obj)} (U : Upd q o o' led led') (N : News g L h ((q, o') :: but q led)) : News g L h led' := by
  obtain ⟨pre, post, rfl, rfl, a, b⟩ := U.split
  intro x hx
  rcases List.mem_append.mp hx with hx | hx
  · exact N x (but_mem1 (List.mem_append.mpr (.inl hx)) (a x hx))
  · rcases List.mem_cons.mp hx with rfl | hx
    · exact N _ (.head _)
    · exact N x (but_mem1 (List.mem_append.mpr (.inr (.tail _ hx))) (b x hx))
theorem news_put {g h : Heap} {L : Addr} {y : Addr × Obj} {l l2 : List (Addr × Obj)} (N : News g L h (y :: l)) (N2 : News g L h l2) : News g L h (y :: l2) := fun x hx => by
  rcases List.mem_cons.mp hx with rfl | hx
  · exact N _ (.head _)
  · exact N2 x hx
/-- what the taking down leaves behind -/
noncomputable def ToldP (al q : Addr) (top p bits : Int) (k : Nat) (led : List (Addr × Obj)) (r : Value) (l9 : List (Addr × Obj)) : Prop :=
  ∃ (tk t9 u9 u : Tok) (a9 pr : Addr) (c9 e9 : Int) (vs' : Array Value) (nq' n' : Nat), r = .str "told" tk ∧ Mk top (-p) c9 e9 ∧ vs'.size ≤ k + 1 ∧ (al, listOf #[.ref pr] n') ∈ l9 ∧ (pr, tup #[.ref a9, .int bits u]) ∈ l9 ∧ (a9, tup #[.int c9 t9, .int e9 u9]) ∈ l9 ∧ (q, listOf vs' nq') ∈ l9 ∧ ∀ x ∈ led, x.1 ≠ q → x.1 ≠ al → x ∈ l9
theorem ww_told (al : Addr) {w : World} {mean : ExcName → Option Value} {mg mb : Str → Option Value} {t hk q f : Addr} {bits : Int} {lit led : List (Addr × Obj)} {vs : Array Value} {nq : Nat} {top p : Int} {b : Bool} {oc : Value} {od : Option Addr} {fd : FuncData} {sl : Array (Option Value)} (hq : (q, listOf vs nq) ∈ led) (hl : ∀ x ∈ lit, x ∈ led) (nl : ∀ x ∈ lit, x.1 ≠ q) (hTE : TreeEv w mean mg mb t hk q lit top p b 3) (hH : HookC w hk q bits lit) (hf : (f, (⟨oc, od, .func fd, sl⟩ : Obj)) ∈ led) (hfq : f ≠ q) (hz : vs.size + 9 ≤ sizeLine)
    (hmade : ∀ (a9 : Addr) (c9 e9 : Int) (t9 u9 u : Tok) (vs' : Array Value) (nq' : Nat), Mk top (-p) c9 e9 → Asks b vs vs' → (∀ r ∈ but q led, r.1 ≠ a9) → CallC w mean mg mb 50 (.ref f) [.ref a9, .int bits u] ((a9, tup #[.int c9 t9, .int e9 u9]) :: (q, listOf vs' nq') :: but q led)  (ToldP al q top p bits vs.size led) (fun _ _ => False)) :
    CallC w mean mg mb 100 (.ref 337) [.ref t, .ref hk, .ref f] led  (ToldP al q top p bits vs.size led) (fun _ _ => False) :=
  (ww_any (lit := but q led) (hH.mono fun x hx => but_mem (hl x hx) (nl x hx)) but_ne hz (fun _ _ hp => ⟨oc, od, fd, sl, hp _ (but_mem hf hfq)⟩) (hTE.mono fun x hx => but_mem (hl x hx) (nl x hx)) hmade).sub (led_sub hq)
section
variable {w : World} {mean : ExcName → Option Value} {mg mb : Str → Option Value} {t hk q f : Addr} {bits : Int} {lit led : List (Addr × Obj)} {vs : Array Value} {nq : Nat} {top p : Int} {b : Bool}
theorem text_led {u1 u2 : Tok} (hq : (q, listOf vs nq) ∈ led) (hl : ∀ x ∈ lit, x ∈ led) (nl : ∀ x ∈ lit, x.1 ≠ q) (hH : HookC w hk q bits lit) (hT : (t, tup #[.str "name" u1, .str "T$" u2]) ∈ led) (htq : t ≠ q) (hz : vs.size + 9 ≤ sizeLine) :
    CallC w mean mg mb 100 (.ref 337) [.ref t, .ref hk, .ref 86] led (fun _ _ => False) (fun c l9 => c = Str.ofString "TM" ∧ ∃ vs' nq', vs'.size = vs.size + 1 ∧ l9 = (q, listOf vs' nq') :: but q led) :=
  (ww_text (lit := but q led) (hH.mono fun x hx => but_mem (hl x hx) (nl x hx)) but_ne hz (but_mem hT htq)).sub (led_sub hq)
theorem lack_led {tL nN x1 x2 x3 : Addr} {o1 o2 o3 : Obj} {u1 u2 u3 u4 : Tok} {oc : Value} {od : Option Addr} {fd : FuncData} {sl : Array (Option Value)} (hq : (q, listOf vs nq) ∈ led) (hl : ∀ x ∈ lit, x ∈ led) (nl : ∀ x ∈ lit, x.1 ≠ q) (hTE : TreeEv w mean mg mb t hk q lit top p b 3) (hH : HookC w hk q bits lit) (hf : (f, (⟨oc, od, .func fd, sl⟩ : Obj)) ∈ led) (hfq : f ≠ q)
    (h1 : (tL, tup #[.str "two" u1, .str "+" u2, .ref t, .ref nN]) ∈ led) (h2 : (nN, tup #[.str "name" u3, .str "NONE" u4]) ∈ led) (j1 : (x1, o1) ∈ led) (j2 : (x2, o2) ∈ led) (j3 : (x3, o3) ∈ led) (n1 : tL ≠ q) (n2 : nN ≠ q) (n3 : x1 ≠ q) (n4 : x2 ≠ q) (n5 : x3 ≠ q) (hz : vs.size + 9 ≤ sizeLine) :
    CallC w mean mg mb 100 (.ref 337) [.ref tL, .ref hk, .ref f] led (fun _ _ => False) (fun c l9 => c = Str.ofString "NM" ∧ l9 = [(x1, o1), (x2, o2), (x3, o3)]) :=
  (ww_lack (lit := but q led) (hH.mono fun x hx => but_mem (hl x hx) (nl x hx)) but_ne hz (fun _ _ hp => ⟨oc, od, fd, sl, hp _ (but_mem hf hfq)⟩) (hTE.mono fun x hx => but_mem (hl x hx) (nl x hx)) (but_mem h1 n1) (but_mem h2 n2) (but_mem j1 n3) (but_mem j2 n4) (but_mem j3 n5)).sub (led_sub hq)
/-- the text's question, heard -/
noncomputable def TextP (q : Addr) (k : Nat) (led : List (Addr × Obj)) (c : Str) (l9 : List (Addr × Obj)) : Prop := c = Str.ofString "TM" ∧ ∃ (vs' : Array Value) (nq' : Nat), vs'.size = k + 1 ∧ (q, listOf vs' nq') ∈ l9 ∧ ∀ x ∈ led, x.1 ≠ q → x ∈ l9
theorem heard3 (q : Addr) (k9 : Nat) {f : Addr} {led : List (Addr × Obj)} {dp un : Nat} {gd : Option (List Code)} {cn : Str} {cs : Scope} {a : Addr} {ccd : Value} {cl : List (Str × Addr)} {A₀ : Around} {base h₀ : Heap} {L : Addr} {m : Str → Option Value} {s : Shared} {Q E : Value → Shared → Prop}
    (B : Below A₀ base [] h₀) (F : Fr h₀ L s.heap m) (X : (hd.heap_1 w.params).In h₀) (N : News h₀ L s.heap led) (T : Top topProg loose mean mg mb h₀) (k : cs.kind = .function) (XB : (hd.heap_1 w.params).In base) (TB : Top topProg loose mean mg mb base) (d : dp + 200 < recursionLimit) (u : un + 1600 < cLine)
    (hf : ∀ h, (hd.heap_1 w.params).In h → (∀ p ∈ led, h.get? p.1 = some p.2) → FnAt f h) (hlam : CallC w mean mg mb 150 (.ref f) [] led (fun _ _ => False) (TextP q k9 led))
    (hret : ∀ tkc h9 tk9 led9 vs' nq', Fr h₀ L h9 m → News h₀ L h9 led9 → vs'.size = k9 + 1 → (q, listOf vs' nq') ∈ led9 → (∀ x ∈ led, x.1 ≠ q → x ∈ led9) → Q (.str "TM" tkc) { s with heap := h9, toks := tk9 }) : wpAny (model PySem.Challenge.rw_pq0145_01.row.prog w) (ktrTop dp un gd cn cs L a ccd cl []) (call (.ref 414) [.ref f]) Q E s := by
  refine heard hf hlam dp un gd cn cs a ccd cl A₀ base h₀ L m s Q E B F X N T k XB TB d u ?_
  rintro v h9 tk9 led9 F9 N9 (z | ⟨c, tkc, rfl, rfl, vs', nq', hz, hq, hx⟩)
  · exact z.elim
  · exact hret tkc h9 tk9 led9 vs' nq' F9 N9 hz hq hx
end
/-- the law's state ahead of its last two questions -/
noncomputable def LawT (w : World) (mean : ExcName → Option Value) (mg mb : Str → Option Value) (s0 : Shared) (g : Heap) (L : Nat) (r1 r2 r3 r4 : Int) (s : Shared) : Prop :=
  ∃ (h : Heap) (tk : Nat) (m : Str → Option Value) (t hk q al f pr c c2 : Nat) (oa oh ol ok ot : Obj) (n1 n3 : Nat) (qs : Array Value) (oc : Value) (od : Option Addr) (fd : FuncData) (sl : Array (Option Value)) (lit : List (Addr × Obj)) (bits top p : Int) (b : Bool),
    s = { s0 with heap := h, toks := tk } ∧ Fr g L h m ∧
    News g L h ((L + 1, oa) :: (L + 1 + 1, oh) :: (L + 1 + 1 + 1, ol) :: (L + 1 + 1 + 1 + 1, ok) :: (L + 1 + 1 + 1 + 1 + 1, ot) :: (416, tabObj #[rawInt r1, rawInt r2, .ref c, rawInt r3, rawInt r4, .ref c2]) :: (al, listOf #[.ref pr] n1) :: (q, listOf qs n3) :: (f, (⟨oc, od, .func fd, sl⟩ : Obj)) :: lit) ∧
    (oa.data = .cell (some (.ref al)) ∧ oh.data = .cell (some (.ref hk)) ∧ ol.data = .cell none ∧ ok.data = .cell (some (.ref f)) ∧ ot.data = .cell (some (.ref t))) ∧
    (HookC w hk q bits lit ∧ TreeEv w mean mg mb t hk q lit top p b 3 ∧ qs.size ≤ 2) ∧
    (416 < L ∧ L + 5 < al ∧ L + 5 < q ∧ L + 5 < f ∧ al ≠ q ∧ f ≠ q ∧ f ≠ al) ∧ ((∀ x ∈ lit, @LT.lt Nat _ (L + 5) x.1) ∧ (∀ x ∈ lit, x.1 ≠ al) ∧ (∀ x ∈ lit, x.1 ≠ q))
theorem law_cut5 {w : World} {mean : ExcName → Option Value} {mg mb : Str → Option Value} {s0 s : Shared} {g : Heap} {L : Nat} {M : Model} {A : Around} {E : Value → Shared → Prop} {env : Env} {a1 a2 a3 a4 a5 : Stmt} {rest : List Stmt} {Q : Flow → Shared → Prop} (r1 r2 r3 r4 : Int) (H : LawR w mean mg mb s0 g L r1 r2 s)
    (h1 : ∀ s1, LawR w mean mg mb s0 g L r1 r2 s1 → wpAny M A (execs [a1, a2, a3, a4, a5] env) (NextP (LawT w mean mg mb s0 g L r1 r2 r3 r4)) E s1) (h2 : ∀ s', LawT w mean mg mb s0 g L r1 r2 r3 r4 s' → wpAny M A (execs rest env) Q E s') : wpAny M A (execs (a1 :: a2 :: a3 :: a4 :: a5 :: rest) env) Q E s := split_l [a1, a2, a3, a4, a5] _ (h1 s H) h2
section
variable {w : World} {mean : ExcName → Option Value} {mg mb : Str → Option Value} {s0 : Shared} {g h : Heap} {L t hk q al f pr c c2 : Nat} {m : Str → Option Value} {led lit : List (Addr × Obj)} {oa oh ol ok ot : Obj} {n1 n3 tk : Nat} {bits top p r1 r2 r3 r4 : Int} {b : Bool} {qs T : Array Value} {oc : Value} {od : Option Addr} {fd : FuncData} {sl : Array (Option Value)}
theorem LawT.made (F : Fr g L h m) (N : News g L h led) (i1 : (L + 1, oa) ∈ led) (i2 : (L + 1 + 1, oh) ∈ led) (i3 : (L + 1 + 1 + 1, ol) ∈ led) (i4 : (L + 1 + 1 + 1 + 1, ok) ∈ led) (c4 : ok.data = .cell (some (.ref f))) (i5 : (L + 1 + 1 + 1 + 1 + 1, ot) ∈ led) (i6 : (416, tabObj T) ∈ led) (hT : T = #[rawInt r1, rawInt r2, .ref c, rawInt r3, rawInt r4, .ref c2]) (i7 : (al, listOf #[.ref pr] n1) ∈ led) (i8 : (q, listOf qs n3) ∈ led) (i9 : (f, (⟨oc, od, .func fd, sl⟩ : Obj)) ∈ led) (hl : ∀ x ∈ lit, x ∈ led)
    (c1 : oa.data = .cell (some (.ref al))) (c2' : oh.data = .cell (some (.ref hk))) (c3 : ol.data = .cell none) (c5 : ot.data = .cell (some (.ref t))) (e1 : HookC w hk q bits lit) (e2 : TreeEv w mean mg mb t hk q lit top p b 3) (hz : qs.size ≤ 2)
    (d : 416 < L ∧ L + 5 < al ∧ L + 5 < q ∧ L + 5 < f ∧ al ≠ q ∧ f ≠ q ∧ f ≠ al) (f1 : ∀ x ∈ lit, @LT.lt Nat _ (L + 5) x.1) (f2 : ∀ x ∈ lit, x.1 ≠ al) (f3 : ∀ x ∈ lit, x.1 ≠ q) : LawT w mean mg mb s0 g L r1 r2 r3 r4 { s0 with heap := h, toks := tk } := by
  subst hT
  exact ⟨h, tk, m, t, hk, q, al, f, pr, c, c2, oa, oh, ol, ok, ot, n1, n3, qs, oc, od, fd, sl, lit, bits, top, p, b, rfl, F, news_sub N (sub_cons i1 (sub_cons i2 (sub_cons i3 (sub_cons i4 (sub_cons i5 (sub_cons i6 (sub_cons i7 (sub_cons i8 (sub_cons i9 hl))))))))), ⟨c1, c2', c3, c4, c5⟩, ⟨e1, e2, hz⟩, d, ⟨f1, f2, f3⟩⟩
end
end
local macro_rules | `(tactic| ktr_room) => `(tactic| ((try simp only [depth_under_make, depth_under_kw, depth_in1, depth_deeper, depth_caller]); (try dsimp only [ktrTop]); omega))
local macro_rules | `(tactic| ktr_units) => `(tactic| ((have hcL9 := cLine_is); (try simp only [units_in1, units_deeper, Around.mark_units, units_caller]); (try dsimp only [ktrTop]); omega))
local macro_rules | `(tactic| walk_at "subscriptTail Name Constant ref int") => `(tactic| (k_here; k_dflt (refine' item_lst ?N ?m ?a ?b ?x ?_; (case N => k_asm); (case m => k_mem); (case a => decide); (case b => decide); (case x => rfl); k_whole)))
local macro_rules | `(tactic| walk_at "call builtin:isinstance") => `(tactic| (k_here; (with_reducible show wpAny _ _ (call _ [Value.ref _, Value.type _]) _ _ _); k_dflt (kit_obj kitx_tuple)))
local macro_rules | `(tactic| k_ne) => `(tactic| (refine neN ?_; (try dsimp only); first | (with_reducible assumption) | (with_reducible exact Ne.symm (by assumption)) | omega | exact ne_l (by with_reducible assumption) (by k_mem) | exact ne_r (by with_reducible assumption) (by k_mem)))
section
open PySem PySem.W PyProof.Rows
set_option maxRecDepth 100000
set_option maxHeartbeats 80000000
local macro_rules | `(tactic| walk_at "compareOp NotEq ref ref") => `(tactic| (k_here; k_dflt (refine' ne_asks ?N ?h1 ?h2 ?a1 ?a2 ?hu ?_; (case N => k_asm); (case h1 => k_mem); (case h2 => k_mem); (case a1 => assumption); (case a2 => assumption); (case hu => ktr_units)); (try dsimp only)))
local macro_rules | `(tactic| k_all) => `(tactic| first | (with_reducible assumption) | exact all_gt (by with_reducible assumption) (by omega))
theorem law0 : PySem.Challenge.rw_pq0145_01.Holds := Mine.hd (by
  k_go0
  rename_i zw zs0 zs1 zmg zmb zG zY zfa zo zpm zdoc zho zhg zX zV zT zB zTE zTW zhcd zil zhs zhlay zhL0 zhr zhl2 za1 za2 za3 za4 za5 zhL zra zw1 zr0 zhI zhr2 zhc1 zhc2 zhD zh1 ztk1 zo5 zo4 zo3 zo2 zo1 zl5 zl4 zl3 zl2 zl1 zX0 zX1 zT1 zK1 zF1 zN1 zl0
  clear hT8 hT9
  try clear zhD
  try clear zhc2
  try clear zhr2
  try clear zr0
  try clear zw1
  try clear zra
  try clear zhl2
  try clear zhr
  try clear zhL0
  try clear zhlay
  try clear zhs
  try clear zhcd
  try clear zTW
  try clear zTE
  try clear zB
  try clear zT
  try clear zV
  try clear zX
  try clear zho
  try clear zdoc
  try clear zpm
  try clear zo
  try clear zfa
  try clear zY
  try clear zG
  all_goals try k_fold
  k_dflt (refine' law_cut6 ?X ?F ?pre ?rest; (case X => k_asm); (case F => k_asm))
  case pre =>
    (k_with "call ref" => ((with_reducible show wpAny _ _ (call (Value.ref 400) _) _ _ _); k_dflt (refine' toss_call _ _ _ _ _ _ _ _ _ _ _ _ _ _ _ _ _ _ _ _ _ _ _ _ _ _ _ _ _ _ ?kB ?kF ?kK ?kN ?kT ?kk ?c0 ?c1 ?c2 ?c3 ?c4 ?c5 ?c6 ?kd ?ku ?_; (case kB => k_asm); (case kF => k_asm); (case kK => k_asm); (case kT => k_asm); (case kk => first | exact rfl | assumption); (case kN => exact news_sub (by k_asm) (by lcg_sub)); (case c0 => assumption); (case c1 => assumption); (case c2 => (simp only [List.length_map, List.length_take]; first | exact Nat.min_le_left _ _ | omega)); (case c3 => omega); (case c4 => omega); (case c5 => omega); (case c6 => k_all); (case kd => ktr_room); (case ku => ktr_units)); k_whole; intro vT tT hT tkT tk8 loT hiT FT KT; (have NT := upd_of KT (by k_asm : News _ _ _ _) (by k_upd)); clear KT; (try k_sweep); (try dsimp only); (try k_fold)))
    k_steps
    all_goals dsimp only [NextP]
    refine' LawQ.made (by k_asm) (by k_asm) (by rfl) (by rfl) (by rfl) (by rfl) (by rfl) (by k_mem) (by first | assumption | (k_dflt assumption)) (by k_mem) (by first | assumption | (k_dflt assumption)) (by k_mem) (by first | assumption | (k_dflt assumption)) (by k_mem) (by first | assumption | (k_dflt assumption)) (by k_mem) (by first | assumption | (k_dflt assumption)) (by k_mem) (by k_mem) (by k_mem) (by k_mem) (by k_mem) (by k_mem) (by k_mem) (by k_mem) (by k_mem) (by assumption) (by assumption) (by assumption) ?hbv ?hpn ?hb ?hd ?hl
    case hbv => rfl
    case hpn => omega
    case hb => exact ⟨by omega, by omega, by omega, by omega, by omega, by omega, by omega, by omega⟩
    case hd => exact ⟨by first | (refine ltN ?_; omega) | (refine neN ?_; omega), by first | (refine ltN ?_; omega) | (refine neN ?_; omega), by first | (refine ltN ?_; omega) | (refine neN ?_; omega), by first | (refine ltN ?_; omega) | (refine neN ?_; omega), by first | (refine ltN ?_; omega) | (refine neN ?_; omega), by first | (refine ltN ?_; omega) | (refine neN ?_; omega), by first | (refine ltN ?_; omega) | (refine neN ?_; omega), by first | (refine ltN ?_; omega) | (refine neN ?_; omega), by first | (refine ltN ?_; omega) | (refine neN ?_; omega), by first | (refine ltN ?_; omega) | (refine neN ?_; omega), by first | (refine ltN ?_; omega) | (refine neN ?_; omega), by first | (refine ltN ?_; omega) | (refine neN ?_; omega), by first | (refine ltN ?_; omega) | (refine neN ?_; omega)⟩
    case hl => exact ⟨by first | (refine ltN ?_; omega) | (refine neN ?_; omega), by first | (refine ltN ?_; omega) | (refine neN ?_; omega), by first | (refine ltN ?_; omega) | (refine neN ?_; omega), by first | (refine ltN ?_; omega) | (refine neN ?_; omega), by first | (refine ltN ?_; omega) | (refine neN ?_; omega), by first | (refine ltN ?_; omega) | (refine neN ?_; omega), by first | (refine ltN ?_; omega) | (refine neN ?_; omega), by first | (refine ltN ?_; omega) | (refine neN ?_; omega), by first | (refine ltN ?_; omega) | (refine neN ?_; omega)⟩
  case rest =>
    intro s1 H1
    clear zN1 zF1 lifted zX0 zl1 zl2 zl3 zl4 zl5 zo1 zo2 zo3 zo4 zo5 zhc1 zhI zhL
    k_dflt (refine' law_cut2 ?T H1 ?h1 ?h2; (case T => k_asm))
    case h1 =>
      clear H1
      intro s1 H1
      refine LawQ.opened H1 (fun h tk u t v hk q al nl oa oh ol ok ot n1 n2 n3 tt tb ti tf u1 u2 u3 lit bits size p f y1 y2 y3 y4 y5 y6 y7 y8 F N c1 c2 c3 c4 c5 e1 d1 d2 d3 d4 d5 d6 d7 d8 d9 d10 d11 d12 d13 f1 f2 f3 => ?_)
      clear H1
      have hpw := pow_le4 y5 y6
      k_steps
      all_goals dsimp only [NextP]
      · refine LawP.made (t := t) (by k_asm) (by k_asm) (by rfl) (by rfl) (by rfl) (by rfl) (by k_mem) (by first | assumption | (k_dflt assumption)) (by k_mem) (by first | assumption | (k_dflt assumption)) (by k_mem) (by first | assumption | (k_dflt assumption)) (by k_mem) (by first | assumption | (k_dflt assumption)) (by k_mem) (by first | assumption | (k_dflt assumption)) (by k_mem) (by k_mem) (by k_mem) (by k_mem) (by k_mem) (by k_mem) (by intro x hx; repeat (first | exact hx | refine List.Mem.tail _ ?_)) e1 (te1 e1 y3 y4 y5 y6) (sub_cons (by k_mem) sub_nil) (List.forall_mem_cons.mpr ⟨ltN (by omega), (List.forall_mem_nil _)⟩) (List.forall_mem_cons.mpr ⟨neN (by omega), (List.forall_mem_nil _)⟩) (List.forall_mem_cons.mpr ⟨neN (by omega), (List.forall_mem_nil _)⟩) rfl ⟨y1, y2, y5, y6, by omega, by omega⟩ ⟨by first | (refine ltN ?_; omega) | (refine neN ?_; omega) | omega, by first | (refine ltN ?_; omega) | (refine neN ?_; omega) | omega, by first | (refine ltN ?_; omega) | (refine neN ?_; omega) | omega, by first | (refine ltN ?_; omega) | (refine neN ?_; omega) | omega, by first | (refine ltN ?_; omega) | (refine neN ?_; omega) | omega, by first | (refine ltN ?_; omega) | (refine neN ?_; omega) | omega, by first | (refine ltN ?_; omega) | (refine neN ?_; omega) | omega⟩ ⟨d5, d6, d10, d11, d12, d13⟩ f1 f2 f3
      · refine LawP.made (t := t) (by k_asm) (by k_asm) (by rfl) (by rfl) (by rfl) (by rfl) (by k_mem) (by first | assumption | (k_dflt assumption)) (by k_mem) (by first | assumption | (k_dflt assumption)) (by k_mem) (by first | assumption | (k_dflt assumption)) (by k_mem) (by first | assumption | (k_dflt assumption)) (by k_mem) (by first | assumption | (k_dflt assumption)) (by k_mem) (by k_mem) (by k_mem) (by k_mem) (by k_mem) (by k_mem) (by intro x hx; repeat (first | exact hx | refine List.Mem.tail _ ?_)) e1 (te3 e1 y3 y4 y5 y6) (sub_cons (by k_mem) (sub_cons (by k_mem) (sub_cons (by k_mem) sub_nil))) (List.forall_mem_cons.mpr ⟨ltN (by omega), (List.forall_mem_cons.mpr ⟨ltN (by omega), (List.forall_mem_cons.mpr ⟨ltN (by omega), (List.forall_mem_nil _)⟩)⟩)⟩) (List.forall_mem_cons.mpr ⟨neN (by omega), (List.forall_mem_cons.mpr ⟨neN (by omega), (List.forall_mem_cons.mpr ⟨neN (by omega), (List.forall_mem_nil _)⟩)⟩)⟩) (List.forall_mem_cons.mpr ⟨neN (by omega), (List.forall_mem_cons.mpr ⟨neN (by omega), (List.forall_mem_cons.mpr ⟨neN (by omega), (List.forall_mem_nil _)⟩)⟩)⟩) ⟨_, rfl⟩ ⟨y1, y2, y5, y6, by omega, by omega⟩ ⟨by first | (refine ltN ?_; omega) | (refine neN ?_; omega) | omega, by first | (refine ltN ?_; omega) | (refine neN ?_; omega) | omega, by first | (refine ltN ?_; omega) | (refine neN ?_; omega) | omega, by first | (refine ltN ?_; omega) | (refine neN ?_; omega) | omega, by first | (refine ltN ?_; omega) | (refine neN ?_; omega) | omega, by first | (refine ltN ?_; omega) | (refine neN ?_; omega) | omega, by first | (refine ltN ?_; omega) | (refine neN ?_; omega) | omega⟩ ⟨d5, d6, d10, d11, d12, d13⟩ f1 f2 f3
      · refine LawP.made (t := t) (by k_asm) (by k_asm) (by rfl) (by rfl) (by rfl) (by rfl) (by k_mem) (by first | assumption | (k_dflt assumption)) (by k_mem) (by first | assumption | (k_dflt assumption)) (by k_mem) (by first | assumption | (k_dflt assumption)) (by k_mem) (by first | assumption | (k_dflt assumption)) (by k_mem) (by first | assumption | (k_dflt assumption)) (by k_mem) (by k_mem) (by k_mem) (by k_mem) (by k_mem) (by k_mem) (by intro x hx; repeat (first | exact hx | refine List.Mem.tail _ ?_)) e1 (te2 e1 y3 y4 y5 y6) (sub_cons (by k_mem) (sub_cons (by k_mem) sub_nil)) (List.forall_mem_cons.mpr ⟨ltN (by omega), (List.forall_mem_cons.mpr ⟨ltN (by omega), (List.forall_mem_nil _)⟩)⟩) (List.forall_mem_cons.mpr ⟨neN (by omega), (List.forall_mem_cons.mpr ⟨neN (by omega), (List.forall_mem_nil _)⟩)⟩) (List.forall_mem_cons.mpr ⟨neN (by omega), (List.forall_mem_cons.mpr ⟨neN (by omega), (List.forall_mem_nil _)⟩)⟩) ⟨_, rfl⟩ ⟨y1, y2, y5, y6, by omega, by omega⟩ ⟨by first | (refine ltN ?_; omega) | (refine neN ?_; omega) | omega, by first | (refine ltN ?_; omega) | (refine neN ?_; omega) | omega, by first | (refine ltN ?_; omega) | (refine neN ?_; omega) | omega, by first | (refine ltN ?_; omega) | (refine neN ?_; omega) | omega, by first | (refine ltN ?_; omega) | (refine neN ?_; omega) | omega, by first | (refine ltN ?_; omega) | (refine neN ?_; omega) | omega, by first | (refine ltN ?_; omega) | (refine neN ?_; omega) | omega⟩ ⟨d5, d6, d10, d11, d12, d13⟩ f1 f2 f3
      · refine LawP.made (t := t) (by k_asm) (by k_asm) (by rfl) (by rfl) (by rfl) (by rfl) (by k_mem) (by first | assumption | (k_dflt assumption)) (by k_mem) (by first | assumption | (k_dflt assumption)) (by k_mem) (by first | assumption | (k_dflt assumption)) (by k_mem) (by first | assumption | (k_dflt assumption)) (by k_mem) (by first | assumption | (k_dflt assumption)) (by k_mem) (by k_mem) (by k_mem) (by k_mem) (by k_mem) (by k_mem) (by intro x hx; repeat (first | exact hx | refine List.Mem.tail _ ?_)) e1 (te0 e1 y3 y4 y5 y6) sub_nil (List.forall_mem_nil _) (List.forall_mem_nil _) (List.forall_mem_nil _) rfl ⟨y1, y2, y5, y6, by omega, by omega⟩ ⟨by first | (refine ltN ?_; omega) | (refine neN ?_; omega) | omega, by first | (refine ltN ?_; omega) | (refine neN ?_; omega) | omega, by first | (refine ltN ?_; omega) | (refine neN ?_; omega) | omega, by first | (refine ltN ?_; omega) | (refine neN ?_; omega) | omega, by first | (refine ltN ?_; omega) | (refine neN ?_; omega) | omega, by first | (refine ltN ?_; omega) | (refine neN ?_; omega) | omega, by first | (refine ltN ?_; omega) | (refine neN ?_; omega) | omega⟩ ⟨d5, d6, d10, d11, d12, d13⟩ f1 f2 f3
    case h2 =>
      intro s2 H2
      k_dflt (refine' law_cut3 313 18 H2 ?h3 ?h4)
      case h3 =>
        clear H2
        intro s1 H1
        obtain ⟨bits, top, p, b, ⟨y1, y2, y5, y6, y7, y8⟩, H2⟩ := H1
        have hpw := pow_le4 y5 y6
        refine LawSt.opened H2 (fun h tk u t hk q al nl oa oh ol ok ot n1 n2 n3 nv tt tb ti lit F N c1 c2 c3 c4 c5 e1 e2 e3 d1 d2 d3 d4 d7 d8 d9 f1 f2 f3 => ?_)
        clear H2
        (k_with "call ref" => ((with_reducible show wpAny _ _ (call (Value.ref 407) _) _ _ _); k_dflt (refine' next_call _ _ _ _ _ _ _ _ _ _ _ _ _ _ _ _ _ _ _ _ _ _ _ _ _ _ ?kB ?kF ?kK ?kN ?kT ?kk ?cb ?kd ?ku ?_; (case kB => k_asm); (case kF => k_asm); (case kK => k_asm); (case kN => k_asm); (case kT => k_asm); (case kk => first | exact rfl | assumption); (case cb => exact ⟨by omega, by omega, by omega, by omega⟩); (case kd => ktr_room); (case ku => ktr_units)); k_whole; intro t9 h9 tk9 F9 N9; (try k_sweep); (try dsimp only); (try k_fold)))
        (k_with "call ref" => ((with_reducible show wpAny _ _ (call (Value.ref 414) _) _ _ _); k_dflt (refine' heard2 ?kB ?kF ?kK ?kN ?kT ?kk zX1 zT1 ?kd ?ku ?hf ?_ ?hw ?_; (case kB => k_asm); (case kF => k_asm); (case kK => k_asm); (case kN => k_asm); (case kT => k_asm); (case kk => first | exact rfl | assumption); (case kd => ktr_room); (case ku => ktr_units); (case hf => exact fun h _ hl => ⟨_, _, _, _, hl (_, _) (by k_mem)⟩); (case hw => exact ww_led (by k_mem) (by intro x hx; repeat (first | exact hx | refine List.Mem.tail _ ?_)) f3 e2 e1 y7 y8 y5 y6 y1 y2 (by rw [sizeLine_eq]; decide))); (all_goals (first | ((k_dflt (intro hw9 dpl unl gdl cnl csl aal ccdl cll outerl Azl basel hzl Ll ml sl Ql El Bl Fl Xl Nl Tl kkl ddl uul hQl hEl)); (try dsimp only)) | (intro v9 h9 tk9 led9 F9 N9 hP9; (rcases hP9 with ⟨n9, t9, vs9, nq9, rfl, hW9, hf9, hA9, rfl⟩ | ⟨c9, tkc9, rfl, rfl, n9, vs9, nq9, hW9, hf9, hA9, rfl⟩); (all_goals (obtain rfl := wh_next hW9 y7 y8 y5 y6)); (all_goals (first | (obtain ⟨q8, q9⟩ := fit_yes hf9) | (have q9 := fit_no hf9))); (all_goals (try k_sweep)); (all_goals (try dsimp only)); (all_goals (try k_fold)))))))
        (k_with "call ref" => ((with_reducible show wpAny _ _ (call (Value.ref 337) _) _ _ _); k_dflt (refine' hw9 _ _ _ _ _ _ _ _ _ _ _ _ _ _ _ _ _ ?kB ?kF ?kK ?kN ?kT ?kk ?kd ?ku ?_ ?_; (case kB => k_asm); (case kF => k_asm); (case kK => k_asm); (case kN => k_asm); (case kT => k_asm); (case kk => first | exact rfl | assumption); (case kd => ktr_room); (case ku => ktr_units)); (all_goals (first | (intro gE eE ddE odE cE tkE h9 tk9 led9 FE Y9 y9 lkE hP9; (try dsimp only)) | (intro v9 h9 tk9 led9 F9 N9 hP9; (try k_sweep); (try dsimp only); (try k_fold))))))
        (k_with "leaving ref" => (k_dflt (refine' leaveD2 ?K ?F Y9 y9 rfl ?_; (case K => k_asm); (case F => k_asm)); k_whole; clear Y9 y9; intro hY Y9 y9; (try dsimp only)))
        (k_with "call ref" => ((with_reducible show wpAny _ _ (call (Value.ref _) []) _ _ _); refine wpAny_call ?_; k_dflt (refine' kla_code ?k1 ?k2 ?k3 ?k4 ?k5 ?kA ?kF ?kK ?k6 ?k7 ?k8 ?k9 ?kB ?_ ?c2 ?c3 ?c4 ?c5; (case kA => exact rfl); (case kF => exact rfl); (case kK => first | exact rfl | assumption); (case k1 => k_asm); (case k2 => k_asm); (case k3 => k_asm); (case k4 => k_asm); (case k5 => k_asm); (case k6 => k_mem); (case k7 => exact codeRec_news (by k_asm) (by k_mem) (by assumption) (by assumption)); (case k8 => ktr_room); (case k9 => exact rfl); (case c5 => decide); (case kB => exact locs rfl); (case c2 => exact rfl); (case c3 => exact rfl); (case c4 => exact rfl); k_whole; intro g' L' h' FG' F' N' B' X' T'; (try dsimp only); (try k_fold))))
        (k_with "callWith ref nil nil" => ((with_reducible show wpAny _ _ (callWith _ (Value.ref 414) _ _ _) _ _ _); k_dflt (refine' callWith_K ?k1 ?k2 ?_; (case k1 => k_asm); (case k2 => k_is); k_whole)))
        (k_with "eval Call Name cons nil" => (refine Call_ ?_))
        k_steps
        all_goals try dsimp only
        all_goals first | exact hQl _ _ _ _ (by k_asm) (by k_asm) hP9 | exact hEl _ _ _ _ cE tkE _ _ led9 (by k_asm) Y9 y9 lkE hP9 | exact absurd rfl (by assumption) | skip
        all_goals dsimp only [NextP]
        all_goals refine LawR.made (by k_asm) (by k_asm) (by rfl) (by rfl) (by rfl) (by rfl) (by k_mem) (by k_mem) (by k_mem) (by k_mem) (by k_mem) (by k_mem) (by rfl) (by k_mem) (by k_mem) (by intro x hx; repeat (first | exact hx | refine List.Mem.tail _ ?_)) c1 c2 c3 c4 c5 e1 e2 e3 hA9 ⟨y1, y2, y5, y6, y7, y8⟩ ⟨d1, d2, d3, d4, d7, d8, d9⟩ f1 f2 f3
      case h4 =>
        intro s3 H3
        k_dflt (refine' law_cut5 313 18 316 4 H3 ?h5 ?h6)
        case h5 =>
          clear H3
          intro s1 H1
          obtain ⟨bits, top, p, b, qs, c, ⟨y1, y2, y5, y6, y7, y8⟩, hA0, H2⟩ := H1
          have hpw := pow_le4 y5 y6
          have hqz := asks_size hA0
          refine LawSt.opened H2 (fun h tk u t hk q al nl oa oh ol ok ot n1 n2 n3 nv tt tb ti lit F N c1 c2 c3 c4 c5 e1 e2 e3 d1 d2 d3 d4 d7 d8 d9 f1 f2 f3 => ?_)
          clear H2
          obtain ⟨dh, bk, k1, k2, k3, k4, t2, t3, bo, b1, b2, b3, b4, DD, i1, i2, i3, i4⟩ := id e1
          have hN := news_sub N (sub_cons (.head _) (sub_cons (.tail _ (.head _)) (sub_cons (.tail _ (.tail _ (.head _))) (sub_cons (.tail _ (.tail _ (.tail _ (.head _)))) (sub_cons (.tail _ (.tail _ (.tail _ (.tail _ (.head _))))) (sub_cons (.tail _ (.tail _ (.tail _ (.tail _ (.tail _ (.head _)))))) (sub_cons (.tail _ (.tail _ (.tail _ (.tail _ (.tail _ (.tail _ (.head _))))))) (sub_cons (.tail _ (.tail _ (.tail _ (.tail _ (.tail _ (.tail _ (.tail _ (.head _)))))))) (sub_cons (.tail _ (.tail _ (.tail _ (.tail _ (.tail _ (.tail _ (.tail _ (.tail _ (.head _))))))))) (sub_cons (.tail _ (.tail _ (.tail _ (.tail _ (.tail _ (.tail _ (.tail _ (.tail _ (.tail _ i1))))))))) (sub_cons (.tail _ (.tail _ (.tail _ (.tail _ (.tail _ (.tail _ (.tail _ (.tail _ (.tail _ i2))))))))) (fun x hx => .tail _ (.tail _ (.tail _ (.tail _ (.tail _ (.tail _ (.tail _ (.tail _ (.tail _ hx))))))))))))))))))))
          clear N
          have o1 := f1 _ i1
          have o2 := f1 _ i2
          have o3 := f2 _ i1
          have o4 := f2 _ i2
          have o5 := f3 _ i1
          have o6 := f3 _ i2
          dsimp only at o1 o2 o3 o4 o5 o6
          (k_with "exec FunctionDef cons nil none nil none" => (k_dflt (refine' nestDef_K ?d0 ?k0 ?a0 ?_; (case d0 => exact rfl); (case k0 => exact rfl); (case a0 => exact rfl)); k_dflt (refine' nest_K ?F ?N ?T ?C ?cd ?U ?t ?n ?cl ?_; (case F => k_asm); (case N => k_asm); (case T => k_asm); (case cd => exact rfl); (case C => kn_code); (case U => k_updF); (case t => kn_triples); (case n => kn_among); (case cl => exact rfl); k_whole); intro fD cD oD vsD tD ctD dcD hhD tkD FD ND dD1 dD2 lD1 lD2; (try dsimp only at ND); (try k_lt lD1); (try k_lt2 lD2)))
          (k_with "eval Call Name cons nil" => (refine Call_ ?_))
          (k_with "call ref" => ((with_reducible show wpAny _ _ (call (Value.ref _) [_, _]) _ _ _); (fail_if_success (with_reducible show wpAny _ _ (call (Value.ref 414) _) _ _ _)); refine wpAny_call ?_; k_dflt (refine' code_nest ?k1 ?k2 ?k3 ?k4 ?k5 ?kA ?kF ?kK ?k6 ?k7 ?k8 ?k9 ?kB ?_ ?c2 ?c3 ?c4 ?c5; (case kA => exact rfl); (case kF => exact rfl); (case kK => first | exact rfl | assumption); (case k1 => k_asm); (case k2 => k_asm); (case k3 => k_asm); (case k4 => k_asm); (case k5 => k_asm); (case k6 => k_mem); (case k7 => exact codeRec_news (by k_asm) (by k_mem) (by assumption) (by assumption)); (case k8 => ktr_room); (case k9 => exact BindsTo.of_eq rfl); (case c5 => decide); (case kB => exact locs rfl); (case c2 => exact rfl); (case c3 => exact rfl); (case c4 => exact rfl); k_whole; intro g' L' h' FG' F' N' B' X' T'; (try dsimp only); (try k_fold))))
          (k_with "call ref" => ((with_reducible show wpAny _ _ (call (Value.ref 337) _) _ _ _); k_dflt (refine' ww_told al ?hq ?hl f3 e2 e1 ?hf ?hfq ?hz ?_ _ _ _ _ _ _ _ _ _ _ _ _ _ _ _ _ _ ?kB ?kF ?kK ?kN ?kT ?kk ?kd ?ku ?_ ?_; (case kB => k_asm); (case kF => k_asm); (case kK => k_asm); (case kN => k_asm); (case kT => k_asm); (case kk => first | exact rfl | assumption); (case kd => ktr_room); (case ku => ktr_units); (case hq => k_mem); (case hl => intro x hx; repeat (first | exact hx | refine List.Mem.tail _ ?_)); (case hf => k_mem); (case hfq => k_ne); (case hz => (rw [sizeLine_eq]; (try simp only [Array.size_empty] at hqz); omega))); (all_goals (first | ((k_dflt (intro a9 c9 e9 t9 u9 u vs9 nq9 hM9 hA9 hF9 dpl unl gdl cnl csl aal ccdl cll outerl Azl basel hzl Ll ml sl Ql El Bl Fl Xl Nl Tl kkl ddl uul hQl hEl; (have hN2 := but_upd (by k_upd) (news_sub Nl (fun x hx => List.Mem.tail _ hx))); (have hN3 := news_put Nl hN2); (have hF8 := hF9 (al, listOf #[] n1) (but_mem (by k_mem) d8)); (have hF7 := asks_size hA9); dsimp only at hF8; clear Nl hN2 hF9)); (try dsimp only)) | (intro gE eE ddE odE cE tkE h9 tk9 led9 FE Y9 y9 lkE hP9; exact hP9.elim) | (k_dflt (intro v9 h9 tk9 led9 F9 N9 hP9; (obtain ⟨tk8, t8, u8, u7, a8, pr8, c8, e8, vs8, nq8, n8, rfl, hM8, hz8, j1, j2, j3, j4, j5⟩ := hP9); (obtain ⟨m1, m2, m3, m4⟩ := mk_near_bounds hM8 y7 y8 y5 y6); (have N8 := news_sub N9 (sub_cons j1 (sub_cons j2 (sub_cons j3 (sub_cons j4 (sub_cons (j5 (zs1.heap.objs.size + 1, _) (by k_mem) (by k_ne) (by k_ne)) (sub_cons (j5 (zs1.heap.objs.size + 1 + 1, _) (by k_mem) (by k_ne) (by k_ne)) (sub_cons (j5 (zs1.heap.objs.size + 1 + 1 + 1, _) (by k_mem) (by k_ne) (by k_ne)) (sub_cons (j5 (zs1.heap.objs.size + 1 + 1 + 1 + 1, _) (by k_mem) (by k_ne) (by k_ne)) (sub_cons (j5 (zs1.heap.objs.size + 1 + 1 + 1 + 1 + 1, _) (by k_mem) (by k_ne) (by k_ne)) (sub_cons (j5 (416, _) (by k_mem) (by k_ne) (by k_ne)) (sub_cons (j5 (fD, _) (by k_mem) (by k_ne) (by k_ne)) (fun x hx => j5 x (by repeat (first | exact hx | refine List.Mem.tail _ ?_)) (f3 x hx) (f2 x hx)))))))))))))); clear N9); (try k_sweep); (try dsimp only); (try k_fold))))))
          k_steps
          all_goals try dsimp only
          · exact hQl _ _ _ _ (by k_asm) (by k_asm) ⟨_, _, _, _, _, _, _, _, _, _, _, rfl, hM9, hF7, by k_mem, by k_mem, by k_mem, by k_mem, by intro x hx nq na; (repeat (rcases List.mem_cons.mp hx with rfl | hx; first | exact absurd rfl nq | exact absurd rfl na | k_mem)); (repeat (first | exact hx | refine List.Mem.tail _ ?_))⟩
          · exact absurd rfl (by with_reducible assumption : bits ≠ bits)
          · exact (by with_reducible assumption : c8 * 10 ^ (if 0 > e8 then 0 else e8).toNat * 10 ^ p.toNat ≠ top * 10 ^ (if 0 > 0 - e8 then 0 else 0 - e8).toNat) (mk_eq hM8 y5)
          all_goals dsimp only [NextP]
          refine LawT.made (by k_asm) (by k_asm) (by k_mem) (by k_mem) (by k_mem) (by k_mem) (by assumption) (by k_mem) (by k_mem) (by rfl) (by k_mem) (by k_mem) (by k_mem) (by intro x hx; repeat (first | exact hx | refine List.Mem.tail _ ?_)) c1 c2 c3 c5 e1 e2 (by (try simp only [Array.size_empty] at hqz); omega) ⟨d1, d2, d4, by first | (refine ltN ?_; omega) | (refine neN ?_; omega) | omega, d8, by first | (refine ltN ?_; omega) | (refine neN ?_; omega) | omega, by first | (refine ltN ?_; omega) | (refine neN ?_; omega) | omega⟩ f1 f2 f3
        case h6 =>
          intro s1 H1
          obtain ⟨h, tk, m, t, hk, q, al, fD, pr, c, cD, oa, oh, ol, ok, ot, n1, n3, qs, oc, od, fd, sl, lit, bits, top, p, b, rfl, F, N, ⟨c1, c2, c3, c4, c5⟩, ⟨e1, e2, hqz⟩, ⟨d1, d2, d4, d5, d8, d9, d10⟩, ⟨f1, f2, f3⟩⟩ := H1
          (k_with "eval Call Name cons nil" => (refine Call_ ?_))
          (k_with "callWith ref nil nil" => ((with_reducible show wpAny _ _ (callWith _ (Value.ref 414) _ _ _) _ _ _); k_dflt (refine' callWith_K ?k1 ?k2 ?_; (case k1 => k_asm); (case k2 => k_is); k_whole)))
          (k_with "call ref" => ((with_reducible show wpAny _ _ (call (Value.ref _) []) _ _ _); refine wpAny_call ?_; k_dflt (refine' kla_code ?k1 ?k2 ?k3 ?k4 ?k5 ?kA ?kF ?kK ?k6 ?k7 ?k8 ?k9 ?kB ?_ ?c2 ?c3 ?c4 ?c5; (case kA => exact rfl); (case kF => exact rfl); (case kK => first | exact rfl | assumption); (case k1 => k_asm); (case k2 => k_asm); (case k3 => k_asm); (case k4 => k_asm); (case k5 => k_asm); (case k6 => k_mem); (case k7 => exact codeRec_news (by k_asm) (by k_mem) (by assumption) (by assumption)); (case k8 => ktr_room); (case k9 => exact rfl); (case c5 => decide); (case kB => exact locs rfl); (case c2 => exact rfl); (case c3 => exact rfl); (case c4 => exact rfl); k_whole; intro g' L' h' FG' F' N' B' X' T'; (try dsimp only); (try k_fold))))
          (k_with "leaving ref" => (k_dflt (refine' leaveD2 ?K ?F Y9 y9 rfl ?_; (case K => k_asm); (case F => k_asm)); k_whole; clear Y9 y9; intro hY Y9 y9; (try dsimp only)))
          (k_with "call ref" => ((with_reducible show wpAny _ _ (call (Value.ref 337) _) _ _ _); k_dflt (refine' text_led (q := q) ?hq ?hl f3 e1 ?hT ?htq ?hz _ _ _ _ _ _ _ _ _ _ _ _ _ _ _ _ _ ?kB ?kF ?kK ?kN ?kT ?kk ?kd ?ku ?_ ?_; (case kB => k_asm); (case kF => k_asm); (case kK => k_asm); (case kN => k_asm); (case kT => k_asm); (case kk => first | exact rfl | assumption); (case kd => ktr_room); (case ku => ktr_units); (case hq => k_mem); (case hl => intro x hx; repeat (first | exact hx | refine List.Mem.tail _ ?_)); (case hT => k_mem); (case htq => k_ne); (case hz => (rw [sizeLine_eq]; omega))); (all_goals (first | (k_dflt (intro gE eE ddE odE cE tkE h9 tk9 led9 FE Y9 y9 lkE hP9; obtain ⟨rfl, vs9, nq9, hz9, rfl⟩ := hP9)) | (intro v9 h9 tk9 led9 F9 N9 hP9; exact hP9.elim)); (try dsimp only))))
          (k_with "call ref" => ((with_reducible show wpAny _ _ (call (Value.ref 337) _) _ _ _); k_dflt (refine' hw9 _ _ _ _ _ _ _ _ _ _ _ _ _ _ _ _ _ ?kB ?kF ?kK ?kN ?kT ?kk ?kd ?ku ?_ ?_; (case kB => k_asm); (case kF => k_asm); (case kK => k_asm); (case kN => k_asm); (case kT => k_asm); (case kk => first | exact rfl | assumption); (case kd => ktr_room); (case ku => ktr_units)); (all_goals (first | (intro gE eE ddE odE cE tkE h9 tk9 led9 FE Y9 y9 lkE hP9; (try dsimp only)) | (intro v9 h9 tk9 led9 F9 N9 hP9; (try k_sweep); (try dsimp only); (try k_fold))))))
          (k_with "call ref" => ((with_reducible show wpAny _ _ (call (Value.ref 414) _) _ _ _); k_dflt (refine' heard3 q qs.size ?kB ?kF ?kK ?kN ?kT ?kk zX1 zT1 ?kd ?ku ?hf ?_ ?_; (case kB => k_asm); (case kF => k_asm); (case kK => k_asm); (case kN => k_asm); (case kT => k_asm); (case kk => first | exact rfl | assumption); (case kd => ktr_room); (case ku => ktr_units); (case hf => exact fun h _ hl => ⟨_, _, _, _, hl (_, _) (by k_mem)⟩)); (all_goals (first | ((k_dflt (intro dpl unl gdl cnl csl aal ccdl cll outerl Azl basel hzl Ll ml sl Ql El Bl Fl Xl Nl Tl kkl ddl uul hQl hEl)); (try dsimp only)) | ((k_dflt (intro tkc9 h9 tk9 led9 vs9 nq9 F9 N9 hz9 j4 j5; (have N8 := news_sub N9 (sub_cons j4 (sub_cons (j5 (zs1.heap.objs.size + 1, _) (by k_mem) (by k_ne)) (sub_cons (j5 (zs1.heap.objs.size + 1 + 1, _) (by k_mem) (by k_ne)) (sub_cons (j5 (zs1.heap.objs.size + 1 + 1 + 1, _) (by k_mem) (by k_ne)) (sub_cons (j5 (zs1.heap.objs.size + 1 + 1 + 1 + 1, _) (by k_mem) (by k_ne)) (sub_cons (j5 (zs1.heap.objs.size + 1 + 1 + 1 + 1 + 1, _) (by k_mem) (by k_ne)) (sub_cons (j5 (416, _) (by k_mem) (by k_ne)) (sub_cons (j5 (al, _) (by k_mem) (by k_ne)) (sub_cons (j5 (fD, _) (by k_mem) (by k_ne)) (fun x hx => j5 x (by repeat (first | exact hx | refine List.Mem.tail _ ?_)) (f3 x hx)))))))))))); clear N9)); (try k_sweep); (try dsimp only); (try k_fold))))))
          (k_with "call ref" => ((with_reducible show wpAny _ _ (call (Value.ref 414) _) _ _ _); k_dflt (refine' heard2 ?kB ?kF ?kK ?kN ?kT ?kk zX1 zT1 ?kd ?ku ?hf ?_ ?hw ?_; (case kB => k_asm); (case kF => k_asm); (case kK => k_asm); (case kN => k_asm); (case kT => k_asm); (case kk => first | exact rfl | assumption); (case kd => ktr_room); (case ku => ktr_units); (case hf => exact fun h _ hl => ⟨_, _, _, _, hl (_, _) (by k_mem)⟩); (case hw => exact lack_led (x1 := zs1.heap.objs.size + 1) (x2 := al) (x3 := 416) (by k_mem) (by intro x hx; repeat (first | exact hx | refine List.Mem.tail _ ?_)) f3 e2 e1 (by k_mem) d9 (by k_mem) (by k_mem) (by k_mem) (by k_mem) (by k_mem) (by k_ne) (by k_ne) (by k_ne) (by k_ne) (by k_ne) (by rw [sizeLine_eq]; omega))); (all_goals (first | ((k_dflt (intro hw9 dpl unl gdl cnl csl aal ccdl cll outerl Azl basel hzl Ll ml sl Ql El Bl Fl Xl Nl Tl kkl ddl uul hQl hEl)); (try dsimp only)) | ((k_dflt (intro v9 h9 tk9 led9 F9 N9 hP9; rcases hP9 with z9 | ⟨c9, tkc9, rfl, rfl, rfl⟩)); (try exact z9.elim); (try k_sweep); (try dsimp only); (try k_fold))))))
          k_steps
          all_goals try dsimp only
          all_goals first | exact hEl _ _ _ _ _ tkE _ _ _ (by k_asm) Y9 y9 lkE ⟨rfl, vs9, nq9, hz9, List.Mem.head _, fun x hx hn => but_mem1 (by repeat (first | exact hx | refine List.Mem.tail _ ?_)) hn⟩ | exact hEl _ _ _ _ cE tkE _ _ led9 (by k_asm) Y9 y9 lkE hP9 | exact hQl _ _ _ _ (by k_asm) (by k_asm) hP9 | skip
)
end
end Mine
set_option maxHeartbeats 8000000 in
theorem PySem.Challenge.cw_pq0145_01_holds : PySem.Challenge.rw_pq0145_01.Holds :=
  Mine.law0
