import PyProof.Rows.All
import Wide.All
import OpenK.AllK
import Wide.FinOn
import Lean
import PySem.Challenge.RW_pq0470_01
set_option Elab.async false
set_option maxRecDepth 100000
set_option maxHeartbeats 8000000
section
open PySem PySem.W PyProof.Rows
namespace Mine

/-- the statements of the top that the view keeps -/
def kept : List Nat := [0,2,3,5,7,8,9,10,11,12,13,14,15,16,17,18,20,21,22,23,24,25,26,27,28,29,30,31,32,33,34,35,36,38,39,40,41,42,43,44,45,46,47,48,49,50,51,52,53,54,55,56,57,59,60,61,62,63,64,65,66,67,68,69,70,72,73,75,76,77,78]
def q : Program := view PySem.Challenge.pw_pq0470_01 kept
def lo : List Str := [Str.ofString "GateloomError", Str.ofString "vec"]

/-- the top's run and what is asked of its end, as one equation for each world -/
theorem left_of_run {p q : Program} {loose : List Str} {Xt : Shared → Bool} {α : Type} {Yf : Shared → α} {Ya : World → α} {N M : Nat} {H : Params → Heap} {gs : Array GenState} {d : Drawn} {k m : Nat} {ann : Option Value}
    (opens : ∀ w : World, (fencedOpening treeTable p w N).map (fun s => (s.heap, s.gens, s.drawn, s.toks)) = some (H w.params, gs, d, k))
    (size : ∀ w : World, ((H w.params).isNs mainGlobals && gs.size == 0, (H w.params).objs.size, (H w.params).nsMap mainGlobals "__annotations__") = (true, m, ann))
    (le : M ≤ N)
    (all : ∀ (w : World) (os : OsState), (topRun treeTable p w m ann M ⟨H w.params, gs, d, k, os⟩ (topStub p)).map (fun s =>
      (staticsOk (importedModules p.main.body) (H w.params) s.heap && namesBound p s.heap && gensDone s && laidKept (H w.params) s.heap, openSeen q loose (importedModules p.main.body) Xt true s, Yf s)) = some (true, openGood q loose, Ya w)) :
    LeftO p q loose Xt Yf Ya N := by
  intro w
  have ow := opens w
  cases ho : fencedOpening treeTable p w N with
  | none => rw [ho] at ow; cases ow
  | some s₀ =>
    rw [ho] at ow
    obtain ⟨h₀, g₀, d₀, k₀, os⟩ := s₀
    simp only [Option.map_some, Option.some.injEq, Prod.mk.injEq] at ow
    obtain ⟨rfl, rfl, rfl, rfl⟩ := ow
    have sz := size w
    simp only [Prod.mk.injEq] at sz
    have al := all w os
    cases hr : topRun treeTable p w m ann M ⟨H w.params, g₀, d₀, k₀, os⟩ (topStub p) with
    | none => rw [hr] at al; cases al
    | some s =>
      rw [hr] at al
      simp only [Option.map_some, Option.some.injEq, Prod.mk.injEq] at al
      obtain ⟨a1, a2, a3⟩ := al
      have r := topRun_mono (N - M) _ _ _ _ hr
      rw [Nat.add_sub_cancel' le] at r
      have tf : topFrom treeTable p w N ⟨H w.params, g₀, d₀, k₀, os⟩ = some s := by
        unfold topFrom
        dsimp only
        rw [sz.1, sz.2.1, sz.2.2, r, Option.bind_some]
        dsimp only
        rw [a1]
      show (openEnds treeTable p w N).map _ = _
      unfold openEnds
      rw [ho]
      show (topFrom treeTable p w N _).map _ = _
      rw [tf, Option.map_some, a2, a3]

theorem opens0 : ∀ w : World, (fencedOpening treeTable PySem.Challenge.pw_pq0470_01 w 6746).map (fun s => (s.heap, s.gens, s.drawn, s.toks)) = some (boot_heap w.params, Array.mk [], boot_drawn, boot_toks) :=
  boot_open (by kernel_rfl) (by kernel_rfl) (fun s => by kernel_rfl)

theorem size0 : ∀ w : World, ((boot_heap w.params).isNs mainGlobals && (#[] : Array GenState).size == 0, (boot_heap w.params).objs.size, (boot_heap w.params).nsMap mainGlobals "__annotations__") = (true, 11, some (.ref 6)) := fun w => by kernel_rfl
/-- the top's run over a tree of objects; its parts are handed in, so that each may be put in another form -/
def runT (stp : SharedT → Thread → Option (SharedT × Thread)) (thr ok : Thread → Bool) : Nat → SharedT → Thread → Option SharedT
  | 0, _, _ => none
  | n + 1, s, t => match thr t with
    | true => some s
    | false => match ok t with
      | false => none
      | true => match stp s t with
        | some x => runT stp thr ok n x.1 x.2
        | none => none
theorem runT_spec {tb : String → Option Builtin} {p : Program} {w : World} {m : Nat} {ann : Option Value} : ∀ (n : Nat) (s r : SharedT) (t : Thread),
    runT (stepT (denote tb) p w) through (stepOk m ann) n s t = some r → topRun tb p w m ann n s.abs t = some r.abs := by
  intro n
  induction n with
  | zero => intro s r t h; cases h
  | succ n ih =>
    intro s r t h
    unfold runT at h
    unfold topRun
    cases ht : through t with
    | true => rw [ht] at h; cases h; rfl
    | false =>
      rw [ht] at h
      dsimp only at h ⊢
      cases hk : stepOk m ann t with
      | false => rw [hk] at h; cases h
      | true =>
        rw [hk] at h
        dsimp only at h ⊢
        cases hs : stepT (denote tb) p w s t with
        | none => rw [hs] at h; cases h
        | some x =>
          obtain ⟨s', t'⟩ := x
          rw [hs] at h
          rw [stepT_spec hs]
          exact ih s' r t' h
def treeOf (l : List Obj) : BT := (l.foldl (fun (x : BT × Nat) o => (x.1.ins x.2 o, x.2 + 1)) (BT.nil, 0)).1
noncomputable def start0 (w : World) (os : OsState) : SharedT := ⟨treeOf (boot_heap w.params).objs.toList, 11, (boot_heap w.params).life, #[], boot_drawn, boot_toks, os⟩
theorem start0_abs (w : World) (os : OsState) : (start0 w os).abs = ⟨boot_heap w.params, #[], boot_drawn, boot_toks, os⟩ := by kernel_rfl
noncomputable def run0 (w : World) (os : OsState) : Option SharedT := runT (stepT (denote treeTable) PySem.Challenge.pw_pq0470_01 w) through (stepOk 11 (some (.ref 6))) 3400 (start0 w os) (topStub PySem.Challenge.pw_pq0470_01)


theorem see_a (w : World) (os : OsState) : (run0 w os).map (fun r => staticsOk (importedModules PySem.Challenge.pw_pq0470_01.main.body) (boot_heap w.params) r.abs.heap && namesBound PySem.Challenge.pw_pq0470_01 r.abs.heap && gensDone r.abs && laidKept (boot_heap w.params) r.abs.heap) = some true := by
  unfold run0 staticsOk namesBound laidKept
  rw [PySem.W.Fast.te10156331382660048174, PySem.W.Fast.te11892475500146522536, PySem.W.Fast.te14364793385576792824, PySem.W.Fast.te6613529449190102663, PySem.W.Fast.te5923862056798008813, PySem.W.Fast.te18344453789297297638, PySem.W.Fast.te12749700546528644094, PySem.W.Fast.te8920871248978507458]
  kernel_rfl

theorem see_b (w : World) (os : OsState) : (run0 w os).map (fun r => (seen ((recsOf q).map (·.name)) (ownsOf q) [] { r.abs with gens := #[] }, r.abs.heap.bltView)) = some (expectedOf q, bltViewBooted) := by
  unfold run0
  rw [PySem.W.Fast.te10156331382660048174, PySem.W.Fast.te11892475500146522536, PySem.W.Fast.te14364793385576792824, PySem.W.Fast.te6613529449190102663, PySem.W.Fast.te5160383126252970620, PySem.W.Fast.te3399658132070893891, PySem.W.Fast.te5991557255702980513]
  kernel_rfl

theorem see_c (w : World) (os : OsState) : (run0 w os).map (fun r => (r.abs.heap.keysOk (looseW q lo) ((recsOf q).map (·.name)) ((litsOf q).map (·.1)) ((clssOf q (looseW q lo)).map (·.name)) && r.abs.heap.accountedOkI (importedModules PySem.Challenge.pw_pq0470_01.main.body) && r.abs.heap.isNs mainGlobals && r.abs.heap.isNs builtinsNs && tablesOk q r.abs.heap && (xlAt q [] r.abs && recOk [] r.abs) && (r.abs.gens.size == 0), tabsOk q r.abs)) = some (true, true) := by
  unfold run0
  rw [PySem.W.Fast.te10156331382660048174, PySem.W.Fast.te11892475500146522536, PySem.W.Fast.te14364793385576792824, PySem.W.Fast.te6613529449190102663, PySem.W.Fast.te10880121769531294198, PySem.W.Fast.te821141287760084731, PySem.W.Fast.te3399658132070893891, PySem.W.Fast.te7409074990110511671, PySem.W.Fast.te13664370479719496447, PySem.W.Fast.te14722251495701143533, PySem.W.Fast.te10994771534591457954, PySem.W.Fast.te479339242167458305, PySem.W.Fast.te5923862056798008813]
  kernel_rfl

theorem see_d (w : World) (os : OsState) : (run0 w os).map (fun r => (pinSeenD q (drecsOf q) r.abs, plainSeenE q (looseW q lo) r.abs, plainSeenD q lo r.abs)) = some (pinGoodD (drecsOf q), plainGoodE q (looseW q lo), plainGoodD q lo) := by
  unfold run0
  rw [PySem.W.Fast.te10156331382660048174, PySem.W.Fast.te11892475500146522536, PySem.W.Fast.te14364793385576792824, PySem.W.Fast.te6613529449190102663, PySem.W.Fast.te16090120013241838585, PySem.W.Fast.te3247288618530077131, PySem.W.Fast.te2386780881361962483, PySem.W.Fast.te821141287760084731, PySem.W.Fast.te11698064438423848299]
  kernel_rfl

theorem see_e (w : World) (os : OsState) : (run0 w os).map (fun r => (wideSeen q r.abs, clsSeenW q lo r.abs)) = some (wideGood q, clsGoodW q lo) := by
  unfold run0
  rw [PySem.W.Fast.te10156331382660048174, PySem.W.Fast.te11892475500146522536, PySem.W.Fast.te14364793385576792824, PySem.W.Fast.te6613529449190102663, PySem.W.Fast.te7317090234206586261, PySem.W.Fast.te7369524293546568484]
  kernel_rfl

theorem said0 : PySem.Challenge.rw_pq0470_01.wellSaid = true := by
  rw [PySem.W.Fast.te9446332074065402090]
  kernel_rfl

end Mine
end
section
open PySem PySem.W PyProof.Rows
namespace Mine
abbrev xt (s : Shared) : Bool := xlAt q [] s && recOk [] s
theorem left2 {α : Type} {Yf : Shared → α} {Ya : World → α} (see : ∀ w os, (run0 w os).map (fun r => Yf r.abs) = some (Ya w)) : LeftO PySem.Challenge.pw_pq0470_01 q lo xt Yf Ya 6746 := by
  refine left_of_run (M := 3400) opens0 size0 (by decide) fun w os => ?_
  have a := see_a w os
  have b := see_b w os
  have c := see_c w os
  have d := see_d w os
  have e := see_e w os
  have y := see w os
  cases hr : run0 w os with
  | none => rw [hr] at y; cases y
  | some r =>
    rw [hr] at a b c d e y
    simp only [Option.map_some, Option.some.injEq] at a y
    simp only [Option.map_some, Option.some.injEq, Prod.mk.injEq] at b c d e
    have t := runT_spec _ _ _ _ hr
    rw [start0_abs] at t
    rw [t, Option.map_some, a, y]
    unfold openSeen openGood
    rw [if_pos rfl]
    rw [b.1, b.2, c.1, c.2, d.1, d.2.1, d.2.2, e.1, e.2]

open Lean in
local macro_rules | `(tactic| o_law) => `(tactic| refine holds_law said0 fun _ => ?_)
open Lean in
local macro_rules | `(tactic| o_head $H:term) => do
  let hl := mkIdent `hl
  let hw := mkIdent `hw
  let hc := mkIdent `hc
  `(tactic| (
    refine holds_open (q := q) (loose := lo) (Xt := xt) (XP := XL q []) (Yf := Hook.obs $H) (Ya := Hook.val $H) (YP := Hook.says $H) (N := 6746) ?$hl (Hook.of $H) (Hook.keeps $H)
      (fun s e => xl_of s (Bool.and_eq_true_iff.mp e).1) XL.keeps (by rfl) (by rfl) (by rfl) (fun s e => recFacts_of (Bool.and_eq_true_iff.mp e).2) (by rfl) (by assumption) (by decide +kernel) ⟨rfl, rfl, rfl, rfl, rfl, by decide +kernel⟩ ?$hw ?$hc
    (case $hl:ident => exact left2 (fun w os => by
      unfold run0
      rw [PySem.W.Fast.te10156331382660048174, PySem.W.Fast.te11892475500146522536, PySem.W.Fast.te14364793385576792824, PySem.W.Fast.te6613529449190102663]
      kernel_rfl))))
open_top hd for PySem.Challenge.rw_pq0470_01
end Mine
end
section
open PySem PySem.Spec PySem.Calls PySem.W PyProof.Rows
namespace Mine
abbrev P0 : Program := PySem.Challenge.rw_pq0470_01.row.prog
noncomputable abbrev K0 (w : World) : Frag := hd.heap_1 w.params
def GrainTells (w : World) (mean : ExcName → Option Value) (mg mb : Str → Option Value) : Prop :=
  ∀ (dp un : Nat) (gd : Option (List Code)) (cn : Str) (cs : Scope) (a : Addr) (ccd : Value) (cl : List (Str × Addr)) (outer : List Env) (A₀ : Around) (base h₀ : Heap) (L : Addr) (m : Str → Option Value) (news : List (Addr × Obj)) (s : Shared)
    (l1 l2 : Addr) (vs : List Value) (ns : List Int) (n1 n2 : Nat) (k : Int) (t : Tok) (many : Int) (tk : Tok) (Q E : Value → Shared → Prop),
    Below A₀ base outer h₀ → Fr h₀ L s.heap m → (K0 w).In h₀ → News h₀ L s.heap ((l1, listOf #[.ref l2, .int k t] n1) :: (l2, listOf vs.toArray n2) :: news) →
    Top q (looseW q lo) mean mg mb h₀ → cs.kind = .function → IntsAre vs ns → ns.length ≤ 40 → l2 ≠ l1 → (∀ p ∈ news, p.1 ≠ l1) → 0 ≤ k → k ≤ 40 → 0 < many → many ≤ 1000 → dp + 1 < recursionLimit → un + 8 < cLine →
    (∀ v t k' t' h' tk', 0 ≤ v → v < many → 0 ≤ k' → k' ≤ 40 → Fr h₀ L h' m → News h₀ L h' ((l1, listOf #[.ref l2, .int k' t'] n1) :: (l2, listOf vs.toArray n2) :: news) → Q (.int v t) { s with heap := h', toks := tk' }) →
    wpAny (model P0 w) (ktrTop dp un gd cn cs L a ccd cl outer) (call (.ref 593) [.ref l1, .int many tk]) Q E s
theorem sand_set {prog : Program} {w : World} {A : Around} {E : Value → Shared → Prop} {s : Shared} {h₀ : Heap} {L l1 l2 : Addr} {m : Str → Option Value} {rest : List (Addr × Obj)} {k x : Int} {t u t' : Tok} {n1 : Nat} {Q : Unit → Shared → Prop}
    (F : Fr h₀ L s.heap m) (N : News h₀ L s.heap ((l1, listOf #[.ref l2, .int k t] n1) :: rest)) (hr : ∀ p ∈ rest, p.1 ≠ l1)
    (h : ∀ h', Fr h₀ L h' m → News h₀ L h' ((l1, listOf #[.ref l2, .int x u] n1) :: rest) → Q () { s with heap := h' }) :
    wpAny (model prog w) A (setItem (.ref l1) (.int 1 t') (.int x u)) Q E s := by
  have z := N (l1, listOf #[.ref l2, .int k t] n1) (.head _)
  refine ki_setAt z.1 (by decide) (by decide) (by show (1 : Int) < 2; decide) (h _ (F.change (Heap.SameBut.update ..) z.2.1 z.2.2) (ki_turn (pre := []) _ N (fun _ h => nomatch h) hr ?_ ?_))
  · rfl
  · rfl
open Lean in
local macro_rules | `(tactic| walk_at "setItem ref int") => `(tactic| (k_here; k_dflt (refine sand_set (by assumption) (by assumption) (List.forall_mem_cons.mpr ⟨by assumption, by assumption⟩) ?_); intro h' F' N'; (try k_sweep)))
theorem grain_tells (w : World) (mean : ExcName → Option Value) (mg mb : Str → Option Value) : GrainTells w mean mg mb := by
  have keep : PySem.Challenge.rw_pq0470_01.row = PySem.Challenge.rw_pq0470_01.row ∧ hd.heap_1 = hd.heap_1 → True := fun _ => trivial
  unfold GrainTells P0 K0
  k_fill
  w_top off
  intro dp un gd cn cs a ccd cl outer A₀ base h₀ L m news s l1 l2 vs ns n1 n2 k t many tk Q E B F X N T hk hi hlen hne hrest h0 h40 hm hm2 hd hu hret
  refine wpAny_call ?_
  k_dflt cell_enter
  k_steps
  all_goals (
    refine' hret _ _ _ _ _ _ ?a ?b ?c ?d ?e ?f
    (case e => k_asm)
    (case f => k_asm)
    (case a => first | exact Int.fmod_nonneg_of_pos _ hm | omega)
    (case b => first | exact Int.fmod_lt_of_pos _ hm | omega)
    (case c => omega)
    (case d => omega))
end Mine
end
section
open PySem PySem.Spec PySem.Calls PySem.W PyProof.Rows
namespace Mine
/-- k is the number of doublings of one that reach n -/
def IsClog (n k : Int) : Prop := 0 ≤ k ∧ n ≤ (2 : Int) ^ k.toNat ∧ (k = 0 ∨ (2 : Int) ^ (k.toNat - 1) < n)
open Classical in
noncomputable def clog (n : Int) : Int := if h : ∃ k, IsClog n k then choose h else 0
theorem pow_mono {a b : Nat} (h : a ≤ b) : (2 : Int) ^ a ≤ (2 : Int) ^ b := by
  have := Nat.pow_le_pow_right (n := 2) (by decide) h
  exact_mod_cast this
theorem clog_one {n k l : Int} (h : IsClog n k) (g : IsClog n l) : k ≤ l := by
  obtain ⟨h0, h1, h2⟩ := h
  obtain ⟨g0, g1, g2⟩ := g
  rcases h2 with rfl | h2
  · exact g0
  · apply Int.not_lt.mp
    intro hl
    have : l.toNat ≤ k.toNat - 1 := by omega
    have := pow_mono this
    omega
theorem clog_is {n k : Int} (h : IsClog n k) : clog n = k := by
  have e : ∃ k, IsClog n k := ⟨k, h⟩
  unfold clog
  rw [dif_pos e]
  exact Int.le_antisymm (clog_one (Classical.choose_spec e) h) (clog_one h (Classical.choose_spec e))
/-- the word of the counting loop: one doubling fewer does not reach n -/
def Cn (n k : Int) : Prop := k = 0 ∨ (2 : Int) ^ (k.toNat - 1) < n
theorem cn_start (n : Int) : (0 : Int) ≤ 0 ∧ (0 : Int) ≤ 20 ∧ Cn n 0 := ⟨by decide, by decide, .inl rfl⟩
theorem cn_turn {n k : Int} (hn : n ≤ 1048576) (h0 : 0 ≤ k) (h1 : k ≤ 20) (hl : (2 : Int) ^ k.toNat < n) : 0 ≤ k + 1 ∧ k + 1 ≤ 20 ∧ Cn n (k + 1) := by
  have hk : k < 20 := by
    apply Int.not_le.mp
    intro hc
    have : k = 20 := by omega
    subst this
    have : (2 : Int) ^ (20 : Int).toNat = 1048576 := by decide
    omega
  refine ⟨by omega, by omega, .inr ?_⟩
  have : (k + 1).toNat - 1 = k.toNat := by omega
  rw [this]
  exact hl
theorem cn_turn1 {n k : Int} (hn : n ≤ 1048576) (h0 : 0 ≤ k) (h1 : k ≤ 20) (hl : 1 * (2 : Int) ^ k.toNat < n) : 0 ≤ k + 1 ∧ k + 1 ≤ 20 ∧ Cn n (k + 1) := cn_turn hn h0 h1 (by rwa [Int.one_mul] at hl)
theorem cn_end {n k : Int} (h0 : 0 ≤ k) (h : Cn n k) (hl : ¬ (2 : Int) ^ k.toNat < n) : clog n = k := clog_is ⟨h0, by omega, h⟩
theorem cn_end1 {n k : Int} (h0 : 0 ≤ k) (h : Cn n k) (hl : ¬ 1 * (2 : Int) ^ k.toNat < n) : k = clog n := (cn_end h0 h (by rwa [Int.one_mul] at hl)).symm
/-- the doubling's word -/
theorem dbl_start (n : Int) : (0 : Int) ≤ 0 ∧ (0 : Int) ≤ 20 ∧ (1 : Int) = 2 ^ (0 : Int).toNat ∧ Cn n 0 := ⟨by decide, by decide, rfl, .inl rfl⟩
theorem dbl_turn {n k r : Int} (hn : n ≤ 1048576) (h0 : 0 ≤ k) (h1 : k ≤ 20) (hr : r = 2 ^ k.toNat) (hl : r < n) : 0 ≤ k + 1 ∧ k + 1 ≤ 20 ∧ r + r = 2 ^ (k + 1).toNat ∧ Cn n (k + 1) := by
  obtain ⟨a, b, c⟩ := cn_turn hn h0 h1 (by omega : (2 : Int) ^ k.toNat < n)
  refine ⟨a, b, ?_, c⟩
  have : (k + 1).toNat = k.toNat + 1 := by omega
  rw [this, Int.pow_succ, hr]
  omega
theorem dbl_end {n k r : Int} (h0 : 0 ≤ k) (h : Cn n k) (hr : r = 2 ^ k.toNat) (hl : ¬ r < n) : k = clog n := (cn_end h0 h (by omega)).symm
theorem clog_bounds {n : Int} (hn : n ≤ 1048576) : 0 ≤ clog n ∧ clog n ≤ 20 := by
  have step : ∀ j : Nat, j ≤ 20 → (∃ k : Int, (0 ≤ k ∧ k ≤ 20 ∧ Cn n k) ∧ ¬ (2 : Int) ^ k.toNat < n) ∨ (0 ≤ (j : Int) ∧ (j : Int) ≤ 20 ∧ Cn n (j : Int)) := by
    intro j
    induction j with
    | zero => intro _; exact .inr (cn_start n)
    | succ j ih =>
      intro hj
      rcases ih (by omega) with h | ⟨a, b, c⟩
      · exact .inl h
      · by_cases hl : (2 : Int) ^ (j : Int).toNat < n
        · exact .inr (by have := cn_turn hn a b hl; exact_mod_cast this)
        · exact .inl ⟨_, ⟨a, b, c⟩, hl⟩
  rcases step 20 (Nat.le_refl _) with ⟨k, ⟨a, b, c⟩, hl⟩ | ⟨a, b, c⟩
  · rw [cn_end a c hl]; exact ⟨a, b⟩
  · have hl : ¬ (2 : Int) ^ (((20 : Nat) : Int)).toNat < n := by
      have : (2 : Int) ^ (((20 : Nat) : Int)).toNat = 1048576 := by decide
      omega
    rw [cn_end a c hl]; exact ⟨a, b⟩
theorem int_back {Q : Value → Shared → Prop} {x y : Int} {t : Tok} {s : Shared} (e : x = y) (h : Q (.int y t) s) : Q (.int x t) s := e ▸ h
def CountTells (w : World) (f : Addr) (mean : ExcName → Option Value) (mg mb : Str → Option Value) : Prop :=
  ∀ (dp un : Nat) (gd : Option (List Code)) (cn : Str) (cs : Scope) (a : Addr) (ccd : Value) (cl : List (Str × Addr)) (outer : List Env) (A₀ : Around) (base h₀ : Heap) (L : Addr) (m : Str → Option Value) (news : List (Addr × Obj)) (s : Shared)
    (n : Int) (tk : Tok) (Q E : Value → Shared → Prop),
    Below A₀ base outer h₀ → Fr h₀ L s.heap m → (K0 w).In h₀ → News h₀ L s.heap news →
    Top q (looseW q lo) mean mg mb h₀ → cs.kind = .function → n ≤ 1048576 → dp + 1 < recursionLimit → un + 8 < cLine →
    (∀ t h' tk', Fr h₀ L h' m → News h₀ L h' news → Q (.int (clog n) t) { s with heap := h', toks := tk' }) →
    wpAny (model P0 w) (ktrTop dp un gd cn cs L a ccd cl outer) (call (.ref f) [.int n tk]) Q E s
theorem bits_tells (w : World) (mean : ExcName → Option Value) (mg mb : Str → Option Value) : CountTells w 482 mean mg mb := by
  have keep : PySem.Challenge.rw_pq0470_01.row = PySem.Challenge.rw_pq0470_01.row ∧ hd.heap_1 = hd.heap_1 → True := fun _ => trivial
  unfold CountTells P0 K0
  k_fill
  w_top off
  intro dp un gd cn cs a ccd cl outer A₀ base h₀ L m news s n tk Q E B F X N T hk hn hd hu hret
  refine wpAny_call ?_
  k_dflt cell_enter
  k_with "exec While Compare cons nil" => k_while_given ["n"] (fun n script k => 0 ≤ k ∧ k ≤ 20 ∧ Cn n k) (fun n script k => (21 - k).toNat) "k"
  k_with "state" => first | exact cn_start _ | exact cn_turn1 (by assumption) (by assumption) (by assumption) (by assumption)
  k_steps
  k_with_none
  all_goals exact int_back (cn_end1 (by assumption) (by assumption) (by assumption)) (hret _ _ _ (by k_asm) (by k_asm))
theorem doubled_tells (w : World) (mean : ExcName → Option Value) (mg mb : Str → Option Value) : CountTells w 600 mean mg mb := by
  have keep : PySem.Challenge.rw_pq0470_01.row = PySem.Challenge.rw_pq0470_01.row ∧ hd.heap_1 = hd.heap_1 → True := fun _ => trivial
  unfold CountTells P0 K0
  k_fill
  w_top off
  intro dp un gd cn cs a ccd cl outer A₀ base h₀ L m news s n tk Q E B F X N T hk hn hd hu hret
  refine wpAny_call ?_
  k_dflt cell_enter
  k_with "exec While Compare cons nil" => k_while_given ["figure"] (fun n script k r => 0 ≤ k ∧ k ≤ 20 ∧ r = 2 ^ k.toNat ∧ Cn n k) (fun n script k r => (21 - k).toNat) "count" "reach"
  k_with "state" => first | exact dbl_start _ | exact dbl_turn (by assumption) (by assumption) (by assumption) (by assumption) (by assumption)
  k_steps
  k_with_none
  all_goals exact int_back (dbl_end (by assumption) (by assumption) (by assumption) (by assumption)) (hret _ _ _ (by k_asm) (by k_asm))
end Mine
end
section
open PySem PySem.Spec PySem.Calls PySem.W PyProof.Rows
namespace Mine
def SandTells (w : World) (mean : ExcName → Option Value) (mg mb : Str → Option Value) : Prop :=
  ∀ (dp un : Nat) (gd : Option (List Code)) (cn : Str) (cs : Scope) (a : Addr) (ccd : Value) (cl : List (Str × Addr)) (outer : List Env) (A₀ : Around) (base h₀ : Heap) (L : Addr) (m : Str → Option Value) (s : Shared)
    (l : Addr) (vs : List Value) (ns : List Int) (Q E : Value → Shared → Prop),
    Below A₀ base outer h₀ → Fr h₀ L s.heap m → (K0 w).In h₀ → News h₀ L s.heap [] →
    Top q (looseW q lo) mean mg mb h₀ → cs.kind = .function → base.IsList l vs.toArray → IntsAre vs ns → ns.length ≤ 63 → dp + 1 < recursionLimit → un + 8 < cLine →
    (∀ (l1 l2 : Addr) (vs : List Value) (ns : List Int) (n1 n2 : Nat) t h' tk', IntsAre vs ns → ns.length ≤ 40 → l2 ≠ l1 → Fr h₀ L h' m → News h₀ L h' [(l1, listOf #[.ref l2, .int 0 t] n1), (l2, listOf vs.toArray n2)] → Q (.ref l1) { s with heap := h', toks := tk' }) →
    wpAny (model P0 w) (ktrTop dp un gd cn cs L a ccd cl outer) (call (.ref 586) [.ref l]) Q E s
theorem news_13 {h₀ h : Heap} {L : Addr} {x y z : Addr × Obj} (N : News h₀ L h [x, y, z]) : News h₀ L h [x, z] := fun p hp => N p (by
  rcases List.mem_cons.mp hp with rfl | hp
  · exact .head _
  · rw [List.mem_singleton.mp hp]; exact .tail _ (.tail _ (.head _)))
theorem sand_tells (w : World) (mean : ExcName → Option Value) (mg mb : Str → Option Value) : SandTells w mean mg mb := by
  have keep : PySem.Challenge.rw_pq0470_01.row = PySem.Challenge.rw_pq0470_01.row ∧ hd.heap_1 = hd.heap_1 → True := fun _ => trivial
  unfold SandTells P0 K0
  k_fill
  w_top off
  intro dp un gd cn cs a ccd cl outer A₀ base h₀ L m s l vs ns Q E B F X N T hk hl hi hlen hd hu hret
  refine wpAny_call ?_
  k_dflt cell_enter
  k_with "pyIter ref" => (k_of "cell" => k_state (fun pre sand => sand.length ≤ 40) "sand")
  k_with "exec While Compare cons nil" => k_while (fun script left sand => sand.length ≤ 40) (fun script left sand => 40 - sand.length) "left" "sand"
  k_steps
  k_with_none
  all_goals (
    refine' hret _ _ _ _ _ _ _ _ _ ?i ?len ?ne ?F (news_13 ?N)
    (case N => k_asm)
    (case F => k_asm)
    (case i => assumption)
    (case len => assumption)
    (case ne => k_ne))
end Mine
end
section
open PySem PySem.Spec PySem.Calls PySem.W PyProof.Rows
namespace Mine
/-- one entry of the ledger, and what is left of it -/
inductive Pick (p : Addr × Obj) : List (Addr × Obj) → List (Addr × Obj) → Prop
  | head {r} : Pick p (p :: r) r
  | tail {q r r'} : Pick p r r' → Pick p (q :: r) (q :: r')
theorem Pick.mem {p : Addr × Obj} {l r : List (Addr × Obj)} (h : Pick p l r) : p ∈ l ∧ ∀ x ∈ r, x ∈ l := by
  induction h with
  | head => exact ⟨.head _, fun _ h => .tail _ h⟩
  | tail _ ih =>
    refine ⟨.tail _ ih.1, fun x hx => ?_⟩
    rcases List.mem_cons.mp hx with rfl | hx
    · exact .head _
    · exact .tail _ (ih.2 x hx)
theorem Pick.news {h₀ h : Heap} {L : Addr} {p : Addr × Obj} {l r : List (Addr × Obj)} (N : News h₀ L h l) (P : Pick p l r) : News h₀ L h (p :: r) := fun x hx => N x (by
  rcases List.mem_cons.mp hx with rfl | hx
  · exact P.mem.1
  · exact P.mem.2 x hx)
theorem Pick.news2 {h₀ h : Heap} {L : Addr} {p p' : Addr × Obj} {l r r' : List (Addr × Obj)} (N : News h₀ L h l) (P : Pick p l r) (P' : Pick p' r r') : News h₀ L h (p :: p' :: r') := fun x hx => by
  have N1 := P.news N
  rcases List.mem_cons.mp hx with rfl | hx
  · exact N1 _ (.head _)
  · exact Pick.news (fun y hy => N1 y (.tail _ hy)) P' x hx
section
variable {w : World} {mean : ExcName → Option Value} {mg mb : Str → Option Value} {dp un : Nat} {gd : Option (List Code)} {cn : Str} {cs : Scope} {a : Addr} {ccd : Value} {cl : List (Str × Addr)} {outer : List Env} {A₀ : Around} {base h₀ : Heap} {L : Addr} {m : Str → Option Value} {s : Shared} {Q E : Value → Shared → Prop}
theorem sand_use {l : Addr} {vs : List Value} {ns : List Int} (C : SandTells w mean mg mb) (B : Below A₀ base outer h₀) (F : Fr h₀ L s.heap m) (X : (hd.heap_1 w.params).In h₀) (N : News h₀ L s.heap []) (T : Top q (looseW q lo) mean mg mb h₀) (hk : cs.kind = .function)
    (hl : base.IsList l vs.toArray) (hi : IntsAre vs ns) (hlen : ns.length ≤ 63) (hd : dp + 1 < recursionLimit) (hu : un + 8 < cLine)
    (ret : ∀ (l1 l2 : Addr) (vs : List Value) (ns : List Int) (n1 n2 : Nat) t h' tk', IntsAre vs ns → ns.length ≤ 40 → l2 ≠ l1 → Fr h₀ L h' m → News h₀ L h' [(l1, listOf #[.ref l2, .int 0 t] n1), (l2, listOf vs.toArray n2)] → Q (.ref l1) { s with heap := h', toks := tk' }) :
    wpAny (model PySem.Challenge.rw_pq0470_01.row.prog w) (ktrTop dp un gd cn cs L a ccd cl outer) (call (.ref 586) [.ref l]) Q E s := C _ _ _ _ _ _ _ _ _ _ _ _ _ _ _ _ _ _ _ _ B F X N T hk hl hi hlen hd hu ret
theorem grain_use {led r1 news : List (Addr × Obj)} {l1 l2 : Addr} {vs : List Value} {ns : List Int} {n1 n2 : Nat} {k : Int} {t : Tok} {many : Int} {tk : Tok} (C : GrainTells w mean mg mb) (B : Below A₀ base outer h₀) (F : Fr h₀ L s.heap m) (X : (hd.heap_1 w.params).In h₀) (N : News h₀ L s.heap led)
    (P1 : Pick (l1, listOf #[.ref l2, .int k t] n1) led r1) (P2 : Pick (l2, listOf vs.toArray n2) r1 news) (T : Top q (looseW q lo) mean mg mb h₀) (hk : cs.kind = .function)
    (hi : IntsAre vs ns) (hlen : ns.length ≤ 40) (hne : l2 ≠ l1) (hrest : ∀ p ∈ news, p.1 ≠ l1) (h0 : 0 ≤ k) (h40 : k ≤ 40) (hm : 0 < many) (hm2 : many ≤ 1000) (hd : dp + 1 < recursionLimit) (hu : un + 8 < cLine)
    (ret : ∀ v t k' t' h' tk', 0 ≤ v → v < many → 0 ≤ k' → k' ≤ 40 → Fr h₀ L h' m → News h₀ L h' ((l1, listOf #[.ref l2, .int k' t'] n1) :: (l2, listOf vs.toArray n2) :: news) → Q (.int v t) { s with heap := h', toks := tk' }) :
    wpAny (model PySem.Challenge.rw_pq0470_01.row.prog w) (ktrTop dp un gd cn cs L a ccd cl outer) (call (.ref 593) [.ref l1, .int many tk]) Q E s :=
  C _ _ _ _ _ _ _ _ _ _ _ _ _ _ news _ _ _ _ _ _ _ _ _ _ _ _ _ B F X (Pick.news2 N P1 P2) T hk hi hlen hne hrest h0 h40 hm hm2 hd hu ret
theorem count_use {f : Addr} {news : List (Addr × Obj)} {n : Int} {tk : Tok} (C : CountTells w f mean mg mb) (B : Below A₀ base outer h₀) (F : Fr h₀ L s.heap m) (X : (hd.heap_1 w.params).In h₀) (N : News h₀ L s.heap news) (T : Top q (looseW q lo) mean mg mb h₀) (hk : cs.kind = .function)
    (hn : n ≤ 1048576) (hd : dp + 1 < recursionLimit) (hu : un + 8 < cLine)
    (ret : ∀ t h' tk', Fr h₀ L h' m → News h₀ L h' news → 0 ≤ clog n → clog n ≤ 20 → Q (.int (clog n) t) { s with heap := h', toks := tk' }) :
    wpAny (model PySem.Challenge.rw_pq0470_01.row.prog w) (ktrTop dp un gd cn cs L a ccd cl outer) (call (.ref f) [.int n tk]) Q E s := C _ _ _ _ _ _ _ _ _ _ _ _ _ _ _ _ _ _ _ _ B F X N T hk hn hd hu fun t h' tk' F' N' => ret t h' tk' F' N' (clog_bounds hn).1 (clog_bounds hn).2
end
theorem addr_ne {a b : Addr} (h : a ≠ b) : @Ne Nat a b := h
end Mine
end
section
open PySem PySem.Spec PySem.Calls PySem.W PyProof.Rows
namespace Mine
abbrev tup (vs : List Value) : Obj := { cls := .type "tuple", data := .seq vs.toArray }
abbrev ent (w : World) (x : String) (t : Tok) (v : Value) : DictEntry := { hash := PyData.keyHash w.params (Str.ofString x), key := .str (Str.ofString x) t, val := v }
theorem mask_low (x : Int) (k : Nat) : Builtin.bitAnd x (1 * 2 ^ k - 1) = x.fmod (2 ^ k) := by rw [Int.one_mul, kbt_maskF]
theorem mask_zero (k : Nat) : Builtin.bitAnd 0 (1 * 2 ^ k - 1) = 0 := by rw [mask_low, Int.zero_fmod]
theorem mask_32 (x : Int) : Builtin.bitAnd x 4294967295 = x.fmod 4294967296 := kbt_maskF x 32
theorem tup_end {h₀ h : Heap} {L D : Addr} {wd x y x' y' : Int} {a1 a2 a3 : Tok} {r news : List (Addr × Obj)} (N : News h₀ L h ((D, tup [.int wd a1, .int x a2, .int y a3]) :: r)) (ex : x = x') (ey : y = y') (sub : ∀ p ∈ news, p ∈ r) :
    News h₀ L h ((D, tup [.int wd a1, .int x' a2, .int y' a3]) :: news) := fun p hp => by
  subst ex; subst ey
  rcases List.mem_cons.mp hp with rfl | hp
  · exact N _ (.head _)
  · exact N p (.tail _ (sub p hp))
theorem allLt_sub {D : Nat} : ∀ {news r : List (Addr × Obj)}, AllLt D r → (∀ p ∈ news, p ∈ r) → AllLt D news
  | [], _, _, _ => trivial
  | p :: _, _, h, hs => ⟨kst_ltOf h p (hs p (.head _)), allLt_sub h fun q hq => hs q (.tail _ hq)⟩
def VecTells (w : World) (mean : ExcName → Option Value) (mg mb : Str → Option Value) : Prop :=
  ∀ (dp un : Nat) (gd : Option (List Code)) (cn : Str) (cs : Scope) (a : Addr) (ccd : Value) (cl : List (Str × Addr)) (outer : List Env) (A₀ : Around) (base h₀ : Heap) (L : Addr) (m : Str → Option Value) (news : List (Addr × Obj)) (s : Shared)
    (t0 t1 : Tok) (wd x : Int) (Q E : Value → Shared → Prop),
    Below A₀ base outer h₀ → Fr h₀ L s.heap m → (K0 w).In h₀ → News h₀ L s.heap news →
    Top q (looseW q lo) mean mg mb h₀ → cs.kind = .function → 1 ≤ wd → wd ≤ 40 → dp + 4 < recursionLimit → un + 32 < cLine →
    (∀ D u0 u1 u2 h' tk', Fr h₀ L h' m → News h₀ L h' ((D, tup [.int wd u0, .int (x.fmod (2 ^ wd.toNat)) u1, .int 0 u2]) :: news) → AllLt D news → Q (.ref D) { s with heap := h', toks := tk' }) →
    wpAny (model P0 w) (ktrTop dp un gd cn cs L a ccd cl outer) (call (.ref 69) [.int wd t0, .int x t1]) Q E s
open Lean in
local macro_rules | `(tactic| walk_at "call ref") => `(tactic| (k_here; k_dflt (refine wpAny_call ?_; refine' code_def ?k1 ?k2 ?k3 ?k4 ?k5 ?kA ?kF ?kK ?k6 ?k7 ?k8 ?k9 ?kB ?_ ?c2 ?c3 ?c4 ?c5; (case kA => exact rfl); (case kF => exact rfl); (case kK => first | exact rfl | assumption); (case k1 => k_asm); (case k2 => k_asm); (case k3 => k_asm); (case k4 => k_asm); (case k5 => k_asm); (case k6 => k_is); (case k7 => k_is); (case k8 => ktr_room); (case k9 => first | exact BindsTo.of_eq rfl | exact binds_K (by k_in) rfl (by k_is) rfl rfl rfl); (case c5 => decide); (case kB => exact locs rfl); (case c2 => exact rfl); (case c3 => exact rfl); (case c4 => exact rfl); k_whole; intro g' L' h' FG' F' N' B' X' T'; (try dsimp only); (try k_lift B'); (try k_fold))))
theorem vec_tells (w : World) (mean : ExcName → Option Value) (mg mb : Str → Option Value) : VecTells w mean mg mb := by
  have keep : PySem.Challenge.rw_pq0470_01.row = PySem.Challenge.rw_pq0470_01.row ∧ hd.heap_1 = hd.heap_1 → True := fun _ => trivial
  unfold VecTells P0 K0
  k_fill
  w_top off
  intro dp un gd cn cs a ccd cl outer A₀ base h₀ L m news s t0 t1 wd x Q E B F X N T hk w0 w1 hd hu hret
  k_steps
  all_goals (
    refine' hret _ _ _ _ _ _ ?F (tup_end ?N (mask_low _ _) (mask_zero _) fun _ h => h) ?l
    (case F => k_asm)
    (case N => k_asm)
    (case l => ktn_lt))
section
variable {w : World} {mean : ExcName → Option Value} {mg mb : Str → Option Value} {dp un : Nat} {gd : Option (List Code)} {cn : Str} {cs : Scope} {a : Addr} {ccd : Value} {cl : List (Str × Addr)} {outer : List Env} {A₀ : Around} {base h₀ : Heap} {L : Addr} {m : Str → Option Value} {s : Shared} {Q E : Value → Shared → Prop}
theorem vec_use {news : List (Addr × Obj)} {t0 t1 : Tok} {wd x : Int} (C : VecTells w mean mg mb) (B : Below A₀ base outer h₀) (F : Fr h₀ L s.heap m) (X : (hd.heap_1 w.params).In h₀) (N : News h₀ L s.heap news) (T : Top q (looseW q lo) mean mg mb h₀) (hk : cs.kind = .function)
    (w0 : 1 ≤ wd) (w1 : wd ≤ 40) (hd : dp + 4 < recursionLimit) (hu : un + 32 < cLine)
    (ret : ∀ D u0 u1 u2 h' tk', Fr h₀ L h' m → News h₀ L h' ((D, tup [.int wd u0, .int (x.fmod (2 ^ wd.toNat)) u1, .int 0 u2]) :: news) → AllLt D news → Q (.ref D) { s with heap := h', toks := tk' }) :
    wpAny (model PySem.Challenge.rw_pq0470_01.row.prog w) (ktrTop dp un gd cn cs L a ccd cl outer) (call (.ref 69) [.int wd t0, .int x t1]) Q E s := C _ _ _ _ _ _ _ _ _ _ _ _ _ _ _ _ _ _ _ _ _ _ B F X N T hk w0 w1 hd hu ret
end
end Mine
end
section
open PySem PySem.Spec PySem.Calls PySem.W PyProof.Rows
namespace Mine
abbrev TimeLed (w : World) (name : String) (e X dX : Addr) (t0 t1 t2 t3 t4 t5 t6 : Tok) (emp st fr : Value) (wd now : Int) (news : List (Addr × Obj)) : List (Addr × Obj) :=
  (e, tup [.str (Str.ofString "sys") t0, .int wd t1, .str (Str.ofString name) t2, emp]) :: (X, instObj 575 dX) :: (dX, dictOf [ent w "store" t3 st, ent w "frame" t4 fr, ent w "now" t5 (.int now t6)] 3) :: news
def TimeTells (w : World) (name : String) (mean : ExcName → Option Value) (mg mb : Str → Option Value) : Prop :=
  ∀ (dp un : Nat) (gd : Option (List Code)) (cn : Str) (cs : Scope) (a : Addr) (ccd : Value) (cl : List (Str × Addr)) (outer : List Env) (A₀ : Around) (base h₀ : Heap) (L : Addr) (m : Str → Option Value) (news : List (Addr × Obj)) (s : Shared)
    (e X dX : Addr) (t0 t1 t2 t3 t4 t5 t6 : Tok) (emp st fr : Value) (wd now : Int) (Q E : Value → Shared → Prop),
    Below A₀ base outer h₀ → Fr h₀ L s.heap m → (K0 w).In h₀ → News h₀ L s.heap (TimeLed w name e X dX t0 t1 t2 t3 t4 t5 t6 emp st fr wd now news) →
    Top q (looseW q lo) mean mg mb h₀ → cs.kind = .function → 1 ≤ wd → wd ≤ 40 → dp + 10 < recursionLimit → un + 100 < cLine →
    (∀ D u0 u1 u2 h' tk', Fr h₀ L h' m → News h₀ L h' ((D, tup [.int wd u0, .int (now.fmod (2 ^ wd.toNat)) u1, .int 0 u2]) :: TimeLed w name e X dX t0 t1 t2 t3 t4 t5 t6 emp st fr wd now news) →
      AllLt D (TimeLed w name e X dX t0 t1 t2 t3 t4 t5 t6 emp st fr wd now news) → Q (.ref D) { s with heap := h', toks := tk' }) →
    wpAny (model P0 w) (ktrTop dp un gd cn cs L a ccd cl outer) (call (.ref 489) [.ref e, .ref X]) Q E s
theorem tup_drop {h₀ h : Heap} {L : Addr} {x y : Addr × Obj} {news : List (Addr × Obj)} (N : News h₀ L h (x :: y :: news)) : News h₀ L h (x :: news) := fun p hp => N p (by
  rcases List.mem_cons.mp hp with rfl | hp
  · exact .head _
  · exact .tail _ (.tail _ hp))
theorem allLt_tail {D : Nat} {p : Addr × Obj} {r : List (Addr × Obj)} (h : AllLt D (p :: r)) : AllLt D r := h.2
section
open Lean in
local macro_rules | `(tactic| walk_at "call ref") => `(tactic| (k_here; k_dflt (refine wpAny_call ?_; refine' code_def ?k1 ?k2 ?k3 ?k4 ?k5 ?kA ?kF ?kK ?k6 ?k7 ?k8 ?k9 ?kB ?_ ?c2 ?c3 ?c4 ?c5; (case kA => exact rfl); (case kF => exact rfl); (case kK => first | exact rfl | assumption); (case k1 => k_asm); (case k2 => k_asm); (case k3 => k_asm); (case k4 => k_asm); (case k5 => k_asm); (case k6 => k_is); (case k7 => k_is); (case k8 => ktr_room); (case k9 => first | exact BindsTo.of_eq rfl | exact binds_K (by k_in) rfl (by k_is) rfl rfl rfl); (case c5 => decide); (case kB => exact locs rfl); (case c2 => exact rfl); (case c3 => exact rfl); (case c4 => exact rfl); k_whole; intro g' L' h' FG' F' N' B' X' T'; (try dsimp only); (try k_lift B'); (try k_fold))))
open Lean in
local macro_rules | `(tactic| walk_at "call ref") => `(tactic| (k_here; (with_reducible show wpAny _ _ (call (Value.ref 69) _) _ _ _); k_dflt (refine' vec_use (vec_tells _ _ _ _) ?k1 ?k2 ?k3 ?k4 ?k5 ?kK ?w0 ?w1 ?kd ?ku ?_; (case k1 => k_asm); (case k2 => k_asm); (case k3 => k_asm); (case k4 => k_asm); (case k5 => k_asm); (case kK => first | exact rfl | assumption); (case w0 => first | assumption | decide); (case w1 => first | assumption | decide); (case kd => ktr_room); (case ku => ktr_units)); intro D u0 u1 u2 h' tk' F' N' l1; (try k_sweep); (try dsimp only)))
theorem time_tells (w : World) (mean : ExcName → Option Value) (mg mb : Str → Option Value) : TimeTells w "$time" mean mg mb := by
  have keep : PySem.Challenge.rw_pq0470_01.row = PySem.Challenge.rw_pq0470_01.row ∧ hd.heap_1 = hd.heap_1 → True := fun _ => trivial
  unfold TimeTells P0 K0 TimeLed
  k_fill
  w_top off
  intro dp un gd cn cs a ccd cl outer A₀ base h₀ L m news s e X dX t0 t1 t2 t3 t4 t5 t6 emp st fr wd now Q E B F X N T hk w0 w1 hd hu hret
  k_steps
  all_goals (
    refine' hret _ _ _ _ _ _ ?F (tup_drop ?N) (allLt_tail ?l)
    (case F => k_asm)
    (case N => k_asm)
    (case l => assumption))
theorem stime_tells (w : World) (mean : ExcName → Option Value) (mg mb : Str → Option Value) : TimeTells w "$stime" mean mg mb := by
  have keep : PySem.Challenge.rw_pq0470_01.row = PySem.Challenge.rw_pq0470_01.row ∧ hd.heap_1 = hd.heap_1 → True := fun _ => trivial
  unfold TimeTells P0 K0 TimeLed
  k_fill
  w_top off
  intro dp un gd cn cs a ccd cl outer A₀ base h₀ L m news s e X dX t0 t1 t2 t3 t4 t5 t6 emp st fr wd now Q E B F X N T hk w0 w1 hd hu hret
  k_steps
  all_goals (
    refine' hret _ _ _ _ _ _ ?F (tup_drop ?N) (allLt_tail ?l)
    (case F => k_asm)
    (case N => k_asm)
    (case l => assumption))
theorem realtime_tells (w : World) (mean : ExcName → Option Value) (mg mb : Str → Option Value) : TimeTells w "$realtime" mean mg mb := by
  have keep : PySem.Challenge.rw_pq0470_01.row = PySem.Challenge.rw_pq0470_01.row ∧ hd.heap_1 = hd.heap_1 → True := fun _ => trivial
  unfold TimeTells P0 K0 TimeLed
  k_fill
  w_top off
  intro dp un gd cn cs a ccd cl outer A₀ base h₀ L m news s e X dX t0 t1 t2 t3 t4 t5 t6 emp st fr wd now Q E B F X N T hk w0 w1 hd hu hret
  k_steps
  all_goals (
    refine' hret _ _ _ _ _ _ ?F (tup_drop ?N) (allLt_tail ?l)
    (case F => k_asm)
    (case N => k_asm)
    (case l => assumption))
end
end Mine
end
section
open PySem PySem.Spec PySem.Calls PySem.W PyProof.Rows
namespace Mine
def rnd (r : Int) : Int := (69069 * r + 1).fmod 4294967296
def rfig (x : Int) : Int := if x < 2147483648 then x else x - 4294967296
abbrev ctxD (w : World) (t3 t4 t5 : Tok) (S : Addr) (fr nv : Value) : Obj := dictOf [ent w "store" t3 (.ref S), ent w "frame" t4 fr, ent w "now" t5 nv] 3
abbrev stoD (w : World) (s1 s2 s3 s4 : Tok) (v1 v2 v3 : Value) (r : Int) (s5 : Tok) : Obj := dictOf [ent w "signals" s1 v1, ent w "values" s2 v2, ent w "memories" s3 v3, ent w "random_seed" s4 (.int r s5)] 4
def RandomTells (w : World) (mean : ExcName → Option Value) (mg mb : Str → Option Value) : Prop :=
  ∀ (dp un : Nat) (gd : Option (List Code)) (cn : Str) (cs : Scope) (a : Addr) (ccd : Value) (cl : List (Str × Addr)) (outer : List Env) (A₀ : Around) (base h₀ : Heap) (L : Addr) (m : Str → Option Value) (news : List (Addr × Obj)) (s : Shared)
    (e X dX S dS : Addr) (t0 t1 t2 t3 t4 t5 s1 s2 s3 s4 s5 : Tok) (emp fr nv v1 v2 v3 : Value) (wd r : Int) (Q E : Value → Shared → Prop),
    Below A₀ base outer h₀ → Fr h₀ L s.heap m → (K0 w).In h₀ → News h₀ L s.heap ((e, tup [.str (Str.ofString "sys") t0, .int wd t1, .str (Str.ofString "$random") t2, emp]) :: (X, instObj 575 dX) :: (dX, ctxD w t3 t4 t5 S fr nv) :: (S, instObj 532 dS) :: (dS, stoD w s1 s2 s3 s4 v1 v2 v3 r s5) :: news) →
    Top q (looseW q lo) mean mg mb h₀ → cs.kind = .function → 1 ≤ wd → wd ≤ 40 → 0 ≤ r → r < 4294967296 → @Ne Nat e dS → @Ne Nat X dS → @Ne Nat dX dS → @Ne Nat S dS → (∀ p ∈ news, p.1 ≠ dS) → dp + 10 < recursionLimit → un + 100 < cLine →
    (∀ D u0 u1 u2 u3 h' tk', Fr h₀ L h' m → News h₀ L h' ((D, tup [.int wd u0, .int ((rfig (rnd r)).fmod (2 ^ wd.toNat)) u1, .int 0 u2]) :: (e, tup [.str (Str.ofString "sys") t0, .int wd t1, .str (Str.ofString "$random") t2, emp]) :: (X, instObj 575 dX) :: (dX, ctxD w t3 t4 t5 S fr nv) :: (S, instObj 532 dS) :: (dS, stoD w s1 s2 s3 s4 v1 v2 v3 (rnd r) u3) :: news) →
      AllLt D ((e, tup [.str (Str.ofString "sys") t0, .int wd t1, .str (Str.ofString "$random") t2, emp]) :: (X, instObj 575 dX) :: (dX, ctxD w t3 t4 t5 S fr nv) :: (S, instObj 532 dS) :: (dS, stoD w s1 s2 s3 s4 v1 v2 v3 (rnd r) u3) :: news) → Q (.ref D) { s with heap := h', toks := tk' }) →
    wpAny (model P0 w) (ktrTop dp un gd cn cs L a ccd cl outer) (call (.ref 489) [.ref e, .ref X]) Q E s
section
open Lean in
local macro_rules | `(tactic| k_room) => `(tactic| ktr_room)
open Lean in
local macro_rules | `(tactic| k_all) => `(tactic| assumption)
theorem random_hi {r : Int} (h : 2147483648 ≤ (69069 * r + 1).fmod 4294967296) : (69069 * r + 1).fmod 4294967296 - 4294967296 = rfig (rnd r) := by
  unfold rfig rnd
  rw [if_neg (by omega)]
theorem random_lo {r : Int} (h : ¬ 2147483648 ≤ (69069 * r + 1).fmod 4294967296) : (69069 * r + 1).fmod 4294967296 = rfig (rnd r) := by
  unfold rfig rnd
  rw [if_pos (by omega)]
theorem random_tells (w : World) (mean : ExcName → Option Value) (mg mb : Str → Option Value) : RandomTells w mean mg mb := by
  have keep : PySem.Challenge.rw_pq0470_01.row = PySem.Challenge.rw_pq0470_01.row ∧ hd.heap_1 = hd.heap_1 → True := fun _ => trivial
  unfold RandomTells P0 K0
  k_fill
  w_top off
  intro dp un gd cn cs a ccd cl outer A₀ base h₀ L m news s e X dX S dS t0 t1 t2 t3 t4 t5 s1 s2 s3 s4 s5 emp fr nv v1 v2 v3 wd r Q E B F X N T hk w0 w1 r0 r1 e1 e2 e3 e4 e5 hd hu hret
  refine wpAny_call ?_
  k_dflt cell_enter
  k_steps
  all_goals (
    first | (have z := random_hi (r := r) (by assumption)) | (have z := random_lo (r := r) (by assumption))
    refine' hret _ _ _ _ _ _ _ ?F (tup_end (news := _ :: _) (tup_drop ?N) ((mask_low _ _).trans (congrArg (fun x => Int.fmod x (2 ^ wd.toNat)) z)) rfl fun _ h => h) (And.right ?l)
    (case F => k_asm)
    (case N => k_asm)
    (case l => assumption))
end
end Mine
end
section
open PySem PySem.Spec PySem.Calls PySem.W PyProof.Rows
namespace Mine
abbrev ClogLed (e X dX p1 p2 : Addr) (t0 t1 t2 t3 t4 t5 t6 : Tok) (oX odX : Obj) (fig unk : Int) (news : List (Addr × Obj)) : List (Addr × Obj) :=
  (e, tup [.str (Str.ofString "sys") t0, .int 32 t1, .str (Str.ofString "$clog2") t2, .ref p1]) :: (p1, tup [.ref p2]) :: (p2, tup [.str (Str.ofString "const") t3, .int 20 t4, .int fig t5, .int unk t6]) :: (X, oX) :: (dX, odX) :: news
def ClogTells (w : World) (unk : Int) (r : Int → Int × Int) (mean : ExcName → Option Value) (mg mb : Str → Option Value) : Prop :=
  ∀ (dp un : Nat) (gd : Option (List Code)) (cn : Str) (cs : Scope) (a : Addr) (ccd : Value) (cl : List (Str × Addr)) (outer : List Env) (A₀ : Around) (base h₀ : Heap) (L : Addr) (m : Str → Option Value) (news : List (Addr × Obj)) (s : Shared)
    (e X dX p1 p2 : Addr) (t0 t1 t2 t3 t4 t5 t6 : Tok) (odX : Obj) (fig : Int) (Q E : Value → Shared → Prop),
    Below A₀ base outer h₀ → Fr h₀ L s.heap m → (K0 w).In h₀ → News h₀ L s.heap (ClogLed e X dX p1 p2 t0 t1 t2 t3 t4 t5 t6 (instObj 575 dX) odX fig unk news) →
    Top q (looseW q lo) mean mg mb h₀ → cs.kind = .function → fig ≤ 1048576 → dp + 10 < recursionLimit → un + 100 < cLine →
    (∀ D u0 u1 u2 h' tk', Fr h₀ L h' m → News h₀ L h' ((D, tup [.int 32 u0, .int (r fig).1 u1, .int (r fig).2 u2]) :: ClogLed e X dX p1 p2 t0 t1 t2 t3 t4 t5 t6 (instObj 575 dX) odX fig unk news) →
      AllLt D (ClogLed e X dX p1 p2 t0 t1 t2 t3 t4 t5 t6 (instObj 575 dX) odX fig unk news) → Q (.ref D) { s with heap := h', toks := tk' }) →
    wpAny (model P0 w) (ktrTop dp un gd cn cs L a ccd cl outer) (call (.ref 489) [.ref e, .ref X]) Q E s
theorem clog_32 {n : Int} (h0 : 0 ≤ clog n) (h1 : clog n ≤ 20) : (clog n).fmod (2 ^ (32 : Int).toNat) = clog n := by
  have e : (2 : Int) ^ (32 : Int).toNat = 4294967296 := by decide
  rw [e, Int.fmod_eq_emod_of_nonneg _ (by decide), Int.emod_eq_of_lt h0 (by omega)]
theorem tup_drop3 {h₀ h : Heap} {L : Addr} {x y1 y2 y3 : Addr × Obj} {news : List (Addr × Obj)} (N : News h₀ L h (x :: y1 :: y2 :: y3 :: news)) : News h₀ L h (x :: news) := fun p hp => N p (by
  rcases List.mem_cons.mp hp with rfl | hp
  · exact .head _
  · exact .tail _ (.tail _ (.tail _ (.tail _ hp))))
theorem allLt_drop3 {D : Nat} {y1 y2 y3 : Addr × Obj} {r : List (Addr × Obj)} (h : AllLt D (y1 :: y2 :: y3 :: r)) : AllLt D r := h.2.2.2
theorem and_drop3 {a b c d : Prop} (h : a ∧ b ∧ c ∧ d) : d := h.2.2.2
section
open Lean in
local macro_rules | `(tactic| k_room) => `(tactic| ktr_room)
open Lean in
local macro_rules | `(tactic| walk_at "call ref") => `(tactic| (k_here; (with_reducible show wpAny _ _ (call (Value.ref 69) _) _ _ _); k_dflt (refine' vec_use (vec_tells _ _ _ _) ?k1 ?k2 ?k3 ?k4 ?k5 ?kK ?w0 ?w1 ?kd ?ku ?_; (case k1 => k_asm); (case k2 => k_asm); (case k3 => k_asm); (case k4 => k_asm); (case k5 => k_asm); (case kK => first | exact rfl | assumption); (case w0 => first | assumption | decide); (case w1 => first | assumption | decide); (case kd => ktr_room); (case ku => ktr_units)); intro D u0 u1 u2 h' tk' F' N' l1; (try k_sweep); (try dsimp only)))
open Lean in
local macro_rules | `(tactic| walk_at "call ref") => `(tactic| (k_here; (with_reducible show wpAny _ _ (call (Value.ref 482) _) _ _ _); k_dflt (refine' count_use (bits_tells _ _ _ _) ?k1 ?k2 ?k3 ?k4 ?k5 ?kK ?w0 ?kd ?ku ?_; (case k1 => k_asm); (case k2 => k_asm); (case k3 => k_asm); (case k4 => k_asm); (case k5 => k_asm); (case kK => first | exact rfl | assumption); (case w0 => first | assumption | decide); (case kd => ktr_room); (case ku => ktr_units)); intro t h' tk' F' N' c0 c1; (try k_sweep); (try dsimp only)))
theorem known_tells (w : World) (mean : ExcName → Option Value) (mg mb : Str → Option Value) : ClogTells w 0 (fun n => (clog n, 0)) mean mg mb := by
  have keep : PySem.Challenge.rw_pq0470_01.row = PySem.Challenge.rw_pq0470_01.row ∧ hd.heap_1 = hd.heap_1 → True := fun _ => trivial
  unfold ClogTells P0 K0 ClogLed
  k_fill
  w_top off
  intro dp un gd cn cs a ccd cl outer A₀ base h₀ L m news s e X dX p1 p2 t0 t1 t2 t3 t4 t5 t6 odX fig Q E B F X N T hk w0 hd hu hret
  refine wpAny_call ?_
  k_dflt cell_enter
  k_steps
  all_goals (
    refine' hret _ _ _ _ _ _ ?F (tup_end (news := _ :: _) (tup_drop3 ?N) (clog_32 (by assumption) (by assumption)) rfl fun _ h => h) (allLt_drop3 ?l)
    (case F => k_asm)
    (case N => k_asm)
    (case l => assumption))
theorem unknown_tells (w : World) (mean : ExcName → Option Value) (mg mb : Str → Option Value) : ClogTells w 1 (fun _ => ((2 : Int) ^ Int.toNat 32 - 1, (2 : Int) ^ Int.toNat 32 - 1)) mean mg mb := by
  have keep : PySem.Challenge.rw_pq0470_01.row = PySem.Challenge.rw_pq0470_01.row ∧ hd.heap_1 = hd.heap_1 → True := fun _ => trivial
  unfold ClogTells P0 K0 ClogLed
  k_fill
  w_top off
  intro dp un gd cn cs a ccd cl outer A₀ base h₀ L m news s e X dX p1 p2 t0 t1 t2 t3 t4 t5 t6 odX fig Q E B F X N T hk w0 hd hu hret
  refine wpAny_call ?_
  k_dflt cell_enter
  k_steps
  all_goals (
    refine' hret _ _ _ _ _ _ ?F (tup_end (news := _ :: _) (tup_drop3 ?N) ?e1 ?e2 fun _ h => h) (and_drop3 ?l)
    (case F => k_asm)
    (case N => k_asm)
    (case e1 => exact congrArg (· - 1) (Int.one_mul _))
    (case e2 => exact congrArg (· - 1) (Int.one_mul _))
    (case l => assumption))
end
end Mine
end
section
open PySem PySem.Spec PySem.Calls PySem.W PyProof.Rows
namespace Mine
/-- an exception on its way: what lies beneath stands, the frames stand, and e bears its class, its dict, and a traceback whose flight is fl -/
structure Fly (base : Heap) (l : List Env) (e : Addr) (cls : Value) (d : Option Addr) (fl : Value) (h : Heap) : Prop where
  stays : base.StaysIn h
  new : base.get? e = none
  frames : h.FunFrames base l
  there : ∃ oe vs T oT ts, h.get? e = some oe ∧ oe.cls = cls ∧ oe.dict = d ∧ oe.data = .fields vs ∧ vs[1]? = some (.ref T) ∧ base.get? T = none ∧ T ≠ e ∧ h.get? T = some oT ∧ oT.data = .fields ts ∧ ts[3]? = some fl
theorem dict_mapFields (o : Obj) (f) : (o.mapFields f).dict = o.dict := by
  obtain ⟨c, d, dt, sl⟩ := o; cases dt <;> rfl
section
variable {M : Model} {A : Around} {E : Value → Shared → Prop} {s : Shared} {base : Heap} {env : Env} {outer : List Env} {L e : Addr} {Q : Unit → Shared → Prop}
/-- a new entry at the traceback's head -/
theorem st_entry {oe : Obj} {vs : Array Value} {head : Value} {had : Bool} (hfr : A.frames = some (env :: outer)) (hl : s.heap.FunFrames base (env :: outer)) (hf : env.frame = some L)
    (hb : base.StaysIn s.heap) (hn : base.get? e = none) (he : s.heap.get? e = some oe) (hd : oe.data = .fields vs) (hsz : 1 < vs.size)
    (h : ∀ h', Fly base (env :: outer) e oe.cls oe.dict (rawInt L) h' → s.heap.UpToSlots h' → Q () { s with heap := h' }) :
    wpAny M A (do let a ← frameOf env; let pl ← entryPlaceOf L had; let b ← EntryCells.newEntry head a .none (rawInt L) .none pl; setField (.ref e) 1 b) Q E s := by
  refine wpAny_bind (wpAny_frameOf_fun hfr hl hf fun h₁ k => wpAny_bind (wpAny_entryPlaceOf fun pl hpl => ?_))
  have out : e ∉ (env :: outer).filterMap (·.frame) := fun hm => by
    obtain ⟨_, o, ho, no⟩ := hl.mem hm
    rw [he] at ho
    exact no vs (Option.some.inj ho ▸ hd)
  have he₁ : h₁.get? e = some oe := (k.2.1 e out).trans he
  have hb₁ : base.StaysIn h₁ := fun b o q => (k.2.1 b fun hm => by rw [(hl.mem hm).1] at q; cases q).trans (hb b o q)
  have third : ([head, .ref L, .none, rawInt L, .none] ++ (if pl.isEmpty then List.replicate 6 Value.none else pl)).toArray[3]? = some (rawInt L) := by
    rcases hpl with rfl | ⟨_, _, _, _, _, _, _, rfl⟩ <;> rfl
  unfold EntryCells.newEntry newFields
  refine wpAny_bind (wpAny_newObj_type ?_ (hpl.sizeOk5 _ _ _ _ _))
  generalize ([head, .ref L, .none, rawInt L, .none] ++ (if pl.isEmpty then List.replicate 6 Value.none else pl)).toArray = ts at third ⊢
  have push {b o} (q : h₁.get? b = some o) := Heap.get?_push_of_some (h := h₁) ({ cls := .type "traceback", data := .fields ts } : Obj) q
  have hT : (h₁.push ({ cls := .type "traceback", data := .fields ts } : Obj)).get? h₁.objs.size = some { cls := .type "traceback", data := .fields ts } := Heap.get?_push_size h₁ rfl
  have lt : h₁.objs.size ≠ e := Nat.ne_of_gt (Heap.lt_size he₁)
  have oth : ∀ b, b ≠ e → ((h₁.push ({ cls := .type "traceback", data := .fields ts } : Obj)).update e (Obj.mapFields (·.setIfInBounds 1 (.ref h₁.objs.size)))).get? b = (h₁.push ({ cls := .type "traceback", data := .fields ts } : Obj)).get? b := fun b q => Heap.get?_update_other _ _ (Ne.symm q)
  have dat := Obj.data_mapFields hd (·.setIfInBounds 1 (.ref h₁.objs.size))
  have plain : ∀ b o, s.heap.get? b = some o → (∀ vs, o.data ≠ .fields vs) → b ≠ e := fun b o q no z => by
    rw [z, he] at q
    exact no vs (Option.some.inj q ▸ hd)
  refine wpAny_setField (push he₁) hd hsz (h _ ⟨fun b o q => ?_, hn, hl.of_keeps fun b o q no => ?_, ?_⟩ fun b o q no => ?_)
  · exact (oth b fun z => by rw [z, hn] at q; cases q).trans (push (hb₁ b o q))
  · obtain ⟨sl, q₁⟩ := k.2.2 b o q
    exact ⟨_, (oth b (plain b o q no)).trans (push q₁), rfl⟩
  · refine ⟨_, _, h₁.objs.size, _, ts, Heap.get?_update_self _ (push he₁) (Obj.isFreed_of_fields dat), Obj.cls_mapFields _ _, dict_mapFields _ _, dat, ?_, hb₁.fresh, lt, (oth _ lt).trans hT, rfl, third⟩
    simp [hsz]
  · obtain ⟨sl, q₁⟩ := k.2.2 b o q
    exact ⟨sl, (oth b (plain b o q no)).trans (push q₁)⟩
/-- the flight's mark is taken off -/
theorem st_land {l : List Env} {cls fl : Value} {d : Option Addr} (x : Fly base l e cls d fl s.heap) (h : ∀ h', Fly base l e cls d .none h' → s.heap.UpToSlots h' → Q () { s with heap := h' }) :
    wpAny M A (setFlight (.ref e) none) Q E s := by
  obtain ⟨hb, hn, hl, oe, vs, T, oT, ts, he, hc, hdd, hd, h1, hnT, hTe, hT, hdT, h3⟩ := x
  have size : 3 < ts.size := (Array.getElem?_eq_some_iff.mp h3).1
  have oth : ∀ b, b ≠ T → (s.heap.update T (Obj.mapFields (·.setIfInBounds 3 Value.none))).get? b = s.heap.get? b := fun b q => Heap.get?_update_other _ _ (Ne.symm q)
  have plain : ∀ b o, s.heap.get? b = some o → (∀ vs, o.data ≠ .fields vs) → b ≠ T := fun b o q no z => by
    rw [z, hT] at q
    exact no ts (Option.some.inj q ▸ hdT)
  have dat := Obj.data_mapFields hdT (·.setIfInBounds 3 Value.none)
  unfold setFlight
  refine wpAny_bind (wpAny_field he hd h1 ?_)
  rw [if_pos (by simp)]
  refine wpAny_setField hT hdT size (h _ ⟨fun b o q => ?_, hn, hl.of_keeps fun b o q no => ?_, ?_⟩ fun b o q no => ?_)
  · exact (oth b fun z => by rw [z, hnT] at q; cases q).trans (hb b o q)
  · exact ⟨o, (oth b (plain b o q no)).trans q, rfl⟩
  · exact ⟨oe, vs, T, _, _, (oth e (Ne.symm hTe)).trans he, hc, hdd, hd, h1, hnT, hTe, Heap.get?_update_self _ hT (Obj.isFreed_of_fields dat), dat, by simp [size]⟩
  · exact ⟨o.slots, (oth b (plain b o q no)).trans q⟩
/-- the first frame is left -/
theorem st_leave {oe : Obj} {vs : Array Value} (hfr : A.frames = some (env :: outer)) (hl : s.heap.FunFrames base (env :: outer)) (hf : env.frame = some L)
    (hb : base.StaysIn s.heap) (hn : base.get? e = none) (he : s.heap.get? e = some oe) (hd : oe.data = .fields vs) (h1 : vs[1]? = some .none)
    (h : ∀ h', Fly base outer e oe.cls oe.dict .none h' → s.heap.UpToSlots h' → Q () { s with heap := h' }) :
    wpAny M A (leaving env (.ref e)) Q E s := by
  unfold leaving noteFrame
  simp only [hf]
  refine wpAny_bind (wpAny_bind (wpAny_field he hd h1 ?_))
  rw [if_neg (by decide)]
  refine st_entry hfr hl hf hb hn he hd (Array.getElem?_eq_some_iff.mp h1).1 fun h₁ x u => ?_
  refine st_land (s := { s with heap := h₁ }) x fun h₂ y v => h h₂ ⟨y.stays, y.new, y.frames.2.2, y.there⟩ (u.trans v)
/-- a frame beneath looks at it -/
theorem st_note {cls : Value} {d : Option Addr} (hfr : A.frames = some (env :: outer)) (hf : env.frame = some L) (x : Fly base (env :: outer) e cls d .none s.heap)
    (h : ∀ h', Fly base (env :: outer) e cls d (rawInt L) h' → s.heap.UpToSlots h' → Q () { s with heap := h' }) : wpAny M A (noteFrame (.ref e) env) Q E s := by
  obtain ⟨hb, hn, hl, oe, vs, T, oT, ts, he, hc, hdd, hd, h1, hnT, hTe, hT, hdT, h3⟩ := x
  subst hc; subst hdd
  have oth : ∀ b, b ≠ T → (s.heap.update T (Obj.mapFields (·.setIfInBounds 3 Value.none))).get? b = s.heap.get? b := fun b q => Heap.get?_update_other _ _ (Ne.symm q)
  have plain : ∀ b o, s.heap.get? b = some o → (∀ vs, o.data ≠ .fields vs) → b ≠ T := fun b o q no z => by
    rw [z, hT] at q
    exact no ts (Option.some.inj q ▸ hdT)
  unfold noteFrame
  simp only [hf]
  refine wpAny_bind (wpAny_field he hd h1 ?_)
  rw [if_pos (by simp)]
  refine wpAny_bind (wpAny_field hT hdT h3 ?_)
  rw [if_neg (by simp [rawInt])]
  refine wpAny_bind (wpAny_setField hT hdT (Array.getElem?_eq_some_iff.mp h3).1 ?_)
  refine st_entry (s := { s with heap := s.heap.update T (Obj.mapFields (·.setIfInBounds 3 Value.none)) }) hfr (hl.of_keeps fun b o q no => ⟨o, (oth b (plain b o q no)).trans q, rfl⟩) hf
    (fun b o q => (oth b fun z => by rw [z, hnT] at q; cases q).trans (hb b o q)) hn ((oth e (Ne.symm hTe)).trans he) hd (Array.getElem?_eq_some_iff.mp h1).1 fun h₁ y u => h h₁ y fun b o q no => ?_
  exact u b o ((oth b (plain b o q no)).trans q) no
end
end Mine
end
section
open PySem PySem.Spec PySem.Calls PySem.W PyProof.Rows
namespace Mine
/-- it has left the frames ahead of l; the ledger stands as it stood -/
def RaisedD (base : Heap) (l : List Env) (e : Addr) (cls : Value) (d : Option Addr) (news : List (Addr × Obj)) (h : Heap) : Prop :=
  ∃ B, base.StaysIn B ∧ (∀ q ∈ news, B.get? q.1 = some q.2 ∧ base.get? q.1 = none) ∧ Fly B l e cls d .none h
section
variable {M : Model} {A : Around} {E : Value → Shared → Prop} {s' : Shared} {base g : Heap} {outer : List Env} {L a e : Addr} {m : Str → Option Value} {name : Str} {scope : Scope} {cd : Value} {Q : Unit → Shared → Prop} {news : List (Addr × Obj)}
theorem leaveD {cls : Value} {d : Option Addr} {vs : Array Value} {sl : Array (Option Value)} (K : Below A base outer g) (F : Fr g L s'.heap m) (N : News g L s'.heap ((e, ⟨cls, d, .fields vs, sl⟩) :: news)) (hne : ∀ q ∈ news, q.1 ≠ e) (h1 : vs[1]? = some .none)
    (hQ : ∀ h', RaisedD base outer e cls d news h' → g.UpToSlots h' → Q () { s' with heap := h' }) (hk : scope.kind = .function := by rfl) :
    wpAny M (A.deeper (envOf name scope L a cd)) (leaving (envOf name scope L a cd) (.ref e)) Q E s' := by
  have K' := K.push (name := name) (a := a) (cd := cd) F hk
  have me := N _ (.head _)
  have none_of : ∀ b, g.get? b = none → base.get? b = none := fun b q => fresh_of_stays K.stays q
  have hid : ∀ env ∈ (envOf name scope L a cd :: outer), ∀ b, env.frame = some b → b ∈ e :: (envOf name scope L a cd :: outer).filterMap (·.frame) := fun env he b hb => .tail _ (List.mem_filterMap.mpr ⟨env, he, hb⟩)
  have off : ∀ q ∈ news, q.1 ∉ e :: (envOf name scope L a cd :: outer).filterMap (·.frame) := fun q hq hm => by
    rcases List.mem_cons.mp hm with z | hm
    · exact hne q hq z
    · obtain ⟨env, he, hf⟩ := List.mem_filterMap.mp hm
      have nq := N q (.tail _ hq)
      rcases List.mem_cons.mp he with rfl | he
      · exact nq.2.1 (Option.some.inj hf).symm
      · obtain ⟨o, ho, _⟩ := (K.frames.mem (List.mem_filterMap.mpr ⟨env, he, hf⟩)).2
        rw [nq.2.2] at ho; cases ho
  refine st_leave (base := hideAll s'.heap (e :: (envOf name scope L a cd :: outer).filterMap (·.frame))) K'.stack (funFrames_hide K'.frames hid) rfl (fun b o q => of_hideAll _ q) (hideAll_none _ (.head _)) me.1 rfl h1 fun h' x u =>
    hQ h' ⟨_, fun b o q => hideAll_get _ (K'.stays b o q) fun hm => ?_, fun q hq => ⟨hideAll_get _ (N q (.tail _ hq)).1 (off q hq), none_of _ (N q (.tail _ hq)).2.2⟩, x⟩ ((Heap.UpToSlots.of_keeps F.keep).trans u)
  rcases List.mem_cons.mp hm with rfl | hm
  · rw [none_of _ me.2.2] at q; cases q
  · rw [(K'.frames.mem hm).1] at q; cases q
end
section
variable {prog : Program} {w : World} {A₀ : Around} {E : Value → Shared → Prop} {s' : Shared} {h₀ h : Heap} {outer : List Env} {L a e C d : Addr} {m : Str → Option Value} {name : Str} {scope : Scope} {cd : Value}
  {n : Str} {b₀ : Stmt} {suite : List Stmt} {pos np : Pos} {rest : List ExceptHandler} {Q : Flow → Shared → Prop} {news : List (Addr × Obj)} {KF : Frag}
  {p : Program} {loose : List Str} {mg mb : Str → Option Value} {x : Str}
  {nm q : Str} {N : Addr} {bs bm : List Value} {hdct : Bool} {sn : List Str} {sub : List Value} {ab : Bool} {col : Option Bool} {dd : Option Addr} {k0 k1 k2 k3 k5 : Option Value} {newId : String}
theorem caughtD (K : Below A₀ h₀ outer h₀) (F : Fr h₀ L h m) (hsm : h.UpToSlots s'.heap) (R : RaisedD h₀ (envOf name scope L a cd :: outer) e (.ref C) (some d) news s'.heap)
    (X : KF.In h₀) (T : TopRead p loose mg mb h₀) (ex : nsIn KF mainGlobals x = some (some (.ref C))) (hC : KF.lookup C = some (excClassObj nm q C N bs bm hdct sn sub ab col dd k0 k1 k2 k3 k5 newId)) (hbase : bm.contains (.type "BaseException") = true)
    (k : ∀ h' ws sl tk, Fr h₀ L h' (fun y => if y = n then some (.ref e) else m y) → News h₀ L h' ((e, (⟨.ref C, some d, .fields ws, sl⟩ : Obj)) :: news) →
      wpAny (model prog w) ((A₀.deeper (envOf name scope L a cd)).mark (some (.ref e))) (execs (b₀ :: suite) (envOf name scope L a cd))
        (fun f s₄ => wpAny (model prog w) (A₀.deeper (envOf name scope L a cd)) (do bindName (envOf name scope L a cd) n .none; unbindBehindTheSuite (envOf name scope L a cd) n pos) (fun _ s₅ => Q f s₅) E s₄)
        (AsSuiteRaised (model prog w) ((A₀.deeper (envOf name scope L a cd)).mark (some (.ref e))) (envOf name scope L a cd) n pos (notedBy (model prog w) ((A₀.deeper (envOf name scope L a cd)).mark (some (.ref e))) (envOf name scope L a cd) (cameBackBy (model prog w) (A₀.deeper (envOf name scope L a cd)) (envOf name scope L a cd) E)))
        { s' with heap := h', toks := tk })
    (hk : scope.kind = .function := by rfl) (hlo : (envOf name scope L a cd).kindOf n = some .local := by rfl) (hx : (envOf name scope L a cd).kindOf x = some .globalImplicit := by rfl) (hdb : (x == ("__debug__" : Str)) = false := by decide) :
    wpAny (model prog w) (A₀.deeper (envOf name scope L a cd)) (noteFrame (.ref e) (envOf name scope L a cd))
      (fun _ s₂ => wpAny (model prog w) (A₀.deeper (envOf name scope L a cd)) (setFlight (.ref e) none) (fun _ s₃ =>
        wpAny (model prog w) (A₀.deeper (envOf name scope L a cd)) (handleBy (.ref e) (envOf name scope L a cd) (.ExceptHandler (some (.Name x np)) (some n) (b₀ :: suite) pos :: rest)) Q E s₃) E s₂) E s' := by
  obtain ⟨B, hB, hl, fly⟩ := R
  refine st_note (Around.frames_deeper K.stack) rfl fly fun h₁ f₁ u₁ => ?_
  refine st_land (s := { s' with heap := h₁ }) f₁ fun h₂ f₂ u₂ => ?_
  have st₂ : h₀.StaysIn h₂ := fun b o z => f₂.stays b o (hB b o z)
  have F₂ := F.of_stays st₂ (hsm.trans (u₁.trans u₂))
  obtain ⟨oe, _, _, _, _, he, hcls, _⟩ := f₂.there
  refine wpAny_handleBy_cons (codeAny_handlers_test (name_K F₂ X T ex ?_ hk hx hdb)) (by intro q; cases q)
  refine wpAny_excMatches_sub_self (st₂ _ _ (X _ _ hC)) he hcls hbase (codeAny_handlers_suite_as ?_)
  refine st_land (s := { s' with heap := h₂ }) f₂ fun h₃ f₃ u₃ => ?_
  have st₃ : h₀.StaysIn h₃ := fun b o z => f₃.stays b o (hB b o z)
  have F₃ := F.of_stays st₃ (hsm.trans (u₁.trans (u₂.trans u₃)))
  have hL : B.get? L = none := by
    obtain ⟨_, ⟨L', _, hf, hn', _⟩, _⟩ := fly.frames
    obtain rfl : L = L' := Option.some.inj hf
    exact hn'
  obtain ⟨oe, vs, _, _, _, he, hcls, hdict, hdat, _⟩ := f₃.there
  obtain ⟨oc, od, oda, osl⟩ := oe
  dsimp only at hcls hdict hdat
  subst hcls; subst hdict; subst hdat
  have ne : e ≠ L := fun z => by
    obtain ⟨o, es, ep, ho, hd, _⟩ := F₃.ns
    rw [← z, he] at ho
    cases ho
    cases hd
  have N₃ : News h₀ L h₃ ((e, (⟨.ref C, some d, .fields vs, osl⟩ : Obj)) :: news) := fun q hq => by
    rcases List.mem_cons.mp hq with rfl | hq
    · exact ⟨he, ne, fresh_of_stays hB f₃.new⟩
    · exact ⟨f₃.stays _ _ (hl q hq).1, (fun z => by have := (hl q hq).1; rw [z, hL] at this; cases this), (hl q hq).2⟩
  exact stN F₃ N₃ (fun h₄ F₄ N₄ => k h₄ _ _ _ F₄ N₄) hk hlo
end
end Mine
end
section
open PySem PySem.Spec PySem.Calls PySem.W PyProof.Rows
namespace Mine
abbrev excO (C : Addr) (d : Option Addr) (t : Addr) : Obj := { cls := .ref C, dict := d, data := .fields #[.ref t, .none, .none, .none, .bool false, .none] }
abbrev tupO (vs : List Value) : Obj := { cls := .type "tuple", data := .seq vs.toArray }
section
variable {prog : Program} {w : World} {A : Around} {E : Value → Shared → Prop} {h : Heap} {g : Array GenState} {d : Drawn} {t : Nat} {os : OsState} {R : Result → Shared → Prop}
variable {nm q : Str} {C N : Addr} {bs bm bmB : List Value} {sn : List Str} {sub : List Value} {ab : Bool} {col : Option Bool} {dd : Option Addr} {k0 k1 k2 k3 k5 : Option Value} {B newId initId : String} {KF : Frag}
/-- BaseException.__new__ upon a class whose order is told by three looks -/
theorem new_exc (F : ExcBaseFacts B newId initId bmB) (cB : bm.contains (.type B) = true) (cA : bm.contains (.type "AttributeError") = false) (cN : bm.contains (.type "NameError") = false) {rest : List Value}
    (hC : h.get? C = some (excClassObj nm q C N bs bm true sn sub ab col dd k0 k1 k2 k3 k5 newId)) (hrest : rest.length ≤ sizeLine)
    (hq : R (.ok (.ret (.ref (h.objs.size + 1)))) ⟨(h.push (tupO rest)).push (excO C none h.objs.size), g, d, t, os⟩) :
    codeAny (model prog w) A (.call (.builtin newId) ⟨.ref C :: rest, []⟩) R ⟨h, g, d, t, os⟩ := by
  have iB : (Value.ref C :: bm).contains (.type B) = true := by rw [List.contains_cons, cB, Bool.or_true]
  have iA : (Value.ref C :: bm).contains (.type "AttributeError") = false := by rw [List.contains_cons, cA]; rfl
  have iN : (Value.ref C :: bm).contains (.type "NameError") = false := by rw [List.contains_cons, cN]; rfl
  have hends := F.ends
  have hstar := F.noStar
  refine codeAny_call_builtin_code (Code.quiet_builtin _ F.quiet) ?_
  simp only [checkBuiltinCall, F.newKind, F.newSplit, F.newRow]
  repeat (first | refine wpAny_loadPart_at hC ?_ | (refine wpAny_isSubtype_exc hC ?_; rw [iB]) | refine wpAny_staticBase_exc hC ?_ | refine wpAny_madeBy_exc hC ?_ | simp only [bne_self_eq_false, Bool.false_eq_true, if_false] | wp_step)
  refine codeAny_builtinAt F.entry ?_
  unfold Builtin.«BaseException.__new__»
  refine PySem.wpAt_bind ?_
  show PySem.wpAt _ _ _ (stack >>= _) _ _ _
  refine PySem.wpAt_bind (PySem.wpAt_stack fun p below => PySem.wpAt_of_wpAny ?_)
  wp_walk
  refine PySem.wpAt_of_wpAny ?_
  rw [F.owner]
  repeat (first | with_reducible refine wpAny_madeHere_exc F.canon hC ?_ | with_reducible refine wpAny_loadPart_at hC ?_ | (with_reducible refine wpAny_isSubtype_exc hC ?_; first | rw [iB] | rw [iA] | rw [iN]) | wp_step)
  show R _ _
  rw [Heap.size_push]
  exact hq
/-- the class called, with an __init__ of the text's own -/
theorem make_exc {s : Shared} {h₀ : Heap} {L : Addr} {m : Str → Option Value} {news : List (Addr × Obj)} {fI : Addr} {rest : List Value} (FB : ExcBaseFacts B newId initId bmB) (F : Fr h₀ L s.heap m) (NW : News h₀ L s.heap news) (X : KF.In s.heap)
    (hC : KF.lookup C = some (excClassObj nm q C N bs bm true sn sub ab col dd k0 k1 k2 k3 k5 newId)) (cB : bm.contains (.type B) = true) (cA : bm.contains (.type "AttributeError") = false) (cN : bm.contains (.type "NameError") = false)
    (hi : findIn KF (.ref C) "__init__" = some (some (.ref fI))) (hf : typeIn KF (.ref fI) = some (.type "function")) (hcall : specialIn KF (.ref C) "__call__" = some (some (.builtin "type.__call__"))) (htyp : instIn KF (.ref C) (.type "type") = some true)
    (hrest : rest.length ≤ sizeLine)
    (k : ∀ x u h', Fr h₀ L h' m → News h₀ L h' ((x, excO C none u) :: (u, tupO rest) :: news) → (∀ p ∈ news, p.1 < u) → u < x →
      codeAny (model prog w) (A.under (.builtin "type.__call__" ⟨.ref C :: rest, []⟩)) (.call (.ref fI) ⟨.ref x :: rest, []⟩) (InitBack x R) { s with heap := h' }) :
    codeAny (model prog w) A (.call (.ref C) ⟨rest, []⟩) R s := by
  obtain ⟨h, g, d, t, os⟩ := s
  have cls : h.get? C = some _ := X _ _ hC
  have call : Looks (model prog w) h (specialOf (.ref C) "__call__") (some (.builtin "type.__call__")) := looks_specialIn X hcall
  have typ : Looks (model prog w) h (isInstance (.ref C) (.type "type")) true := looks_instIn X htyp
  have init : Looks (model prog w) h (typeLookup (.ref C) "__init__") (some (.ref fI)) := looks_findIn X hi
  have bind : ∀ self, Looks (model prog w) h (bindSpecial (.ref fI) self) (.ref fI, [self]) := fun self => bind_fn X self hf
  refine codeAny_of_tree ?_
  show wpAny _ _ (callAny (.ref C) _) _ _ _
  refine nd_load cls ?_
  show wpAny _ _ (callAny.viaDunder (.ref C) _) _ _ _
  unfold callAny.viaDunder
  refine wpAny_bind (call.at ?_)
  dsimp only
  rw [tc_bind]
  refine wpAny_bind (wpAny_pure (wpAny_bind (wpAny_pure ?_)))
  refine wpAny_pure (a := Fin.again (.call (.builtin "type.__call__") ⟨.ref C :: rest, []⟩)) (And.intro rfl ?_)
  refine codeAny_call_builtin_at (Code.quiet_builtin _ (by decide +kernel)) entry_typeCall (check_slot tc_kind tc_split typ (tc_args _ _ _) ?_)
  repeat (first | with_reducible refine wpAny_loadPart_at cls ?_ | with_reducible refine wpAny_madeBy_exc cls ?_ | wp_step)
  refine new_exc FB cB cA cN cls hrest ?_
  show wpAny _ _ _ _ _ _
  have keep : ∀ b o, h.get? b = some o → ((h.push (tupO rest)).push (excO C none h.objs.size)).get? b = some o := fun b o e => Heap.get?_push_of_some _ (Heap.get?_push_of_some _ e)
  have cls₁ := keep _ _ cls
  have N₁ := (NW.push F (tupO rest)).push (F.push _) (excO C none h.objs.size)
  rw [Heap.size_push] at N₁
  have hx := (N₁ _ (.head _)).1
  have self : (Value.ref C :: bm).contains (.ref C) = true := by simp
  have t1 : Looks (model prog w) ((h.push (tupO rest)).push (excO C none h.objs.size)) (typeOf (.ref (h.objs.size + 1))) (.ref C) := (Looks.ld hx).andThen .now
  have i1 := init.keeps keep
  have b1 := (bind (.ref (h.objs.size + 1))).keeps keep
  unfold isInstance callSpecial? specialOf
  repeat (first | with_reducible refine wpAny_call ?_ | (with_reducible refine wpAny_isSubtype_exc cls₁ ?_; rw [self]) | lk | wp_step)
  refine codeAny_mono (k _ h.objs.size _ ((F.push _).push _) N₁ (fun p hp => Heap.lt_size (NW p hp).1) (Nat.lt_succ_self _)) fun r s' z => ?_
  rcases r with e | (v | _ | _ | _) <;> first | exact z | exact z.elim | skip
  obtain ⟨rfl, z⟩ := z
  exact wpAny_pure (wpAny_pure z)
end
end Mine
end
section
open PySem PySem.Spec PySem.Calls PySem.W PyProof.Rows Builtin Builtin.ObjectAttr
namespace Mine
theorem refuse_types (self : Value) : refuseLoop self "__setattr__" [.type "Exception", .type "BaseException", .type "object"] = pure () := by kernel_rfl
section
variable {prog : Program} {w : World} {A : Around} {E : Value → Shared → Prop} {K : Frag} {C x D : Addr} {s : Shared} {h₀ : Heap} {L : Addr} {m : Str → Option Value} {rest : List (Addr × Obj)} {R : Result → Shared → Prop} {name : Str} {v : Value}
/-- a written name put into a dict at the ledger's head -/
theorem put_own {tk : Tok} {es : List DictEntry} {n : Nat} {Q : Fin → Shared → Prop} (F : Fr h₀ L s.heap m) (N : News h₀ L s.heap ((D, dictOf es n) :: rest)) (off : ∀ p ∈ rest, p.1 ≠ D) (hl : (getL name es).isSome = true)
    (hz : (putL name (PyData.keyHash w.params name) (.str name s.toks) v es).length ≤ 1000)
    (k : ∀ h', Fr h₀ L h' m → News h₀ L h' ((D, dictOf (putL name (PyData.keyHash w.params name) (.str name s.toks) v es) (putN name es n)) :: rest) → Q (.done (.ret .none)) { s with heap := h', toks := s.toks + 1 }) :
    wpAny (model prog w) A (storeInDict D (.str name tk) name v) Q E s := by
  have e := putName_dict name (PyData.keyHash w.params name) (.str name s.toks) v es n
  obtain ⟨F', N'⟩ := news_upd (pre := []) (f := Obj.putName name (PyData.keyHash w.params name) (.str name s.toks) v) F N (fun _ h => nomatch h) off e rfl
  have at0 := (N _ (.head _)).1
  have at1 := (N' _ (.head _)).1
  have free : (!es.toArray.any (·.key.isStr name) && es.toArray.any (·.refKey)) = false := by
    rw [← Array.any_toList, ← Array.any_toList]
    unfold getL at hl
    split at hl
    · rename_i en he
      rw [List.any_eq_true.mpr ⟨en, List.mem_of_find?_eq_some he, List.find?_some he⟩]; rfl
    · split at hl
      · cases hl
      · rename_i z; rw [Bool.not_eq_true] at z; rw [z, Bool.and_false]
  unfold storeInDict
  refine wpAny_bind (wpAny_pure (wpAny_bind ?_))
  unfold nsSet
  refine wpAny_bind (wpAny_bind (wpAny_askSetting (wpAny_pure (wpAny_bind (wpAny_mkText (wpAny_bind (wpAny_loadPart at0 ?_)))))))
  dsimp only
  rw [aRefKeyMayBeTheName_at, free]
  refine wpAny_updatePart at0 ?_
  refine wpAny_bind (wpAny_lookBehind at1 (pastItsLine_dict (by rw [List.size_toArray, sizeLine_eq]; omega)) ?_)
  exact wpAny_pure (k _ F' N')
/-- object.__setattr__ upon an exception of the text's own class -/
theorem osa_exc {cd : ClassData} {ox : Obj} {od : Option Obj} {tk : Tok} (X : K.In s.heap) (I : InstAt s.heap x ox C od) (hc : clsIn K C = some cd) (hm : cd.mro = [.ref C, .ref D, .type "Exception", .type "BaseException", .type "object"]) (ht : takerIn K C name = some none)
    (h : ∀ b, wpAny (model prog w) A.in1 (storeInOwnDict (.ref x) (.ref C) (.str name tk) name v b)
      (fun fin s' => match fin with | .done f => R (.ok f) s' | .again c' => c'.quiet = true ∧ codeAny (model prog w) A c' R s') (fun e s' => R (.error e) s') s) :
    codeAny (model prog w) A (.call (.builtin "object.__setattr__") ⟨[.ref x, .str name tk, v], []⟩) R s := by
  have SF := PySem.F.store_object
  have order : Looks (model prog w) s.heap (mroOf (.ref C)) cd.mro := (looks_clsIn X hc).andThen .now
  have sub : Looks (model prog w) s.heap (isInstance (.ref x) (.type "object")) true := I.type.andThen (looks_mroIn X (by unfold mroIn; rw [hc, Option.bind_some, hm]; rfl))
  obtain ⟨attr, ha, hr⟩ := Option.bind_eq_some_iff.mp ht
  have taker : Looks (model prog w) s.heap (storeTaker? attr) none := by
    cases attr with
    | none => exact .now
    | some a =>
      obtain ⟨b, hb, q⟩ := Option.map_eq_some_iff.mp hr
      refine (looks_takesIn X hb).andThen ?_
      cases b
      · exact .now
      · cases q
  refine codeAny_call_builtin SF.slot.plain SF.entry (@check_slot (model prog w) _ _ s "object.__setattr__" "object" "__setattr__" (.ref x) [.str name tk, v] [] _ SF.kind SF.split sub (SF.args (.ref x) (.str name tk) v) ?_)
  rw [osa_eq, refuse_eq]
  refine wpAny_bind (wpAny_bind (I.type.here (wpAny_bind (order.here ?_))))
  rw [hm, refuseLoop_ref, refuseLoop_ref, refuse_types]
  exact wpAny_pure (wpAny_bind (I.type.here (wpAny_bind ((looks_findIn X ha).here (wpAny_bind (taker.here (h _)))))))
variable {t : Addr} {cd : ClassData} {G : Addr} {Q : Unit → Shared → Prop}
/-- the first store makes the dict -/
theorem set_first (F : Fr h₀ L s.heap m) (X₀ : K.In h₀) (N : News h₀ L s.heap ((x, excO C none t) :: rest)) (off : ∀ p ∈ rest, p.1 ≠ x) (hs : findIn K (.ref C) "__setattr__" = some (some (.builtin "object.__setattr__")))
    (hc : clsIn K C = some cd) (hm : cd.mro = [.ref C, .ref G, .type "Exception", .type "BaseException", .type "object"]) (hd : cd.hasDict = true) (ht : takerIn K C name = some none)
    (k : ∀ D h', Fr h₀ L h' m → News h₀ L h' ((D, dictOf [⟨PyData.keyHash w.params name, .str name (s.toks + 1), v⟩] 1) :: (x, excO C (some D) t) :: rest) → (∀ p ∈ (x, excO C (some D) t) :: rest, p.1 < D) → Q () { s with heap := h', toks := s.toks + 2 }) :
    wpAny (model prog w) A (setAttr (.ref x) name v) Q E s := by
  have X := X₀.keeps F.keep
  have hx := (N _ (.head _)).1
  have I : InstAt s.heap x (excO C none t) C none := ⟨hx, rfl, rfl, trivial⟩
  refine set_plain X I hs (osa_exc (s := { s with toks := s.toks + 1 }) X I hc hm ht fun b => ?_)
  have F₁ := F.push emptyDict
  have N₁ := N.push F emptyDict
  have order : ((s.heap.objs.size, emptyDict) :: (x, excO C none t) :: rest) = [(s.heap.objs.size, emptyDict)] ++ (x, excO C none t) :: rest := rfl
  rw [order] at N₁
  obtain ⟨F₂, N₂⟩ := news_upd (o' := excO C (some s.heap.objs.size) t) (f := fun o => { o with dict := some s.heap.objs.size }) F₁ N₁ (fun p hp => by rw [List.mem_singleton.mp hp]; exact Nat.ne_of_gt (Heap.lt_size hx)) off rfl rfl
  unfold storeInOwnDict
  refine wpAny_bind (wpAny_pure (wpAny_bind ?_))
  unfold ownDictForStores instanceDict
  refine wpAny_bind (wpAny_loadPart hx (wpAny_bind (looks_clsIn (M := model prog w) X hc _ _ _ _ (fun _ _ e => e) ?_)))
  rw [hd]
  refine wpAny_bind (m := alloc emptyDict) (wpAny_alloc (wpAny_bind (wpAny_update (Heap.get?_push_of_some _ hx) ?_)))
  refine wpAny_pure (a := some s.heap.objs.size) ?_
  have N₃ : News h₀ L ((s.heap.push emptyDict).update x fun o => { o with dict := some s.heap.objs.size }) ((s.heap.objs.size, dictOf [] 0) :: (x, excO C (some s.heap.objs.size) t) :: rest) := N₂
  have lt : ∀ p ∈ (x, excO C (some s.heap.objs.size) t) :: rest, p.1 < s.heap.objs.size := fun p hp => by
    rcases List.mem_cons.mp hp with rfl | hp
    · exact Heap.lt_size hx
    · exact Heap.lt_size (N p (.tail _ hp)).1
  refine put_own (s := ⟨(s.heap.push emptyDict).update x fun o => { o with dict := some s.heap.objs.size }, s.gens, s.drawn, s.toks + 1, s.os⟩) F₂ N₃ (fun p hp => Nat.ne_of_lt (lt p hp)) rfl (by show 1 ≤ 1000; decide) fun h' F' N' => ?_
  exact k _ h' F' N' lt
/-- a store behind it -/
theorem set_next {es es' : List DictEntry} {n n' : Nat} {D : Addr} (F : Fr h₀ L s.heap m) (X₀ : K.In h₀) (N : News h₀ L s.heap ((D, dictOf es n) :: (x, excO C (some D) t) :: rest)) (off : ∀ p ∈ (x, excO C (some D) t) :: rest, p.1 ≠ D) (hs : findIn K (.ref C) "__setattr__" = some (some (.builtin "object.__setattr__")))
    (hc : clsIn K C = some cd) (hm : cd.mro = [.ref C, .ref G, .type "Exception", .type "BaseException", .type "object"]) (hd : cd.hasDict = true) (ht : takerIn K C name = some none) (hl : (getL name es).isSome = true)
    (e : (putL name (PyData.keyHash w.params name) (.str name (s.toks + 1)) v es, putN name es n) = (es', n')) (hz : es'.length ≤ 1000)
    (k : ∀ h', Fr h₀ L h' m → News h₀ L h' ((D, dictOf es' n') :: (x, excO C (some D) t) :: rest) → Q () { s with heap := h', toks := s.toks + 2 }) :
    wpAny (model prog w) A (setAttr (.ref x) name v) Q E s := by
  obtain ⟨e1, e2⟩ := Prod.mk.inj e
  subst e1; subst e2
  have X := X₀.keeps F.keep
  have hx := (N _ (.tail _ (.head _))).1
  have I : InstAt s.heap x (excO C (some D) t) C (some (dictOf es n)) := ⟨hx, rfl, rfl, (N _ (.head _)).1⟩
  refine set_plain X I hs (osa_exc (s := { s with toks := s.toks + 1 }) X I hc hm ht fun b => ?_)
  unfold storeInOwnDict
  refine wpAny_bind (wpAny_pure (wpAny_bind ?_))
  unfold ownDictForStores instanceDict
  refine wpAny_bind (wpAny_loadPart hx (wpAny_bind (looks_clsIn (M := model prog w) X hc _ _ _ _ (fun _ _ e => e) ?_)))
  rw [hd]
  refine wpAny_pure (a := some D) ?_
  exact put_own (s := { s with toks := s.toks + 1 }) F N off hl hz fun h' F' N' => k h' F' N'
end
end Mine
end
section
open PySem PySem.Spec PySem.Calls PySem.W PyProof.Rows Builtin Builtin.ObjectAttr
namespace Mine
section
variable {prog : Program} {w : World} {A : Around} {E : Value → Shared → Prop} {K : Frag} {C x D : Addr} {s : Shared} {h₀ : Heap} {L : Addr} {m : Str → Option Value} {rest : List (Addr × Obj)} {name : Str} {v : Value}
/-- an attribute of such an exception, out of its own dict -/
theorem get_exc {ox : Obj} {od : Option Obj} {expr : Bool} {Q : Value → Shared → Prop} (X : K.In s.heap) (I : InstAt s.heap x ox C od) (hga : findIn K (.ref C) "__getattribute__" = some (some (.builtin "BaseException.__getattribute__")))
    (hgm : findIn K (.ref C) "__getattr__" = some none) (hsub : mroIn K C (.type "BaseException") = some true) (hf : findObj K C od name = some (.value v)) (hh : handedIn v = true) (h : Q v { s with toks := s.toks + 1 }) :
    wpAny (model prog w) A (getAttr (.ref x) name expr) Q E s := by
  obtain ⟨hp, g, d, t, os⟩ := s
  have L0 := I.type (M := model prog w)
  have L1 := looks_findIn (M := model prog w) X hga
  have L2 := looks_findIn (M := model prog w) X hgm
  have L3 := looks_find (M := model prog w) X I hf
  have L4 : Looks (model prog w) hp (isInstance (.ref x) (.type "BaseException")) true := L0.andThen (looks_mroIn X hsub)
  have G := PySem.F.attr_Exception.ga
  have body : ∀ A', wpAny (model prog w) A' (Builtin.«object.__getattribute__» ⟨[.ref x, .str name t], []⟩) (fun fin s' => fin = .done (.ret v) ∧ s' = ⟨hp, g, d, t + 1, os⟩) (fun _ _ => False) ⟨hp, g, d, t + 1, os⟩ := by
    intro A'
    refine wpAny_bind (wpAny_pure (wpAny_bind (wpAny_pure (wpAny_bind (L0.at (wpAny_bind (L3.at ?_)))))))
    exact wpAny_pure ⟨rfl, rfl⟩
  unfold getAttr getAttrBy
  refine wpAny_bind (wpAny_mkText (wpAny_holding (wpAny_bind (L0.at (wpAny_bind (L1.at ?_))))))
  show wpAny _ _ (getAttrByItsOwn (.ref x) (.str name t) (.ref C) (.builtin "BaseException.__getattribute__") true expr) _ _ _
  unfold getAttrByItsOwn
  refine wpAny_bind (m := typeLookup (.ref C) "__getattr__") (L2.at ?_)
  have own : ∀ (Q' : Value → Shared → Prop) (E' : Value → Shared → Prop), Q' v ⟨hp, g, d, t + 1, os⟩ → wpAny (model prog w) A (boundAndCalled (.builtin "BaseException.__getattribute__") (.ref x) (.str name t)) Q' E' ⟨hp, g, d, t + 1, os⟩ := by
    intro Q' E' q
    unfold boundAndCalled
    rw [G.bind]
    refine wpAny_bind (wpAny_pure (wpAny_call (codeAny_call_builtin G.plain PySem.F.entry_bexc_ga (@check_slot (model prog w) _ _ _ "BaseException.__getattribute__" "BaseException" "__getattribute__" (.ref x) [.str name t] [] _ (by decide +kernel) (by decide +kernel) L4 (PySem.F.args_bexc_ga (.ref x) (.str name t)) ?_))))
    refine wpAny_mono (body _) (fun fin s' z => ?_) fun _ _ z => z.elim
    obtain ⟨rfl, rfl⟩ := z
    exact q
  refine wpAny_bind (wpAny_attempt (wpAny_holding ?_))
  have go : wpAny (model prog w) A (boundAndCalled (.builtin "BaseException.__getattribute__") (.ref x) (.str name t)) (fun a s' => wpAny (model prog w) A (handedOut a) Q E s') (fun e s' => wpAny (model prog w) A (getattributeRaised (.ref x) (.str name t) (.ref C) e none true expr) Q E s') ⟨hp, g, d, t + 1, os⟩ :=
    own _ _ (by rw [handedOut_of hh]; exact wpAny_pure h)
  cases expr <;> exact go
end
end Mine
end
section
open PySem PySem.Spec PySem.Calls PySem.W PyProof.Rows
namespace Mine
/-- what a raise's value must be: an exception of a class of the text's own, without a traceback -/
def RaisableD (E : Value → Shared → Prop) (v : Value) (s₁ : Shared) : Prop :=
  ∃ x d u C nm q N bs bm hdct sn sub ab col dd k0 k1 k2 k3 k5 newId, v = .ref x ∧ s₁.heap.get? x = some (excO C d u) ∧
    s₁.heap.get? C = some (excClassObj nm q C N bs bm hdct sn sub ab col dd k0 k1 k2 k3 k5 newId) ∧ bm.contains (.type "BaseException") = true ∧ E (.ref x) s₁
section
variable {M : Model} {A : Around} {E : Value → Shared → Prop} {s : Shared} {env : Env}
theorem raiseD {e : Expr} {pos : Pos} {Q : Flow → Shared → Prop} (hh : A.handled = none) (h : wpAny M A (eval e env) (RaisableD E) E s) : wpAny M A (exec (.Raise (some e) none pos) env) Q E s := by
  show wpAny M A (do standAt pos; raiseStmt env (some (do let v ← eval e env; standAt pos; pure v)) none) Q E s
  refine wpAny_bind (wpAny_standAt ?_)
  unfold raiseStmt
  refine wpAny_bind (wpAny_bind (wpAny_mono h (fun v s₁ h₁ => wpAny_bind (wpAny_standAt (wpAny_pure ?_))) fun _ _ x => x))
  obtain ⟨x, d, u, C, nm, q, N, bs, bm, hdct, sn, sub, ab, col, dd, k0, k1, k2, k3, k5, newId, rfl, hx, hC, hb, hE⟩ := h₁
  obtain ⟨hp, g, dr, tk, os⟩ := s₁
  have hcB : (Value.ref C :: bm).contains (.type "BaseException") = true := by rw [List.contains_cons, hb, Bool.or_true]
  repeat (first | with_reducible refine wpAny_loadPart_at hx ?_ | with_reducible refine wpAny_loadPart_at hC ?_ | (with_reducible refine wpAny_isSubtype_exc hC ?_; rw [hcB]) | wp_step)
  exact wpAny_raiseNew_none hh hE
end
end Mine
end
section
open PySem PySem.Spec PySem.Calls PySem.W PyProof.Rows
namespace Mine
abbrev faultD (w : World) (name : String) (a1 a2 a3 b1 b2 b3 : Tok) : Obj := dictOf [ent w "kind" a1 (.str (Str.ofString "unknown_function") b1), ent w "at" a2 (.int (-1) b2), ent w "detail" a3 (.str (Str.ofString name) b3)] 3
def OtherTells (w : World) (name : String) (mean : ExcName → Option Value) (mg mb : Str → Option Value) : Prop :=
  ∀ (dp un : Nat) (gd : Option (List Code)) (cn : Str) (cs : Scope) (a : Addr) (ccd : Value) (cl : List (Str × Addr)) (outer : List Env) (A₀ : Around) (base h₀ : Heap) (L : Addr) (m : Str → Option Value) (news : List (Addr × Obj)) (s : Shared)
    (e X : Addr) (t0 t1 t2 : Tok) (emp : Value) (wd : Int) (Q E : Value → Shared → Prop),
    Below A₀ base outer h₀ → Fr h₀ L s.heap m → (K0 w).In h₀ → News h₀ L s.heap ((e, tup [.str (Str.ofString "sys") t0, .int wd t1, .str (Str.ofString name) t2, emp]) :: news) →
    Top q (looseW q lo) mean mg mb h₀ → cs.kind = .function → dp + 10 < recursionLimit → un + 100 < cLine →
    (∀ x d a1 a2 a3 b1 b2 b3 g h' tk', Fr h₀ L g m → g.UpToSlots h' → RaisedD base (envX cn cs L a ccd cl :: outer) x (.ref 52) (some d) ((d, faultD w name a1 a2 a3 b1 b2 b3) :: (e, tup [.str (Str.ofString "sys") t0, .int wd t1, .str (Str.ofString name) t2, emp]) :: news) h' →
      E (.ref x) { s with heap := h', toks := tk' }) →
    wpAny (model P0 w) (ktrTop dp un gd cn cs L a ccd cl outer) (call (.ref 489) [.ref e, .ref X]) Q E s
theorem allLt_up {u x : Nat} : ∀ {l : List (Addr × Obj)}, AllLt u l → u < x → AllLt x l
  | [], _, _ => trivial
  | _ :: _, h, q => ⟨Nat.lt_trans h.1 q, allLt_up h.2 q⟩
theorem raisable_of {K : Frag} {E : Value → Shared → Prop} {s₁ : Shared} {h₀ : Heap} {L x u C N : Addr} {d : Option Addr} {m : Str → Option Value} {led : List (Addr × Obj)} {nm q : Str} {bs bm : List Value} {hdct : Bool} {sn : List Str} {sub : List Value} {ab : Bool} {col : Option Bool} {dd : Option Addr} {k0 k1 k2 k3 k5 : Option Value} {newId : String}
    (F : Fr h₀ L s₁.heap m) (X₀ : K.In h₀) (NW : News h₀ L s₁.heap led) (hm : (x, excO C d u) ∈ led) (hC : K.lookup C = some (excClassObj nm q C N bs bm hdct sn sub ab col dd k0 k1 k2 k3 k5 newId)) (hb : bm.contains (.type "BaseException") = true) (hE : E (.ref x) s₁) : RaisableD E (.ref x) s₁ :=
  ⟨x, d, u, C, nm, q, N, bs, bm, hdct, sn, sub, ab, col, dd, k0, k1, k2, k3, k5, newId, rfl, (NW _ hm).1, F.keep _ _ (X₀ _ _ hC), hb, hE⟩
theorem RaisedD.sub {base h : Heap} {l : List Env} {e : Addr} {cls : Value} {d : Option Addr} {news news' : List (Addr × Obj)} (R : RaisedD base l e cls d news h) (hs : ∀ p ∈ news', p ∈ news) : RaisedD base l e cls d news' h :=
  let ⟨B, b1, b2, b3⟩ := R; ⟨B, b1, fun q hq => b2 q (hs q hq), b3⟩
theorem leaveP {M : Model} {A : Around} {E : Value → Shared → Prop} {s' : Shared} {base g : Heap} {outer : List Env} {L a e : Addr} {m : Str → Option Value} {name : Str} {scope : Scope} {cd : Value} {Q : Unit → Shared → Prop} {led rest : List (Addr × Obj)} {cls : Value} {d : Option Addr} {vs : Array Value} {sl : Array (Option Value)}
    (K : Below A base outer g) (F : Fr g L s'.heap m) (N : News g L s'.heap led) (P : Pick (e, ⟨cls, d, .fields vs, sl⟩) led rest) (hne : ∀ q ∈ rest, q.1 ≠ e) (h1 : vs[1]? = some .none)
    (hQ : ∀ h', RaisedD base outer e cls d rest h' → g.UpToSlots h' → Q () { s' with heap := h' }) (hk : scope.kind = .function := by rfl) :
    wpAny M (A.deeper (envOf name scope L a cd)) (leaving (envOf name scope L a cd) (.ref e)) Q E s' := leaveD K F (P.news N) hne h1 hQ hk
theorem sub_1_3 {x y z : Addr × Obj} {news : List (Addr × Obj)} : ∀ p ∈ x :: news, p ∈ x :: y :: z :: news := fun p hp => by
  rcases List.mem_cons.mp hp with rfl | hp
  · exact .head _
  · exact .tail _ (.tail _ (.tail _ hp))
section
open Lean in
local macro_rules | `(tactic| walk_at "RaisableD") => `(tactic| (k_here; k_dflt (refine' raisable_of ?F ?X ?N ?m ?C ?b ?_; (case F => k_asm); (case X => k_asm); (case N => k_asm); (case m => k_mem); (case C => k_is); (case b => decide +kernel))))
open Lean in
local macro_rules | `(tactic| walk_at "leaving ref") => `(tactic| (k_here; k_dflt (refine' leaveP ?K ?F ?N ?P ?ne ?h1 ?_ ?hk; (case hk => exact rfl); (case F => k_asm); (case K => k_asm); (case N => k_asm); (case P => repeat (first | exact Pick.head | apply Pick.tail)); (case ne => k_all); (case h1 => exact rfl)); intro h' R' U'))
open Lean in
local macro_rules | `(tactic| k_room) => `(tactic| ktr_room)
open Lean in
local macro_rules | `(tactic| walk_at "call ref") => `(tactic| (k_here; (with_reducible show wpAny _ _ (call (Value.ref 52) _) _ _ _); k_dflt (refine wpAny_call ?_; refine' make_exc PySem.F.excBase_Exception ?k1 ?k2 ?k3 ?kC ?cB ?cA ?cN ?hi ?hf ?hc ?ht ?hr ?_; (case k1 => k_asm); (case k2 => k_asm); (case k3 => k_in); (case kC => k_is); (case cB => decide +kernel); (case cA => decide +kernel); (case cN => decide +kernel); (case hi => k_is); (case hf => k_is); (case hc => k_is); (case ht => k_is); (case hr => (rw [sizeLine_eq]; exact Nat.le_of_ble_eq_true rfl)); intro x' u' h' F' N' l1 l2; (have l3 := allLt_up (allLt_of l1) l2); (try simp only [AllLt, and_true] at l3); (try k_lt l1); (try k_lt2 l2); (try k_sweep); (have kM := kstMark); k_enter)))
open Lean in
local macro_rules | `(tactic| walk_at "setAttr ref") => `(tactic| (k_here; k_dflt (refine' set_next ?k1 ?k2 ?k3 ?k4 ?k5 ?k6 ?k7 ?k8 ?k9 ?l1 ?l2 ?l3 ?_; (case k1 => k_asm); (case k2 => k_asm); (case k3 => k_asm); (case k4 => k_all); (case k5 => k_is); (case k6 => k_is); (case k7 => exact rfl); (case k8 => exact rfl); (case k9 => k_is); (case l1 => k_get); (case l2 => k_put); (case l3 => exact Nat.le_of_ble_eq_true rfl)); intro h' F' N'; (try k_sweep)))
open Lean in
local macro_rules | `(tactic| walk_at "setAttr ref") => `(tactic| (k_here; k_dflt (refine' set_first ?k1 ?k2 ?k3 ?k4 ?k5 ?k6 ?k7 ?k8 ?k9 ?_; (case k1 => k_asm); (case k2 => k_asm); (case k3 => k_asm); (case k4 => k_all); (case k5 => k_is); (case k6 => k_is); (case k7 => exact rfl); (case k8 => exact rfl); (case k9 => k_is)); intro D' h' F' N' l1; (try k_lt l1); (try k_sweep)))
open Lean in
local macro_rules | `(tactic| walk_at "exec Raise some none") => `(tactic| (k_here; k_dflt (refine raiseD (by first | rfl | assumption) ?_); (try k_fold)))
theorem bits_other (w : World) (mean : ExcName → Option Value) (mg mb : Str → Option Value) : OtherTells w "$bits" mean mg mb := by
  have keep : PySem.Challenge.rw_pq0470_01.row = PySem.Challenge.rw_pq0470_01.row ∧ hd.heap_1 = hd.heap_1 → True := fun _ => trivial
  unfold OtherTells P0 K0
  k_fill
  w_top off
  intro dp un gd cn cs a ccd cl outer A₀ base h₀ L m news s e X t0 t1 t2 emp wd Q E B F X N T hk hd hu hret
  refine wpAny_call ?_
  k_dflt cell_enter
  k_steps
  all_goals (
    refine' hret _ _ _ _ _ _ _ _ _ _ _ ?F ?U (RaisedD.sub ?R ?s)
    (case R => assumption)
    (case U => assumption)
    (case F => assumption)
    (case s => exact sub_1_3))
theorem display_other (w : World) (mean : ExcName → Option Value) (mg mb : Str → Option Value) : OtherTells w "$display" mean mg mb := by
  have keep : PySem.Challenge.rw_pq0470_01.row = PySem.Challenge.rw_pq0470_01.row ∧ hd.heap_1 = hd.heap_1 → True := fun _ => trivial
  unfold OtherTells P0 K0
  k_fill
  w_top off
  intro dp un gd cn cs a ccd cl outer A₀ base h₀ L m news s e X t0 t1 t2 emp wd Q E B F X N T hk hd hu hret
  refine wpAny_call ?_
  k_dflt cell_enter
  k_steps
  all_goals (
    refine' hret _ _ _ _ _ _ _ _ _ _ _ ?F ?U (RaisedD.sub ?R ?s)
    (case R => assumption)
    (case U => assumption)
    (case F => assumption)
    (case s => exact sub_1_3))
theorem time_other (w : World) (mean : ExcName → Option Value) (mg mb : Str → Option Value) : OtherTells w "time" mean mg mb := by
  have keep : PySem.Challenge.rw_pq0470_01.row = PySem.Challenge.rw_pq0470_01.row ∧ hd.heap_1 = hd.heap_1 → True := fun _ => trivial
  unfold OtherTells P0 K0
  k_fill
  w_top off
  intro dp un gd cn cs a ccd cl outer A₀ base h₀ L m news s e X t0 t1 t2 emp wd Q E B F X N T hk hd hu hret
  refine wpAny_call ?_
  k_dflt cell_enter
  k_steps
  all_goals (
    refine' hret _ _ _ _ _ _ _ _ _ _ _ ?F ?U (RaisedD.sub ?R ?s)
    (case R => assumption)
    (case U => assumption)
    (case F => assumption)
    (case s => exact sub_1_3))
end
end Mine
end
section
open PySem PySem.Spec PySem.Calls PySem.W PyProof.Rows
namespace Mine
section
variable {w : World} {mean : ExcName → Option Value} {mg mb : Str → Option Value} {dp un : Nat} {gd : Option (List Code)} {cn : Str} {cs : Scope} {a : Addr} {ccd : Value} {cl : List (Str × Addr)} {outer : List Env} {A₀ : Around} {base h₀ : Heap} {L : Addr} {m : Str → Option Value} {s : Shared} {Q E : Value → Shared → Prop}
variable {led r1 r2 r3 r4 news : List (Addr × Obj)} {e X dX S dS p1 p2 : Addr} {t0 t1 t2 t3 t4 t5 t6 s1 s2 s3 s4 s5 : Tok} {emp st fr nv v1 v2 v3 : Value} {wd now r fig : Int}
theorem time_use {name : String} (C : TimeTells w name mean mg mb) (B : Below A₀ base outer h₀) (F : Fr h₀ L s.heap m) (X₀ : (hd.heap_1 w.params).In h₀) (N : News h₀ L s.heap led)
    (P1 : Pick (e, tup [.str (Str.ofString "sys") t0, .int wd t1, .str (Str.ofString name) t2, emp]) led r1) (P2 : Pick (X, instObj 575 dX) r1 r2) (P3 : Pick (dX, dictOf [ent w "store" t3 st, ent w "frame" t4 fr, ent w "now" t5 (.int now t6)] 3) r2 news)
    (T : Top q (looseW q lo) mean mg mb h₀) (hk : cs.kind = .function) (w0 : 1 ≤ wd) (w1 : wd ≤ 40) (hd : dp + 10 < recursionLimit) (hu : un + 100 < cLine)
    (ret : ∀ D u0 u1 u2 h' tk', Fr h₀ L h' m → News h₀ L h' ((D, tup [.int wd u0, .int (now.fmod (2 ^ wd.toNat)) u1, .int 0 u2]) :: TimeLed w name e X dX t0 t1 t2 t3 t4 t5 t6 emp st fr wd now news) →
      AllLt D (TimeLed w name e X dX t0 t1 t2 t3 t4 t5 t6 emp st fr wd now news) → Q (.ref D) { s with heap := h', toks := tk' }) :
    wpAny (model PySem.Challenge.rw_pq0470_01.row.prog w) (ktrTop dp un gd cn cs L a ccd cl outer) (call (.ref 489) [.ref e, .ref X]) Q E s := by
  have N2 : News h₀ L s.heap (TimeLed w name e X dX t0 t1 t2 t3 t4 t5 t6 emp st fr wd now news) := fun x hx => by
    have M2 := Pick.news2 N P1 P2
    rcases List.mem_cons.mp hx with rfl | hx
    · exact M2 _ (.head _)
    · rcases List.mem_cons.mp hx with rfl | hx
      · exact M2 _ (.tail _ (.head _))
      · exact Pick.news (fun y hy => M2 y (.tail _ (.tail _ hy))) P3 x hx
  exact C _ _ _ _ _ _ _ _ _ _ _ _ _ _ _ _ _ _ _ _ _ _ _ _ _ _ _ _ _ _ _ _ _ B F X₀ N2 T hk w0 w1 hd hu ret
abbrev RandLed (w : World) (e X dX S dS : Addr) (t0 t1 t2 t3 t4 t5 s1 s2 s3 s4 s5 : Tok) (emp fr nv v1 v2 v3 : Value) (wd r : Int) (news : List (Addr × Obj)) : List (Addr × Obj) :=
  (e, tup [.str (Str.ofString "sys") t0, .int wd t1, .str (Str.ofString "$random") t2, emp]) :: (X, instObj 575 dX) :: (dX, ctxD w t3 t4 t5 S fr nv) :: (S, instObj 532 dS) :: (dS, stoD w s1 s2 s3 s4 v1 v2 v3 r s5) :: news
theorem random_use {ft : Tok} (C : RandomTells w mean mg mb) (B : Below A₀ base outer h₀) (F : Fr h₀ L s.heap m) (X₀ : (hd.heap_1 w.params).In h₀) (N : News h₀ L s.heap led)
    (P1 : Pick (e, tup [.str (Str.ofString "sys") t0, .int wd t1, .str (Str.ofString "$random") t2, emp]) led r1) (P2 : Pick (X, instObj 575 dX) r1 r2) (P3 : Pick (dX, ctxD w t3 t4 t5 S fr nv) r2 r3) (P4 : Pick (S, instObj 532 dS) r3 r4) (P5 : Pick (dS, stoD w s1 s2 s3 s4 v1 v2 v3 r s5) r4 news)
    (T : Top q (looseW q lo) mean mg mb h₀) (hk : cs.kind = .function) (w0 : 1 ≤ wd) (w1 : wd ≤ 40) (r0 : 0 ≤ r) (r1' : r < 4294967296) (n1 : @Ne Nat e dS) (n2 : @Ne Nat X dS) (n3 : @Ne Nat dX dS) (n4 : @Ne Nat S dS) (n5 : ∀ p ∈ news, p.1 ≠ dS)
    (_hfig : m (Str.ofString "figure") = some (.int fig ft)) (hz : rfig (rnd r) = fig) (hd : dp + 10 < recursionLimit) (hu : un + 100 < cLine)
    (ret : ∀ D u0 u1 u2 u3 h' tk', Fr h₀ L h' m → News h₀ L h' ((D, tup [.int wd u0, .int (fig.fmod (2 ^ wd.toNat)) u1, .int 0 u2]) :: RandLed w e X dX S dS t0 t1 t2 t3 t4 t5 s1 s2 s3 s4 u3 emp fr nv v1 v2 v3 wd (rnd r) news) →
      AllLt D (RandLed w e X dX S dS t0 t1 t2 t3 t4 t5 s1 s2 s3 s4 u3 emp fr nv v1 v2 v3 wd (rnd r) news) → Q (.ref D) { s with heap := h', toks := tk' }) :
    wpAny (model PySem.Challenge.rw_pq0470_01.row.prog w) (ktrTop dp un gd cn cs L a ccd cl outer) (call (.ref 489) [.ref e, .ref X]) Q E s := by
  subst hz
  have N2 : News h₀ L s.heap (RandLed w e X dX S dS t0 t1 t2 t3 t4 t5 s1 s2 s3 s4 s5 emp fr nv v1 v2 v3 wd r news) := fun x hx => by
    have M2 := Pick.news2 N P1 P2
    have M4 := Pick.news2 (fun y hy => M2 y (.tail _ (.tail _ hy))) P3 P4
    rcases List.mem_cons.mp hx with rfl | hx
    · exact M2 _ (.head _)
    · rcases List.mem_cons.mp hx with rfl | hx
      · exact M2 _ (.tail _ (.head _))
      · rcases List.mem_cons.mp hx with rfl | hx
        · exact M4 _ (.head _)
        · rcases List.mem_cons.mp hx with rfl | hx
          · exact M4 _ (.tail _ (.head _))
          · exact Pick.news (fun y hy => M4 y (.tail _ (.tail _ hy))) P5 x hx
  exact C _ _ _ _ _ _ _ _ _ _ _ _ _ _ _ _ _ _ _ _ _ _ _ _ _ _ _ _ _ _ _ _ _ _ _ _ _ _ _ _ _ _ B F X₀ N2 T hk w0 w1 r0 r1' n1 n2 n3 n4 n5 hd hu ret
theorem clog_use {unk : Int} {f : Int → Int × Int} {odX : Obj} (C : ClogTells w unk f mean mg mb) (B : Below A₀ base outer h₀) (F : Fr h₀ L s.heap m) (X₀ : (hd.heap_1 w.params).In h₀) (N : News h₀ L s.heap led)
    (P1 : Pick (e, tup [.str (Str.ofString "sys") t0, .int 32 t1, .str (Str.ofString "$clog2") t2, .ref p1]) led r1) (P2 : Pick (p1, tup [.ref p2]) r1 r2) (P3 : Pick (p2, tup [.str (Str.ofString "const") t3, .int 20 t4, .int fig t5, .int unk t6]) r2 r3) (P4 : Pick (X, instObj 575 dX) r3 r4) (P5 : Pick (dX, odX) r4 news)
    (T : Top q (looseW q lo) mean mg mb h₀) (hk : cs.kind = .function) (w0 : fig ≤ 1048576) (hd : dp + 10 < recursionLimit) (hu : un + 100 < cLine)
    (ret : ∀ D u0 u1 u2 h' tk', Fr h₀ L h' m → News h₀ L h' ((D, tup [.int 32 u0, .int (f fig).1 u1, .int (f fig).2 u2]) :: ClogLed e X dX p1 p2 t0 t1 t2 t3 t4 t5 t6 (instObj 575 dX) odX fig unk news) →
      AllLt D (ClogLed e X dX p1 p2 t0 t1 t2 t3 t4 t5 t6 (instObj 575 dX) odX fig unk news) → Q (.ref D) { s with heap := h', toks := tk' }) :
    wpAny (model PySem.Challenge.rw_pq0470_01.row.prog w) (ktrTop dp un gd cn cs L a ccd cl outer) (call (.ref 489) [.ref e, .ref X]) Q E s := by
  have N2 : News h₀ L s.heap (ClogLed e X dX p1 p2 t0 t1 t2 t3 t4 t5 t6 (instObj 575 dX) odX fig unk news) := fun x hx => by
    have M2 := Pick.news2 N P1 P2
    have M4 := Pick.news2 (fun y hy => M2 y (.tail _ (.tail _ hy))) P3 P4
    rcases List.mem_cons.mp hx with rfl | hx
    · exact M2 _ (.head _)
    · rcases List.mem_cons.mp hx with rfl | hx
      · exact M2 _ (.tail _ (.head _))
      · rcases List.mem_cons.mp hx with rfl | hx
        · exact M4 _ (.head _)
        · rcases List.mem_cons.mp hx with rfl | hx
          · exact M4 _ (.tail _ (.head _))
          · exact Pick.news (fun y hy => M4 y (.tail _ (.tail _ hy))) P5 x hx
  exact C _ _ _ _ _ _ _ _ _ _ _ _ _ _ _ _ _ _ _ _ _ _ _ _ _ _ _ _ _ _ _ _ B F X₀ N2 T hk w0 hd hu ret
theorem other_use {name : String} (C : OtherTells w name mean mg mb) (B : Below A₀ base outer h₀) (F : Fr h₀ L s.heap m) (X₀ : (hd.heap_1 w.params).In h₀) (N : News h₀ L s.heap led)
    (P1 : Pick (e, tup [.str (Str.ofString "sys") t0, .int wd t1, .str (Str.ofString name) t2, emp]) led news)
    (T : Top q (looseW q lo) mean mg mb h₀) (hk : cs.kind = .function) (hd : dp + 10 < recursionLimit) (hu : un + 100 < cLine)
    (ret : ∀ x d a1 a2 a3 b1 b2 b3 g h' tk', Fr h₀ L g m → g.UpToSlots h' → RaisedD base (envX cn cs L a ccd cl :: outer) x (.ref 52) (some d) ((d, faultD w name a1 a2 a3 b1 b2 b3) :: (e, tup [.str (Str.ofString "sys") t0, .int wd t1, .str (Str.ofString name) t2, emp]) :: news) h' →
      E (.ref x) { s with heap := h', toks := tk' }) :
    wpAny (model PySem.Challenge.rw_pq0470_01.row.prog w) (ktrTop dp un gd cn cs L a ccd cl outer) (call (.ref 489) [.ref e, .ref X]) Q E s := 
  C _ _ _ _ _ _ _ _ _ _ _ _ _ _ _ _ _ _ _ _ _ _ _ _ _ B F X₀ (P1.news N) T hk hd hu ret
end
theorem fig_lo {sd r : Int} (h : sd = r) (c : (sd * 69069 + 1).fmod 4294967296 < 2147483648) : rfig (rnd r) = (sd * 69069 + 1).fmod 4294967296 := by
  subst h
  unfold rfig rnd
  rw [Int.mul_comm 69069 sd, if_pos c]
theorem fig_hi {sd r : Int} (h : sd = r) (c : ¬ (sd * 69069 + 1).fmod 4294967296 < 2147483648) : rfig (rnd r) = (sd * 69069 + 1).fmod 4294967296 - 4294967296 := by
  subst h
  unfold rfig rnd
  rw [Int.mul_comm 69069 sd, if_neg c]
theorem rnd_turn {sd r : Int} (h : sd = r) : (sd * 69069 + 1).fmod 4294967296 = rnd r ∧ 0 ≤ rnd r ∧ rnd r < 4294967296 := by
  subst h
  unfold rnd
  rw [Int.mul_comm 69069 sd]
  exact ⟨rfl, Int.fmod_nonneg_of_pos _ (by decide), Int.fmod_lt_of_pos _ (by decide)⟩
section
variable {prog : Program} {w : World} {A : Around} {E : Value → Shared → Prop} {s : Shared} {env : Env} {h₀ : Heap} {x : Str} {body : List Stmt} {Q : Flow → Shared → Prop}
/-- what a lap keeps: the sand stands, its second item is an int from nought to forty -/
abbrev LapS (l1 l2 : Addr) (n1 : Nat) (rest : List (Addr × Obj)) (x : Str) (stored : List Str) (m₀ : Str → Option Value) (pre : List Int) (m : Str → Option Value) (nx : List (Addr × Obj)) : Prop :=
  KstS (σ := Int × Tok) (fun c => (l1, listOf #[.ref l2, .int c.1 c.2] n1) :: rest) (fun _ => []) (fun _ => True) x stored m₀ (fun _ c => 0 ≤ c.1 ∧ c.1 ≤ 40) pre m nx
theorem lap_range {r : Addr} {a₀ b₀ : Int} {t₀ u₀ v₀ : Tok} {n : Nat} {m₀ : Str → Option Value} {led rest : List (Addr × Obj)} {l1 l2 : Addr} {n1 : Nat} {k : Int} {t : Tok} (stored : List Str)
    (N : News h₀ env.locals s.heap led) (P : Pick (l1, listOf #[.ref l2, .int k t] n1) led rest) (hh : A.handled = none) (hr : IsRange s.heap r a₀ b₀ 1 t₀ u₀ v₀) (hsmall : Builtin.Range.small a₀ b₀ 1 = true) (hn : Builtin.Range.rangeSize a₀ b₀ 1 = (n : Int)) (F : Fr h₀ env.locals s.heap m₀) (k0 : 0 ≤ k) (k1 : k ≤ 40)
    (turn : ∀ (k : Int) (t : Tok) (i : Int) (pre : List Int) (tt : Tok) (u : Str → Option Value) h tk own, 0 ≤ k → k ≤ 40 → OwnOff own (l1 :: rest.map (·.1)) →
      Fr h₀ env.locals h (fun y => if y = x then some (.int i tt) else if stored.contains y then u y else m₀ y) → News h₀ env.locals h (((l1, listOf #[.ref l2, .int k t] n1) :: rest) ++ own) →
      wpAny (model prog w) A (execs body env) (InvPostN h₀ env.locals (LapS l1 l2 n1 rest x stored m₀ (pre ++ [i])) own (l1 :: rest.map (·.1)) { s with heap := h, toks := tk } Q) E { s with heap := h, toks := tk })
    (done : ∀ (k : Int) (t : Tok) (u : Str → Option Value) h tk, 0 ≤ k → k ≤ 40 → Fr h₀ env.locals h (fun y => if y = x then u y else if stored.contains y then u y else m₀ y) → News h₀ env.locals h ((l1, listOf #[.ref l2, .int k t] n1) :: rest) → Q .next { s with heap := h, toks := tk }) :
    wpAny (model prog w) A (pyIter (.ref r)) (fun it s₂ => LoopAtV prog w A h₀ env x body Q E it s₂) E s :=
  kst_range (σ := Int × Tok) (fun c => (l1, listOf #[.ref l2, .int c.1 c.2] n1) :: rest) (fun _ => []) (fun _ => True) stored (fun _ c => 0 ≤ c.1 ∧ c.1 ≤ 40) (k, t) hh hr hsmall hn F (P.news N) trivial (fun _ h => nomatch h) ⟨k0, k1⟩
    (fun c pre i tt u h tk own _ _ hoff _ hp F' N' => turn c.1 c.2 i pre tt u h tk own hp.1 hp.2 hoff F' N')
    (fun c u h tk _ hp F' N' => done c.1 c.2 u h tk hp.1 hp.2 F' N')
end
theorem fig_bound {v g : Int} {i : Nat} (h : v < 14) (hg : g < 300) : [2 ^ (3 + v).toNat, 2 ^ (3 + v).toNat + 1, 2 ^ (3 + v).toNat - 1, 0, 1, g].getD i 0 ≤ 1048576 := by
  have p : (2 : Int) ^ (3 + v).toNat ≤ 65536 := pow_mono (a := (3 + v).toNat) (b := 16) (by omega)
  generalize (2 : Int) ^ (3 + v).toNat = x at p ⊢
  match i with
  | 0 | 1 | 2 | 3 | 4 | 5 => simp only [List.getD_cons_zero, List.getD_cons_succ]; omega
  | j + 6 => simp
end Mine
end
section
open PySem PySem.Spec PySem.Calls PySem.W PyProof.Rows Mine
open Lean in
local macro_rules | `(tactic| walk_at "call ref") => `(tactic| (k_here; (with_reducible show wpAny _ _ (call (Value.ref 586) _) _ _ _); k_dflt (refine' sand_use (sand_tells _ _ _ _) ?k1 ?k2 ?k3 ?k4 ?k5 ?kK ?kl ?ki ?kt ?kd ?ku ?_; (case k1 => k_asm); (case k2 => k_asm); (case k3 => k_asm); (case k4 => k_asm); (case k5 => k_asm); (case kK => exact rfl); (case kl => k_asm); (case ki => l_ints); (case kt => omega); (case kd => ktr_room); (case ku => ktr_units)); intro l1 l2 vs ns n1 n2 t h' tk' hsi hsl hne F' N'; (replace hne := addr_ne hne); (try k_sweep); (try dsimp only)))
open Lean in
local macro_rules | `(tactic| walk_at "call ref") => `(tactic| (k_here; (with_reducible show wpAny _ _ (call (Value.ref 593) _) _ _ _); k_dflt (refine' grain_use (grain_tells _ _ _ _) ?k1 ?k2 ?k3 ?k4 ?p1 ?p2 ?k5 ?kK ?ki ?kt ?kn ?kr ?g0 ?g1 ?g2 ?g3 ?kd ?ku ?_; (case k1 => k_asm); (case k2 => k_asm); (case k3 => k_asm); (case k4 => k_asm); (case p1 => repeat (first | exact Pick.head | apply Pick.tail)); (case p2 => repeat (first | exact Pick.head | apply Pick.tail)); (case k5 => k_asm); (case kK => exact rfl); (case ki => l_ints); (case kt => assumption); (case kn => assumption); (case kr => k_all); (case g0 => first | assumption | decide); (case g1 => first | assumption | decide); (case g2 => decide); (case g3 => decide); (case kd => ktr_room); (case ku => ktr_units)); intro v t k' t' h' tk' g0 g1 g2 g3 F' N'; (try k_sweep); (try dsimp only)))
open Lean in
local macro_rules | `(tactic| walk_at "call ref") => `(tactic| (k_here; (with_reducible show wpAny _ _ (call (Value.ref 482) _) _ _ _); k_dflt (refine' count_use (bits_tells _ _ _ _) ?k1 ?k2 ?k3 ?k4 ?k5 ?kK ?w0 ?kd ?ku ?_; (case k1 => k_asm); (case k2 => k_asm); (case k3 => k_asm); (case k4 => k_asm); (case k5 => k_asm); (case kK => exact rfl); (case w0 => exact fig_bound (by assumption) (by assumption)); (case kd => ktr_room); (case ku => ktr_units)); intro t h' tk' F' N' c0 c1; (try k_sweep); (try dsimp only)))
open Lean in
local macro_rules | `(tactic| walk_at "call ref") => `(tactic| (k_here; (with_reducible show wpAny _ _ (call (Value.ref 600) _) _ _ _); k_dflt (refine' count_use (doubled_tells _ _ _ _) ?k1 ?k2 ?k3 ?k4 ?k5 ?kK ?w0 ?kd ?ku ?_; (case k1 => k_asm); (case k2 => k_asm); (case k3 => k_asm); (case k4 => k_asm); (case k5 => k_asm); (case kK => exact rfl); (case w0 => exact fig_bound (by assumption) (by assumption)); (case kd => ktr_room); (case ku => ktr_units)); intro t h' tk' F' N' c0 c1; (try k_sweep); (try dsimp only)))
open Lean in
local macro_rules | `(tactic| walk_at "call ref") => `(tactic| (k_here; (with_reducible show wpAny _ _ (call (Value.ref 489) _) _ _ _); k_dflt (refine' other_use (bits_other _ _ _ _) ?k1 ?k2 ?k3 ?k4 ?p1 ?k5 ?kK ?kd ?ku ?_; (case k1 => k_asm); (case k2 => k_asm); (case k3 => k_asm); (case k4 => k_asm); (case p1 => repeat (first | exact Pick.head | apply Pick.tail)); (case k5 => k_asm); (case kK => exact rfl); (case kd => ktr_room); (case ku => ktr_units)); intro x d a1 a2 a3 b1 b2 b3 g h' tk' FG' U' R'; (try dsimp only)))
open Lean in
local macro_rules | `(tactic| walk_at "call ref") => `(tactic| (k_here; (with_reducible show wpAny _ _ (call (Value.ref 489) _) _ _ _); k_dflt (refine' other_use (display_other _ _ _ _) ?k1 ?k2 ?k3 ?k4 ?p1 ?k5 ?kK ?kd ?ku ?_; (case k1 => k_asm); (case k2 => k_asm); (case k3 => k_asm); (case k4 => k_asm); (case p1 => repeat (first | exact Pick.head | apply Pick.tail)); (case k5 => k_asm); (case kK => exact rfl); (case kd => ktr_room); (case ku => ktr_units)); intro x d a1 a2 a3 b1 b2 b3 g h' tk' FG' U' R'; (try dsimp only)))
open Lean in
local macro_rules | `(tactic| walk_at "call ref") => `(tactic| (k_here; (with_reducible show wpAny _ _ (call (Value.ref 489) _) _ _ _); k_dflt (refine' other_use (time_other _ _ _ _) ?k1 ?k2 ?k3 ?k4 ?p1 ?k5 ?kK ?kd ?ku ?_; (case k1 => k_asm); (case k2 => k_asm); (case k3 => k_asm); (case k4 => k_asm); (case p1 => repeat (first | exact Pick.head | apply Pick.tail)); (case k5 => k_asm); (case kK => exact rfl); (case kd => ktr_room); (case ku => ktr_units)); intro x d a1 a2 a3 b1 b2 b3 g h' tk' FG' U' R'; (try dsimp only)))
open Lean in
local macro_rules | `(tactic| walk_at "call ref") => `(tactic| (k_here; (with_reducible show wpAny _ _ (call (Value.ref 489) _) _ _ _); k_dflt (refine' clog_use (known_tells _ _ _ _) ?k1 ?k2 ?k3 ?k4 ?p1 ?p2 ?p3 ?p4 ?p5 ?k5 ?kK ?w0 ?kd ?ku ?_; (case k1 => k_asm); (case k2 => k_asm); (case k3 => k_asm); (case k4 => k_asm); (case p1 => repeat (first | exact Pick.head | apply Pick.tail)); (case p2 => repeat (first | exact Pick.head | apply Pick.tail)); (case p3 => repeat (first | exact Pick.head | apply Pick.tail)); (case p4 => repeat (first | exact Pick.head | apply Pick.tail)); (case p5 => repeat (first | exact Pick.head | apply Pick.tail)); (case k5 => k_asm); (case kK => exact rfl); (case w0 => exact fig_bound (by assumption) (by assumption)); (case kd => ktr_room); (case ku => ktr_units)); intro D u0 u1 u2 h' tk' F' N' l1; (try dsimp only [ClogLed] at F' N' l1); (try simp only [AllLt, and_true] at l1); (try k_sweep); (try dsimp only)))
open Lean in
local macro_rules | `(tactic| walk_at "call ref") => `(tactic| (k_here; (with_reducible show wpAny _ _ (call (Value.ref 489) _) _ _ _); k_dflt (refine' clog_use (unknown_tells _ _ _ _) ?k1 ?k2 ?k3 ?k4 ?p1 ?p2 ?p3 ?p4 ?p5 ?k5 ?kK ?w0 ?kd ?ku ?_; (case k1 => k_asm); (case k2 => k_asm); (case k3 => k_asm); (case k4 => k_asm); (case p1 => repeat (first | exact Pick.head | apply Pick.tail)); (case p2 => repeat (first | exact Pick.head | apply Pick.tail)); (case p3 => repeat (first | exact Pick.head | apply Pick.tail)); (case p4 => repeat (first | exact Pick.head | apply Pick.tail)); (case p5 => repeat (first | exact Pick.head | apply Pick.tail)); (case k5 => k_asm); (case kK => exact rfl); (case w0 => exact fig_bound (by assumption) (by assumption)); (case kd => ktr_room); (case ku => ktr_units)); intro D u0 u1 u2 h' tk' F' N' l1; (try dsimp only [ClogLed] at F' N' l1); (try simp only [AllLt, and_true] at l1); (try k_sweep); (try dsimp only)))
open Lean in
local macro_rules | `(tactic| walk_at "call ref") => `(tactic| (k_here; (with_reducible show wpAny _ _ (call (Value.ref 489) _) _ _ _); k_dflt (refine' random_use (random_tells _ _ _ _) ?k1 ?k2 ?k3 ?k4 ?p1 ?p2 ?p3 ?p4 ?p5 ?k5 ?kK ?w0 ?w1 ?r0 ?r1 ?n1 ?n2 ?n3 ?n4 ?n5 ?hf ?hz ?kd ?ku ?_; (case k1 => k_asm); (case k2 => k_asm); (case k3 => k_asm); (case k4 => k_asm); (case p1 => repeat (first | exact Pick.head | apply Pick.tail)); (case p2 => repeat (first | exact Pick.head | apply Pick.tail)); (case p3 => repeat (first | exact Pick.head | apply Pick.tail)); (case p4 => repeat (first | exact Pick.head | apply Pick.tail)); (case p5 => repeat (first | exact Pick.head | apply Pick.tail)); (case k5 => k_asm); (case kK => exact rfl); (case w0 => l_fact); (case w1 => l_fact); (case r0 => first | assumption | omega); (case r1 => first | assumption | omega); (case n1 => k_ne); (case n2 => k_ne); (case n3 => k_ne); (case n4 => k_ne); (case n5 => k_all); (case hf => exact rfl); (case hz => first | exact fig_lo (by assumption) (by assumption) | exact fig_hi (by assumption) (by assumption)); (case kd => ktr_room); (case ku => ktr_units)); intro D u0 u1 u2 u3 h' tk' F' N' l1; (try dsimp only [RandLed] at F' N' l1); (try simp only [AllLt, and_true] at l1); (try k_sweep); (try dsimp only)))
open Lean in
local macro_rules | `(tactic| walk_at "call ref") => `(tactic| (k_here; (with_reducible show wpAny _ _ (call (Value.ref 489) _) _ _ _); k_dflt (refine' time_use (realtime_tells _ _ _ _) ?k1 ?k2 ?k3 ?k4 ?p1 ?p2 ?p3 ?k5 ?kK ?w0 ?w1 ?kd ?ku ?_; (case k1 => k_asm); (case k2 => k_asm); (case k3 => k_asm); (case k4 => k_asm); (case p1 => repeat (first | exact Pick.head | apply Pick.tail)); (case p2 => repeat (first | exact Pick.head | apply Pick.tail)); (case p3 => repeat (first | exact Pick.head | apply Pick.tail)); (case k5 => k_asm); (case kK => exact rfl); (case w0 => l_fact); (case w1 => l_fact); (case kd => ktr_room); (case ku => ktr_units)); intro D u0 u1 u2 h' tk' F' N' l1; (try dsimp only [TimeLed] at F' N' l1); (try simp only [AllLt, and_true] at l1); (try k_sweep); (try dsimp only)))
open Lean in
local macro_rules | `(tactic| walk_at "call ref") => `(tactic| (k_here; (with_reducible show wpAny _ _ (call (Value.ref 489) _) _ _ _); k_dflt (refine' time_use (stime_tells _ _ _ _) ?k1 ?k2 ?k3 ?k4 ?p1 ?p2 ?p3 ?k5 ?kK ?w0 ?w1 ?kd ?ku ?_; (case k1 => k_asm); (case k2 => k_asm); (case k3 => k_asm); (case k4 => k_asm); (case p1 => repeat (first | exact Pick.head | apply Pick.tail)); (case p2 => repeat (first | exact Pick.head | apply Pick.tail)); (case p3 => repeat (first | exact Pick.head | apply Pick.tail)); (case k5 => k_asm); (case kK => exact rfl); (case w0 => l_fact); (case w1 => l_fact); (case kd => ktr_room); (case ku => ktr_units)); intro D u0 u1 u2 h' tk' F' N' l1; (try dsimp only [TimeLed] at F' N' l1); (try simp only [AllLt, and_true] at l1); (try k_sweep); (try dsimp only)))
open Lean in
local macro_rules | `(tactic| walk_at "call ref") => `(tactic| (k_here; (with_reducible show wpAny _ _ (call (Value.ref 489) _) _ _ _); k_dflt (refine' time_use (time_tells _ _ _ _) ?k1 ?k2 ?k3 ?k4 ?p1 ?p2 ?p3 ?k5 ?kK ?w0 ?w1 ?kd ?ku ?_; (case k1 => k_asm); (case k2 => k_asm); (case k3 => k_asm); (case k4 => k_asm); (case p1 => repeat (first | exact Pick.head | apply Pick.tail)); (case p2 => repeat (first | exact Pick.head | apply Pick.tail)); (case p3 => repeat (first | exact Pick.head | apply Pick.tail)); (case k5 => k_asm); (case kK => exact rfl); (case w0 => l_fact); (case w1 => l_fact); (case kd => ktr_room); (case ku => ktr_units)); intro D u0 u1 u2 h' tk' F' N' l1; (try dsimp only [TimeLed] at F' N' l1); (try simp only [AllLt, and_true] at l1); (try k_sweep); (try dsimp only)))
section
open PySem PySem.Spec PySem.Calls PySem.W PyProof.Rows
namespace Mine
def lawDef : Stmt := match PySem.Challenge.pw_pq0470_01.main.body.reverse with
  | s :: _ => s
  | [] => .Pass default
def lawBody : List Stmt := match lawDef with
  | .FunctionDef _ _ b _ _ _ _ _ _ _ => b
  | _ => []
def lawScope : Scope := match lawDef with
  | .FunctionDef _ _ _ _ _ _ sc _ _ _ => sc
  | _ => default
def lapBody : List Stmt := match lawBody.drop 9 with
  | .For _ _ b _ _ :: _ => b
  | _ => []
theorem lap_is : lapBody.length = 6 := by decide +kernel
def lapOff : List Str := [Str.ofString "power_of", Str.ofString "figure", Str.ofString "unknown", Str.ofString "due"]
def LapTells (w : World) (mean : ExcName → Option Value) (mg mb : Str → Option Value) : Prop :=
  ∀ (fa : Addr) (cd : Value) (h₀ : Heap) (L : Addr) (m : Str → Option Value) (news : List (Addr × Obj)) (s : Shared) (l1 l2 X dX : Addr) (odX : Obj) (vs : List Value) (ns : List Int) (n1 n2 : Nat) (k : Int) (t : Tok) (Q : Flow → Shared → Prop) (E : Value → Shared → Prop),
    Below callerA h₀ [] h₀ → Fr h₀ L s.heap m → (K0 w).In h₀ → News h₀ L s.heap ((l1, listOf #[.ref l2, .int k t] n1) :: (l2, listOf vs.toArray n2) :: (X, instObj 575 dX) :: (dX, odX) :: news) → Top q (looseW q lo) mean mg mb h₀ →
    IntsAre vs ns → ns.length ≤ 40 → @Ne Nat l2 l1 → @Ne Nat X l1 → @Ne Nat dX l1 → (∀ p ∈ news, p.1 ≠ l1) → 0 ≤ k → k ≤ 40 → m (Str.ofString "sand") = some (.ref l1) → m (Str.ofString "ctx") = some (.ref X) →
    (∀ k' t' m' h' tk' news', 0 ≤ k' → k' ≤ 40 → Fr h₀ L h' m' → (∀ z, lapOff.contains z = false → m' z = m z) → News h₀ L h' news' → (∀ p ∈ (l1, listOf #[.ref l2, .int k' t'] n1) :: (l2, listOf vs.toArray n2) :: (X, instObj 575 dX) :: (dX, odX) :: news, p ∈ news') → Q .next { s with heap := h', toks := tk' }) →
    wpAny (model P0 w) (callerA.deeper (envOf (Str.ofString "law") lawScope L fa cd)) (execs lapBody (envOf (Str.ofString "law") lawScope L fa cd)) Q E s
theorem fr_two {h₀ h : Heap} {L : Addr} {m : Str → Option Value} {x y : Str} {v u : Value} (F : Fr h₀ L h m) (hx : m x = some v) (hy : m y = some u) : Fr h₀ L h (fun z => if z = x then some v else if z = y then some u else m z) := by
  have e : (fun z => if z = x then some v else if z = y then some u else m z) = m := by
    funext z
    by_cases h1 : z = x
    · rw [if_pos h1, h1, hx]
    · rw [if_neg h1]
      by_cases h2 : z = y
      · rw [if_pos h2, h2, hy]
      · rw [if_neg h2]
  rw [e]; exact F
section
open Lean in
local macro_rules | `(tactic| k_all) => `(tactic| assumption)
theorem lap_tells (w : World) (mean : ExcName → Option Value) (mg mb : Str → Option Value) : LapTells w mean mg mb := by
  have keep : PySem.Challenge.rw_pq0470_01.row = PySem.Challenge.rw_pq0470_01.row ∧ hd.heap_1 = hd.heap_1 → True := fun _ => trivial
  unfold LapTells P0 K0
  k_fill
  w_top off
  intro fa cd h₀ L m news s l1 l2 X dX odX vs ns n1 n2 k t Q E B F KX N T hi hlen e1 e2 e3 e4 k0 k1 ms mx hret
  have F := fr_two F ms mx
  with_unfolding_all change wpAny _ _ (execs [_, _, _, _, _, _] (envOf _ { kind := _, names := _, isGenerator := _, isCoroutine := _, more := _ } _ _ _)) _ _ _
  (try k_fold)
  have kM := kstMark
  k_steps
  all_goals first
    | exact absurd rfl (by assumption)
    | (refine' hret _ _ _ _ _ _ ?k0 ?k1 ?F ?same ?N ?sub
       (case F => k_asm)
       (case N => k_asm)
       (case sub => first | kst_in | kst_inAny)
       (case k0 => assumption)
       (case k1 => assumption)
       (case same =>
         intro z hz
         simp only [lapOff, List.contains_cons, List.contains_nil, Bool.or_false, Bool.or_eq_false_iff, beq_eq_false_iff_ne, ne_eq] at hz
         obtain ⟨h1, h2, h3, h4⟩ := hz
         simp only [h1, h2, h3, h4, if_false]
         by_cases q1 : z = Str.ofString "sand"
         · rw [if_pos q1, q1, ms]
         · rw [if_neg q1]
           by_cases q2 : z = Str.ofString "ctx"
           · rw [if_pos q2, q2, mx]
           · rw [if_neg q2]))
end
end Mine
end
section
open PySem PySem.Spec PySem.Calls PySem.W PyProof.Rows
namespace Mine
def tryBody : List Stmt := lawBody.drop 10
abbrev TryLed (w : World) (l1 l2 X dX S dS : Addr) (odX : Obj) (vs : List Value) (n1 n2 : Nat) (k : Int) (t s1 s2 s3 s4 s5 : Tok) (v1 v2 v3 : Value) (sd : Int) (news : List (Addr × Obj)) : List (Addr × Obj) :=
  (l1, listOf #[.ref l2, .int k t] n1) :: (l2, listOf vs.toArray n2) :: (X, instObj 575 dX) :: (dX, odX) :: (S, instObj 532 dS) :: (dS, stoD w s1 s2 s3 s4 v1 v2 v3 sd s5) :: news
def TryTells (w : World) (mean : ExcName → Option Value) (mg mb : Str → Option Value) : Prop :=
  ∀ (fa : Addr) (cd : Value) (h₀ : Heap) (L : Addr) (m : Str → Option Value) (news : List (Addr × Obj)) (s : Shared) (l1 l2 X dX S dS : Addr) (odX : Obj) (vs : List Value) (ns : List Int) (n1 n2 : Nat) (k : Int) (t s1 s2 s3 s4 s5 st : Tok) (v1 v2 v3 : Value) (sd : Int) (Q : Flow → Shared → Prop) (Q1 : Value → Shared → Prop) (E1 : Value → Shared → Prop),
    Below callerA h₀ [] h₀ → Fr h₀ L s.heap m → (K0 w).In h₀ → News h₀ L s.heap (TryLed w l1 l2 X dX S dS odX vs n1 n2 k t s1 s2 s3 s4 s5 v1 v2 v3 sd news) → Top q (looseW q lo) mean mg mb h₀ →
    IntsAre vs ns → ns.length ≤ 40 → @Ne Nat l2 l1 → @Ne Nat X l1 → @Ne Nat dX l1 → @Ne Nat S l1 → @Ne Nat dS l1 → (∀ p ∈ news, p.1 ≠ l1) → 0 ≤ k → k ≤ 40 → m (Str.ofString "sand") = some (.ref l1) → m (Str.ofString "ctx") = some (.ref X) → m (Str.ofString "store") = some (.ref S) → m (Str.ofString "seed") = some (.int sd st) →
    (∀ m' h' tk', Fr h₀ L h' m' → Q (.ret (.bool true)) { s with heap := h', toks := tk' }) →
    wpAny (model P0 w) (callerA.deeper (envOf (Str.ofString "law") lawScope L fa cd)) (execs tryBody (envOf (Str.ofString "law") lawScope L fa cd)) Q
      (fun e s' => wpAny (model P0 w) (callerA.deeper (envOf (Str.ofString "law") lawScope L fa cd)) (leaving (envOf (Str.ofString "law") lawScope L fa cd) e) (fun _ s'' => Q1 e s'') E1 s') s
theorem item3 {prog : Program} {w : World} {A : Around} {E : Value → Shared → Prop} {s : Shared} {value slice : PySem.Expr} {h₀ : Heap} {L D : Addr} {news : List (Addr × Obj)} {a0 a1 a2 : Value} {n : Nat} {v : Int} {u : Tok} {Q : Value → Shared → Prop}
    (N : News h₀ L s.heap news) (hm : (D, listOf #[a0, a1, a2] n) ∈ news) (h0 : 0 ≤ v) (h1 : v < 3) (q0 : Q a0 s) (q1 : Q a1 s) (q2 : Q a2 s)
    (hs : subscripted slice false (.ref D) (.int v u) = operate [.ref D, .int v u] (getItem (.ref D) (.int v u)) := by with_unfolding_all rfl) :
    wpAny (model prog w) A (subscriptTail value slice (.ref D) (.int v u)) Q E s := by
  have hl : s.heap.IsList D #[a0, a1, a2] := PySem.IsL.isList (n := n) (N _ hm).1
  have all : ∀ x, #[a0, a1, a2][v.toNat]? = some x → Q x s → wpAny (model prog w) A (subscriptTail value slice (.ref D) (.int v u)) Q E s := fun x hx h => tail_any hl.typeIs slot_list_getitem.lookup (wpAny_getItem_list hl h0 (by omega) hx h) hs
  have c : v = 0 ∨ v = 1 ∨ v = 2 := by omega
  rcases c with rfl | rfl | rfl
  · exact all a0 rfl q0
  · exact all a1 rfl q1
  · exact all a2 rfl q2
theorem bool_back {Q : Flow → Shared → Prop} {b : Bool} {s : Shared} (e : b = true) (h : Q (.ret (.bool true)) s) : Q (.ret (.bool b)) s := e ▸ h
theorem get_excN {prog : Program} {w : World} {A : Around} {E : Value → Shared → Prop} {K : Frag} {C x D : Addr} {s : Shared} {h₀ : Heap} {L : Addr} {m : Str → Option Value} {news : List (Addr × Obj)} {name : Str} {v : Value} {ws : Array Value} {sl : Array (Option Value)} {es : List DictEntry} {n : Nat} {attr : Option Value} {expr : Bool} {Q : Value → Shared → Prop}
    (F : Fr h₀ L s.heap m) (X₀ : K.In h₀) (N : News h₀ L s.heap news) (hx : (x, (⟨.ref C, some D, .fields ws, sl⟩ : Obj)) ∈ news) (hD : (D, dictOf es n) ∈ news) (hga : findIn K (.ref C) "__getattribute__" = some (some (.builtin "BaseException.__getattribute__")))
    (hgm : findIn K (.ref C) "__getattr__" = some none) (hsub : mroIn K C (.type "BaseException") = some true) (hh : hasDictIn K C = true) (ha : findIn K (.ref C) name = some attr) (hn : noGet K attr = true) (hl : getL name es = some (some v)) (hv : handedIn v = true) (h : Q v { s with toks := s.toks + 1 }) :
    wpAny (model prog w) A (getAttr (.ref x) name expr) Q E s :=
  get_exc (X₀.keeps F.keep) ⟨(N _ hx).1, rfl, rfl, (N _ hD).1⟩ hga hgm hsub (findObj_own (od := dictOf es n) hh ha hn hl) hv h
section
open Lean in
local macro_rules | `(tactic| walk_at "noteFrame ref") => `(tactic| (k_here; k_dflt (refine' caughtD ?K ?F ?U ?R ?X ?T ?ex ?hC ?hb ?_ ?hk ?hlo ?hx ?hdb; (case R => assumption); (case U => assumption); (case F => assumption); (case K => k_asm); (case X => k_asm); (case T => k_asm); (case ex => k_is); (case hC => k_is); (case hb => decide +kernel); (case hk => exact rfl); (case hlo => exact rfl); (case hx => exact rfl); (case hdb => decide)); intro h' ws sl tk F' N'; (try k_sweep); (try dsimp only)))
open Lean in
local macro_rules | `(tactic| walk_at "getAttr ref") => `(tactic| (k_here; k_dflt (refine' get_excN ?k1 ?k2 ?k3 ?k4 ?k5 ?k6 ?k7 ?k8 ?k9 ?l1 ?l2 ?l3 ?l4 ?_; (case k1 => k_asm); (case k2 => k_asm); (case k3 => k_asm); (case k4 => k_mem); (case k5 => k_mem); (case k6 => k_is); (case k7 => k_is); (case k8 => k_is); (case k9 => k_is); (case l1 => k_is); (case l2 => k_is); (case l3 => k_get); (case l4 => k_handed))))
open Lean in
local macro_rules | `(tactic| walk_at "subscriptTail") => `(tactic| (k_here; (with_reducible show wpAny _ _ (subscriptTail _ _ (Value.ref _) (Value.int _ _)) _ _ _); k_dflt (refine' item3 ?k1 ?k2 ?k3 ?k4 ?_ ?_ ?_ ?k6; (case k1 => k_asm); (case k2 => k_mem); (case k3 => assumption); (case k4 => assumption); (case k6 => with_unfolding_all rfl))))
open Lean in
local macro_rules | `(tactic| k_all) => `(tactic| assumption)
theorem try_tells (w : World) (mean : ExcName → Option Value) (mg mb : Str → Option Value) : TryTells w mean mg mb := by
  have keep : PySem.Challenge.rw_pq0470_01.row = PySem.Challenge.rw_pq0470_01.row ∧ hd.heap_1 = hd.heap_1 → True := fun _ => trivial
  unfold TryTells P0 K0 TryLed
  k_fill
  w_top off
  intro fa cd h₀ L m news s l1 l2 X dX S dS odX vs ns n1 n2 k t s1 s2 s3 s4 s5 st v1 v2 v3 sd Q Q1 E1 B F KX N T hi hlen e1 e2 e3 e4 e5 e6 k0 k1 ms mx mst msd hret
  have F := fr_two (fr_two F ms mx) (x := Str.ofString "store") (y := Str.ofString "seed") mst msd
  with_unfolding_all change wpAny _ _ (execs [_, _] (envOf _ { kind := _, names := _, isGenerator := _, isCoroutine := _, more := _ } _ _ _)) _ _ _
  (try k_fold)
  have kM := kstMark
  k_steps
  all_goals (
    refine' bool_back ?b (hret _ _ _ ?F)
    (case b => exact beq_self_eq_true _)
    (case F => k_asm))
end
end Mine
end
section
open PySem PySem.Spec PySem.Calls PySem.W PyProof.Rows
namespace Mine
section
variable {w : World} {mean : ExcName → Option Value} {mg mb : Str → Option Value} {fa : Addr} {cd : Value} {h₀ : Heap} {L : Addr} {m₀ : Str → Option Value} {s : Shared} {Q : Flow → Shared → Prop}
variable {led r1 r2 r3 r4 r5 r6 : List (Addr × Obj)} {l1 l2 X dX S dS : Addr} {odX : Obj} {vs : List Value} {ns : List Int} {n1 n2 : Nat} {k : Int} {t : Tok}
theorem lap_loop {E : Value → Shared → Prop} {r : Addr} {a₀ b₀ : Int} {t₀ u₀ v₀ : Tok} {n : Nat} (C : LapTells w mean mg mb) (B : Below callerA h₀ [] h₀) (F : Fr h₀ L s.heap m₀) (X₀ : (hd.heap_1 w.params).In h₀) (N : News h₀ L s.heap led) (T : Top q (looseW q lo) mean mg mb h₀)
    (P1 : Pick (l1, listOf #[.ref l2, .int k t] n1) led r1) (P2 : Pick (l2, listOf vs.toArray n2) r1 r2) (P3 : Pick (X, instObj 575 dX) r2 r3) (P4 : Pick (dX, odX) r3 r4)
    (hr : IsRange s.heap r a₀ b₀ 1 t₀ u₀ v₀) (hsmall : Builtin.Range.small a₀ b₀ 1 = true) (hn : Builtin.Range.rangeSize a₀ b₀ 1 = (n : Int))
    (hi : IntsAre vs ns) (hlen : ns.length ≤ 40) (e1 : @Ne Nat l2 l1) (e2 : @Ne Nat X l1) (e3 : @Ne Nat dX l1) (e4 : ∀ p ∈ r4, p.1 ≠ l1) (k0 : 0 ≤ k) (k1 : k ≤ 40) (ms : m₀ (Str.ofString "sand") = some (.ref l1)) (mx : m₀ (Str.ofString "ctx") = some (.ref X))
    (done : ∀ (k : Int) (t : Tok) (u : Str → Option Value) h tk, 0 ≤ k → k ≤ 40 → Fr h₀ L h (fun y => if y = Str.ofString "lap" then u y else if lapOff.contains y then u y else m₀ y) →
      News h₀ L h ((l1, listOf #[.ref l2, .int k t] n1) :: (l2, listOf vs.toArray n2) :: (X, instObj 575 dX) :: (dX, odX) :: r4) → Q .next { s with heap := h, toks := tk }) :
    wpAny (model PySem.Challenge.rw_pq0470_01.row.prog w) (callerA.deeper (envOf (Str.ofString "law") lawScope L fa cd)) (pyIter (.ref r))
      (fun it s₂ => LoopAtV PySem.Challenge.rw_pq0470_01.row.prog w (callerA.deeper (envOf (Str.ofString "law") lawScope L fa cd)) h₀ (envOf (Str.ofString "law") lawScope L fa cd) (Str.ofString "lap") lapBody Q E it s₂) E s := by
  have M2 := Pick.news2 N P1 P2
  have M4 := Pick.news2 (fun y hy => M2 y (.tail _ (.tail _ hy))) P3 P4
  have N2 : News h₀ L s.heap ((l1, listOf #[.ref l2, .int k t] n1) :: (l2, listOf vs.toArray n2) :: (X, instObj 575 dX) :: (dX, odX) :: r4) := fun x hx => by
    rcases List.mem_cons.mp hx with rfl | hx
    · exact M2 _ (.head _)
    · rcases List.mem_cons.mp hx with rfl | hx
      · exact M2 _ (.tail _ (.head _))
      · exact M4 x hx
  refine lap_range (env := envOf (Str.ofString "law") lawScope L fa cd) lapOff N2 Pick.head rfl hr hsmall hn F k0 k1 (fun k t i pre tt u h tk own k0 k1 hoff F' N' => ?_) done
  have sandOff : lapOff.contains (Str.ofString "sand") = false := by decide +kernel
  have ctxOff : lapOff.contains (Str.ofString "ctx") = false := by decide +kernel
  have sandLap : Str.ofString "sand" ≠ Str.ofString "lap" := by decide +kernel
  have ctxLap : Str.ofString "ctx" ≠ Str.ofString "lap" := by decide +kernel
  refine C fa cd h₀ L _ (r4 ++ own) _ l1 l2 X dX odX vs ns n1 n2 k t _ _ B F' X₀ N' T hi hlen e1 e2 e3 (fun p hp => ?_) k0 k1 ?_ ?_ (fun k' t' m' h' tk' news' k0' k1' F'' hm N'' hsub => ?_)
  · rcases List.mem_append.mp hp with hp | hp
    · exact e4 p hp
    · exact hoff p hp l1 (.head _)
  · rw [if_neg sandLap, sandOff, if_neg (by decide), ms]
  · rw [if_neg ctxLap, ctxOff, if_neg (by decide), mx]
  · refine kst_end (σ := Int × Tok) (k', t') F'' N'' (fun p hp => hsub p ?_) (fun p hp => hsub p (.tail _ (.tail _ (.tail _ (.tail _ (List.mem_append.mpr (.inr hp))))))) rfl trivial (fun _ h => nomatch h) (fun z hz _ hs => ?_) ⟨k0', k1'⟩
    · rcases List.mem_cons.mp hp with rfl | hp
      · exact .head _
      · rcases List.mem_cons.mp hp with rfl | hp
        · exact .tail _ (.head _)
        · rcases List.mem_cons.mp hp with rfl | hp
          · exact .tail _ (.tail _ (.head _))
          · rcases List.mem_cons.mp hp with rfl | hp
            · exact .tail _ (.tail _ (.tail _ (.head _)))
            · exact .tail _ (.tail _ (.tail _ (.tail _ (List.mem_append.mpr (.inl hp)))))
    · rw [hm z hs]
      rw [if_neg hz, hs, if_neg (by decide)]
theorem try_use {s1 s2 s3 s4 s5 st : Tok} {v1 v2 v3 : Value} {sd sd' : Int} {Q1 E1 : Value → Shared → Prop} (C : TryTells w mean mg mb) (B : Below callerA h₀ [] h₀) (F : Fr h₀ L s.heap m₀) (X₀ : (hd.heap_1 w.params).In h₀) (N : News h₀ L s.heap led) (T : Top q (looseW q lo) mean mg mb h₀)
    (P1 : Pick (l1, listOf #[.ref l2, .int k t] n1) led r1) (P2 : Pick (l2, listOf vs.toArray n2) r1 r2) (P3 : Pick (X, instObj 575 dX) r2 r3) (P4 : Pick (dX, odX) r3 r4) (P5 : Pick (S, instObj 532 dS) r4 r5) (P6 : Pick (dS, stoD w s1 s2 s3 s4 v1 v2 v3 sd' s5) r5 r6)
    (hi : IntsAre vs ns) (hlen : ns.length ≤ 40) (e1 : @Ne Nat l2 l1) (e2 : @Ne Nat X l1) (e3 : @Ne Nat dX l1) (e4 : @Ne Nat S l1) (e5 : @Ne Nat dS l1) (k0 : 0 ≤ k) (k1 : k ≤ 40)
    (ms : m₀ (Str.ofString "sand") = some (.ref l1)) (mx : m₀ (Str.ofString "ctx") = some (.ref X)) (mst : m₀ (Str.ofString "store") = some (.ref S)) (msd : m₀ (Str.ofString "seed") = some (.int sd st)) (hz : sd = sd')
    (ret : ∀ m' h' tk', Fr h₀ L h' m' → Q (.ret (.bool true)) { s with heap := h', toks := tk' }) :
    wpAny (model PySem.Challenge.rw_pq0470_01.row.prog w) (callerA.deeper (envOf (Str.ofString "law") lawScope L fa cd)) (execs tryBody (envOf (Str.ofString "law") lawScope L fa cd)) Q
      (fun e s' => wpAny (model PySem.Challenge.rw_pq0470_01.row.prog w) (callerA.deeper (envOf (Str.ofString "law") lawScope L fa cd)) (leaving (envOf (Str.ofString "law") lawScope L fa cd) e) (fun _ s'' => Q1 e s'') E1 s') s := by
  subst hz
  have M2 := Pick.news2 N P1 P2
  have M4 := Pick.news2 (fun y hy => M2 y (.tail _ (.tail _ hy))) P3 P4
  have M6 := Pick.news2 (fun y hy => M4 y (.tail _ (.tail _ hy))) P5 P6
  have N2 : News h₀ L s.heap (TryLed w l1 l2 X dX S dS odX vs n1 n2 k t s1 s2 s3 s4 s5 v1 v2 v3 sd []) := fun x hx => by
    rcases List.mem_cons.mp hx with rfl | hx
    · exact M2 _ (.head _)
    · rcases List.mem_cons.mp hx with rfl | hx
      · exact M2 _ (.tail _ (.head _))
      · rcases List.mem_cons.mp hx with rfl | hx
        · exact M4 _ (.head _)
        · rcases List.mem_cons.mp hx with rfl | hx
          · exact M4 _ (.tail _ (.head _))
          · rcases List.mem_cons.mp hx with rfl | hx
            · exact M6 _ (.head _)
            · rcases List.mem_cons.mp hx with rfl | hx
              · exact M6 _ (.tail _ (.head _))
              · cases hx
  exact C _ _ _ _ _ [] _ _ _ _ _ _ _ _ _ _ _ _ _ _ _ _ _ _ _ _ _ _ _ _ _ _ _ B F X₀ N2 T hi hlen e1 e2 e3 e4 e5 (fun _ h => nomatch h) k0 k1 ms mx mst msd ret
end
end Mine
end
section
open PySem PySem.Spec PySem.Calls PySem.W PyProof.Rows
namespace Mine
open Lean in
local macro_rules | `(tactic| walk_at "execs cons Try") => `(tactic| (k_here; k_dflt (with_unfolding_all refine' try_use (try_tells _ _ _ _) ?k1 ?k2 ?k3 ?k4 ?k5 ?p1 ?p2 ?p3 ?p4 ?p5 ?p6 ?ki ?kt ?n1 ?n2 ?n3 ?n4 ?n5 ?g0 ?g1 ?m1 ?m2 ?m3 ?m4 ?hz ?_; (case k1 => k_asm); (case k2 => k_asm); (case k3 => k_asm); (case k4 => k_asm); (case k5 => k_asm); (case m1 => exact rfl); (case m2 => exact rfl); (case m3 => exact rfl); (case m4 => exact rfl); (case p1 => repeat (first | exact Pick.head | apply Pick.tail)); (case p2 => repeat (first | exact Pick.head | apply Pick.tail)); (case p3 => repeat (first | exact Pick.head | apply Pick.tail)); (case p4 => repeat (first | exact Pick.head | apply Pick.tail)); (case p5 => repeat (first | exact Pick.head | apply Pick.tail)); (case p6 => repeat (first | exact Pick.head | apply Pick.tail)); (case hz => assumption); (case ki => l_ints); (case kt => assumption); (case n1 => first | assumption | omega); (case n2 => first | assumption | omega); (case n3 => first | assumption | omega); (case n4 => first | assumption | omega); (case n5 => first | assumption | omega); (case g0 => assumption); (case g1 => assumption)); intro m' h' tk' F'; (try dsimp only)))
theorem main : PySem.Challenge.rw_pq0470_01.Holds := by
  refine hd ?_
  k_with "pyIter ref" => (k_here; (with_reducible show wpAny _ _ (pyIter (Value.ref _)) (fun it s₂ => LoopAtV _ _ _ _ _ _ _ _ _ it s₂) _ _); k_dflt (with_unfolding_all refine' lap_loop (lap_tells _ _ _ _) ?k1 ?k2 ?k3 ?k4 ?k5 ?p1 ?p2 ?p3 ?p4 ?hr ?hs ?hn ?ki ?kt ?n1 ?n2 ?n3 ?n4 ?g0 ?g1 ?m1 ?m2 ?_; (case hr => assumption); (case hs => decide); (case hn => exact rfl); (case k1 => k_asm); (case k2 => k_asm); (case k3 => k_asm); (case k4 => k_asm); (case k5 => k_asm); (case m1 => exact rfl); (case m2 => exact rfl); (case p1 => repeat (first | exact Pick.head | apply Pick.tail)); (case p2 => repeat (first | exact Pick.head | apply Pick.tail)); (case p3 => repeat (first | exact Pick.head | apply Pick.tail)); (case p4 => repeat (first | exact Pick.head | apply Pick.tail)); (case ki => l_ints); (case kt => assumption); (case n1 => first | assumption | omega); (case n2 => first | assumption | omega); (case n3 => first | assumption | omega); (case n4 => k_all); (case g0 => assumption); (case g1 => assumption)); intro k t u h tk k0 k1 F' N'; (try dsimp only at F' N'); (try k_sweep))
  k_with "pyIter ref" => k_state_short (fun pre seed r => seed = r ∧ 0 ≤ r ∧ r < 4294967296) "seed" "store.random_seed"
  k_with "state" => exact rnd_turn (by assumption)
  w_strict k_go0
  (all_goals try k_fold)
  k_steps
end Mine
end
end
theorem PySem.Challenge.cw_pq0470_01_holds : PySem.Challenge.rw_pq0470_01.Holds :=
  Mine.main
