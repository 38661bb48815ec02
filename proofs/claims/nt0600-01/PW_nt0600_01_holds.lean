import PyProof.Rows.All
import Wide.All
import OpenK.AllK
import Wide.FinOn
import Lean
import PySem.Challenge.RW_nt0600_01
set_option Elab.async false
set_option maxRecDepth 100000
set_option maxHeartbeats 8000000
section
open PySem PySem.W PyProof.Rows
namespace Mine
noncomputable def hd.view_39 : Program := by
  refine' (?f : (x0 x2 x3 x4 x6 x7 x9 x10 x12 x14 x15 x17 x19 x20 x21 x22 x23 x24 x25 : Stmt) →
    PySem.Challenge.pw_nt0600_01.main.body[0]? = some x0 → PySem.Challenge.pw_nt0600_01.main.body[2]? = some x2 → PySem.Challenge.pw_nt0600_01.main.body[3]? = some x3 →
    PySem.Challenge.pw_nt0600_01.main.body[4]? = some x4 → PySem.Challenge.pw_nt0600_01.main.body[6]? = some x6 → PySem.Challenge.pw_nt0600_01.main.body[7]? = some x7 →
    PySem.Challenge.pw_nt0600_01.main.body[9]? = some x9 → PySem.Challenge.pw_nt0600_01.main.body[10]? = some x10 → PySem.Challenge.pw_nt0600_01.main.body[12]? = some x12 →
    PySem.Challenge.pw_nt0600_01.main.body[14]? = some x14 → PySem.Challenge.pw_nt0600_01.main.body[15]? = some x15 → PySem.Challenge.pw_nt0600_01.main.body[17]? = some x17 →
    PySem.Challenge.pw_nt0600_01.main.body[19]? = some x19 → PySem.Challenge.pw_nt0600_01.main.body[20]? = some x20 → PySem.Challenge.pw_nt0600_01.main.body[21]? = some x21 →
    PySem.Challenge.pw_nt0600_01.main.body[22]? = some x22 → PySem.Challenge.pw_nt0600_01.main.body[23]? = some x23 → PySem.Challenge.pw_nt0600_01.main.body[24]? = some x24 →
    PySem.Challenge.pw_nt0600_01.main.body[25]? = some x25 → Program) _ _ _ _ _ _ _ _ _ _ _ _ _ _ _ _ _ _ _ rfl rfl rfl rfl rfl rfl rfl rfl rfl rfl rfl rfl rfl rfl rfl rfl rfl rfl rfl
  exact fun x0 x2 x3 x4 x6 x7 x9 x10 x12 x14 x15 x17 x19 x20 x21 x22 x23 x24 x25 _ _ _ _ _ _ _ _ _ _ _ _ _ _ _ _ _ _ _ =>
    { PySem.Challenge.rw_nt0600_01.row.toRowW.prog with main := { PySem.Challenge.rw_nt0600_01.row.toRowW.prog.main with body := [x0, x2, x3, x4, x6, x7, x9, x10, x12, x14, x15, x17, x19, x20, x21, x22, x23, x24, x25] } }
section
set_option hygiene false in
local macro_rules | `(tactic| o_law) => `(tactic| refine holds_law (by kernel_rfl) fun said => ?_)
set_option hygiene false in
local macro_rules | `(tactic| o_head $_) => `(tactic| refine (fun (_ : True) x => x) ?hw ?hc)
set_option hygiene false in
local macro_rules | `(tactic| w_witness2) => `(tactic| exact True.intro)
open_top hd for PySem.Challenge.rw_nt0600_01
end
/-- the walk's written heap, as a hook of the head -/
noncomputable abbrev KH : Hook := kHook hd.heap_1 [2, 3, 15, 17, 18, 20, 21, 22, 24, 25, 27, 28, 29, 31, 32, 34, 35, 36, 38, 39, 41, 42, 43, 45, 46, 48, 49, 50, 52, 53, 55, 56, 57, 64, 66, 67, 69, 70, 71, 72, 73, 74, 77, 84, 85, 86, 89, 91, 92, 94, 95, 96, 98, 99, 101, 102, 110, 112, 113, 115, 116, 117, 119, 120, 122, 123, 124, 126, 127, 129, 130, 131, 133, 134, 136, 137, 138, 139, 140, 141, 142, 152, 153, 155, 156, 158, 159, 160, 162, 163, 165, 166, 167, 169, 170, 172, 173, 174, 176, 177, 179, 180, 181, 183, 184, 186, 187, 188, 190, 191, 193, 194, 195, 197, 198, 200, 201, 202, 204, 205, 207, 208, 209, 211, 212, 214, 215, 216, 218, 219, 221, 222, 223, 225, 226, 228, 229, 230, 232, 233, 235, 236, 237, 239, 240, 242, 243, 244, 245, 247, 248, 250, 251, 252, 254, 255, 257, 258, 259, 261, 262, 264, 265, 266, 268, 269, 271, 272, 273, 275, 276, 278, 279, 280, 282, 283, 285, 286, 287, 289, 290, 292, 293, 294, 296, 297, 299, 300, 301, 302, 303, 304, 305, 308, 310, 311, 313, 314, 315, 317, 318, 320, 321, 322, 324, 325, 327, 328, 329, 331, 332, 334, 335, 336, 338, 339, 341, 342, 343, 345, 346, 348, 349, 350, 353, 354] (fun _ => by kernel_rfl)
noncomputable abbrev P0 : Program := PySem.Challenge.rw_nt0600_01.row.prog
/-- the top's run over a heap kept as a tree -/
noncomputable def treeRun (ok : Thread → Bool) (st : SharedT → Thread → Option (SharedT × Thread)) : Nat → SharedT → Thread → Option SharedT
  | 0, _, _ => none
  | n + 1, s, t => match through t with
    | true => some s
    | false => match ok t with
      | false => none
      | true => match st s t with
        | some (s', t') => treeRun ok st n s' t'
        | none => none
theorem treeRun_of {tb : String → Option Builtin} {p : Program} {w : World} {n₀ : Nat} {ann : Option Value} : ∀ {n : Nat} {s s' : SharedT} {t : Thread}, treeRun (stepOk n₀ ann) (stepT (denote tb) p w) n s t = some s' → topRun tb p w n₀ ann n s.abs t = some s'.abs
  | 0, _, _, _, h => by cases h
  | n + 1, s, s', t, h => by
    unfold treeRun at h
    unfold topRun
    cases ht : through t with
    | true => rw [ht] at h; cases h; rfl
    | false =>
      rw [ht] at h
      cases hk : stepOk n₀ ann t with
      | false => rw [hk] at h; cases h
      | true =>
        rw [hk] at h
        cases hs : stepT (denote tb) p w s t with
        | none => rw [hs] at h; cases h
        | some r => obtain ⟨s₂, t₂⟩ := r; rw [hs] at h; rw [stepT_spec hs]; exact treeRun_of h
noncomputable def treeL (n : Nat) : List Obj → BT → BT
  | [], t => t
  | o :: r, t => treeL (n + 1) r (t.ins n o)
noncomputable def bootT (P : Params) : BT := treeL 0 (boot_heap P).objs.toList .nil
theorem boot_abs : ∀ P, absHeap (bootT P) 11 (boot_heap P).life = boot_heap P := fun P => by kernel_rfl
theorem boot_size : ∀ P, ((boot_heap P).isNs mainGlobals && (Array.mk [] : Array GenState).size == 0, (boot_heap P).objs.size, (boot_heap P).nsMap mainGlobals "__annotations__") = (true, 11, some (.ref 6)) := fun P => by kernel_rfl
noncomputable def sT0 (w : World) (os : OsState) : SharedT := ⟨bootT w.params, 11, (boot_heap w.params).life, Array.mk [], boot_drawn, boot_toks, os⟩
noncomputable def okT (p : Program) (w : World) (s : Shared) : Bool := staticsOk (importedModules p.main.body) (boot_heap w.params) s.heap && namesBound p s.heap && gensDone s && laidKept (boot_heap w.params) s.heap
/-- the head out of a run over a tree: what the run leaves is looked at thrice -/
theorem left_of {p q : Program} {Xt : Shared → Bool} {α : Type} {Yf : Shared → α} {Ya : World → α} {M K : Nat} {T : World → OsState → Option SharedT}
    (hp : opening p = plainProg p.main.scope.names) (hf : ∀ s, fenceModules? p s = some s) (hN : Nat.ble 600 (M + K) = true)
    (hT : ∀ w os, T w os = treeRun (stepOk 11 (some (.ref 6))) (stepT (denote treeTable) p w) M (sT0 w os) (topStub p))
    (h1 : ∀ w os, (T w os).map (fun s => okT p w s.abs) = some true)
    (h2 : ∀ w os, (T w os).map (fun s => openSeen q [] (importedModules p.main.body) Xt true s.abs) = some (openGood q []))
    (h3 : ∀ w os, (T w os).map (fun s => Yf s.abs) = some (Ya w)) : LeftO p q [] Xt Yf Ya (M + K) := fun w => by
  obtain ⟨⟨H, gs, d, k, os⟩, e, e'⟩ := Option.map_eq_some_iff.mp (boot_open (p := p) (N := M + K) hp hN hf w)
  obtain ⟨rfl, rfl, rfl, rfl⟩ : H = boot_heap w.params ∧ gs = Array.mk [] ∧ d = boot_drawn ∧ k = boot_toks := by simpa using e'
  obtain ⟨s', r, l1⟩ := Option.map_eq_some_iff.mp (h1 w os)
  have l2 := h2 w os
  have l3 := h3 w os
  rw [r] at l2 l3
  have l2 := Option.some.inj l2
  have l3 := Option.some.inj l3
  obtain ⟨z1, z2, z3⟩ : _ ∧ _ ∧ _ := by simpa only [Prod.mk.injEq] using boot_size w.params
  rw [hT] at r
  have r := topRun_mono K _ _ _ _ (treeRun_of r)
  have ea : (sT0 w os).abs = ⟨boot_heap w.params, Array.mk [], boot_drawn, boot_toks, os⟩ := by
    show (⟨absHeap (bootT w.params) 11 (boot_heap w.params).life, _, _, _, _⟩ : Shared) = _
    rw [boot_abs]
    rfl
  rw [ea] at r
  have t : topFrom treeTable p w (M + K) ⟨boot_heap w.params, Array.mk [], boot_drawn, boot_toks, os⟩ = some s'.abs := by
    unfold topFrom
    dsimp only
    rw [z1, z2, z3]
    show (topRun treeTable p w 11 (some (.ref 6)) (M + K) _ _).bind _ = _
    rw [r]
    show (match okT p w s'.abs with | true => _ | false => _) = _
    rw [l1]
  unfold openEnds
  rw [e]
  show (topFrom treeTable p w _ _).map _ = _
  rw [t]
  exact congrArg some (Prod.ext l2 l3)
/-- the program's own run, by the library's twins, which the kernel runs faster -/
noncomputable def topQ (w : World) (os : OsState) : Option SharedT := treeRun (PySem.W.Fast.tw6613529449190102663 11 (some (.ref 6))) (PySem.W.Fast.tw10156331382660048174 (PySem.W.Fast.tw11892475500146522536 PySem.W.Fast.tw14364793385576792824) P0 w) 2200 (sT0 w os) (topStub P0)
theorem topQ_eq (w : World) (os : OsState) : topQ w os = treeRun (stepOk 11 (some (.ref 6))) (stepT (denote treeTable) P0 w) 2200 (sT0 w os) (topStub P0) := by
  unfold topQ
  rw [← PySem.W.Fast.te6613529449190102663, ← PySem.W.Fast.te10156331382660048174, ← PySem.W.Fast.te11892475500146522536, ← PySem.W.Fast.te14364793385576792824]
theorem boot_p0 : opening P0 = plainProg P0.main.scope.names := by kernel_rfl
theorem boot_f0 : ∀ s, fenceModules? P0 s = some s := fun s => by kernel_rfl
theorem look1 : ∀ w os, (topQ w os).map (fun s => okT P0 w s.abs) = some true := fun w os => by kernel_rfl
theorem look2 : ∀ w os, (topQ w os).map (fun s => PySem.W.Fast.tw4187177175401517315 hd.view_39 [] (importedModules P0.main.body) (fun s => xlAt hd.view_39 [] s && recOk (RowW.records PySem.Challenge.rw_nt0600_01.row.toRowW) s) true s.abs) = some (openGood hd.view_39 []) := fun w os => by kernel_rfl
theorem look3 : ∀ w os, (topQ w os).map (fun s => Hook.obs KH s.abs) = some (Hook.val KH w) := fun w os => by kernel_rfl
theorem look2' : ∀ w os, (topQ w os).map (fun s => openSeen hd.view_39 [] (importedModules P0.main.body) (fun s => xlAt hd.view_39 [] s && recOk (RowW.records PySem.Challenge.rw_nt0600_01.row.toRowW) s) true s.abs) = some (openGood hd.view_39 []) := by
  rw [PySem.W.Fast.te4187177175401517315]
  exact look2
theorem left0 : LeftO PySem.Challenge.rw_nt0600_01.row.prog hd.view_39 [] (fun s => xlAt hd.view_39 [] s && recOk (RowW.records PySem.Challenge.rw_nt0600_01.row.toRowW) s) (Hook.obs KH) (Hook.val KH) 4426 :=
  left_of (p := P0) (M := 2200) (K := 2226) (T := topQ) boot_p0 boot_f0 rfl topQ_eq look1 look2' look3
theorem sized : RowW.promised PySem.Challenge.rw_nt0600_01.row.toRowW := by w_witness2
theorem said1 : PySem.Challenge.rw_nt0600_01.row.wellSaid = true := by kernel_rfl
end Mine
end
section
open PySem PySem.W PyProof.Rows
local macro_rules | `(tactic| walk_at "no such key") => `(tactic| fail "none")
theorem Mine.fresh1 : True := by
  w_top off
  trivial
namespace Mine

/-- a contract: the call of the def at f with the values pos, made with the ledger news, hands back v with a ledger news' that satisfy Post -/
noncomputable def Tell (w : World) (mean : ExcName → Option Value) (mg mb : Str → Option Value) (f : Addr) (cost : Nat) (news : List (Addr × Obj)) (pos : List Value) (Post : Value → List (Addr × Obj) → Prop) : Prop :=
  ∀ (dp un : Nat) (gd : Option (List Code)) (cn : Str) (cs : Scope) (a : Addr) (ccd : Value) (cl : List (Str × Addr)) (outer : List Env) (A₀ : Around) (base h₀ : Heap) (L : Addr) (m : Str → Option Value) (s : Shared) (Q E : Value → Shared → Prop),
    Below A₀ base outer h₀ → Fr h₀ L s.heap m → (hd.heap_1 w.params).In h₀ → News h₀ L s.heap news → Top hd.view_39 (looseW hd.view_39 []) mean mg mb h₀ → cs.kind = .function →
    dp + cost < recursionLimit → un + 8 * cost < cLine →
    (∀ v news' h' tk', Fr h₀ L h' m → News h₀ L h' news' → Post v news' → Q v { s with heap := h', toks := tk' }) →
    wpAny (model PySem.Challenge.rw_nt0600_01.row.prog w) (ktrTop dp un gd cn cs L a ccd cl outer) (call (.ref f) pos) Q E s

theorem Tell.use {w : World} {mean : ExcName → Option Value} {mg mb : Str → Option Value} {f : Addr} {cost : Nat} {news : List (Addr × Obj)} {pos : List Value} {Post : Value → List (Addr × Obj) → Prop}
    (h : Tell w mean mg mb f cost news pos Post) {dp un : Nat} {gd : Option (List Code)} {cn : Str} {cs : Scope} {a : Addr} {ccd : Value} {cl : List (Str × Addr)} {outer : List Env} {A₀ : Around} {base h₀ : Heap} {L : Addr} {m : Str → Option Value} {s : Shared} {Q E : Value → Shared → Prop}
    (B : Below A₀ base outer h₀) (F : Fr h₀ L s.heap m) (X : (hd.heap_1 w.params).In h₀) (N : News h₀ L s.heap news) (T : Top hd.view_39 (looseW hd.view_39 []) mean mg mb h₀) (hk : cs.kind = .function)
    (hd : dp + cost < recursionLimit) (hu : un + 8 * cost < cLine)
    (k : ∀ v news' h' tk', Fr h₀ L h' m → News h₀ L h' news' → Post v news' → Q v { s with heap := h', toks := tk' }) :
    wpAny (model PySem.Challenge.rw_nt0600_01.row.prog w) (ktrTop dp un gd cn cs L a ccd cl outer) (call (.ref f) pos) Q E s :=
  h dp un gd cn cs a ccd cl outer A₀ base h₀ L m s Q E B F X N T hk hd hu k

noncomputable def surr (n : Int) : Bool := decide (55296 ≤ n ∧ n ≤ 57343)
noncomputable def nonc (n : Int) : Bool := decide ((64976 ≤ n ∧ n ≤ 65007) ∨ (0 ≤ n ∧ n ≤ 1114111 ∧ 65534 ≤ n.fmod 65536))
noncomputable def ctrl (n : Int) : Bool := decide ((0 ≤ n ∧ n ≤ 31) ∨ (127 ≤ n ∧ n ≤ 159))
noncomputable def c1l : List Int := [8364, 0, 8218, 402, 8222, 8230, 8224, 8225, 710, 8240, 352, 8249, 338, 0, 381, 0, 0, 8216, 8217, 8220, 8221, 8226, 8211, 8212, 732, 8482, 353, 8250, 339, 0, 382, 376]
noncomputable def c1 (n : Int) : Int := if 128 ≤ n ∧ n ≤ 159 ∧ c1l.getD (n - 128).toNat 0 ≠ 0 then c1l.getD (n - 128).toNat 0 else n

theorem t_surr {w mean mg mb} {news : List (Addr × Obj)} {n : Int} {t : Tok} : Tell w mean mg mb 28 1 news [.int n t] (fun v ns => v = .bool (surr n) ∧ ns = news) := by
  intro dp un gd cn cs a ccd cl outer A₀ base h₀ L m s Q E B F X N T hk hd hu hret
  refine wpAny_call ?_
  k_dflt cell_enter
  k_steps
  all_goals (refine hret _ _ _ _ (by assumption) (by assumption) ⟨?_, rfl⟩; simp only [surr, Value.bool.injEq, decide_eq_decide]; omega)

theorem t_nonc {w mean mg mb} {news : List (Addr × Obj)} {n : Int} {t : Tok} : Tell w mean mg mb 35 1 news [.int n t] (fun v ns => v = .bool (nonc n) ∧ ns = news) := by
  intro dp un gd cn cs a ccd cl outer A₀ base h₀ L m s Q E B F X N T hk hd hu hret
  refine wpAny_call ?_
  k_dflt cell_enter
  k_steps
  all_goals (refine hret _ _ _ _ (by assumption) (by assumption) ⟨?_, rfl⟩; simp only [nonc, Value.bool.injEq, decide_eq_decide]; (try simp only [decide_eq_true_eq, decide_eq_false_iff_not] at *); omega)
theorem t_ctrl {w mean mg mb} {news : List (Addr × Obj)} {n : Int} {t : Tok} : Tell w mean mg mb 42 1 news [.int n t] (fun v ns => v = .bool (ctrl n) ∧ ns = news) := by
  intro dp un gd cn cs a ccd cl outer A₀ base h₀ L m s Q E B F X N T hk hd hu hret
  refine wpAny_call ?_
  k_dflt cell_enter
  k_steps
  all_goals (refine hret _ _ _ _ (by assumption) (by assumption) ⟨?_, rfl⟩; simp only [ctrl, Value.bool.injEq, decide_eq_decide]; (try simp only [decide_eq_true_eq, decide_eq_false_iff_not] at *); omega)

theorem t_c1 {w mean mg mb} {news : List (Addr × Obj)} {n : Int} {t : Tok} : Tell w mean mg mb 49 1 news [.int n t] (fun v ns => (∃ t', v = .int (c1 n) t') ∧ ns = news) := by
  intro dp un gd cn cs a ccd cl outer A₀ base h₀ L m s Q E B F X N T hk hd hu hret
  refine wpAny_call ?_
  k_dflt cell_enter
  k_steps
  all_goals (refine hret _ news _ _ (by assumption) (by first | assumption | exact fun p hp => ‹News _ _ _ _› p (List.mem_cons_of_mem _ hp)) ⟨⟨_, congrArg (Value.int · _) ?_⟩, rfl⟩)
  all_goals (simp only [c1])
  · rw [if_pos (by simp_all [c1l])]; rfl
  all_goals (rw [if_neg (by simp_all [c1l] <;> omega)])
end Mine
end
section
open PySem PySem.W PyProof.Rows
local macro_rules | `(tactic| walk_at "no such key") => `(tactic| fail "none")
local macro_rules | `(tactic| walk_at "no such key") => `(tactic| fail "none")
theorem Mine.fresh2 : True := by
  w_top off
  trivial
namespace Mine
local macro_rules | `(tactic| walk_at "call ref") => `(tactic| (k_here; (with_reducible show wpAny _ _ (call (Value.ref _) [Value.int _ _]) _ _ _); k_dflt (first
  | (refine' t_surr.use ?k1 ?k2 ?k3 ?k4 ?k5 ?k6 ?k7 ?k8 ?_; (case k1 => k_asm); (case k2 => k_asm); (case k3 => k_asm); (case k4 => k_asm); (case k5 => k_asm); (case k6 => first | exact rfl | assumption); (case k7 => ktr_room); (case k8 => ktr_units); intro v9 n9 h9 tk9 F9 N9 P9; obtain ⟨e9, d9⟩ := P9; subst e9; subst d9; (try dsimp only))
  | (refine' t_nonc.use ?k1 ?k2 ?k3 ?k4 ?k5 ?k6 ?k7 ?k8 ?_; (case k1 => k_asm); (case k2 => k_asm); (case k3 => k_asm); (case k4 => k_asm); (case k5 => k_asm); (case k6 => first | exact rfl | assumption); (case k7 => ktr_room); (case k8 => ktr_units); intro v9 n9 h9 tk9 F9 N9 P9; obtain ⟨e9, d9⟩ := P9; subst e9; subst d9; (try dsimp only))
  | (refine' t_ctrl.use ?k1 ?k2 ?k3 ?k4 ?k5 ?k6 ?k7 ?k8 ?_; (case k1 => k_asm); (case k2 => k_asm); (case k3 => k_asm); (case k4 => k_asm); (case k5 => k_asm); (case k6 => first | exact rfl | assumption); (case k7 => ktr_room); (case k8 => ktr_units); intro v9 n9 h9 tk9 F9 N9 P9; obtain ⟨e9, d9⟩ := P9; subst e9; subst d9; (try dsimp only))
  | (refine' t_c1.use ?k1 ?k2 ?k3 ?k4 ?k5 ?k6 ?k7 ?k8 ?_; (case k1 => k_asm); (case k2 => k_asm); (case k3 => k_asm); (case k4 => k_asm); (case k5 => k_asm); (case k6 => first | exact rfl | assumption); (case k7 => ktr_room); (case k8 => ktr_units); intro v9 n9 h9 tk9 F9 N9 P9; obtain ⟨⟨t9, e9⟩, d9⟩ := P9; subst e9; subst d9; (try dsimp only)))))

/-- what sort a number is: 1 null, 2 outside, 3 surrogate, 4 noncharacter, 5 control, 0 none -/
noncomputable def kind (n : Int) : Nat := if n = 0 then 1 else if 1114111 < n then 2 else if surr n then 3 else if nonc n then 4 else if ctrl n && !([9, 10, 12].any fun x => x == n) then 5 else 0
noncomputable def rchar (n : Int) : Str := if n = 0 ∨ 1114111 < n ∨ surr n = true then Str.ofString "�" else ⟨#[(c1 n).toNat]⟩
noncomputable def faultOf : Nat → Option Str
  | 1 => some (Str.ofString "null-character-reference")
  | 2 => some (Str.ofString "character-reference-outside-unicode-range")
  | 3 => some (Str.ofString "surrogate-character-reference")
  | 4 => some (Str.ofString "noncharacter-character-reference")
  | 5 => some (Str.ofString "control-character-reference")
  | _ => none
noncomputable def optV : Option Str → Tok → Value
  | none, _ => .none
  | some x, t => .str x t
/-- a pair made anew: a text and a text or None -/
noncomputable def PairNew (x : Str) (f : Option Str) (news : List (Addr × Obj)) (v : Value) (ns : List (Addr × Obj)) : Prop :=
  ∃ (D : Addr) (t1 t2 : Tok), v = .ref D ∧ ns = (D, ({ cls := .type "tuple", data := .seq #[.str x t1, optV f t2] } : Obj)) :: news ∧ ∀ p ∈ news, p.1 < D

theorem c1_all : ∀ k : Fin 32, 0 ≤ c1l.getD k.val 0 ∧ c1l.getD k.val 0 ≤ 1114111 := by decide +kernel
theorem c1_bd {n : Int} (h0 : 0 ≤ n) (h1 : n ≤ 1114111) : 0 ≤ c1 n ∧ c1 n ≤ 1114111 := by
  unfold c1
  split
  · rename_i h
    exact c1_all ⟨(n - 128).toNat, by omega⟩
  · exact ⟨h0, h1⟩
theorem c1_id {n : Int} (h : n < 128 ∨ 159 < n) : c1 n = n := by
  unfold c1
  rw [if_neg (by omega)]

theorem pair_end {h₀ : Heap} {L : Addr} {m : Str → Option Value} {news N' : List (Addr × Obj)} {s : Shared} {Q : Value → Shared → Prop} {x x' : Str} {f : Option Str} {v2 : Value} {D : Addr} {t1 : Tok} {h' : Heap} {tk' : Nat}
    (hret : ∀ v news' h' tk', Fr h₀ L h' m → News h₀ L h' news' → PairNew x f news v news' → Q v { s with heap := h', toks := tk' })
    (F : Fr h₀ L h' m) (N : News h₀ L h' N') (hm : (D, ({ cls := .type "tuple", data := .seq #[.str x' t1, v2] } : Obj)) ∈ N') (hs : ∀ p ∈ news, p ∈ N') (hl : ∀ p ∈ news, p.1 < D) (ex : x' = x) (ef : ∃ t2, v2 = optV f t2) :
    Q (.ref D) { s with heap := h', toks := tk' } := by
  obtain ⟨t2, ef⟩ := ef
  subst ex; subst ef
  refine hret _ _ _ _ F ?_ ⟨D, t1, t2, rfl, rfl, hl⟩
  intro p hp
  rcases List.mem_cons.mp hp with rfl | hp
  · exact N _ hm
  · exact N _ (hs p hp)
theorem kind_1 {n : Int} (h : n = 0) : kind n = 1 ∧ rchar n = Str.ofString "�" := by subst h; decide +kernel
theorem kind_2 {n : Int} (h0 : n ≠ 0) (h : 1114111 < n) : kind n = 2 ∧ rchar n = Str.ofString "�" := by unfold kind rchar; rw [if_neg h0, if_pos h, if_pos (.inr (.inl h))]; exact ⟨rfl, rfl⟩
theorem kind_3 {n : Int} (h0 : n ≠ 0) (h1 : ¬ 1114111 < n) (h : surr n = true) : kind n = 3 ∧ rchar n = Str.ofString "�" := by unfold kind rchar; rw [if_neg h0, if_neg h1, if_pos h, if_pos (.inr (.inr h))]; exact ⟨rfl, rfl⟩
theorem rchar_c1 {n : Int} (h0 : n ≠ 0) (h1 : ¬ 1114111 < n) (h2 : surr n = false) : rchar n = ⟨#[(c1 n).toNat]⟩ := by unfold rchar; rw [if_neg]; simp [h0, h2]; omega
theorem kind_4 {n : Int} (h0 : n ≠ 0) (h1 : ¬ 1114111 < n) (h2 : surr n = false) (h : nonc n = true) : kind n = 4 ∧ rchar n = ⟨#[n.toNat]⟩ := by
  refine ⟨by unfold kind; rw [if_neg h0, if_neg h1, if_neg (by simp [h2]), if_pos h], ?_⟩
  rw [rchar_c1 h0 h1 h2, c1_id]
  unfold nonc at h
  have h := of_decide_eq_true h
  have e : n.fmod 65536 = n % 65536 := Int.fmod_eq_emod_of_nonneg n (by decide)
  omega
theorem kind_5 {n : Int} (h0 : n ≠ 0) (h1 : ¬ 1114111 < n) (h2 : surr n = false) (h3 : nonc n = false) (h : ctrl n = true) (h4 : ([9, 10, 12].any fun x => x == n) = false) : kind n = 5 ∧ rchar n = ⟨#[(c1 n).toNat]⟩ := by
  refine ⟨by unfold kind; rw [if_neg h0, if_neg h1, if_neg (by simp [h2]), if_neg (by simp [h3]), if_pos (by rw [h, h4]; rfl)], rchar_c1 h0 h1 h2⟩
theorem kind_0 {n : Int} (h0 : n ≠ 0) (h1 : ¬ 1114111 < n) (h2 : surr n = false) (h3 : nonc n = false) (h : ctrl n = false ∨ ([9, 10, 12].any fun x => x == n) = true) : kind n = 0 ∧ rchar n = ⟨#[n.toNat]⟩ := by
  refine ⟨by unfold kind; rw [if_neg h0, if_neg h1, if_neg (by simp [h2]), if_neg (by simp [h3]), if_neg (by rcases h with h | h <;> simp [h])], ?_⟩
  rw [rchar_c1 h0 h1 h2, c1_id]
  rcases h with h | h
  · unfold ctrl at h
    have h := of_decide_eq_false h
    omega
  · simp at h
    omega
theorem t_num {w mean mg mb} {news : List (Addr × Obj)} {n : Int} {t : Tok} (h0 : 0 ≤ n) : Tell w mean mg mb 56 2 news [.int n t] (PairNew (rchar n) (faultOf (kind n)) news) := by
  intro dp un gd cn cs a ccd cl outer A₀ base h₀ L m s Q E B F X N T hk hd hu hret
  refine wpAny_call ?_
  k_dflt cell_enter
  have hb := @c1_bd n h0
  k_steps
  all_goals (refine pair_end hret (by assumption) (by assumption) (.head _) (fun p hp => by first | exact .tail _ hp | exact .tail _ (.tail _ hp)) (by first | assumption | (obtain ⟨_, q⟩ := ‹_ ∧ AllLt _ _›; exact kst_ltOf q)) ?_ ?_)
  all_goals first
    | (rw [(kind_1 (by assumption)).2]; done)
    | (rw [(kind_1 (by assumption)).1]; first | exact ⟨_, rfl⟩ | exact ⟨0, rfl⟩)
    | (rw [(kind_2 (by assumption) (by assumption)).2]; done)
    | (rw [(kind_2 (by assumption) (by assumption)).1]; first | exact ⟨_, rfl⟩ | exact ⟨0, rfl⟩)
    | (rw [(kind_3 (by assumption) (by assumption) (by assumption)).2]; done)
    | (rw [(kind_3 (by assumption) (by assumption) (by assumption)).1]; first | exact ⟨_, rfl⟩ | exact ⟨0, rfl⟩)
    | (rw [(kind_4 (by assumption) (by assumption) (by assumption) (by assumption)).2]; done)
    | (rw [(kind_4 (by assumption) (by assumption) (by assumption) (by assumption)).1]; first | exact ⟨_, rfl⟩ | exact ⟨0, rfl⟩)
    | (rw [(kind_5 (by assumption) (by assumption) (by assumption) (by assumption) (by assumption) (by assumption)).2]; done)
    | (rw [(kind_5 (by assumption) (by assumption) (by assumption) (by assumption) (by assumption) (by assumption)).1]; first | exact ⟨_, rfl⟩ | exact ⟨0, rfl⟩)
    | (rw [(kind_0 (by assumption) (by assumption) (by assumption) (by assumption) (by first | exact .inl (by assumption) | exact .inr (by assumption))).2]; done)
    | (rw [(kind_0 (by assumption) (by assumption) (by assumption) (by assumption) (by first | exact .inl (by assumption) | exact .inr (by assumption))).1]; first | exact ⟨_, rfl⟩ | exact ⟨0, rfl⟩)
end Mine
end
section
open PySem PySem.W PyProof.Rows
theorem Mine.fresh3 : True := by
  w_top off
  trivial
namespace Mine
local macro_rules | `(tactic| walk_at "call ref") => `(tactic| (k_here; (with_reducible show wpAny _ _ (call (Value.ref _) [Value.int _ _]) _ _ _); k_dflt (first
  | (refine' t_surr.use ?k1 ?k2 ?k3 ?k4 ?k5 ?k6 ?k7 ?k8 ?_; (case k1 => k_asm); (case k2 => k_asm); (case k3 => k_asm); (case k4 => k_asm); (case k5 => k_asm); (case k6 => first | exact rfl | assumption); (case k7 => ktr_room); (case k8 => ktr_units); intro v9 n9 h9 tk9 F9 N9 P9; obtain ⟨e9, d9⟩ := P9; subst e9; subst d9; (try dsimp only))
  | (refine' t_nonc.use ?k1 ?k2 ?k3 ?k4 ?k5 ?k6 ?k7 ?k8 ?_; (case k1 => k_asm); (case k2 => k_asm); (case k3 => k_asm); (case k4 => k_asm); (case k5 => k_asm); (case k6 => first | exact rfl | assumption); (case k7 => ktr_room); (case k8 => ktr_units); intro v9 n9 h9 tk9 F9 N9 P9; obtain ⟨e9, d9⟩ := P9; subst e9; subst d9; (try dsimp only))
  | (refine' t_ctrl.use ?k1 ?k2 ?k3 ?k4 ?k5 ?k6 ?k7 ?k8 ?_; (case k1 => k_asm); (case k2 => k_asm); (case k3 => k_asm); (case k4 => k_asm); (case k5 => k_asm); (case k6 => first | exact rfl | assumption); (case k7 => ktr_room); (case k8 => ktr_units); intro v9 n9 h9 tk9 F9 N9 P9; obtain ⟨e9, d9⟩ := P9; subst e9; subst d9; (try dsimp only)))))

noncomputable def errOf : Nat → Str
  | 3 => Str.ofString "surrogate-in-input-stream"
  | 4 => Str.ofString "noncharacter-in-input-stream"
  | 5 => Str.ofString "control-character-in-input-stream"
  | _ => Str.ofString ""
/-- the stream's word for a number: 3, 4, 5, or 0 for none -/
noncomputable def ikind (n : Int) : Nat := if surr n then 3 else if nonc n then 4 else if ctrl n && !([0, 9, 10, 12, 13].any fun x => x == n) then 5 else 0

theorem str_end {h₀ : Heap} {L : Addr} {m : Str → Option Value} {news N' : List (Addr × Obj)} {s : Shared} {Q : Value → Shared → Prop} {x x' : Str} {t : Tok} {h' : Heap} {tk' : Nat}
    (hret : ∀ v news' h' tk', Fr h₀ L h' m → News h₀ L h' news' → ((∃ t, v = .str x t) ∧ news' = news) → Q v { s with heap := h', toks := tk' })
    (F : Fr h₀ L h' m) (N : News h₀ L h' N') (hs : ∀ p ∈ news, p ∈ N') (ex : x' = x) :
    Q (.str x' t) { s with heap := h', toks := tk' } := by
  subst ex
  exact hret _ _ _ _ F (fun p hp => N p (hs p hp)) ⟨⟨_, rfl⟩, rfl⟩

theorem t_ierr {w mean mg mb} {news : List (Addr × Obj)} {n : Int} {t : Tok} : Tell w mean mg mb 102 2 news [.int n t] (fun v ns => (∃ t, v = .str (errOf (ikind n)) t) ∧ ns = news) := by
  intro dp un gd cn cs a ccd cl outer A₀ base h₀ L m s Q E B F X N T hk hd hu hret
  refine wpAny_call ?_
  k_dflt cell_enter
  k_steps
  all_goals (refine str_end hret (by assumption) (by assumption) (fun p hp => by first | exact hp | exact .tail _ hp | exact .tail _ (.tail _ hp)) ?_)
  all_goals (unfold ikind; simp only [*]; try rfl)

noncomputable def sortOf : Nat → Str
  | 1 => Str.ofString "null"
  | 2 => Str.ofString "outside"
  | 3 => Str.ofString "surrogate"
  | 4 => Str.ofString "noncharacter"
  | 5 => Str.ofString "control"
  | _ => Str.ofString ""

/-- the law's own parting of the numbers -/
noncomputable def lkind (n : Int) : Nat := if n = 0 then 1 else if 16 < n.fdiv 65536 then 2 else if ([54, 55].any fun x => x == n.fdiv 1024) = true then 3 else if 65533 < n.fmod 65536 then 4 else if (n - 64976).fdiv 32 = 0 then 4 else if n.fdiv 32 = 4 then 5 else if n = 127 then 5 else if n < 32 then (if ([9, 10, 12].any fun x => x == n) = true then 0 else 5) else 0
theorem lk_out {n : Int} : 16 < n.fdiv 65536 ↔ 1114111 < n := by
  rw [Int.fdiv_eq_ediv_of_nonneg _ (by decide)]; omega
theorem lk_surr {n : Int} : ([54, 55].any fun x => x == n.fdiv 1024) = surr n := by
  have h : (54 = n.fdiv 1024 ∨ 55 = n.fdiv 1024) ↔ (55296 ≤ n ∧ n ≤ 57343) := by
    rw [Int.fdiv_eq_ediv_of_nonneg _ (by decide)]; omega
  unfold surr
  rw [Bool.eq_iff_iff, decide_eq_true_eq, ← h]
  simp only [List.any_cons, List.any_nil, Bool.or_false, Bool.or_eq_true, beq_iff_eq]
theorem lk_nonc {n : Int} (h0 : 0 ≤ n) (h2 : ¬ 1114111 < n) : (65533 < n.fmod 65536 ∨ (n - 64976).fdiv 32 = 0) ↔ nonc n = true := by
  have h : (n - 64976).fdiv 32 = 0 ↔ (64976 ≤ n ∧ n ≤ 65007) := by
    rw [Int.fdiv_eq_ediv_of_nonneg _ (by decide)]; omega
  unfold nonc
  rw [decide_eq_true_eq, h, Or.comm]
  exact or_congr Iff.rfl ⟨fun q => ⟨h0, Int.not_lt.mp h2, q⟩, fun q => q.2.2⟩
theorem lk_32 {n : Int} : n.fdiv 32 = 4 ↔ (128 ≤ n ∧ n ≤ 159) := by
  rw [Int.fdiv_eq_ediv_of_nonneg _ (by decide)]; omega
theorem lk_ctrl {n : Int} (h0 : 0 ≤ n) : (if n.fdiv 32 = 4 then 5 else if n = 127 then 5 else if n < 32 then (if ([9, 10, 12].any fun x => x == n) = true then 0 else 5) else 0) = (if ctrl n && !([9, 10, 12].any fun x => x == n) then 5 else 0) := by
  have hA : ([9, 10, 12].any fun x => x == n) = true → n < 32 := by
    simp only [List.any_cons, List.any_nil, Bool.or_false, Bool.or_eq_true, beq_iff_eq]
    omega
  have hC : ctrl n = true ↔ (n < 32 ∨ n = 127 ∨ (128 ≤ n ∧ n ≤ 159)) := by
    unfold ctrl; rw [decide_eq_true_eq]; omega
  generalize ([9, 10, 12].any fun x => x == n) = A at hA ⊢
  by_cases h1 : n < 32
  · have hc := hC.mpr (.inl h1)
    rw [if_neg (fun h => by have := lk_32.mp h; omega), if_neg (fun h => by omega), if_pos h1, hc]
    cases A <;> rfl
  · have e : A = false := by cases A; rfl; exact absurd (hA rfl) h1
    subst e
    by_cases h2 : n.fdiv 32 = 4
    · rw [if_pos h2, hC.mpr (.inr (.inr (lk_32.mp h2)))]; rfl
    · rw [if_neg h2]
      by_cases h3 : n = 127
      · rw [if_pos h3, hC.mpr (.inr (.inl h3))]; rfl
      · have hc : ctrl n = false := by
          cases q : ctrl n
          · rfl
          · rcases hC.mp q with z | z | z
            · exact absurd z h1
            · exact absurd z h3
            · exact absurd (lk_32.mpr z) h2
        rw [if_neg h3, if_neg h1, hc]; rfl
theorem lkind_eq {n : Int} (h0 : 0 ≤ n) : lkind n = kind n := by
  unfold lkind kind
  by_cases h1 : n = 0
  · rw [if_pos h1, if_pos h1]
  rw [if_neg h1, if_neg h1]
  by_cases h2 : 1114111 < n
  · rw [if_pos h2, if_pos (lk_out.mpr h2)]
  rw [if_neg h2, if_neg (fun h => h2 (lk_out.mp h)), lk_surr]
  by_cases h3 : surr n = true
  · rw [if_pos h3, if_pos h3]
  rw [if_neg h3, if_neg h3]
  by_cases h4 : nonc n = true
  · rw [if_pos h4]
    rcases (lk_nonc h0 h2).mpr h4 with h | h
    · rw [if_pos h]
    · by_cases h' : 65533 < n.fmod 65536
      · rw [if_pos h']
      · rw [if_neg h', if_pos h]
  have h5 := fun h => h4 ((lk_nonc h0 h2).mp h)
  rw [if_neg h4, if_neg (fun h => h5 (.inl h)), if_neg (fun h => h5 (.inr h)), lk_ctrl h0]
theorem t_sort {w mean mg mb} {news : List (Addr × Obj)} {n : Int} {t : Tok} (h0 : 0 ≤ n) : Tell w mean mg mb 328 1 news [.int n t] (fun v ns => (∃ t, v = .str (sortOf (kind n)) t) ∧ ns = news) := by
  intro dp un gd cn cs a ccd cl outer A₀ base h₀ L m s Q E B F X N T hk hd hu hret
  refine wpAny_call ?_
  k_dflt cell_enter
  k_steps
  all_goals (refine str_end hret (by assumption) (by assumption) (fun p hp => by first | exact hp | exact .tail _ hp | exact .tail _ (.tail _ hp)) ?_)
  all_goals (rw [← lkind_eq h0]; unfold lkind; simp only [*]; try rfl)
end Mine
end
section
open PySem PySem.W PyProof.Rows PySem.Calls PyProof.V PySem.Spec
local macro_rules | `(tactic| walk_at "no such key") => `(tactic| fail "none")
local macro_rules | `(tactic| walk_at "no such key") => `(tactic| fail "none")
theorem Mine.fresh4 : True := by
  w_top off
  trivial
namespace Mine

noncomputable def CT (t : Sem Value) (i : Int) : Prop := ∀ (M : Model) (A : Around) (E : Value → Shared → Prop) (s : Shared) (Q : Value → Shared → Prop), (∀ tk, Q (.int i tk) { s with toks := s.toks + 1 }) → wpAny M A t Q E s
inductive CTs : List (Sem Value × Sem Value) → List (Int × Int) → Prop
  | nil : CTs [] []
  | cons {k v : Sem Value} {i j : Int} {ps : List (Sem Value × Sem Value)} {D : List (Int × Int)} : CT k i → CT v j → CTs ps D → CTs ((k, v) :: ps) ((i, j) :: D)
inductive KV : List (Int × Value) → List (Int × Int) → Prop
  | nil : KV [] []
  | cons {k v : Int} {t : Tok} {kvs : List (Int × Value)} {D : List (Int × Int)} : KV kvs D → KV ((k, .int v t) :: kvs) ((k, v) :: D)
theorem KV.keys {kvs D} (h : KV kvs D) : kvs.map (·.1) = D.map (·.1) := by
  induction h with
  | nil => rfl
  | cons _ ih => simp [ih]
theorem KV.length {kvs D} (h : KV kvs D) : kvs.length = D.length := by
  have := congrArg List.length h.keys
  simpa using this
theorem KV.append {kvs D kvs' D'} (h : KV kvs D) (h' : KV kvs' D') : KV (kvs ++ kvs') (D ++ D') := by
  induction h with
  | nil => exact h'
  | cons _ ih => exact .cons ih
theorem KV.flat {kvs D} (h : KV kvs D) : FlatPairs PyData.int kvs (D.map fun p => (PyData.int p.1, PyData.int p.2)) := by
  induction h with
  | nil => exact .nil
  | cons _ ih => exact .cons (Flat.int _ _) ih
theorem CTs.length {ps D} (h : CTs ps D) : ps.length = D.length := by
  induction h with
  | nil => rfl
  | cons _ _ _ ih => simp [ih]
theorem CTs.split {ps : List (Sem Value × Sem Value)} {D : List (Int × Int)} (h : CTs ps D) : ∀ n, CTs (ps.take n) (D.take n) ∧ CTs (ps.drop n) (D.drop n) := by
  induction h with
  | nil => intro n; simp; exact .nil
  | cons a b c ih =>
    intro n
    cases n with
    | zero => exact ⟨.nil, .cons a b c⟩
    | succ n => exact ⟨.cons a b (ih n).1, (ih n).2⟩
noncomputable def intOf : Expr → Option Int
  | .Constant (.int i) _ _ => some i
  | _ => none
theorem intOf_eq {e : Expr} {i : Int} (h : intOf e = some i) : ∃ k p, e = .Constant (.int i) k p := by
  unfold intOf at h
  split at h
  · cases h; exact ⟨_, _, rfl⟩
  · cases h
noncomputable def litPairs : List (Option Expr) → List Expr → Option (List (Int × Int))
  | [], [] => some []
  | k :: ks, v :: vs => (k.bind intOf).bind fun i => (intOf v).bind fun j => (litPairs ks vs).map ((i, j) :: ·)
  | _, _ => none
theorem ct_const (i : Int) (k : Nat) (p : Pos) (env : Env) : CT (eval (.Constant (.int i) k p) env) i := fun _ _ _ _ _ h => wpAny_Constant_int (h _)
theorem ct_value (i : Int) (k : Nat) (p pos : Pos) (env : Env) : CT (do let x ← eval (.Constant (.int i) k p) env; standAt pos; pure x) i :=
  fun _ _ _ _ _ h => wpAny_bind (wpAny_Constant_int (wpAny_bind (wpAny_standAt (wpAny_pure (h _)))))
theorem cts_of (env : Env) (pos : Pos) : ∀ (ks : List (Option Expr)) (vs : List Expr) (D : List (Int × Int)), litPairs ks vs = some D → CTs (pairTrees ks vs env pos) D
  | [], [], D, h => by cases h; exact .nil
  | k :: ks, v :: vs, D, h => by
    obtain ⟨i, hk, h⟩ := Option.bind_eq_some_iff.mp h
    obtain ⟨j, hv, h⟩ := Option.bind_eq_some_iff.mp h
    obtain ⟨D', hr, h⟩ := Option.map_eq_some_iff.mp h
    subst h
    cases k with
    | none => cases hk
    | some e =>
      obtain ⟨a, p, rfl⟩ := intOf_eq (e := e) hk
      obtain ⟨b, q, rfl⟩ := intOf_eq hv
      exact .cons (ct_const i a p env) (ct_value j b q pos env) (cts_of env pos ks vs D' hr)
  | [], _ :: _, _, h => by cases h
  | _ :: _, [], _, h => by cases h

section
variable {prog : Program} {w : World} {A : Around} {E : Value → Shared → Prop} {s : Shared}

/-- the pairs of a display, evaluated ahead of their stores -/
theorem evalPairs_CTs : ∀ {ps : List (Sem Value × Sem Value)} {D : List (Int × Int)}, CTs ps D → ∀ {s : Shared} {Q : List (Value × Value) → Shared → Prop},
    (∀ vs kvs tk, Carries (intKind prog w) vs kvs → KV kvs D → Q vs { s with toks := tk }) → wpAny (model prog w) A (evalPairs ps) Q E s
  | _, _, .nil, s, Q, h => evalPairs_nil (h [] [] s.toks trivial .nil)
  | _, _, .cons a b c, s, Q, h => by
    refine evalPairs_cons (a _ _ _ _ _ fun t1 => b _ _ _ _ _ fun t2 => evalPairs_CTs c fun vs kvs tk hc hk => ?_)
    exact h _ ((_, _) :: kvs) tk ⟨intKind_is _ _ _ _, rfl, hc⟩ (.cons hk)

theorem stored_new {kvs : List (Int × Value)} {k : Int} {v : Value} (h : k ∉ kvs.map (·.1)) : stored kvs k v = kvs ++ [(k, v)] := by
  unfold stored
  rw [if_neg]
  intro h'
  obtain ⟨x, hx, e⟩ := List.any_eq_true.mp h'
  exact h (List.mem_map.mpr ⟨x, hx, of_decide_eq_true e⟩)

theorem subDict_short {ps : List (Sem Value × Sem Value)} {D : List (Int × Int)} (C : CTs ps D) (hlen : ps.length ≤ 15) (hn : (D.map (·.1)).Nodup) {Q : Addr → Shared → Prop}
    (h : ∀ h' tk kvs, h'.DictOf (intKind prog w) s.heap.objs.size kvs → KV kvs D → Heap.SameBut s.heap.objs.size (s.heap.push { cls := .type "dict", data := .dict #[] }) h' → Q s.heap.objs.size { s with heap := h', toks := tk }) :
    wpAny (model prog w) A (subDict ps) Q E s := by
  refine wpAny_subDict (knd := intKind prog w) hlen (evalPairs_CTs C fun vs kvs tk hc hk => ⟨kvs, hc, Heap.DictOf.new _, fun h' hd hs => ?_⟩)
  rw [merged_nil_of_nodup kvs (by rw [hk.keys]; exact hn)] at hd
  exact h h' _ kvs hd hk hs

theorem subDict_long {ps : List (Sem Value × Sem Value)} {D : List (Int × Int)} (C : CTs ps D) (hlen : ¬ ps.length ≤ 15) (hsz : D.length ≤ 1000) (hn : (D.map (·.1)).Nodup) {Q : Addr → Shared → Prop}
    (h : ∀ h' tk kvs, h'.DictOf (intKind prog w) s.heap.objs.size kvs → KV kvs D → Heap.SameBut s.heap.objs.size (s.heap.push { cls := .type "dict", data := .dict #[] }) h' → Q s.heap.objs.size { s with heap := h', toks := tk }) :
    wpAny (model prog w) A (subDict ps) Q E s := by
  unfold subDict
  refine wpAny_bind (wpAny_alloc ?_)
  refine wpAny_bind (wpAny_holding ?_)
  rw [if_neg hlen]
  refine wpAny_bind (wpAny_rule ?_)
  refine wpAny_bind ?_
  refine wpAny_forIn_list _
    (fun rest _ s' => ∃ h' tk kvs D1 D2, s' = { s with heap := h', toks := tk } ∧ D = D1 ++ D2 ∧ CTs rest D2 ∧ h'.DictOf (intKind prog w) s.heap.objs.size kvs ∧ KV kvs D1 ∧ Heap.SameBut s.heap.objs.size (s.heap.push { cls := .type "dict", data := .dict #[] }) h')
    _ ?_ ?_ _ _ ⟨_, s.toks, [], [], D, rfl, rfl, C, Heap.DictOf.new _, .nil, Heap.SameBut.refl _ _⟩
  · rintro ⟨k, v⟩ rest b s' ⟨h', tk, kvs, D1, D2, rfl, hD, hC, hd, hk, hs⟩
    cases hC with
    | @cons _ _ i j _ D2 a b c =>
      dsimp only
      refine wpAny_bind (a _ _ _ _ _ fun t1 => ?_)
      refine wpAny_bind (wpAny_holding (b _ _ _ _ _ fun t2 => ?_))
      have hfresh : i ∉ kvs.map (·.1) := by
        rw [hk.keys]
        rw [hD, List.map_append, List.nodup_append] at hn
        intro hm
        exact hn.2.2 i hm i (by simp) rfl
      have hl : kvs.length ≤ sizeLine := by
        have e1 := hk.length
        have e2 : D.length = D1.length + (D2.length + 1) := by rw [hD]; simp
        rw [sizeLine_eq]
        omega
      refine wpAny_bind (wpAny_holding (wpAny_dictSet_pairs (hsz := hl) (intKind_is prog w i t1) hd fun h'' hd' hs' => wpAny_pure ?_))
      rw [stored_new hfresh] at hd'
      exact ⟨h'', _, _, D1 ++ [(i, j)], D2, rfl, by rw [hD]; simp, c, hd', hk.append (.cons .nil), hs.trans hs'⟩
  · rintro b s' ⟨h', tk, kvs, D1, D2, rfl, hD, hC, hd, hk, hs⟩
    cases hC
    rw [List.append_nil] at hD
    subst hD
    exact wpAny_pure (wpAny_pure (h h' tk kvs hd hk hs))

theorem dictPut_fresh {d : Addr} {kvs : List (Int × Value)} {k : Int} {key v : Value} {Q : Unit → Shared → Prop} (hkey : (intKind prog w).is k key = true) (hm : s.heap.DictOf (intKind prog w) d kvs) (hnot : k ∉ kvs.map (·.1)) (hsz : kvs.length ≤ sizeLine)
    (hQ : ∀ h', h'.DictOf (intKind prog w) d (kvs ++ [(k, v)]) → Heap.SameBut d s.heap h' → Q () { s with heap := h' }) :
    wpAny (model prog w) A (dictPut d ((intKind prog w).hash k) key v) Q E s := by
  obtain ⟨o, es, ep, ho, hc, hd, hk, hp, hn⟩ := hm
  have hes : es.size ≤ sizeLine := by
    have e1 := hp.length
    have e2 : es.toList.length = es.size := by simp
    omega
  unfold dictPut
  refine wpAny_bind (wpAny_dictFind_of hkey ho hd hk ?_)
  have hidx : (es.findIdx? fun e => (intKind prog w).is k e.key) = kvs.findIdx? fun kv => decide (kv.1 = k) := by
    rw [← hp.findIdx k]; obtain ⟨l⟩ := es; simp
  cases hi : es.findIdx? fun e => (intKind prog w).is k e.key with
  | some i =>
    have hq := any_of_findIdx_some (hidx ▸ hi)
    obtain ⟨x, hx, e⟩ := List.any_eq_true.mp hq
    exact absurd (List.mem_map.mpr ⟨x, hx, of_decide_eq_true e⟩) hnot
  | none =>
    refine wpAny_updateDictKeys (hz := hes) ho hd (hQ _ ⟨_, _, ep + 1, Heap.get?_update_self _ ho (Obj.isFreed_of_dict (Obj.data_mapDictKeys hd _)),
      hc.mapDictKeys _, Obj.data_mapDictKeys hd _, hk.push hkey _, ?_, ?_⟩ (Heap.SameBut.update ..))
    · have := hp.append hkey ((intKind prog w).hash k) v
      obtain ⟨l⟩ := es
      simpa using this
    · rw [List.map_append, List.nodup_append]
      refine ⟨hn, by simp, ?_⟩
      intro a ha b hb
      simp only [List.map_cons, List.map_nil, List.mem_singleton] at hb
      subst hb
      exact fun e => hnot (e ▸ ha)

theorem merge_ints {d a : Addr} {kvs more : List (Int × Value)} {Q : Unit → Shared → Prop} (hda : d ≠ a) (haS : (a == sysModules) = false) (hd : s.heap.DictOf (intKind prog w) d kvs) (ha : s.heap.DictOf (intKind prog w) a more)
    (hne : kvs ≠ []) (hnd : ((kvs ++ more).map (·.1)).Nodup) (hsz : (kvs ++ more).length ≤ 1000)
    (h : ∀ h', h'.DictOf (intKind prog w) d (kvs ++ more) → Heap.SameBut d s.heap h' → Q () { s with heap := h' }) : wpAny (model prog w) A (mergeMapping d (.ref a) false) Q E s := by
  obtain ⟨od, esd, epd, hod, hcd, hdd, hkd, hpd, hnd'⟩ := id hd
  obtain ⟨oo, eso, epo, hoo, hco, hdo', hko, hpo, hno⟩ := id ha
  have hlen : more.length = eso.size := by rw [← hpo.length]; simp
  unfold mergeMapping
  refine wpAny_bind (wpAny_isInstance ha.typeIs isSubtype_dict_dict ?_)
  dsimp only
  rw [if_pos rfl]
  refine wpAny_bind (wpAny_specialOf ha.typeIs F.slot_dict_iter.lookup ?_)
  refine wpAny_bind (wpAny_pure ?_)
  simp only [beq_self_eq_true]
  rw [if_neg (by rw [haS]; exact Bool.false_ne_true)]
  refine wpAny_bind (wpAny_dictEntries hod hdd ?_)
  have hemp : esd.isEmpty = false := by
    cases q : esd.isEmpty with
    | false => rfl
    | true =>
      have h0 : esd = #[] := Array.isEmpty_iff.mp q
      have := hpd.length
      rw [h0] at this
      exact absurd (List.length_eq_zero_iff.mp (by simpa using this.symm)) hne
  simp only [hemp, Bool.false_eq_true, if_false]
  refine wpAny_bind (wpAny_dictEntries hoo hdo' ?_)
  refine wpAny_bind (wpAny_dictEpoch hoo hdo' ?_)
  refine wpAny_bind ?_
  rw [List.range_eq_range']
  refine wpAny_forIn_list _
    (fun rest _ s' => ∃ h' i, s' = { s with heap := h' } ∧ rest = List.range' i (eso.size - i) ∧ i ≤ eso.size ∧ h'.DictOf (intKind prog w) d (kvs ++ more.take i) ∧ h'.get? a = some oo ∧ Heap.SameBut d s.heap h')
    _ ?_ ?_ _ _ ⟨s.heap, 0, rfl, by simp, Nat.zero_le _, by simpa using hd, hoo, Heap.SameBut.refl _ _⟩
  · rintro x rest b s' ⟨h', i, rfl, hr, hi, hd', hoo', hs'⟩
    have hlt : i < eso.size := by
      rcases Nat.lt_or_ge i eso.size with h | h
      · exact h
      · rw [Nat.sub_eq_zero_of_le h] at hr; simp at hr
    obtain ⟨rfl, hrest⟩ : x = i ∧ rest = List.range' (i + 1) (eso.size - (i + 1)) := by
      have e : eso.size - i = (eso.size - (i + 1)) + 1 := by omega
      rw [e, List.range'_succ] at hr
      injection hr with h1 h2
      exact ⟨h1, h2⟩
    refine wpAny_bind (wpAny_dictEntries hoo' hdo' ?_)
    rw [Array.getElem?_eq_getElem hlt]
    obtain ⟨kv, hkv⟩ : ∃ kv, more[x]? = some kv := ⟨more[x]'(by rw [hlen]; exact hlt), List.getElem?_eq_getElem _⟩
    obtain ⟨k, v⟩ := kv
    obtain ⟨hkey, hval⟩ := hpo.get? (e := eso[x]) (by simp [hlt]) hkv
    obtain ⟨k', hkey', hhash⟩ := hko eso[x] (Array.getElem_mem hlt)
    obtain rfl : k' = k := (intKind prog w).inj _ _ _ hkey' hkey
    dsimp only
    rw [hhash, hval]
    have hsucc : more.take (x + 1) = more.take x ++ [(k', v)] := by rw [List.take_add_one, hkv]; rfl
    have hnot : k' ∉ (kvs ++ more.take x).map (·.1) := by
      have h1 : ((kvs ++ more.take (x + 1)).map (·.1)).Nodup := by
        refine List.Nodup.sublist (List.Sublist.map _ (List.Sublist.append_left (List.take_sublist _ _) _)) hnd
      rw [hsucc, ← List.append_assoc, List.map_append, List.nodup_append] at h1
      intro hm
      exact h1.2.2 _ hm k' (by simp) rfl
    have hmx : (kvs ++ more.take x).length ≤ sizeLine := by
      have e2 : (more.take x).length ≤ more.length := by rw [List.length_take]; omega
      rw [List.length_append] at hsz ⊢
      rw [sizeLine_eq]
      omega
    refine wpAny_bind (wpAny_holding (dictPut_fresh hkey hd' hnot hmx fun h'' hd'' hs'' => ?_))
    have hoo'' : h''.get? a = some oo := (hs''.2 a (Ne.symm hda)).trans hoo'
    refine wpAny_bind (wpAny_dictEpoch hoo'' hdo' ?_)
    rw [if_neg (by simp)]
    exact wpAny_pure ⟨h'', x + 1, rfl, hrest, hlt, by rw [hsucc, ← List.append_assoc]; exact hd'', hoo'', hs'.trans hs''⟩
  · rintro b s' ⟨h', i, rfl, hr, hi, hd', hoo', hs'⟩
    have hin : i = eso.size := by
      rcases Nat.lt_or_ge i eso.size with h | h
      · have e : eso.size - i = (eso.size - (i + 1)) + 1 := by omega
        rw [e, List.range'_succ] at hr; exact nomatch hr
      · exact Nat.le_antisymm hi h
    refine wpAny_pure (h h' ?_ hs')
    rw [hin, ← hlen, List.take_length] at hd'; exact hd'

theorem gather (mn : Option Addr) (f : (Option (Sem Value) × Sem Value) → (Option Addr × List (Sem Value × Sem Value)) → Sem (ForInStep (Option Addr × List (Sem Value × Sem Value))))
    (hf : ∀ (p : Sem Value × Sem Value) (run : List (Sem Value × Sem Value)), run.length + 1 < 17 → f (some p.1, p.2) (mn, run) = pure (.yield (mn, run ++ [p]))) :
    ∀ (items : List (Sem Value × Sem Value)) (rest : List (Option (Sem Value) × Sem Value)) (run : List (Sem Value × Sem Value)), run.length + items.length < 17 →
      forIn (items.map (fun p => (some p.1, p.2)) ++ rest) (mn, run) f = forIn rest (mn, run ++ items) f
  | [], rest, run, _ => by simp
  | p :: items, rest, run, h => by
    rw [List.map_cons, List.cons_append, List.forIn_cons, hf p run (by simp at h; omega), pure_bind]
    have := gather mn f hf items rest (run ++ [p]) (by simp at h ⊢; omega)
    simpa using this

theorem dictDisplay_two (p1 : List (Sem Value × Sem Value)) (p : Sem Value × Sem Value) (p2 : List (Sem Value × Sem Value)) (h1 : p1.length = 16) (h0 : p2 ≠ []) (h2 : p2.length < 17) :
    dictDisplay ((p1 ++ p :: p2).map fun p => (some p.1, p.2)) = (do
      let d ← subDict (p1 ++ [p])
      let sub ← holding [.ref d] (subDict p2)
      (holding [.ref d, .ref sub] (mergeMapping d (.ref sub) false)).onRaise fun x => do let _ ← holding [.ref d, x] (runValue (.builtin "proto.let_go" {}))
      pure (.ref d)) := by
  unfold dictDisplay
  dsimp only
  rw [List.map_append, gather none _ (fun p run h => by
    have hne : ((run ++ [(p.1, p.2)]).length == 17) = false := by simp; omega
    simp only [hne, Bool.false_eq_true, if_false]) p1 _ [] (by simp; omega)]
  rw [List.map_cons, List.forIn_cons]
  have e17 : ((([] ++ p1) ++ [(p.1, p.2)]).length == 17) = true := by simp; omega
  simp only [e17, if_true]
  have emp : (([] ++ p1) ++ [(p.1, p.2)]).isEmpty = false := by simp
  simp only [emp, Bool.false_eq_true, if_false, bind_assoc, pure_bind]
  have ep : ([] ++ p1) ++ [(p.1, p.2)] = p1 ++ [p] := by simp
  rw [ep]
  refine congrArg (subDict (p1 ++ [p]) >>= ·) (funext fun d => ?_)
  rw [← List.append_nil (List.map _ p2), gather (some d) _ (fun q run h => by
    have hne : ((run ++ [(q.1, q.2)]).length == 17) = false := by simp; omega
    simp only [hne, Bool.false_eq_true, if_false]) p2 [] [] (by simpa using h2)]
  have emp2 : p2.isEmpty = false := by
    cases p2 with
    | nil => exact absurd rfl h0
    | cons _ _ => rfl
  rw [List.forIn_nil, pure_bind]
  simp only [List.nil_append, emp2, Bool.false_eq_true, if_false, bind_assoc, pure_bind]

theorem longDict {env : Env} {h₀ : Heap} {L : Addr} {m : Str → Option Value} {news : List (Addr × Obj)} {keys : List (Option Expr)} {values : List Expr} {pos : Pos} {D : List (Int × Int)} {Q : Value → Shared → Prop}
    (F : Fr h₀ L s.heap m) (N : News h₀ L s.heap news) (hbig : h₀.NoLimit) (hD : litPairs keys values = some D) (hall : keys.all (·.isSome) = true) (hl : keys.length = values.length) (h17 : 17 < keys.length) (h34 : keys.length ≤ 32) (hn : (D.map (·.1)).Nodup)
    (h : ∀ d h' o kvs tk, Fr h₀ L h' m → News h₀ L h' ((d, o) :: news) → (∀ p ∈ news, p.1 < d) → (d == sysModules) = false → o.IsDictOf (intKind prog w) kvs → KV kvs D → Q (.ref d) { s with heap := h', toks := tk }) :
    wpAny (model prog w) A (eval (.Dict keys values pos) env) Q E s := by
  have C := cts_of env pos keys values D hD
  have hlen := pairTrees_length keys values env pos hall hl
  rw [arm_eval_Dict, zip_pairTrees keys values env pos hall hl]
  generalize pairTrees keys values env pos = ps at C hlen
  have e16 : ps = ps.take 16 ++ ps[16] :: ps.drop 17 := by
    have a := List.take_append_drop 16 ps
    have b : ps.drop 16 = ps[16] :: ps.drop 17 := by rw [List.drop_eq_getElem_cons]
    rw [b] at a
    exact a.symm
  have e17 : ps.take 17 = ps.take 16 ++ [ps[16]] := by rw [List.take_add_one, List.getElem?_eq_getElem]; rfl
  have hd0 : ps.drop 17 ≠ [] := by
    intro e
    have := congrArg List.length e
    simp at this
    omega
  rw [e16, dictDisplay_two _ _ _ (by simp; omega) hd0 (by simp; omega), ← e17]
  obtain ⟨C1, C2⟩ := C.split 17
  have hDl := C.length
  have hD' : D = D.take 17 ++ D.drop 17 := (List.take_append_drop 17 D).symm
  have hn1 : ((D.take 17).map (·.1)).Nodup := List.Nodup.sublist (List.Sublist.map _ (List.take_sublist _ _)) hn
  have hn2 : ((D.drop 17).map (·.1)).Nodup := List.Nodup.sublist (List.Sublist.map _ (List.drop_sublist _ _)) hn
  refine wpAny_bind (wpAny_standAt (wpAny_bind (subDict_long C1 (by simp; omega) (by simp; omega) hn1 fun h1 tk1 kvs1 d1 k1 s1 => ?_)))
  refine wpAny_bind (wpAny_holding (subDict_short C2 (by simp; omega) hn2 fun h2 tk2 kvs2 d2 k2 s2 => ?_))
  have z1 : h1.objs.size = s.heap.objs.size + 1 := by rw [s1.1]; simp [Heap.push]
  have ne : s.heap.objs.size ≠ h1.objs.size := by omega
  have d1' : h2.DictOf (intKind prog w) s.heap.objs.size kvs1 := (d1.push _).sameBut s2 ne
  have F1 : Fr h₀ L h1 m := F.filled s1
  have F2 : Fr h₀ L h2 m := F1.filled s2
  have hbig' := modules_low hbig
  have hkv : KV (kvs1 ++ kvs2) D := by rw [hD']; exact k1.append k2
  have hne : kvs1 ≠ [] := by
    intro e
    have := k1.length
    rw [e] at this
    simp at this
    omega
  refine wpAny_bind (wpAny_onRaise (wpAny_holding (merge_ints (s := { s with heap := h2, toks := tk2 }) ne (F1.notModules hbig') d1' d2 hne (by rw [hkv.keys]; exact hn) (by rw [hkv.length]; omega) fun h3 d3 s3 => ?_)))
  obtain ⟨o, ho, hod⟩ := Heap.dictOf_iff.mp d3
  refine wpAny_pure (h _ h3 o _ _ ?_ ?_ (fun p hp => Heap.lt_size (N p hp).1) (F.notModules hbig') hod hkv)
  · exact F2.change s3 (Nat.ne_of_gt F.ns.lt) (none_at_size F)
  · intro p hp
    rcases List.mem_cons.mp hp with rfl | hp
    · exact ⟨ho, Nat.ne_of_gt F.ns.lt, none_at_size F⟩
    · have l1 := Heap.lt_size (N p hp).1
      have g1 := (s1.2 _ (Nat.ne_of_lt l1)).trans (Heap.get?_push_of_some _ (N p hp).1)
      have g2 := (s2.2 _ (Nat.ne_of_lt (Nat.lt_trans l1 (z1 ▸ Nat.lt_succ_self _)))).trans (Heap.get?_push_of_some _ g1)
      exact ⟨(s3.2 _ (Nat.ne_of_lt l1)).trans g2, (N p hp).2⟩
end
end Mine
end
section
open PySem PySem.W PyProof.Rows
theorem Mine.fresh5 : True := by
  w_top off
  trivial
namespace Mine
abbrev P : Program := PySem.Challenge.rw_nt0600_01.row.prog
noncomputable def tabD : List (Int × Int) := [(128, 8364), (130, 8218), (131, 402), (132, 8222), (133, 8230), (134, 8224), (135, 8225), (136, 710), (137, 8240), (138, 352), (139, 8249), (140, 338), (142, 381), (145, 8216), (146, 8217), (147, 8220), (148, 8221), (149, 8226), (150, 8211), (151, 8212), (152, 732), (153, 8482), (154, 353), (155, 8250), (156, 339), (158, 382), (159, 376)]
/-- the law's table, made anew -/
noncomputable def TabNew (w : World) (news : List (Addr × Obj)) (v : Value) (ns : List (Addr × Obj)) : Prop :=
  ∃ (d : Addr) (o : Obj) (kvs : List (Int × Value)), v = .ref d ∧ ns = (d, o) :: news ∧ (d == sysModules) = false ∧ o.IsDictOf (intKind P w) kvs ∧ KV kvs tabD ∧ ∀ p ∈ news, p.1 < d
section
local macro_rules | `(tactic| walk_at "eval Dict") => `(tactic| (k_here; k_dflt (refine' longDict (D := tabD) ?k1 ?k2 ?k3 ?k4 ?k5 ?k6 ?k7 ?k8 ?k9 ?_; (case k1 => k_asm); (case k2 => k_asm); (case k3 => exact Top.nolimit (by k_asm)); (case k4 => rfl); (case k5 => rfl); (case k6 => rfl); (case k7 => decide); (case k8 => decide); (case k9 => decide +kernel); intro d9 h9 o9 kvs9 tk9 F9 N9 l9 s9 i9 k9)))
theorem t_table {w mean mg mb} {news : List (Addr × Obj)} : Tell w mean mg mb 314 1 news [] (TabNew w news) := by
  intro dp un gd cn cs a ccd cl outer A₀ base h₀ L m s Q E B F X N T hk hd hu hret
  refine wpAny_call ?_
  k_dflt cell_enter
  k_steps
  all_goals (refine hret _ _ _ _ (by assumption) (by assumption) ⟨_, _, _, rfl, rfl, by assumption, by assumption, by assumption, by assumption⟩)
end
end Mine
end
section
open PySem PySem.W PyProof.Rows
local macro_rules | `(tactic| walk_at "no such key") => `(tactic| fail "none")
local macro_rules | `(tactic| walk_at "no such key") => `(tactic| fail "none")
theorem Mine.fresh6 : True := by
  w_top off
  trivial
namespace Mine
noncomputable def Stop (P : Prop) : Prop := P
theorem stop_here {P : Prop} (h : Stop P) : P := h
theorem stop_off {P : Prop} (h : P) : Stop P := h
theorem t_sortY {w mean mg mb} {news : List (Addr × Obj)} {n : Int} {t : Tok} {y : Str} (h0 : 0 ≤ n) (e : sortOf (kind n) = y) : Tell w mean mg mb 328 1 news [.int n t] (fun v ns => (∃ t, v = .str y t) ∧ ns = news) := by
  subst e; exact t_sort h0
noncomputable def tabP : List (PyData × PyData) := tabD.map fun p => (PyData.int p.1, PyData.int p.2)
theorem lookup_ints (n : Int) : ∀ D : List (Int × Int), Spec.lookup (PyData.int n) (D.map fun p => (PyData.int p.1, PyData.int p.2)) = (D.lookup n).map PyData.int
  | [] => rfl
  | (a, b) :: D => by
    rw [List.map_cons, List.lookup_cons, Spec.lookup]
    rw [lookup_ints n D]
    by_cases h : a = n
    · subst h; simp [Spec.same]
    · have h' : (n == a) = false := by simp; omega
      rw [h', if_neg (by simp [Spec.same, h])]
theorem tab_all : ∀ k : Fin 32, (tabD.lookup (128 + (k.val : Int))).getD (128 + (k.val : Int)) = c1 (128 + (k.val : Int)) := by decide +kernel
theorem tab_look (n : Int) : (tabD.lookup n).getD n = c1 n := by
  by_cases h : 128 ≤ n ∧ n ≤ 159
  · have e : n = 128 + (((⟨(n - 128).toNat, by omega⟩ : Fin 32)).val : Int) := by simp; omega
    rw [e]; exact tab_all _
  · rw [c1_id (by omega)]
    have : tabD.lookup n = none := by
      rw [List.lookup_eq_none_iff]
      intro p hp
      have : ∀ p ∈ tabD, 128 ≤ p.1 ∧ p.1 ≤ 159 := by decide +kernel
      have := this p hp
      simp; omega
    rw [this]; rfl
theorem tab_get {w : World} {A : Around} {E : Value → Shared → Prop} {s : Shared} {d : Addr} {n : Int} {t u : Tok} {Q : Value → Shared → Prop} (T : IntTab P w s.heap d tabP) (h : ∀ t, Q (.int (c1 n) t) { s with toks := s.toks + 1 }) :
    wpAny (model P w) A (call (.builtin "dict.get") [.ref d, .int n t, .int n u]) Q E s :=
  call_get2_intTab T (PyProof.V.Flat.int n u) fun v hv => by
    have e : (Spec.lookup (PyData.int n) tabP).getD (.int n) = PyData.int (c1 n) := by
      unfold tabP
      rw [lookup_ints, ← tab_look n]
      cases tabD.lookup n <;> rfl
    rw [e] at hv
    have hv := hv s.heap
    cases hv
    exact h _
theorem kind_cases (n : Int) : kind n = 1 ∨ kind n = 2 ∨ kind n = 3 ∨ kind n = 4 ∨ kind n = 5 ∨ kind n = 0 := by
  unfold kind
  repeat' split
  all_goals simp
theorem kind_bad {n : Int} (h : kind n = 1 ∨ kind n = 2 ∨ kind n = 3) : rchar n = Str.ofString "�" := by
  unfold rchar
  rw [if_pos]
  unfold kind at h
  split at h
  · exact .inl ‹_›
  split at h
  · exact .inr (.inl ‹_›)
  split at h
  · exact .inr (.inr ‹_›)
  split at h
  · omega
  split at h <;> omega
theorem kind_good {n : Int} (h : kind n = 4 ∨ kind n = 5 ∨ kind n = 0) : n ≤ 1114111 ∧ rchar n = ⟨#[(c1 n).toNat]⟩ := by
  unfold kind at h
  split at h
  · omega
  split at h
  · omega
  split at h
  · omega
  rename_i h1 h2 h3
  exact ⟨by omega, rchar_c1 h1 h2 (by simpa using h3)⟩
section
local macro_rules | `(tactic| walk_at "ite") => `(tactic| (refine stop_here ?_))
local macro_rules | `(tactic| k_mem) => `(tactic| assumption)
local macro_rules | `(tactic| walk_at "call ref") => `(tactic| (k_here; (with_reducible show wpAny _ _ (call (Value.ref _) [Value.int _ _]) _ _ _); k_dflt (first
  | (refine' (t_sortY ?h0 ?he).use ?k1 ?k2 ?k3 ?k4 ?k5 ?k6 ?k7 ?k8 ?_; (case h0 => assumption); (case he => assumption); (case k1 => k_asm); (case k2 => k_asm); (case k3 => k_asm); (case k4 => k_asm); (case k5 => k_asm); (case k6 => first | exact rfl | assumption); (case k7 => ktr_room); (case k8 => ktr_units); intro v9 n9 h9 tk9 F9 N9 P9; obtain ⟨⟨t9, e9⟩, d9⟩ := P9; subst e9; subst d9; (try dsimp only [sortOf])))))
local macro_rules | `(tactic| walk_at "call builtin:dict.get") => `(tactic| (k_here; k_dflt (refine tab_get (by k_tabat) ?_; intro t9)))
theorem t_meant {w mean mg mb} {news : List (Addr × Obj)} {n : Int} {t : Tok} {d : Addr} {o : Obj} {kvs : List (Int × Value)} (h0 : 0 ≤ n) (ho : (d, o) ∈ news) (hs : (d == sysModules) = false) (hi : o.IsDictOf (intKind P w) kvs) (hkv : KV kvs tabD) :
    Tell w mean mg mb 335 2 news [.int n t, .ref d] (PairNew (rchar n) (faultOf (kind n)) news) := by
  intro dp un gd cn cs a ccd cl outer A₀ base h₀ L m s Q E B F X N T hk hd hu hret
  have hflat : PyProof.V.FlatPairs PyData.int kvs tabP := hkv.flat
  obtain ⟨y, hy⟩ : ∃ y, sortOf (kind n) = y := ⟨_, rfl⟩
  refine wpAny_call ?_
  k_dflt cell_enter
  k_steps
  refine stop_off ?_
  rcases kind_cases n with e | e | e | e | e | e
  all_goals (rw [e] at hret hy; dsimp only [faultOf] at hret; dsimp only [sortOf] at hy; subst hy)
  · have hx := kind_bad (.inl e)
    refine ite_pos (by decide +kernel) ?_
    k_steps
    (refine pair_end hret (by assumption) (by assumption) (.head _) (fun p hp => by first | exact .tail _ hp | exact .tail _ (.tail _ hp) | exact .tail _ (.tail _ (.tail _ hp))) (by first | assumption | exact kst_ltOf (And.right ‹_ ∧ AllLt _ _›) | exact kst_ltOf (And.right (And.right ‹_ ∧ _ ∧ AllLt _ _›))) ?_ ?_)
    all_goals first | exact hx.symm | exact ⟨_, rfl⟩ | exact ⟨0, rfl⟩
  · have hx := kind_bad (.inr (.inl e))
    refine ite_pos (by decide +kernel) ?_
    k_steps
    (refine pair_end hret (by assumption) (by assumption) (.head _) (fun p hp => by first | exact .tail _ hp | exact .tail _ (.tail _ hp) | exact .tail _ (.tail _ (.tail _ hp))) (by first | assumption | exact kst_ltOf (And.right ‹_ ∧ AllLt _ _›) | exact kst_ltOf (And.right (And.right ‹_ ∧ _ ∧ AllLt _ _›))) ?_ ?_)
    all_goals first | exact hx.symm | exact ⟨_, rfl⟩ | exact ⟨0, rfl⟩
  · have hx := kind_bad (.inr (.inr e))
    refine ite_pos (by decide +kernel) ?_
    k_steps
    (refine pair_end hret (by assumption) (by assumption) (.head _) (fun p hp => by first | exact .tail _ hp | exact .tail _ (.tail _ hp) | exact .tail _ (.tail _ (.tail _ hp))) (by first | assumption | exact kst_ltOf (And.right ‹_ ∧ AllLt _ _›) | exact kst_ltOf (And.right (And.right ‹_ ∧ _ ∧ AllLt _ _›))) ?_ ?_)
    all_goals first | exact hx.symm | exact ⟨_, rfl⟩ | exact ⟨0, rfl⟩
  · obtain ⟨hx1, hx⟩ := kind_good (.inl e)
    have hb := c1_bd h0 hx1
    refine ite_neg (by decide +kernel) ?_
    k_steps
    (refine pair_end hret (by assumption) (by assumption) (.head _) (fun p hp => by first | exact .tail _ hp | exact .tail _ (.tail _ hp) | exact .tail _ (.tail _ (.tail _ hp))) (by first | assumption | exact kst_ltOf (And.right ‹_ ∧ AllLt _ _›) | exact kst_ltOf (And.right (And.right ‹_ ∧ _ ∧ AllLt _ _›))) ?_ ?_)
    all_goals first | exact hx.symm | exact ⟨_, rfl⟩ | exact ⟨0, rfl⟩
  · obtain ⟨hx1, hx⟩ := kind_good (.inr (.inl e))
    have hb := c1_bd h0 hx1
    refine ite_neg (by decide +kernel) ?_
    k_steps
    (refine pair_end hret (by assumption) (by assumption) (.head _) (fun p hp => by first | exact .tail _ hp | exact .tail _ (.tail _ hp) | exact .tail _ (.tail _ (.tail _ hp))) (by first | assumption | exact kst_ltOf (And.right ‹_ ∧ AllLt _ _›) | exact kst_ltOf (And.right (And.right ‹_ ∧ _ ∧ AllLt _ _›))) ?_ ?_)
    all_goals first | exact hx.symm | exact ⟨_, rfl⟩ | exact ⟨0, rfl⟩
  · obtain ⟨hx1, hx⟩ := kind_good (.inr (.inr e))
    have hb := c1_bd h0 hx1
    refine ite_neg (by decide +kernel) ?_
    k_steps
    (refine pair_end hret (by assumption) (by assumption) (.head _) (fun p hp => by first | exact .tail _ hp | exact .tail _ (.tail _ hp) | exact .tail _ (.tail _ (.tail _ hp))) (by first | assumption | exact kst_ltOf (And.right ‹_ ∧ AllLt _ _›) | exact kst_ltOf (And.right (And.right ‹_ ∧ _ ∧ AllLt _ _›))) ?_ ?_)
    all_goals first | exact hx.symm | exact ⟨_, rfl⟩ | exact ⟨0, rfl⟩
end
end Mine
end
section
open PySem PySem.W PyProof.Rows PySem.Calls
theorem Mine.fresh7 : True := by
  w_top off
  trivial
namespace Mine

noncomputable def LeaveF (h₀ : Heap) (L : Addr) (m : Str → Option Value) (g : Heap) (rest : List (Addr × Obj)) (R : Result → Shared → Prop) (v : Value) (s' : Shared) : Prop :=
  ∃ L' m' news', Fr g L' s'.heap m' ∧ News g L' s'.heap news' ∧ (Fr h₀ L s'.heap m → News h₀ L s'.heap news' → News h₀ L s'.heap rest → (∀ q ∈ news', ∀ p ∈ rest, p.1 ≠ q.1) → R (.ok (.ret v)) s')
theorem leaveF_ {h₀ g : Heap} {L L' : Addr} {m m' : Str → Option Value} {news' rest : List (Addr × Obj)} {R : Result → Shared → Prop} {v : Value} {s' : Shared} (F' : Fr g L' s'.heap m') (N' : News g L' s'.heap news')
    (k : Fr h₀ L s'.heap m → News h₀ L s'.heap news' → News h₀ L s'.heap rest → (∀ q ∈ news', ∀ p ∈ rest, p.1 ≠ q.1) → R (.ok (.ret v)) s') : LeaveF h₀ L m g rest R v s' := ⟨L', m', news', F', N', k⟩

theorem code_defF {w : World} {A₀ A : Around} {s : Shared} {K : Frag} {L : Addr} {h₀ base : Heap} {m mg mb : Str → Option Value} {news rest : List (Addr × Obj)} {p : Program} {loose : List Str} {mean : ExcName → Option Value}
    {env : Env} {outer : List Env} {R : Result → Shared → Prop} {name qual : Str} {params : Arguments} {body : List Stmt} {scope : Scope} {dV kV doc pm cdv ct oc : Value} {an od : Option Addr} {osl : Array (Option Value)} {f : Addr} {args : Args} {binds : List (Str × Value)}
    (B : Below A₀ base outer h₀) (F : Fr h₀ L s.heap m) (X₀ : K.In h₀) (N : News h₀ L s.heap news) (NR : News h₀ L s.heap rest) (dis : ∀ p ∈ rest, p.1 ∉ news.map (·.1)) (T : Top p loose mean mg mb h₀) (hA : A.frames = some (env :: outer)) (hf : env.frame = some L) (hke : env.scope.kind = .function)
    (ho : K.lookup f = some ⟨oc, od, .func (fnOf name qual params body scope dV kV doc pm an cdv ct), osl⟩) (hcd : codeIn K cdv qual = true) (hroom : A.depth < recursionLimit)
    (hbind : BindsTo s (fnOf name qual params body scope dV kV doc pm an cdv ct) args binds) (hloc : ∀ y ∈ binds, scope.names.lookup y.1 = some .local)
    (h : ∀ g L' h₁, (∀ p ∈ rest, g.get? p.1 = some p.2) → Fr h₀ L g m → Fr g L' h₁ (fun y => binds.reverse.lookup y) → News g L' h₁ news → Below A base (env :: outer) g → K.In g → Top p loose mean mg mb g →
      wpAny (model P w) (A.deeper (envOf qual scope L' f cdv)) (execs body (envOf qual scope L' f cdv))
        (fun fl s' => LeaveF h₀ L m g rest R (match fl with | .ret v => v | _ => .none) s')
        (fun e s' => wpAny (model P w) (A.deeper (envOf qual scope L' f cdv)) (leaving (envOf qual scope L' f cdv) e) (fun _ s'' => R (.error e) s'') (fun e' s'' => R (.error e') s'') s')
        { s with heap := h₁, toks := s.toks + binds.length })
    (hco : scope.isCoroutine = false) (hgen : scope.isGenerator = false) (hk : scope.kind = .function)
    (hcell : ∀ x ∈ scope.names, x.2 ≠ .cell) : codeAny (model P w) A (.call (.ref f) args) R s := by
  obtain ⟨FG, BG, st, lv⟩ := groundX (R := R) B F N hA hf hke
  have rg : ∀ p ∈ rest, (hideAll s.heap (news.map (·.1))).get? p.1 = some p.2 := fun p hp => hideAll_get _ (NR p hp).1 (dis p hp)
  refine codeAny_call_def (fd := fnX name qual params body scope [] dV kV doc pm an cdv ct) (body := body) (binds := binds) hroom ((X₀.keeps F.keep) _ _ ho) rfl (T.nolimit.keeps F.keep) (codeRec_of (X₀.keeps F.keep) hcd) rfl hbind hcell hloc (fun h₁ hns hk₁ => ?_) hco hgen hk
  refine wpAny_mono (h _ s.heap.objs.size h₁ rg FG ⟨hns, fun b o e => hk₁ b o (of_hideAll _ e), Nat.le_of_eq (hideAll_size _ _)⟩
    (fun p hp => ⟨hk₁ _ _ (N p hp).1, Nat.ne_of_lt (Heap.lt_size (N p hp).1), hideAll_none _ (List.mem_map_of_mem hp)⟩) BG (X₀.keeps st) (T.keeps st)) (fun fl s' hl => ?_) fun _ _ y => y
  obtain ⟨L', m', news', F', N', k⟩ := hl
  refine lv _ _ ⟨L', m', news', F', N', fun a b => k a b (fun p hp => ⟨F'.keep _ _ (rg p hp), (NR p hp).2⟩) fun q hq p hp e => ?_⟩
  have := (N' q hq).2.2
  rw [← e, rg p hp] at this
  cases this

/-- as Tell; but the callee's ledger M holds only what it changes: the rest is framed -/
noncomputable def TellF (w : World) (mean : ExcName → Option Value) (mg mb : Str → Option Value) (f : Addr) (cost : Nat) (M rest : List (Addr × Obj)) (pos : List Value) (Post : Value → List (Addr × Obj) → Prop) : Prop :=
  ∀ (dp un : Nat) (gd : Option (List Code)) (cn : Str) (cs : Scope) (a : Addr) (ccd : Value) (cl : List (Str × Addr)) (outer : List Env) (A₀ : Around) (base h₀ : Heap) (L : Addr) (m : Str → Option Value) (s : Shared) (Q E : Value → Shared → Prop),
    Below A₀ base outer h₀ → Fr h₀ L s.heap m → (hd.heap_1 w.params).In h₀ → News h₀ L s.heap M → News h₀ L s.heap rest → (∀ p ∈ rest, p.1 ∉ M.map (·.1)) → Top hd.view_39 (looseW hd.view_39 []) mean mg mb h₀ → cs.kind = .function →
    dp + cost < recursionLimit → un + 8 * cost < cLine →
    (∀ v M' h' tk', Fr h₀ L h' m → News h₀ L h' M' → News h₀ L h' rest → (∀ q ∈ M', ∀ p ∈ rest, p.1 ≠ q.1) → Post v M' → Q v { s with heap := h', toks := tk' }) →
    wpAny (model P w) (ktrTop dp un gd cn cs L a ccd cl outer) (call (.ref f) pos) Q E s
theorem TellF.use {w : World} {mean : ExcName → Option Value} {mg mb : Str → Option Value} {f : Addr} {cost : Nat} {M rest : List (Addr × Obj)} {pos : List Value} {Post : Value → List (Addr × Obj) → Prop}
    (h : TellF w mean mg mb f cost M rest pos Post) {dp un : Nat} {gd : Option (List Code)} {cn : Str} {cs : Scope} {a : Addr} {ccd : Value} {cl : List (Str × Addr)} {outer : List Env} {A₀ : Around} {base h₀ : Heap} {L : Addr} {m : Str → Option Value} {s : Shared} {Q E : Value → Shared → Prop}
    (B : Below A₀ base outer h₀) (F : Fr h₀ L s.heap m) (X : (hd.heap_1 w.params).In h₀) (N : News h₀ L s.heap M) (NR : News h₀ L s.heap rest) (dis : ∀ p ∈ rest, p.1 ∉ M.map (·.1)) (T : Top hd.view_39 (looseW hd.view_39 []) mean mg mb h₀) (hk : cs.kind = .function)
    (hd : dp + cost < recursionLimit) (hu : un + 8 * cost < cLine)
    (k : ∀ v M' h' tk', Fr h₀ L h' m → News h₀ L h' M' → News h₀ L h' rest → (∀ q ∈ M', ∀ p ∈ rest, p.1 ≠ q.1) → Post v M' → Q v { s with heap := h', toks := tk' }) :
    wpAny (model P w) (ktrTop dp un gd cn cs L a ccd cl outer) (call (.ref f) pos) Q E s :=
  h dp un gd cn cs a ccd cl outer A₀ base h₀ L m s Q E B F X N NR dis T hk hd hu k
/-- a callee that changes nothing of its caller's: its ledger is new from end to end -/
theorem TellF.tell {w : World} {mean : ExcName → Option Value} {mg mb : Str → Option Value} {f : Addr} {cost : Nat} {news : List (Addr × Obj)} {pos : List Value} {Post : Value → List (Addr × Obj) → Prop}
    (h : TellF w mean mg mb f cost [] news pos Post) : Tell w mean mg mb f cost news pos (fun v ns => ∃ M', ns = M' ++ news ∧ (∀ q ∈ M', ∀ p ∈ news, p.1 ≠ q.1) ∧ Post v M') := by
  intro dp un gd cn cs a ccd cl outer A₀ base h₀ L m s Q E B F X N T hk hd hu hret
  refine h dp un gd cn cs a ccd cl outer A₀ base h₀ L m s Q E B F X News.nil N (fun _ _ q => nomatch q) T hk hd hu fun v M' h' tk' F' N' R' d' p' => ?_
  refine hret v (M' ++ news) h' tk' F' (fun q hq => ?_) ⟨M', rfl, d', p'⟩
  rcases List.mem_append.mp hq with hq | hq
  · exact N' q hq
  · exact R' q hq
theorem star_plain (e : Expr) (rest : List Expr) (env : Env) (h : (match e with | .Starred .. => false | _ => true) = true) : starEach (e :: rest) env = (false, eval e env) :: starEach rest env := by
  cases e <;> first | rfl | cases h
end Mine
end
section
open PySem PySem.W PyProof.Rows
local macro_rules | `(tactic| walk_at "no such key") => `(tactic| fail "none")
theorem Mine.fresh8 : True := by
  w_top off
  trivial
namespace Mine
theorem allLt_ne {d : Addr} {l : List (Addr × Obj)} (h : AllLt d l) : ∀ p ∈ l, p.1 ≠ d := fun p hp => Nat.ne_of_lt (kst_ltOf h p hp)
theorem ext_ints {w : World} {A : Around} {E : Value → Shared → Prop} {s : Shared} {h₀ : Heap} {L D b : Addr} {m : Str → Option Value} {news news' : List (Addr × Obj)} {vs ws : List Value} {ns ms : List Int} {n n2 : Nat} {Q : Value → Shared → Prop}
    (F : Fr h₀ L s.heap m) (N : News h₀ L s.heap news) (hb : (b, listOf ws.toArray n2) ∈ news) (hi : IntsAre vs ns) (hj : IntsAre ws ms) (hne : ms ≠ [])
    (U : Upd D (listOf vs.toArray n) (listOf (vs ++ ws).toArray (n + 1)) news news') (hz : ns.length + ms.length ≤ 1000)
    (h : ∀ h', Fr h₀ L h' m → News h₀ L h' news' → IntsAre (vs ++ ws) (ns ++ ms) → Q .none { s with heap := h' }) : wpAny (model P w) A (call (.builtin "list.extend") [.ref D, .ref b]) Q E s := by
  have e1 := hi.length
  have e2 := hj.length
  have e3 : ms.length ≠ 0 := fun e => hne (List.length_eq_zero_iff.mp e)
  refine kl_extend (its := vs.toArray) (its2 := ws.toArray) (l := vs ++ ws) F N hb (by simp) (by simp; rintro rfl; simp at e2; omega) U ?_ ?_ ?_ fun h' F' N' => h h' F' N' (hi.append hj)
  · simp [Builtin.List.listTooLong, sizeLine_eq]
    intros
    omega
  · simp [sizeLine_eq]; omega
  · simp [sizeLine_eq]; omega
theorem star_List (elts : List Expr) (pos : Pos) (rest : List Expr) (env : Env) : starEach (.List elts pos :: rest) env = (false, eval (.List elts pos) env) :: starEach rest env := rfl
/-- a list of ints, none below nought, made anew -/
noncomputable def NumsNew (news : List (Addr × Obj)) (v : Value) (ns : List (Addr × Obj)) : Prop :=
  ∃ (D : Addr) (vs : List Value) (ks : List Int) (c : Nat), v = .ref D ∧ ns = (D, listOf vs.toArray c) :: news ∧ IntsAre vs ks ∧ ks.length ≤ 1000 ∧ (∀ k ∈ ks, 0 ≤ k) ∧ ∀ p ∈ news, p.1 < D
theorem Upd.app {d : Addr} {o o' : Obj} {r r' : List (Addr × Obj)} : ∀ {l : List (Addr × Obj)}, (∀ p ∈ l, p.1 ≠ d) → Upd d o o' r r' → Upd d o o' (l ++ r) (l ++ r')
  | [], _, U => U
  | p :: l, h, U => Upd.tail (h p (.head _)) (Upd.app (fun q hq => h q (.tail _ hq)) U)
theorem own_ne {own : List (Addr × Obj)} {I D' D : Addr} (h2 : ∀ p ∈ own, p.1 ∈ [I, D']) (h1 : D ≠ I) (h3 : D ≠ D') : ∀ p ∈ own, p.1 ≠ D := by
  intro p hp e
  have := h2 p hp
  rw [e] at this
  rcases List.mem_cons.mp this with e | h
  · exact h1 e
  · exact h3 (List.mem_singleton.mp h)
theorem nums_start : (rangeKs 0 33 ++ rangeKs 126 36 ++ [55295, 55296, 56319, 56320, 57343, 57344, 64975, 64976, 65007, 65008, 1114113]).length ≤ 100 + 10 * ([] : List Int).length ∧ ∀ n ∈ (rangeKs 0 33 ++ rangeKs 126 36 ++ [55295, 55296, 56319, 56320, 57343, 57344, 64975, 64976, 65007, 65008, 1114113]), (0 : Int) ≤ n := by decide +kernel
theorem nums_turn {pre ns : List Int} {k : Int} (h1 : ns.length ≤ 100 + 10 * pre.length) (h2 : ∀ n ∈ ns, 0 ≤ n) (e : k = 0 + (pre.length : Int)) :
    (ns ++ [65536 * k + 65533] ++ [65536 * k + 65534] ++ [65536 * k + 65535] ++ [65536 * k + 65536]).length ≤ 100 + 10 * (pre ++ [k]).length ∧ ∀ n ∈ ns ++ [65536 * k + 65533] ++ [65536 * k + 65534] ++ [65536 * k + 65535] ++ [65536 * k + 65536], 0 ≤ n := by
  refine ⟨by simp; omega, fun n hn => ?_⟩
  simp only [List.mem_append, List.mem_singleton] at hn
  rcases hn with (((hn | hn) | hn) | hn) | hn
  · exact h2 n hn
  all_goals omega
theorem nums_end {ks : List Int} (h : ks.length ≤ 100 + 10 * (rangeKs 0 17).length ∧ ∀ n ∈ ks, 0 ≤ n) : ks.length ≤ 1000 := by
  have := rangeKs_length 0 17
  omega
theorem nums_back {h₀ : Heap} {L : Addr} {m : Str → Option Value} {rest N' : List (Addr × Obj)} {s : Shared} {Q : Value → Shared → Prop} {D : Addr} {vs : List Value} {ks : List Int} {c : Nat} {h' : Heap} {tk' : Nat}
    (hret : ∀ v M' h' tk', Fr h₀ L h' m → News h₀ L h' M' → News h₀ L h' rest → (∀ q ∈ M', ∀ p ∈ rest, p.1 ≠ q.1) → NumsNew [] v M' → Q v { s with heap := h', toks := tk' })
    (F : Fr h₀ L h' m) (d : ∀ q ∈ N', ∀ p ∈ rest, p.1 ≠ q.1) (N : News h₀ L h' N') (R : News h₀ L h' rest) (hm : (D, listOf vs.toArray c) ∈ N') (hi : IntsAre vs ks) (hk1 : ks.length ≤ 100 + 10 * (rangeKs 0 17).length) (hk2 : ∀ n ∈ ks, 0 ≤ n) :
    Q (.ref D) { s with heap := h', toks := tk' } := by
  refine hret _ [(D, listOf vs.toArray c)] _ _ F (fun p hp => ?_) R (fun q hq p hp => ?_) ⟨D, vs, ks, c, rfl, rfl, hi, nums_end ⟨hk1, hk2⟩, hk2, fun _ h => nomatch h⟩
  · rw [List.mem_singleton.mp hp]; exact N _ hm
  · rw [List.mem_singleton.mp hq]; exact d _ hm p hp
section
local macro_rules | `(tactic| cell_enter) => `(tactic| (refine' code_defF ?k1 ?k2 ?k3 ?k4 ?r1 ?r2 ?k5 ?kA ?kF ?kK ?k6 ?k7 ?k8 ?k9 ?kB ?_ ?c2 ?c3 ?c4 ?c5; (case r2 => assumption); (case kA => exact rfl); (case kF => exact rfl); (case kK => assumption); (case k1 => k_asm); (case k2 => k_asm); (case k3 => k_asm); (case k4 => assumption); (case r1 => assumption); (case k5 => k_asm); (case k6 => k_is); (case k7 => k_is); (case k8 => ktr_room); (case k9 => exact BindsTo.of_eq rfl); (case c5 => decide); (case kB => exact locs rfl); (case c2 => exact rfl); (case c3 => exact rfl); (case c4 => exact rfl); k_whole; intro g' L' h' RG' FG' F' N' B' X' T'; (try dsimp only); (try k_lift B'); (try k_fold)))
local macro_rules | `(tactic| walk_at "LeaveF") => `(tactic| (k_dflt (refine' leaveF_ ?k1 ?k2 ?_; (case k1 => k_asm); (case k2 => k_asm); k_whole); intro kF kN kR kD; (try dsimp only)))
local macro_rules | `(tactic| walk_at "callWith") => `(tactic| ((with_reducible refine callWith_method1 ?_ (star_plain _ _ _ ?_) ?_); rotate_left; (focus exact rfl); (focus exact rfl)))
local macro_rules | `(tactic| k_all) => `(tactic| first | exact allLt_ne (by assumption) | exact allLt_ne (And.right (by assumption)) | exact allLt_ne (And.right (And.right (by assumption))) | exact allLt_ne (And.right (And.right (And.right (by assumption)))))
local macro_rules | `(tactic| k_upd) => `(tactic| (refine' Upd.app ?a ?b; (case a => k_all); (case b => k_upd)))
local macro_rules | `(tactic| k_all) => `(tactic| exact OwnOff.ne (by assumption) (by k_mem))
local macro_rules | `(tactic| k_all) => `(tactic| (refine own_ne (by assumption) ?a ?b; (focus exact Nat.ne_of_lt (Heap.lt_size (News.get (by assumption) (by k_mem)))); (focus k_ne)))
local macro_rules | `(tactic| walk_at "call type:list") => `(tactic| (k_here; (with_reducible show wpAny _ _ (call (Value.type _) [Value.ref _]) _ _ _); (rename IsRange _ _ _ _ _ _ _ _ => rgX); (with_unfolding_all refine' kll_range ?k0 ?k1 ?k2 ?k3 ?k4 ?k5 ?k6 ?_; (case k0 => rfl); (case k1 => k_asm); (case k2 => k_asm); (case k3 => exact rgX); (case k4 => decide); (case k5 => rfl); (case k6 => decide); k_whole); intro D' vs' c' h' tk' F' N' l1 hI'; (try k_lt l1); (try k_sweep)))
local macro_rules | `(tactic| walk_at "call builtin:list.extend") => `(tactic| (k_here; k_dflt (refine' ext_ints ?k1 ?k2 ?k3 ?k4 ?k5 ?k6 ?k7 ?k8 ?_; (case k1 => k_asm); (case k2 => k_asm); (case k3 => k_mem); (case k4 => assumption); (case k5 => l_ints); (case k6 => exact List.cons_ne_nil _ _); (case k7 => k_upd); (case k8 => decide)); intro h' F' N' hI'; (try dsimp only at N'); (try k_sweep)))
local macro_rules | `(tactic| walk_at "pyIter ref") => `(tactic| (k_state (fun pre ns => ns.length ≤ 100 + 10 * pre.length ∧ ∀ n ∈ ns, 0 ≤ n) "numbers"))
local macro_rules | `(tactic| walk_at "exec For Name Tuple cons nil") => `(tactic| ((rename Fr _ _ _ _ => F'); (with_reducible apply For_unrF); (case _F => with_unfolding_all exact F'); (case hs => (intro _; with_unfolding_all rfl))))
theorem t_numbers {w mean mg mb} {rest : List (Addr × Obj)} : TellF w mean mg mb 321 2 [] rest [] (NumsNew []) := by
  intro dp un gd cn cs a ccd cl outer A₀ base h₀ L m s Q E B F X N NR dis T hk hd hu hret
  refine wpAny_call ?_
  k_dflt cell_enter
  k_with "pyIter ref" => k_state (fun pre ns => ns.length ≤ 100 + 10 * pre.length ∧ ∀ n ∈ ns, 0 ≤ n) "numbers"
  k_with "state" => first | exact nums_start | exact nums_turn (by assumption) (by assumption) (by first | assumption | omega)
  k_steps
  · exact nums_back hret (by assumption) (by assumption) (by assumption) (by assumption) (by k_mem) (by assumption) (by assumption) (by assumption)
end
end Mine
end
section
open PySem PySem.W PyProof.Rows PySem.Calls
theorem Mine.fresh9 : True := by
  w_top off
  trivial
namespace Mine
set_option genInjectivity false in
set_option genSizeOfSpec false in
/-- a tokenizer and its stream: addresses, values -/
structure TS where
  dt : Nat
  t : Nat
  dst : Nat
  st : Nat
  lS : Nat
  lE : Nat
  lO : Nat
  lR : Nat
  sd : Addr
  kt : Nat → Tok
  ks : Nat → Tok
  tv : Nat → Tok
  vS : List Value
  cS : Nat
  vE : List Value
  cE : Nat
  vO : List Value
  cO : Nat
  vR : List Value
  cR : Nat
  at_ : Int
  closed : Bool
  ret : Bool
  waiting : Bool
  done : Bool
abbrev ent (w : World) (n : String) (k : Tok) (v : Value) : DictEntry := ⟨PyData.keyHash w.params (Str.ofString n), .str (Str.ofString n) k, v⟩
noncomputable def TS.led (w : World) (z : TS) : List (Addr × Obj) :=
  [(z.t, instObj 303 z.dt),
   (z.dt, dictOf [ent w "states" (z.kt 0) (.ref z.sd), ent w "stream" (z.kt 1) (.ref z.st), ent w "at" (z.kt 2) (.int z.at_ (z.tv 0)), ent w "state" (z.kt 3) (.str (Str.ofString "number") (z.tv 1)), ent w "back" (z.kt 4) (.str (Str.ofString "data") (z.tv 2)),
      ent w "out" (z.kt 5) (.ref z.lO), ent w "errors" (z.kt 6) (.ref z.lR), ent w "draft" (z.kt 7) .none, ent w "buffer" (z.kt 8) (.str (Str.ofString "") (z.tv 3)), ent w "code" (z.kt 9) (.int 0 (z.tv 4)), ent w "last" (z.kt 10) (.str (Str.ofString "") (z.tv 5)),
      ent w "is_foreign" (z.kt 11) (.bool false), ent w "is_waiting" (z.kt 12) (.bool z.waiting), ent w "is_done" (z.kt 13) (.bool z.done)] 14),
   (z.st, instObj 140 z.dst),
   (z.dst, dictOf [ent w "signs" (z.ks 0) (.ref z.lS), ent w "is_closed" (z.ks 1) (.bool z.closed), ent w "is_return" (z.ks 2) (.bool z.ret), ent w "errors" (z.ks 3) (.ref z.lE)] 4),
   (z.lS, listOf z.vS.toArray z.cS), (z.lE, listOf z.vE.toArray z.cE), (z.lO, listOf z.vO.toArray z.cO), (z.lR, listOf z.vR.toArray z.cR)]
noncomputable def TS.ord (z : TS) : Prop := z.dt < z.t ∧ z.t < z.dst ∧ z.dst < z.st ∧ z.st < z.lS ∧ z.lS < z.lE ∧ z.lE < z.lO ∧ z.lO < z.lR
/-- a tokenizer made anew -/
noncomputable def TokNew (w : World) (sd : Addr) (rest : List (Addr × Obj)) (v : Value) (M' : List (Addr × Obj)) : Prop :=
  ∃ z : TS, (∀ p ∈ rest, @LT.lt Nat instLTNat p.1 z.dt) ∧ v = .ref z.t ∧ M' = z.led w ∧ z.ord ∧ z.sd = sd ∧ z.vS = [] ∧ z.vE = [] ∧ z.vO = [] ∧ z.vR = [] ∧ z.at_ = 0 ∧ z.closed = false ∧ z.ret = false ∧ z.waiting = false ∧ z.done = false
noncomputable def tk14 (a b c d e f g h i j k l m n : Tok) : Nat → Tok
  | 0 => a | 1 => b | 2 => c | 3 => d | 4 => e | 5 => f | 6 => g | 7 => h | 8 => i | 9 => j | 10 => k | 11 => l | 12 => m | _ => n
theorem back_led {h₀ : Heap} {L : Addr} {m : Str → Option Value} {rest N' M' : List (Addr × Obj)} {s : Shared} {Q : Value → Shared → Prop} {Post : Value → List (Addr × Obj) → Prop} {v : Value} {h' : Heap} {tk' : Nat}
    (hret : ∀ v M' h' tk', Fr h₀ L h' m → News h₀ L h' M' → News h₀ L h' rest → (∀ q ∈ M', ∀ p ∈ rest, p.1 ≠ q.1) → Post v M' → Q v { s with heap := h', toks := tk' })
    (F : Fr h₀ L h' m) (d : ∀ q ∈ N', ∀ p ∈ rest, p.1 ≠ q.1) (N : News h₀ L h' N') (R : News h₀ L h' rest) (hs : ∀ p ∈ M', p ∈ N') (hP : Post v M') : Q v { s with heap := h', toks := tk' } :=
  hret v M' h' tk' F (fun p hp => N p (hs p hp)) R (fun q hq => d q (hs q hq)) hP
theorem tok_back {w : World} {h₀ : Heap} {L : Addr} {m : Str → Option Value} {rest N' : List (Addr × Obj)} {s : Shared} {Q : Value → Shared → Prop} {h' : Heap} {tk' : Nat} {sd : Addr} {dt t dst st lS lE lO lR : Nat} {cS cE cO cR : Nat} {k0 k1 k2 k3 k4 k5 k6 k7 k8 k9 k10 k11 k12 k13 j0 j1 j2 j3 v0 v1 v2 v3 v4 v5 : Tok}
    (hret : ∀ v M' h' tk', Fr h₀ L h' m → News h₀ L h' M' → News h₀ L h' rest → (∀ q ∈ M', ∀ p ∈ rest, p.1 ≠ q.1) → TokNew w sd rest v M' → Q v { s with heap := h', toks := tk' }) (hlt : ∀ p ∈ rest, @LT.lt Nat instLTNat p.1 dt)
    (F : Fr h₀ L h' m) (d : ∀ q ∈ N', ∀ p ∈ rest, p.1 ≠ q.1) (N : News h₀ L h' N') (R : News h₀ L h' rest)
    (m1 : (t, instObj 303 dt) ∈ N')
    (m2 : (dt, dictOf [ent w "states" k0 (.ref sd), ent w "stream" k1 (.ref st), ent w "at" k2 (.int 0 v0), ent w "state" k3 (.str (Str.ofString "number") v1), ent w "back" k4 (.str (Str.ofString "data") v2),
      ent w "out" k5 (.ref lO), ent w "errors" k6 (.ref lR), ent w "draft" k7 .none, ent w "buffer" k8 (.str (Str.ofString "") v3), ent w "code" k9 (.int 0 v4), ent w "last" k10 (.str (Str.ofString "") v5),
      ent w "is_foreign" k11 (.bool false), ent w "is_waiting" k12 (.bool false), ent w "is_done" k13 (.bool false)] 14) ∈ N')
    (m3 : (st, instObj 140 dst) ∈ N') (m4 : (dst, dictOf [ent w "signs" j0 (.ref lS), ent w "is_closed" j1 (.bool false), ent w "is_return" j2 (.bool false), ent w "errors" j3 (.ref lE)] 4) ∈ N')
    (m5 : (lS, listOf #[] cS) ∈ N') (m6 : (lE, listOf #[] cE) ∈ N') (m7 : (lO, listOf #[] cO) ∈ N') (m8 : (lR, listOf #[] cR) ∈ N')
    (o : dt < t ∧ t < dst ∧ dst < st ∧ st < lS ∧ lS < lE ∧ lE < lO ∧ lO < lR) : Q (.ref t) { s with heap := h', toks := tk' } := by
  refine back_led (M' := TS.led w ⟨dt, t, dst, st, lS, lE, lO, lR, sd, tk14 k0 k1 k2 k3 k4 k5 k6 k7 k8 k9 k10 k11 k12 k13, tk14 j0 j1 j2 j3 0 0 0 0 0 0 0 0 0 0, tk14 v0 v1 v2 v3 v4 v5 0 0 0 0 0 0 0 0, [], cS, [], cE, [], cO, [], cR, 0, false, false, false, false⟩) hret F d N R ?_ ⟨_, hlt, rfl, rfl, o, rfl, rfl, rfl, rfl, rfl, rfl, rfl, rfl, rfl, rfl⟩
  exact List.forall_mem_cons.mpr ⟨m1, List.forall_mem_cons.mpr ⟨m2, List.forall_mem_cons.mpr ⟨m3, List.forall_mem_cons.mpr ⟨m4, List.forall_mem_cons.mpr ⟨m5, List.forall_mem_cons.mpr ⟨m6, List.forall_mem_cons.mpr ⟨m7, List.forall_mem_cons.mpr ⟨m8, List.forall_mem_nil _⟩⟩⟩⟩⟩⟩⟩⟩
section
local macro_rules | `(tactic| cell_enter) => `(tactic| (refine' code_defF ?k1 ?k2 ?k3 ?k4 ?r1 ?r2 ?k5 ?kA ?kF ?kK ?k6 ?k7 ?k8 ?k9 ?kB ?_ ?c2 ?c3 ?c4 ?c5; (case r2 => assumption); (case kA => exact rfl); (case kF => exact rfl); (case kK => assumption); (case k1 => k_asm); (case k2 => k_asm); (case k3 => k_asm); (case k4 => assumption); (case r1 => assumption); (case k5 => k_asm); (case k6 => k_is); (case k7 => k_is); (case k8 => ktr_room); (case k9 => first | exact BindsTo.of_eq rfl | exact binds_K (by k_in) rfl (by k_is) rfl rfl rfl); (case c5 => decide); (case kB => exact locs rfl); (case c2 => exact rfl); (case c3 => exact rfl); (case c4 => exact rfl); k_whole; intro g' L' h' RG' FG' F' N' B' X' T'; (try dsimp only); (try k_lift B'); (try k_fold)))
local macro_rules | `(tactic| walk_at "LeaveF") => `(tactic| (k_dflt (refine' leaveF_ ?k1 ?k2 ?_; (case k1 => k_asm); (case k2 => k_asm); k_whole); intro kF kN kR kD; (try dsimp only [InitBack, CmpBack, LenBack, StrBack, BoolBack]); (try refine ⟨rfl, ?_⟩); (try dsimp only)))
local macro_rules | `(tactic| walk_at "callWith") => `(tactic| ((with_reducible refine callWith_method1 ?_ (star_plain _ _ _ ?_) ?_); rotate_left; (focus exact rfl); (focus exact rfl)))
local macro_rules | `(tactic| k_room) => `(tactic| ktr_room)
local macro_rules | `(tactic| k_units) => `(tactic| ktr_units)
theorem t_tok {w mean mg mb} {rest : List (Addr × Obj)} {sd : Addr} {t : Tok} : TellF w mean mg mb 303 4 [] rest [.ref sd, .str (Str.ofString "number") t] (TokNew w sd rest) := by
  intro dp un gd cn cs a ccd cl outer A₀ base h₀ L m s Q E B F X N NR dis T hk hd hu hret
  k_dflt (refine' call_cls ?k1 ?k2 ?k3 ?k4 ?k5 ?k6 ?_; (case k1 => exact F); (case k2 => exact X); (case k3 => exact NR); (case k4 => k_is); (case k5 => k_is); (case k6 => k_is); k_whole)
  intro x dx h' F' N' l1 l2
  clear N
  have N : News h₀ L h' [(x, instObj 303 dx), (dx, dictOf [] 0)] := fun p hp => N' p (by rcases List.mem_cons.mp hp with rfl | hp; exact .head _; rw [List.mem_singleton.mp hp]; exact .tail _ (.head _))
  have NR' : News h₀ L h' rest := fun p hp => N' p (.tail _ (.tail _ hp))
  have dis' : ∀ p ∈ rest, p.1 ∉ [(x, instObj 303 dx), (dx, dictOf [] 0)].map (·.1) := by
    intro p hp hm
    have := l1 p hp
    simp only [List.map_cons, List.map_nil, List.mem_cons, List.not_mem_nil, or_false] at hm
    have l2' : dx < x := l2
    have this' : p.1 < dx := this
    rcases hm with hm | hm <;> (rw [hm] at this'; exact absurd this' (by first | exact Nat.lt_irrefl _ | exact Nat.lt_asymm l2'))
  clear N' NR dis
  have hlt : ∀ p ∈ rest, @LT.lt Nat instLTNat p.1 dx := l1
  k_lt2 l2
  clear l1
  k_dflt cell_enter
  k_steps
  refine ⟨rfl, ?_⟩
  dsimp only
  refine' tok_back hret hlt ?f1 ?f2 ?f3 ?f4 ?m1 ?m2 ?m3 ?m4 ?m5 ?m6 ?m7 ?m8 ?o
  case f1 => assumption
  case f2 => assumption
  case f3 => assumption
  case f4 => assumption
  case m1 => k_mem
  case m2 => k_mem
  case m3 => k_mem
  case m4 => k_mem
  case m5 => k_mem
  case m6 => k_mem
  case m7 => k_mem
  case m8 => k_mem
  case o => omega
end
end Mine
end
section
open PySem PySem.W PyProof.Rows PySem.Calls
local macro_rules | `(tactic| walk_at "no such key") => `(tactic| fail "none")
theorem Mine.fresh10 : True := by
  w_top off
  trivial
namespace Mine
noncomputable def sgn (c : Nat) : Str := ⟨#[c]⟩
structure FS where
  signs : List Nat
  errs : List (Str × Int)
  ret : Bool
noncomputable def fstep (z : FS) (c : Nat) : FS :=
  if c = 13 then ⟨z.signs ++ [10], z.errs, true⟩
  else if c = 10 ∧ z.ret = true then ⟨z.signs, z.errs, false⟩
  else ⟨z.signs ++ [c], if ikind (c : Int) = 0 then z.errs else z.errs ++ [(errOf (ikind (c : Int)), (z.signs.length : Int))], false⟩
noncomputable def feedS (cs : List Nat) : FS := cs.foldl fstep ⟨[], [], false⟩
noncomputable def errD (e : Str × Int) : Dat := .tuple [.str e.1, .int e.2]
noncomputable def TS.adr (z : TS) : List Addr := [z.t, z.dt, z.st, z.dst, z.lS, z.lE, z.lO, z.lR]
/-- z with another stream -/
noncomputable def TS.fed (z : TS) (vS : List Value) (cS : Nat) (vE : List Value) (cE : Nat) (r : Bool) : TS := { z with vS := vS, cS := cS, vE := vE, cE := cE, ret := r }
noncomputable def FedD (w : World) (z : TS) (f : FS) (nx : List (Addr × Obj)) : Prop :=
  ∃ vS cS vE cE tl, nx = (z.fed vS cS vE cE f.ret).led w ++ tl ∧ StrsAre vS (f.signs.map sgn) ∧ DatAll tl vE (f.errs.map errD) ∧ OwnOff tl z.adr
noncomputable def FeedJ (w : World) (z : TS) (cs : List Nat) (i : Nat) (m : Str → Option Value) (nx : List (Addr × Obj)) : Prop :=
  m (Str.ofString "self") = some (.ref z.st) ∧ FedD w z (feedS (cs.take i)) nx
theorem feedS_snoc (cs : List Nat) (c : Nat) : feedS (cs ++ [c]) = fstep (feedS cs) c := by unfold feedS; rw [List.foldl_append]; rfl
theorem fstep_len (z : FS) (c : Nat) : (fstep z c).signs.length ≤ z.signs.length + 1 ∧ (fstep z c).errs.length ≤ z.errs.length + 1 := by
  unfold fstep
  split
  · simp
  split
  · simp
  · split <;> simp
theorem feedS_len (cs : List Nat) : (feedS cs).signs.length ≤ cs.length ∧ (feedS cs).errs.length ≤ cs.length := by
  have all : ∀ (n : Nat) (cs : List Nat), cs.length = n → (feedS cs).signs.length ≤ cs.length ∧ (feedS cs).errs.length ≤ cs.length := by
    intro n
    induction n with
    | zero => intro cs h; rw [List.length_eq_zero_iff.mp h]; simp [feedS]
    | succ n ih =>
      intro cs h
      have hne : cs ≠ [] := by intro e; rw [e] at h; simp at h
      have e := (List.dropLast_concat_getLast hne).symm
      rw [e] at h ⊢
      rw [feedS_snoc]
      have := fstep_len (feedS cs.dropLast) (cs.getLast hne)
      have := ih cs.dropLast (by simpa using h)
      simp only [List.length_append, List.length_cons, List.length_nil]
      omega
  exact all _ cs rfl

section
variable {w : World} {A : Around} {E : Value → Shared → Prop} {s : Shared} {env : Env} {h₀ : Heap} {x : Str} {body : List Stmt} {Q : Flow → Shared → Prop}
theorem one_loop {n : Nat} {Pv : Nat → Value → Prop} {St : Nat → Heap → Prop} {o : Obj} {m₀ : Str → Option Value} {news : List (Addr × Obj)} (J : Nat → (Str → Option Value) → List (Addr × Obj) → Prop)
    (W : Walks P w A s.heap.objs.size [s.heap.objs.size] [s.heap.objs.size] n Pv St) (hob : ∀ i h, St i h → ∃ o, h.get? s.heap.objs.size = some o) (hst : St 0 (s.heap.push o))
    (F : Fr h₀ env.locals s.heap m₀) (N : News h₀ env.locals s.heap news) (hj : J 0 m₀ news)
    (turn : ∀ i v m₁ nx h tk own, i < n → Pv i v → OwnOff own (nx.map (·.1)) → J i m₁ nx → Fr h₀ env.locals h (fun y => if y = x then some v else m₁ y) → News h₀ env.locals h (nx ++ own) →
      wpAny (model P w) A (execs body env) (InvPostG h₀ env.locals (J (i + 1)) own { s with heap := h, toks := tk } Q) E { s with heap := h, toks := tk })
    (done : ∀ m₁ nx h tk, J n m₁ nx → Fr h₀ env.locals h m₁ → News h₀ env.locals h nx → Q .next { s with heap := h, toks := tk }) :
    LoopAtV P w A h₀ env x body Q E (.ref s.heap.objs.size) { s with heap := s.heap.push o } := by
  refine kdr_loop (s := { s with heap := s.heap.push o }) J W (fun a ha => ha) (fun a ha => ha) ?_ ?_ ?_ ?_ hst (F.push _) (fun p hp => ⟨Heap.get?_push_of_some _ (N p hp).1, (N p hp).2⟩) hj turn done
  · intro i h hS b hb
    rw [List.mem_singleton.mp hb]
    exact hob i h hS
  · intro hm
    exact absurd F.ns.lt ((List.mem_singleton.mp hm) ▸ Nat.lt_irrefl _)
  · intro b hb
    rw [List.mem_singleton.mp hb]
    exact next_is_new F
  · intro p hp hI
    exact absurd (Heap.lt_size (N p hp).1) ((List.mem_singleton.mp hI) ▸ Nat.lt_irrefl _)
theorem str_loop {xt : Str} {tx : Tok} {m₀ : Str → Option Value} {news : List (Addr × Obj)} (J : Nat → (Str → Option Value) → List (Addr × Obj) → Prop)
    (hh : A.handled = none) (F : Fr h₀ env.locals s.heap m₀) (N : News h₀ env.locals s.heap news) (hj : J 0 m₀ news)
    (turn : ∀ i c t m₁ nx h tk own, xt.cps[i]? = some c → OwnOff own (nx.map (·.1)) → J i m₁ nx → Fr h₀ env.locals h (fun y => if y = x then some (.str ⟨#[c]⟩ t) else m₁ y) → News h₀ env.locals h (nx ++ own) →
      wpAny (model P w) A (execs body env) (InvPostG h₀ env.locals (J (i + 1)) own { s with heap := h, toks := tk } Q) E { s with heap := h, toks := tk })
    (done : ∀ m₁ nx h tk, J xt.cps.size m₁ nx → Fr h₀ env.locals h m₁ → News h₀ env.locals h nx → Q .next { s with heap := h, toks := tk }) :
    wpAny (model P w) A (pyIter (.str xt tx)) (fun it s₂ => LoopAtV P w A h₀ env x body Q E it s₂) E s := by
  have turn' : ∀ i v m₁ nx h tk own, i < xt.cps.size → SignAt xt i v → OwnOff own (nx.map (·.1)) → J i m₁ nx → Fr h₀ env.locals h (fun y => if y = x then some v else m₁ y) → News h₀ env.locals h (nx ++ own) →
      wpAny (model P w) A (execs body env) (InvPostG h₀ env.locals (J (i + 1)) own { s with heap := h, toks := tk } Q) E { s with heap := h, toks := tk } := by
    rintro i v m₁ nx h tk own hi ⟨c, u, hc, rfl⟩ ho hJ F₁ N₁
    exact turn i c u m₁ nx h tk own hc ho hJ F₁ N₁
  cases ha : xt.cps.all (· < 128)
  · exact wpAny_pyIter_wide ha (one_loop J (Walks.strWide hh _ xt tx) (fun i h ⟨o, ho, _⟩ => ⟨o, ho⟩) ⟨_, Heap.get?_push_size _ rfl, rfl, rfl⟩ F N hj turn' done)
  · exact wpAny_pyIter_ascii ha (one_loop J (Walks.strAscii hh _ xt tx) (fun i h ⟨o, ho, _⟩ => ⟨o, ho⟩) ⟨_, Heap.get?_push_size _ rfl, rfl, rfl⟩ F N hj turn' done)
theorem range_loop {r : Addr} {a₀ b₀ : Int} {t₀ u₀ v₀ : Tok} {n : Nat} {m₀ : Str → Option Value} {news : List (Addr × Obj)} (J : Nat → (Str → Option Value) → List (Addr × Obj) → Prop)
    (hh : A.handled = none) (hr : IsRange s.heap r a₀ b₀ 1 t₀ u₀ v₀) (hsmall : Builtin.Range.small a₀ b₀ 1 = true) (hn : Builtin.Range.rangeSize a₀ b₀ 1 = (n : Int)) (F : Fr h₀ env.locals s.heap m₀) (N : News h₀ env.locals s.heap news) (hj : J 0 m₀ news)
    (turn : ∀ i t m₁ nx h tk own, i < n → OwnOff own (nx.map (·.1)) → J i m₁ nx → Fr h₀ env.locals h (fun y => if y = x then some (.int (a₀ + (i : Int)) t) else m₁ y) → News h₀ env.locals h (nx ++ own) →
      wpAny (model P w) A (execs body env) (InvPostG h₀ env.locals (J (i + 1)) own { s with heap := h, toks := tk } Q) E { s with heap := h, toks := tk })
    (done : ∀ m₁ nx h tk, J n m₁ nx → Fr h₀ env.locals h m₁ → News h₀ env.locals h nx → Q .next { s with heap := h, toks := tk }) :
    wpAny (model P w) A (pyIter (.ref r)) (fun it s₂ => LoopAtV P w A h₀ env x body Q E it s₂) E s := by
  refine wpAny_pyIter_range hr hsmall (one_loop J (Walks.range hh _ a₀ 1 n) (fun i h hs => ⟨_, hs⟩) (by show IsRangeIter _ _ _ _ _; rw [hn]; simpa using Heap.get?_push_size _ rfl) F N hj ?_ done)
  rintro i v m₁ nx h tk own hi ⟨t, rfl⟩ ho hJ F₁ N₁
  have e : a₀ + (i : Int) * 1 = a₀ + (i : Int) := by omega
  rw [e] at F₁
  exact turn i t m₁ nx h tk own hi ho hJ F₁ N₁
end
end Mine
end
section
open PySem PySem.W PyProof.Rows PySem.Calls
theorem Mine.fresh11 : True := by
  w_top off
  trivial
namespace Mine
theorem t_ierrK {w mean mg mb} {news : List (Addr × Obj)} {n : Int} {t : Tok} {f : Str} (e : errOf (ikind n) = f) : Tell w mean mg mb 102 2 news [.int n t] (fun v ns => (∃ t, v = .str f t) ∧ ns = news) := by
  subst e; exact t_ierr
theorem str1_ne {c d : Nat} (h : c ≠ d) : ((⟨#[c]⟩ : Str) == ⟨#[d]⟩) = false := by
  rw [beq_eq_false_iff_ne]
  intro e
  injection e with e
  injection e with e
  injection e with e _
  exact h e
theorem cr_is : Str.ofString "\r" = ⟨#[13]⟩ := by decide +kernel
theorem lf_is : Str.ofString "\n" = ⟨#[10]⟩ := by decide +kernel
theorem not_cr {c : Nat} (h : c ≠ 13) : ((⟨#[c]⟩ : Str) == Str.ofString "\r") = false := by rw [cr_is]; exact str1_ne h
theorem not_lf {c : Nat} (h : c ≠ 10) : ((⟨#[c]⟩ : Str) != Str.ofString "\n") = true := by unfold bne; rw [lf_is, str1_ne h]; rfl
theorem is_ncr10 : ((⟨#[10]⟩ : Str) == Str.ofString "\r") = false := by decide +kernel
theorem fr_self {g : Heap} {L : Addr} {h : Heap} {m₁ : Str → Option Value} {v u : Value} {x y : Str} (F : Fr g L h (fun z => if z = x then some v else m₁ z)) (e : m₁ y = some u) : Fr g L h (fun z => if z = x then some v else if z = y then some u else m₁ z) := by
  have : (fun z => if z = x then some v else m₁ z) = fun z => if z = x then some v else if z = y then some u else m₁ z := by
    funext z
    by_cases h1 : z = x
    · simp [h1]
    · rw [if_neg h1, if_neg h1]
      by_cases h2 : z = y
      · rw [if_pos h2, h2, e]
      · rw [if_neg h2]
  rw [← this]; exact F
theorem is_cr : ((⟨#[13]⟩ : Str) == Str.ofString "\r") = true := by decide +kernel
theorem ikind_cases (n : Int) : ikind n = 0 ∨ ikind n = 3 ∨ ikind n = 4 ∨ ikind n = 5 := by
  unfold ikind
  repeat' split
  all_goals simp
theorem ikind2 (n : Int) : ikind n = 0 ∨ ∃ f, ¬ ikind n = 0 ∧ errOf (ikind n) = f ∧ (f != Str.ofString "") = true := by
  rcases ikind_cases n with h | h | h | h
  · exact .inl h
  all_goals (rw [h]; exact .inr ⟨_, by decide, rfl, by decide +kernel⟩)
theorem strs_snoc {vS : List Value} {ss : List Str} {x y : Str} {t : Tok} (h : StrsAre vS ss) (e : x = y) : StrsAre (vS.toArray.toList.concat (.str x t)) (ss ++ [y]) := by
  subst e
  have e : vS.toArray.toList.concat (Value.str x t) = vS ++ [.str x t] := by simp
  rw [e]
  exact h.append' (.cons _ _ .nil)
theorem data_snoc {l : List (Addr × Obj)} {vE : List Value} {ds : List Dat} {v : Value} {d : Dat} (h : DatAll l vE ds) (e : DatIn l v d) : DatAll l (vE.toArray.toList.concat v) (ds ++ [d]) := by
  have e' : vE.toArray.toList.concat v = vE ++ [v] := by simp
  rw [e']
  exact h.append (.one e)
theorem dmono {a b : List (Addr × Obj)} {vs : List Value} {ds : List Dat} (h : DatAll a vs ds) (hs : ∀ p ∈ a, p ∈ b) : DatAll b vs ds := DatAll.mono hs h
theorem feed_end {w : World} {z : TS} {cs : List Nat} {i : Nat} {own tl add N' : List (Addr × Obj)} {g : Heap} {L : Addr} {s₁ : Shared} {h' : Heap} {tk : Nat} {m' : Str → Option Value} {vS' vE' : List Value} {cS' cE' : Nat} {r' : Bool} (f' : FS)
    (F : Fr g L h' m') (N : News g L h' N') (hself : m' (Str.ofString "self") = some (.ref z.st)) (e : feedS (cs.take (i + 1)) = f')
    (m1 : (z.t, instObj 303 z.dt) ∈ N')
    (m2 : (z.dt, dictOf [ent w "states" (z.kt 0) (.ref z.sd), ent w "stream" (z.kt 1) (.ref z.st), ent w "at" (z.kt 2) (.int z.at_ (z.tv 0)), ent w "state" (z.kt 3) (.str (Str.ofString "number") (z.tv 1)), ent w "back" (z.kt 4) (.str (Str.ofString "data") (z.tv 2)),
      ent w "out" (z.kt 5) (.ref z.lO), ent w "errors" (z.kt 6) (.ref z.lR), ent w "draft" (z.kt 7) .none, ent w "buffer" (z.kt 8) (.str (Str.ofString "") (z.tv 3)), ent w "code" (z.kt 9) (.int 0 (z.tv 4)), ent w "last" (z.kt 10) (.str (Str.ofString "") (z.tv 5)),
      ent w "is_foreign" (z.kt 11) (.bool false), ent w "is_waiting" (z.kt 12) (.bool z.waiting), ent w "is_done" (z.kt 13) (.bool z.done)] 14) ∈ N')
    (m3 : (z.st, instObj 140 z.dst) ∈ N') (m4 : (z.dst, dictOf [ent w "signs" (z.ks 0) (.ref z.lS), ent w "is_closed" (z.ks 1) (.bool z.closed), ent w "is_return" (z.ks 2) (.bool r'), ent w "errors" (z.ks 3) (.ref z.lE)] 4) ∈ N')
    (m5 : (z.lS, listOf vS'.toArray cS') ∈ N') (m6 : (z.lE, listOf vE'.toArray cE') ∈ N') (m7 : (z.lO, listOf z.vO.toArray z.cO) ∈ N') (m8 : (z.lR, listOf z.vR.toArray z.cR) ∈ N')
    (mt : ∀ p ∈ add ++ tl, p ∈ N') (mo : ∀ p ∈ own, p ∈ N') (oz : OwnOff own z.adr) (oa : OwnOff own (add.map (·.1))) (ot : OwnOff own (tl.map (·.1))) (ta : OwnOff (add ++ tl) z.adr)
    (hr : r' = f'.ret) (hS : StrsAre vS' (f'.signs.map sgn)) (hE : DatAll (add ++ tl) vE' (f'.errs.map errD)) :
    InvEndG g L (FeedJ w z cs (i + 1)) own s₁ { s₁ with heap := h', toks := tk } := by
  subst hr
  refine ⟨h', tk, m', N', (z.fed vS' cS' vE' cE' f'.ret).led w ++ (add ++ tl), rfl, F, N, ?_, mo, ?_, hself, by rw [e]; exact ⟨vS', cS', vE', cE', add ++ tl, rfl, hS, hE, ta⟩⟩
  · refine List.forall_mem_append.mpr ⟨?_, mt⟩
    exact List.forall_mem_cons.mpr ⟨m1, List.forall_mem_cons.mpr ⟨m2, List.forall_mem_cons.mpr ⟨m3, List.forall_mem_cons.mpr ⟨m4, List.forall_mem_cons.mpr ⟨m5, List.forall_mem_cons.mpr ⟨m6, List.forall_mem_cons.mpr ⟨m7, List.forall_mem_cons.mpr ⟨m8, List.forall_mem_nil _⟩⟩⟩⟩⟩⟩⟩⟩
  · intro p hp b hb
    rw [List.map_append, List.map_append] at hb
    rcases List.mem_append.mp hb with hb | hb
    · exact oz p hp b hb
    · rcases List.mem_append.mp hb with hb | hb
      · exact oa p hp b hb
      · exact ot p hp b hb
theorem off_1 {own : List (Addr × Obj)} {t dt st dst lS lE lO lR : Addr} {l : List Addr} (h : OwnOff own (t :: dt :: st :: dst :: lS :: lE :: lO :: lR :: l)) : OwnOff own [t, dt, st, dst, lS, lE, lO, lR] :=
  fun p hp b hb => h p hp b (by simp only [List.mem_cons, List.not_mem_nil, or_false] at hb ⊢; rcases hb with h | h | h | h | h | h | h | h <;> simp [h])
theorem off_2 {own : List (Addr × Obj)} {t dt st dst lS lE lO lR : Addr} {l : List Addr} (h : OwnOff own (t :: dt :: st :: dst :: lS :: lE :: lO :: lR :: l)) : OwnOff own l :=
  fun p hp b hb => h p hp b (by simp [hb])
theorem off_new {t dt st dst lS lE lO lR D : Nat} {o : Obj} {tl own : List (Addr × Obj)} (h : t < D ∧ dt < D ∧ st < D ∧ dst < D ∧ lS < D ∧ lE < D ∧ lO < D ∧ lR < D ∧ AllLt D (tl ++ own)) (htl : OwnOff tl [t, dt, st, dst, lS, lE, lO, lR]) : OwnOff ([(D, o)] ++ tl) [t, dt, st, dst, lS, lE, lO, lR] ∧ OwnOff own ([((D, o) : Addr × Obj)].map (·.1)) := by
  obtain ⟨h1, h2, h3, h4, h5, h6, h7, h8, h9⟩ := h
  refine ⟨fun p hp b hb => ?_, fun p hp b hb => ?_⟩
  · rcases List.mem_append.mp hp with hp | hp
    · rw [List.mem_singleton.mp hp]
      simp only [List.mem_cons, List.not_mem_nil, or_false] at hb
      rcases hb with rfl | rfl | rfl | rfl | rfl | rfl | rfl | rfl <;> exact Nat.ne_of_gt (by assumption)
    · exact htl p hp b hb
  · rw [List.mem_singleton.mp hb]
    exact Nat.ne_of_lt (kst_ltOf h9 p (List.mem_append_right _ hp))
theorem off_nil {own : List (Addr × Obj)} : OwnOff own [] := fun _ _ _ h => nomatch h
section
local macro_rules | `(tactic| cell_enter) => `(tactic| (refine' code_defF ?k1 ?k2 ?k3 ?k4 ?r1 ?r2 ?k5 ?kA ?kF ?kK ?k6 ?k7 ?k8 ?k9 ?kB ?_ ?c2 ?c3 ?c4 ?c5; (case r2 => assumption); (case kA => exact rfl); (case kF => exact rfl); (case kK => assumption); (case k1 => k_asm); (case k2 => k_asm); (case k3 => k_asm); (case k4 => assumption); (case r1 => assumption); (case k5 => k_asm); (case k6 => k_is); (case k7 => k_is); (case k8 => ktr_room); (case k9 => first | exact BindsTo.of_eq rfl | exact binds_K (by k_in) rfl (by k_is) rfl rfl rfl); (case c5 => decide); (case kB => exact locs rfl); (case c2 => exact rfl); (case c3 => exact rfl); (case c4 => exact rfl); k_whole; intro g' L' h' RG' FG' F' N' B' X' T'; (try dsimp only); (try k_lift B'); (try k_fold)))
local macro_rules | `(tactic| walk_at "LeaveF") => `(tactic| (k_dflt (refine' leaveF_ ?k1 ?k2 ?_; (case k1 => k_asm); (case k2 => k_asm); k_whole); intro kF kN kR kD; (try dsimp only [InitBack, CmpBack, LenBack, StrBack, BoolBack]); (try refine ⟨rfl, ?_⟩); (try dsimp only)))
local macro_rules | `(tactic| walk_at "callWith") => `(tactic| ((with_reducible refine callWith_method1 ?_ (star_plain _ _ _ ?_) ?_); rotate_left; (focus exact rfl); (focus exact rfl)))
local macro_rules | `(tactic| k_room) => `(tactic| ktr_room)
local macro_rules | `(tactic| k_units) => `(tactic| ktr_units)
local macro_rules | `(tactic| walk_at "call ref") => `(tactic| (k_here; (with_reducible show wpAny _ _ (call (Value.ref _) [Value.int _ _]) _ _ _); k_dflt (first
  | (refine' (t_ierrK ?he).use ?k1 ?k2 ?k3 ?k4 ?k5 ?k6 ?k7 ?k8 ?_; (case he => assumption); (case k1 => k_asm); (case k2 => k_asm); (case k3 => k_asm); (case k4 => k_asm); (case k5 => k_asm); (case k6 => first | exact rfl | assumption); (case k7 => ktr_room); (case k8 => ktr_units); intro v9 n9 h9 tk9 F9 N9 P9; obtain ⟨⟨t9, e9⟩, d9⟩ := P9; subst e9; subst d9; (try dsimp only [errOf])))))

local macro_rules | `(tactic| k_all) => `(tactic| first | exact allLt_ne (by assumption) | exact allLt_ne (And.right (by assumption)) | exact OwnOff.ne (by assumption) (by k_mem))
local macro_rules | `(tactic| k_all) => `(tactic| (refine List.forall_mem_append.mpr ⟨?_, ?_⟩; (focus k_all); (focus k_all)))
local macro_rules | `(tactic| walk_at "ite") => `(tactic| (k_here; first | refine ite_pos (by assumption) ?_ | refine ite_neg (Bool.eq_false_iff.mp (by assumption)) ?_))
local macro_rules | `(tactic| k_upd) => `(tactic| (refine' Upd.app ?a ?b; (case a => k_all); (case b => k_upd)))
local macro_rules | `(tactic| walk_at "exec For Name Name cons nil") => `(tactic| (k_here; (rename Fr _ _ _ _ => lF'); (with_unfolding_all refine' For_invVF lF' ?k1 ?k2 ?_; (case k1 => exact rfl); (case k2 => exact rfl); k_whole)))
local macro_rules | `(tactic| walk_at "call builtin:len") => `(tactic| (k_here; k_dflt (refine' kst_len ?k1 ?k2 ?k3 ?k4 ?_; (case k1 => k_asm); (case k2 => k_mem); (case k3 => assumption); (case k4 => omega))))
local macro_rules | `(tactic| walk_at "pyIter str") => `(tactic| (refine stop_here ?_))
theorem t_feed {w mean mg mb} {rest : List (Addr × Obj)} {z : TS} {x : Str} {tx : Tok} (ho : z.ord) (h1 : z.vS = []) (h2 : z.vE = []) (h3 : z.ret = false) (h4 : z.closed = false) (h5 : z.waiting = false) (hl : x.cps.size ≤ 1000) : TellF w mean mg mb 166 4 (z.led w) rest [.ref z.t, .str x tx] (fun v M' => v = .none ∧ FedD w z (feedS x.cps.toList) M') := by
  obtain ⟨dt, t, dst, st, lS, lE, lO, lR, sd, kt, ks, tv, vS, cS, vE, cE, vO, cO, vR, cR, at_, closed, ret, waiting, done⟩ := z
  dsimp only at h1 h2 h3 h4 h5
  subst h1 h2 h3 h4 h5
  unfold TS.ord at ho
  unfold TS.led
  dsimp only at ho ⊢
  intro dp un gd cn cs a ccd cl outer A₀ base h₀ L m s Q E B F X N NR dis T hk hd hu hret
  refine wpAny_call ?_
  k_dflt cell_enter
  k_steps
  refine stop_off ?_
  rename Fr _ _ _ _ => lF
  rename News _ _ _ _ => lN
  refine str_loop (FeedJ w ⟨dt, t, dst, st, lS, lE, lO, lR, sd, kt, ks, tv, [], cS, [], cE, vO, cO, vR, cR, at_, false, false, false, done⟩ x.cps.toList) rfl lF lN ?_ ?_ ?_
  · exact ⟨rfl, _, _, _, _, [], rfl, .nil, .nil, fun _ h => nomatch h⟩
  · clear lF lN
    rintro i c t' m₁ nx h tk own hc hoff ⟨hself, vS, cS', vE, cE', tl, rfl, hS, hE, htl⟩ F₁ N₁
    have F₁ := fr_self F₁ hself
    have hi : i < 1000 := by
      have := (Array.getElem?_eq_some_iff.mp hc).1
      omega
    have hfl := feedS_len (x.cps.toList.take i)
    generalize hf : feedS (x.cps.toList.take i) = f at hS hE hfl N₁ hoff
    obtain ⟨fs, fe, fr⟩ := f
    dsimp only at hS hE hfl
    have hl1 : vS.length = fs.length := by rw [hS.length]; simp
    have hl2 : vE.length = fe.length := by rw [hE.length]; simp
    rw [List.length_take] at hfl
    have hz1 : vS.length ≤ 1000 := by omega
    have hz2 : vE.length ≤ 1000 := by omega
    unfold TS.adr at htl
    dsimp only at htl
    simp only [TS.led, TS.fed, List.cons_append, List.nil_append, List.append_assoc, List.map_append, List.map_cons, List.map_nil] at N₁ hoff
    have htake : x.cps.toList.take (i + 1) = x.cps.toList.take i ++ [c] := by
      have : x.cps.toList[i]? = some c := by rw [Array.getElem?_toList]; exact hc
      rw [List.take_add_one, this]; rfl
    by_cases e13 : c = 13
    · subst e13
      (try k_fold)
      k_steps
      refine' feed_end (add := []) ⟨fs ++ [10], fe, true⟩ ?f ?n ?hs ?e ?m1 ?m2 ?m3 ?m4 ?m5 ?m6 ?m7 ?m8 ?mt ?mo ?oz ?oa ?ot ?ta ?hr ?hS ?hE
      case f => assumption
      case n => assumption
      case hs => rfl
      case e => rw [htake, feedS_snoc, hf]; rfl
      case m1 => k_mem
      case m2 => k_mem
      case m3 => k_mem
      case m4 => k_mem
      case m5 => k_mem
      case m6 => k_mem
      case m7 => k_mem
      case m8 => k_mem
      case mt => intro p hp; (repeat' (first | exact List.mem_append_left _ hp | refine List.Mem.tail _ ?_))
      case mo => intro p hp; (repeat' (first | exact List.mem_append_right _ hp | refine List.Mem.tail _ ?_))
      case oz => exact off_1 hoff
      case oa => exact off_nil
      case ot => exact off_2 hoff
      case ta => exact htl
      case hr => exact is_cr
      case hS => rw [List.map_append]; exact strs_snoc hS lf_is
      case hE => exact hE
    by_cases e10 : c = 10
    · subst e10
      cases fr
      · have hik : errOf (ikind ((10 : Nat) : Int)) = Str.ofString "" := by decide +kernel
        (try k_fold)
        k_steps
        refine' feed_end (add := []) ⟨fs ++ [10], fe, false⟩ ?f ?n ?hs ?e ?m1 ?m2 ?m3 ?m4 ?m5 ?m6 ?m7 ?m8 ?mt ?mo ?oz ?oa ?ot ?ta ?hr ?hS ?hE
        case f => assumption
        case n => assumption
        case hs => rfl
        case e => rw [htake, feedS_snoc, hf]; first | rfl | exact he
        case m1 => k_mem
        case m2 => k_mem
        case m3 => k_mem
        case m4 => k_mem
        case m5 => k_mem
        case m6 => k_mem
        case m7 => k_mem
        case m8 => k_mem
        case mt => intro p hp; (repeat' (first | exact List.mem_append_left _ hp | refine List.Mem.tail _ ?_))
        case mo => intro p hp; (repeat' (first | exact List.mem_append_right _ hp | refine List.Mem.tail _ ?_))
        case oz => exact off_1 hoff
        case oa => exact off_nil
        case ot => exact off_2 hoff
        case ta => exact htl
        case hr => exact is_ncr10
        case hS => rw [List.map_append]; exact strs_snoc hS rfl
        case hE => exact hE
      · (try k_fold)
        k_steps
        refine' feed_end (add := []) ⟨fs, fe, false⟩ ?f ?n ?hs ?e ?m1 ?m2 ?m3 ?m4 ?m5 ?m6 ?m7 ?m8 ?mt ?mo ?oz ?oa ?ot ?ta ?hr ?hS ?hE
        case f => assumption
        case n => assumption
        case hs => rfl
        case e => rw [htake, feedS_snoc, hf]; first | rfl | exact he
        case m1 => k_mem
        case m2 => k_mem
        case m3 => k_mem
        case m4 => k_mem
        case m5 => k_mem
        case m6 => k_mem
        case m7 => k_mem
        case m8 => k_mem
        case mt => intro p hp; (repeat' (first | exact List.mem_append_left _ hp | refine List.Mem.tail _ ?_))
        case mo => intro p hp; (repeat' (first | exact List.mem_append_right _ hp | refine List.Mem.tail _ ?_))
        case oz => exact off_1 hoff
        case oa => exact off_nil
        case ot => exact off_2 hoff
        case ta => exact htl
        case hr => exact is_ncr10
        case hS => exact hS
        case hE => exact hE
    have n13 := not_cr e13
    have n10 := not_lf e10
    have he : fstep ⟨fs, fe, fr⟩ c = ⟨fs ++ [c], if ikind (c : Int) = 0 then fe else fe ++ [(errOf (ikind (c : Int)), (fs.length : Int))], false⟩ := by
      unfold fstep
      rw [if_neg e13, if_neg (fun h => e10 h.1)]
    have kMk := kstMark
    rcases ikind2 (c : Int) with hik | ⟨fw, hik, hfw, hfn⟩
    · rw [if_pos hik] at he
      have hfw : errOf (ikind (c : Int)) = Str.ofString "" := by rw [hik]; rfl
      (try k_fold)
      k_steps
      refine' feed_end (add := []) ⟨fs ++ [c], fe, false⟩ ?f ?n ?hs ?e ?m1 ?m2 ?m3 ?m4 ?m5 ?m6 ?m7 ?m8 ?mt ?mo ?oz ?oa ?ot ?ta ?hr ?hS ?hE
      case f => assumption
      case n => assumption
      case hs => rfl
      case e => rw [htake, feedS_snoc, hf]; first | rfl | exact he
      case m1 => k_mem
      case m2 => k_mem
      case m3 => k_mem
      case m4 => k_mem
      case m5 => k_mem
      case m6 => k_mem
      case m7 => k_mem
      case m8 => k_mem
      case mt => intro p hp; (repeat' (first | exact List.mem_append_left _ hp | refine List.Mem.tail _ ?_))
      case mo => intro p hp; (repeat' (first | exact List.mem_append_right _ hp | refine List.Mem.tail _ ?_))
      case oz => exact off_1 hoff
      case oa => exact off_nil
      case ot => exact off_2 hoff
      case ta => exact htl
      case hr => exact n13
      case hS => rw [List.map_append]; exact strs_snoc hS rfl
      case hE => exact hE
    · rw [if_neg hik, hfw] at he
      (try k_fold)
      k_steps
      refine' feed_end (add := [(_, ({ cls := .type "tuple", data := .seq #[_, _] } : Obj))]) ⟨fs ++ [c], fe ++ [(fw, (fs.length : Int))], false⟩ ?f ?n ?hs ?e ?m1 ?m2 ?m3 ?m4 ?m5 ?m6 ?m7 ?m8 ?mt ?mo ?oz ?oa ?ot ?ta ?hr ?hS ?hE
      case f => assumption
      case n => assumption
      case mt => refine' List.forall_mem_cons.mpr ⟨?_, ?_⟩; (focus k_mem); (intro p hp; (repeat' (first | exact List.mem_append_left _ hp | refine List.Mem.tail _ ?_)))
      case hs => rfl
      case e => rw [htake, feedS_snoc, hf]; first | rfl | exact he
      case m1 => k_mem
      case m2 => k_mem
      case m3 => k_mem
      case m4 => k_mem
      case m5 => k_mem
      case m6 => k_mem
      case m7 => k_mem
      case m8 => k_mem
      case mo => intro p hp; (repeat' (first | exact List.mem_append_right _ hp | refine List.Mem.tail _ ?_))
      case oz => exact off_1 hoff
      case oa => exact (off_new (by assumption) htl).2
      case ot => exact off_2 hoff
      case ta => exact (off_new (by assumption) htl).1
      case hr => exact n13
      case hS => rw [List.map_append]; exact strs_snoc hS rfl
      case hE => rw [List.map_append]; exact data_snoc (dmono hE (fun p hp => List.Mem.tail _ hp)) (DatIn.tuple (List.Mem.head _) (.cons (.str _ _) (.cons (.int _ _) .nil)))
  · clear lF lN
    rintro m₁ nx h tk ⟨-, vS, cS', vE, cE', tl, rfl, hS, hE, htl⟩ F₁ N₁
    have hwhole : x.cps.toList.take x.cps.size = x.cps.toList := by rw [← Array.length_toList, List.take_length]
    rw [hwhole] at hS hE N₁
    generalize hf : feedS x.cps.toList = f at hS hE N₁ hret
    obtain ⟨fs, fe, fr⟩ := f
    dsimp only at hS hE
    unfold TS.adr at htl
    dsimp only at htl
    simp only [TS.led, TS.fed, List.cons_append, List.nil_append, List.append_assoc, List.map_append, List.map_cons, List.map_nil] at N₁
    k_steps
    refine' back_led (M' := (TS.fed ⟨dt, t, dst, st, lS, lE, lO, lR, sd, kt, ks, tv, [], cS, [], cE, vO, cO, vR, cR, at_, false, false, false, done⟩ vS cS' vE cE' fr).led w ++ tl) hret ?f1 ?f2 ?f3 ?f4 ?f5 ⟨rfl, vS, cS', vE, cE', tl, rfl, hS, hE, htl⟩
    case f1 => assumption
    case f2 => assumption
    case f3 => assumption
    case f4 => assumption
    case f5 =>
      intro p hp
      exact hp
end
end Mine
end
section
open PySem PySem.W PyProof.Rows PySem.Calls
local macro_rules | `(tactic| walk_at "no such key") => `(tactic| fail "none")
theorem Mine.fresh12 : True := by
  w_top off
  trivial
namespace Mine
abbrev stK (v : Value) : List (Str × Value) := [(Str.ofString "number", v)]
section
local macro_rules | `(tactic| cell_enter) => `(tactic| (refine' code_defF ?k1 ?k2 ?k3 ?k4 ?r1 ?r2 ?k5 ?kA ?kF ?kK ?k6 ?k7 ?k8 ?k9 ?kB ?_ ?c2 ?c3 ?c4 ?c5; (case r2 => assumption); (case kA => exact rfl); (case kF => exact rfl); (case kK => assumption); (case k1 => k_asm); (case k2 => k_asm); (case k3 => k_asm); (case k4 => assumption); (case r1 => assumption); (case k5 => k_asm); (case k6 => k_is); (case k7 => k_is); (case k8 => ktr_room); (case k9 => first | exact BindsTo.of_eq rfl | exact binds_K (by k_in) rfl (by k_is) rfl rfl rfl); (case c5 => decide); (case kB => exact locs rfl); (case c2 => exact rfl); (case c3 => exact rfl); (case c4 => exact rfl); k_whole; intro g' L' h' RG' FG' F' N' B' X' T'; (try dsimp only); (try k_lift B'); (try k_fold)))
local macro_rules | `(tactic| walk_at "LeaveF") => `(tactic| (k_dflt (refine' leaveF_ ?k1 ?k2 ?_; (case k1 => k_asm); (case k2 => k_asm); k_whole); intro kF kN kR kD; (try dsimp only [InitBack, CmpBack, LenBack, StrBack, BoolBack]); (try refine ⟨rfl, ?_⟩); (try dsimp only)))
local macro_rules | `(tactic| walk_at "callWith") => `(tactic| ((with_reducible refine callWith_method1 ?_ (star_plain _ _ _ ?_) ?_); rotate_left; (focus exact rfl); (focus exact rfl)))
local macro_rules | `(tactic| k_room) => `(tactic| ktr_room)
local macro_rules | `(tactic| k_units) => `(tactic| ktr_units)

theorem t_ready_done {w mean mg mb} {rest : List (Addr × Obj)} {z : TS} {oD : Obj} (h1 : z.done = true) : TellF w mean mg mb 293 4 (z.led w ++ [(z.sd, oD)]) rest [.ref z.t] (fun v M' => v = .bool false ∧ M' = z.led w ++ [(z.sd, oD)]) := by
  obtain ⟨dt, t, dst, st, lS, lE, lO, lR, sd, kt, ks, tv, vS, cS, vE, cE, vO, cO, vR, cR, at_, closed, ret, waiting, done⟩ := z
  dsimp only at h1
  subst h1
  unfold TS.led
  dsimp only [List.cons_append, List.nil_append]
  intro dp un gd cn cs a ccd cl outer A₀ base h₀ L m s Q E B F X N NR dis T hk hd hu hret
  refine wpAny_call ?_
  k_dflt cell_enter
  k_steps
  all_goals (refine back_led hret (by assumption) (by assumption) (by assumption) (by assumption) (fun _ h => h) ⟨rfl, rfl⟩)
theorem t_ready_go {w mean mg mb} {rest : List (Addr × Obj)} {z : TS} {oD : Obj} (h1 : z.done = false) (h2 : z.waiting = false) (h3 : z.closed = true) (lo : (z.sd == sysModules) = false) (hD : oD.IsDictOf (strKind P w) (stK (.ref 342))) : TellF w mean mg mb 293 4 (z.led w ++ [(z.sd, oD)]) rest [.ref z.t] (fun v M' => v = .bool true ∧ M' = z.led w ++ [(z.sd, oD)]) := by
  obtain ⟨dt, t, dst, st, lS, lE, lO, lR, sd, kt, ks, tv, vS, cS, vE, cE, vO, cO, vR, cR, at_, closed, ret, waiting, done⟩ := z
  dsimp only at h1 h2 h3 lo
  subst h1 h2 h3
  unfold TS.led
  unfold stK at hD
  dsimp only [List.cons_append, List.nil_append]
  intro dp un gd cn cs a ccd cl outer A₀ base h₀ L m s Q E B F X N NR dis T hk hd hu hret
  refine wpAny_call ?_
  k_dflt cell_enter
  k_steps
  all_goals (refine back_led hret (by assumption) (by assumption) (by assumption) (by assumption) (fun _ h => h) ⟨rfl, rfl⟩)
theorem t_ready_no {w mean mg mb} {rest : List (Addr × Obj)} {z : TS} {oD : Obj} (h1 : z.done = false) (h2 : z.waiting = false) (h3 : z.closed = true) (lo : (z.sd == sysModules) = false) (hD : oD.IsDictOf (strKind P w) []) : TellF w mean mg mb 293 4 (z.led w ++ [(z.sd, oD)]) rest [.ref z.t] (fun v M' => v = .bool false ∧ M' = z.led w ++ [(z.sd, oD)]) := by
  obtain ⟨dt, t, dst, st, lS, lE, lO, lR, sd, kt, ks, tv, vS, cS, vE, cE, vO, cO, vR, cR, at_, closed, ret, waiting, done⟩ := z
  dsimp only at h1 h2 h3 lo
  subst h1 h2 h3
  unfold TS.led
  dsimp only [List.cons_append, List.nil_append]
  intro dp un gd cn cs a ccd cl outer A₀ base h₀ L m s Q E B F X N NR dis T hk hd hu hret
  refine wpAny_call ?_
  k_dflt cell_enter
  k_steps
  all_goals (refine back_led hret (by assumption) (by assumption) (by assumption) (by assumption) (fun _ h => h) ⟨rfl, rfl⟩)
end
end Mine
end
section
open PySem PySem.W PyProof.Rows PySem.Calls
theorem Mine.fresh13 : True := by
  w_top off
  trivial
namespace Mine
noncomputable def tvset (tv : Nat → Tok) (t : Tok) : Nat → Tok
  | 0 => t
  | n + 1 => tv (n + 1)
noncomputable def TS.stepped (z : TS) (vO : List Value) (cO : Nat) (vR : List Value) (cR : Nat) (a : Int) (t0 : Tok) (dn : Bool) : TS := { z with vO := vO, cO := cO, vR := vR, cR := cR, at_ := a, tv := tvset z.tv t0, done := dn }
theorem led_stepped {w : World} {z : TS} {N' : List (Addr × Obj)} {vO' vR' : List Value} {cO' cR' : Nat} {a' : Int} {t0 : Tok} {dn : Bool}
    (m1 : (z.t, instObj 303 z.dt) ∈ N')
    (m2 : (z.dt, dictOf [ent w "states" (z.kt 0) (.ref z.sd), ent w "stream" (z.kt 1) (.ref z.st), ent w "at" (z.kt 2) (.int a' t0), ent w "state" (z.kt 3) (.str (Str.ofString "number") (z.tv 1)), ent w "back" (z.kt 4) (.str (Str.ofString "data") (z.tv 2)),
      ent w "out" (z.kt 5) (.ref z.lO), ent w "errors" (z.kt 6) (.ref z.lR), ent w "draft" (z.kt 7) .none, ent w "buffer" (z.kt 8) (.str (Str.ofString "") (z.tv 3)), ent w "code" (z.kt 9) (.int 0 (z.tv 4)), ent w "last" (z.kt 10) (.str (Str.ofString "") (z.tv 5)),
      ent w "is_foreign" (z.kt 11) (.bool false), ent w "is_waiting" (z.kt 12) (.bool z.waiting), ent w "is_done" (z.kt 13) (.bool dn)] 14) ∈ N')
    (m3 : (z.st, instObj 140 z.dst) ∈ N') (m4 : (z.dst, dictOf [ent w "signs" (z.ks 0) (.ref z.lS), ent w "is_closed" (z.ks 1) (.bool z.closed), ent w "is_return" (z.ks 2) (.bool z.ret), ent w "errors" (z.ks 3) (.ref z.lE)] 4) ∈ N')
    (m5 : (z.lS, listOf z.vS.toArray z.cS) ∈ N') (m6 : (z.lE, listOf z.vE.toArray z.cE) ∈ N') (m7 : (z.lO, listOf vO'.toArray cO') ∈ N') (m8 : (z.lR, listOf vR'.toArray cR') ∈ N') :
    ∀ p ∈ (z.stepped vO' cO' vR' cR' a' t0 dn).led w, p ∈ N' :=
  List.forall_mem_cons.mpr ⟨m1, List.forall_mem_cons.mpr ⟨m2, List.forall_mem_cons.mpr ⟨m3, List.forall_mem_cons.mpr ⟨m4, List.forall_mem_cons.mpr ⟨m5, List.forall_mem_cons.mpr ⟨m6, List.forall_mem_cons.mpr ⟨m7, List.forall_mem_cons.mpr ⟨m8, List.forall_mem_nil _⟩⟩⟩⟩⟩⟩⟩⟩
noncomputable def charO (r : Nat) (t1 t2 : Tok) : Obj := { cls := .type "tuple", data := .seq #[.str (Str.ofString "char") t1, .str ⟨#[r]⟩ t2] }
noncomputable def EmD (w : World) (z : TS) (r : Nat) (nx : List (Addr × Obj)) : Prop :=
  ∃ D t1 t2 cO', nx = (z.stepped (z.vO ++ [.ref D]) cO' z.vR z.cR z.at_ (z.tv 0) z.done).led w ++ [(D, charO r t1 t2)] ∧ ∀ b ∈ z.adr, b < D
noncomputable def EmJ (w : World) (z : TS) (r : Nat) (i : Nat) (m : Str → Option Value) (nx : List (Addr × Obj)) : Prop :=
  m (Str.ofString "self") = some (.ref z.t) ∧ ((i = 0 ∧ nx = z.led w) ∨ (i = 1 ∧ EmD w z r nx))
theorem em_end {w : World} {z : TS} {r : Nat} {own N' : List (Addr × Obj)} {g : Heap} {L : Addr} {s₁ : Shared} {h' : Heap} {tk : Nat} {m' : Str → Option Value} {vO' : List Value} {cO' D : Nat} {t1 t2 : Tok}
    (F : Fr g L h' m') (N : News g L h' N') (hself : m' (Str.ofString "self") = some (.ref z.t))
    (hv : vO' = z.vO ++ [.ref D])
    (ml : ∀ p ∈ (z.stepped vO' cO' z.vR z.cR z.at_ (z.tv 0) z.done).led w, p ∈ N') (mD : (D, charO r t1 t2) ∈ N') (mo : ∀ p ∈ own, p ∈ N') (oz : OwnOff own z.adr) (oD : ∀ p ∈ own, p.1 < D) (hD : ∀ b ∈ z.adr, b < D) :
    InvEndG g L (EmJ w z r 1) own s₁ { s₁ with heap := h', toks := tk } := by
  subst hv
  refine ⟨h', tk, m', N', _, rfl, F, N, ?_, mo, ?_, hself, .inr ⟨rfl, D, t1, t2, cO', rfl, hD⟩⟩
  · exact List.forall_mem_append.mpr ⟨ml, fun p hp => List.mem_singleton.mp hp ▸ mD⟩
  · intro p hp b hb
    rw [List.map_append] at hb
    rcases List.mem_append.mp hb with hb | hb
    · exact oz p hp b hb
    · rw [List.mem_singleton.mp hb]
      exact Nat.ne_of_lt (oD p hp)
theorem adr_lt {t dt st dst lS lE lO lR D : Nat} {P : Prop} (h : t < D ∧ dt < D ∧ st < D ∧ dst < D ∧ lS < D ∧ lE < D ∧ lO < D ∧ lR < D ∧ P) : ∀ b ∈ [t, dt, st, dst, lS, lE, lO, lR], b < D := by
  intro b hb
  simp only [List.mem_cons, List.not_mem_nil, or_false] at hb
  obtain ⟨h1, h2, h3, h4, h5, h6, h7, h8, -⟩ := h
  rcases hb with rfl | rfl | rfl | rfl | rfl | rfl | rfl | rfl <;> assumption
theorem off_own {t dt st dst lS lE lO lR D : Nat} {own : List (Addr × Obj)} (h : t < D ∧ dt < D ∧ st < D ∧ dst < D ∧ lS < D ∧ lE < D ∧ lO < D ∧ lR < D ∧ AllLt D own) : ∀ p ∈ own, p.1 < D := kst_ltOf h.2.2.2.2.2.2.2.2
section
local macro_rules | `(tactic| cell_enter) => `(tactic| (refine' code_defF ?k1 ?k2 ?k3 ?k4 ?r1 ?r2 ?k5 ?kA ?kF ?kK ?k6 ?k7 ?k8 ?k9 ?kB ?_ ?c2 ?c3 ?c4 ?c5; (case r2 => assumption); (case kA => exact rfl); (case kF => exact rfl); (case kK => assumption); (case k1 => k_asm); (case k2 => k_asm); (case k3 => k_asm); (case k4 => assumption); (case r1 => assumption); (case k5 => k_asm); (case k6 => k_is); (case k7 => k_is); (case k8 => ktr_room); (case k9 => first | exact BindsTo.of_eq rfl | exact binds_K (by k_in) rfl (by k_is) rfl rfl rfl); (case c5 => decide); (case kB => exact locs rfl); (case c2 => exact rfl); (case c3 => exact rfl); (case c4 => exact rfl); k_whole; intro g' L' h' RG' FG' F' N' B' X' T'; (try dsimp only); (try k_lift B'); (try k_fold)))
local macro_rules | `(tactic| walk_at "LeaveF") => `(tactic| (k_dflt (refine' leaveF_ ?k1 ?k2 ?_; (case k1 => k_asm); (case k2 => k_asm); k_whole); intro kF kN kR kD; (try dsimp only [InitBack, CmpBack, LenBack, StrBack, BoolBack]); (try refine ⟨rfl, ?_⟩); (try dsimp only)))
local macro_rules | `(tactic| walk_at "callWith") => `(tactic| ((with_reducible refine callWith_method1 ?_ (star_plain _ _ _ ?_) ?_); rotate_left; (focus exact rfl); (focus exact rfl)))
local macro_rules | `(tactic| k_room) => `(tactic| ktr_room)
local macro_rules | `(tactic| k_units) => `(tactic| ktr_units)

local macro_rules | `(tactic| k_all) => `(tactic| first | exact allLt_ne (by assumption) | exact allLt_ne (And.right (by assumption)) | exact OwnOff.ne (by assumption) (by k_mem))
local macro_rules | `(tactic| k_all) => `(tactic| (refine List.forall_mem_append.mpr ⟨?_, ?_⟩; (focus k_all); (focus k_all)))
local macro_rules | `(tactic| k_upd) => `(tactic| (refine' Upd.app ?a ?b; (case a => k_all); (case b => k_upd)))
local macro_rules | `(tactic| walk_at "exec For Name Name cons nil") => `(tactic| (k_here; (rename Fr _ _ _ _ => lF'); (with_unfolding_all refine' For_invVF lF' ?k1 ?k2 ?_; (case k1 => exact rfl); (case k2 => exact rfl); k_whole)))
local macro_rules | `(tactic| walk_at "pyIter str") => `(tactic| (refine stop_here ?_))
theorem t_emit {w mean mg mb} {rest : List (Addr × Obj)} {z : TS} {r : Nat} {tx : Tok} (ho : z.ord) (hl : z.vO.length ≤ 1000) : TellF w mean mg mb 222 1 (z.led w) rest [.ref z.t, .str ⟨#[r]⟩ tx] (fun v M' => v = .none ∧ EmD w z r M') := by
  obtain ⟨dt, t, dst, st, lS, lE, lO, lR, sd, kt, ks, tv, vS, cS, vE, cE, vO, cO, vR, cR, at_, closed, ret, waiting, done⟩ := z
  dsimp only at hl
  unfold TS.ord at ho
  unfold TS.led
  dsimp only at ho ⊢
  intro dp un gd cn cs a ccd cl outer A₀ base h₀ L m s Q E B F X N NR dis T hk hd hu hret
  refine wpAny_call ?_
  k_dflt cell_enter
  k_steps
  refine stop_off ?_
  rename Fr _ _ _ _ => lF
  rename News _ _ _ _ => lN
  refine str_loop (EmJ w ⟨dt, t, dst, st, lS, lE, lO, lR, sd, kt, ks, tv, vS, cS, vE, cE, vO, cO, vR, cR, at_, closed, ret, waiting, done⟩ r) rfl lF lN ?_ ?_ ?_
  · exact ⟨rfl, .inl ⟨rfl, rfl⟩⟩
  · clear lF lN
    rintro i c t' m₁ nx h tk own hc hoff ⟨hself, hh⟩ F₁ N₁
    have F₁ := fr_self F₁ hself
    obtain ⟨hi, hx⟩ := Array.getElem?_eq_some_iff.mp hc
    have hi : i < 1 := hi
    have hi : i = 0 := by omega
    subst hi
    have hx : r = c := hx
    have kMk := kstMark
    subst hx
    rcases hh with ⟨-, hh⟩ | ⟨hh, -⟩
    case inr => omega
    subst hh
    simp only [TS.led, List.cons_append, List.nil_append, List.map_cons, List.map_nil] at N₁ hoff
    (try k_fold)
    k_steps
    refine' em_end (D := _) (t1 := _) (t2 := _) ?f ?n ?hs ?hv (led_stepped ?m1 ?m2 ?m3 ?m4 ?m5 ?m6 ?m7 ?m8) ?mD ?mo ?oz ?oD ?hD
    case f => assumption
    case n => assumption
    case hs => rfl
    case m1 => k_mem
    case m2 => k_mem
    case m3 => k_mem
    case m4 => k_mem
    case m5 => k_mem
    case m6 => k_mem
    case m7 => k_mem
    case mD => exact List.Mem.head _
    case hv => simp
    case m8 => k_mem
    case mo => intro p hp; (repeat' (first | exact hp | refine List.Mem.tail _ ?_))
    case oz => exact off_1 hoff
    case oD => exact off_own (by assumption)
    case hD => exact adr_lt (by assumption)
  · clear lF lN
    rintro m₁ nx h tk ⟨-, hh⟩ F₁ N₁
    rcases hh with ⟨hh, -⟩ | ⟨-, hh⟩
    case inl => exact absurd hh (by decide : ¬ (1 : Nat) = 0)
    obtain ⟨D, t1, t2, cO', rfl, hD⟩ := hh
    simp only [TS.led, TS.stepped, List.cons_append, List.nil_append] at N₁
    k_steps
    refine' back_led hret ?f1 ?f2 ?f3 ?f4 (fun _ h => h) ⟨rfl, D, t1, t2, cO', rfl, hD⟩
    case f1 => assumption
    case f2 => assumption
    case f3 => assumption
    case f4 => assumption
end
end Mine
end
section
open PySem PySem.W PyProof.Rows PySem.Calls
local macro_rules | `(tactic| walk_at "no such key") => `(tactic| fail "none")
theorem Mine.fresh14 : True := by
  w_top off
  trivial
namespace Mine
theorem lst_item {w : World} {A : Around} {E : Value → Shared → Prop} {s : Shared} {h₀ : Heap} {L l : Addr} {news : List (Addr × Obj)} {value slice : PySem.Expr} {us : List Value} {n : Nat} {k : Int} {u : Tok} {v : Value} {Q : Value → Shared → Prop} (N : News h₀ L s.heap news) (hm : (l, listOf us.toArray n) ∈ news)
    (h0 : 0 ≤ k) (hfit : k < 2 ^ 63) (hx : us[k.toNat]? = some v) (h : Q v s)
    (hs : subscripted slice false (.ref l) (.int k u) = operate [.ref l, .int k u] (getItem (.ref l) (.int k u)) := by with_unfolding_all rfl) :
    wpAny (model P w) A (subscriptTail value slice (.ref l) (.int k u)) Q E s := by
  have hl : s.heap.IsList l us.toArray := ⟨_, (N _ hm).1, rfl, n, rfl⟩
  exact tail_any hl.typeIs slot_list_getitem.lookup (wpAny_getItem_list hl h0 hfit (by simpa using hx) h) hs
theorem t_numF {w mean mg mb} {news : List (Addr × Obj)} {n : Int} {t : Tok} {x : Str} {f : Option Str} (h0 : 0 ≤ n) (hx : rchar n = x) (hf : faultOf (kind n) = f) : Tell w mean mg mb 56 2 news [.int n t] (PairNew x f news) := by
  subst hx hf; exact t_num h0
noncomputable def errL (f : Option Str) (i : Nat) : List Dat := match f with | none => [] | some x => [errD (x, (i : Int))]
noncomputable def StepD (w : World) (z : TS) (oD : Obj) (c i : Nat) (M' : List (Addr × Obj)) : Prop :=
  ∃ v vs cO' cR' t0 tl, M' = (z.stepped (z.vO ++ [v]) cO' (z.vR ++ vs) cR' ((i : Int) + 1) t0 false).led w ++ ((z.sd, oD) :: tl) ∧ DatIn tl v (.tuple [.str (Str.ofString "char"), .str (rchar c)]) ∧ DatAll tl vs (errL (faultOf (kind c)) i) ∧ OwnOff tl (z.sd :: z.adr)
noncomputable def EofD (w : World) (z : TS) (oD : Obj) (i : Nat) (M' : List (Addr × Obj)) : Prop :=
  ∃ v cO' t0 tl, M' = (z.stepped (z.vO ++ [v]) cO' z.vR z.cR ((i : Int) + 1) t0 true).led w ++ ((z.sd, oD) :: tl) ∧ DatIn tl v (.tuple [.str (Str.ofString "eof")]) ∧ OwnOff tl (z.sd :: z.adr)
theorem not_nil {c : Nat} : ((⟨#[c]⟩ : Str) == Str.ofString "") = false := by
  have e : Str.ofString "" = ⟨#[]⟩ := by decide +kernel
  rw [e, beq_eq_false_iff_ne]
  intro e
  injection e with e
  injection e with e
  cases e
theorem dat_int {l : List (Addr × Obj)} {a b : Int} {t : Tok} (h : a = b) : DatIn l (.int a t) (.int b) := by subst h; exact .int _ _
theorem step_back {w : World} {z : TS} {oD : Obj} {c i : Nat} {h₀ : Heap} {L : Addr} {m : Str → Option Value} {rest N' : List (Addr × Obj)} {s : Shared} {Q : Value → Shared → Prop} {h' : Heap} {tk' : Nat} {v : Value} {vs vO' vR' : List Value} {cO' cR' : Nat} {t0 : Tok} (tl : List (Addr × Obj))
    (hret : ∀ v M' h' tk', Fr h₀ L h' m → News h₀ L h' M' → News h₀ L h' rest → (∀ q ∈ M', ∀ p ∈ rest, p.1 ≠ q.1) → (v = .none ∧ StepD w z oD c i M') → Q v { s with heap := h', toks := tk' })
    (F : Fr h₀ L h' m) (d : ∀ q ∈ N', ∀ p ∈ rest, p.1 ≠ q.1) (N : News h₀ L h' N') (R : News h₀ L h' rest)
    (hv : vO' = z.vO ++ [v]) (hvs : vR' = z.vR ++ vs) (ml : ∀ p ∈ (z.stepped vO' cO' vR' cR' ((i : Int) + 1) t0 false).led w, p ∈ N') (mt : ∀ p ∈ (z.sd, oD) :: tl, p ∈ N')
    (hd : DatIn tl v (.tuple [.str (Str.ofString "char"), .str (rchar c)])) (hds : DatAll tl vs (errL (faultOf (kind c)) i)) (ho : OwnOff tl (z.sd :: z.adr)) : Q .none { s with heap := h', toks := tk' } := by
  subst hv hvs
  exact back_led hret F d N R (List.forall_mem_append.mpr ⟨ml, mt⟩) ⟨rfl, v, vs, cO', cR', t0, tl, rfl, hd, hds, ho⟩
theorem eof_back {w : World} {z : TS} {oD : Obj} {i : Nat} {h₀ : Heap} {L : Addr} {m : Str → Option Value} {rest N' : List (Addr × Obj)} {s : Shared} {Q : Value → Shared → Prop} {h' : Heap} {tk' : Nat} {v : Value} {vO' : List Value} {cO' : Nat} {t0 : Tok} (tl : List (Addr × Obj))
    (hret : ∀ v M' h' tk', Fr h₀ L h' m → News h₀ L h' M' → News h₀ L h' rest → (∀ q ∈ M', ∀ p ∈ rest, p.1 ≠ q.1) → (v = .none ∧ EofD w z oD i M') → Q v { s with heap := h', toks := tk' })
    (F : Fr h₀ L h' m) (d : ∀ q ∈ N', ∀ p ∈ rest, p.1 ≠ q.1) (N : News h₀ L h' N') (R : News h₀ L h' rest)
    (hv : vO' = z.vO ++ [v]) (ml : ∀ p ∈ (z.stepped vO' cO' z.vR z.cR ((i : Int) + 1) t0 true).led w, p ∈ N') (mt : ∀ p ∈ (z.sd, oD) :: tl, p ∈ N')
    (hd : DatIn tl v (.tuple [.str (Str.ofString "eof")])) (ho : OwnOff tl (z.sd :: z.adr)) : Q .none { s with heap := h', toks := tk' } := by
  subst hv
  exact back_led hret F d N R (List.forall_mem_append.mpr ⟨ml, mt⟩) ⟨rfl, v, cO', t0, tl, rfl, hd, ho⟩
theorem sd_no {sd t dt st dst lS lE lO lR : Nat} (ho : dt < t ∧ t < dst ∧ dst < st ∧ st < lS ∧ lS < lE ∧ lE < lO ∧ lO < lR) (hsd : sd < dt) : ¬ (sd ∈ [t, dt, st, dst, lS, lE, lO, lR]) := by
  intro h
  simp only [List.mem_cons, List.not_mem_nil, or_false] at h
  omega
theorem off_cons {sd t dt st dst lS lE lO lR D : Nat} {o : Obj} {tl : List (Addr × Obj)} (h0 : sd ≠ D) (h : t < D ∧ dt < D ∧ st < D ∧ dst < D ∧ lS < D ∧ lE < D ∧ lO < D ∧ lR < D) (ht : OwnOff tl [sd, t, dt, st, dst, lS, lE, lO, lR]) : OwnOff ((D, o) :: tl) [sd, t, dt, st, dst, lS, lE, lO, lR] := by
  intro p hp b hb
  rcases List.mem_cons.mp hp with hp | hp
  · rw [hp]
    simp only [List.mem_cons, List.not_mem_nil, or_false] at hb
    obtain ⟨h1, h2, h3, h4, h5, h6, h7, h8⟩ := h
    rcases hb with rfl | rfl | rfl | rfl | rfl | rfl | rfl | rfl | rfl
    · exact fun e => h0 e.symm
    all_goals exact Nat.ne_of_gt (by assumption)
  · exact ht p hp b hb
theorem off_cons2 {sd t dt st dst lS lE lO lR D D1 : Nat} {o : Obj} {tl : List (Addr × Obj)} (h : t < D ∧ dt < D ∧ st < D ∧ dst < D ∧ lS < D ∧ lE < D ∧ lO < D ∧ lR < D ∧ D1 < D ∧ sd < D) (ht : OwnOff tl [sd, t, dt, st, dst, lS, lE, lO, lR]) : OwnOff ((D, o) :: tl) [sd, t, dt, st, dst, lS, lE, lO, lR] :=
  off_cons (Nat.ne_of_lt h.2.2.2.2.2.2.2.2.2) ⟨h.1, h.2.1, h.2.2.1, h.2.2.2.1, h.2.2.2.2.1, h.2.2.2.2.2.1, h.2.2.2.2.2.2.1, h.2.2.2.2.2.2.2.1⟩ ht
theorem off_cons1 {sd t dt st dst lS lE lO lR D : Nat} {o : Obj} {tl : List (Addr × Obj)} (h : t < D ∧ dt < D ∧ st < D ∧ dst < D ∧ lS < D ∧ lE < D ∧ lO < D ∧ lR < D ∧ sd < D) (ht : OwnOff tl [sd, t, dt, st, dst, lS, lE, lO, lR]) : OwnOff ((D, o) :: tl) [sd, t, dt, st, dst, lS, lE, lO, lR] :=
  off_cons (Nat.ne_of_lt h.2.2.2.2.2.2.2.2) ⟨h.1, h.2.1, h.2.2.1, h.2.2.2.1, h.2.2.2.2.1, h.2.2.2.2.2.1, h.2.2.2.2.2.2.1, h.2.2.2.2.2.2.2.1⟩ ht
theorem cc (vR : List Value) (v : Value) : vR.toArray.toList.concat v = vR ++ [v] := by simp
theorem off_none {l : List Addr} : OwnOff [] l := fun _ h => nomatch h
theorem off_gt {tl : List (Addr × Obj)} {l : List Addr} (h : ∀ p ∈ tl, ∀ b ∈ l, b < p.1) : OwnOff tl l := fun p hp b hb => Nat.ne_of_gt (h p hp b hb)
section
local macro_rules | `(tactic| cell_enter) => `(tactic| (refine' code_defF ?k1 ?k2 ?k3 ?k4 ?r1 ?r2 ?k5 ?kA ?kF ?kK ?k6 ?k7 ?k8 ?k9 ?kB ?_ ?c2 ?c3 ?c4 ?c5; (case r2 => assumption); (case kA => exact rfl); (case kF => exact rfl); (case kK => assumption); (case k1 => k_asm); (case k2 => k_asm); (case k3 => k_asm); (case k4 => assumption); (case r1 => assumption); (case k5 => k_asm); (case k6 => k_is); (case k7 => k_is); (case k8 => ktr_room); (case k9 => first | exact BindsTo.of_eq rfl | exact binds_K (by k_in) rfl (by k_is) rfl rfl rfl); (case c5 => decide); (case kB => exact locs rfl); (case c2 => exact rfl); (case c3 => exact rfl); (case c4 => exact rfl); k_whole; intro g' L' h' RG' FG' F' N' B' X' T'; (try dsimp only); (try k_lift B'); (try k_fold)))
local macro_rules | `(tactic| walk_at "LeaveF") => `(tactic| (k_dflt (refine' leaveF_ ?k1 ?k2 ?_; (case k1 => k_asm); (case k2 => k_asm); k_whole); intro kF kN kR kD; (try dsimp only [InitBack, CmpBack, LenBack, StrBack, BoolBack]); (try refine ⟨rfl, ?_⟩); (try dsimp only)))
local macro_rules | `(tactic| walk_at "callWith") => `(tactic| ((with_reducible refine callWith_method1 ?_ (star_plain _ _ _ ?_) ?_); rotate_left; (focus exact rfl); (focus exact rfl)))
local macro_rules | `(tactic| k_room) => `(tactic| ktr_room)
local macro_rules | `(tactic| k_units) => `(tactic| ktr_units)

local macro_rules | `(tactic| walk_at "call ref") => `(tactic| (k_here; (with_reducible show wpAny _ _ (call (Value.ref _) [Value.int _ _]) _ _ _); k_dflt (refine' (t_numF ?h0 ?hx ?hf).use ?k1 ?k2 ?k3 ?k4 ?k5 ?k6 ?k7 ?k8 ?_; (case h0 => exact Int.natCast_nonneg _); (case hx => assumption); (case hf => assumption); (case k1 => k_asm); (case k2 => k_asm); (case k3 => k_asm); (case k4 => k_asm); (case k5 => k_asm); (case k6 => first | exact rfl | assumption); (case k7 => ktr_room); (case k8 => ktr_units); intro v9 n9 h9 tk9 F9 N9 P9; obtain ⟨D9, a9, b9, e9, d9, l9⟩ := P9; subst e9; subst d9; (try dsimp only [optV]); k_lt l9)))
local macro_rules | `(tactic| walk_at "call ref") => `(tactic| (k_here; (with_reducible show wpAny _ _ (call (Value.ref 222) [Value.ref _, Value.str _ _]) _ _ _); refine stop_here ?_))
local macro_rules | `(tactic| walk_at "ite") => `(tactic| (k_here; first | refine ite_pos (by assumption) ?_ | refine ite_neg (Bool.eq_false_iff.mp (by assumption)) ?_))
local macro_rules | `(tactic| walk_at "call builtin:len") => `(tactic| (k_here; k_dflt (refine' kst_len ?k1 ?k2 ?k3 ?k4 ?_; (case k1 => k_asm); (case k2 => k_mem); (case k3 => assumption); (case k4 => omega))))
local macro_rules | `(tactic| walk_at "subscriptTail") => `(tactic| (k_here; (with_reducible show wpAny _ _ (subscriptTail _ _ (Value.ref _) (Value.int _ _)) _ _ _); k_dflt (refine' lst_item ?k1 ?k2 ?k3 ?k4 ?k5 ?_ ?k6; (case k1 => k_asm); (case k2 => k_mem); (case k3 => exact Int.natCast_nonneg _); (case k4 => omega); (case k5 => assumption); (case k6 => with_unfolding_all rfl))))
theorem t_step {w mean mg mb} {rest : List (Addr × Obj)} {z : TS} {oD : Obj} {i c r k : Nat} {tc : Tok} {f : Option Str} (ho : z.ord) (hsd : @LT.lt Nat instLTNat z.sd z.dt) (h1 : z.done = false) (h2 : z.waiting = false) (h3 : z.closed = true) (h4 : z.at_ = (i : Int)) (lo : (z.sd == sysModules) = false) (hD : oD.IsDictOf (strKind P w) (stK (.ref 342)))
    (hk : z.vS.length = k) (hi : i < k) (hi' : k ≤ 1000) (hc : z.vS[(i : Int).toNat]? = some (.str ⟨#[c]⟩ tc)) (hr : rchar (c : Int) = ⟨#[r]⟩) (hf : faultOf (kind (c : Int)) = f) (hO : z.vO.length ≤ 1000) (hR : z.vR.length ≤ 1000) :
    TellF w mean mg mb 286 6 (z.led w ++ [(z.sd, oD)]) rest [.ref z.t] (fun v M' => v = .none ∧ StepD w z oD c i M') := by
  obtain ⟨dt, t, dst, st, lS, lE, lO, lR, sd, kt, ks, tv, vS, cS, vE, cE, vO, cO, vR, cR, at_, closed, ret, waiting, done⟩ := z
  dsimp only at h1 h2 h3 h4 lo hsd hk hc hO hR
  subst h1 h2 h3 h4
  unfold TS.ord at ho
  unfold TS.led
  unfold stK at hD
  dsimp only [List.cons_append, List.nil_append] at ho ⊢
  intro dp un gd cn cs a ccd cl outer A₀ base h₀ L m s Q E B F X N NR dis T hk' hd hu hret
  have kMk := kstMark
  have hnn := @not_nil c
  have hno : ¬ ((sd : Nat) ∈ [t, dt, st, dst, lS, lE, lO, lR]) := sd_no ho hsd
  refine wpAny_call ?_
  k_dflt cell_enter
  k_steps
  refine stop_off ?_
  rename Fr _ _ _ _ => lF
  rename News _ _ _ _ => lN
  refine' (t_emit (z := (TS.mk dt t dst st lS lE lO lR sd kt ks tv vS cS vE cE vO cO vR cR (i : Int) true ret false false).stepped vO cO vR cR ((i : Int) + 1) _ false) (rest := [(sd, oD)]) ?a ?b).use ?B ?F ?X ?N ?NR ?dis ?T ?hk ?hd ?hu ?_
  case a => exact ho
  case b => exact hO
  case B => k_asm
  case F => k_asm
  case X => k_asm
  case N =>
    intro p hp
    refine lN p ?_
    revert p
    refine' led_stepped ?m1 ?m2 ?m3 ?m4 ?m5 ?m6 ?m7 ?m8
    case m1 => k_mem
    case m2 => k_mem
    case m3 => k_mem
    case m4 => k_mem
    case m5 => k_mem
    case m6 => k_mem
    case m7 => k_mem
    case m8 => k_mem
  case NR =>
    intro p hp
    refine lN p ?_
    revert p
    exact List.forall_mem_cons.mpr ⟨by k_mem, List.forall_mem_nil _⟩
  case dis =>
    intro p hp hm
    rw [List.mem_singleton.mp hp] at hm
    exact hno hm
  case T => k_asm
  case hk => first | exact rfl | assumption
  case hd => ktr_room
  case hu => ktr_units
  intro v1 M1 h1 tk1 F1 N1 R1 d1 P1
  obtain ⟨hv, D, t1, t2, cO', e, hDD⟩ := P1
  subst hv e
  have N2 := fun p hp => (List.mem_append.mp hp).elim (N1 p) (R1 p)
  change News _ _ _ _ at N2
  have hsD : (sd : Nat) ≠ D := d1 (D, _) (List.mem_append_right _ (List.Mem.head _)) (sd, oD) (List.Mem.head _)
  have hDD' : t < D ∧ dt < D ∧ st < D ∧ dst < D ∧ lS < D ∧ lE < D ∧ lO < D ∧ lR < D := ⟨hDD t (by simp [TS.adr, TS.stepped]), hDD dt (by simp [TS.adr, TS.stepped]), hDD st (by simp [TS.adr, TS.stepped]), hDD dst (by simp [TS.adr, TS.stepped]), hDD lS (by simp [TS.adr, TS.stepped]), hDD lE (by simp [TS.adr, TS.stepped]), hDD lO (by simp [TS.adr, TS.stepped]), hDD lR (by simp [TS.adr, TS.stepped])⟩
  clear lN N1 R1 d1 hDD
  unfold charO at N2
  simp only [TS.led, TS.stepped, tvset, List.cons_append, List.nil_append] at N2
  (try k_fold)
  cases f
  · dsimp only [optV] at F1
    k_steps
    refine' step_back (z := (TS.mk dt t dst st lS lE lO lR sd kt ks tv vS cS vE cE vO cO vR cR (i : Int) true ret false false)) (oD := oD) (c := c) (i := i) (v := .ref D) (vs := []) [(D, charO r t1 t2)] hret ?f1 ?f2 ?f3 ?f4 ?hv ?hvs (led_stepped ?m1 ?m2 ?m3 ?m4 ?m5 ?m6 ?m7 ?m8) ?mt ?hd ?hds ?ho
    case f1 => assumption
    case f2 => assumption
    case f3 => assumption
    case f4 => assumption
    case m1 => k_mem
    case m2 => k_mem
    case m3 => k_mem
    case m4 => k_mem
    case m5 => k_mem
    case m6 => k_mem
    case m7 => k_mem
    case m8 => k_mem
    case hv => first | rfl | simp
    case hvs => first | rfl | simp
    case mt => exact List.forall_mem_cons.mpr ⟨by k_mem, List.forall_mem_cons.mpr ⟨by k_mem, List.forall_mem_nil _⟩⟩
    case hd => rw [hr]; exact DatIn.tuple (List.Mem.head _) (.cons (.str _ _) (.cons (.str _ _) .nil))
    case hds => rw [hf]; exact .nil
    case ho => exact off_cons hsD hDD' off_none
  · dsimp only [optV] at F1
    k_steps
    refine' step_back (z := (TS.mk dt t dst st lS lE lO lR sd kt ks tv vS cS vE cE vO cO vR cR (i : Int) true ret false false)) (oD := oD) (c := c) (i := i) (v := .ref D) (vs := [.ref _]) [(_, ({ cls := .type "tuple", data := .seq #[_, _] } : Obj)), (D, charO r t1 t2)] hret ?f1 ?f2 ?f3 ?f4 ?hv ?hvs (led_stepped ?m1 ?m2 ?m3 ?m4 ?m5 ?m6 ?m7 ?m8) ?mt ?hd ?hds ?ho
    case f1 => assumption
    case f2 => assumption
    case f3 => assumption
    case f4 => assumption
    case m1 => k_mem
    case m2 => k_mem
    case m3 => k_mem
    case m4 => k_mem
    case m5 => k_mem
    case m6 => k_mem
    case m7 => k_mem
    case m8 => k_mem
    case hv => first | rfl | simp
    case hvs => exact cc _ _
    case mt =>
      refine' List.forall_mem_cons.mpr ⟨?_, ?_⟩
      focus k_mem
      refine' List.forall_mem_cons.mpr ⟨?_, ?_⟩
      focus k_mem
      exact List.forall_mem_cons.mpr ⟨by k_mem, List.forall_mem_nil _⟩
    case hd => rw [hr]; exact DatIn.tuple (List.Mem.tail _ (List.Mem.head _)) (.cons (.str _ _) (.cons (.str _ _) .nil))
    case hds => rw [hf]; exact DatAll.one (DatIn.tuple (List.Mem.head _) (.cons (.str _ _) (.cons (dat_int (by omega)) .nil)))
    case ho => exact off_cons2 (by assumption) (off_cons hsD hDD' off_none)
theorem t_stop {w mean mg mb} {rest : List (Addr × Obj)} {z : TS} {oD : Obj} {i : Nat} (ho : z.ord) (hsd : @LT.lt Nat instLTNat z.sd z.dt) (h1 : z.done = false) (h2 : z.waiting = false) (h3 : z.closed = true) (h4 : z.at_ = (i : Int)) (lo : (z.sd == sysModules) = false) (hD : oD.IsDictOf (strKind P w) (stK (.ref 342)))
    (hk : z.vS.length = i) (hi' : i ≤ 1000) (hO : z.vO.length ≤ 1000) :
    TellF w mean mg mb 286 6 (z.led w ++ [(z.sd, oD)]) rest [.ref z.t] (fun v M' => v = .none ∧ EofD w z oD i M') := by
  obtain ⟨dt, t, dst, st, lS, lE, lO, lR, sd, kt, ks, tv, vS, cS, vE, cE, vO, cO, vR, cR, at_, closed, ret, waiting, done⟩ := z
  dsimp only at h1 h2 h3 h4 lo hsd hk hO
  subst h1 h2 h3 h4
  unfold TS.ord at ho
  unfold TS.led
  unfold stK at hD
  dsimp only [List.cons_append, List.nil_append] at ho ⊢
  intro dp un gd cn cs a ccd cl outer A₀ base h₀ L m s Q E B F X N NR dis T hk' hd hu hret
  have kMk := kstMark
  refine wpAny_call ?_
  k_dflt cell_enter
  k_steps
  refine' eof_back (z := (TS.mk dt t dst st lS lE lO lR sd kt ks tv vS cS vE cE vO cO vR cR (i : Int) true ret false false)) (oD := oD) (i := i) (v := .ref _) [(_, ({ cls := .type "tuple", data := .seq #[_] } : Obj))] hret ?f1 ?f2 ?f3 ?f4 ?hv (led_stepped ?m1 ?m2 ?m3 ?m4 ?m5 ?m6 ?m7 ?m8) ?mt ?hd ?ho
  case f1 => assumption
  case f2 => assumption
  case f3 => assumption
  case f4 => assumption
  case m1 => k_mem
  case m2 => k_mem
  case m3 => k_mem
  case m4 => k_mem
  case m5 => k_mem
  case m6 => k_mem
  case m7 => k_mem
  case m8 => k_mem
  case hv => exact cc _ _
  case mt =>
    refine' List.forall_mem_cons.mpr ⟨?_, ?_⟩
    focus k_mem
    refine' List.forall_mem_cons.mpr ⟨?_, ?_⟩
    focus k_mem
    exact List.forall_mem_nil _
  case hd => exact DatIn.tuple (List.Mem.head _) (.cons (.str _ _) .nil)
  case ho => exact off_cons1 (by assumption) off_none
end
end Mine
end
section
open PySem PySem.W PyProof.Rows PySem.Calls
open Builtin Builtin.Str StrLaws
theorem Mine.fresh15 : True := by
  w_top off
  trivial
namespace Mine
noncomputable def crlf : List Nat → List Nat
  | [] => []
  | [c] => [c]
  | c :: d :: r => if c = 13 ∧ d = 10 then 10 :: crlf r else c :: crlf (d :: r)
theorem crlf_hit (r : List Nat) : crlf (13 :: 10 :: r) = 10 :: crlf r := by rw [crlf, if_pos ⟨rfl, rfl⟩]
theorem crlf_cons {c : Nat} {r : List Nat} (h : (c :: r).take 2 ≠ [13, 10]) : crlf (c :: r) = c :: crlf r := by
  cases r with
  | nil => rfl
  | cons d r =>
    rw [crlf, if_neg]
    rintro ⟨rfl, rfl⟩
    exact h rfl
theorem crlf_free : ∀ l : List Nat, (∀ k, (l.drop k).take 2 ≠ [13, 10]) → crlf l = l
  | [], _ => rfl
  | c :: r, h => by
    rw [crlf_cons (h 0), crlf_free r fun k => h (k + 1)]
theorem crlf_split (r : List Nat) : ∀ p : List Nat, (∀ k, k < p.length → ((p ++ 13 :: 10 :: r).drop k).take 2 ≠ [13, 10]) → crlf (p ++ 13 :: 10 :: r) = p ++ 10 :: crlf r
  | [], _ => crlf_hit r
  | c :: p, h => by
    have h0 := h 0 (by simp)
    rw [List.cons_append, crlf_cons (by simpa using h0), crlf_split r p fun k hk => by simpa using h (k + 1) (by simpa using hk)]
    rfl
theorem at_iff (x : Str) (k : Nat) : At x ⟨#[13, 10]⟩ x.length k ↔ (x.cps.toList.drop k).take 2 = [13, 10] := by
  have hn : x.cps.toList.length = x.length := by simp [Str.length]
  unfold At
  rw [subAt_eq]
  show k + 2 ≤ x.length ∧ ((x.cps.toList.drop k).take 2 == [13, 10]) = true ↔ _
  rw [beq_iff_eq]
  constructor
  · exact fun h => h.2
  · intro h
    refine ⟨?_, h⟩
    have := congrArg List.length h
    simp only [List.length_take, List.length_drop, List.length_cons, List.length_nil] at this
    omega
theorem crlf_parts (x : Str) : ∀ (cuts : List Nat) (a f : Nat), ChainG x ⟨#[13, 10]⟩ x.length a cuts f → (∀ k, f ≤ k → ¬ At x ⟨#[13, 10]⟩ x.length k) → (Str.join ⟨#[10]⟩ (partsFrom x 2 a cuts)).cps.toList = crlf (x.cps.toList.drop a)
  | [], a, f, h, hn => by
    have e : f = a := h
    subst e
    have hl : x.cps.toList.length = x.length := by simp [Str.length]
    show (strSub x f x.length).cps.toList = _
    rw [strSub_toList, List.take_of_length_le (by rw [List.length_drop]; omega), crlf_free]
    intro k
    rw [List.drop_drop]
    exact fun e => hn (f + k) (by omega) ((at_iff x _).mpr e)
  | c :: r, a, f, h, hn => by
    obtain ⟨h1, h2, h3, h4⟩ := h
    obtain ⟨p, q, e⟩ := partsFrom_ne x 2 (c + 2) r
    have ih := crlf_parts x r (c + 2) f h4 hn
    show (Str.join ⟨#[10]⟩ (strSub x a c :: partsFrom x 2 (c + 2) r)).cps.toList = _
    rw [e] at ih ⊢
    show (strSub x a c ++ ⟨#[10]⟩ ++ Str.join ⟨#[10]⟩ (p :: q)).cps.toList = _
    rw [Str.cps_append, Array.toList_append, ih, Str.cps_append, Array.toList_append, strSub_toList]
    have h2' := (at_iff x c).mp h2
    have hs : x.cps.toList.drop a = (x.cps.toList.drop a).take (c - a) ++ 13 :: 10 :: x.cps.toList.drop (c + 2) := by
      have e1 : x.cps.toList.drop c = 13 :: 10 :: x.cps.toList.drop (c + 2) := by
        have := List.take_append_drop 2 (x.cps.toList.drop c)
        rw [h2', List.drop_drop] at this
        exact this.symm
      rw [← e1]
      have e5 : x.cps.toList.drop c = (x.cps.toList.drop a).drop (c - a) := by rw [List.drop_drop]; congr 1; omega
      rw [e5]
      exact (List.take_append_drop (c - a) (x.cps.toList.drop a)).symm
    conv => rhs; rw [hs]
    rw [crlf_split]
    · simp
    · intro k hk
      rw [← hs, List.drop_drop]
      have hk' : k < c - a := Nat.lt_of_lt_of_le hk (by simp; omega)
      exact fun e => h3 (a + k) (by omega) (by omega) ((at_iff x _).mpr e)
theorem replace_crlf (x : Str) : (Txt.replace x ⟨#[13, 10]⟩ ⟨#[10]⟩).cps.toList = crlf x.cps.toList := by
  obtain ⟨f, hG, hn⟩ := occ_tight x ⟨#[13, 10]⟩ (by decide)
  unfold Txt.replace
  cases he : (occurrences x ⟨#[13, 10]⟩ 0 x.length (x.length + 1)).isEmpty
  · have hz : ((⟨#[13, 10]⟩ : Str).length == 0 && (⟨#[10]⟩ : Str).length == 0) = false := rfl
    rw [hz, Bool.or_false, if_neg Bool.false_ne_true, glued_eq_join, partsBetween_eq]
    have := crlf_parts x _ 0 f hG hn
    rw [List.drop_zero] at this
    exact this
  · rw [Bool.true_or, if_pos rfl]
    have e0 := List.isEmpty_iff.mp he
    rw [e0] at hG
    have ef : f = 0 := hG
    subst ef
    rw [crlf_free]
    intro k e
    exact hn k (Nat.zero_le _) ((at_iff x k).mpr e)
noncomputable def crs (l : List Nat) : List Nat := l.map fun k => if k = 13 then 10 else k
theorem crs_free (l : List Nat) (h : 13 ∉ l) : crs l = l := by
  unfold crs
  conv => rhs; rw [← List.map_id l]
  refine List.map_congr_left fun k hk => ?_
  have hk' : k ≠ 13 := by intro e; rw [e] at hk; exact h hk
  simp only [if_neg hk', _root_.id]
theorem crs_join : ∀ parts : List Str, (∀ p ∈ parts, 13 ∉ p.cps.toList) → crs (Str.join ⟨#[13]⟩ parts).cps.toList = (Str.join ⟨#[10]⟩ parts).cps.toList
  | [], _ => rfl
  | [p], h => crs_free _ (h p (List.mem_singleton.mpr rfl))
  | p :: q :: r, h => by
    have ih := crs_join (q :: r) fun a ha => h a (List.mem_cons_of_mem _ ha)
    have hp := crs_free _ (h p (List.mem_cons_self ..))
    show crs (p ++ ⟨#[13]⟩ ++ Str.join ⟨#[13]⟩ (q :: r)).cps.toList = (p ++ ⟨#[10]⟩ ++ Str.join ⟨#[10]⟩ (q :: r)).cps.toList
    simp only [Str.cps_append, Array.toList_append]
    rw [← ih]
    have hp' : (p.cps.toList.map fun k => if k = 13 then 10 else k) = p.cps.toList := hp
    simp only [crs, List.map_append, hp']
    rfl
theorem replace_cr (x : Str) : (Txt.replace x ⟨#[13]⟩ ⟨#[10]⟩).cps.toList = crs x.cps.toList := by
  rw [replace_one, ← crs_join _ (split_free x 13), join_split]
/-- the text with its line ends made one -/
noncomputable def normR : Bool → List Nat → List Nat
  | _, [] => []
  | r, c :: cs => if c = 13 then 10 :: normR true cs else if c = 10 ∧ r = true then normR false cs else c :: normR false cs
theorem normR_true {cs : List Nat} (h : cs.head? ≠ some 10) : normR true cs = normR false cs := by
  cases cs with
  | nil => rfl
  | cons c cs =>
    have : c ≠ 10 := fun e => h (by rw [e]; rfl)
    simp [normR, this]
theorem norm_eq : ∀ cs : List Nat, crs (crlf cs) = normR false cs
  | [] => rfl
  | [c] => by
    by_cases h : c = 13 <;> simp [crlf, crs, normR, h]
  | c :: d :: r => by
    by_cases h : c = 13 ∧ d = 10
    · obtain ⟨rfl, rfl⟩ := h
      rw [crlf_hit]
      have ih := norm_eq r
      simp [crs, normR] at ih ⊢
      exact ih
    · have ih := norm_eq (d :: r)
      rw [crlf, if_neg h]
      show (if c = 13 then 10 else c) :: crs (crlf (d :: r)) = _
      rw [ih]
      by_cases hc : c = 13
      · have hd : d ≠ 10 := fun e => h ⟨hc, e⟩
        have := normR_true (cs := d :: r) (by simpa using hd)
        rw [if_pos hc]
        conv => rhs; rw [normR, if_pos hc]
        rw [this]
      · rw [if_neg hc]
        conv => rhs; rw [normR, if_neg hc, if_neg (by simp)]
noncomputable def early1 (c i : Nat) : List (Str × Int) := if kind (c : Int) = 3 ∨ kind (c : Int) = 4 ∨ kind (c : Int) = 5 then [(errOf (kind (c : Int)), (i : Int))] else []
noncomputable def earlyL : List Nat → Nat → List (Str × Int)
  | [], _ => []
  | c :: cs, i => early1 c i ++ earlyL cs (i + 1)
theorem early_ik {c i : Nat} (h : c ≠ 13) : (if ikind (c : Int) = 0 then [] else [(errOf (ikind (c : Int)), (i : Int))]) = early1 c i := by
  unfold early1
  have hk : ikind (c : Int) = if kind (c : Int) = 3 ∨ kind (c : Int) = 4 ∨ kind (c : Int) = 5 then kind (c : Int) else 0 := by
    unfold ikind kind
    by_cases h0 : (c : Int) = 0
    · rw [h0]; decide +kernel
    rw [if_neg h0]
    by_cases h1 : 1114111 < (c : Int)
    · have s : surr (c : Int) = false := by unfold surr; exact decide_eq_false (by omega)
      have n : nonc (c : Int) = false := by unfold nonc; exact decide_eq_false (by omega)
      have t : ctrl (c : Int) = false := by unfold ctrl; exact decide_eq_false (by omega)
      rw [if_pos h1, s, n, t]; simp
    rw [if_neg h1]
    have e : ([0, 9, 10, 12, 13].any fun x => x == (c : Int)) = ([9, 10, 12].any fun x => x == (c : Int)) := by
      have a0 : ((0 : Int) == (c : Int)) = false := by rw [beq_eq_false_iff_ne]; omega
      have a13 : ((13 : Int) == (c : Int)) = false := by rw [beq_eq_false_iff_ne]; omega
      simp only [List.any_cons, List.any_nil, a0, a13, Bool.false_or, Bool.or_false]
    rw [e]
    cases surr (c : Int) <;> cases nonc (c : Int) <;> cases (ctrl (c : Int) && !([9, 10, 12].any fun x => x == (c : Int))) <;> decide
  by_cases hh : kind (c : Int) = 3 ∨ kind (c : Int) = 4 ∨ kind (c : Int) = 5
  · rw [if_pos hh] at hk
    rw [if_pos hh, hk, if_neg]
    omega
  · rw [if_neg hh] at hk
    rw [if_neg hh, if_pos hk]
theorem kind_10 : kind ((10 : Nat) : Int) = 0 := by decide +kernel
theorem feed_fold : ∀ (cs : List Nat) (z : FS), (cs.foldl fstep z).signs = z.signs ++ normR z.ret cs ∧ (cs.foldl fstep z).errs = z.errs ++ earlyL (normR z.ret cs) z.signs.length
  | [], z => by simp [normR, earlyL]
  | c :: cs, z => by
    obtain ⟨ih1, ih2⟩ := feed_fold cs (fstep z c)
    rw [List.foldl_cons, ih1, ih2]
    unfold fstep
    by_cases h13 : c = 13
    · have e1 : early1 10 z.signs.length = [] := by unfold early1; rw [kind_10]; rfl
      simp only [h13, if_true, normR, earlyL, e1]
      simp
    · by_cases h10 : c = 10 ∧ z.ret = true
      · rw [if_neg h13, if_pos h10, normR, if_neg h13, if_pos h10]
        exact ⟨rfl, rfl⟩
      · rw [if_neg h13, if_neg h10, normR, if_neg h13, if_neg h10, earlyL, ← early_ik h13]
        dsimp only
        refine ⟨by simp, ?_⟩
        split <;> simp
theorem feed_all (cs : List Nat) : (feedS cs).signs = normR false cs ∧ (feedS cs).errs = earlyL (normR false cs) 0 := by
  have := feed_fold cs ⟨[], [], false⟩
  simpa [feedS] using this
theorem normR_mem : ∀ (cs : List Nat) (r : Bool), ∀ c ∈ normR r cs, c = 10 ∨ c ∈ cs
  | [], _, c, h => nomatch h
  | d :: cs, r, c, h => by
    unfold normR at h
    split at h
    · rcases List.mem_cons.mp h with h | h
      · exact .inl h
      · exact (normR_mem cs _ c h).imp_right (List.mem_cons_of_mem _)
    split at h
    · exact (normR_mem cs _ c h).imp_right (List.mem_cons_of_mem _)
    · rcases List.mem_cons.mp h with h | h
      · exact .inr (h ▸ List.mem_cons_self ..)
      · exact (normR_mem cs _ c h).imp_right (List.mem_cons_of_mem _)
theorem normR_len : ∀ (cs : List Nat) (r : Bool), (normR r cs).length ≤ cs.length
  | [], _ => Nat.le_refl _
  | d :: cs, r => by
    unfold normR
    split
    · simp; exact normR_len cs _
    split
    · have := normR_len cs false; simp; omega
    · simp; exact normR_len cs _
end Mine
end
section
open PySem PySem.W PyProof.Rows PySem.Calls
local macro_rules | `(tactic| walk_at "no such key") => `(tactic| fail "none")
theorem Mine.fresh16 : True := by
  w_top off
  trivial

namespace Mine
noncomputable def tokD (c : Nat) : Dat := .tuple [.str (Str.ofString "char"), .str (rchar (c : Int))]
noncomputable def eofD : Dat := .tuple [.str (Str.ofString "eof")]
/-- the references' errors of the signs from place i on -/
noncomputable def lateD : List Nat → Nat → List Dat
  | [], _ => []
  | c :: cs, i => errL (faultOf (kind (c : Int))) i ++ lateD cs (i + 1)
theorem lateD_snoc (c : Nat) : ∀ (cs : List Nat) (i : Nat), lateD (cs ++ [c]) i = lateD cs i ++ errL (faultOf (kind (c : Int))) (i + cs.length)
  | [], i => by simp [lateD]
  | d :: cs, i => by
    rw [List.cons_append, lateD, lateD, lateD_snoc c cs (i + 1), List.append_assoc, List.length_cons]
    congr 3
    omega
theorem errL_len (f : Option Str) (i : Nat) : (errL f i).length ≤ 1 := by cases f <;> simp [errL]
theorem lateD_len : ∀ (cs : List Nat) (i : Nat), (lateD cs i).length ≤ cs.length
  | [], _ => Nat.le_refl _
  | c :: cs, i => by
    have := errL_len (faultOf (kind (c : Int))) i
    have := lateD_len cs (i + 1)
    rw [lateD, List.length_append, List.length_cons]
    omega
noncomputable def RunD (w : World) (z : TS) (oD : Obj) (cs : List Nat) (nx : List (Addr × Obj)) : Prop :=
  ∃ vO cO vR cR t0 tl, nx = (z.stepped vO cO vR cR ((cs.length : Int) + 1) t0 true).led w ++ ((z.sd, oD) :: tl) ∧ DatAll tl vO (cs.map tokD ++ [eofD]) ∧ DatAll tl vR (lateD cs 0) ∧ OwnOff tl (z.sd :: z.adr)
noncomputable def RunJ (w : World) (z : TS) (oD : Obj) (cs : List Nat) (m0 : Str → Option Value) (n : Nat) (m : Str → Option Value) (nx : List (Addr × Obj)) : Prop :=
  m = m0 ∧ ((∃ i vO cO vR cR t0 tl, i ≤ cs.length ∧ n + i = cs.length + 1 ∧ nx = (z.stepped vO cO vR cR (i : Int) t0 false).led w ++ ((z.sd, oD) :: tl) ∧ DatAll tl vO ((cs.take i).map tokD) ∧ DatAll tl vR (lateD (cs.take i) 0) ∧ OwnOff tl (z.sd :: z.adr)) ∨ (n = 0 ∧ RunD w z oD cs nx))
theorem news_two {h₀ h : Heap} {L : Addr} {A : List (Addr × Obj)} {p : Addr × Obj} {tl : List (Addr × Obj)} (N : News h₀ L h (A ++ (p :: tl))) : News h₀ L h (A ++ [p]) ∧ News h₀ L h tl := by
  refine ⟨fun q hq => N q ?_, fun q hq => N q ?_⟩
  · rcases List.mem_append.mp hq with hq | hq
    · exact List.mem_append_left _ hq
    · rw [List.mem_singleton.mp hq]; exact List.mem_append_right _ (List.mem_cons_self ..)
  · exact List.mem_append_right _ (List.mem_cons_of_mem _ hq)
theorem news_one {h₀ h : Heap} {L : Addr} {A tl tl' : List (Addr × Obj)} {p : Addr × Obj} (N : News h₀ L h (A ++ (p :: tl'))) (R : News h₀ L h tl) : News h₀ L h (A ++ (p :: (tl' ++ tl))) := by
  intro q hq
  rcases List.mem_append.mp hq with hq | hq
  · exact N q (List.mem_append_left _ hq)
  · rcases List.mem_cons.mp hq with hq | hq
    · exact N q (hq ▸ List.mem_append_right _ (List.mem_cons_self ..))
    · rcases List.mem_append.mp hq with hq | hq
      · exact N q (List.mem_append_right _ (List.mem_cons_of_mem _ hq))
      · exact R q hq
noncomputable def Hid (P : Prop) : Prop := P
theorem hid {P : Prop} (h : P) : Hid P := h
theorem Hid.out {P : Prop} (h : Hid P) : P := h
theorem news_cons {h₀ h : Heap} {L : Addr} {A tl : List (Addr × Obj)} (N : News h₀ L h A) (R : News h₀ L h tl) : News h₀ L h (A ++ tl) := fun q hq => (List.mem_append.mp hq).elim (N q) (R q)
theorem strs_get {vS : List Value} {ss : List Str} (h : StrsAre vS ss) : ∀ {i : Nat} {s : Str}, ss[i]? = some s → ∃ t, vS[i]? = some (.str s t) := by
  induction h with
  | nil => intro i s hs; simp at hs
  | cons x t r ih =>
    intro i s hs
    cases i with
    | zero => simp at hs ⊢; exact hs
    | succ i => simpa using ih (by simpa using hs)
theorem rchar_one (n : Int) : ∃ r, rchar n = ⟨#[r]⟩ := by
  unfold rchar
  split
  · exact ⟨65533, by decide +kernel⟩
  · exact ⟨_, rfl⟩
theorem off_mem {tl : List (Addr × Obj)} {sd t dt st dst lS lE lO lR : Nat} {o1 o2 o3 o4 o5 o6 o7 o8 o9 : Obj} (h : OwnOff tl [sd, t, dt, st, dst, lS, lE, lO, lR]) : ∀ p ∈ tl, p.1 ∉ [((t, o1) : Addr × Obj), (dt, o2), (st, o3), (dst, o4), (lS, o5), (lE, o6), (lO, o7), (lR, o8), (sd, o9)].map (·.1) := by
  intro p hp hm
  refine h p hp p.1 ?_ rfl
  simp only [List.map_cons, List.map_nil, List.mem_cons, List.not_mem_nil, or_false] at hm ⊢
  rcases hm with h | h | h | h | h | h | h | h | h <;> simp [h]
theorem off_app {a b : List (Addr × Obj)} {l : List Addr} (ha : OwnOff a l) (hb : OwnOff b l) : OwnOff (a ++ b) l := fun p hp => (List.mem_append.mp hp).elim (ha p) (hb p)
section
local macro_rules | `(tactic| cell_enter) => `(tactic| (refine' code_defF ?k1 ?k2 ?k3 ?k4 ?r1 ?r2 ?k5 ?kA ?kF ?kK ?k6 ?k7 ?k8 ?k9 ?kB ?_ ?c2 ?c3 ?c4 ?c5; (case r2 => assumption); (case kA => exact rfl); (case kF => exact rfl); (case kK => assumption); (case k1 => k_asm); (case k2 => k_asm); (case k3 => k_asm); (case k4 => assumption); (case r1 => assumption); (case k5 => k_asm); (case k6 => k_is); (case k7 => k_is); (case k8 => ktr_room); (case k9 => first | exact BindsTo.of_eq rfl | exact binds_K (by k_in) rfl (by k_is) rfl rfl rfl); (case c5 => decide); (case kB => exact locs rfl); (case c2 => exact rfl); (case c3 => exact rfl); (case c4 => exact rfl); k_whole; intro g' L' h' RG' FG' F' N' B' X' T'; (try dsimp only); (try k_lift B'); (try k_fold)))
local macro_rules | `(tactic| walk_at "LeaveF") => `(tactic| (k_dflt (refine' leaveF_ ?k1 ?k2 ?_; (case k1 => k_asm); (case k2 => k_asm); k_whole); intro kF kN kR kD; (try dsimp only [InitBack, CmpBack, LenBack, StrBack, BoolBack]); (try refine ⟨rfl, ?_⟩); (try dsimp only)))
local macro_rules | `(tactic| walk_at "callWith") => `(tactic| ((with_reducible refine callWith_method1 ?_ (star_plain _ _ _ ?_) ?_); rotate_left; (focus exact rfl); (focus exact rfl)))
local macro_rules | `(tactic| k_room) => `(tactic| ktr_room)
local macro_rules | `(tactic| k_units) => `(tactic| ktr_units)

local macro_rules | `(tactic| walk_at "exec While Call cons nil") => `(tactic| (refine stop_here ?_))
local macro_rules | `(tactic| walk_at "call ref") => `(tactic| (refine stop_here ?_))
local macro_rules | `(tactic| walk_at "WhileStep") => `(tactic| (refine stop_here ?_))
local macro_rules | `(tactic| walk_at "LeaveF") => `(tactic| (refine stop_here ?_))
theorem t_run {w mean mg mb} {rest : List (Addr × Obj)} {z : TS} {oD : Obj} {cs : List Nat} (ho : z.ord) (hsd : @LT.lt Nat instLTNat z.sd z.dt) (h1 : z.done = false) (h2 : z.waiting = false) (h3 : z.closed = true) (h4 : z.at_ = 0) (h5 : z.vO = []) (h6 : z.vR = [])
    (lo : (z.sd == sysModules) = false) (hD : oD.IsDictOf (strKind P w) (stK (.ref 342))) (hS : StrsAre z.vS (cs.map sgn)) (hl : cs.length ≤ 900) : TellF w mean mg mb 300 8 (z.led w ++ [(z.sd, oD)]) rest [.ref z.t] (fun v M' => v = .bool true ∧ RunD w z oD cs M') := by
  have hlen : z.vS.length = cs.length := by rw [hS.length, List.length_map]
  obtain ⟨dt, t, dst, st, lS, lE, lO, lR, sd, kt, ks, tv, vS, cS, vE, cE, vO, cO, vR, cR, at_, closed, ret, waiting, done⟩ := z
  dsimp only at h1 h2 h3 h4 h5 h6 lo hsd hS hlen
  subst h1 h2 h3 h4 h5 h6
  unfold TS.ord at ho
  dsimp only at ho ⊢
  intro dp un gd cn cs' a ccd cl outer A₀ base h₀ L m s Q E B F X N NR dis T hk' hd hu hret
  unfold TS.led at N dis
  dsimp only [List.cons_append, List.nil_append] at N dis
  refine wpAny_call ?_
  k_dflt cell_enter
  k_steps
  refine stop_off ?_
  rename Fr _ _ _ _ => lF
  rename News _ _ _ _ => lN
  refine While_inv (RunJ w ⟨dt, t, dst, st, lS, lE, lO, lR, sd, kt, ks, tv, vS, cS, vE, cE, [], cO, [], cR, 0, true, ret, false, false⟩ oD cs _) (n₀ := cs.length + 1) lF lN ⟨rfl, .inl ⟨0, [], cO, [], cR, tv 0, [], Nat.zero_le _, rfl, rfl, .nil, .nil, off_none⟩⟩ ?_ (by with_unfolding_all passes_own)
  clear lF lN
  rintro n m₁ nx h₁ tk₁ F₁ N₁ ⟨rfl, ⟨i, vO, cO', vR, cR', t0, tl, hi, hn, rfl, hO, hR, htl⟩ | ⟨rfl, vO, cO', vR, cR', t0, tl, rfl, hO, hR, htl⟩⟩
  · obtain ⟨N₂, NT⟩ := news_two N₁
    replace NT := hid NT
    clear N₁
    simp only [TS.led, TS.stepped, tvset, List.cons_append, List.nil_append, Nat.zero_add, Nat.reduceAdd] at N₂
    (try k_fold)
    k_steps
    refine stop_off ?_
    refine' (t_ready_go (z := (TS.mk dt t dst st lS lE lO lR sd kt ks tv vS cS vE cE [] cO [] cR 0 true ret false false).stepped vO cO' vR cR' (i : Int) t0 false) (oD := oD) (rest := tl) rfl rfl rfl ?lo ?hD).use ?B ?F ?X ?N ?NR ?dis ?T ?hk ?hd ?hu ?_
    case lo => exact lo
    case hD => exact hD
    case B => k_asm
    case F => k_asm
    case X => k_asm
    case N => exact N₂
    case NR => exact NT.out
    case dis => exact off_mem htl
    case T => k_asm
    case hk => first | exact rfl | assumption
    case hd => ktr_room
    case hu => ktr_units
    intro v1 M1 h1 tk1 F1 N1 R1 d1 P1
    obtain ⟨hv, e⟩ := P1
    subst hv e
    replace R1 := hid R1
    clear N₂ NT d1
    simp only [TS.led, TS.stepped, tvset, List.cons_append, List.nil_append, Nat.zero_add, Nat.reduceAdd] at N1
    (try k_fold)
    k_steps
    refine stop_off ?_
    have hLO : vO.length ≤ 1000 := by rw [hO.length, List.length_map, List.length_take]; omega
    have hLR : vR.length ≤ 1000 := by have := lateD_len (cs.take i) 0; rw [hR.length]; rw [List.length_take] at this; omega
    rcases Nat.lt_or_ge i cs.length with hik | hik
    · obtain ⟨c, hc⟩ : ∃ c, cs[i]? = some c := ⟨cs[i], by simp [hik]⟩
      obtain ⟨tc, hvc⟩ := strs_get hS (i := i) (s := sgn c) (by rw [List.getElem?_map, hc]; rfl)
      obtain ⟨r, hr⟩ := rchar_one (c : Int)
      refine' (t_step (z := (TS.mk dt t dst st lS lE lO lR sd kt ks tv vS cS vE cE [] cO [] cR 0 true ret false false).stepped vO cO' vR cR' (i : Int) t0 false) (oD := oD) (rest := tl) (i := i) (c := c) (r := r) (tc := tc) (k := cs.length) (f := faultOf (kind (c : Int))) ?p1 ?p2 rfl rfl rfl rfl ?lo ?hD ?p3 ?p4 ?p5 ?p6 ?p7 rfl ?p8 ?p9).use ?B ?F ?X ?N ?NR ?dis ?T ?hk ?hd ?hu ?_
      case p1 => exact ho
      case p2 => exact hsd
      case lo => exact lo
      case hD => exact hD
      case p3 => exact hlen
      case p4 => exact hik
      case p5 => omega
      case p6 => exact hvc
      case p7 => exact hr
      case p8 => exact hLO
      case p9 => exact hLR
      case B => k_asm
      case F => k_asm
      case X => k_asm
      case N => exact N1
      case NR => exact R1.out
      case dis => exact off_mem htl
      case T => k_asm
      case hk => first | exact rfl | assumption
      case hd => ktr_room
      case hu => ktr_units
      intro v2 M2 h2 tk2 F2 N2 R2 d2 P2
      obtain ⟨hv, v, vs, cO2, cR2, t02, tl2, e, hdat, hdats, hoff⟩ := P2
      subst hv e
      clear N1 R1 d2
      (try k_fold)
      k_steps
      refine stop_off ?_
      have htk : cs.take (i + 1) = cs.take i ++ [c] := by rw [List.take_add_one, hc]; rfl
      refine WhileStep.intro (n' := cs.length - i) F2 (news_one N2 R2) (by omega) ⟨rfl, .inl ⟨i + 1, vO ++ [v], cO2, vR ++ vs, cR2, t02, tl2 ++ tl, hik, by omega, rfl, ?_, ?_, ?_⟩⟩
      · rw [htk, List.map_append]
        exact (dmono hO fun p hp => List.mem_append_right _ hp).append (.one (hdat.mono fun p hp => List.mem_append_left _ hp))
      · rw [htk, lateD_snoc, List.length_take, Nat.min_eq_left hi, Nat.zero_add]
        exact (dmono hR fun p hp => List.mem_append_right _ hp).append (dmono hdats fun p hp => List.mem_append_left _ hp)
      · exact off_app hoff htl
    · have hik : i = cs.length := Nat.le_antisymm hi hik
      subst hik
      refine' (t_stop (z := (TS.mk dt t dst st lS lE lO lR sd kt ks tv vS cS vE cE [] cO [] cR 0 true ret false false).stepped vO cO' vR cR' (cs.length : Int) t0 false) (oD := oD) (rest := tl) (i := cs.length) ?p1 ?p2 rfl rfl rfl rfl ?lo ?hD ?p3 ?p5 ?p8).use ?B ?F ?X ?N ?NR ?dis ?T ?hk ?hd ?hu ?_
      case p1 => exact ho
      case p2 => exact hsd
      case lo => exact lo
      case hD => exact hD
      case p3 => exact hlen
      case p5 => omega
      case p8 => exact hLO
      case B => k_asm
      case F => k_asm
      case X => k_asm
      case N => exact N1
      case NR => exact R1.out
      case dis => exact off_mem htl
      case T => k_asm
      case hk => first | exact rfl | assumption
      case hd => ktr_room
      case hu => ktr_units
      intro v2 M2 h2 tk2 F2 N2 R2 d2 P2
      obtain ⟨hv, v, cO2, t02, tl2, e, hdat, hoff⟩ := P2
      subst hv e
      clear N1 R1 d2
      (try k_fold)
      k_steps
      refine stop_off ?_
      rw [List.take_length] at hO hR
      refine WhileStep.intro (n' := 0) F2 (news_one N2 R2) (by omega) ⟨rfl, .inr ⟨rfl, vO ++ [v], cO2, vR, cR', t02, tl2 ++ tl, rfl, ?_, ?_, ?_⟩⟩
      · exact (dmono hO fun p hp => List.mem_append_right _ hp).append (.one (hdat.mono fun p hp => List.mem_append_left _ hp))
      · exact dmono hR fun p hp => List.mem_append_right _ hp
      · exact off_app hoff htl
  · obtain ⟨N₂, NT⟩ := news_two N₁
    replace NT := hid NT
    clear N₁
    simp only [TS.led, TS.stepped, tvset, List.cons_append, List.nil_append, Nat.zero_add, Nat.reduceAdd] at N₂
    (try k_fold)
    k_steps
    refine stop_off ?_
    refine' (t_ready_done (z := (TS.mk dt t dst st lS lE lO lR sd kt ks tv vS cS vE cE [] cO [] cR 0 true ret false false).stepped vO cO' vR cR' ((cs.length : Int) + 1) t0 true) (oD := oD) (rest := tl) rfl).use ?B ?F ?X ?N ?NR ?dis ?T ?hk ?hd ?hu ?_
    case B => k_asm
    case F => k_asm
    case X => k_asm
    case N => exact N₂
    case NR => exact NT.out
    case dis => exact off_mem htl
    case T => k_asm
    case hk => first | exact rfl | assumption
    case hd => ktr_room
    case hu => ktr_units
    intro v1 M1 h1 tk1 F1 N1 R1 d1 P1
    obtain ⟨hv, e⟩ := P1
    subst hv e
    replace R1 := hid R1
    clear N₂ NT d1
    simp only [TS.led, TS.stepped, tvset, List.cons_append, List.nil_append, Nat.zero_add, Nat.reduceAdd] at N1
    (try k_fold)
    k_steps
    refine stop_off ?_
    refine leaveF_ F1 (news_cons (tl := tl) N1 R1.out) fun kF kN kR kD => ?_
    dsimp only
    refine back_led hret kF kD kN kR (fun p hp => hp) ⟨rfl, vO, cO', vR, cR', t0, tl, rfl, hO, hR, htl⟩
end
end Mine
end
section
open PySem PySem.W PyProof.Rows PySem.Calls
theorem Mine.fresh17 : True := by
  w_top off
  trivial
namespace Mine
theorem cat_lists {w : World} {A : Around} {E : Value → Shared → Prop} {s : Shared} {h₀ : Heap} {L a b : Addr} {m : Str → Option Value} {news : List (Addr × Obj)} {vs ws : List Value} {n1 n2 : Nat} {Q : Value → Shared → Prop}
    (F : Fr h₀ L s.heap m) (N : News h₀ L s.heap news) (ha : (a, listOf vs.toArray n1) ∈ news) (hb : (b, listOf ws.toArray n2) ∈ news) (hz : vs.length + ws.length ≤ 100000)
    (h : ∀ D h', Fr h₀ L h' m → News h₀ L h' ((D, listOf (vs ++ ws).toArray 0) :: news) → (∀ p ∈ news, p.1 < D) → Q (.ref D) { s with heap := h' }) : wpAny (model P w) A (binaryOp .Add (.ref a) (.ref b)) Q E s :=
  kmk_add_lit F N ⟨_, (N _ ha).1, rfl, n1, rfl⟩ ⟨_, (N _ hb).1, rfl, n2, rfl⟩ (by simp) h (by rw [sizeLine_eq]; simp; omega)
noncomputable def tup2 (a b : Addr) : Obj := { cls := .type "tuple", data := .seq #[.ref a, .ref b] }
noncomputable def FinD (w : World) (z : TS) (oD : Obj) (cs : List Nat) (v : Value) (M' : List (Addr × Obj)) : Prop :=
  ∃ vO cO vR cR t0 tl D D2, v = .ref D ∧ M' = (D, tup2 z.lO D2) :: (D2, listOf (z.vE ++ vR).toArray 0) :: (({ z with closed := true }.stepped vO cO vR cR ((cs.length : Int) + 1) t0 true).led w ++ ((z.sd, oD) :: tl)) ∧ DatAll tl vO (cs.map tokD ++ [eofD]) ∧ DatAll tl vR (lateD cs 0)
section
local macro_rules | `(tactic| cell_enter) => `(tactic| (refine' code_defF ?k1 ?k2 ?k3 ?k4 ?r1 ?r2 ?k5 ?kA ?kF ?kK ?k6 ?k7 ?k8 ?k9 ?kB ?_ ?c2 ?c3 ?c4 ?c5; (case r2 => assumption); (case kA => exact rfl); (case kF => exact rfl); (case kK => assumption); (case k1 => k_asm); (case k2 => k_asm); (case k3 => k_asm); (case k4 => assumption); (case r1 => assumption); (case k5 => k_asm); (case k6 => k_is); (case k7 => k_is); (case k8 => ktr_room); (case k9 => first | exact BindsTo.of_eq rfl | exact binds_K (by k_in) rfl (by k_is) rfl rfl rfl); (case c5 => decide); (case kB => exact locs rfl); (case c2 => exact rfl); (case c3 => exact rfl); (case c4 => exact rfl); k_whole; intro g' L' h' RG' FG' F' N' B' X' T'; (try dsimp only); (try k_lift B'); (try k_fold)))
local macro_rules | `(tactic| walk_at "LeaveF") => `(tactic| (k_dflt (refine' leaveF_ ?k1 ?k2 ?_; (case k1 => k_asm); (case k2 => k_asm); k_whole); intro kF kN kR kD; (try dsimp only [InitBack, CmpBack, LenBack, StrBack, BoolBack]); (try refine ⟨rfl, ?_⟩); (try dsimp only)))
local macro_rules | `(tactic| walk_at "callWith") => `(tactic| ((with_reducible refine callWith_method1 ?_ (star_plain _ _ _ ?_) ?_); rotate_left; (focus exact rfl); (focus exact rfl)))
local macro_rules | `(tactic| k_room) => `(tactic| ktr_room)
local macro_rules | `(tactic| k_units) => `(tactic| ktr_units)

local macro_rules | `(tactic| walk_at "LeaveF") => `(tactic| (refine stop_here ?_))
local macro_rules | `(tactic| walk_at "call ref") => `(tactic| (k_here; (with_reducible show wpAny _ _ (call (Value.ref 300) _) _ _ _); refine stop_here ?_))
local macro_rules | `(tactic| walk_at "binaryOp Add ref ref") => `(tactic| (k_here; k_dflt (refine' cat_lists ?k1 ?k2 ?k3 ?k4 ?k5 ?_; (case k1 => k_asm); (case k2 => k_asm); (case k3 => k_mem); (case k4 => k_mem); (case k5 => omega); k_whole); intro D' h' F' N' l1; (try k_lt l1); (try k_sweep)))
theorem t_fin {w mean mg mb} {rest : List (Addr × Obj)} {z : TS} {oD : Obj} {cs : List Nat} (ho : z.ord) (hsd : @LT.lt Nat instLTNat z.sd z.dt) (h1 : z.done = false) (h2 : z.waiting = false) (h3 : z.closed = false) (h4 : z.at_ = 0) (h5 : z.vO = []) (h6 : z.vR = [])
    (lo : (z.sd == sysModules) = false) (hD : oD.IsDictOf (strKind P w) (stK (.ref 342))) (hS : StrsAre z.vS (cs.map sgn)) (hl : cs.length ≤ 900) (hE : z.vE.length ≤ 1000) : TellF w mean mg mb 95 10 (z.led w ++ [(z.sd, oD)]) rest [.ref z.t] (FinD w z oD cs) := by
  obtain ⟨dt, t, dst, st, lS, lE, lO, lR, sd, kt, ks, tv, vS, cS, vE, cE, vO, cO, vR, cR, at_, closed, ret, waiting, done⟩ := z
  dsimp only at h1 h2 h3 h4 h5 h6 lo hsd hS hE
  subst h1 h2 h3 h4 h5 h6
  unfold TS.ord at ho
  unfold TS.led
  dsimp only [List.cons_append, List.nil_append] at ho ⊢
  intro dp un gd cn cs' a ccd cl outer A₀ base h₀ L m s Q E B F X N NR dis T hk' hd hu hret
  refine wpAny_call ?_
  k_dflt cell_enter
  k_steps
  refine stop_off ?_
  rename Fr _ _ _ _ => lF
  rename News _ _ _ _ => lN
  refine' (t_run (z := TS.mk dt t dst st lS lE lO lR sd kt ks tv vS cS vE cE [] cO [] cR 0 true ret false false) (oD := oD) (rest := []) (cs := cs) ho hsd rfl rfl rfl rfl rfl rfl lo hD hS hl).use ?B ?F ?X ?N ?NR ?dis ?T ?hk ?hd ?hu ?_
  case B => k_asm
  case F => k_asm
  case X => k_asm
  case N => exact lN
  case NR => exact News.nil
  case dis => exact fun _ h => nomatch h
  case T => k_asm
  case hk => first | exact rfl | assumption
  case hd => ktr_room
  case hu => ktr_units
  intro v1 M1 h1 tk1 F1 N1 R1 d1 P1
  obtain ⟨hv, vO, cO', vR, cR', t0, tl, e, hO, hR, htl⟩ := P1
  subst hv e
  clear lN R1 d1
  have hLR : vR.length ≤ 1000 := by have := lateD_len cs 0; rw [hR.length]; omega
  simp only [TS.led, TS.stepped, tvset, List.cons_append, List.nil_append, Nat.zero_add, Nat.reduceAdd] at N1
  (try k_fold)
  k_steps
  refine stop_off ?_
  rename Fr _ _ _ _ => lF
  rename News _ _ _ _ => lN
  refine leaveF_ lF lN fun kF kN kR kD => ?_
  dsimp only
  exact back_led hret kF kD kN kR (fun _ h => h) ⟨vO, cO', vR, cR', t0, tl, _, _, rfl, rfl, hO, hR⟩
end
end Mine
end
section
open PySem PySem.W PyProof.Rows PySem.Calls
local macro_rules | `(tactic| walk_at "no such key") => `(tactic| fail "none")
theorem Mine.fresh18 : True := by
  w_top off
  trivial
namespace Mine
abbrev FX := PySem.F.excBase_Exception
/-- an own exception class: what its making asks of it -/
noncomputable def excIn2 (K : Frag) (C : Addr) : Bool := match K.lookup C with
  | some ⟨.type "type", _, .cls cd, sl⟩ => (match cd.mro, sl.toList with
    | .ref C' :: bm, [_, _, _, _, some (.builtin n), _] => C' == C && n == "Exception.__new__" && !cd.hasDel && bm.contains (.type "Exception") && bm.contains (.type "BaseException") && !bm.contains (.type "AttributeError") && !bm.contains (.type "NameError")
    | _, _ => false)
  | _ => false
abbrev excO (C T : Addr) : Obj := { cls := .ref C, data := .fields #[.ref T, .none, .none, .none, .bool false, .none] }
abbrev tupO (vs : List Value) : Obj := { cls := .type "tuple", data := .seq vs.toArray }
/-- an exception made anew: its address, its arguments' -/
structure MadeE (h h' : Heap) (T e C : Addr) (rest : List Value) : Prop where
  keeps : ∀ b o, h.get? b = some o → h'.get? b = some o
  lt : ∀ b o, h.get? b = some o → b < T
  Te : T < e
  he : h'.get? e = some (excO C T)
  hT : h'.get? T = some (tupO rest)
  ne : h.get? e = none
  nT : h.get? T = none
structure ExcC (h : Heap) (C : Addr) : Prop where
  at_ : ∃ nm q N bs bm hdct sn sub ab col dd k0 k1 k2 k3 k5, h.get? C = some (excClassObj nm q C N bs bm hdct sn sub ab col dd k0 k1 k2 k3 k5 "Exception.__new__") ∧ bm.contains (.type "Exception") = true ∧ bm.contains (.type "BaseException") = true ∧ bm.contains (.type "AttributeError") = false ∧ bm.contains (.type "NameError") = false
theorem excC_of {K : Frag} {h : Heap} {C : Addr} (X : K.In h) (q : excIn2 K C = true) : ExcC h C := by
  unfold excIn2 at q
  split at q
  · rename_i dd cd sl ho
    split at q
    · rename_i C' bm k0 k1 k2 k3 n k5 hm hs
      simp only [Bool.and_eq_true, beq_iff_eq, Bool.not_eq_true'] at q
      obtain ⟨⟨⟨⟨⟨⟨rfl, rfl⟩, hdel⟩, q1⟩, q2⟩, q3⟩, q4⟩ := q
      obtain ⟨nm, bs, mro, ns, qn, hd, sn, sub, ab, col, del⟩ := cd
      dsimp only at hm hdel
      subst hm hdel
      have hsl : sl = #[k0, k1, k2, k3, some (.builtin "Exception.__new__"), k5] := by
        obtain ⟨l⟩ := sl
        simp only at hs
        rw [hs]
      subst hsl
      exact ⟨nm, qn, ns, bs, bm, hd, sn, sub, ab, col, dd, k0, k1, k2, k3, k5, X _ _ ho, q1, q2, q3, q4⟩
    · cases q
  · cases q
section
variable {w : World} {A : Around} {E : Value → Shared → Prop} {R : Result → Shared → Prop} {h : Heap} {g : Array GenState} {d : Drawn} {t : Nat} {os : OsState}
variable {nm q : Str} {C N : Addr} {bs bm : List Value} {hdct : Bool} {sn : List Str} {sub : List Value} {ab : Bool} {col : Option Bool} {dd : Option Addr} {k0 k1 k2 k3 k5 : Option Value}
theorem chk_new {rest : List Value} {Q : Unit → Shared → Prop} (hC : h.get? C = some (excClassObj nm q C N bs bm hdct sn sub ab col dd k0 k1 k2 k3 k5 "Exception.__new__")) (hB : bm.contains (.type "Exception") = true) (hq : Q () ⟨h, g, d, t, os⟩) :
    wpAny (model P w) A (checkBuiltinCall "Exception.__new__" ⟨.ref C :: rest, []⟩) Q E ⟨h, g, d, t, os⟩ := by
  have hcont : (Value.ref C :: bm).contains (.type "Exception") = true := by rw [List.contains_cons, hB, Bool.or_true]
  have hstar := FX.noStar
  simp only [checkBuiltinCall, FX.newKind, FX.newSplit, FX.newRow]
  repeat (first | refine wpAny_loadPart_at hC ?_ | (refine wpAny_isSubtype_exc hC ?_; rw [hcont]) | refine wpAny_staticBase_exc hC ?_ | refine wpAny_madeBy_exc hC ?_ | simp only [bne_self_eq_false, Bool.false_eq_true, if_false] | wp_step)
  exact hq
theorem new_exc {rest : List Value} (hC : h.get? C = some (excClassObj nm q C N bs bm hdct sn sub ab col dd k0 k1 k2 k3 k5 "Exception.__new__")) (hB : bm.contains (.type "Exception") = true) (hA : bm.contains (.type "AttributeError") = false) (hN : bm.contains (.type "NameError") = false)
    (hq : R (.ok (.ret (.ref (h.objs.size + 1)))) ⟨(h.push { cls := .type "tuple", data := .seq rest.toArray }).push { cls := .ref C, data := .fields #[.ref h.objs.size, .none, .none, .none, .bool false, .none] }, g, d, t, os⟩) (hrest : rest.length ≤ sizeLine) :
    codeAny (model P w) A (.builtin "Exception.__new__" ⟨.ref C :: rest, []⟩) R ⟨h, g, d, t, os⟩ := by
  have hends := FX.ends
  have hcB : (Value.ref C :: bm).contains (.type "Exception") = true := by rw [List.contains_cons, hB, Bool.or_true]
  have hcA : (Value.ref C :: bm).contains (.type "AttributeError") = false := by rw [List.contains_cons, hA]; rfl
  have hcN : (Value.ref C :: bm).contains (.type "NameError") = false := by rw [List.contains_cons, hN]; rfl
  refine PySem.codeAny_builtinAt FX.entry ?_
  unfold Builtin.«BaseException.__new__»
  refine PySem.wpAt_bind ?_
  show PySem.wpAt _ _ _ (stack >>= _) _ _ _
  refine PySem.wpAt_bind (PySem.wpAt_stack fun p below => PySem.wpAt_of_wpAny ?_)
  wp_walk
  refine PySem.wpAt_of_wpAny ?_
  rw [FX.owner]
  repeat (first | with_reducible refine wpAny_madeHere_exc FX.canon hC ?_ | with_reducible refine wpAny_loadPart_at hC ?_ | (with_reducible refine wpAny_isSubtype_exc hC ?_; first | rw [hcB] | rw [hcA] | rw [hcN]) | wp_step)
  show R _ _
  rw [Heap.size_push]
  exact hq
theorem type_own {K : Frag} {fI : Addr} {rest : List Value} {Q : Fin → Shared → Prop} (X : K.In h) (q2 : excIn2 K C = true) (hi : findIn K (.ref C) "__init__" = some (some (.ref fI))) (hf : typeIn K (.ref fI) = some (.type "function")) (hrest : rest.length ≤ sizeLine)
    (hq : ∀ h' T e, MadeE h h' T e C rest → wpAny (model P w) A (call (.ref fI) (.ref e :: rest)) (fun r s' => r = .none ∧ Q (.done (.ret (.ref e))) s') E ⟨h', g, d, t, os⟩) :
    wpAny (model P w) A (Builtin.«type.__call__» ⟨.ref C :: rest, []⟩) Q E ⟨h, g, d, t, os⟩ := by
  obtain ⟨nm, q, N, bs, bm, hdct, sn, sub, ab, col, dd, k0, k1, k2, k3, k5, hC, hB, hBB, hA, hN⟩ := (excC_of X q2).at_
  repeat (first | with_reducible refine wpAny_loadPart_at hC ?_ | with_reducible refine wpAny_madeBy_exc hC ?_ | wp_step)
  refine codeAny_call_builtin_code (Code.quiet_builtin _ FX.quiet) (chk_new hC hB ?_)
  refine new_exc hC hB hA hN ?_ hrest
  show wpAny _ _ _ _ _ _
  have k : ∀ b o, h.get? b = some o → ((h.push { cls := .type "tuple", data := .seq rest.toArray }).push { cls := .ref C, data := .fields #[.ref h.objs.size, .none, .none, .none, .bool false, .none] }).get? b = some o :=
    fun b o hb => Heap.get?_push_of_some _ (Heap.get?_push_of_some _ hb)
  have hC₁ := Heap.get?_push_of_some { cls := .ref C, data := .fields #[.ref h.objs.size, .none, .none, .none, .bool false, .none] }
    (Heap.get?_push_of_some { cls := .type "tuple", data := .seq rest.toArray } hC)
  have hget : ((h.push { cls := .type "tuple", data := .seq rest.toArray }).push
      { cls := .ref C, data := .fields #[.ref h.objs.size, .none, .none, .none, .bool false, .none] }).get? (h.objs.size + 1) = some
      { cls := .ref C, data := .fields #[.ref h.objs.size, .none, .none, .none, .bool false, .none] } := by heap_get
  have hcC : (Value.ref C :: bm).contains (.ref C) = true := by simp
  unfold isInstance
  repeat (first | with_reducible refine wpAny_loadPart_at hget ?_ | (with_reducible refine wpAny_isSubtype_exc hC₁ ?_; rw [hcC]) | wp_step)
  show wpAny _ _ (typeLookup (.ref C) _) _ _ _
  refine ((looks_findIn (M := model P w) (X.keeps k) hi).at ?_)
  refine wpAny_holding (wpAny_bind ((bind_fn (M := model P w) (X.keeps k) (.ref (h.objs.size + 1)) hf).at ?_))
  refine (wpAny_bind (wpAny_mono (hq _ h.objs.size (h.objs.size + 1) ⟨k, fun b o hb => Heap.lt_size hb, Nat.lt_succ_self _, hget, ?_, Heap.get?_none_of_le (Nat.le_succ _), Heap.get?_none_of_le (Nat.le_refl _)⟩) (fun r s' hr => ?_) fun _ _ x => x))
  · exact Heap.get?_push_of_some _ (Heap.get?_push_at rfl rfl)
  · obtain ⟨rfl, hQ⟩ := hr
    wp_walk
    exact hQ
theorem call_own {K : Frag} {fI : Addr} {rest : List Value} {Q : Value → Shared → Prop} (X : K.In h) (q2 : excIn2 K C = true) (hi : findIn K (.ref C) "__init__" = some (some (.ref fI))) (hf : typeIn K (.ref fI) = some (.type "function")) (hrest : rest.length ≤ sizeLine)
    (hq : ∀ h' T e, MadeE h h' T e C rest → wpAny (model P w) (A.under (.builtin "type.__call__" ⟨.ref C :: rest, []⟩)) (call (.ref fI) (.ref e :: rest)) (fun r s' => r = .none ∧ Q (.ref e) s') E ⟨h', g, d, t, os⟩) :
    wpAny (model P w) A (call (.ref C) rest) Q E ⟨h, g, d, t, os⟩ := by
  obtain ⟨nm, q, N, bs, bm, hdct, sn, sub, ab, col, dd, k0, k1, k2, k3, k5, hC, hB, hBB, hA, hN⟩ := (excC_of X q2).at_
  have f1 := tc_lookup
  have f2 := tc_bind (.ref C)
  have hT : (⟨h, g, d, t, os⟩ : Shared).TypeIs (.ref C) "type" := ⟨_, hC, rfl⟩
  refine wpAny_call (codeAny_of_tree ?_)
  show wpAny _ _ (callAny (.ref C) _) _ _ _
  repeat (any_goals (first | assumption | with_reducible refine wpAny_loadPart_at hC ?_ | wp_step))
  refine ⟨rfl, ?_⟩
  refine codeAny_call_builtin_at (Code.quiet_builtin _ (by decide +kernel)) entry_typeCall (wpAny_check_type_call_sub hC (type_own X q2 hi hf hrest fun h' T e hm => ?_))
  exact hq h' T e hm
theorem MadeE.news {h₀ h h' : Heap} {L T e C : Addr} {m : Str → Option Value} {rest : List Value} {news : List (Addr × Obj)} (M : MadeE h h' T e C rest) (F : Fr h₀ L h m) (N : News h₀ L h news) :
    Fr h₀ L h' m ∧ News h₀ L h' ((e, excO C T) :: (T, tupO rest) :: news) ∧ (∀ p ∈ (T, tupO rest) :: news, p.1 < e) := by
  have F' := F.keeps M.keeps
  have fresh : ∀ b, h.get? b = none → h₀.get? b = none := fun b hb => by
    cases hq : h₀.get? b with
    | none => rfl
    | some o => have := F.keep b o hq; rw [hb] at this; cases this
  have N' : News h₀ L h' news := fun p hp => ⟨M.keeps _ _ (N p hp).1, (N p hp).2⟩
  exact ⟨F', News.more F' (News.more F' N' M.hT (fun es n q => by cases q) (fresh _ M.nT)) M.he (fun es n q => by cases q) (fresh _ M.ne), fun p hp => (List.mem_cons.mp hp).elim (fun q => q ▸ M.Te) fun q => Nat.lt_trans (M.lt _ _ (N p q).1) M.Te⟩
end
/-- what a raised value must be: of an own exception class, made anew -/
noncomputable def RaisableO (w : World) (E : Value → Shared → Prop) (v : Value) (s₁ : Shared) : Prop :=
  ∃ a ob vs C, (hd.heap_1 w.params).In s₁.heap ∧ mroIn (hd.heap_1 w.params) C (.type "BaseException") = some true ∧ typeIn (hd.heap_1 w.params) (.ref C) = some (.type "type") ∧ v = .ref a ∧ s₁.heap.get? a = some ob ∧ ob.cls = .ref C ∧ ob.data = .fields vs ∧ vs[1]? = some .none ∧ E (.ref a) s₁
theorem looks_cls {w : World} {h : Heap} {a : Addr} {o : Obj} (ho : h.get? a = some o) : Looks (model P w) h (typeOf (.ref a)) o.cls := (Looks.ld ho).andThen .now
theorem Raise_newO {w : World} {A : Around} {E : Value → Shared → Prop} {s : Shared} {env : Env} {e : Expr} {pos : Pos} {Q : Flow → Shared → Prop} (hh : A.handled = none)
    (h : wpAny (model P w) A (eval e env) (RaisableO w E) E s) : wpAny (model P w) A (exec (.Raise (some e) none pos) env) Q E s := by
  show wpAny _ A (do standAt pos; raiseStmt env (some (do let v ← eval e env; standAt pos; pure v)) none) Q E s
  refine wpAny_bind (wpAny_standAt ?_)
  unfold raiseStmt
  dsimp only
  refine wpAny_bind (wpAny_bind (wpAny_mono h (fun v s₁ h₁ => wpAny_bind (wpAny_standAt (wpAny_pure ?_))) fun _ _ x => x))
  obtain ⟨a, ob, vs, C, X, hm, ht, rfl, ha, hcls, hd, h1, hE⟩ := h₁
  have T1 : Looks (model P w) s₁.heap (typeOf (.ref a)) (.ref C) := by
    have := looks_cls (w := w) ha
    rw [hcls] at this
    exact this
  have T2 : Looks (model P w) s₁.heap (isInstance (.ref a) (.type "BaseException")) true := T1.andThen (looks_mroIn X hm)
  have hnt : ∀ {Q' : Bool → Shared → Prop}, Q' false s₁ → wpAny (model P w) A (isType (.ref a)) Q' E s₁ := by
    intro Q' hq
    simp only [isType, loadHead]
    refine wpAny_bind (wpAny_loadPart ha ?_)
    rw [hd]; exact wpAny_pure hq
  refine wpAny_bind (wpAny_pure ?_)
  dsimp only
  refine wpAny_bind (wpAny_holding ?_)
  unfold excFromValue isExcClass
  refine wpAny_bind (wpAny_bind (hnt ?_))
  simp only [Bool.false_eq_true, if_false]
  refine wpAny_pure ?_
  simp only [Bool.false_eq_true, if_false]
  refine wpAny_bind (T2.here ?_)
  simp only [if_true]
  refine wpAny_pure ?_
  refine wpAny_bind (hnt ?_)
  simp only [Bool.false_eq_true, if_false]
  unfold raisedInstance
  refine wpAny_bind (wpAny_bind (T1.here (wpAny_bind ((looks_typeIn X ht).here ?_))))
  rw [if_pos (by decide)]
  refine wpAny_pure ?_
  unfold setFlight
  refine wpAny_bind (wpAny_bind (wpAny_field ha hd h1 ?_))
  rw [if_neg (by decide)]
  exact wpAny_pure (wpAny_raiseNew_none hh hE)
end Mine
end
section
open PySem PySem.W PyProof.Rows PySem.Calls
theorem Mine.fresh19 : True := by
  w_top off
  trivial
namespace Mine
abbrev excD (C T d : Addr) : Obj := { cls := .ref C, dict := some d, data := .fields #[.ref T, .none, .none, .none, .bool false, .none] }
theorem q86 (w : World) : excIn2 (hd.heap_1 w.params) 86 = true := by rfl
theorem i86 (w : World) : findIn (hd.heap_1 w.params) (.ref 86) "__init__" = some (some (.ref 70)) := by rfl
theorem f70 (w : World) : typeIn (hd.heap_1 w.params) (.ref 70) = some (.type "function") := by rfl
theorem b86 (w : World) : mroIn (hd.heap_1 w.params) 86 (.type "BaseException") = some true := by rfl
theorem x86 (w : World) : mroIn (hd.heap_1 w.params) 86 (.type "Exception") = some true := by rfl
theorem o86 (w : World) : mroIn (hd.heap_1 w.params) 86 (.type "object") = some true := by rfl
theorem y86 (w : World) : typeIn (hd.heap_1 w.params) (.ref 86) = some (.type "type") := by rfl
theorem s86 (w : World) : findIn (hd.heap_1 w.params) (.ref 86) "__setattr__" = some (some (.builtin "object.__setattr__")) := by rfl
theorem w86 (w : World) : findIn (hd.heap_1 w.params) (.ref 86) "why" = some none := by rfl
theorem m86 (w : World) : (clsIn (hd.heap_1 w.params) 86).map (fun cd => (cd.mro, cd.hasDict)) = some ([.ref 86, .ref 73, .type "Exception", .type "BaseException", .type "object"], true) := by rfl
theorem typ_exc : typeOf (.type "Exception") = pure (.type "type") := by rfl
section
variable {w : World} {A : Around} {E : Value → Shared → Prop} {h₀ : Heap} {L T e : Addr} {m : Str → Option Value} {rest : List (Addr × Obj)} {v : Value} {h : Heap} {g : Array GenState} {d : Drawn} {t : Nat} {os : OsState}
theorem chk_init {as : List Value} {Q : Unit → Shared → Prop} (X : (hd.heap_1 w.params).In h) {oe : Obj} (he : h.get? e = some oe) (hcls : oe.cls = .ref 86) (hq : Q () ⟨h, g, d, t, os⟩) :
    wpAny (model P w) A (checkBuiltinCall "Exception.__init__" ⟨.ref e :: as, []⟩) Q E ⟨h, g, d, t, os⟩ := by
  obtain ⟨nm, q, N, bs, bm, hdct, sn, sub, ab, col, dd, k0, k1, k2, k3, k5, hC, hB, hBB, hA, hN⟩ := (excC_of X (q86 w)).at_
  have hcB : (Value.ref 86 :: bm).contains (.type "Exception") = true := by rw [List.contains_cons, hB, Bool.or_true]
  have hshort := FX.noStar
  simp only [checkBuiltinCall, FX.initKind, FX.initSplit, FX.initRow]
  repeat (first | (with_reducible refine wpAny_loadPart_at he ?_; rw [hcls]) | with_reducible refine wpAny_loadPart_at hC ?_ | (with_reducible refine wpAny_isSubtype_exc hC ?_; rw [hcB]) | wp_step)
  refine wpAny_onRaise ?_
  rw [show ∀ (a b : String) (n : Nat), Bind.check ⟨.positional, "*", "Exception", .self, [⟨"args", .varPos, false⟩]⟩ a b n (List.map (fun x => x.fst) ({ pos := Value.ref e :: as } : Args).kw) = pure () from
    fun a b n => check_star_args _ _ _ _ _ _]
  exact wpAny_pure hq
theorem init_run {Q : Value → Shared → Prop} (F : Fr h₀ L h m) (X₀ : (hd.heap_1 w.params).In h₀) (N : News h₀ L h ((e, excO 86 T) :: rest)) (hne : ∀ p ∈ rest, p.1 ≠ e)
    (hk : ∀ T2 h', Fr h₀ L h' m → News h₀ L h' ((T2, tupO [v]) :: (e, excO 86 T2) :: rest) → (∀ p ∈ (e, excO 86 T) :: rest, p.1 < T2) → Q .none ⟨h', g, d, t, os⟩) :
    wpAny (model P w) A (call (.builtin "Exception.__init__") [.ref e, v]) Q E ⟨h, g, d, t, os⟩ := by
  have X := X₀.keeps F.keep
  have he := (N _ (.head _)).1
  refine wpAny_call (codeAny_call_builtin FX.init.plain FX.initEntry (chk_init X he rfl ?_))
  unfold Builtin.«BaseException.__init__»
  dsimp only
  rw [if_neg (by simp)]
  unfold newTuple Builtin.BaseException.bexcPut
  have he₁ := Heap.get?_push_of_some (h := h) (tupO [v]) he
  refine wpAny_bind (wpAny_newObj_type (wpAny_bind (wpAny_bind (wpAny_field he₁ rfl rfl (wpAny_bind (PySem.wpAny_setField he₁ rfl (by simp) ?_))))) (by show (1 : Nat) ≤ sizeLine; decide))
  have F1 : Fr h₀ L (h.push (tupO [v])) m := F.push _
  have N1 : News h₀ L (h.push (tupO [v])) ((h.objs.size, tupO [v]) :: (e, excO 86 T) :: rest) := News.push F N _
  have hlt : ∀ p ∈ (e, excO 86 T) :: rest, p.1 < h.objs.size := fun p hp => Heap.lt_size (N p hp).1
  obtain ⟨F2, N2⟩ := news_upd (pre := [(h.objs.size, tupO [v])]) (d := e) (o := excO 86 T) (post := rest) (f := Obj.mapFields (·.setIfInBounds 0 (.ref h.objs.size))) (o' := excO 86 h.objs.size) F1 N1
    (by intro p hp; rw [List.mem_singleton.mp hp]; exact Nat.ne_of_gt (hlt _ (.head _))) hne rfl rfl
  exact wpAny_letGo (wpAny_pure (hk _ _ F2 N2 hlt))
theorem set_why {Q : Unit → Shared → Prop} {p : Addr × Obj} (F : Fr h₀ L h m) (X₀ : (hd.heap_1 w.params).In h₀) (N : News h₀ L h (p :: (e, excO 86 T) :: rest)) (hne : ∀ q ∈ rest, q.1 ≠ e) (hp : p.1 ≠ e)
    (hk : ∀ d' h' t', Fr h₀ L h' m → News h₀ L h' (p :: (e, excD 86 T d') :: rest) → Q () ⟨h', g, d, t', os⟩) :
    wpAny (model P w) A (setAttr (.ref e) (Str.ofString "why") v) Q E ⟨h, g, d, t, os⟩ := by
  have X := X₀.keeps F.keep
  have he := (N (e, excO 86 T) (.tail _ (.head _))).1
  have I : InstAt h e (excO 86 T) 86 none := ⟨he, rfl, rfl, trivial⟩
  refine set_plain (s := ⟨h, g, d, t, os⟩) X I (s86 w) ?_
  have SF := PySem.F.store_object
  have sub : Looks (model P w) h (isInstance (.ref e) (.type "object")) true := I.type.andThen (looks_mroIn X (o86 w))
  refine codeAny_call_builtin SF.slot.plain SF.entry (@check_slot (model P w) _ _ ⟨h, g, d, t + 1, os⟩ "object.__setattr__" "object" "__setattr__" (.ref e) [.str (Str.ofString "why") t, v] [] _ SF.kind SF.split sub (SF.args (.ref e) (.str (Str.ofString "why") t) v) ?_)
  obtain ⟨cd, hc, hcd⟩ := Option.map_eq_some_iff.mp (m86 w)
  obtain ⟨hcm, hcd⟩ := Prod.mk.inj hcd
  have hm : Looks (model P w) h (mroOf (.ref 86)) cd.mro := (looks_clsIn X hc).andThen .now
  rw [hcm] at hm
  rw [osa_eq, refuse_eq]
  refine wpAny_bind (wpAny_bind (I.type.here (wpAny_bind (hm.here ?_))))
  rw [refuseLoop_ref, refuseLoop_ref]
  rw [show refuseLoop (.ref e) "__setattr__" [.type "Exception", .type "BaseException", .type "object"] = pure () from by kernel_rfl]
  refine wpAny_pure (wpAny_bind (I.type.here (wpAny_bind ((looks_findIn X (w86 w)).here (wpAny_bind (wpAny_pure ?_))))))
  refine wpAny_bind (wpAny_pure (wpAny_bind (wpAny_bind (wpAny_loadPart he (wpAny_bind ((looks_clsIn X hc).here ?_))))))
  rw [hcd]
  refine wpAny_bind (wpAny_alloc ?_)
  have F1 : Fr h₀ L (h.push emptyDict) m := F.push _
  have N1 : News h₀ L (h.push emptyDict) ((h.objs.size, emptyDict) :: p :: (e, excO 86 T) :: rest) := News.push F N _
  have hlt : ∀ q ∈ p :: (e, excO 86 T) :: rest, q.1 < h.objs.size := fun q hq => Heap.lt_size (N q hq).1
  have he1 := (N1 (e, excO 86 T) (.tail _ (.tail _ (.head _)))).1
  have hed : e < h.objs.size := hlt (e, excO 86 T) (.tail _ (.head _))
  obtain ⟨F2, N2⟩ := news_upd (pre := [(h.objs.size, emptyDict), p]) (d := e) (o := excO 86 T) (post := rest) (f := fun o => { o with dict := some h.objs.size }) (o' := excD 86 T h.objs.size) F1 N1
    (by
      intro q hq
      rcases List.mem_cons.mp hq with hq | hq
      · rw [hq]; exact Nat.ne_of_gt hed
      · rw [List.mem_singleton.mp hq]; exact hp) hne rfl rfl
  refine wpAny_bind (wpAny_update he1 ?_)
  refine wpAny_pure ?_
  have D := (N2 (h.objs.size, emptyDict) (.head _)).1
  obtain ⟨F3, N3⟩ := news_upd (pre := []) (d := h.objs.size) (o := emptyDict) (post := p :: (e, excD 86 T h.objs.size) :: rest) (f := Obj.putName (Str.ofString "why") (PyData.keyHash w.params (Str.ofString "why")) (.str (Str.ofString "why") (t + 1)) v)
    (o' := dictOf [⟨PyData.keyHash w.params (Str.ofString "why"), .str (Str.ofString "why") (t + 1), v⟩] 1) F2 N2 (fun _ hq => nomatch hq)
    (by
      intro q hq
      rcases List.mem_cons.mp hq with hq | hq
      · rw [hq]; exact Nat.ne_of_lt (hlt p (.head _))
      · rcases List.mem_cons.mp hq with hq | hq
        · rw [hq]; exact Nat.ne_of_lt hed
        · exact Nat.ne_of_lt (hlt q (.tail _ (.tail _ hq)))) (by rfl) rfl
  have D' := (N3 _ (.head _)).1
  refine wpAny_bind (wpAny_pure (wpAny_bind ?_))
  unfold nsSet
  refine wpAny_bind (wpAny_bind (wpAny_askSetting (wpAny_pure (wpAny_bind (wpAny_mkText (wpAny_bind (wpAny_loadPart D ?_)))))))
  dsimp only
  rw [aRefKeyMayBeTheName_at]
  rw [if_neg (by simp)]
  refine wpAny_updatePart D ?_
  refine wpAny_bind (wpAny_lookBehind D' (by rfl) ?_)
  exact wpAny_pure (hk _ _ _ F3 fun q hq => N3 q (.tail _ hq))
end
end Mine
end
section
open PySem PySem.W PyProof.Rows PySem.Calls
local macro_rules | `(tactic| walk_at "no such key") => `(tactic| fail "none")
theorem Mine.fresh20 : True := by
  w_top off
  trivial
namespace Mine
section
variable {M : Model} {A : Around} {E : Value → Shared → Prop} {s' : Shared} {base g : Heap} {outer : List Env} {L a e T : Addr} {m : Str → Option Value} {name : Str} {scope : Scope} {cd : Value} {Q : Unit → Shared → Prop} {N' : List (Addr × Obj)} {eo : Obj} {vs : List Value}
theorem leave_own (K : Below A base outer g) (F : Fr g L s'.heap m) (N : News g L s'.heap N') (me : (e, eo) ∈ N') (hd : eo.data = .fields #[.ref T, .none, .none, .none, .bool false, .none]) (mT : (T, tupO vs) ∈ N')
    (hQ : ∀ h', RaisedS base g outer e eo.cls T vs [] h' → g.UpToSlots h' → Q () { s' with heap := h' }) (hk : scope.kind = .function := by rfl) :
    wpAny M (A.deeper (envOf name scope L a cd)) (leaving (envOf name scope L a cd) (.ref e)) Q E s' := by
  have K' := K.push (name := name) (a := a) (cd := cd) F hk
  have he := N _ me
  have hT := N _ mT
  have hin : ∀ env ∈ (envOf name scope L a cd :: outer), ∀ b, env.frame = some b → b ∈ e :: T :: (envOf name scope L a cd :: outer).filterMap (·.frame) := fun env he b hb => .tail _ (.tail _ (List.mem_filterMap.mpr ⟨env, he, hb⟩))
  have out : ∀ b o, g.get? b = some o → b ∉ (envOf name scope L a cd :: outer).filterMap (·.frame) → b ∉ e :: T :: (envOf name scope L a cd :: outer).filterMap (·.frame) := by
    intro b o q nm hm
    rcases List.mem_cons.mp hm with z | hm
    · have := he.2.2; rw [z] at q; rw [q] at this; cases this
    rcases List.mem_cons.mp hm with z | hm
    · have := hT.2.2; rw [z] at q; rw [q] at this; cases this
    · exact nm hm
  have st : base.StaysIn (hideAll s'.heap (e :: T :: (envOf name scope L a cd :: outer).filterMap (·.frame))) := fun b o q => hideAll_get _ (K'.stays b o q) (out b o (K.stays b o q) fun hm => by
    rw [(K'.frames.mem hm).1] at q; cases q)
  have sg : ∀ b o, g.get? b = some o → b ∉ outer.filterMap (·.frame) → (hideAll s'.heap (e :: T :: (envOf name scope L a cd :: outer).filterMap (·.frame))).get? b = some o := fun b o q nm => hideAll_get _ (F.keep b o q) (out b o q fun hm => by
    rcases kts_mem hm with z | z
    · rw [z, kts_self F] at q
      cases q
    · exact nm z)
  have hen : (hideAll s'.heap (e :: T :: (envOf name scope L a cd :: outer).filterMap (·.frame))).get? e = none := hideAll_none _ (.head _)
  have hTn : (hideAll s'.heap (e :: T :: (envOf name scope L a cd :: outer).filterMap (·.frame))).get? T = none := hideAll_none _ (.tail _ (.head _))
  refine wpAny_leaving_firstW (a0 := .ref T) K'.stack (funFrames_hide K'.frames hin) rfl he.1 (fun b o hb => of_hideAll _ hb) hen hd rfl rfl fun h' hL => ?_
  obtain ⟨k1, ⟨_, _, k2⟩, k3, k4⟩ := hL
  exact hQ h' ⟨⟨_, st, sg, (fun _ q => nomatch q), ⟨k1, hen, k2, k3⟩, hTn⟩, Heap.TupAt.of_slots ⟨_, _, hT.1, rfl, rfl⟩ k4⟩ ((Heap.UpToSlots.of_keeps F.keep).trans k4)
end
theorem raised_rest {base h₀ g h' : Heap} {l : List Env} {e T : Addr} {cls : Value} {vs : List Value} {rest : List (Addr × Obj)} (R : RaisedS base g l e cls T vs [] h') (hr : ∀ p ∈ rest, g.get? p.1 = some p.2) (hn : ∀ p ∈ rest, h₀.get? p.1 = none) (hb : base.StaysIn h₀) (hf : ∀ p ∈ rest, p.1 ∉ l.filterMap (·.frame)) :
    RaisedS base (hideAll g (rest.map (·.1))) l e cls T vs rest h' := by
  obtain ⟨⟨B, h1, h2, h3, h4, h5⟩, h6⟩ := R
  refine ⟨⟨B, h1, fun b o q nm => h2 b o (of_hideAll _ q) nm, fun q hq => ⟨h2 _ _ (hr q hq) (hf q hq), hideAll_none _ (List.mem_map_of_mem hq), ?_⟩, h4, h5⟩, h6⟩
  cases z : base.get? q.1 with
  | none => rfl
  | some o => have := hb _ _ z; rw [hn q hq] at this; cases this
/-- the call of the def at f raises the own exception of class C -/
noncomputable def TellX (w : World) (mean : ExcName → Option Value) (mg mb : Str → Option Value) (f : Addr) (C : Addr) (cost : Nat) (M rest : List (Addr × Obj)) (pos : List Value) : Prop :=
  ∀ (dp un : Nat) (gd : Option (List Code)) (cn : Str) (cs : Scope) (a : Addr) (ccd : Value) (cl : List (Str × Addr)) (outer : List Env) (A₀ : Around) (base h₀ : Heap) (L : Addr) (m : Str → Option Value) (s : Shared) (Q E : Value → Shared → Prop),
    Below A₀ base outer h₀ → Fr h₀ L s.heap m → (hd.heap_1 w.params).In h₀ → News h₀ L s.heap M → News h₀ L s.heap rest → (∀ p ∈ rest, p.1 ∉ M.map (·.1)) → Top hd.view_39 (looseW hd.view_39 []) mean mg mb h₀ → cs.kind = .function →
    dp + cost < recursionLimit → un + 8 * cost < cLine →
    (∀ g h' e T vs tk', Fr h₀ L g m → (∀ p ∈ rest, g.get? p.1 = some p.2) → RaisedS base g (envX cn cs L a ccd cl :: outer) e (.ref C) T vs [] h' → g.UpToSlots h' → E (.ref e) { s with heap := h', toks := tk' }) →
    wpAny (model P w) (ktrTop dp un gd cn cs L a ccd cl outer) (call (.ref f) pos) Q E s
section
local macro_rules | `(tactic| cell_enter) => `(tactic| (refine' code_defF ?k1 ?k2 ?k3 ?k4 ?r1 ?r2 ?k5 ?kA ?kF ?kK ?k6 ?k7 ?k8 ?k9 ?kB ?_ ?c2 ?c3 ?c4 ?c5; (case r2 => assumption); (case kA => exact rfl); (case kF => exact rfl); (case kK => assumption); (case k1 => k_asm); (case k2 => k_asm); (case k3 => k_asm); (case k4 => assumption); (case r1 => assumption); (case k5 => k_asm); (case k6 => k_is); (case k7 => k_is); (case k8 => ktr_room); (case k9 => first | exact BindsTo.of_eq rfl | exact binds_K (by k_in) rfl (by k_is) rfl rfl rfl); (case c5 => decide); (case kB => exact locs rfl); (case c2 => exact rfl); (case c3 => exact rfl); (case c4 => exact rfl); k_whole; intro g' L' h' RG' FG' F' N' B' X' T'; (try dsimp only); (try k_lift B'); (try k_fold)))
local macro_rules | `(tactic| walk_at "LeaveF") => `(tactic| (k_dflt (refine' leaveF_ ?k1 ?k2 ?_; (case k1 => k_asm); (case k2 => k_asm); k_whole); intro kF kN kR kD; (try dsimp only [InitBack, CmpBack, LenBack, StrBack, BoolBack]); (try refine ⟨rfl, ?_⟩); (try dsimp only)))
local macro_rules | `(tactic| walk_at "callWith") => `(tactic| ((with_reducible refine callWith_method1 ?_ (star_plain _ _ _ ?_) ?_); rotate_left; (focus exact rfl); (focus exact rfl)))
local macro_rules | `(tactic| k_room) => `(tactic| ktr_room)
local macro_rules | `(tactic| k_units) => `(tactic| ktr_units)

local macro_rules | `(tactic| walk_at "exec While Call cons nil") => `(tactic| (k_here; k_dflt (refine whl_start 100 ?_)))
local macro_rules | `(tactic| walk_at "call ref") => `(tactic| (k_here; (with_reducible show wpAny _ _ (call (Value.ref 293) _) _ _ _); refine stop_here ?_))
local macro_rules | `(tactic| walk_at "exec Raise some none") => `(tactic| (k_here; (with_unfolding_all refine Raise_newO rfl ?_)))
local macro_rules | `(tactic| walk_at "call ref") => `(tactic| (k_here; (with_reducible show wpAny _ _ (call (Value.ref 86) _) _ _ _); refine stop_here ?_))
local macro_rules | `(tactic| walk_at "getMethod type:Exception") => `(tactic| (k_here; refine' method_type ?F ?X typ_exc (by decide +kernel) ?e ?h ?_; (case F => k_asm); (case X => k_asm); (case e => k_dflt k_is); (case h => k_handed)))
local macro_rules | `(tactic| walk_at "call builtin:Exception.__init__") => `(tactic| (k_here; k_dflt (refine' init_run ?k1 ?k2 ?k3 ?k4 ?_; (case k1 => k_asm); (case k2 => k_asm); (case k3 => k_asm); (case k4 => k_all); intro T' h' F' N' l1; (try k_lt l1))))
local macro_rules | `(tactic| walk_at "setAttr ref") => `(tactic| (k_here; (with_reducible show wpAny _ _ (setAttr (Value.ref _) (PySem.Str.ofString "why") _) _ _ _); k_dflt (refine' set_why ?k1 ?k2 ?k3 ?k4 ?k5 ?_; (case k1 => k_asm); (case k2 => k_asm); (case k3 => k_asm); (case k4 => k_all); (case k5 => dsimp only; k_ne); intro d' h' t' F' N')))
local macro_rules | `(tactic| k_all) => `(tactic| first | exact allLt_ne (by assumption) | exact allLt_ne (And.right (by assumption)) | exact OwnOff.ne (by assumption) (by k_mem))
theorem t_finX {w mean mg mb} {rest : List (Addr × Obj)} {z : TS} {oD : Obj} (ho : z.ord) (hsd : @LT.lt Nat instLTNat z.sd z.dt) (h1 : z.done = false) (h2 : z.waiting = false) (h3 : z.closed = false)
    (lo : (z.sd == sysModules) = false) (hD : oD.IsDictOf (strKind P w) []) : TellX w mean mg mb 95 86 10 (z.led w ++ [(z.sd, oD)]) rest [.ref z.t] := by
  obtain ⟨dt, t, dst, st, lS, lE, lO, lR, sd, kt, ks, tv, vS, cS, vE, cE, vO, cO, vR, cR, at_, closed, ret, waiting, done⟩ := z
  dsimp only at h1 h2 h3 lo hsd
  subst h1 h2 h3
  unfold TS.ord at ho
  unfold TS.led
  dsimp only [List.cons_append, List.nil_append] at ho ⊢
  intro dp un gd cn cs' a ccd cl outer A₀ base h₀ L m s Q E B F X N NR dis T hk' hd hu hret
  refine wpAny_call ?_
  k_dflt cell_enter
  k_steps
  refine stop_off ?_
  rename Fr _ _ _ _ => lF
  rename News _ _ _ _ => lN
  refine' (t_ready_no (z := TS.mk dt t dst st lS lE lO lR sd kt ks tv vS cS vE cE vO cO vR cR at_ true ret false false) (oD := oD) (rest := []) rfl rfl rfl lo hD).use ?B ?F ?X ?N ?NR ?dis ?T ?hk ?hd ?hu ?_
  case B => k_asm
  case F => k_asm
  case X => k_asm
  case N => exact lN
  case NR => exact News.nil
  case dis => exact fun _ h => nomatch h
  case T => k_asm
  case hk => first | exact rfl | assumption
  case hd => ktr_room
  case hu => ktr_units
  intro v1 M1 h1 tk1 F1 N1 R1 d1 P1
  obtain ⟨hv, e⟩ := P1
  subst hv e
  clear lN R1 d1
  simp only [TS.led, List.cons_append, List.nil_append] at N1
  (try k_fold)
  k_steps
  refine stop_off ?_
  rename Fr _ _ _ _ => lF
  rename News _ _ _ _ => lN
  refine call_own (K := Mine.hd.heap_1 w.params) (Frag.In.keeps (by k_asm) lF.keep) (q86 w) (i86 w) (f70 w) (by show (1 : Nat) ≤ sizeLine; decide) ?_
  intro h2 T e ME
  obtain ⟨F2, N2, l1⟩ := ME.news lF lN
  clear lF lN ME
  k_lt l1
  (try k_fold)
  k_steps
  rename Fr _ _ _ _ => lF
  rename News _ _ _ _ => lN
  refine ⟨e, _, _, 86, Frag.In.keeps (by k_asm) lF.keep, b86 w, y86 w, rfl, (lN (e, excD 86 _ _) (by k_mem)).1, rfl, rfl, rfl, ?_⟩
  k_dflt (refine' leave_own (e := e) (eo := excD 86 _ _) ?K lF lN ?me ?hd ?mT ?_)
  case K => k_asm
  case me => k_mem
  case hd => exact rfl
  case mT => exact List.Mem.head _
  intro h9 R9 U9
  exact hret _ h9 e _ _ _ (by assumption) (by assumption) R9 U9
end
end Mine
end
section
open PySem PySem.W PyProof.Rows PySem.Calls
theorem Mine.fresh21 : True := by
  w_top off
  trivial
namespace Mine
noncomputable def ReadN (m : Str → Option Value) (lT lY lL Wa d : Addr) (x S : Str) (tx tS : Tok) : Prop :=
  m (Str.ofString "tokens") = some (.ref lT) ∧ m (Str.ofString "early") = some (.ref lY) ∧ m (Str.ofString "late") = some (.ref lL) ∧ m (Str.ofString "words") = some (.ref Wa) ∧ m (Str.ofString "signs") = some (.str S tS) ∧ m (Str.ofString "table") = some (.ref d) ∧ m (Str.ofString "text") = some (.str x tx)
noncomputable def ReadJ (lT lY lL Wa d : Nat) (ow o : Obj) (x S : Str) (tx tS : Tok) (cs : List Nat) (i : Nat) (m : Str → Option Value) (nx : List (Addr × Obj)) : Prop :=
  ReadN m lT lY lL Wa d x S tx tS ∧
  ∃ vT cT vY cY vL cL tl, nx = (lT, listOf vT.toArray cT) :: (lY, listOf vY.toArray cY) :: (lL, listOf vL.toArray cL) :: (Wa, ow) :: (d, o) :: tl ∧ DatAll tl vT ((cs.take i).map tokD) ∧ DatAll tl vY ((earlyL (cs.take i) 0).map errD) ∧ DatAll tl vL (lateD (cs.take i) 0) ∧ OwnOff tl [lT, lY, lL, Wa, d]
theorem read_end {lT lY lL Wa d : Nat} {ow o : Obj} {x S : Str} {tx tS : Tok} {cs : List Nat} {i : Nat} {own tl add N' : List (Addr × Obj)} {g : Heap} {L : Addr} {s₁ : Shared} {h' : Heap} {tk : Nat} {m' : Str → Option Value} {vT vY vL : List Value} {cT cY cL : Nat}
    (F : Fr g L h' m') (N : News g L h' N') (hn : ReadN m' lT lY lL Wa d x S tx tS)
    (m1 : (lT, listOf vT.toArray cT) ∈ N') (m2 : (lY, listOf vY.toArray cY) ∈ N') (m3 : (lL, listOf vL.toArray cL) ∈ N') (m4 : (Wa, ow) ∈ N') (m5 : (d, o) ∈ N')
    (ma : ∀ p ∈ add, p ∈ N') (mt : ∀ p ∈ tl, p ∈ N') (mo : ∀ p ∈ own, p ∈ N') (oz : OwnOff own [lT, lY, lL, Wa, d]) (oa : ∀ q ∈ add, ∀ p ∈ own, p.1 < q.1) (ot : OwnOff own (tl.map (·.1))) (ta : ∀ q ∈ add, ∀ b ∈ [lT, lY, lL, Wa, d], b < q.1) (tz : OwnOff tl [lT, lY, lL, Wa, d])
    (hT : DatAll (add ++ tl) vT ((cs.take (i + 1)).map tokD)) (hY : DatAll (add ++ tl) vY ((earlyL (cs.take (i + 1)) 0).map errD)) (hL : DatAll (add ++ tl) vL (lateD (cs.take (i + 1)) 0)) :
    InvEndG g L (ReadJ lT lY lL Wa d ow o x S tx tS cs (i + 1)) own s₁ { s₁ with heap := h', toks := tk } := by
  refine ⟨h', tk, m', N', _, rfl, F, N, ?_, mo, ?_, hn, vT, cT, vY, cY, vL, cL, add ++ tl, rfl, hT, hY, hL, ?_⟩
  · exact List.forall_mem_cons.mpr ⟨m1, List.forall_mem_cons.mpr ⟨m2, List.forall_mem_cons.mpr ⟨m3, List.forall_mem_cons.mpr ⟨m4, List.forall_mem_cons.mpr ⟨m5, List.forall_mem_append.mpr ⟨ma, mt⟩⟩⟩⟩⟩⟩
  · intro p hp b hb
    rw [List.map_cons, List.map_cons, List.map_cons, List.map_cons, List.map_cons, List.map_append] at hb
    have hb' : b ∈ [lT, lY, lL, Wa, d] ∨ b ∈ add.map (·.1) ∨ b ∈ tl.map (·.1) := by
      rcases List.mem_cons.mp hb with h | hb
      · exact .inl (by rw [h]; simp)
      rcases List.mem_cons.mp hb with h | hb
      · exact .inl (by rw [h]; simp)
      rcases List.mem_cons.mp hb with h | hb
      · exact .inl (by rw [h]; simp)
      rcases List.mem_cons.mp hb with h | hb
      · exact .inl (by rw [h]; simp)
      rcases List.mem_cons.mp hb with h | hb
      · exact .inl (by rw [h]; simp)
      exact .inr (List.mem_append.mp hb)
    rcases hb' with h | h | h
    · exact oz p hp b h
    · obtain ⟨q, hq, rfl⟩ := List.mem_map.mp h
      exact Nat.ne_of_lt (oa q hq p hp)
    · exact ot p hp b h
  · intro p hp b hb
    rcases List.mem_append.mp hp with h | h
    · exact Nat.ne_of_gt (ta p h b hb)
    · exact tz p h b hb
theorem read_e1 {lT lY lL Wa d : Nat} {ow o : Obj} {x S : Str} {tx tS : Tok} {cs : List Nat} {i : Nat} {own tl N' : List (Addr × Obj)} {p1 : Addr × Obj} {g : Heap} {L : Addr} {s₁ : Shared} {h' : Heap} {tk : Nat} {m' : Str → Option Value} {vT vY vL : List Value} {cT cY cL : Nat}
    (F : Fr g L h' m') (N : News g L h' (p1 :: N')) (hn : ReadN m' lT lY lL Wa d x S tx tS)
    (m1 : (lT, listOf vT.toArray cT) ∈ p1 :: N') (m2 : (lY, listOf vY.toArray cY) ∈ p1 :: N') (m3 : (lL, listOf vL.toArray cL) ∈ p1 :: N') (m4 : (Wa, ow) ∈ p1 :: N') (m5 : (d, o) ∈ p1 :: N')
    (mt : ∀ p ∈ tl, p ∈ p1 :: N') (mo : ∀ p ∈ own, p ∈ p1 :: N') (oz : OwnOff own [lT, lY, lL, Wa, d]) (oa : ∀ q ∈ [p1], ∀ p ∈ own, p.1 < q.1) (ot : OwnOff own (tl.map (·.1))) (ta : ∀ q ∈ [p1], ∀ b ∈ [lT, lY, lL, Wa, d], b < q.1) (tz : OwnOff tl [lT, lY, lL, Wa, d])
    (hT : DatAll ([p1] ++ tl) vT ((cs.take (i + 1)).map tokD)) (hY : DatAll ([p1] ++ tl) vY ((earlyL (cs.take (i + 1)) 0).map errD)) (hL : DatAll ([p1] ++ tl) vL (lateD (cs.take (i + 1)) 0)) :
    InvEndG g L (ReadJ lT lY lL Wa d ow o x S tx tS cs (i + 1)) own s₁ { s₁ with heap := h', toks := tk } :=
  read_end (add := [p1]) F N hn m1 m2 m3 m4 m5 (List.forall_mem_cons.mpr ⟨List.Mem.head _, List.forall_mem_nil _⟩) mt mo oz oa ot ta tz hT hY hL
theorem read_e2 {lT lY lL Wa d : Nat} {ow o : Obj} {x S : Str} {tx tS : Tok} {cs : List Nat} {i : Nat} {own tl N' : List (Addr × Obj)} {p1 p2 : Addr × Obj} {g : Heap} {L : Addr} {s₁ : Shared} {h' : Heap} {tk : Nat} {m' : Str → Option Value} {vT vY vL : List Value} {cT cY cL : Nat}
    (F : Fr g L h' m') (N : News g L h' (p1 :: p2 :: N')) (hn : ReadN m' lT lY lL Wa d x S tx tS)
    (m1 : (lT, listOf vT.toArray cT) ∈ p1 :: p2 :: N') (m2 : (lY, listOf vY.toArray cY) ∈ p1 :: p2 :: N') (m3 : (lL, listOf vL.toArray cL) ∈ p1 :: p2 :: N') (m4 : (Wa, ow) ∈ p1 :: p2 :: N') (m5 : (d, o) ∈ p1 :: p2 :: N')
    (mt : ∀ p ∈ tl, p ∈ p1 :: p2 :: N') (mo : ∀ p ∈ own, p ∈ p1 :: p2 :: N') (oz : OwnOff own [lT, lY, lL, Wa, d]) (oa : ∀ q ∈ [p1, p2], ∀ p ∈ own, p.1 < q.1) (ot : OwnOff own (tl.map (·.1))) (ta : ∀ q ∈ [p1, p2], ∀ b ∈ [lT, lY, lL, Wa, d], b < q.1) (tz : OwnOff tl [lT, lY, lL, Wa, d])
    (hT : DatAll ([p1, p2] ++ tl) vT ((cs.take (i + 1)).map tokD)) (hY : DatAll ([p1, p2] ++ tl) vY ((earlyL (cs.take (i + 1)) 0).map errD)) (hL : DatAll ([p1, p2] ++ tl) vL (lateD (cs.take (i + 1)) 0)) :
    InvEndG g L (ReadJ lT lY lL Wa d ow o x S tx tS cs (i + 1)) own s₁ { s₁ with heap := h', toks := tk } :=
  read_end (add := [p1, p2]) F N hn m1 m2 m3 m4 m5 (List.forall_mem_cons.mpr ⟨List.Mem.head _, List.forall_mem_cons.mpr ⟨List.Mem.tail _ (List.Mem.head _), List.forall_mem_nil _⟩⟩) mt mo oz oa ot ta tz hT hY hL
theorem read_e3 {lT lY lL Wa d : Nat} {ow o : Obj} {x S : Str} {tx tS : Tok} {cs : List Nat} {i : Nat} {own tl N' : List (Addr × Obj)} {p1 p2 p3 : Addr × Obj} {g : Heap} {L : Addr} {s₁ : Shared} {h' : Heap} {tk : Nat} {m' : Str → Option Value} {vT vY vL : List Value} {cT cY cL : Nat}
    (F : Fr g L h' m') (N : News g L h' (p1 :: p2 :: p3 :: N')) (hn : ReadN m' lT lY lL Wa d x S tx tS)
    (m1 : (lT, listOf vT.toArray cT) ∈ p1 :: p2 :: p3 :: N') (m2 : (lY, listOf vY.toArray cY) ∈ p1 :: p2 :: p3 :: N') (m3 : (lL, listOf vL.toArray cL) ∈ p1 :: p2 :: p3 :: N') (m4 : (Wa, ow) ∈ p1 :: p2 :: p3 :: N') (m5 : (d, o) ∈ p1 :: p2 :: p3 :: N')
    (mt : ∀ p ∈ tl, p ∈ p1 :: p2 :: p3 :: N') (mo : ∀ p ∈ own, p ∈ p1 :: p2 :: p3 :: N') (oz : OwnOff own [lT, lY, lL, Wa, d]) (oa : ∀ q ∈ [p1, p2, p3], ∀ p ∈ own, p.1 < q.1) (ot : OwnOff own (tl.map (·.1))) (ta : ∀ q ∈ [p1, p2, p3], ∀ b ∈ [lT, lY, lL, Wa, d], b < q.1) (tz : OwnOff tl [lT, lY, lL, Wa, d])
    (hT : DatAll ([p1, p2, p3] ++ tl) vT ((cs.take (i + 1)).map tokD)) (hY : DatAll ([p1, p2, p3] ++ tl) vY ((earlyL (cs.take (i + 1)) 0).map errD)) (hL : DatAll ([p1, p2, p3] ++ tl) vL (lateD (cs.take (i + 1)) 0)) :
    InvEndG g L (ReadJ lT lY lL Wa d ow o x S tx tS cs (i + 1)) own s₁ { s₁ with heap := h', toks := tk } :=
  read_end (add := [p1, p2, p3]) F N hn m1 m2 m3 m4 m5 (List.forall_mem_cons.mpr ⟨List.Mem.head _, List.forall_mem_cons.mpr ⟨List.Mem.tail _ (List.Mem.head _), List.forall_mem_cons.mpr ⟨List.Mem.tail _ (List.Mem.tail _ (List.Mem.head _)), List.forall_mem_nil _⟩⟩⟩) mt mo oz oa ot ta tz hT hY hL
theorem lt_of5 {lT lY lL Wa d D : Nat} {tl own : List (Addr × Obj)} (h : lT < D ∧ lY < D ∧ lL < D ∧ Wa < D ∧ d < D ∧ AllLt D (tl ++ own)) : (∀ p ∈ own, p.1 < D) ∧ ∀ b ∈ [lT, lY, lL, Wa, d], b < D := by
  refine ⟨fun p hp => kst_ltOf h.2.2.2.2.2 p (List.mem_append_right _ hp), fun b hb => ?_⟩
  obtain ⟨h1, h2, h3, h4, h5, -⟩ := h
  simp only [List.mem_cons, List.not_mem_nil, or_false] at hb
  rcases hb with rfl | rfl | rfl | rfl | rfl <;> assumption
theorem off5_1 {own : List (Addr × Obj)} {lT lY lL Wa d : Addr} {l : List Addr} (h : OwnOff own (lT :: lY :: lL :: Wa :: d :: l)) : OwnOff own [lT, lY, lL, Wa, d] ∧ OwnOff own l :=
  ⟨fun p hp b hb => h p hp b (by simp only [List.mem_cons, List.not_mem_nil, or_false] at hb ⊢; rcases hb with h | h | h | h | h <;> simp [h]), fun p hp b hb => h p hp b (by simp [hb])⟩
theorem fr_put {g : Heap} {L : Addr} {h : Heap} {b : Str → Option Value} {u : Value} {y : Str} (F : Fr g L h b) (e : b y = some u) : Fr g L h (fun z => if z = y then some u else b z) := by
  have : b = fun z => if z = y then some u else b z := by
    funext z
    by_cases h2 : z = y
    · rw [if_pos h2, h2, e]
    · rw [if_neg h2]
  rw [← this]; exact F
theorem readN_put {m : Str → Option Value} {lT lY lL Wa d : Addr} {x S : Str} {tx tS : Tok} {v : Value} (h : ReadN m lT lY lL Wa d x S tx tS) : ReadN (fun y => if y = Str.ofString "at" then some v else m y) lT lY lL Wa d x S tx tS := by
  obtain ⟨h1, h2, h3, h4, h5, h6, h7⟩ := h
  have n1 : Str.ofString "tokens" ≠ Str.ofString "at" := by decide +kernel
  have n2 : Str.ofString "early" ≠ Str.ofString "at" := by decide +kernel
  have n3 : Str.ofString "late" ≠ Str.ofString "at" := by decide +kernel
  have n4 : Str.ofString "words" ≠ Str.ofString "at" := by decide +kernel
  have n5 : Str.ofString "signs" ≠ Str.ofString "at" := by decide +kernel
  have n6 : Str.ofString "table" ≠ Str.ofString "at" := by decide +kernel
  have n7 : Str.ofString "text" ≠ Str.ofString "at" := by decide +kernel
  exact ⟨by simp only [if_neg n1, h1], by simp only [if_neg n2, h2], by simp only [if_neg n3, h3], by simp only [if_neg n4, h4], by simp only [if_neg n5, h5], by simp only [if_neg n6, h6], by simp only [if_neg n7, h7]⟩
theorem readN_fr {g : Heap} {L : Addr} {h : Heap} {m : Str → Option Value} {lT lY lL Wa d : Addr} {x S : Str} {tx tS : Tok} (F : Fr g L h m) (hn : ReadN m lT lY lL Wa d x S tx tS) :
    Fr g L h (fun z => if z = Str.ofString "tokens" then some (.ref lT) else if z = Str.ofString "early" then some (.ref lY) else if z = Str.ofString "late" then some (.ref lL) else if z = Str.ofString "words" then some (.ref Wa) else if z = Str.ofString "signs" then some (.str S tS) else if z = Str.ofString "table" then some (.ref d) else if z = Str.ofString "text" then some (.str x tx) else m z) := by
  obtain ⟨h1, h2, h3, h4, h5, h6, h7⟩ := hn
  have e : m = fun z => if z = Str.ofString "tokens" then some (.ref lT) else if z = Str.ofString "early" then some (.ref lY) else if z = Str.ofString "late" then some (.ref lL) else if z = Str.ofString "words" then some (.ref Wa) else if z = Str.ofString "signs" then some (.str S tS) else if z = Str.ofString "table" then some (.ref d) else if z = Str.ofString "text" then some (.str x tx) else m z := by
    funext z
    repeat' split
    all_goals first | (rename_i q; rw [q]; assumption) | rfl
  rw [e] at F
  exact F
theorem news_rev3 {h₀ h : Heap} {L : Addr} {z a b c p q : Addr × Obj} (N : News h₀ L h [z, a, b, c, p, q]) : News h₀ L h [c, b, a, p, q] := fun r hr => N r (by
  simp only [List.mem_cons, List.not_mem_nil, or_false] at hr ⊢
  rcases hr with h | h | h | h | h <;> simp [h])
theorem small_all : ∀ k : Fin 101, Builtin.Range.small 0 (k.val : Int) 1 = true := by decide +kernel
theorem str_item {w : World} {A : Around} {E : Value → Shared → Prop} {s : Shared} {value slice : PySem.Expr} {x : Str} {t : Tok} {k : Int} {u : Tok} {c : Nat} {Q : Value → Shared → Prop}
    (h0 : 0 ≤ k) (hk : k < 1000) (hc : x.cps[k.toNat]? = some c) (h : Q (.str ⟨#[c]⟩ s.toks) { s with toks := s.toks + 1 })
    (hs : subscripted slice false (.str x t) (.int k u) = operate [.str x t, .int k u] (getItem (.str x t) (.int k u)) := by with_unfolding_all rfl) :
    wpAny (model P w) A (subscriptTail value slice (.str x t) (.int k u)) Q E s := by
  refine tail_any (typeIs_str _ _ _) PySem.F.slot_str_getitem.lookup (PySem.P.getItem_str (c := c) ?_ ?_ h) hs
  · rw [decide_eq_false (show ¬ k < -(2 ^ 63 : Int) by omega), decide_eq_false (show ¬ k ≥ 2 ^ 63 by omega)]; rfl
  · have hl : k.toNat < x.length := (Array.getElem?_eq_some_iff.mp hc).1
    unfold seqIndex?
    rw [if_neg (show ¬ k < 0 by omega)]
    dsimp only
    rw [if_pos (by simp; omega)]
    exact hc
theorem t_meantF {w mean mg mb} {news : List (Addr × Obj)} {n : Int} {t : Tok} {d : Addr} {o : Obj} {kvs : List (Int × Value)} {x : Str} {f : Option Str} (h0 : 0 ≤ n) (hx : rchar n = x) (hk : faultOf (kind n) = f) (ho : (d, o) ∈ news) (hs : (d == sysModules) = false) (hi : o.IsDictOf (intKind P w) kvs) (hkv : KV kvs tabD) :
    Tell w mean mg mb 335 2 news [.int n t, .ref d] (PairNew x f news) := by
  subst hx hk; exact t_meant h0 ho hs hi hkv
theorem t_sortF {w mean mg mb} {news : List (Addr × Obj)} {n : Int} {t : Tok} {y : Str} (h0 : 0 ≤ n) (e : sortOf (kind n) = y) : Tell w mean mg mb 328 1 news [.int n t] (fun v ns => (∃ t, v = .str y t) ∧ ns = news) := by
  subst e; exact t_sort h0
noncomputable def wordsD : List (PyData × PyData) := [(.str (Str.ofString "surrogate"), .str (Str.ofString "surrogate-in-input-stream")), (.str (Str.ofString "noncharacter"), .str (Str.ofString "noncharacter-in-input-stream")), (.str (Str.ofString "control"), .str (Str.ofString "control-character-in-input-stream"))]
theorem kinds3 (c i : Nat) : (∃ f y, faultOf (kind (c : Int)) = some f ∧ sortOf (kind (c : Int)) = y ∧ PySem.Spec.lookup (PyData.str y) wordsD = none ∧ early1 c i = [] ∧ errL (faultOf (kind (c : Int))) i = [errD (f, (i : Int))]) ∨
    (∃ f y W, faultOf (kind (c : Int)) = some f ∧ sortOf (kind (c : Int)) = y ∧ PySem.Spec.lookup (PyData.str y) wordsD = some (.str W) ∧ early1 c i = [(W, (i : Int))] ∧ errL (faultOf (kind (c : Int))) i = [errD (f, (i : Int))]) ∨ kind (c : Int) = 0 := by
  unfold early1
  rcases kind_cases (c : Int) with hk | hk | hk | hk | hk | hk
  · rw [hk]; exact .inl ⟨_, _, rfl, rfl, rfl, rfl, rfl⟩
  · rw [hk]; exact .inl ⟨_, _, rfl, rfl, rfl, rfl, rfl⟩
  · rw [hk]; exact .inr (.inl ⟨_, _, _, rfl, rfl, rfl, rfl, rfl⟩)
  · rw [hk]; exact .inr (.inl ⟨_, _, _, rfl, rfl, rfl, rfl, rfl⟩)
  · rw [hk]; exact .inr (.inl ⟨_, _, _, rfl, rfl, rfl, rfl, rfl⟩)
  · exact .inr (.inr hk)
theorem look_no {k : PyData} {D : List (PyData × PyData)} (h : PySem.Spec.lookup k D = none) : ¬ ((PySem.Spec.lookup k D).isSome = true) := by rw [h]; decide
theorem look_yes {k v : PyData} {D : List (PyData × PyData)} (h : PySem.Spec.lookup k D = some v) : (PySem.Spec.lookup k D).isSome = true := by rw [h]; rfl
theorem early1_len (c i : Nat) : (early1 c i).length ≤ 1 := by unfold early1; split <;> simp
theorem earlyL_len : ∀ (cs : List Nat) (i : Nat), (earlyL cs i).length ≤ cs.length
  | [], _ => Nat.le_refl _
  | c :: cs, i => by
    have := early1_len c i
    have := earlyL_len cs (i + 1)
    rw [earlyL, List.length_append, List.length_cons]
    omega
theorem earlyL_snoc (c : Nat) : ∀ (cs : List Nat) (i : Nat), earlyL (cs ++ [c]) i = earlyL cs i ++ early1 c (i + cs.length)
  | [], i => by simp [earlyL]
  | d :: cs, i => by
    rw [List.cons_append, earlyL, earlyL, earlyL_snoc c cs (i + 1), List.append_assoc, List.length_cons]
    congr 3
    omega
theorem early_at {cs : List Nat} {c i : Nat} (hi : i < cs.length) (ht : cs.take (i + 1) = cs.take i ++ [c]) : earlyL (cs.take (i + 1)) 0 = earlyL (cs.take i) 0 ++ early1 c i := by
  rw [ht, earlyL_snoc, List.length_take, Nat.min_eq_left (Nat.le_of_lt hi), Nat.zero_add]
theorem late_at {cs : List Nat} {c i : Nat} (hi : i < cs.length) (ht : cs.take (i + 1) = cs.take i ++ [c]) : lateD (cs.take (i + 1)) 0 = lateD (cs.take i) 0 ++ errL (faultOf (kind (c : Int))) i := by
  rw [ht, lateD_snoc, List.length_take, Nat.min_eq_left (Nat.le_of_lt hi), Nat.zero_add]
theorem tok_at {cs : List Nat} {c r i : Nat} (hr : rchar (c : Int) = ⟨#[r]⟩) (ht : cs.take (i + 1) = cs.take i ++ [c]) : (cs.take (i + 1)).map tokD = (cs.take i).map tokD ++ [.tuple [.str (Str.ofString "char"), .str ⟨#[r]⟩]] := by
  rw [ht, List.map_append]; unfold tokD; rw [← hr]; rfl
theorem news_mix {h₀ h : Heap} {L : Addr} {A five tl3 tlr : List (Addr × Obj)} {X Y S : Addr × Obj} (N : News h₀ L h (X :: Y :: (A ++ (S :: tl3)))) (R : News h₀ L h (five ++ tlr)) : News h₀ L h (X :: Y :: (A ++ (S :: (five ++ (tl3 ++ tlr))))) := by
  intro p hp
  rcases List.mem_cons.mp hp with h | hp
  · exact N p (h ▸ List.mem_cons_self ..)
  rcases List.mem_cons.mp hp with h | hp
  · exact N p (h ▸ List.mem_cons_of_mem _ (List.mem_cons_self ..))
  rcases List.mem_append.mp hp with h | hp
  · exact N p (List.mem_cons_of_mem _ (List.mem_cons_of_mem _ (List.mem_append_left _ h)))
  rcases List.mem_cons.mp hp with h | hp
  · exact N p (h ▸ List.mem_cons_of_mem _ (List.mem_cons_of_mem _ (List.mem_append_right _ (List.mem_cons_self ..))))
  rcases List.mem_append.mp hp with h | hp
  · exact R p (List.mem_append_left _ h)
  rcases List.mem_append.mp hp with h | hp
  · exact N p (List.mem_cons_of_mem _ (List.mem_cons_of_mem _ (List.mem_append_right _ (List.mem_cons_of_mem _ h))))
  · exact R p (List.mem_append_right _ hp)
theorem news_mix2 {h₀ h : Heap} {L : Addr} {A five tl tl2 : List (Addr × Obj)} (N : News h₀ L h (A ++ tl2)) (R : News h₀ L h (five ++ tl)) : News h₀ L h (A ++ (five ++ (tl ++ tl2))) := by
  intro p hp
  rcases List.mem_append.mp hp with h | hp
  · exact N p (List.mem_append_left _ h)
  rcases List.mem_append.mp hp with h | hp
  · exact R p (List.mem_append_left _ h)
  rcases List.mem_append.mp hp with h | hp
  · exact R p (List.mem_append_right _ h)
  · exact N p (List.mem_append_right _ hp)
theorem news_split {h₀ h : Heap} {L : Addr} {A B : List (Addr × Obj)} (N : News h₀ L h (A ++ B)) : News h₀ L h A ∧ News h₀ L h B := ⟨fun p hp => N p (List.mem_append_left _ hp), fun p hp => N p (List.mem_append_right _ hp)⟩
theorem dis_of {M rest : List (Addr × Obj)} (d : ∀ q ∈ M, ∀ p ∈ rest, p.1 ≠ q.1) : ∀ p ∈ rest, p.1 ∉ M.map (·.1) := by
  intro p hp hm
  obtain ⟨q, hq, e⟩ := List.mem_map.mp hm
  exact d q hq p hp e.symm
theorem dis_fin {w : World} {z : TS} {five tl tl2 : List (Addr × Obj)} {S : Addr × Obj} (d2 : ∀ q ∈ z.led w ++ tl2, ∀ p ∈ S :: (five ++ tl), p.1 ≠ q.1) (h2 : OwnOff tl2 z.adr) (hs : ∀ p ∈ five ++ tl, p.1 ≠ S.1) : ∀ p ∈ five ++ (tl ++ tl2), p.1 ∉ (z.led w ++ [S]).map (·.1) := by
  intro p hp hm
  rw [List.map_append] at hm
  have key : p ∈ five ++ tl ∨ p ∈ tl2 := by
    rcases List.mem_append.mp hp with h | hp
    · exact .inl (List.mem_append_left _ h)
    rcases List.mem_append.mp hp with h | hp
    · exact .inl (List.mem_append_right _ h)
    · exact .inr hp
  rcases List.mem_append.mp hm with h | h
  · rcases key with k | k
    · obtain ⟨q, hq, e⟩ := List.mem_map.mp h
      exact d2 q (List.mem_append_left _ hq) p (List.mem_cons_of_mem _ k) e.symm
    · exact h2 p k p.1 h rfl
  · have e : p.1 = S.1 := List.mem_singleton.mp h
    rcases key with k | k
    · exact hs p k e
    · exact d2 p (List.mem_append_right _ k) S (List.mem_cons_self ..) e.symm
theorem ne_same {w : World} {A : Around} {E : Value → Shared → Prop} {s : Shared} {h₀ : Heap} {L : Addr} {news : List (Addr × Obj)} {a b : Value} {d : Dat} {Q : Value → Shared → Prop}
    (N : News h₀ L s.heap news) (Da : DatIn news a d) (Db : DatIn news b d) (hd : kqdOk 8 d = true) (hu : A.units + 64 < cLine) (h : Q (.bool false) s) : wpAny (model P w) A (compareOp .NotEq a b) Q E s := by
  obtain ⟨as, ra⟩ := kqd_in N 8 Da hd
  obtain ⟨bs, rb⟩ := kqd_in N 8 Db hd
  have la := kqd_lay 8 d hd
  have e : PyData.eqv (kqdP d) (kqdP d) = true := (kqd_eqv 8 d d 8 hd hd).mpr rfl
  have sh : PySem.SeqAt.shaped (kqdP d) = true := by unfold PySem.SeqAt.shaped; rw [la.1, Bool.true_and]; exact decide_eq_true (Nat.le_trans la.2 (by decide))
  exact ne_dataH ra rb sh sh hu (by rw [e]; exact h)
theorem ok_rchar (n : Int) : PyData.strOk (rchar n) = true := by
  unfold rchar
  split
  · decide +kernel
  · rename_i h
    by_cases h0 : 0 ≤ n
    · have := c1_bd h0 (by omega)
      unfold PyData.strOk
      simp
      omega
    · rw [c1_id (by omega)]
      unfold PyData.strOk
      simp
      omega
theorem ok_tok (k : Nat) (c : Nat) : kqdOk (k + 1) (tokD c) = true := by
  unfold tokD
  cases k <;> simp [kqdOk, ok_rchar] <;> decide +kernel
theorem ok_err (k m : Nat) (i : Int) : kqdOk (k + 1) (errD (errOf m, i)) = true := by
  have h : PyData.strOk (errOf m) = true := by
    unfold errOf
    split <;> decide +kernel
  unfold errD
  cases k <;> simp [kqdOk, h]
theorem ok_early (k : Nat) : ∀ (cs : List Nat) (i : Nat), ((earlyL cs i).map errD).all (kqdOk (k + 1)) = true
  | [], _ => rfl
  | c :: cs, i => by
    rw [earlyL, List.map_append, List.all_append, ok_early k cs (i + 1), Bool.and_true]
    unfold early1
    split
    · simp [ok_err]
    · rfl
theorem ok_late (k : Nat) : ∀ (cs : List Nat) (i : Nat), (lateD cs i).all (kqdOk (k + 1)) = true
  | [], _ => rfl
  | c :: cs, i => by
    rw [lateD, List.all_append, ok_late k cs (i + 1), Bool.and_true]
    have h : ∀ m x, faultOf m = some x → PyData.strOk x = true := by
      intro m x h
      unfold faultOf at h
      split at h <;> first | (cases h; decide +kernel) | cases h
    cases hf : faultOf (kind (c : Int)) with
    | none => rfl
    | some x =>
      have := h _ _ hf
      unfold errL errD
      cases k <;> simp [kqdOk, this]
noncomputable def bigD (cs : List Nat) : Dat := .tuple [.list (cs.map tokD ++ [eofD]), .list ((earlyL cs 0).map errD ++ lateD cs 0)]
theorem ok_big (cs : List Nat) : kqdOk 8 (bigD cs) = true := by
  have h1 : (cs.map tokD ++ [eofD]).all (kqdOk 6) = true := by
    rw [List.all_append, List.all_map]
    simp only [Bool.and_eq_true, List.all_eq_true]
    refine ⟨fun c _ => ok_tok 5 c, ?_⟩
    intro x hx
    rw [List.mem_singleton.mp hx]
    decide +kernel
  have h2 : ((earlyL cs 0).map errD ++ lateD cs 0).all (kqdOk 6) = true := by rw [List.all_append, ok_early 5, ok_late 5]; rfl
  show List.all [_, _] (kqdOk 7) = true
  simp only [List.all_cons, List.all_nil, Bool.and_true]
  rw [show kqdOk 7 (.list (cs.map tokD ++ [eofD])) = (cs.map tokD ++ [eofD]).all (kqdOk 6) from rfl, show kqdOk 7 (.list ((earlyL cs 0).map errD ++ lateD cs 0)) = ((earlyL cs 0).map errD ++ lateD cs 0).all (kqdOk 6) from rfl, h1, h2]
  rfl
theorem dis2 {led whole : List (Addr × Obj)} {sd : Addr} {o : Obj} {p1 p2 : Addr × Obj} (d : ∀ q ∈ led, ∀ p ∈ whole, p.1 ≠ q.1) (m1 : p1 ∈ whole) (m2 : p2 ∈ whole) (n1 : p1.1 ≠ sd) (n2 : p2.1 ≠ sd) : ∀ p ∈ [p1, p2], p.1 ∉ (led ++ [(sd, o)]).map (·.1) := by
  intro p hp hm
  have mp : p ∈ whole ∧ p.1 ≠ sd := by
    rcases List.mem_cons.mp hp with h | h
    · rw [h]; exact ⟨m1, n1⟩
    · rw [List.mem_singleton.mp h]; exact ⟨m2, n2⟩
  rw [List.map_append] at hm
  rcases List.mem_append.mp hm with h | h
  · obtain ⟨q, hq, e⟩ := List.mem_map.mp h
    exact d q hq p mp.1 e.symm
  · exact mp.2 (List.mem_singleton.mp h)
theorem fr_hide {h₀ h : Heap} {L : Addr} {m : Str → Option Value} {news : List (Addr × Obj)} (F : Fr h₀ L h m) (N : ∀ p ∈ news, p.1 ≠ L ∧ h₀.get? p.1 = none) : Fr h₀ L (hideAll h (news.map (·.1))) m := by
  have nm : ∀ b o, h₀.get? b = some o → b ∉ news.map (·.1) := fun b o e q => by
    obtain ⟨p, hp, rfl⟩ := List.mem_map.mp q
    rw [(N p hp).2] at e; cases e
  obtain ⟨oL, es, ep, hL, hLd, hLk, hLf⟩ := F.ns
  have nL : L ∉ news.map (·.1) := fun q => by
    obtain ⟨p, hp, e⟩ := List.mem_map.mp q
    exact (N p hp).1 e
  exact ⟨⟨oL, es, ep, hideAll_get _ hL nL, hLd, hLk, hLf⟩, fun b o e => hideAll_get _ (F.keep b o e) (nm b o e), F.above⟩
theorem up_hide {g h : Heap} {l : List Addr} (U : g.UpToSlots h) : (hideAll g l).UpToSlots h := fun b o q => U b o (of_hideAll _ q)
theorem pair_eq {w : World} {A : Around} {E : Value → Shared → Prop} {s : Shared} {h₀ : Heap} {L : Addr} {news : List (Addr × Obj)} {a b : Addr} {i j : Int} {t u : Tok} {Q : Value → Shared → Prop}
    (N : News h₀ L s.heap news) (hij : i = j) (ma : (a, ({ cls := .type "tuple", data := .seq #[.bool true, .int i t] } : Obj)) ∈ news) (mb : (b, ({ cls := .type "tuple", data := .seq #[.bool true, .int j u] } : Obj)) ∈ news) (hu : A.units + 64 < cLine) (h : Q (.bool true) s) :
    wpAny (model P w) A (compareOp .Eq (.ref a) (.ref b)) Q E s := by
  subst hij
  have ra := reads_tuple_at (N _ ma).1 rfl rfl (ReadsAll.cons (Reads.bool true) (ReadsAll.cons (Reads.int i t) ReadsAll.nil))
  have rb := reads_tuple_at (N _ mb).1 rfl rfl (ReadsAll.cons (Reads.bool true) (ReadsAll.cons (Reads.int i u) ReadsAll.nil))
  refine eq_dataH ra rb (by rfl) (by rfl) hu ?_
  rw [show PyData.eqv (.tuple [.bool true, .int i]) (.tuple [.bool true, .int i]) = true by simp [PyData.eqv, PyData.eqvAll]]
  exact h
/-- a def that may catch, called from the law's own frame -/
noncomputable def TellR (w : World) (mean : ExcName → Option Value) (mg mb : Str → Option Value) (f : Addr) (cost : Nat) (news : List (Addr × Obj)) (pos : List Value) (Post : Value → Prop) : Prop :=
  ∀ (dp un : Nat) (gd : Option (List Code)) (cn : Str) (cs : Scope) (a : Addr) (ccd : Value) (A₀ : Around) (h₀ : Heap) (L : Addr) (m : Str → Option Value) (s : Shared) (Q E : Value → Shared → Prop),
    Below A₀ h₀ [] h₀ → Fr h₀ L s.heap m → (hd.heap_1 w.params).In h₀ → News h₀ L s.heap news → Top hd.view_39 (looseW hd.view_39 []) mean mg mb h₀ → cs.kind = .function →
    dp + cost < recursionLimit → un + 8 * cost < cLine →
    (∀ v h' tk', Fr h₀ L h' m → Post v → Q v { s with heap := h', toks := tk' }) →
    wpAny (model P w) (ktrTop dp un gd cn cs L a ccd [] []) (call (.ref f) pos) Q E s
theorem rep_rule {w : World} {A : Around} {E : Value → Shared → Prop} {s : Shared} {x y z : Str} {t u v : Tok} {Q : Value → Shared → Prop} (hu : u ≠ 0) (hv : v ≠ 0) (huv : u ≠ v) (hyz : (y == z) = false) (hb : x.length + (x.length + 1) * z.length ≤ 16777216)
    (hq : ∀ t' k, @LE.le Nat instLENat s.toks k → Q (.str (Txt.replace x y z) t') { s with toks := k }) : wpAny (model P w) A (call (.builtin "str.replace") [.str x t, .str y u, .str z v]) Q E s := by
  have e : (2 : Nat) ^ 24 = 16777216 := by decide
  have hl : Builtin.Str.tooLong (x.length + (Builtin.Str.occurrences x y 0 x.length (x.length + 1)).length * z.length) = false := by
    have h1 := StrLaws.occ_length_le x y 0 x.length (x.length + 1)
    have h2 : (Builtin.Str.occurrences x y 0 x.length (x.length + 1)).length * z.length ≤ (x.length + 1) * z.length := Nat.mul_le_mul_right _ h1
    unfold Builtin.Str.tooLong sizeLine
    exact decide_eq_false (by omega)
  refine call_gives F.slot_str_replace (typeIs_str _ _ _) F.entry_str_replace (F.args_str_replace_3 _ _ _)
    (gives_str_replace x y z t u v fun _ => ⟨by simp [hu, hv], by simp [huv], hyz, hl⟩) ?_
  have hq' := hq
  unfold Txt.replace at hq'
  cases hc : ((Builtin.Str.occurrences x y 0 x.length (x.length + 1)).isEmpty || (y.length == 0 && z.length == 0))
  · rw [hc] at hq'
    simp only [Bool.false_eq_true, if_false] at hq' ⊢
    exact ⟨fits_replaced y hb, hq' _ _ (Nat.le_succ _)⟩
  · rw [hc] at hq'
    simp only [if_true] at hq' ⊢
    exact hq' t s.toks (Nat.le_refl _)
theorem crlf_is : Str.ofString "\r\n" = ⟨#[13, 10]⟩ := by decide +kernel
theorem crlf_len : ∀ l : List Nat, (crlf l).length ≤ l.length
  | [] => Nat.le_refl _
  | [_] => Nat.le_refl _
  | c :: d :: r => by
    have h1 := crlf_len r
    have h2 := crlf_len (d :: r)
    rw [crlf]
    split
    · simp only [List.length_cons] at *; omega
    · simp only [List.length_cons] at *; omega
section
local macro_rules | `(tactic| walk_at "call builtin:len") => `(tactic| (k_here; (with_reducible show wpAny _ _ (call (Value.builtin "len") [Value.str _ _]) _ _ _); k_dflt (refine PySem.P.len_str (by assumption) ?_)))
local macro_rules | `(tactic| walk_at "ite") => `(tactic| (k_here; first | refine ite_pos (look_yes (by assumption)) ?_ | refine ite_neg (look_no (by assumption)) ?_ | refine ite_pos (by decide +kernel) ?_ | refine ite_neg (by decide +kernel) ?_))
local macro_rules | `(tactic| walk_at "binaryOp Add ref ref") => `(tactic| (k_here; k_dflt (refine' cat_lists ?k1 ?k2 ?k3 ?k4 ?k5 ?_; (case k1 => k_asm); (case k2 => k_asm); (case k3 => k_mem); (case k4 => k_mem); (case k5 => (try simp only [List.length_cons, List.length_nil]); omega); k_whole); intro D' h' F' N' l1; (try k_lt l1); (try k_sweep)))
local macro_rules | `(tactic| walk_at "compareOp NotEq ref ref") => `(tactic| (refine stop_here ?_))
local macro_rules | `(tactic| walk_at "compareOp Eq ref ref") => `(tactic| (refine stop_here ?_))
local macro_rules | `(tactic| walk_at "call builtin:str.replace") => `(tactic| (refine stop_here ?_))
local macro_rules | `(tactic| walk_at "callWith") => `(tactic| ((with_reducible refine callWith_method1 ?_ (star_plain _ _ _ ?_) ?_); rotate_left; (focus exact rfl); (focus exact rfl)))
local macro_rules | `(tactic| k_room) => `(tactic| ktr_room)
local macro_rules | `(tactic| k_units) => `(tactic| ktr_units)

local macro_rules | `(tactic| cell_enter) => `(tactic| (refine' code_defS0 ?k1 ?k2 ?k3 ?k4 ?k5 ?kA ?k6 ?k7 ?k8 ?k9 ?kB ?_ ?cK ?c2 ?c3 ?c4 ?c5; (case kA => exact rfl); (case k2 => k_asm); (case k1 => k_asm); (case k3 => k_asm); (case k4 => k_asm); (case k5 => k_asm); (case k6 => k_is); (case k7 => k_is); (case k8 => ktr_room); (case k9 => first | exact BindsTo.of_eq rfl | exact binds_K (by k_in) rfl (by k_is) rfl rfl rfl); (case kB => exact locs rfl); (case cK => first | exact rfl | assumption); (case c2 => exact rfl); (case c3 => exact rfl); (case c4 => exact rfl); (case c5 => decide); k_whole; intro g' L' h' FG' F' N' B' X' T' D'; (try dsimp only); (try k_lift B')))
local macro_rules | `(tactic| walk_at "LeaveS0") => `(tactic| (refine stop_here ?_))
local macro_rules | `(tactic| walk_at "call ref") => `(tactic| (refine stop_here ?_))
local macro_rules | `(tactic| walk_at "call ref") => `(tactic| (k_here; (with_reducible show wpAny _ _ (call (Value.ref _) [Value.int _ _]) _ _ _); k_dflt (refine' (t_sortF ?h0 ?he).use ?k1 ?k2 ?k3 ?k4 ?k5 ?k6 ?k7 ?k8 ?_; (case h0 => exact Int.natCast_nonneg _); (case he => assumption); (case k1 => k_asm); (case k2 => k_asm); (case k3 => k_asm); (case k4 => k_asm); (case k5 => k_asm); (case k6 => first | exact rfl | assumption); (case k7 => ktr_room); (case k8 => ktr_units); intro v9 n9 h9 tk9 F9 N9 P9; obtain ⟨⟨t9, e9⟩, d9⟩ := P9; subst e9; subst d9)))
local macro_rules | `(tactic| walk_at "call ref") => `(tactic| (k_here; (with_reducible show wpAny _ _ (call (Value.ref _) [Value.int _ _, Value.ref _]) _ _ _); k_dflt (refine' (t_meantF ?h0 ?hx ?hk ?ho ?hs ?hi ?hkv).use ?k1 ?k2 ?k3 ?k4 ?k5 ?k6 ?k7 ?k8 ?_; (case h0 => exact Int.natCast_nonneg _); (case hx => assumption); (case hk => assumption); (case k1 => k_asm); (case k2 => k_asm); (case k3 => k_asm); (case k4 => k_asm); (case ho => k_mem); (case hs => assumption); (case hi => assumption); (case hkv => assumption); (case k5 => k_asm); (case k6 => first | exact rfl | assumption); (case k7 => ktr_room); (case k8 => ktr_units); intro v9 n9 h9 tk9 F9 N9 P9; obtain ⟨D9, a9, b9, e9, d9, l9⟩ := P9; subst e9; subst d9; (try dsimp only [optV] at N9); k_lt l9)))
local macro_rules | `(tactic| walk_at "subscriptTail Name Name str int") => `(tactic| (k_here; (with_reducible show wpAny _ _ (subscriptTail _ _ (Value.str _ _) (Value.int _ _)) _ _ _); k_dflt (refine' str_item ?k1 ?k2 ?k3 ?_ ?k6; (case k1 => exact Int.natCast_nonneg _); (case k2 => omega); (case k3 => assumption); (case k6 => with_unfolding_all rfl))))
local macro_rules | `(tactic| k_all) => `(tactic| first | exact allLt_ne (by assumption) | exact allLt_ne (And.right (by assumption)) | exact OwnOff.ne (by assumption) (by k_mem))
local macro_rules | `(tactic| k_all) => `(tactic| (refine List.forall_mem_append.mpr ⟨?_, ?_⟩; (focus k_all); (focus k_all)))
local macro_rules | `(tactic| k_upd) => `(tactic| (refine' Upd.app ?a ?b; (case a => k_all); (case b => k_upd)))
local macro_rules | `(tactic| walk_at "pyIter ref") => `(tactic| (refine stop_here ?_))
local macro_rules | `(tactic| walk_at "exec For Name Call cons nil") => `(tactic| (k_here; (rename Fr _ _ _ _ => lF'); (with_unfolding_all refine' For_invVF lF' ?k1 ?k2 ?_; (case k1 => exact rfl); (case k2 => exact rfl); k_whole)))
theorem t_read {w mean mg mb} {x : Str} {tx : Tok} {d : Addr} {o : Obj} {kvs : List (Int × Value)} (hx : x.cps.size ≤ 100) (hs : (d == sysModules) = false) (hi : o.IsDictOf (intKind P w) kvs) (hkv : KV kvs tabD) : TellR w mean mg mb 349 14 [(d, o)] [.str x tx, .ref d] (fun v => v = .bool true) := by
  intro dp un gd cn cs' a ccd A₀ h₀ L m s Q E B F X N T hk' hd hu hret
  refine wpAny_call ?_
  k_dflt cell_enter
  show wpAny _ _ _ _ _ { heap := _, gens := s.gens, drawn := s.drawn, toks := s.toks + 2, os := s.os }
  have hpos : s.toks + 2 ≠ 0 := Nat.succ_ne_zero _
  generalize s.toks + 2 = tk0 at hpos ⊢
  (try k_fold)
  k_steps
  refine stop_off ?_
  refine rep_rule hpos (Nat.succ_ne_zero _) (Nat.ne_of_lt (Nat.lt_succ_self _)) (by decide +kernel) ?_ ?_
  · have e : (Str.ofString "\n").length = 1 := by decide +kernel
    have : x.length = x.cps.size := rfl
    rw [e]; omega
  intro t1 k1 hk1
  have hk1' : k1 ≠ 0 := Nat.ne_of_gt (Nat.lt_of_lt_of_le (Nat.succ_pos _) hk1)
  have hx1 : (Txt.replace x (Str.ofString "\r\n") (Str.ofString "\n")).cps.toList = crlf x.cps.toList := by rw [crlf_is, lf_is]; exact replace_crlf x
  generalize Txt.replace x (Str.ofString "\r\n") (Str.ofString "\n") = x1 at hx1 ⊢
  have hl1 : x1.cps.size ≤ 100 := by
    have := crlf_len x.cps.toList
    rw [← hx1, Array.length_toList, Array.length_toList] at this
    omega
  clear hk1 hpos
  (try k_fold)
  k_steps
  refine stop_off ?_
  refine rep_rule hk1' (Nat.succ_ne_zero _) (Nat.ne_of_lt (Nat.lt_succ_self _)) (by decide +kernel) ?_ ?_
  · have e : (Str.ofString "\n").length = 1 := by decide +kernel
    have : x1.length = x1.cps.size := rfl
    rw [e]; omega
  intro t2 k2 hk2
  have hS : (Txt.replace x1 (Str.ofString "\r") (Str.ofString "\n")).cps.toList = normR false x.cps.toList := by rw [cr_is, lf_is, replace_cr, hx1, norm_eq]
  generalize Txt.replace x1 (Str.ofString "\r") (Str.ofString "\n") = S at hS ⊢
  have hlS : S.cps.size ≤ 100 := by
    have := normR_len x.cps.toList false
    rw [← hS, Array.length_toList, Array.length_toList] at this
    omega
  clear hk2 hk1' hx1 hl1
  have hfS : ¬ (S.length : Int) ≥ 2 ^ 63 := by
    have : S.length = S.cps.size := rfl
    omega
  (try k_fold)
  k_steps
  refine stop_off ?_
  rename Fr _ _ _ _ => lF
  rename News _ _ _ _ => lN
  rename IsRange _ _ _ _ _ _ _ _ => lR
  rename PyProof.V.FlatPairs _ _ _ => hWf
  have hWf2 : PyProof.V.FlatPairs PyData.str _ wordsD := hWf
  clear hWf
  have hcl : S.cps.toList.length = S.length := by rw [Array.length_toList]; rfl
  generalize hcs : S.cps.toList = cs at hS hcl
  have lN2 := news_rev3 lN
  refine range_loop (n := cs.length) (ReadJ _ _ _ _ d _ o x S tx t2 cs) rfl lR ?_ ?_ lF lN2 ⟨⟨rfl, rfl, rfl, rfl, rfl, rfl, rfl⟩, [], 0, [], 0, [], 0, [], rfl, .nil, .nil, .nil, fun _ h => nomatch h⟩ ?_ ?_
  · have hb : S.length ≤ 100 := hlS
    exact small_all ⟨S.length, by omega⟩
  · rw [hcl]
    generalize S.length = nS
    unfold Builtin.Range.rangeSize
    rw [if_pos (by decide)]
    split <;> omega
  · clear lF lN lN2 lR
    rintro i t' m₁ nx h tk own hin hoff ⟨hN, vT, cT, vY, cY, vL, cL, tl, rfl, hT, hY, hL, htl⟩ F₁ N₁
    have F₁ := readN_fr F₁ (readN_put hN)
    simp only [Int.zero_add] at F₁
    clear hN
    obtain ⟨c, hc⟩ : ∃ c, cs[i]? = some c := ⟨cs[i], by simp [hin]⟩
    have hSc : S.cps[((i : Int)).toNat]? = some c := by
      rw [← Array.getElem?_toList, hcs]
      exact hc
    obtain ⟨r, hr⟩ := rchar_one (c : Int)
    have hb : cs.length ≤ 100 := by rw [hcl]; exact hlS
    simp only [List.map_cons] at hoff
    obtain ⟨o1, o2⟩ := off5_1 hoff
    have hz1 : vT.length ≤ 1000 := by rw [hT.length, List.length_map, List.length_take]; omega
    have hz2 : vL.length ≤ 1000 := by have := lateD_len (cs.take i) 0; rw [hL.length]; rw [List.length_take] at this; omega
    have hz3 : vY.length ≤ 1000 := by have := earlyL_len (cs.take i) 0; rw [hY.length, List.length_map]; rw [List.length_take] at this; omega
    have htake : cs.take (i + 1) = cs.take i ++ [c] := by rw [List.take_add_one, hc]; rfl
    have hi1000 : (i : Int) < 1000 := by omega
    simp only [List.cons_append, List.nil_append, List.append_assoc] at N₁
    clear hoff
    have kMk := kstMark
    rcases kinds3 c i with ⟨f, y, hf, hso, hwo, hE, hF⟩ | ⟨f, y, W, hf, hso, hwo, hE, hF⟩ | hk
    · have hTn := tok_at hr htake
      have hYn := early_at hin htake
      have hLn := late_at hin htake
      rw [hE] at hYn
      rw [hF] at hLn
      (try k_fold)
      k_steps
      refine' read_e2 ?F ?N ?hn ?m1 ?m2 ?m3 ?m4 ?m5 ?mt ?mo ?oz ?oa ?ot ?ta ?tz ?hT ?hY ?hL
      case F => assumption
      case N => assumption
      case hn => exact ⟨rfl, rfl, rfl, rfl, rfl, rfl, rfl⟩
      case m1 => k_mem
      case m2 => k_mem
      case m3 => k_mem
      case m4 => k_mem
      case m5 => k_mem
      case mt => intro p hp; (repeat' (first | exact List.mem_append_left _ hp | refine List.Mem.tail _ ?_))
      case mo => intro p hp; (repeat' (first | exact List.mem_append_right _ hp | refine List.Mem.tail _ ?_))
      case oz => exact o1
      case oa => exact List.forall_mem_cons.mpr ⟨(lt_of5 (And.right (And.right (by assumption)))).1, List.forall_mem_cons.mpr ⟨(lt_of5 (And.right (by assumption))).1, List.forall_mem_nil _⟩⟩
      case ot => exact o2
      case ta => exact List.forall_mem_cons.mpr ⟨(lt_of5 (And.right (And.right (by assumption)))).2, List.forall_mem_cons.mpr ⟨(lt_of5 (And.right (by assumption))).2, List.forall_mem_nil _⟩⟩
      case tz => exact htl
      case hT => rw [hTn]; exact data_snoc (dmono hT fun p hp => List.mem_append_right _ hp) (DatIn.tuple (List.Mem.tail _ (List.Mem.head _)) (.cons (.str _ _) (.cons (.str _ _) .nil)))
      case hY => rw [hYn, List.append_nil]; exact (dmono hY fun p hp => List.mem_append_right _ hp)
      case hL => rw [hLn]; exact data_snoc (dmono hL fun p hp => List.mem_append_right _ hp) (DatIn.tuple (List.Mem.head _) (.cons (.str _ _) (.cons (.int _ _) .nil)))
    · have hTn := tok_at hr htake
      have hYn := early_at hin htake
      have hLn := late_at hin htake
      rw [hE] at hYn
      rw [hF] at hLn
      (try k_fold)
      k_steps
      refine' read_e3 ?F ?N ?hn ?m1 ?m2 ?m3 ?m4 ?m5 ?mt ?mo ?oz ?oa ?ot ?ta ?tz ?hT ?hY ?hL
      case F => assumption
      case N => assumption
      case hn => exact ⟨rfl, rfl, rfl, rfl, rfl, rfl, rfl⟩
      case m1 => k_mem
      case m2 => k_mem
      case m3 => k_mem
      case m4 => k_mem
      case m5 => k_mem
      case mt => intro p hp; (repeat' (first | exact List.mem_append_left _ hp | refine List.Mem.tail _ ?_))
      case mo => intro p hp; (repeat' (first | exact List.mem_append_right _ hp | refine List.Mem.tail _ ?_))
      case oz => exact o1
      case oa => exact List.forall_mem_cons.mpr ⟨(lt_of5 (And.right (And.right (And.right (by assumption))))).1, List.forall_mem_cons.mpr ⟨(lt_of5 (And.right (And.right (by assumption)))).1, List.forall_mem_cons.mpr ⟨(lt_of5 (And.right (by assumption))).1, List.forall_mem_nil _⟩⟩⟩
      case ot => exact o2
      case ta => exact List.forall_mem_cons.mpr ⟨(lt_of5 (And.right (And.right (And.right (by assumption))))).2, List.forall_mem_cons.mpr ⟨(lt_of5 (And.right (And.right (by assumption)))).2, List.forall_mem_cons.mpr ⟨(lt_of5 (And.right (by assumption))).2, List.forall_mem_nil _⟩⟩⟩
      case tz => exact htl
      case hT => rw [hTn]; exact data_snoc (dmono hT fun p hp => List.mem_append_right _ hp) (DatIn.tuple (List.Mem.tail _ (List.Mem.tail _ (List.Mem.head _))) (.cons (.str _ _) (.cons (.str _ _) .nil)))
      case hY => rw [hYn, List.map_append]; exact data_snoc (dmono hY fun p hp => List.mem_append_right _ hp) (DatIn.tuple (List.Mem.head _) (.cons (.str _ _) (.cons (.int _ _) .nil)))
      case hL => rw [hLn]; exact data_snoc (dmono hL fun p hp => List.mem_append_right _ hp) (DatIn.tuple (List.Mem.tail _ (List.Mem.head _)) (.cons (.str _ _) (.cons (.int _ _) .nil)))
    · have hf : faultOf (kind (c : Int)) = none := by rw [hk]; rfl
      have hso : sortOf (kind (c : Int)) = Str.ofString "" := by rw [hk]; rfl
      have hE : early1 c i = [] := by unfold early1; rw [hk]; rfl
      have hF : errL (faultOf (kind (c : Int))) i = [] := by rw [hf]; rfl
      have hTn := tok_at hr htake
      have hYn := early_at hin htake
      have hLn := late_at hin htake
      rw [hE] at hYn
      rw [hF] at hLn
      (try k_fold)
      k_steps
      refine' read_e1 ?F ?N ?hn ?m1 ?m2 ?m3 ?m4 ?m5 ?mt ?mo ?oz ?oa ?ot ?ta ?tz ?hT ?hY ?hL
      case F => assumption
      case N => assumption
      case hn => exact ⟨rfl, rfl, rfl, rfl, rfl, rfl, rfl⟩
      case m1 => k_mem
      case m2 => k_mem
      case m3 => k_mem
      case m4 => k_mem
      case m5 => k_mem
      case mt => intro p hp; (repeat' (first | exact List.mem_append_left _ hp | refine List.Mem.tail _ ?_))
      case mo => intro p hp; (repeat' (first | exact List.mem_append_right _ hp | refine List.Mem.tail _ ?_))
      case oz => exact o1
      case oa => exact List.forall_mem_cons.mpr ⟨(lt_of5 (And.right (by assumption))).1, List.forall_mem_nil _⟩
      case ot => exact o2
      case ta => exact List.forall_mem_cons.mpr ⟨(lt_of5 (And.right (by assumption))).2, List.forall_mem_nil _⟩
      case tz => exact htl
      case hT => rw [hTn]; exact data_snoc (dmono hT fun p hp => List.mem_append_right _ hp) (DatIn.tuple (List.Mem.head _) (.cons (.str _ _) (.cons (.str _ _) .nil)))
      case hY => rw [hYn, List.append_nil]; exact (dmono hY fun p hp => List.mem_append_right _ hp)
      case hL => rw [hLn, List.append_nil]; exact (dmono hL fun p hp => List.mem_append_right _ hp)
  · clear lF lN lN2 lR
    rintro m₁ nx h tk ⟨hN, vT, cT, vY, cY, vL, cL, tl, rfl, hT, hY, hL, htl⟩ F₁ N₁
    rw [List.take_length] at hT hY hL
    have F₁ := readN_fr F₁ hN
    clear hN
    have hb : cs.length ≤ 100 := by rw [hcl]; exact hlS
    have hz1 : vT.length ≤ 1000 := by rw [hT.length, List.length_map]; omega
    have hz2 : vL.length ≤ 1000 := by have := lateD_len cs 0; rw [hL.length]; omega
    have hz3 : vY.length ≤ 1000 := by have := earlyL_len cs 0; rw [hY.length, List.length_map]; omega
    (try k_fold)
    k_steps
    refine stop_off ?_
    rename Fr _ _ _ _ => lF
    rename News _ _ _ _ => lN
    rename Obj.IsDictOf _ _ _ => hD2
    rename (_ == sysModules) = false => hlo
    refine' (t_tok (w := w)).use ?B lF ?X News.nil lN (fun _ _ h => nomatch h) ?T ?hk ?hd ?hu ?_
    case B => k_asm
    case X => k_asm
    case T => k_asm
    case hk => first | exact rfl | assumption
    case hd => ktr_room
    case hu => ktr_units
    intro v1 M1 h1 tk1 F1 N1 R1 d1 P1
    obtain ⟨⟨dt, t, dst, st, lS, lE, lO, lR, sd, kt, ks, tv, vS, cS, vE, cE, vO, cO, vR, cR, at_, closed, ret, waiting, done⟩, hlt, hv, e, hord, hzsd, e1, e2, e3, e4, e5, e6, e7, e8, e9⟩ := P1
    dsimp only at hlt hv hzsd e1 e2 e3 e4 e5 e6 e7 e8 e9
    subst hv e hzsd e1 e2 e3 e4 e5 e6 e7 e8 e9
    have N2 := news_cons N1 R1
    clear lN N1 R1
    simp only [TS.led, List.cons_append, List.nil_append] at N2
    (try k_fold)
    k_steps
    refine stop_off ?_
    rename Fr _ _ _ _ => lF
    rename News _ _ _ _ => lN
    obtain ⟨NA, NB⟩ := news_split (A := TS.led w ⟨dt, t, dst, st, lS, lE, lO, lR, _, kt, ks, tv, [], cS, [], cE, [], cO, [], cR, 0, false, false, false, false⟩) lN
    refine' (t_feed (w := w) (z := ⟨dt, t, dst, st, lS, lE, lO, lR, _, kt, ks, tv, [], cS, [], cE, [], cO, [], cR, 0, false, false, false, false⟩) (x := x) (tx := tx) hord rfl rfl rfl rfl rfl (Nat.le_trans hx (by decide))).use ?B lF ?X NA NB (dis_of d1) ?T ?hk ?hd ?hu ?_
    case B => k_asm
    case X => k_asm
    case T => k_asm
    case hk => first | exact rfl | assumption
    case hd => ktr_room
    case hu => ktr_units
    intro v2 M2 h2 tk2 F2 N2 R2 d2 P2
    obtain ⟨hv, vS, cS', vE, cE', tl2, e, hSs, hEs, htl2⟩ := P2
    subst hv e
    obtain ⟨fa1, fa2⟩ := feed_all x.cps.toList
    rw [fa1, ← hS] at hSs
    rw [fa2, ← hS] at hEs
    have N3 := news_mix2 (five := [_, _, _, _, _, _]) N2 R2
    clear lN NA NB N2 R2
    simp only [TS.led, TS.fed, List.cons_append, List.nil_append] at N3
    (try k_fold)
    k_steps
    refine stop_off ?_
    rename Fr _ _ _ _ => lF
    rename News _ _ _ _ => lN
    obtain ⟨NA, NB⟩ := news_split (A := TS.led w ⟨dt, t, dst, st, lS, lE, lO, lR, _, kt, ks, tv, vS, cS', vE, cE', [], cO, [], cR, 0, false, _, false, false⟩ ++ [_]) lN
    have hzE : vE.length ≤ 1000 := by have := earlyL_len cs 0; rw [hEs.length, List.length_map]; omega
    refine' (t_fin (w := w) (z := ⟨dt, t, dst, st, lS, lE, lO, lR, _, kt, ks, tv, vS, cS', vE, cE', [], cO, [], cR, 0, false, _, false, false⟩) (cs := cs) hord (hlt _ (List.Mem.head _)) rfl rfl rfl rfl rfl rfl hlo hD2 hSs (Nat.le_trans hb (by decide)) hzE).use ?B lF ?X NA NB (dis_fin (five := [_, _, _, _, _]) d2 htl2 ?hs) ?T ?hk ?hd ?hu ?_
    case B => k_asm
    case X => k_asm
    case T => k_asm
    case hk => first | exact rfl | assumption
    case hd => ktr_room
    case hu => ktr_units
    case hs => exact allLt_ne (by assumption)
    intro v3 M3 h3 tk3 F3 N3 R3 d3 P3
    obtain ⟨vO, cO', vR, cR', t0, tl3, D, D2, hv, e, hO, hR⟩ := P3
    subst hv e
    have N4 := news_mix (five := [_, _, _, _, _]) N3 R3
    clear lN NA NB N3 R3
    have hzR : vR.length ≤ 1000 := by have := lateD_len cs 0; rw [hR.length]; omega
    have hzO : vO.length ≤ 1000 := by rw [hO.length, List.length_append, List.length_map, List.length_singleton]; omega
    simp only [TS.led, TS.stepped, tvset, tup2, List.cons_append, List.nil_append, Nat.zero_add, Nat.reduceAdd] at N4
    (try k_fold)
    k_steps
    refine stop_off ?_
    rename Fr _ _ _ _ => lF
    rename News _ _ _ _ => lN
    refine' ne_same (d := bigD cs) lN (DatIn.tuple (vs := [.ref lO, .ref D2]) ?ma (.cons (DatIn.list (vs := vO) ?mb (dmono hO ?sO)) (.cons (DatIn.list (vs := vE ++ vR) ?mc ((dmono hEs ?sE).append (dmono hR ?sR))) .nil)))
      (DatIn.tuple (vs := [.ref _, .ref _]) ?md (.cons (DatIn.list (vs := vT ++ [.ref _]) ?me ((dmono hT ?sT).append (.one (DatIn.tuple (vs := [.str _ _]) ?mf (.cons (.str _ _) .nil))))) (.cons (DatIn.list (vs := vY ++ vL) ?mg ((dmono hY ?sY).append (dmono hL ?sL))) .nil))) (ok_big cs) ?hu ?_
    case ma => k_mem
    case mb => k_mem
    case mc => k_mem
    case md => exact List.Mem.head _
    case me => k_mem
    case mf => k_mem
    case mg => k_mem
    case sO => intro p hp; (repeat' (first | exact List.mem_append_left _ hp | refine List.Mem.tail _ ?_))
    case sR => intro p hp; (repeat' (first | exact List.mem_append_left _ hp | refine List.Mem.tail _ ?_))
    case sE => intro p hp; (repeat' (first | exact List.mem_append_right _ (List.mem_append_right _ hp) | refine List.Mem.tail _ ?_))
    case sT => intro p hp; (repeat' (first | exact List.mem_append_right _ (List.mem_append_left _ hp) | refine List.Mem.tail _ ?_))
    case sY => intro p hp; (repeat' (first | exact List.mem_append_right _ (List.mem_append_left _ hp) | refine List.Mem.tail _ ?_))
    case sL => intro p hp; (repeat' (first | exact List.mem_append_right _ (List.mem_append_left _ hp) | refine List.Mem.tail _ ?_))
    case hu => first | ke_room | ktr_units
    (try k_fold)
    k_steps
    refine stop_off ?_
    rename Fr _ _ _ _ => lF
    rename News _ _ _ _ => lN
    rename Obj.IsDictOf (PySem.strKind _ _) _ _ => hD3
    rename (_ == sysModules) = false => hlo3
    refine' (t_tok (w := w)).use ?B lF ?X News.nil lN (fun _ _ h => nomatch h) ?T ?hk ?hd ?hu ?_
    case B => k_asm
    case X => k_asm
    case T => k_asm
    case hk => first | exact rfl | assumption
    case hd => ktr_room
    case hu => ktr_units
    intro v5 M5 h5 tk5 F5 N5 R5 d5 P5
    obtain ⟨⟨dt', t', dst', st', lS', lE', lO', lR', sd', kt', ks', tv', vS5, cS5, vE5, cE5, vO5, cO5, vR5, cR5, at5, closed5, ret5, waiting5, done5⟩, hlt5, hv, e, hord5, hzsd, e1, e2, e3, e4, e5, e6, e7, e8, e9⟩ := P5
    dsimp only at hlt5 hv hzsd e1 e2 e3 e4 e5 e6 e7 e8 e9
    subst hv e hzsd e1 e2 e3 e4 e5 e6 e7 e8 e9
    have N6 := news_cons N5 R5
    clear lN N5 R5
    simp only [TS.led, List.cons_append, List.nil_append] at N6
    (try k_fold)
    k_steps
    refine stop_off ?_
    rename Fr _ _ _ _ => lF
    rename News _ _ _ _ => lN
    obtain ⟨NA, NB⟩ := news_split (A := TS.led w ⟨dt', t', dst', st', lS', lE', lO', lR', _, kt', ks', tv', [], cS5, [], cE5, [], cO5, [], cR5, 0, false, false, false, false⟩ ++ [_]) lN
    refine' (t_finX (w := w) (mean := mean) (mg := mg) (mb := mb) (z := ⟨dt', t', dst', st', lS', lE', lO', lR', _, kt', ks', tv', [], cS5, [], cE5, [], cO5, [], cR5, 0, false, false, false, false⟩) (rest := [(t, _), (dt, _)]) hord5 (hlt5 _ (List.Mem.head _)) rfl rfl rfl hlo3 hD3) _ _ _ _ _ _ _ _ _ _ _ _ _ _ _ _ _ ?B lF ?X NA ?NR ?dis ?T ?hk ?hd ?hu ?_
    case B => k_asm
    case X => k_asm
    case T => k_asm
    case hk => first | exact rfl | assumption
    case hd => ktr_room
    case hu => ktr_units
    case NR => exact fun p hp => lN p (List.forall_mem_cons.mpr ⟨by k_mem, List.forall_mem_cons.mpr ⟨by k_mem, List.forall_mem_nil _⟩⟩ p hp)
    case dis => exact dis2 d5 (by k_mem) (by k_mem) (Nat.ne_of_lt (And.left (And.right (And.right (And.right (And.right (And.right (And.right (And.right (by assumption)))))))))) (Nat.ne_of_lt (And.left (And.right (And.right (And.right (And.right (And.right (And.right (And.right (And.right (by assumption)))))))))))
    intro g8 h8 e8 T8 vs8 tk8 F8 RG8 R8 U8
    have hnew : ∀ p ∈ [((t, _) : Addr × Obj), (dt, _)], p.1 ≠ _ ∧ Heap.get? _ p.1 = none := fun p hp => (lN p (List.forall_mem_cons.mpr ⟨by k_mem, List.forall_mem_cons.mpr ⟨by k_mem, List.forall_mem_nil _⟩⟩ p hp)).2
    rename KtsDicts _ _ => hKD
    rename Below _ _ _ _ => hBel
    have R9 := raised_rest R8 RG8 (fun p hp => (hnew p hp).2) hBel.stays (fun p hp hm => by
      rcases kts_mem hm with z | z
      · exact (hnew p hp).1 z
      · obtain ⟨o', es, n', ho', -⟩ := hKD _ z
        rw [(hnew p hp).2] at ho'
        cases ho')
    have F9 := fr_hide F8 hnew
    clear lN NA NB
    k_dflt (refine' caught_SO0 R9 F9 hBel (up_hide U8) X T hKD KtsTurn.refl ?ex ?q ?_)
    case ex => exact (rfl : nsIn (Mine.hd.heap_1 w.params) mainGlobals (Str.ofString "Misused") = some (some (.ref 86)))
    case q => exact (rfl : ktsIn (Mine.hd.heap_1 w.params) 86 "BaseException" = true)
    intro h' g' n₂ T' F' N₂ G' N' K' X' P' D'
    clear R9 F9 hnew R8 U8 RG8 F8 N₂ G'
    (try k_lift K')
    (try k_sweep)
    (try k_fold)
    k_steps
    refine stop_off ?_
    rename News _ _ _ _ => lN
    have hab : (S.length : Int) + 1 = (cs.length : Int) + 1 := by rw [hcl]
    refine' pair_eq lN hab.symm ?ma ?mb ?hu ?_
    case ma => k_mem
    case mb => exact List.Mem.head _
    case hu => first | ke_room | ktr_units
    (try k_fold)
    k_steps
    refine stop_off ?_
    rename Fr _ _ _ _ => lF
    rename News _ _ _ _ => lN
    rename KtsTurn _ _ _ => lKT
    refine leaveS0_ lF lN lKT fun kF kN => ?_
    exact hret _ _ _ kF rfl
end
end Mine
end
section
open PySem PySem.W PyProof.Rows PySem.Calls
local macro_rules | `(tactic| walk_at "no such key") => `(tactic| fail "none")
theorem Mine.fresh22 : True := by
  w_top off
  trivial
namespace Mine
noncomputable def DrawN (m : Str → Option Value) (l d sc : Addr) : Prop := m (Str.ofString "drawn") = some (.ref l) ∧ m (Str.ofString "table") = some (.ref d) ∧ m (Str.ofString "script") = some (.ref sc)
theorem drawN_put {m : Str → Option Value} {l d sc : Addr} {v : Value} (h : DrawN m l d sc) : DrawN (fun y => if y = Str.ofString "k" then some v else m y) l d sc := by
  obtain ⟨h1, h2, h3⟩ := h
  have n1 : Str.ofString "drawn" ≠ Str.ofString "k" := by decide +kernel
  have n2 : Str.ofString "table" ≠ Str.ofString "k" := by decide +kernel
  have n3 : Str.ofString "script" ≠ Str.ofString "k" := by decide +kernel
  exact ⟨by simp only [if_neg n1, h1], by simp only [if_neg n2, h2], by simp only [if_neg n3, h3]⟩
theorem drawN_put2 {m : Str → Option Value} {l d sc : Addr} {v : Value} (h : DrawN m l d sc) : DrawN (fun y => if y = Str.ofString "code" then some v else m y) l d sc := by
  obtain ⟨h1, h2, h3⟩ := h
  have n1 : Str.ofString "drawn" ≠ Str.ofString "code" := by decide +kernel
  have n2 : Str.ofString "table" ≠ Str.ofString "code" := by decide +kernel
  have n3 : Str.ofString "script" ≠ Str.ofString "code" := by decide +kernel
  exact ⟨by simp only [if_neg n1, h1], by simp only [if_neg n2, h2], by simp only [if_neg n3, h3]⟩
theorem drawN_fr {g : Heap} {L : Addr} {h : Heap} {m : Str → Option Value} {l d sc : Addr} (F : Fr g L h m) (hn : DrawN m l d sc) :
    Fr g L h (fun z => if z = Str.ofString "drawn" then some (.ref l) else if z = Str.ofString "table" then some (.ref d) else if z = Str.ofString "script" then some (.ref sc) else m z) := by
  obtain ⟨h1, h2, h3⟩ := hn
  have e : m = fun z => if z = Str.ofString "drawn" then some (.ref l) else if z = Str.ofString "table" then some (.ref d) else if z = Str.ofString "script" then some (.ref sc) else m z := by
    funext z
    repeat' split
    all_goals first | (rename_i q; rw [q]; assumption) | rfl
  rw [e] at F
  exact F
noncomputable def DrawJ (l d sc : Nat) (o : Obj) (i : Nat) (m : Str → Option Value) (nx : List (Addr × Obj)) : Prop :=
  DrawN m l d sc ∧ ∃ vs c ns, nx = [(l, listOf (List.toArray vs) c), (d, o)] ∧ IntsAre vs ns ∧ ns.length = i ∧ ∀ n ∈ ns, (0 : Int) ≤ n
theorem draw_end {l d sc : Nat} {o : Obj} {i : Nat} {own N' : List (Addr × Obj)} {g : Heap} {L : Addr} {s₁ : Shared} {h' : Heap} {tk : Nat} {m' : Str → Option Value} {vs : List Value} {c : Nat} {ns : List Int} {v : Int} {t : Tok}
    (F : Fr g L h' m') (N : News g L h' N') (hn : DrawN m' l d sc) (hm : (l, listOf (vs.toArray.toList.concat (.int v t)).toArray c) ∈ N') (hd : (d, o) ∈ N') (mo : ∀ p ∈ own, p ∈ N') (oz : OwnOff own [l, d])
    (hi : IntsAre vs ns) (hl : ns.length = i) (hp : ∀ n ∈ ns, (0 : Int) ≤ n) (hv : 0 ≤ v) :
    InvEndG g L (DrawJ l d sc o (i + 1)) own s₁ { s₁ with heap := h', toks := tk } := by
  refine ⟨h', tk, m', N', [(l, listOf (vs.toArray.toList.concat (.int v t)).toArray c), (d, o)], rfl, F, N, ?_, mo, oz, hn, _, _, ns ++ [v], rfl, ?_, by simp [hl], ?_⟩
  · exact List.forall_mem_cons.mpr ⟨hm, List.forall_mem_cons.mpr ⟨hd, List.forall_mem_nil _⟩⟩
  · have e : vs.toArray.toList.concat (Value.int v t) = vs ++ [.int v t] := by simp
    rw [e]
    exact hi.append (.cons _ _ .nil)
  · intro n hn
    rcases List.mem_append.mp hn with h | h
    · exact hp n h
    · rw [List.mem_singleton.mp h]; exact hv
noncomputable def CheckJ (l d sc D : Nat) (o : Obj) (us vs : List Value) (c : Nat) (_i : Nat) (m : Str → Option Value) (nx : List (Addr × Obj)) : Prop :=
  DrawN m l d sc ∧ nx = [(D, listOf us.toArray 0), (l, listOf vs.toArray c), (d, o)]
theorem news_drop2 {h₀ h : Heap} {L : Addr} {a b : Addr × Obj} {r : List (Addr × Obj)} (N : News h₀ L h (a :: b :: r)) : News h₀ L h (a :: r) := fun p hp => N p ((List.mem_cons.mp hp).elim (fun q => q ▸ .head _) fun q => .tail _ (.tail _ q))
theorem ints_get {vs : List Value} {ns : List Int} (h : IntsAre vs ns) : ∀ {i : Nat} {v : Value}, vs[i]? = some v → ∃ n t, v = .int n t ∧ n ∈ ns := by
  induction h with
  | nil => intro i v hv; simp at hv
  | cons n t r ih =>
    intro i v hv
    cases i with
    | zero => simp at hv; exact ⟨n, t, hv.symm, by simp⟩
    | succ i =>
      obtain ⟨m, u, e, hm⟩ := ih (by simpa using hv)
      exact ⟨m, u, e, by simp [hm]⟩
noncomputable def optD : Option Str → Dat
  | none => .none
  | some x => .str x
theorem opt_in {news : List (Addr × Obj)} (f : Option Str) (t : Tok) : DatIn news (optV f t) (optD f) := by
  cases f with
  | none => exact .none
  | some x => exact .str _ _
theorem ok_pair (n : Int) (k : Nat) : kqdOk 8 (.tuple [.str (rchar n), optD (faultOf k)]) = true := by
  have h : kqdOk 7 (optD (faultOf k)) = true := by
    unfold faultOf
    split <;> first | rfl | (show PyData.strOk _ = true; decide +kernel)
  show List.all [_, _] (kqdOk 7) = true
  simp only [List.all_cons, List.all_nil, Bool.and_true, h]
  exact ok_rchar n
theorem check_end {l d sc D : Nat} {o : Obj} {us vs : List Value} {c i : Nat} {own N' : List (Addr × Obj)} {g : Heap} {L : Addr} {s₁ : Shared} {h' : Heap} {tk : Nat} {m' : Str → Option Value}
    (F : Fr g L h' m') (N : News g L h' N') (hn : DrawN m' l d sc) (m1 : (D, listOf us.toArray 0) ∈ N') (m2 : (l, listOf vs.toArray c) ∈ N') (m3 : (d, o) ∈ N') (mo : ∀ p ∈ own, p ∈ N') (oz : OwnOff own [D, l, d]) :
    InvEndG g L (fun m' nx => (D, listOf us.toArray 0) ∈ nx ∧ CheckJ l d sc D o us vs c (i + 1) m' nx) own s₁ { s₁ with heap := h', toks := tk } := by
  refine ⟨h', tk, m', N', [(D, listOf us.toArray 0), (l, listOf vs.toArray c), (d, o)], rfl, F, N, ?_, mo, oz, List.Mem.head _, hn, rfl⟩
  exact List.forall_mem_cons.mpr ⟨m1, List.forall_mem_cons.mpr ⟨m2, List.forall_mem_cons.mpr ⟨m3, List.forall_mem_nil _⟩⟩⟩
noncomputable def chrG (k : Int) : Str := ⟨#[(k.fmod 1114112).toNat]⟩
theorem menu_pos : ∀ k : Nat, (0 : Int) ≤ ([13, 10, 0, 128, 57343, 131070] : List Int).getD k 0
  | 0 | 1 | 2 | 3 | 4 | 5 => by decide
  | n + 6 => by simp
section
local macro_rules | `(tactic| walk_at "callWith") => `(tactic| ((with_reducible refine callWith_method1 ?_ (star_plain _ _ _ ?_) ?_); rotate_left; (focus exact rfl); (focus exact rfl)))

local macro_rules | `(tactic| walk_at "execs cons Assign cons") => `(tactic| ((with_reducible refine wpAny_execs_cons ?_); try dsimp only))
local macro_rules | `(tactic| walk_at "binaryOp Add ref ref") => `(tactic| (k_here; k_dflt (refine' cat_lists ?k1 ?k2 ?k3 ?k4 ?k5 ?_; (case k1 => k_asm); (case k2 => k_asm); (case k3 => k_mem); (case k4 => k_mem); (case k5 => omega); k_whole); intro D' h' F' N' l1; (try k_lt l1); (try k_sweep)))
local macro_rules | `(tactic| walk_at "call ref") => `(tactic| (refine stop_here ?_))
local macro_rules | `(tactic| walk_at "CompSrc") => `(tactic| (k_here; (try k_fmods); k_dflt (refine LCg.CompSrc.ledger (by rfl) (by k_asm) (by k_asm) (by k_mem) (by kcf_size) ?_; intro g'; (refine' kct_list chrG (by assumption) (fun k' t' I' oI' C' oC' D' m' ys' h' tk' E' hk' hC' hx' F' N' off' ne' => ?_) ?_); (all_goals (try (simp only [LCg.Off3, and_true] at off'))); (all_goals (try ((show KPfMark → _); intro hMark'))); kcf_last)))
local macro_rules | `(tactic| k_qdec) => `(tactic| decide +kernel)
local macro_rules | `(tactic| walk_at "KCtEl") => `(tactic| (refine kct_el (r' := chrG _) rfl (by with_unfolding_all rfl) (by with_unfolding_all rfl)))
local macro_rules | `(tactic| walk_at "call ref") => `(tactic| (k_here; (with_reducible show wpAny _ _ (call (Value.ref 49) [Value.int _ _]) _ _ _); k_dflt (refine' t_c1.use ?k1 ?k2 ?k3 ?k4 ?k5 ?k6 ?k7 ?k8 ?_; (case k1 => k_asm); (case k2 => k_asm); (case k3 => k_asm); (case k4 => k_asm); (case k5 => k_asm); (case k6 => first | exact rfl | assumption); (case k7 => first | ktr_room | (show _ < recursionLimit; decide)); (case k8 => first | ktr_units | exact Nat.le_of_ble_eq_true rfl); intro v9 n9 h9 tk9 F9 N9 P9; obtain ⟨⟨t9, e9⟩, d9⟩ := P9; subst e9; subst d9)))
local macro_rules | `(tactic| walk_at "call ref") => `(tactic| (k_here; (with_reducible show wpAny _ _ (call (Value.ref 56) [Value.int _ _]) _ _ _); k_dflt (refine' (t_num ?h0).use ?k1 ?k2 ?k3 ?k4 ?k5 ?k6 ?k7 ?k8 ?_; (case h0 => assumption); (case k1 => k_asm); (case k2 => k_asm); (case k3 => k_asm); (case k4 => k_asm); (case k5 => k_asm); (case k6 => first | exact rfl | assumption); (case k7 => first | ktr_room | (show _ < recursionLimit; decide)); (case k8 => first | ktr_units | exact Nat.le_of_ble_eq_true rfl); intro v9 n9 h9 tk9 F9 N9 P9; obtain ⟨D9, a9, b9, e9, d9, l9⟩ := P9; subst e9; subst d9; k_lt l9)))
local macro_rules | `(tactic| walk_at "call ref") => `(tactic| (k_here; (with_reducible show wpAny _ _ (call (Value.ref 335) [Value.int _ _, Value.ref _]) _ _ _); k_dflt (refine' (t_meant ?h0 ?ho ?hs ?hi ?hkv).use ?k1 ?k2 ?k3 ?k4 ?k5 ?k6 ?k7 ?k8 ?_; (case h0 => assumption); (case k1 => k_asm); (case k2 => k_asm); (case k3 => k_asm); (case k4 => k_asm); (case k5 => k_asm); (case k6 => first | exact rfl | assumption); (case k7 => first | ktr_room | (show _ < recursionLimit; decide)); (case k8 => first | ktr_units | exact Nat.le_of_ble_eq_true rfl); (case ho => k_mem); (case hs => assumption); (case hi => assumption); (case hkv => assumption); intro v9 n9 h9 tk9 F9 N9 P9; obtain ⟨D9, a9, b9, e9, d9, l9⟩ := P9; subst e9; subst d9; k_lt l9)))
local macro_rules | `(tactic| walk_at "call builtin:dict.get") => `(tactic| (k_here; k_dflt (refine tab_get (by k_tabat) ?_; intro t9)))
local macro_rules | `(tactic| walk_at "compareOp NotEq ref ref") => `(tactic| (refine stop_here ?_))
local macro_rules | `(tactic| walk_at "ite") => `(tactic| (k_here; first | refine ite_pos (by simp; done) ?_ | refine ite_neg (by simp; done) ?_))
local macro_rules | `(tactic| walk_at "pyIter ref") => `(tactic| (refine stop_here ?_))
local macro_rules | `(tactic| walk_at "exec For Name Call cons nil") => `(tactic| (k_here; (rename Fr _ _ _ _ => lF'); (with_unfolding_all refine' For_invVF lF' ?k1 ?k2 ?_; (case k1 => exact rfl); (case k2 => exact rfl); k_whole)))
local macro_rules | `(tactic| walk_at "exec For Name BinOp cons nil") => `(tactic| (k_here; (rename Fr _ _ _ _ => lF'); (with_unfolding_all refine' For_invVF lF' ?k1 ?k2 ?_; (case k1 => exact rfl); (case k2 => exact rfl); k_whole)))
theorem law_walked : PySem.Challenge.rw_nt0600_01.Holds := by
  refine hd (holds_open (q := hd.view_39) (loose := []) (Xt := fun s => xlAt hd.view_39 [] s && recOk (RowW.records PySem.Challenge.rw_nt0600_01.row.toRowW) s) (XP := XL hd.view_39 []) (Yf := Hook.obs KH) (Ya := Hook.val KH) (YP := Hook.says KH) (N := 4426) left0 (Hook.of KH) (Hook.keeps KH) (fun s e => xl_of s (Bool.and_eq_true_iff.mp e).1) XL.keeps (by rfl) (by rfl) (by rfl) (fun s e => recFacts_of (Bool.and_eq_true_iff.mp e).2) (by rfl) said1 (by decide +kernel) ⟨rfl, rfl, rfl, rfl, rfl, by decide +kernel⟩ sized ?_)
  delta KH
  k_go0
  all_goals (try k_fold)
  k_steps
  refine stop_off ?_
  rename Fr _ _ _ _ => lF
  rename News _ _ _ _ => lN
  refine' (t_table).use ?B lF ?X lN ?T ?hk ?hd ?hu ?_
  case B => k_asm
  case X => k_asm
  case T => k_asm
  case hk => first | exact rfl | assumption
  case hd => first | ktr_room | (show _ < recursionLimit; decide)
  case hu => first | ktr_units | exact Nat.le_of_ble_eq_true rfl
  intro v1 n1 h1 tk1 F1 N1 P1
  obtain ⟨d, o, kvs, hv, hn, hs, hi, hkv, hl1⟩ := P1
  subst hv hn
  clear lN
  (try k_fold)
  k_steps
  refine stop_off ?_
  rename Fr _ _ _ _ => lF
  rename News _ _ _ _ => lN
  rename IsRange _ _ _ _ _ _ _ _ => lR
  rename IntsAre _ _ => hIA
  refine range_loop (n := 6) (DrawJ _ d _ o) rfl lR (by decide) (by decide) lF lN ⟨⟨rfl, rfl, rfl⟩, [], 0, [], rfl, .nil, rfl, fun _ h => nomatch h⟩ ?_ ?_
  · clear lF lN lR
    rintro i t' m₁ nx h tk own hin hoff ⟨hN, vs, c, ns, rfl, hIv, hln, hps⟩ F₁ N₁
    have F₁ := drawN_fr F₁ (drawN_put hN)
    simp only [Int.zero_add] at F₁
    clear hN
    have hk0 : (0 : Int) ≤ (i : Int) := Int.natCast_nonneg _
    have hk6 : (i : Int) < 6 := by omega
    have hz1 : vs.length ≤ 1000 := by rw [hIv.length]; omega
    simp only [List.cons_append, List.nil_append] at N₁
    simp only [List.map_cons, List.map_nil] at hoff
    have kMk := kstMark
    generalize (i : Int) = k at F₁ hk0 hk6
    (try k_fold)
    k_steps
    · refine' draw_end ?F ?N ?hn ?hm ?hd ?mo ?oz hIv hln hps ?hv
      case F => assumption
      case N => assumption
      case hn => exact ⟨rfl, rfl, rfl⟩
      case hm => k_mem
      case hd => k_mem
      case mo => intro p hp; (repeat' (first | exact hp | refine List.Mem.tail _ ?_))
      case oz => exact hoff
      case hv => split <;> omega
    · refine' draw_end ?F ?N ?hn ?hm ?hd ?mo ?oz hIv hln hps ?hv
      case F => assumption
      case N => assumption
      case hn => exact ⟨rfl, rfl, rfl⟩
      case hm => k_mem
      case hd => k_mem
      case mo => intro p hp; (repeat' (first | exact hp | refine List.Mem.tail _ ?_))
      case oz => exact hoff
      case hv => exact menu_pos _
  · clear lF lN lR
    rintro m₁ nx h tk ⟨hN, vs, c, ns, rfl, hIv, hln, hps⟩ F₁ N₁
    have F₁ := drawN_fr F₁ hN
    have hz1 : vs.length ≤ 1000 := by rw [hIv.length]; omega
    clear hN
    (try k_fold)
    k_steps
    refine stop_off ?_
    rename Fr _ _ _ _ => lF
    rename News _ _ _ _ => lN
    refine' (TellF.tell t_numbers).use ?B lF ?X lN ?T ?hk ?hd ?hu ?_
    case B => k_asm
    case X => k_asm
    case T => k_asm
    case hk => first | exact rfl | assumption
    case hd => first | ktr_room | (show _ < recursionLimit; decide)
    case hu => first | ktr_units | exact Nat.le_of_ble_eq_true rfl
    intro v2 n2 h2 tk2 F2 N2 P2
    obtain ⟨M', hM, hdis, D, vs2, ks, c2, hv, hM2, hIk, hkl, hkp, -⟩ := P2
    subst hv hM2 hM
    clear lN
    have hz2 : vs2.length ≤ 1000 := by rw [hIk.length]; omega
    simp only [List.cons_append, List.nil_append] at N2
    (try k_fold)
    k_steps
    refine stop_off ?_
    rename Fr _ _ _ _ => lF
    rename News _ _ _ _ => lN
    have hII := hIk.append hIv
    have hpp : ∀ n ∈ ks ++ ns, (0 : Int) ≤ n := fun n hn => (List.mem_append.mp hn).elim (hkp n) (hps n)
    have hflat : PyProof.V.FlatPairs PyData.int kvs tabP := hkv.flat
    refine kdl_iter (vs := vs2 ++ vs) (nn := 0) (CheckJ _ d _ _ o (vs2 ++ vs) vs c) rfl (List.Mem.head _) lF (news_drop2 lN) ⟨⟨rfl, rfl, rfl⟩, rfl⟩ ?_ ?_
    · clear lF lN
      rintro i v m₁ nx h tk own hv hoff - ⟨hN, rfl⟩ F₁ N₁
      obtain ⟨n, tn, rfl, hn⟩ := ints_get hII hv
      have hn0 := hpp n hn
      have F₁ := drawN_fr F₁ (drawN_put2 hN)
      clear hN hv hn
      simp only [List.cons_append, List.nil_append] at N₁
      simp only [List.map_cons, List.map_nil] at hoff
      have kMk := kstMark
      (try k_fold)
      k_steps
      refine stop_off ?_
      rename Fr _ _ _ _ => lF
      rename News _ _ _ _ => lN
      refine' ne_same (d := .tuple [.str (rchar n), optD (faultOf (kind n))]) lN (DatIn.tuple (vs := [.str _ _, optV _ _]) ?ma (.cons (.str _ _) (.cons (opt_in _ _) .nil))) (DatIn.tuple (vs := [.str _ _, optV _ _]) ?mb (.cons (.str _ _) (.cons (opt_in _ _) .nil))) (ok_pair n _) ?hu ?_
      case ma => k_mem
      case mb => exact List.Mem.head _
      case hu => first | ke_room | ktr_units | exact Nat.le_of_ble_eq_true rfl
      (try k_fold)
      k_steps
      refine' check_end ?F ?N ?hn ?m1 ?m2 ?m3 ?mo hoff
      case F => assumption
      case N => assumption
      case hn => exact ⟨rfl, rfl, rfl⟩
      case m1 => k_mem
      case m2 => k_mem
      case m3 => k_mem
      case mo => intro p hp; (repeat' (first | exact hp | refine List.Mem.tail _ ?_))
    · clear lF lN
      rintro m₁ nx h tk ⟨hN, rfl⟩ F₁ N₁
      have F₁ := drawN_fr F₁ hN
      clear hN
      (try k_fold)
      k_steps
      refine stop_off ?_
      rename Fr _ _ _ _ => lF
      rename News _ _ _ _ => lN
      rename (Txt.join _ _).length = _ => hjl
      have hx6 : (Txt.join (Str.ofString "") (ns.map chrG)).cps.size ≤ 100 := by
        have : (Txt.join (Str.ofString "") (ns.map chrG)).cps.size = (Txt.join (Str.ofString "") (ns.map chrG)).length := rfl
        omega
      refine' t_read hx6 hs hi hkv _ _ _ _ _ _ _ _ _ _ _ _ _ _ ?B lF ?X ?N ?T ?hk ?hd ?hu ?_
      case B => k_asm
      case X => k_asm
      case T => k_asm
      case N => exact fun p hp => lN p (List.forall_mem_cons.mpr ⟨by k_mem, List.forall_mem_nil _⟩ p hp)
      case hk => first | exact rfl | assumption
      case hd => first | ktr_room | (show _ < recursionLimit; decide)
      case hu => first | ktr_units | exact Nat.le_of_ble_eq_true rfl
      intro v9 h9 tk9 F9 e9
      subst e9
      clear lN lF
      (try k_fold)
      k_steps
end
end Mine
end

theorem PySem.Challenge.cw_nt0600_01_holds : PySem.Challenge.rw_nt0600_01.Holds := by
  exact Mine.law_walked
