import PyProof.Rows.All
import Wide.All
import OpenK.AllK
import Wide.FinOn
import Lean
import PySem.Challenge.RW_nz0293_01
set_option Elab.async false
set_option maxRecDepth 100000
set_option rowWalk.seconds 0
-- Hd
section
open PySem PySem.W PyProof.Rows PySem.Calls
namespace Mine
/-- the top's run over a tree of objects -/
def runT (ok : Thread → Bool) (st : SharedT → Thread → Option (SharedT × Thread)) : Nat → SharedT → Thread → Option SharedT
  | 0, _, _ => none
  | n + 1, s, t => match through t with
    | true => some s
    | false => match ok t with
      | false => none
      | true => match st s t with
        | some (s', t') => runT ok st n s' t'
        | none => none
theorem runT_of {tb : String → Option Builtin} {p : Program} {w : World} {n₀ : Nat} {ann : Option Value} : ∀ {n : Nat} {s s' : SharedT} {t : Thread},
    runT (stepOk n₀ ann) (stepT (denote tb) p w) n s t = some s' → topRun tb p w n₀ ann n s.abs t = some s'.abs
  | 0, _, _, _, h => by cases h
  | n + 1, s, s', t, h => by
    unfold runT at h
    unfold topRun
    cases he : through t with
    | true => rw [he] at h; cases h; rfl
    | false =>
      rw [he] at h
      cases hk : stepOk n₀ ann t with
      | false => rw [hk] at h; cases h
      | true =>
        rw [hk] at h
        cases hs : stepT (denote tb) p w s t with
        | none => rw [hs] at h; cases h
        | some r => obtain ⟨s₂, t₂⟩ := r; rw [hs] at h; rw [stepT_spec hs]; exact runT_of h

def ofObjs : List Obj → Nat → BT → BT
  | [], _, t => t
  | o :: l, n, t => ofObjs l (n + 1) (t.ins n o)
def okObjs : List Obj → Nat → BT → Bool
  | [], _, _ => true
  | o :: l, n, t => ((t.ins n o).get n).isSome && okObjs l (n + 1) (t.ins n o)
theorem abs_ofObjs {life : Life} : ∀ (l : List Obj) (n : Nat) (t : BT), okObjs l n t = true → absHeap (ofObjs l n t) (n + l.length) life = ⟨(absHeap t n life).objs ++ l.toArray, life⟩
  | [], n, t, _ => by show absHeap t n life = _; rw [Array.append_empty]; rfl
  | o :: l, n, t, h => by
    obtain ⟨h1, h2⟩ := Bool.and_eq_true_iff.mp h
    have := abs_ofObjs (life := life) l (n + 1) (t.ins n o) h2
    rw [absHeap_ins h1] at this
    rw [List.length_cons, show n + (l.length + 1) = n + 1 + l.length by omega]
    show absHeap (ofObjs l (n + 1) (t.ins n o)) (n + 1 + l.length) life = _
    rw [this]
    show Heap.mk ((absHeap t n life).objs.push o ++ l.toArray) life = _
    congr 1
    apply Array.toList_inj.mp
    simp
noncomputable def bootT (P : Params) : BT := ofObjs (boot_heap P).objs.toList 0 .nil
theorem bootT_ok (P : Params) : okObjs (boot_heap P).objs.toList 0 .nil = true := by kernel_rfl
theorem bootT_abs (P : Params) : absHeap (bootT P) (boot_heap P).objs.toList.length (boot_heap P).life = boot_heap P := by
  have := abs_ofObjs (life := (boot_heap P).life) (boot_heap P).objs.toList 0 .nil (bootT_ok P)
  rw [Nat.zero_add] at this
  refine this.trans ?_
  show Heap.mk (#[] ++ (boot_heap P).objs.toList.toArray) (boot_heap P).life = boot_heap P
  rw [Array.empty_append, Array.toArray_toList]

/-- the head from one look: the run, and what is asked of its end, by the library's quick twins -/
theorem left_of_tree {p q : Program} {loose : List Str} {Xt : Shared → Bool} {α : Type} {Yf : Shared → α} {Ya : World → α} {N : Nat} {g0 : Bool} {n m₀ : Nat} {ann : Option Value}
    (e : opening p = plainProg p.main.scope.names) (hN : Nat.ble 600 N = true) (f : ∀ s, fenceModules? p s = some s) (hn : ∀ P, (boot_heap P).objs.toList.length = n)
    (size : ∀ w : World, ((boot_heap w.params).isNs mainGlobals && (Array.mk ([] : List GenState)).size == 0, (boot_heap w.params).objs.size, (boot_heap w.params).nsMap mainGlobals "__annotations__") = (true, m₀, ann))
    (look : ∀ (w : World) (os : OsState), (runT (PySem.W.Fast.tw6613529449190102663 m₀ ann) (PySem.W.Fast.tw10156331382660048174 (PySem.W.Fast.tw11892475500146522536 PySem.W.Fast.tw14364793385576792824) p w) N
        ⟨bootT w.params, n, (boot_heap w.params).life, Array.mk [], boot_drawn, boot_toks, os⟩ (topStub p)).map (fun s =>
          ((staticsOk (PySem.W.Fast.tw5923862056798008813 p.main.body) (boot_heap w.params) s.abs.heap && namesBound p s.abs.heap && gensDone s.abs && laidKept (boot_heap w.params) s.abs.heap), PySem.W.Fast.tw4187177175401517315 q loose (PySem.W.Fast.tw5923862056798008813 p.main.body) Xt g0 s.abs, Yf s.abs)) =
      some (true, openGood q loose, Ya w)) : LeftO p q loose Xt Yf Ya N g0 := fun w => by
  obtain ⟨⟨h, gs, d, k, os⟩, e1, e2⟩ := Option.map_eq_some_iff.mp (boot_open e hN f w)
  obtain ⟨rfl, rfl, rfl, rfl⟩ : h = boot_heap w.params ∧ gs = Array.mk [] ∧ d = boot_drawn ∧ k = boot_toks := by simpa using e2
  obtain ⟨z1, z2, z3⟩ : _ ∧ _ ∧ _ := by simpa only [Prod.mk.injEq] using size w
  obtain ⟨s', r, l⟩ := Option.map_eq_some_iff.mp (look w os)
  rw [← PySem.W.Fast.te6613529449190102663, ← PySem.W.Fast.te10156331382660048174, ← PySem.W.Fast.te11892475500146522536, ← PySem.W.Fast.te14364793385576792824] at r
  rw [← PySem.W.Fast.te5923862056798008813, ← PySem.W.Fast.te4187177175401517315] at l
  obtain ⟨l1, l2, l3⟩ : _ ∧ _ ∧ _ := by simpa only [Prod.mk.injEq] using l
  have r' := runT_of r
  have hb := bootT_abs w.params
  rw [hn] at hb
  have ha : (SharedT.abs ⟨bootT w.params, n, (boot_heap w.params).life, Array.mk [], boot_drawn, boot_toks, os⟩) = ⟨boot_heap w.params, Array.mk [], boot_drawn, boot_toks, os⟩ := by
    show Shared.mk (absHeap (bootT w.params) n (boot_heap w.params).life) _ _ _ _ = _
    rw [hb]
  rw [ha] at r'
  have t : topFrom treeTable p w N ⟨boot_heap w.params, Array.mk [], boot_drawn, boot_toks, os⟩ = some s'.abs := by
    unfold topFrom
    dsimp only
    rw [z1, z2, z3, r']
    show (match staticsOk (importedModules p.main.body) (boot_heap w.params) s'.abs.heap && namesBound p s'.abs.heap && gensDone s'.abs && laidKept (boot_heap w.params) s'.abs.heap with | true => _ | false => _) = _
    rw [l1]
  unfold openEnds
  rw [e1]
  show (topFrom treeTable p w N _).map _ = _
  rw [t]
  exact congrArg some (Prod.ext l2 l3)

/-- the part of the text that the walk knows -/
def viewP : Program := view PySem.Challenge.pw_nz0293_01 [0, 2, 3, 5, 6, 7, 9, 10, 12, 13, 14, 16, 18, 19, 21, 22, 23, 24, 26, 27, 28, 29, 31, 32, 33, 34, 35, 36, 37, 38]
/-- the head for any hook, once the look is shown -/
theorem head_of (H : Hook) {d : DefRec} {kwd : List (Str × PySem.Expr)} (said : PySem.Challenge.rw_nz0293_01.row.wellSaid = true)
    (hdef : defOf viewP PySem.Challenge.rw_nz0293_01.row.name = some (d, kwd)) (hp : PySem.Challenge.rw_nz0293_01.row.prog.theDef PySem.Challenge.rw_nz0293_01.row.name = some (d.params, d.body, d.scope)) (hk : kwWritten? d.params.kwonlyargs d.params.kw_defaults = some kwd)
    (look : ∀ (w : World) (os : OsState), (runT (PySem.W.Fast.tw6613529449190102663 11 (some (.ref 6))) (PySem.W.Fast.tw10156331382660048174 (PySem.W.Fast.tw11892475500146522536 PySem.W.Fast.tw14364793385576792824) PySem.Challenge.pw_nz0293_01 w) 4976
        ⟨bootT w.params, 11, (boot_heap w.params).life, Array.mk [], boot_drawn, boot_toks, os⟩ (topStub PySem.Challenge.pw_nz0293_01)).map (fun s =>
          ((staticsOk (PySem.W.Fast.tw5923862056798008813 PySem.Challenge.pw_nz0293_01.main.body) (boot_heap w.params) s.abs.heap && namesBound PySem.Challenge.pw_nz0293_01 s.abs.heap && gensDone s.abs && laidKept (boot_heap w.params) s.abs.heap),
            PySem.W.Fast.tw4187177175401517315 viewP [Str.ofString "PostError", Str.ofString "tree_told"] (PySem.W.Fast.tw5923862056798008813 PySem.Challenge.pw_nz0293_01.main.body) (fun s => xlAt viewP [] s && recOk (RowW.records PySem.Challenge.rw_nz0293_01.row.toRowW) s) true s.abs, H.obs s.abs)) =
      some (true, openGood viewP [Str.ofString "PostError", Str.ofString "tree_told"], H.val w))
    (hw : PySem.Challenge.rw_nz0293_01.row.toRowW.promised)
    (hc : WalkO viewP [Str.ofString "PostError", Str.ofString "tree_told"] (XL viewP []) H.says PySem.Challenge.rw_nz0293_01.row.toRowW d kwd fun f vs => PySem.call f vs) : PySem.Challenge.rw_nz0293_01.row.Holds :=
  holds_open (q := viewP) (loose := [Str.ofString "PostError", Str.ofString "tree_told"]) (Xt := fun s => xlAt viewP [] s && recOk (RowW.records PySem.Challenge.rw_nz0293_01.row.toRowW) s)
    (XP := XL viewP []) (Yf := H.obs) (Ya := H.val) (YP := H.says) (N := 4976)
    (left_of_tree (p := PySem.Challenge.pw_nz0293_01) (n := 11) (m₀ := 11) (ann := some (.ref 6)) (by kernel_rfl!) (by kernel_rfl!) (fun _ => by kernel_rfl!) (fun _ => by kernel_rfl!) (fun _ => by kernel_rfl!) look)
    H.of H.keeps (fun s e => xl_of s (Bool.and_eq_true_iff.mp e).1) XL.keeps hdef hp hk (fun s e => recFacts_of (Bool.and_eq_true_iff.mp e).2) (by rfl) said (by decide +kernel) ⟨rfl, rfl, rfl, rfl, rfl, by decide +kernel⟩ hw hc
theorem law_said : PySem.Challenge.rw_nz0293_01.wellSaid = true := by decide +kernel
section
local macro_rules | `(tactic| o_law) => `(tactic| (refine holds_law Mine.law_said fun said => ?_))
local macro_rules | `(tactic| o_head $H) => `(tactic| refine Mine.head_of $H (by assumption) (by rfl) (by rfl) (by rfl) (fun _ _ => by kernel_rfl!) ?hw ?hc)
set_option maxRecDepth 100000 in
set_option maxHeartbeats 8000000 in
open_top hd for PySem.Challenge.rw_nz0293_01
end
end Mine
end
-- Small
section
namespace Mine
/-! short proofs of what the walk asks again and again: places apart, room left -/
theorem cj1 {a b x : Nat} {P : Prop} (h : x < b ∧ P) (k : x < b ∧ P → a < b) : a ≠ b := Nat.ne_of_lt (k h)
theorem cj2 {a b x : Nat} {P : Prop} (h : x < a ∧ P) (k : x < a ∧ P → b < a) : a ≠ b := Nat.ne_of_gt (k h)
theorem cj3 {a b x : Nat} {P : Prop} (h : x ≠ b ∧ P) (k : x ≠ b ∧ P → a ≠ b) : a ≠ b := k h
theorem cj4 {a b x : Nat} {P : Prop} (h : x ≠ a ∧ P) (k : x ≠ a ∧ P → b ≠ a) : a ≠ b := (k h).symm
theorem cj5 {a b d x : Nat} {P : Prop} (hd : d < a) (h : x < d ∧ P) (k : x < d ∧ P → b < d) : a ≠ b := Nat.ne_of_gt (Nat.lt_trans (k h) hd)
theorem cj6 {a b d x : Nat} {P : Prop} (hd : d < b) (h : x < d ∧ P) (k : x < d ∧ P → a < d) : a ≠ b := Nat.ne_of_lt (Nat.lt_trans (k h) hd)
theorem cj7 {a b d x y : Nat} {P : Prop} (hy : y < a) (hd : d < y) (h : x < d ∧ P) (k : x < d ∧ P → b < d) : a ≠ b := Nat.ne_of_gt (Nat.lt_trans (k h) (Nat.lt_trans hd hy))
theorem cj8 {a b d x y : Nat} {P : Prop} (hy : y < b) (hd : d < y) (h : x < d ∧ P) (k : x < d ∧ P → a < d) : a ≠ b := Nat.ne_of_lt (Nat.lt_trans (k h) (Nat.lt_trans hd hy))
theorem cj9 {a b d : Nat} (hd : d < a) (h : b < d) : a ≠ b := Nat.ne_of_gt (Nat.lt_trans h hd)
theorem cj10 {a b d : Nat} (hd : d < b) (h : a < d) : a ≠ b := Nat.ne_of_lt (Nat.lt_trans h hd)
theorem cl1 {a b x : Nat} {P : Prop} (h : x < b ∧ P) (k : x < b ∧ P → a < b) : a < b := k h
theorem cl2 {a b d x : Nat} {P : Prop} (hd : d < b) (h : x < d ∧ P) (k : x < d ∧ P → a < d) : a < b := Nat.lt_trans (k h) hd
theorem ns1 {a b : Nat} (h : b < a) : a + 1 ≠ b := Nat.ne_of_gt (Nat.lt_succ_of_lt h)
theorem ns2 {a b : Nat} (h : b < a) : a + 1 + 1 ≠ b := Nat.ne_of_gt (Nat.lt_succ_of_lt (Nat.lt_succ_of_lt h))
theorem ns3 {a : Nat} : a + 1 ≠ a + 1 + 1 := Nat.ne_of_lt (Nat.lt_succ_self _)
theorem ns4 {a : Nat} : a + 1 + 1 ≠ a + 1 := Nat.ne_of_gt (Nat.lt_succ_self _)
theorem lm1 {d a b R : Nat} (h : d + b < R) (k : Nat.ble a b = true) : d + a < R := Nat.lt_of_le_of_lt (Nat.add_le_add_left (Nat.le_of_ble_eq_true k) d) h
theorem lm2 {d a b R : Nat} (h : d + b ≤ R) (k : Nat.ble (a + 1) b = true) : d + a < R := Nat.lt_of_lt_of_le (Nat.add_lt_add_left (Nat.le_of_ble_eq_true k) d) h
theorem lm3 {d a b c R : Nat} (h : d + b < R + c) (k : Nat.ble (a + c) b = true) : d + a < R := by
  have := Nat.le_of_ble_eq_true k
  omega
theorem lm4 {d a a' b R : Nat} (h : d + b < R) (k : Nat.ble (a + a') b = true) : d + a + a' < R := Nat.add_assoc d a a' ▸ lm1 h k
theorem lm5 {d a a' b R : Nat} (h : d + b ≤ R) (k : Nat.ble (a + a' + 1) b = true) : d + a + a' < R := Nat.add_assoc d a a' ▸ lm2 h k
theorem lm6 {a b c : Nat} (h : a ≤ b) (k : Nat.ble b c = true) : a ≤ c := Nat.le_trans h (Nat.le_of_ble_eq_true k)
theorem lm7 {a b c : Nat} (h : a < b) (k : Nat.ble b c = true) : a < c := Nat.lt_of_lt_of_le h (Nat.le_of_ble_eq_true k)
theorem lm8 {a b c : Nat} (h : a ≤ b) (k : Nat.ble (b + 1) c = true) : a < c := Nat.lt_of_le_of_lt h (Nat.le_of_ble_eq_true k)
theorem lm9 {a b c : Nat} (h : a < b) (k : Nat.ble b (c + 1) = true) : a ≤ c := Nat.le_of_lt_succ (Nat.lt_of_lt_of_le h (Nat.le_of_ble_eq_true k))
theorem lm10 {u a e b c R : Nat} (h : u + (b + e) < R + c) (k : Nat.ble (a + c) b = true) : u + a < R := by
  have := Nat.le_of_ble_eq_true k
  omega
theorem lm11 {d a b e R : Nat} (h : d + (b + e) ≤ R) (k : Nat.ble (a + 1) b = true) : d + a < R := by
  have := Nat.le_of_ble_eq_true k
  omega
theorem ngt {x : Int} (h : 0 ≤ x) : -2 ^ 1920 < x := Int.lt_of_lt_of_le (Int.neg_neg_of_pos (Int.pow_pos (by decide))) h
theorem lt1920 {x : Int} (h : x < 10 ^ 10) : x < 2 ^ 1920 := Int.lt_trans h (by
  have : ((10 ^ 10 : Nat) : Int) < ((2 ^ 1920 : Nat) : Int) := Int.ofNat_lt.mpr (by decide +kernel)
  simpa using this)
theorem nz1 {a : Int} {d : Nat} (h : 0 ≤ a) : 0 ≤ a + (d : Int) := Int.add_nonneg h (Int.natCast_nonneg _)
theorem nz2 {a : Int} {d : Nat} (h : 0 ≤ a) : 0 ≤ (d : Int) + a := Int.add_nonneg (Int.natCast_nonneg _) h
theorem nm3 {a N b : Int} {d : Nat} (h : (d : Int) < N) (k : a + N ≤ b) : a + (d : Int) < b := Int.lt_of_lt_of_le (Int.add_lt_add_left h a) k
theorem nm4 {a b d : Nat} {N : Int} (h : (d : Int) < N) (k : (a : Int) + N ≤ (b : Int)) : a + d < b := by omega
theorem nm7 {b d : Nat} {N : Int} (h : (d : Int) < N) (k : N ≤ (b : Int)) : d < b := by omega
theorem nm8 {b d : Nat} {N : Int} (h : (d : Int) < N) (k : N ≤ (b : Int) + 1) : d ≤ b := by omega
theorem nm9 {i b m : Nat} {a M : Int} (e : b = i) (h : i < m) (k : (m : Int) + a ≤ M) : (i : Int) + a < M := by omega
theorem el1 {a b c N : Nat} (e : a = b) (h : b ≤ N) (k : Nat.ble N c = true) : a ≤ c := e ▸ Nat.le_trans h (Nat.le_of_ble_eq_true k)
theorem el2 {a b c N : Nat} (e : a = b) (h : b < N) (k : Nat.ble N (c + 1) = true) : a ≤ c := e ▸ Nat.le_of_lt_succ (Nat.lt_of_lt_of_le h (Nat.le_of_ble_eq_true k))
theorem el3 {a b x c N : Nat} (e : a = b) (f : b = x) (h : x ≤ N) (k : Nat.ble N c = true) : a ≤ c := el1 (e.trans f) h k
theorem el4 {a b x c N : Nat} (e : a = b) (f : b = x) (h : x < N) (k : Nat.ble N (c + 1) = true) : a ≤ c := el2 (e.trans f) h k
theorem ub1 {U k d b m : Nat} {N : Int} (hU : U ≤ 3 * k) (hk : k ≤ m) (hd : (d : Int) < N) (g : ((3 * m + 1 : Nat) : Int) + N ≤ (b : Int)) : U + 1 + d < b := by omega
theorem ub2 {U k d b m : Nat} {N : Int} (hU : U ≤ 3 * k) (hk : k < m) (hd : (d : Int) < N) (g : ((3 * m + 1 : Nat) : Int) + N ≤ (b : Int)) : U + 1 + d < b := by omega
theorem ub3 {U k d m : Nat} {N b : Int} (hU : U ≤ 3 * k) (hk : k ≤ m) (hd : (d : Int) < N) (g : ((3 * m + 1 : Nat) : Int) + N ≤ b) : (U : Int) + 1 + (d : Int) < b := by omega
theorem ub4 {U k d m : Nat} {N b : Int} (hU : U ≤ 3 * k) (hk : k < m) (hd : (d : Int) < N) (g : ((3 * m + 1 : Nat) : Int) + N ≤ b) : (U : Int) + 1 + (d : Int) < b := by omega
theorem ub5 {U d : Nat} : 0 ≤ (U : Int) + 1 + (d : Int) := Int.add_nonneg (Int.add_nonneg (Int.natCast_nonneg _) (by decide)) (Int.natCast_nonneg _)
theorem ub6 {U d : Nat} : (U : Int) + 1 + (d : Int) = ((U + 1 + d : Nat) : Int) := by omega
theorem lm12 {u a k e t R : Nat} (h : u + (a + k * e) < R + 3) (h2 : t + 1 ≤ e) (g : Nat.ble 3 k = true) : u + (a + k * t) < R := by
  have h3 : k * t + k ≤ k * e := by rw [← Nat.mul_succ]; exact Nat.mul_le_mul_left k h2
  have := Nat.le_of_ble_eq_true g
  omega
theorem lm13 {u a k e t R : Nat} (h : u + (a + k * e) ≤ R) (h2 : t + 1 ≤ e) (g : Nat.ble 1 k = true) : u + (a + k * t) < R := by
  have h3 : k * t + k ≤ k * e := by rw [← Nat.mul_succ]; exact Nat.mul_le_mul_left k h2
  have := Nat.le_of_ble_eq_true g
  omega
end Mine
end
section
local macro_rules | `(tactic| k_steps) => `(tactic| repeat' (first | (k_unfold; (try dsimp only)) | (k_end; wrow_close) | (walk1; (try dsimp only)) | (dsimp only; walk1) | (dsimp only; k_unfold; (try dsimp only)) | (leave1; walk_say "STEP leave1"; try dsimp only) | fail "no step"))
local macro_rules | `(tactic| walk_at $s:str) => `(tactic| k_extra $s)
local macro_rules | `(tactic| k_inst) => `(tactic| k_extra "k_inst")
local macro_rules | `(tactic| k_ne) => `(tactic| k_extra "k_ne")
local macro_rules | `(tactic| k_all) => `(tactic| k_extra "k_all")
local macro_rules | `(tactic| omega) => `(tactic| k_extra "omega")
local macro_rules | `(tactic| k_qdec) => `(tactic| decide +kernel)
theorem Mine.rows0 : True := by
  k_with_none
  (k_with "cj" => (first | exact fun h => h.1 | exact fun h => h.2.1 | exact fun h => h.2.2.1 | exact fun h => h.2.2.2.1 | exact fun h => h.2.2.2.2.1 | exact fun h => h.2.2.2.2.2.1 | exact fun h => h.2.2.2.2.2.2.1 | exact fun h => h.2.2.2.2.2.2.2.1 | exact fun h => h.2.2.2.2.2.2.2.2.1 | exact fun h => h.2.2.2.2.2.2.2.2.2.1 | exact fun h => h.2.2.2.2.2.2.2.2.2.2.1 | exact fun h => h.2.2.2.2.2.2.2.2.2.2.2.1 | exact fun h => h.2.2.2.2.2.2.2.2.2.2.2.2.1 | exact fun h => h.2.2.2.2.2.2.2.2.2.2.2.2.2.1 | exact fun h => h.2 | exact fun h => h.2.2 | exact fun h => h.2.2.2 | exact fun h => h.2.2.2.2 | exact fun h => h.2.2.2.2.2 | exact fun h => h.2.2.2.2.2.2 | exact fun h => h.2.2.2.2.2.2.2 | exact fun h => h.2.2.2.2.2.2.2.2 | exact fun h => h.2.2.2.2.2.2.2.2.2 | exact fun h => h.2.2.2.2.2.2.2.2.2.2 | exact fun h => h.2.2.2.2.2.2.2.2.2.2.2 | exact fun h => h.2.2.2.2.2.2.2.2.2.2.2.2 | exact fun h => h.2.2.2.2.2.2.2.2.2.2.2.2.2))
  (k_with "omega" => (with_reducible first | assumption | exact Nat.le_of_ble_eq_true (by decide) | exact Nat.ne_of_gt (by assumption) | exact Nat.ne_of_lt (by assumption) | exact Mine.lm1 (by assumption) (by decide) | exact Mine.lm2 (by assumption) (by decide) | exact Mine.lm3 (by assumption) (by decide) | exact Mine.lm4 (by assumption) (by decide) | exact Mine.lm5 (by assumption) (by decide) | exact Mine.lm6 (by assumption) (by decide) | exact Mine.lm7 (by assumption) (by decide) | exact Mine.lm8 (by assumption) (by decide) | exact Mine.lm9 (by assumption) (by decide) | exact Int.natCast_nonneg _ | (refine Mine.cj1 (by assumption) ?_; k_extra "cj") | (refine Mine.cj2 (by assumption) ?_; k_extra "cj") | (refine Mine.cj3 (by assumption) ?_; k_extra "cj") | (refine Mine.cj4 (by assumption) ?_; k_extra "cj") | (refine Mine.cj5 (by assumption) (by assumption) ?_; k_extra "cj") | (refine Mine.cj6 (by assumption) (by assumption) ?_; k_extra "cj") | (refine Mine.cj7 (by assumption) (by assumption) (by assumption) ?_; k_extra "cj") | (refine Mine.cj8 (by assumption) (by assumption) (by assumption) ?_; k_extra "cj") | exact Mine.cj9 (by assumption) (by assumption) | exact Mine.cj10 (by assumption) (by assumption) | (refine Mine.cl1 (by assumption) ?_; k_extra "cj") | (refine Mine.cl2 (by assumption) (by assumption) ?_; k_extra "cj") | exact Mine.ns1 (by assumption) | exact Mine.ns2 (by assumption) | exact Mine.ns3 | exact Mine.ns4 | exact Mine.lm10 (by assumption) (by decide) | exact Mine.lm11 (by assumption) (by decide) | exact Mine.lm12 (by assumption) (by assumption) (by decide) | exact Mine.lm12 (by assumption) (Nat.le_refl _) (by decide) | exact Mine.lm13 (by assumption) (by assumption) (by decide) | exact Mine.lm13 (by assumption) (Nat.le_refl _) (by decide) | fail))
  trivial
-- Base
section
open PySem PySem.W PyProof.Rows PySem.Calls PySem.Spec
namespace Mine

theorem fill : PySem.Challenge.rw_nz0293_01 = PySem.Challenge.rw_nz0293_01 ∧ Mine.hd.heap_1 = Mine.hd.heap_1 := by
  k_fill
  exact ⟨rfl, rfl⟩



/-- everything of H but what lies at `own` stands in H' -/
def KeepX (H H' : Heap) (own : List (Addr × Obj)) : Prop := ∀ b o, H.get? b = some o → b ∉ own.map (·.1) → H'.get? b = some o

/-- what is owned then was owned, or is new -/
def FreshX (H : Heap) (own own' : List (Addr × Obj)) : Prop := ∀ p ∈ own', p.1 ∈ own.map (·.1) ∨ H.get? p.1 = none

/-- the heap that a callee may look upon: all but what it owns -/
abbrev hid (h : Heap) (own : List (Addr × Obj)) : Heap := hideAll h (own.map (·.1))

/-- what a call of `f` upon `vs` does: it owns `own`, may read what `Pre` says of the rest; it hands back `r` and owns `own'` then -/
def Spec (prog : Program) (w : World) (f : Addr) (vs : List Value) (dd uu : Nat) (own : List (Addr × Obj)) (Pre : Heap → Prop) (Post : Heap → Value → List (Addr × Obj) → Prop) : Prop :=
  ∀ (p : Program) (loose : List Str) (mean : ExcName → Option Value) (mg mb : Str → Option Value) (dp un : Nat) (gd : Option (List Code)) (cn : Str) (cs : Scope) (a : Addr) (ccd : Value) (cl : List (Str × Addr)) (outer : List Env) (A₀ : Around) (base h₀ : Heap) (L : Addr) (m : Str → Option Value) (s : Shared)
    (Q E : Value → Shared → Prop),
    Below A₀ base outer h₀ → Fr h₀ L s.heap m → (Mine.hd.heap_1 w.params).In h₀ → News h₀ L s.heap own → Top p loose mean mg mb h₀ → cs.kind = .function → Pre (hid s.heap own) →
    dp + dd < recursionLimit → un + uu < cLine →
    (∀ r own' h' tk', Fr h₀ L h' m → News h₀ L h' own' → KeepX s.heap h' own → FreshX s.heap own own' → Post h' r own' → Q r { s with heap := h', toks := tk' }) →
    wpAny (model prog w) (ktrTop dp un gd cn cs L a ccd cl outer) (call (.ref f) vs) Q E s

/-- the end of a callee's body -/
def Fin (g : Heap) (L' : Addr) (s : Shared) (Post : Heap → Value → List (Addr × Obj) → Prop) (v : Value) (s' : Shared) : Prop :=
  ∃ h' tk m' own', s' = { s with heap := h', toks := tk } ∧ Fr g L' h' m' ∧ News g L' h' own' ∧ Post h' v own'

theorem Fin.intro {g : Heap} {L' : Addr} {s : Shared} {Post : Heap → Value → List (Addr × Obj) → Prop} {v : Value} {h' : Heap} {tk : Nat} {m' : Str → Option Value} {own' : List (Addr × Obj)}
    (F : Fr g L' h' m') (N : News g L' h' own') (P : Post h' v own') : Fin g L' s Post v { s with heap := h', toks := tk } := ⟨h', tk, m', own', rfl, F, N, P⟩

theorem freshX_of {s : Heap} {L' : Addr} {h' : Heap} {own own' : List (Addr × Obj)} (N : News (hid s own) L' h' own') : FreshX s own own' := by
  intro p hp
  by_cases hm : p.1 ∈ own.map (·.1)
  · exact .inl hm
  · refine .inr ?_
    cases e : s.get? p.1 with
    | none => rfl
    | some o => have := (N p hp).2.2; rw [hideAll_get _ e hm] at this; cases this

section
variable {prog : Program} {w : World} {vs : List Value} {dd uu : Nat} {own : List (Addr × Obj)} {Pre : Heap → Prop} {Post : Heap → Value → List (Addr × Obj) → Prop}
  {name qual : Str} {params : Arguments} {body : List Stmt} {scope : Scope} {dV kV doc pm cdv ct oc : Value} {an od : Option Addr} {osl : Array (Option Value)} {f : Addr}

theorem spec_of (binds : List (Str × Value)) (ho : (Mine.hd.heap_1 w.params).lookup f = some ⟨oc, od, .func (fnOf name qual params body scope dV kV doc pm an cdv ct), osl⟩) (hcd : codeIn (Mine.hd.heap_1 w.params) cdv qual = true)
    (hbind : ∀ s : Shared, (Mine.hd.heap_1 w.params).In s.heap → BindsTo s (fnOf name qual params body scope dV kV doc pm an cdv ct) ⟨vs, []⟩ binds) (hloc : ∀ y ∈ binds, scope.names.lookup y.1 = some .local)
    (h : ∀ (p : Program) (loose : List Str) (mean : ExcName → Option Value) (mg mb : Str → Option Value) (dp un : Nat) (gd : Option (List Code)) (outer : List Env) (A₀ : Around) (base g : Heap) (L' : Addr) (s : Shared),
      Below A₀ base outer g → Fr g L' s.heap (fun y => binds.reverse.lookup y) → News g L' s.heap own → (Mine.hd.heap_1 w.params).In g → Top p loose mean mg mb g → Pre g → dp + dd ≤ recursionLimit → un + uu < cLine + 3 → (∀ q ∈ own, q.1 < L') →
      wpAny (model prog w) (ktrTop dp un gd qual scope L' f cdv [] outer) (execs body (envOf qual scope L' f cdv)) (fun fl s' => Fin g L' s Post (match fl with | .ret v => v | _ => .none) s') (fun _ _ => False) s)
    (hdd : 0 < dd)
    (hco : scope.isCoroutine = false := by rfl) (hgen : scope.isGenerator = false := by rfl) (hk : scope.kind = .function := by rfl)
    (hcell : ∀ x ∈ scope.names, x.2 ≠ .cell := by decide) : Spec prog w f vs dd uu own Pre Post := by
  intro p loose mean mg mb dp un gd cn cs a ccd cl outer A₀ base h₀ L m s Q E B F X N T hk' hpre hdp hun ret
  refine wpAny_call ?_
  obtain ⟨FG, BG, st, lv⟩ := groundX (A := ktrTop dp un gd cn cs L a ccd cl outer) (R := fun r s' => match r with | .ok (.ret v) => Q v s' | .ok _ => False | .error e => E e s') B F N rfl rfl hk'
  refine codeAny_call_def (fd := fnX name qual params body scope [] dV kV doc pm an cdv ct) (body := body) (binds := binds) (by show dp < recursionLimit; omega) ((X.keeps F.keep) _ _ ho) rfl (T.nolimit.keeps F.keep) (codeRec_of (X.keeps F.keep) hcd) rfl (hbind s (X.keeps F.keep)) hcell hloc (fun h₁ hns hk₁ => ?_) hco hgen hk
  refine wpAny_mono (h p loose mean mg mb (dp + 1) (un + 3) gd (envX cn cs L a ccd cl :: outer) (ktrTop dp un gd cn cs L a ccd cl outer) base (hid s.heap own) s.heap.objs.size { s with heap := h₁, toks := s.toks + binds.length } BG
    ⟨hns, fun b o e => hk₁ b o (of_hideAll _ e), Nat.le_of_eq (hideAll_size _ _)⟩ (fun p hp => ⟨hk₁ _ _ (N p hp).1, Nat.ne_of_lt (Heap.lt_size (N p hp).1), hideAll_none _ (List.mem_map_of_mem hp)⟩) (X.keeps st) (T.keeps st) hpre (by omega) (by omega) fun p hp => Heap.lt_size (N p hp).1)
    (fun fl s' hfl => lv _ _ ?_) (fun _ _ x => x.elim)
  obtain ⟨h', tk, m', own', rfl, F', N', P⟩ := hfl
  exact leaveK_ F' N' fun kF kN => ret _ own' h' tk kF kN (fun b o e n => F'.keep b o (hideAll_get _ e n)) (freshX_of N') P

/-- the same for a def whose names a comprehension captures -/
theorem spec_ofC (binds : List (Str × Value)) (ho : (Mine.hd.heap_1 w.params).lookup f = some ⟨oc, od, .func (fnOf name qual params body scope dV kV doc pm an cdv ct), osl⟩) (hcd : codeIn (Mine.hd.heap_1 w.params) cdv qual = true)
    (hbind : ∀ s : Shared, (Mine.hd.heap_1 w.params).In s.heap → BindsTo s (fnOf name qual params body scope dV kV doc pm an cdv ct) ⟨vs, []⟩ binds)
    (hkind : (binds.all fun y => scope.names.lookup y.1 == some .local || scope.names.lookup y.1 == some .cell) = true)
    (hnd : ((cellsFrom 0 scope.names []).map (·.1)).Nodup)
    (h : ∀ (p : Program) (loose : List Str) (mean : ExcName → Option Value) (mg mb : Str → Option Value) (dp un : Nat) (gd : Option (List Code)) (outer : List Env) (A₀ : Around) (base g : Heap) (L' : Addr) (cells : List (Addr × Obj)) (s : Shared),
      Below A₀ base outer g → Fr g L' s.heap (bindL (envOfC qual scope L' f cdv).kindOf binds fun _ => none) → News g L' s.heap (cells ++ own) →
      CellsAre (bindC (envOfC qual scope L' f cdv).kindOf binds fun _ => none) (cellsFrom (L' + 1) scope.names []) cells → (Mine.hd.heap_1 w.params).In g → Top p loose mean mg mb g → Pre g → dp + dd ≤ recursionLimit → un + uu < cLine + 3 → (∀ q ∈ own, q.1 < L') →
      wpAny (model prog w) (ktrTop dp un gd qual scope L' f cdv (cellsFrom (L' + 1) scope.names []) outer) (execs body (envOfC qual scope L' f cdv)) (fun fl s' => Fin g L' s Post (match fl with | .ret v => v | _ => .none) s') (fun _ _ => False) s)
    (hdd : 0 < dd)
    (hco : scope.isCoroutine = false := by rfl) (hgen : scope.isGenerator = false := by rfl) (hk : scope.kind = .function := by rfl) : Spec prog w f vs dd uu own Pre Post := by
  intro p loose mean mg mb dp un gd cn cs a ccd cl outer A₀ base h₀ L m s Q E B F X N T hk' hpre hdp hun ret
  refine wpAny_call ?_
  obtain ⟨FG, BG, st, lv⟩ := groundX (A := ktrTop dp un gd cn cs L a ccd cl outer) (R := fun r s' => match r with | .ok (.ret v) => Q v s' | .ok _ => False | .error e => E e s') B F N rfl rfl hk'
  refine codeAny_call_function (by show dp < recursionLimit; omega) ((X.keeps F.keep) _ _ ho) rfl hco hgen rfl (codeRec_of (X.keeps F.keep) hcd) ?_
  refine hbind s (X.keeps F.keep) _ _ _ _ ?_
  refine wpAny_newFunctionEnv_cells hk (kindsX hkind _) fun env' he s' x => ?_
  subst he
  refine ⟨(T.nolimit.keeps F.keep).keeps x.toInCall.keep, codeAny_func ?_⟩
  obtain ⟨h₁, tk, rfl, _⟩ := x.done
  have hk₁ := x.toInCall.keep
  obtain ⟨cells, NC, Y⟩ := Cl.news (h₀ := s.heap) (Nat.le_refl _) fun n c hm => ⟨x.cell n c (lookup_of_mem_nodup (cellsFrom_names scope.names 0 (s.heap.objs.size + 1) [] [] rfl ▸ hnd) hm), x.above n c hm⟩
  refine wpAny_mono (h p loose mean mg mb (dp + 1) (un + 3) gd (envX cn cs L a ccd cl :: outer) (ktrTop dp un gd cn cs L a ccd cl outer) base (hid s.heap own) s.heap.objs.size cells { s with heap := h₁, toks := tk } BG
    ⟨x.toInCall.ns, fun b o e => hk₁ b o (of_hideAll _ e), Nat.le_of_eq (hideAll_size _ _)⟩ (fun p hp => ?_) Y (X.keeps st) (T.keeps st) hpre (by omega) (by omega) fun p hp => Heap.lt_size (N p hp).1)
    (fun fl s' hfl => lv _ _ ?_) (fun _ _ x => x.elim)
  · rcases List.mem_append.mp hp with hp | hp
    · refine ⟨(NC p hp).1, (NC p hp).2.1, ?_⟩
      cases q : (hid s.heap own).get? p.1 with
      | none => rfl
      | some o => have := of_hideAll _ q; rw [(NC p hp).2.2] at this; cases this
    · exact ⟨hk₁ _ _ (N p hp).1, Nat.ne_of_lt (Heap.lt_size (N p hp).1), hideAll_none _ (List.mem_map_of_mem hp)⟩
  obtain ⟨h', tk, m', own', rfl, F', N', P⟩ := hfl
  exact leaveK_ F' N' fun kF kN => ret _ own' h' tk kF kN (fun b o e n => F'.keep b o (hideAll_get _ e n)) (freshX_of N') P
end
/-- the rest of a ledger behind a call that owned `own` -/
theorem news_after {h₀ H h' : Heap} {L : Addr} {own own' rest : List (Addr × Obj)} (N : News h₀ L H rest) (N' : News h₀ L h' own') (k : KeepX H h' own) (hd : ∀ p ∈ rest, p.1 ∉ own.map (·.1)) : News h₀ L h' (own' ++ rest) := by
  intro p hp
  rcases List.mem_append.mp hp with hp | hp
  · exact N' p hp
  · exact ⟨k _ _ (N p hp).1 (hd p hp), (N p hp).2⟩
theorem news_after0 {h₀ H h' : Heap} {L : Addr} {rest : List (Addr × Obj)} (N : News h₀ L H rest) (k : KeepX H h' []) : News h₀ L h' rest := fun p hp => ⟨k _ _ (N p hp).1 (by simp), (N p hp).2⟩

theorem Spec.use {prog : Program} {w : World} {f : Addr} {vs : List Value} {dd uu : Nat} {own : List (Addr × Obj)} {Pre : Heap → Prop} {Post : Heap → Value → List (Addr × Obj) → Prop} (S : Spec prog w f vs dd uu own Pre Post)
    {p : Program} {loose : List Str} {mean : ExcName → Option Value} {mg mb : Str → Option Value} {dp un : Nat} {gd : Option (List Code)} {cn : Str} {cs : Scope} {a : Addr} {ccd : Value} {cl : List (Str × Addr)} {outer : List Env} {A₀ : Around} {base h₀ : Heap} {L : Addr} {m : Str → Option Value} {s : Shared}
    {Q E : Value → Shared → Prop} (B : Below A₀ base outer h₀) (F : Fr h₀ L s.heap m) (X : (Mine.hd.heap_1 w.params).In h₀) (N : News h₀ L s.heap own) (T : Top p loose mean mg mb h₀) (hk : cs.kind = .function) (hpre : Pre (hid s.heap own)) (hd : dp + dd < recursionLimit) (hu : un + uu < cLine)
    (ret : ∀ r own' h' tk', Fr h₀ L h' m → News h₀ L h' own' → KeepX s.heap h' own → FreshX s.heap own own' → Post h' r own' → Q r { s with heap := h', toks := tk' }) :
    wpAny (model prog w) (ktrTop dp un gd cn cs L a ccd cl outer) (call (.ref f) vs) Q E s := S p loose mean mg mb dp un gd cn cs a ccd cl outer A₀ base h₀ L m s Q E B F X N T hk hpre hd hu ret


theorem news_kept {h₀ H h' : Heap} {L : Addr} {own news : List (Addr × Obj)} (N : News h₀ L H news) (hs : ∀ p ∈ own, p ∈ news) (N' : News h₀ L h' own) (k : KeepX H h' own) : News h₀ L h' news := by
  intro p hp
  by_cases hm : p.1 ∈ own.map (·.1)
  · obtain ⟨q, hq, e⟩ := List.mem_map.mp hm
    have h1 := (N p hp).1
    have h2 := (N q (hs q hq)).1
    have h2' : H.get? p.1 = some q.2 := by rw [← e]; exact h2
    rw [h2'] at h1
    have h3 := (N' q hq).1
    refine ⟨?_, (N p hp).2⟩
    have h3' : h'.get? p.1 = some q.2 := by rw [← e]; exact h3
    rw [h3', h1]
  · exact ⟨k _ _ (N p hp).1 hm, (N p hp).2⟩

/-- a call that owns nothing -/
theorem Spec.use0 {prog : Program} {w : World} {f : Addr} {vs : List Value} {dd uu : Nat} {Pre : Heap → Prop} {Post : Heap → Value → List (Addr × Obj) → Prop} (S : Spec prog w f vs dd uu [] Pre Post)
    {p : Program} {loose : List Str} {mean : ExcName → Option Value} {mg mb : Str → Option Value} {dp un : Nat} {gd : Option (List Code)} {cn : Str} {cs : Scope} {a : Addr} {ccd : Value} {cl : List (Str × Addr)} {outer : List Env} {A₀ : Around} {base h₀ : Heap} {L : Addr} {m : Str → Option Value} {s : Shared} {news : List (Addr × Obj)}
    {Q E : Value → Shared → Prop} (B : Below A₀ base outer h₀) (F : Fr h₀ L s.heap m) (X : (Mine.hd.heap_1 w.params).In h₀) (N : News h₀ L s.heap news) (T : Top p loose mean mg mb h₀) (hk : cs.kind = .function) (hpre : Pre s.heap) (hd : dp + dd < recursionLimit) (hu : un + uu < cLine)
    (ret : ∀ r own' h' tk', Fr h₀ L h' m → News h₀ L h' news → News h₀ L h' own' → (∀ q ∈ own', ∀ p ∈ news, p.1 ≠ q.1) → Post h' r own' → Q r { s with heap := h', toks := tk' }) :
    wpAny (model prog w) (ktrTop dp un gd cn cs L a ccd cl outer) (call (.ref f) vs) Q E s := by
  refine S p loose mean mg mb dp un gd cn cs a ccd cl outer A₀ base h₀ L m s Q E B F X News.nil T hk hpre hd hu fun r own' h' tk' F' N' k' f' P' => ret r own' h' tk' F' (news_after0 N k') N' (fun q hq p hp e => ?_) P'
  rcases f' q hq with z | z
  · simp at z
  · have := (N p hp).1; rw [e, z] at this; cases this

/-- a call that owns what it leaves as it was -/
theorem Spec.useR {prog : Program} {w : World} {f : Addr} {vs : List Value} {dd uu : Nat} {own : List (Addr × Obj)} {Pre : Heap → Prop} {Post : Heap → Value → List (Addr × Obj) → Prop} (S : Spec prog w f vs dd uu own Pre Post)
    {p : Program} {loose : List Str} {mean : ExcName → Option Value} {mg mb : Str → Option Value} {dp un : Nat} {gd : Option (List Code)} {cn : Str} {cs : Scope} {a : Addr} {ccd : Value} {cl : List (Str × Addr)} {outer : List Env} {A₀ : Around} {base h₀ : Heap} {L : Addr} {m : Str → Option Value} {s : Shared} {news : List (Addr × Obj)}
    {Q E : Value → Shared → Prop} (B : Below A₀ base outer h₀) (F : Fr h₀ L s.heap m) (X : (Mine.hd.heap_1 w.params).In h₀) (N : News h₀ L s.heap news) (hs : ∀ p ∈ own, p ∈ news) (T : Top p loose mean mg mb h₀) (hk : cs.kind = .function) (hpre : Pre (hid s.heap own)) (hd : dp + dd < recursionLimit) (hu : un + uu < cLine)
    (hown : ∀ h' r own', Post h' r own' → ∀ p ∈ own, p ∈ own')
    (ret : ∀ r own' h' tk', Fr h₀ L h' m → News h₀ L h' news → Post h' r own' → Q r { s with heap := h', toks := tk' }) :
    wpAny (model prog w) (ktrTop dp un gd cn cs L a ccd cl outer) (call (.ref f) vs) Q E s := by
  refine S p loose mean mg mb dp un gd cn cs a ccd cl outer A₀ base h₀ L m s Q E B F X (fun p hp => N p (hs p hp)) T hk hpre hd hu fun r own' h' tk' F' N' k' f' P' => ret r own' h' tk' F' (news_kept N hs (fun p hp => N' p (hown _ _ _ P' p hp)) k') P'
theorem own_same {own own' : List (Addr × Obj)} (e : own' = own) : ∀ p ∈ own, p ∈ own' := fun _ h => e ▸ h
end Mine
end
-- Comp
section
open PySem PySem.W PyProof.Rows PySem.Calls PySem.Spec
namespace Mine

section
variable {prog : Program} {w : World} {A : Around} {E : Value → Shared → Prop} {s : Shared} {env : Env} {h₀ : Heap} {L : Addr} {m : Str → Option Value}

/-- a block's turns: next, what is handed on, the target, the test, the element, its keeping -/
theorem lc_loop {elt target iter : PySem.Expr} {ifs : List PySem.Expr} {scope : Scope} {pos : Pos} {it acc : Value} {env : Env} {R : Result → Shared → Prop} (I : Nat → Shared → Prop)
    (turn : ∀ n s, I n s → wpAny (model prog w) A (pyNext it) (fun r s₁ => match r with
      | none => R (.ok .next) s₁
      | some v => wpAny (model prog w) A (letOwnedTupleGo target it v) (fun _ s₀ => wpAny (model prog w) A (assign target env v) (fun _ s₂ =>
          wpAny (model prog w) A (forIn ifs true fun c r => if r = true then do let ok ← isTrue c env (eval c env); pure (ForInStep.yield ok) else pure (ForInStep.yield r)) (fun ok s₃ =>
            if ok = true then wpAny (model prog w) A (eval elt env) (fun x s₄ =>
              wpAny (model prog w) A (call (.builtin "list.append") [acc, x]) (fun _ s₅ => ∃ m, m < n ∧ I m s₅) (notedBy (model prog w) A env fun e s' => R (.error e) s') s₄) (notedBy (model prog w) A env fun e s' => R (.error e) s') s₃
            else ∃ m, m < n ∧ I m s₃) (notedBy (model prog w) A env fun e s' => R (.error e) s') s₂)
          (notedBy (model prog w) A env fun e s' => R (.error e) s') s₀) (notedBy (model prog w) A env fun e s' => R (.error e) s') s₁) (notedBy (model prog w) A env fun e s' => R (.error e) s') s)
    (n : Nat) (h : I n s) : codeAny (model prog w) A (.compLoop (.ListComp elt [⟨target, iter, ifs, 0⟩] scope pos) 0 it acc env) R s := by
  refine codeAny_loop rfl I (fun n s hI => ?_) n h
  show wpAny _ A ((compTurn (.ListComp elt [⟨target, iter, ifs, 0⟩] scope pos) 0 it acc env).onRaise (fun x => do noteFrame x env; theTreesLotGoes x)) _ _ s
  refine wpAny_noted ?_
  rw [compTurn_list]
  refine wpAny_bind (wpAny_standAt (wpAny_bind (wpAny_mono (turn n s hI) (fun r s₁ h₁ => ?_) fun _ _ h' => h')))
  cases r with
  | none => exact wpAny_pure h₁
  | some v =>
    refine wpAny_bind (wpAny_mono h₁ (fun _ s₀ h₀' => ?_) fun _ _ h' => h')
    refine wpAny_bind (wpAny_mono h₀' (fun _ s₂ h₂ => ?_) fun _ _ h' => h')
    refine wpAny_bind (wpAny_mono h₂ (fun okb s₃ h₃ => ?_) fun _ _ h' => h')
    cases okb with
    | false => exact wpAny_pure ⟨rfl, h₃⟩
    | true => exact wpAny_bind (wpAny_bind (wpAny_mono h₃ (fun x s₄ h₄ => wpAny_bind (wpAny_mono h₄ (fun _ s₅ h₅ => wpAny_pure (wpAny_pure ⟨rfl, h₅⟩)) fun _ _ h' => h')) fun _ _ h' => h'))

/-- what stands behind an element -/
def TEnd (h₀ : Heap) (L : Addr) (m : Str → Option Value) (s : Shared) (own : List (Addr × Obj)) (R : List (Addr × Obj) → Prop) (s' : Shared) : Prop :=
  ∃ h' tk own', s' = { s with heap := h', toks := tk } ∧ Fr h₀ L h' m ∧ News h₀ L h' own' ∧ KeepX s.heap h' own ∧ FreshX s.heap own own' ∧ R own'
theorem TEnd.intro {s : Shared} {own own' : List (Addr × Obj)} {R : List (Addr × Obj) → Prop} {h' : Heap} {tk : Nat} (F : Fr h₀ L h' m) (N : News h₀ L h' own') (k : KeepX s.heap h' own) (f : FreshX s.heap own own') (r : R own') :
    TEnd h₀ L m s own R { s with heap := h', toks := tk } := ⟨h', tk, own', rfl, F, N, k, f, r⟩
theorem TEnd.same {s : Shared} {own : List (Addr × Obj)} {R : List (Addr × Obj) → Prop} {tk : Nat} (F : Fr h₀ L s.heap m) (N : News h₀ L s.heap own) (r : R own) :
    TEnd h₀ L m s own R { s with toks := tk } := ⟨s.heap, tk, own, rfl, F, N, fun _ _ e _ => e, fun p hp => .inl (List.mem_map_of_mem hp), r⟩

/-- a turn: the target has been stored in C's namespace -/
def Turn (prog : Program) (w : World) (A : Around) (h₀ : Heap) (L : Addr) (m : Str → Option Value) (cenv : Env) (elt : PySem.Expr) (ifs : List PySem.Expr) (own : List (Addr × Obj)) (Ry : Value → List (Addr × Obj) → Prop) (Rn : List (Addr × Obj) → Prop) (E : Value → Shared → Prop) (s : Shared) : Prop :=
  wpAny (model prog w) A (forIn ifs true fun c r => if r = true then do let ok ← isTrue c cenv (eval c cenv); pure (ForInStep.yield ok) else pure (ForInStep.yield r)) (fun ok s₃ =>
    if ok = true then wpAny (model prog w) A (eval elt cenv) (fun y s₄ => TEnd h₀ L m s own (Ry y) s₄) E s₃ else TEnd h₀ L m s own Rn s₃) E s
/-- a source that is at hand: the iterator, what a turn keeps, what comes of it -/
def BlockAt (prog : Program) (w : World) (A : Around) (h₀ : Heap) (L : Addr) (m : Str → Option Value) (env : Env) (elt target : PySem.Expr) (ifs : List PySem.Expr) (scope : Scope) (cl : List (Str × Addr)) (mf : Addr → Str → Option Value) (Fin : Addr → Shared → Prop) (it : Value) (s₂ : Shared) : Prop :=
  ∃ (I : Addr) (fp wr : List Addr) (n : Nat) (P Md : Nat → Value → Heap → Prop) (St : Nat → Heap → Prop) (own : List (Addr × Obj)) (R : Nat → List Value → List (Addr × Obj) → Prop) (V : Nat → Value → (Str → Option Value) → Prop),
    it = .ref I ∧ KTurns prog w A target I fp wr n P Md St ∧ (∀ (s : Shared) (Q : Value → Shared → Prop) (E : Value → Shared → Prop), St 0 s.heap → Q (.ref I) s → wpAny (model prog w) A (pyIter (.ref I)) Q E s) ∧ n ≤ sizeLine ∧
    St 0 s₂.heap ∧ (∀ b ∈ fp, b < s₂.heap.objs.size) ∧ (∀ i h, St i h → ∀ b ∈ fp, (h.get? b).isSome = true) ∧ Fr h₀ L s₂.heap m ∧ News h₀ L s₂.heap own ∧ (∀ b ∈ wr, h₀.get? b = none) ∧ L ∉ wr ∧ (∀ p ∈ own, p.1 ∉ fp) ∧
    (∀ i v (C : Addr) (mc : Str → Option Value) (s : Shared) (Q : Unit → Shared → Prop) (E : Value → Shared → Prop), P i v s.heap → s.heap.Ns C mc →
      (∀ h' tk mc', h'.Ns C mc' → V i v mc' → (∀ b o, b ≠ C → s.heap.get? b = some o → h'.get? b = some o) → Q () { s with heap := h', toks := tk }) → wpAny (model prog w) A (assign target (compEnvC scope cl C env) v) Q E s) ∧
    R 0 [] own ∧
    (∀ i v ys own₁ (C : Addr) (mc : Str → Option Value) (s : Shared) (E' : Value → Shared → Prop), i < n → ys.length ≤ i → (∃ hp, P i v hp) → R i ys own₁ → Fr h₀ L s.heap m → News h₀ L s.heap own₁ → s.heap.Ns C mc → V i v mc → C ≠ L → h₀.get? C = none → (∀ p ∈ own₁, p.1 ≠ C) →
      (∀ b o, s₂.heap.get? b = some o → b ∉ own.map (·.1) → b ∉ wr → s.heap.get? b = some o) → (∃ h tk, s = { s₂ with heap := h, toks := tk }) →
      Turn prog w A h₀ L m (compEnvC scope cl C env) elt ifs own₁ (fun y own' => R (i + 1) (ys ++ [y]) own') (fun own' => R (i + 1) ys own') E' s) ∧
    ∀ D h tk ys own', Fr h₀ L h (mf D) → News h₀ L h own' → h.get? D = some (LCg.lst ys) → h₀.get? D = none → D ≠ L → (∀ p ∈ own', p.1 ≠ D) → s₂.heap.get? D = none → R n ys own' →
      (∀ b o, b ≠ L → s₂.heap.get? b = some o → b ∉ own.map (·.1) → b ∉ wr → h.get? b = some o) → FreshX s₂.heap own own' → Fin D { s₂ with heap := h, toks := tk }

theorem Turn.plain {cenv : Env} {elt : PySem.Expr} {own : List (Addr × Obj)} {Ry : Value → List (Addr × Obj) → Prop} {Rn : List (Addr × Obj) → Prop}
    (h : wpAny (model prog w) A (eval elt cenv) (fun y s₄ => TEnd h₀ L m s own (Ry y) s₄) E s) : Turn prog w A h₀ L m cenv elt [] own Ry Rn E s := wpAny_tests_nil (by simpa using h)
theorem Turn.test {cenv : Env} {c elt : PySem.Expr} {own : List (Addr × Obj)} {Ry : Value → List (Addr × Obj) → Prop} {Rn : List (Addr × Obj) → Prop}
    (h : wpAny (model prog w) A (isTrue c cenv (eval c cenv)) (fun ok s₃ => if ok = true then wpAny (model prog w) A (eval elt cenv) (fun y s₄ => TEnd h₀ L m s own (Ry y) s₄) E s₃ else TEnd h₀ L m s own Rn s₃) E s) :
    Turn prog w A h₀ L m cenv elt [c] own Ry Rn E s := wpAny_tests_one h

/-- what stands behind an element; X: places that may be touched -/
def TEndX (X : Addr → Prop) (h₀ : Heap) (L : Addr) (m : Str → Option Value) (s : Shared) (own : List (Addr × Obj)) (R : List (Addr × Obj) → Prop) (s' : Shared) : Prop :=
  ∃ h' tk own', s' = { s with heap := h', toks := tk } ∧ Fr h₀ L h' m ∧ News h₀ L h' own' ∧ (∀ b o, ¬ X b → s.heap.get? b = some o → b ∉ own.map (·.1) → h'.get? b = some o) ∧ FreshX s.heap own own' ∧ R own'
def TurnX (X : Addr → Prop) (prog : Program) (w : World) (A : Around) (h₀ : Heap) (L : Addr) (m : Str → Option Value) (cenv : Env) (elt : PySem.Expr) (ifs : List PySem.Expr) (own : List (Addr × Obj)) (Ry : Value → List (Addr × Obj) → Prop) (Rn : List (Addr × Obj) → Prop) (E : Value → Shared → Prop) (s : Shared) : Prop :=
  wpAny (model prog w) A (forIn ifs true fun c r => if r = true then do let ok ← isTrue c cenv (eval c cenv); pure (ForInStep.yield ok) else pure (ForInStep.yield r)) (fun ok s₃ =>
    if ok = true then wpAny (model prog w) A (eval elt cenv) (fun y s₄ => TEndX X h₀ L m s own (Ry y) s₄) E s₃ else TEndX X h₀ L m s own Rn s₃) E s
theorem TEnd.toX {s : Shared} {own : List (Addr × Obj)} {R : List (Addr × Obj) → Prop} {s' : Shared} (h : TEnd h₀ L m s own R s') : TEndX (fun _ => False) h₀ L m s own R s' := by
  obtain ⟨h', tk, own', e, F, N, k, f, r⟩ := h
  exact ⟨h', tk, own', e, F, N, fun b o _ => k b o, f, r⟩
theorem Turn.toX {cenv : Env} {elt : PySem.Expr} {ifs : List PySem.Expr} {own : List (Addr × Obj)} {Ry : Value → List (Addr × Obj) → Prop} {Rn : List (Addr × Obj) → Prop} (h : Turn prog w A h₀ L m cenv elt ifs own Ry Rn E s) : TurnX (fun _ => False) prog w A h₀ L m cenv elt ifs own Ry Rn E s := by
  refine wpAny_mono h (fun ok s₃ h => ?_) fun _ _ e => e
  cases ok with
  | false => exact TEnd.toX h
  | true => exact wpAny_mono h (fun _ _ h => TEnd.toX h) fun _ _ e => e

/-- the block over an iterator that is at hand; X: places that the turns may touch -/
theorem block_X (X : Addr → Prop) {elt target iter : PySem.Expr} {ifs : List PySem.Expr} {scope : Scope} {cl : List (Str × Addr)} {pos : Pos} {s₂ : Shared} {I : Addr} {fp wr : List Addr} {n : Nat} {P Md : Nat → Value → Heap → Prop} {St : Nat → Heap → Prop}
    {own : List (Addr × Obj)} {R : Nat → List Value → List (Addr × Obj) → Prop} {RR : Value → Addr → Result → Shared → Prop} {V : Nat → Value → (Str → Option Value) → Prop}
    (W : KTurns prog w A target I fp wr n P Md St) (hself : ∀ (s : Shared) (Q : Value → Shared → Prop) (E : Value → Shared → Prop), St 0 s.heap → Q (.ref I) s → wpAny (model prog w) A (pyIter (.ref I)) Q E s) (hsz : n ≤ sizeLine)
    (hcell : ∀ y ∈ scope.names, y.2 ≠ .cell) (hkind : scope.kind = .function) (hst : St 0 s₂.heap) (hfp : ∀ b ∈ fp, b < s₂.heap.objs.size) (hfpo : ∀ i h, St i h → ∀ b ∈ fp, (h.get? b).isSome = true)
    (F : Fr h₀ L s₂.heap m) (N : News h₀ L s₂.heap own) (hwr : ∀ b ∈ wr, h₀.get? b = none) (hLw : L ∉ wr) (hX : ∀ b, X b → b = L) (hXf : ∀ b ∈ fp, ¬ X b) (off : ∀ p ∈ own, p.1 ∉ fp)
    (hasg : ∀ i v (C : Addr) (mc : Str → Option Value) (s : Shared) (Q : Unit → Shared → Prop) (E : Value → Shared → Prop), P i v s.heap → s.heap.Ns C mc →
      (∀ h' tk mc', h'.Ns C mc' → V i v mc' → (∀ b o, b ≠ C → s.heap.get? b = some o → h'.get? b = some o) → Q () { s with heap := h', toks := tk }) → wpAny (model prog w) A (assign target (compEnvC scope cl C env) v) Q E s)
    (R0 : R 0 [] own)
    (turn : ∀ i v ys own₁ (C : Addr) (mc : Str → Option Value) (s : Shared) (E' : Value → Shared → Prop), i < n → ys.length ≤ i → (∃ hp, P i v hp) → R i ys own₁ → Fr h₀ L s.heap m → News h₀ L s.heap own₁ → s.heap.Ns C mc → V i v mc → C ≠ L → h₀.get? C = none → (∀ p ∈ own₁, p.1 ≠ C) →
      (∀ b o, ¬ X b → s₂.heap.get? b = some o → b ∉ own.map (·.1) → b ∉ wr → s.heap.get? b = some o) → (∃ h tk, s = { s₂ with heap := h, toks := tk }) →
      TurnX X prog w A h₀ L m (compEnvC scope cl C env) elt ifs own₁ (fun y own' => R (i + 1) (ys ++ [y]) own') (fun own' => R (i + 1) ys own') E' s)
    (hRR : ∀ D C h tk mc ys own', Fr h₀ L h m → News h₀ L h own' → h.get? D = some (LCg.lst ys) → h.Ns C mc → h₀.get? C = none → h₀.get? D = none → C ≠ L → D ≠ L → C ≠ D → (∀ p ∈ own', p.1 ≠ C ∧ p.1 ≠ D) → s₂.heap.get? D = none → s₂.heap.get? C = none →
      R n ys own' → (∀ b o, ¬ X b → s₂.heap.get? b = some o → b ∉ own.map (·.1) → b ∉ wr → h.get? b = some o) → FreshX s₂.heap own own' → RR (.ref D) C (.ok .next) { s₂ with heap := h, toks := tk }) :
    wpAny (model prog w) A (newList []) (fun acc s₃ => wpAny (model prog w) A (newFunctionEnv scope env.globals cl [] env.qual none .none (some env)) (fun cenv s₄ =>
      codeAny (model prog w) A (.compStart (.ListComp elt [⟨target, iter, ifs, 0⟩] scope pos) 0 (.ref I) acc { cenv with scope := relabel scope env }) (RR acc cenv.locals) s₄) E s₃) E s₂ := by
  refine wpAny_newObj_type (wpAny_newFunctionEnv hcell (by intro y hy; simp at hy) (fun h₁ hns₁ hsb₁ => ?_) hkind)
  dsimp only at hns₁ hsb₁ ⊢
  generalize hH2 : s₂.heap.push { cls := .type "list", dict := none, data := .seq ([] : List Value).toArray } = H2 at hns₁ hsb₁ ⊢
  have hC : H2.objs.size = s₂.heap.objs.size + 1 := by rw [← hH2, Heap.size_push]
  have hDC : s₂.heap.objs.size ≠ H2.objs.size := by rw [hC]; exact Nat.ne_of_lt (Nat.lt_succ_self _)
  have below : ∀ b, b < s₂.heap.objs.size → b ≠ H2.objs.size ∧ b ≠ s₂.heap.objs.size := fun b hb => ⟨by rw [hC]; exact Nat.ne_of_lt (Nat.lt_succ_of_lt hb), Nat.ne_of_lt hb⟩
  have hDf : s₂.heap.objs.size ∉ fp := fun hm => Nat.lt_irrefl _ (hfp _ hm)
  have hCf : H2.objs.size ∉ fp := fun hm => by have := hfp _ hm; rw [hC] at this; exact Nat.lt_irrefl _ (Nat.lt_of_succ_lt this)
  have hCw : H2.objs.size ∉ wr := fun hm => hCf (W.sub _ hm)
  have hDw : s₂.heap.objs.size ∉ wr := fun hm => hDf (W.sub _ hm)
  have old : ∀ b o, s₂.heap.get? b = some o → h₁.get? b = some o := fun b o e => hsb₁.extBut b o (below b (Heap.lt_size e)).1 (Heap.get?_push_of_some _ (hH2 ▸ Heap.get?_push_of_some _ e))
  have hacc : h₁.get? s₂.heap.objs.size = some (LCg.lst []) := hsb₁.extBut _ _ hDC (Heap.get?_push_of_some _ (hH2 ▸ Heap.get?_push_size _ rfl))
  have hst₁ : St 0 h₁ := W.frame _ _ _ hst fun b _ o e => old b o e
  have fresh : ∀ a, s₂.heap.objs.size ≤ a → s₂.heap.get? a = none := fun a ha => Heap.get?_none_of_le ha
  have fresh₀ : ∀ a, s₂.heap.objs.size ≤ a → h₀.get? a = none := fun a ha => by
    cases e : h₀.get? a with
    | none => rfl
    | some o' => have := F.keep a o' e; rw [fresh a ha] at this; cases this
  have hD₀ : h₀.get? s₂.heap.objs.size = none := fresh₀ _ (Nat.le_refl _)
  have hC₀ : h₀.get? H2.objs.size = none := fresh₀ _ (by rw [hC]; exact Nat.le_succ _)
  have hLlt : L < s₂.heap.objs.size := F.ns.lt
  have hDL : s₂.heap.objs.size ≠ L := Ne.symm (below L hLlt).2
  have hCL : H2.objs.size ≠ L := Ne.symm (below L hLlt).1
  have hownlt : ∀ p ∈ own, p.1 < s₂.heap.objs.size := fun p hp => Heap.lt_size (N p hp).1
  have oldw : ∀ b o, h₀.get? b = some o → b ∉ wr := fun b o e hb => by rw [hwr b hb] at e; cases e
  have oldC : ∀ b o, h₀.get? b = some o → b ≠ H2.objs.size := fun b o e q => by rw [q, hC₀] at e; cases e
  have oldD : ∀ b o, h₀.get? b = some o → b ≠ s₂.heap.objs.size := fun b o e q => by rw [q, hD₀] at e; cases e
  have loop : ∀ s₃ : Shared, s₃ = { s₂ with heap := h₁, toks := s₂.toks + ([] : List (Str × Value)).length } →
      codeAny (model prog w) A (.compLoop (.ListComp elt [⟨target, iter, ifs, 0⟩] scope pos) 0 (.ref I) (.ref s₂.heap.objs.size) (compEnvC scope cl H2.objs.size env))
        (RR (.ref s₂.heap.objs.size) H2.objs.size) s₃ := by
    rintro s₃ rfl
    refine lc_loop
      (fun k s' => ∃ h' tk i ys mc own₁, s' = { s₂ with heap := h', toks := tk } ∧ i ≤ n ∧ k = n + 1 - i ∧ ys.length ≤ i ∧ St i h' ∧ Fr h₀ L h' m ∧ h'.Ns H2.objs.size mc ∧ h'.get? s₂.heap.objs.size = some (LCg.lst ys) ∧ News h₀ L h' own₁ ∧
        (∀ p ∈ own₁, p.1 ≠ H2.objs.size ∧ p.1 ≠ s₂.heap.objs.size ∧ p.1 ∉ fp) ∧ R i ys own₁ ∧ (∀ b o, ¬ X b → s₂.heap.get? b = some o → b ∉ own.map (·.1) → b ∉ wr → h'.get? b = some o) ∧ FreshX s₂.heap own own₁ ∧ ∀ b ∈ own.map (·.1), b ∈ own₁.map (·.1) ∨ True) ?_ (n + 1)
      ⟨h₁, _, 0, [], _, own, rfl, Nat.zero_le _, rfl, Nat.le_refl _, hst₁, F.keeps old, hns₁, hacc, fun p hp => ⟨old _ _ (N p hp).1, (N p hp).2⟩, fun p hp => ⟨(below _ (hownlt p hp)).1, (below _ (hownlt p hp)).2, off p hp⟩, R0,
        fun b o _ e _ _ => old b o e, fun p hp => .inl (List.mem_map_of_mem hp), fun _ _ => .inr trivial⟩
    rintro k s' ⟨h', tk, i, ys, mc, own₁, rfl, hi, rfl, hyl, hst', F', hn', hD', N', off', hR', hk', hf', -⟩
    by_cases hlt : i < n
    · refine W.item i _ _ _ hlt hst' fun v h₂ tk₂ hMd hk₂ => ?_
      refine W.go i v _ _ _ hMd fun h₃ hP hst₃ hk₃ => ?_
      have up₃ : ∀ b o, b ∉ wr → h'.get? b = some o → h₃.get? b = some o := fun b o hb e => hk₃ b o hb (hk₂ b o hb e)
      refine hasg i v H2.objs.size mc _ _ _ hP (hn'.at' fun o e => up₃ _ o hCw e) fun h₄ tk₄ mc₄ hn₄ hV hk₄ => ?_
      have up : ∀ b o, b ∉ wr → b ≠ H2.objs.size → h'.get? b = some o → h₄.get? b = some o := fun b o h1 h2 e => hk₄ b o h2 (up₃ b o h1 e)
      have F₄ : Fr h₀ L h₄ m := ⟨F'.ns.at' fun o e => up _ o hLw (Ne.symm hCL) e, fun b o e => up b o (oldw b o e) (oldC b o e) (F'.keep b o e), F'.above⟩
      have N₄ : News h₀ L h₄ own₁ := fun p hp => ⟨up _ _ (fun hm => (off' p hp).2.2 (W.sub _ hm)) (off' p hp).1 (N' p hp).1, (N' p hp).2⟩
      have hst₄ : St (i + 1) h₄ := W.frame _ _ _ hst₃ fun b hb o e => hk₄ b o (fun q => hCf (by have q' : b = H2.objs.size := q; rw [← q']; exact hb)) e
      have keep₄ : ∀ b o, ¬ X b → s₂.heap.get? b = some o → b ∉ own.map (·.1) → b ∉ wr → h₄.get? b = some o := fun b o hb e h1 h2 => up b o h2 (below b (Heap.lt_size e)).1 (hk' b o hb e h1 h2)
      have hD₄ : h₄.get? s₂.heap.objs.size = some (LCg.lst ys) := up _ _ hDw hDC hD'
      have body := turn i v ys own₁ H2.objs.size mc₄ { s₂ with heap := h₄, toks := tk₄ } (notedBy (model prog w) A (compEnvC scope cl H2.objs.size env) fun e s' => RR (.ref s₂.heap.objs.size) H2.objs.size (.error e) s') hlt hyl ⟨_, hP⟩ hR' F₄ N₄ hn₄ hV hCL hC₀ (fun p hp => (off' p hp).1) keep₄ ⟨_, _, rfl⟩
      have fin : ∀ (R' : List (Addr × Obj) → Prop) (s₅ : Shared), TEndX X h₀ L m { s₂ with heap := h₄, toks := tk₄ } own₁ R' s₅ → ∃ h₅ tk₅ own₅, s₅ = { s₂ with heap := h₅, toks := tk₅ } ∧ St (i + 1) h₅ ∧ Fr h₀ L h₅ m ∧ h₅.Ns H2.objs.size mc₄ ∧ h₅.get? s₂.heap.objs.size = some (LCg.lst ys) ∧
          News h₀ L h₅ own₅ ∧ (∀ p ∈ own₅, p.1 ≠ H2.objs.size ∧ p.1 ≠ s₂.heap.objs.size ∧ p.1 ∉ fp) ∧ R' own₅ ∧ (∀ b o, ¬ X b → s₂.heap.get? b = some o → b ∉ own.map (·.1) → b ∉ wr → h₅.get? b = some o) ∧ FreshX s₂.heap own own₅ := by
        rintro R' s₅ ⟨h₅, tk₅, own₅, rfl, F₅, N₅, k₅, f₅, r₅⟩
        have nC : H2.objs.size ∉ own₁.map (·.1) := fun q => by obtain ⟨p, hp, e⟩ := List.mem_map.mp q; exact (off' p hp).1 e
        have nD : s₂.heap.objs.size ∉ own₁.map (·.1) := fun q => by obtain ⟨p, hp, e⟩ := List.mem_map.mp q; exact (off' p hp).2.1 e
        have nf : ∀ b ∈ fp, b ∉ own₁.map (·.1) := fun b hb q => by obtain ⟨p, hp, e⟩ := List.mem_map.mp q; exact (off' p hp).2.2 (by rw [e]; exact hb)
        have lC : (h₄.get? H2.objs.size).isSome = true := by obtain ⟨o, _, _, e, _⟩ := hn₄; rw [e]; rfl
        have off₅ : ∀ p ∈ own₅, p.1 ≠ H2.objs.size ∧ p.1 ≠ s₂.heap.objs.size ∧ p.1 ∉ fp := by
          intro p hp
          rcases f₅ p hp with q | q
          · obtain ⟨p', hp', e⟩ := List.mem_map.mp q
            rw [← e]; exact off' p' hp'
          · refine ⟨fun e => ?_, fun e => ?_, fun hm => ?_⟩
            · rw [e] at q; rw [q] at lC; cases lC
            · rw [e] at q; rw [hD₄] at q; cases q
            · have lb := hfpo _ _ hst₄ _ hm
              rw [q] at lb; cases lb
        refine ⟨h₅, tk₅, own₅, rfl, W.frame _ _ _ hst₄ fun b hb o e => k₅ b o (hXf b hb) e (nf b hb), F₅, hn₄.at' fun o e => k₅ _ o (fun q => hCL (hX _ q)) e nC, k₅ _ _ (fun q => hDL (hX _ q)) hD₄ nD, N₅, off₅, r₅, fun b o hb e h1 h2 => k₅ b o hb (keep₄ b o hb e h1 h2) ?_, ?_⟩
        · intro q
          obtain ⟨p, hp, e'⟩ := List.mem_map.mp q
          rcases hf' p hp with z | z
          · exact h1 (e' ▸ z)
          · rw [e', e] at z; cases z
        · intro p hp
          rcases f₅ p hp with q | q
          · obtain ⟨p', hp', e'⟩ := List.mem_map.mp q
            rw [← e']; exact hf' p' hp'
          · by_cases hm : p.1 ∈ own.map (·.1)
            · exact .inl hm
            · refine .inr ?_
              cases e1 : s₂.heap.get? p.1 with
              | none => rfl
              | some o1 => rw [keep₄ p.1 o1 (fun q => (N₅ p hp).2.1 (hX _ q)) e1 hm fun hw => (off₅ p hp).2.2 (W.sub _ hw)] at q; cases q
      refine wpAny_mono body (fun ok s₅ h₅ => ?_) fun _ _ e => e
      cases ok with
      | false =>
        simp only [Bool.false_eq_true, if_false] at h₅ ⊢
        obtain ⟨hh₅, tk₅, own₅, rfl, st₅, F₅, n₅, D₅, N₅, o₅, r₅, k₅, f₅⟩ := fin _ _ h₅
        exact ⟨n + 1 - (i + 1), by omega, hh₅, tk₅, i + 1, ys, mc₄, own₅, rfl, hlt, rfl, by omega, st₅, F₅, n₅, D₅, N₅, o₅, r₅, k₅, f₅, fun _ _ => .inr trivial⟩
      | true =>
        simp only [if_true] at h₅ ⊢
        refine wpAny_mono h₅ (fun y s₆ h₆ => ?_) fun _ _ e => e
        obtain ⟨hh₅, tk₅, own₅, rfl, st₅, F₅, n₅, D₅, N₅, o₅, r₅, k₅, f₅⟩ := fin _ _ h₆
        refine append_at (hsz := by show ys.toArray.size ≤ sizeLine; rw [List.size_toArray]; omega) D₅ fun h₆ hs₆ hD₆ => ?_
        refine ⟨n + 1 - (i + 1), by omega, h₆, tk₅, i + 1, ys ++ [y], mc₄, own₅, rfl, hlt, rfl, by rw [List.length_append, List.length_singleton]; omega, W.frame _ _ _ st₅ fun b hb o e => hs₆.extBut b o (fun q => hDf (q ▸ hb)) e, F₅.change hs₆ hDL hD₀,
          n₅.sameBut hs₆ (Ne.symm hDC), hD₆.trans (congrArg some (LCg.lst_snoc ys y)), fun p hp => ⟨hs₆.extBut _ _ (o₅ p hp).2.1 (N₅ p hp).1, (N₅ p hp).2⟩, o₅, r₅, fun b o hb e h1 h2 => hs₆.extBut b o (below b (Heap.lt_size e)).2 (k₅ b o hb e h1 h2), f₅, fun _ _ => .inr trivial⟩
    · obtain rfl : i = n := Nat.le_antisymm hi (Nat.not_lt.mp hlt)
      refine W.done _ _ _ hst' fun h₂ tk₂ hk₂ => ?_
      have up : ∀ b o, b ∉ wr → h'.get? b = some o → h₂.get? b = some o := fun b o hb e => hk₂ b o hb e
      exact hRR _ _ h₂ tk₂ mc ys own₁ ⟨F'.ns.at' fun o e => up _ o hLw e, fun b o e => up b o (oldw b o e) (F'.keep b o e), F'.above⟩ (fun p hp => ⟨up _ _ (fun hm => (off' p hp).2.2 (W.sub _ hm)) (N' p hp).1, (N' p hp).2⟩) (up _ _ hDw hD') (hn'.at' fun o e => up _ o hCw e)
        hC₀ hD₀ hCL hDL (Ne.symm hDC) (fun p hp => ⟨(off' p hp).1, (off' p hp).2.1⟩) (fresh _ (Nat.le_refl _)) (fresh _ (by rw [hC]; exact Nat.le_succ _)) hR' (fun b o hb e h1 h2 => up b o h2 (hk' b o hb e h1 h2)) hf'
  exact codeAny_compStart_list (loop _ rfl) (hself _ _ _ hst₁ (loop _ rfl))

/-- the block over an iterator that is at hand -/
theorem block_G {elt target iter : PySem.Expr} {ifs : List PySem.Expr} {scope : Scope} {cl : List (Str × Addr)} {pos : Pos} {s₂ : Shared} {I : Addr} {fp wr : List Addr} {n : Nat} {P Md : Nat → Value → Heap → Prop} {St : Nat → Heap → Prop}
    {own : List (Addr × Obj)} {R : Nat → List Value → List (Addr × Obj) → Prop} {RR : Value → Addr → Result → Shared → Prop} {V : Nat → Value → (Str → Option Value) → Prop}
    (W : KTurns prog w A target I fp wr n P Md St) (hself : ∀ (s : Shared) (Q : Value → Shared → Prop) (E : Value → Shared → Prop), St 0 s.heap → Q (.ref I) s → wpAny (model prog w) A (pyIter (.ref I)) Q E s) (hsz : n ≤ sizeLine)
    (hcell : ∀ y ∈ scope.names, y.2 ≠ .cell) (hkind : scope.kind = .function) (hst : St 0 s₂.heap) (hfp : ∀ b ∈ fp, b < s₂.heap.objs.size) (hfpo : ∀ i h, St i h → ∀ b ∈ fp, (h.get? b).isSome = true)
    (F : Fr h₀ L s₂.heap m) (N : News h₀ L s₂.heap own) (hwr : ∀ b ∈ wr, h₀.get? b = none) (hLw : L ∉ wr) (off : ∀ p ∈ own, p.1 ∉ fp)
    (hasg : ∀ i v (C : Addr) (mc : Str → Option Value) (s : Shared) (Q : Unit → Shared → Prop) (E : Value → Shared → Prop), P i v s.heap → s.heap.Ns C mc →
      (∀ h' tk mc', h'.Ns C mc' → V i v mc' → (∀ b o, b ≠ C → s.heap.get? b = some o → h'.get? b = some o) → Q () { s with heap := h', toks := tk }) → wpAny (model prog w) A (assign target (compEnvC scope cl C env) v) Q E s)
    (R0 : R 0 [] own)
    (turn : ∀ i v ys own₁ (C : Addr) (mc : Str → Option Value) (s : Shared) (E' : Value → Shared → Prop), i < n → ys.length ≤ i → (∃ hp, P i v hp) → R i ys own₁ → Fr h₀ L s.heap m → News h₀ L s.heap own₁ → s.heap.Ns C mc → V i v mc → C ≠ L → h₀.get? C = none → (∀ p ∈ own₁, p.1 ≠ C) →
      (∀ b o, s₂.heap.get? b = some o → b ∉ own.map (·.1) → b ∉ wr → s.heap.get? b = some o) → (∃ h tk, s = { s₂ with heap := h, toks := tk }) →
      Turn prog w A h₀ L m (compEnvC scope cl C env) elt ifs own₁ (fun y own' => R (i + 1) (ys ++ [y]) own') (fun own' => R (i + 1) ys own') E' s)
    (hRR : ∀ D C h tk mc ys own', Fr h₀ L h m → News h₀ L h own' → h.get? D = some (LCg.lst ys) → h.Ns C mc → h₀.get? C = none → h₀.get? D = none → C ≠ L → D ≠ L → C ≠ D → (∀ p ∈ own', p.1 ≠ C ∧ p.1 ≠ D) → s₂.heap.get? D = none → s₂.heap.get? C = none →
      R n ys own' → (∀ b o, s₂.heap.get? b = some o → b ∉ own.map (·.1) → b ∉ wr → h.get? b = some o) → FreshX s₂.heap own own' → RR (.ref D) C (.ok .next) { s₂ with heap := h, toks := tk }) :
    wpAny (model prog w) A (newList []) (fun acc s₃ => wpAny (model prog w) A (newFunctionEnv scope env.globals cl [] env.qual none .none (some env)) (fun cenv s₄ =>
      codeAny (model prog w) A (.compStart (.ListComp elt [⟨target, iter, ifs, 0⟩] scope pos) 0 (.ref I) acc { cenv with scope := relabel scope env }) (RR acc cenv.locals) s₄) E s₃) E s₂ :=
  block_X (fun _ => False) W hself hsz hcell hkind hst hfp hfpo F N hwr hLw (fun _ q => q.elim) (fun _ _ q => q) off hasg R0
    (fun i v ys own₁ C mc s E' h1 h2 h3 h4 h5 h6 h7 h8 h9 h10 h11 h12 h13 => (turn i v ys own₁ C mc s E' h1 h2 h3 h4 h5 h6 h7 h8 h9 h10 h11 (fun b o => h12 b o id) h13).toX)
    (fun D C h tk mc ys own' h1 h2 h3 h4 h5 h6 h7 h8 h9 h10 h11 h12 h13 h14 h15 => hRR D C h tk mc ys own' h1 h2 h3 h4 h5 h6 h7 h8 h9 h10 h11 h12 h13 (fun b o => h14 b o id) h15)

theorem comp_eval {elt target iter : PySem.Expr} {ifs : List PySem.Expr} {scope : Scope} {cl : List (Str × Addr)} {pos : Pos} {Q : Value → Shared → Prop}
    (hclos : closureFor scope env = pure cl) (hcell : ∀ y ∈ scope.names, y.2 ≠ .cell) (hkind : scope.kind = .function)
    (hnames : ∀ y ∈ scope.names, y.2 = .local → scope.names.lookup y.1 = some .local)
    (h : wpAny (model prog w) A (eval iter env) (fun xv s₁ => wpAny (model prog w) A (pyIter xv) (BlockAt prog w A h₀ L m env elt target ifs scope cl (fun _ => m) (fun D s₂ => Q (.ref D) s₂)) E s₁) E s)
    (hs : ∀ x, foldedSetIterable iter env x = pure x := by intro _; rfl) :
    wpAny (model prog w) A (eval (.ListComp elt [⟨target, iter, ifs, 0⟩] scope pos) env) Q E s := by
  rw [eval_ListComp]
  refine wpAny_comprehension_free (use := none) rfl hs hclos hkind hnames (wpAny_mono h (fun xv s₁ h₁ => wpAny_mono h₁ (fun it s₂ h₂ => ?_) fun _ _ e => e) fun _ _ e => e)
  obtain ⟨I, fp, wr, n, P, Md, St, own, R, V, rfl, W, hself, hsz, hst, hfp, hfpo, F, N, hwr, hLw, off, hasg, R0, turn, fin⟩ := h₂
  refine block_G (RR := fun acc C => compPost (model prog w) A E none Q acc C) W hself hsz hcell hkind hst hfp hfpo F N hwr hLw off hasg R0 turn ?_
  intro D C h' tk mc ys own' F' N' hD' hn hC₀ hD₀ hCL hDL hCD offC hsD hsC hR hk hf
  have sC : s₂.heap.get? C = none := hsC
  refine ⟨mc, hn, fun h'' hs'' => ?_⟩
  exact fin D h'' tk ys own' (F'.change hs'' hCL hC₀) (fun p hp => ⟨hs''.extBut _ _ (offC p hp).1 (N' p hp).1, (N' p hp).2⟩) (hs''.extBut _ _ (Ne.symm hCD) hD') hD₀ hDL (fun p hp => (offC p hp).2) hsD hR (fun b o _ e h1 h2 => hs''.extBut b o (fun q => by rw [q, sC] at e; cases e) (hk b o e h1 h2)) hf

theorem comp_assign {elt target iter : PySem.Expr} {ifs : List PySem.Expr} {scope : Scope} {cl : List (Str × Addr)} {pos spos : Pos} {y : Str} {py : Pos} {Q : Flow → Shared → Prop} (hLe : env.locals = L)
    (hsw : swapsWith (.ListComp elt [⟨target, iter, ifs, 0⟩] scope pos) (some (.Name y py)) spos.line env = pure true)
    (hclos : closureFor scope env = pure cl) (hcell : ∀ y ∈ scope.names, y.2 ≠ .cell) (hkind : scope.kind = .function)
    (hnames : ∀ y ∈ scope.names, y.2 = .local → scope.names.lookup y.1 = some .local)
    (hy : env.kindOf y = some .local) (hp : (env.scope.kind == .class || (env.scope.kind == .module && env.locals != env.globals)) = false)
    (h : wpAny (model prog w) A (eval iter env) (fun xv s₁ => wpAny (model prog w) A (pyIter xv) (BlockAt prog w A h₀ L m env elt target ifs scope cl (fun D z => if z = y then some (.ref D) else m z) (fun _ s₂ => Q .next s₂)) E s₁) E s)
    (hs : ∀ x, foldedSetIterable iter env x = pure x := by intro _; rfl) :
    wpAny (model prog w) A (exec (.Assign [.Name y py] (.ListComp elt [⟨target, iter, ifs, 0⟩] scope pos) spos) env) Q E s := by
  subst hLe
  rw [exec_Assign_Name_used _ _ _ _ hsw]
  refine wpAny_bind (wpAny_standAt (wpAny_bind ?_))
  show wpAny _ A (do let _ ← comprehension (.ListComp elt [⟨target, iter, ifs, 0⟩] scope pos) scope env _ (newList []) false (eval iter env) (some (assign (.Name y py) env))) _ _ s
  refine wpAny_bind (wpAny_mono (wpAny_comprehension_free (use := some (assign (.Name y py) env)) (Q := fun _ s' => Q .next s') rfl hs hclos hkind hnames
    (wpAny_mono h (fun xv s₁ h₁ => wpAny_mono h₁ (fun it s₂ h₂ => ?_) fun _ _ e => e) fun _ _ e => e)) (fun _ s' hq => wpAny_pure (wpAny_pure hq)) fun _ _ e => e)
  obtain ⟨I, fp, wr, n, P, Md, St, own, R, V, rfl, W, hself, hsz, hst, hfp, hfpo, F, N, hwr, hLw, off, hasg, R0, turn, fin⟩ := h₂
  refine block_G (RR := fun acc C => compPost (model prog w) A E (some (assign (.Name y py) env)) (fun _ s' => Q .next s') acc C) W hself hsz hcell hkind hst hfp hfpo F N hwr hLw off hasg R0 turn ?_
  intro D C h' tk mc ys own' F' N' hD' hn hC₀ hD₀ hCL hDL hCD offC hsD hsC hR hk hf
  show wpAny _ A (assign (.Name y py) env (.ref D)) _ _ _
  have hL₀ : h₀.get? env.locals = none := Heap.get?_none_of_le F'.above
  have sC : s₂.heap.get? C = none := hsC
  refine wpAny_assign_Name (wpAny_storeName_local hy F'.ns (fun h₂ hn₂ hs₂ => ?_) hp)
  have F₂ : Fr h₀ env.locals h₂ (fun z => if z = y then some (.ref D) else m z) := ⟨hn₂, fun b o e => hs₂.extBut b o (fun q => by rw [q, hL₀] at e; cases e) (F'.keep b o e), F'.above⟩
  refine ⟨mc, hn.sameBut hs₂ hCL, fun h'' hs'' => ?_⟩
  have up : ∀ b o, b ≠ env.locals → b ≠ C → h'.get? b = some o → h''.get? b = some o := fun b o h1 h2 e => hs''.extBut b o h2 (hs₂.extBut b o h1 e)
  exact fin D h'' _ ys own' (F₂.change hs'' hCL hC₀) (fun p hp => ⟨up _ _ (N' p hp).2.1 (offC p hp).1 (N' p hp).1, (N' p hp).2⟩) (up _ _ hDL (Ne.symm hCD) hD') hD₀ hDL (fun p hp => (offC p hp).2) hsD hR
    (fun b o hb e h1 h2 => up b o hb (fun q => by rw [q, sC] at e; cases e) (hk b o e h1 h2)) hf
end
end Mine
end
-- Src
section
open PySem PySem.W PyProof.Rows PySem.Calls PySem.Spec
namespace Mine

section
variable {prog : Program} {w : World} {A : Around} {E : Value → Shared → Prop} {s₁ : Shared} {env : Env} {h₀ : Heap} {L : Addr} {m : Str → Option Value}
  {elt target : PySem.Expr} {ifs : List PySem.Expr} {scope : Scope} {cl : List (Str × Addr)} {mf : Addr → Str → Option Value} {Fin : Addr → Shared → Prop} {own : List (Addr × Obj)} {R : Nat → List Value → List (Addr × Obj) → Prop}

/-- what a turn has to do, said of the state ahead of the iterator -/
abbrev TurnsOn (prog : Program) (w : World) (A : Around) (h₀ : Heap) (L : Addr) (m : Str → Option Value) (env : Env) (elt : PySem.Expr) (ifs : List PySem.Expr) (scope : Scope) (cl : List (Str × Addr)) (own : List (Addr × Obj)) (n : Nat) (R : Nat → List Value → List (Addr × Obj) → Prop) (V : Nat → (Str → Option Value) → Prop) (s₁ : Shared) : Prop :=
  ∀ i ys own₁ (C : Addr) (mc : Str → Option Value) (s : Shared) (E' : Value → Shared → Prop), i < n → ys.length ≤ i → R i ys own₁ → Fr h₀ L s.heap m → News h₀ L s.heap own₁ → s.heap.Ns C mc → V i mc → C ≠ L → h₀.get? C = none → (∀ p ∈ own₁, p.1 ≠ C) →
      KeepX s₁.heap s.heap own → (∃ h tk, s = { s₁ with heap := h, toks := tk }) →
      Turn prog w A h₀ L m (compEnvC scope cl C env) elt ifs own₁ (fun y own' => R (i + 1) (ys ++ [y]) own') (fun own' => R (i + 1) ys own') E' s
/-- what comes of a block, said of the state ahead of the iterator -/
abbrev FinOn (h₀ : Heap) (L : Addr) (mf : Addr → Str → Option Value) (own : List (Addr × Obj)) (n : Nat) (R : Nat → List Value → List (Addr × Obj) → Prop) (Fin : Addr → Shared → Prop) (s₁ : Shared) : Prop :=
  ∀ D h tk ys own', Fr h₀ L h (mf D) → News h₀ L h own' → h.get? D = some (LCg.lst ys) → h₀.get? D = none → D ≠ L → (∀ p ∈ own', p.1 ≠ D) → s₁.heap.get? D = none → R n ys own' →
      (∀ b o, b ≠ L → s₁.heap.get? b = some o → b ∉ own.map (·.1) → h.get? b = some o) → FreshX s₁.heap own own' → Fin D { s₁ with heap := h, toks := tk }

theorem block_from {I : Addr} {fp wr : List Addr} {n : Nat} {P Md : Nat → Value → Heap → Prop} {St : Nat → Heap → Prop} {V : Nat → (Str → Option Value) → Prop} {h₂ : Heap} {tk₂ : Nat}
    (up : ∀ b o, s₁.heap.get? b = some o → h₂.get? b = some o) (hwr1 : ∀ b ∈ wr, s₁.heap.get? b = none)
    (W : KTurns prog w A target I fp wr n P Md St) (hself : ∀ (s : Shared) (Q : Value → Shared → Prop) (E : Value → Shared → Prop), St 0 s.heap → Q (.ref I) s → wpAny (model prog w) A (pyIter (.ref I)) Q E s) (hsz : n ≤ sizeLine)
    (hst : St 0 h₂) (hfpo : ∀ i h, St i h → ∀ b ∈ fp, (h.get? b).isSome = true)
    (F : Fr h₀ L s₁.heap m) (N : News h₀ L s₁.heap own) (off : ∀ p ∈ own, p.1 ∉ fp)
    (hasg : ∀ i v (C : Addr) (mc : Str → Option Value) (s : Shared) (Q : Unit → Shared → Prop) (E : Value → Shared → Prop), P i v s.heap → s.heap.Ns C mc →
      (∀ h' tk mc', h'.Ns C mc' → V i mc' → (∀ b o, b ≠ C → s.heap.get? b = some o → h'.get? b = some o) → Q () { s with heap := h', toks := tk }) → wpAny (model prog w) A (assign target (compEnvC scope cl C env) v) Q E s)
    (R0 : R 0 [] own) (turn : TurnsOn prog w A h₀ L m env elt ifs scope cl own n R V s₁) (fin : FinOn h₀ L mf own n R Fin s₁) :
    BlockAt prog w A h₀ L m env elt target ifs scope cl mf Fin (.ref I) { s₁ with heap := h₂, toks := tk₂ } := by
  have oldw : ∀ b o, s₁.heap.get? b = some o → b ∉ wr := fun b o e hb => by rw [hwr1 b hb] at e; cases e
  refine ⟨I, fp, wr, n, P, Md, St, own, R, fun i _ mc => V i mc, rfl, W, hself, hsz, hst, fun b hb => ?_, hfpo, F.keeps up, fun p hp => ⟨up _ _ (N p hp).1, (N p hp).2⟩, fun b hb => ?_, fun hb => ?_, off, hasg, R0, ?_, ?_⟩
  · obtain ⟨o, ho⟩ := Option.isSome_iff_exists.mp (hfpo _ _ hst b hb)
    exact Heap.lt_size ho
  · cases e : h₀.get? b with
    | none => rfl
    | some o => have := F.keep b o e; rw [hwr1 b hb] at this; cases this
  · obtain ⟨o, _, _, e, _⟩ := F.ns
    rw [hwr1 _ hb] at e; cases e
  · intro i v ys own₁ C mc s E' hi hl _ hR F' N' hn hV hCL hC₀ hC hk ⟨h, tk, e⟩
    exact turn i ys own₁ C mc s E' hi hl hR F' N' hn hV hCL hC₀ hC (fun b o e h1 => hk b o (up b o e) h1 (oldw b o e)) ⟨h, tk, e⟩
  · intro D h tk ys own' F' N' hD hD₀ hDL hDo hsD hR hk hf
    refine fin D h tk ys own' F' N' hD hD₀ hDL hDo ?_ hR (fun b o hb e h1 => hk b o hb (up b o e) h1 (oldw b o e)) fun p hp => ?_
    · cases e : s₁.heap.get? D with
      | none => rfl
      | some o => have hsD' : h₂.get? D = none := hsD; rw [up _ _ e] at hsD'; cases hsD'
    · rcases hf p hp with q | q
      · exact .inl q
      · refine .inr ?_
        cases e : s₁.heap.get? p.1 with
        | none => rfl
        | some o => have q' : h₂.get? p.1 = none := q; rw [up _ _ e] at q'; cases q'

/-- storing a turn's value under one name -/
theorem asg_name {x : Str} {px : Pos} {val : Nat → Value → Prop} (hkind : scope.kind = .function) (hx : scope.names.lookup x = some .local) :
    ∀ i v (C : Addr) (mc : Str → Option Value) (s : Shared) (Q : Unit → Shared → Prop) (E : Value → Shared → Prop), val i v → s.heap.Ns C mc →
      (∀ h' tk mc', h'.Ns C mc' → (∃ v, val i v ∧ mc' x = some v) → (∀ b o, b ≠ C → s.heap.get? b = some o → h'.get? b = some o) → Q () { s with heap := h', toks := tk }) → wpAny (model prog w) A (assign (.Name x px) (compEnvC scope cl C env) v) Q E s := by
  intro i v C mc s Q E hv hn h
  refine wpAny_assign_Name (wpAny_storeName_local (lookup_relabel_local hx) hn (fun h' hn' hs => h h' _ _ hn' ⟨v, hv, by simp⟩ fun b o hb e => hs.extBut b o hb e) (by simp [compEnvC, relabel, hkind]))

theorem go_name {x : Str} {px : Pos} {I : Addr} {v : Value} {s : Shared} {Q : Unit → Shared → Prop} (h : Q () s) : wpAny (model prog w) A (letOwnedTupleGo (.Name x px) (.ref I) v) Q E s := wpAny_pure h

/-- over a list, one name -/
theorem src_list {x : Str} {px : Pos} {ax : Addr} {its : List Value} (hh : A.handled = none) (hl : s₁.heap.IsList ax its.toArray) (hsz : its.length ≤ sizeLine) (hkind : scope.kind = .function) (hx : scope.names.lookup x = some .local)
    (F : Fr h₀ L s₁.heap m) (N : News h₀ L s₁.heap own) (off : ∀ p ∈ own, p.1 ≠ ax) (R0 : R 0 [] own)
    (turn : TurnsOn prog w A h₀ L m env elt ifs scope cl own its.length R (fun i mc => ∃ v, its[i]? = some v ∧ mc x = some v) s₁) (fin : FinOn h₀ L mf own its.length R Fin s₁) :
    wpAny (model prog w) A (pyIter (.ref ax)) (BlockAt prog w A h₀ L m env elt (.Name x px) ifs scope cl mf Fin) E s₁ := by
  have hlt : ax < s₁.heap.objs.size := by obtain ⟨_, e, _⟩ := hl; exact Heap.lt_size e
  refine wpAny_pyIter_list hl ?_
  have W := Walks.list (prog := prog) (w := w) hh s₁.heap.objs.size ax (Nat.ne_of_lt hlt) its.toArray
  rw [List.size_toArray] at W
  refine block_from (tk₂ := s₁.toks) (fun b o e => Heap.get?_push_of_some _ e) (fun b hb => ?_) (KTurns.ofWalks W fun _ _ _ _ _ _ h => go_name h) (fun s Q E st h => W.self 0 s Q E st h) hsz ⟨⟨_, Heap.get?_push_size _ rfl, rfl, rfl⟩, hl.push _⟩ (fun i h st b hb => ?_) F N (fun p hp hb => ?_)
    (fun i v C mc s Q E hP hn h => asg_name (val := fun i v => its[i]? = some v) hkind hx i v C mc s Q E (by simpa using hP) hn h) R0 turn fin
  · rw [List.mem_singleton.mp hb]; exact Heap.get?_none_of_le (Nat.le_refl _)
  · obtain ⟨⟨o, e, _⟩, ⟨o', e', _⟩⟩ := st
    rcases List.mem_cons.mp hb with rfl | hb
    · rw [e]; rfl
    · rw [List.mem_singleton.mp hb, e']; rfl
  · rcases List.mem_cons.mp hb with q | hb
    · exact Nat.lt_irrefl _ (q ▸ Heap.lt_size (N p hp).1)
    · exact off p hp (List.mem_singleton.mp hb)

/-- over a tuple, one name -/
theorem src_tuple {x : Str} {px : Pos} {ax : Addr} {its : List Value} (hh : A.handled = none) (hl : s₁.heap.IsTuple ax its.toArray) (hsz : its.length ≤ sizeLine) (hkind : scope.kind = .function) (hx : scope.names.lookup x = some .local)
    (F : Fr h₀ L s₁.heap m) (N : News h₀ L s₁.heap own) (off : ∀ p ∈ own, p.1 ≠ ax) (R0 : R 0 [] own)
    (turn : TurnsOn prog w A h₀ L m env elt ifs scope cl own its.length R (fun i mc => ∃ v, its[i]? = some v ∧ mc x = some v) s₁) (fin : FinOn h₀ L mf own its.length R Fin s₁) :
    wpAny (model prog w) A (pyIter (.ref ax)) (BlockAt prog w A h₀ L m env elt (.Name x px) ifs scope cl mf Fin) E s₁ := by
  have hlt : ax < s₁.heap.objs.size := by obtain ⟨_, e, _⟩ := hl; exact Heap.lt_size e
  refine wpAny_pyIter_tuple hl ?_
  have W := Walks.tuple (prog := prog) (w := w) hh s₁.heap.objs.size ax (Nat.ne_of_lt hlt) its.toArray
  rw [List.size_toArray] at W
  refine block_from (tk₂ := s₁.toks) (fun b o e => Heap.get?_push_of_some _ e) (fun b hb => ?_) (KTurns.ofWalks W fun _ _ _ _ _ _ h => go_name h) (fun s Q E st h => W.self 0 s Q E st h) hsz ⟨⟨_, Heap.get?_push_size _ rfl, rfl, rfl⟩, hl.push _⟩ (fun i h st b hb => ?_) F N (fun p hp hb => ?_)
    (fun i v C mc s Q E hP hn h => asg_name (val := fun i v => its[i]? = some v) hkind hx i v C mc s Q E (by simpa using hP) hn h) R0 turn fin
  · rw [List.mem_singleton.mp hb]; exact Heap.get?_none_of_le (Nat.le_refl _)
  · obtain ⟨⟨o, e, _⟩, ⟨o', e', _⟩⟩ := st
    rcases List.mem_cons.mp hb with rfl | hb
    · rw [e]; rfl
    · rw [List.mem_singleton.mp hb, e']; rfl
  · rcases List.mem_cons.mp hb with q | hb
    · exact Nat.lt_irrefl _ (q ▸ Heap.lt_size (N p hp).1)
    · exact off p hp (List.mem_singleton.mp hb)

/-- over a text, one name -/
theorem src_str {x : Str} {px : Pos} {t : Str} {tt : Tok} (hh : A.handled = none) (hsz : t.cps.size ≤ sizeLine) (hkind : scope.kind = .function) (hx : scope.names.lookup x = some .local)
    (F : Fr h₀ L s₁.heap m) (N : News h₀ L s₁.heap own) (R0 : R 0 [] own)
    (turn : TurnsOn prog w A h₀ L m env elt ifs scope cl own t.cps.size R (fun i mc => ∃ v, SignAt t i v ∧ mc x = some v) s₁) (fin : FinOn h₀ L mf own t.cps.size R Fin s₁) :
    wpAny (model prog w) A (pyIter (.str t tt)) (BlockAt prog w A h₀ L m env elt (.Name x px) ifs scope cl mf Fin) E s₁ := by
  have go : ∀ (ty : String) (hW : Walks prog w A s₁.heap.objs.size [s₁.heap.objs.size] [s₁.heap.objs.size] t.cps.size (SignAt t) (fun i h => h.IsStrIter s₁.heap.objs.size ty t tt i)),
      BlockAt prog w A h₀ L m env elt (.Name x px) ifs scope cl mf Fin (.ref s₁.heap.objs.size) { s₁ with heap := s₁.heap.push { cls := .type ty, data := .fields #[.str t tt, .int 0 0] } } := by
    intro ty W
    refine block_from (tk₂ := s₁.toks) (fun b o e => Heap.get?_push_of_some _ e) (fun b hb => ?_) (KTurns.ofWalks W fun _ _ _ _ _ _ h => go_name h) (fun s Q E st h => W.self 0 s Q E st h) hsz ⟨_, Heap.get?_push_size _ rfl, rfl, rfl⟩ (fun i h st b hb => ?_) F N (fun p hp hb => ?_)
      (fun i v C mc s Q E hP hn h => asg_name (val := fun i v => SignAt t i v) hkind hx i v C mc s Q E hP hn h) R0 turn fin
    · rw [List.mem_singleton.mp hb]; exact Heap.get?_none_of_le (Nat.le_refl _)
    · obtain ⟨o, e, _⟩ := st
      rw [List.mem_singleton.mp hb, e]; rfl
    · exact Nat.lt_irrefl _ ((List.mem_singleton.mp hb) ▸ Heap.lt_size (N p hp).1)
  cases ha : t.cps.all (· < 128)
  · exact wpAny_pyIter_wide ha (go _ (Walks.strWide hh _ t tt))
  · exact wpAny_pyIter_ascii ha (go _ (Walks.strAscii hh _ t tt))

/-- over a range by ones, one name -/
theorem src_range {x : Str} {px : Pos} {r : Addr} {a b : Int} {t u v : Tok} {n : Nat} (hh : A.handled = none) (hr : IsRange s₁.heap r a b 1 t u v) (hsm : Builtin.Range.small a b 1 = true) (hn : Builtin.Range.rangeSize a b 1 = ((n : Nat) : Int)) (hsz : n ≤ sizeLine) (hkind : scope.kind = .function) (hx : scope.names.lookup x = some .local)
    (F : Fr h₀ L s₁.heap m) (N : News h₀ L s₁.heap own) (R0 : R 0 [] own)
    (turn : TurnsOn prog w A h₀ L m env elt ifs scope cl own n R (fun i mc => ∃ v, (∃ t, v = .int (a + (i : Int)) t) ∧ mc x = some v) s₁) (fin : FinOn h₀ L mf own n R Fin s₁) :
    wpAny (model prog w) A (pyIter (.ref r)) (BlockAt prog w A h₀ L m env elt (.Name x px) ifs scope cl mf Fin) E s₁ := by
  refine wpAny_pyIter_range hr hsm ?_
  have W := LCg.range_walks (prog := prog) (w := w) (A := A) (I := s₁.heap.objs.size) hh a n
  refine block_from (tk₂ := s₁.toks) (fun b o e => Heap.get?_push_of_some _ e) (fun b hb => ?_) (KTurns.ofWalks W fun _ _ _ _ _ _ h => go_name h) (fun s Q E st h => W.self 0 s Q E st h) hsz (by show IsRangeIter _ _ _ _ _; rw [hn]; simpa using Heap.get?_push_size _ rfl) (fun i h st b hb => ?_) F N (fun p hp hb => ?_)
    (fun i v C mc s Q E hP hn h => asg_name (val := fun i v => ∃ t, v = .int (a + (i : Int)) t) hkind hx i v C mc s Q E hP hn h) R0 turn fin
  · rw [List.mem_singleton.mp hb]; exact Heap.get?_none_of_le (Nat.le_refl _)
  · have st' : h.get? s₁.heap.objs.size = some _ := st
    rw [List.mem_singleton.mp hb, st']; rfl
  · exact Nat.lt_irrefl _ ((List.mem_singleton.mp hb) ▸ Heap.lt_size (N p hp).1)

/-- storing a pair's places under two names -/
theorem asg_pair {a b : Str} {pa pb tp : Pos} {kk : Nat} {val : Nat → Value → Value → Prop} (hh : A.handled = none) (hkind : scope.kind = .function) (hxa : scope.names.lookup a = some .local) (hxb : scope.names.lookup b = some .local) (hab : a ≠ b) :
    ∀ i v (C : Addr) (mc : Str → Option Value) (s : Shared) (Q : Unit → Shared → Prop) (E : Value → Shared → Prop), (∃ T vals, v = .ref T ∧ (∃ x y, val i x y ∧ vals = #[x, y]) ∧ s.heap.IsTuple T vals) → s.heap.Ns C mc →
      (∀ h' tk mc', h'.Ns C mc' → (∃ x y, val i x y ∧ mc' a = some x ∧ mc' b = some y) → (∀ b o, b ≠ C → s.heap.get? b = some o → h'.get? b = some o) → Q () { s with heap := h', toks := tk }) → wpAny (model prog w) A (assign (.Tuple [.Name a pa, .Name b pb] kk tp) (compEnvC scope cl C env) v) Q E s := by
  rintro i v C mc s Q E ⟨T, vals, rfl, ⟨x, y, hv, rfl⟩, hT⟩ hn h
  refine kcp_assign (env := compEnvC scope cl C env) hh hT (lookup_relabel_local hxa) (lookup_relabel_local hxb) (by simp [compEnvC, relabel, hkind]) hn fun h' tk hn' hk => ?_
  exact h h' tk _ hn' ⟨x, y, hv, by simp [hab], by simp⟩ hk

/-- over enumerate of a list, two names -/
theorem src_enum {a b : Str} {pa pb tp : Pos} {kk : Nat} {l : Addr} {its : List Value} (hh : A.handled = none) (hl : s₁.heap.IsList l its.toArray) (hsz : its.length ≤ sizeLine) (hkind : scope.kind = .function) (hxa : scope.names.lookup a = some .local) (hxb : scope.names.lookup b = some .local) (hab : a ≠ b)
    (F : Fr h₀ L s₁.heap m) (N : News h₀ L s₁.heap own) (off : ∀ p ∈ own, p.1 ≠ l) (R0 : R 0 [] own)
    (turn : TurnsOn prog w A h₀ L m env elt ifs scope cl own its.length R (fun i mc => ∃ x y, ((∃ t, x = .int (i : Int) t) ∧ its[i]? = some y) ∧ mc a = some x ∧ mc b = some y) s₁) (fin : FinOn h₀ L mf own its.length R Fin s₁) :
    wpAny (model prog w) A (call (.type "enumerate") [.ref l]) (fun xv s₂ => wpAny (model prog w) A (pyIter xv) (BlockAt prog w A h₀ L m env elt (.Tuple [.Name a pa, .Name b pb] kk tp) ifs scope cl mf Fin) E s₂) E s₁ := by
  have hlt : l < s₁.heap.objs.size := by obtain ⟨_, e, _⟩ := hl; exact Heap.lt_size e
  refine call_enumerate_list hl fun h' hE hI hsz' hk => ?_
  refine wpAny_pyIter_enum hE ?_
  have W := (WalksT.enumerate (prog := prog) (w := w) hh (s₁.heap.objs.size + 1) s₁.heap.objs.size l (Nat.succ_ne_self _) (ktu_ne 1 hlt) (Nat.ne_of_lt hlt) its.toArray).toU
  rw [show its.toArray.size = its.length from List.size_toArray] at W
  refine block_from (tk₂ := s₁.toks) hk (fun b hb => ?_) (KTurns.ofWalksU W) (fun s Q E st h => W.self 0 s Q E st h) hsz ⟨⟨_, hE⟩, hI, ?_⟩ (fun i h st b hb => ?_) F N (fun p hp hb => ?_)
    (fun i v C mc s Q E hP hn h => asg_pair (val := fun i x y => (∃ t, x = .int (i : Int) t) ∧ its[i]? = some y) hh hkind hxa hxb hab i v C mc s Q E ?_ hn h) R0 turn fin
  · rcases List.mem_cons.mp hb with rfl | hb
    · exact Heap.get?_none_of_le (Nat.le_succ _)
    · rw [List.mem_singleton.mp hb]; exact Heap.get?_none_of_le (Nat.le_refl _)
  · obtain ⟨o, e, r⟩ := hl; exact ⟨o, hk _ _ e, r⟩
  · obtain ⟨⟨old, e1⟩, ⟨o2, e2, _⟩, ⟨o3, e3, _⟩⟩ := st
    have e1' : h.get? (s₁.heap.objs.size + 1) = some _ := e1
    rcases List.mem_cons.mp hb with rfl | hb
    · rw [e1']; rfl
    · rcases List.mem_cons.mp hb with rfl | hb
      · rw [e2]; rfl
      · rw [List.mem_singleton.mp hb, e3]; rfl
  · have hlp := Heap.lt_size (N p hp).1
    rcases List.mem_cons.mp hb with q | hb
    · rw [q] at hlp; exact Nat.not_lt.mpr (Nat.le_succ _) hlp
    · rcases List.mem_cons.mp hb with q | hb
      · rw [q] at hlp; exact Nat.lt_irrefl _ hlp
      · exact off p hp (List.mem_singleton.mp hb)
  · obtain ⟨T, vals, rfl, ⟨t, x, hx, rfl⟩, hT⟩ := hP
    exact ⟨T, _, rfl, ⟨_, _, ⟨⟨t, rfl⟩, by simpa using hx⟩, rfl⟩, hT⟩

/-- over a list of pairs, two names -/
theorem src_pairs {a b : Str} {pa pb tp : Pos} {kk : Nat} {l : Addr} {Ts : Nat → Addr} {xs ys : Nat → Value} {n : Nat} (hh : A.handled = none) (hl : s₁.heap.IsList l ((List.range n).map fun j => Value.ref (Ts j)).toArray) (hT : ∀ j, j < n → s₁.heap.IsTuple (Ts j) #[xs j, ys j]) (hsz : n ≤ sizeLine)
    (hkind : scope.kind = .function) (hxa : scope.names.lookup a = some .local) (hxb : scope.names.lookup b = some .local) (hab : a ≠ b)
    (F : Fr h₀ L s₁.heap m) (N : News h₀ L s₁.heap own) (off : ∀ p ∈ own, p.1 ≠ l ∧ ∀ j, j < n → p.1 ≠ Ts j) (R0 : R 0 [] own)
    (turn : TurnsOn prog w A h₀ L m env elt ifs scope cl own n R (fun i mc => ∃ x y, (x = xs i ∧ y = ys i) ∧ mc a = some x ∧ mc b = some y) s₁) (fin : FinOn h₀ L mf own n R Fin s₁) :
    wpAny (model prog w) A (pyIter (.ref l)) (BlockAt prog w A h₀ L m env elt (.Tuple [.Name a pa, .Name b pb] kk tp) ifs scope cl mf Fin) E s₁ := by
  have hlt : l < s₁.heap.objs.size := by obtain ⟨_, e, _⟩ := hl; exact Heap.lt_size e
  have hTlt : ∀ j, j < n → Ts j < s₁.heap.objs.size := fun j hj => by obtain ⟨_, e, _⟩ := hT j hj; exact Heap.lt_size e
  refine wpAny_pyIter_list hl ?_
  have hszn : ((List.range n).map fun j => Value.ref (Ts j)).toArray.size = n := by simp
  have W := WalksU.listOfTuples (prog := prog) (w := w) hh s₁.heap.objs.size l (Nat.ne_of_lt hlt) ((List.range n).map fun j => Value.ref (Ts j)).toArray Ts (fun j => #[xs j, ys j]) (fun j hj => by
    rw [hszn] at hj; simp [hj]) (fun j hj => Nat.ne_of_lt (hTlt j (by rw [hszn] at hj; exact hj)))
  rw [hszn] at W
  refine block_from (tk₂ := s₁.toks) (fun b o e => Heap.get?_push_of_some _ e) (fun b hb => ?_) (KTurns.ofWalksU W) (fun s Q E st h => W.self 0 s Q E st h) hsz ⟨⟨_, Heap.get?_push_size _ rfl, rfl, rfl⟩, hl.push _, fun k hk => (hT k hk).push _⟩ (fun i h st b hb => ?_) F N (fun p hp hb => ?_)
    (fun i v C mc s Q E hP hn h => asg_pair (val := fun i x y => x = xs i ∧ y = ys i) hh hkind hxa hxb hab i v C mc s Q E ?_ hn h) R0 turn fin
  · rw [List.mem_singleton.mp hb]; exact Heap.get?_none_of_le (Nat.le_refl _)
  · obtain ⟨⟨o1, e1, _⟩, ⟨o2, e2, _⟩, e3⟩ := st
    rcases List.mem_cons.mp hb with rfl | hb
    · rw [e1]; rfl
    · rcases List.mem_cons.mp hb with rfl | hb
      · rw [e2]; rfl
      · obtain ⟨k, hk, rfl⟩ := List.mem_map.mp hb
        obtain ⟨o, e, _⟩ := e3 k (List.mem_range.mp hk)
        rw [e]; rfl
  · have hlp := Heap.lt_size (N p hp).1
    rcases List.mem_cons.mp hb with q | hb
    · rw [q] at hlp; exact Nat.lt_irrefl _ hlp
    · rcases List.mem_cons.mp hb with q | hb
      · exact (off p hp).1 q
      · obtain ⟨k, hk, e⟩ := List.mem_map.mp hb
        exact (off p hp).2 k (List.mem_range.mp hk) e.symm
  · obtain ⟨T, vals, rfl, rfl, hT'⟩ := hP
    exact ⟨T, _, rfl, ⟨_, _, ⟨rfl, rfl⟩, rfl⟩, hT'⟩
end
end Mine
end
-- Elt
section
open PySem PySem.W PyProof.Rows PySem.Calls PySem.Spec
namespace Mine

/-- a number's text -/
abbrev numS (n : Int) : Str := Str.ofString (toString n)

theorem numS_log {n : Int} (h : n.natAbs < 10 ^ 9) : n.natAbs.log2 < 1920 := by
  by_cases h0 : n.natAbs = 0
  · rw [h0]; decide
  · exact (Nat.log2_lt h0).mpr (Nat.lt_trans h (by decide +kernel))

section
variable {prog : Program} {w : World} {A : Around} {E : Value → Shared → Prop} {s : Shared} {env : Env} {h₀ : Heap} {L C : Addr} {m mc mg mb : Str → Option Value} {scope : Scope} {cl : List (Str × Addr)}
  {p : Program} {loose : List Str} {mean : ExcName → Option Value} {x : Str} {n : Int} {t : Tok} {p1 p2 p3 : Pos} {Q : Value → Shared → Prop}

theorem nb_local {v : Value} {pos : Pos} (hn : s.heap.Ns C mc) (hv : mc x = some v) (hk : (compEnvC scope cl C env).scope.kind = .function) (hl : (compEnvC scope cl C env).kindOf x = some .local) (hd : (x == ("__debug__" : Str)) = false) (h : Q v s) :
    wpAny (model prog w) A (eval (.Name x pos) (compEnvC scope cl C env)) Q E s := wpAny_Name (wpAny_loadName_local hk hl hn hv h) hd
/-- `str(x)` within a block -/
theorem elt_str (F : Fr h₀ L s.heap m) (X : (Mine.hd.heap_1 w.params).In h₀) (T : Top p loose mean mg mb h₀) (hn : s.heap.Ns C mc) (hx : mc x = some (.int n t)) (hb : n.natAbs < 10 ^ 9)
    (hg : env.globals = mainGlobals) (hbn : env.builtins = builtinsNs) (hk : (compEnvC scope cl C env).scope.kind = .function) (hks : (compEnvC scope cl C env).kindOf "str" = some .globalImplicit) (hkx : (compEnvC scope cl C env).kindOf x = some .local) (hxd : (x == ("__debug__" : Str)) = false)
    (h : ∀ t tk, Q (.str (numS n) t) { s with toks := tk }) :
    wpAny (model prog w) A (eval (.Call (.Name "str" p1) [.Name x p2] [] p3) (compEnvC scope cl C env)) Q E s := by
  k_with_none
  (k_with "cj" => (first | exact fun h => h.1 | exact fun h => h.2.1 | exact fun h => h.2.2.1 | exact fun h => h.2.2.2.1 | exact fun h => h.2.2.2.2.1 | exact fun h => h.2.2.2.2.2.1 | exact fun h => h.2.2.2.2.2.2.1 | exact fun h => h.2.2.2.2.2.2.2.1 | exact fun h => h.2.2.2.2.2.2.2.2.1 | exact fun h => h.2.2.2.2.2.2.2.2.2.1 | exact fun h => h.2.2.2.2.2.2.2.2.2.2.1 | exact fun h => h.2.2.2.2.2.2.2.2.2.2.2.1 | exact fun h => h.2.2.2.2.2.2.2.2.2.2.2.2.1 | exact fun h => h.2.2.2.2.2.2.2.2.2.2.2.2.2.1 | exact fun h => h.2 | exact fun h => h.2.2 | exact fun h => h.2.2.2 | exact fun h => h.2.2.2.2 | exact fun h => h.2.2.2.2.2 | exact fun h => h.2.2.2.2.2.2 | exact fun h => h.2.2.2.2.2.2.2 | exact fun h => h.2.2.2.2.2.2.2.2 | exact fun h => h.2.2.2.2.2.2.2.2.2 | exact fun h => h.2.2.2.2.2.2.2.2.2.2 | exact fun h => h.2.2.2.2.2.2.2.2.2.2.2 | exact fun h => h.2.2.2.2.2.2.2.2.2.2.2.2 | exact fun h => h.2.2.2.2.2.2.2.2.2.2.2.2.2))
  (k_with "omega" => (with_reducible first | assumption | exact Nat.le_of_ble_eq_true (by decide) | exact Nat.ne_of_gt (by assumption) | exact Nat.ne_of_lt (by assumption) | exact Mine.lm1 (by assumption) (by decide) | exact Mine.lm2 (by assumption) (by decide) | exact Mine.lm3 (by assumption) (by decide) | exact Mine.lm4 (by assumption) (by decide) | exact Mine.lm5 (by assumption) (by decide) | exact Mine.lm6 (by assumption) (by decide) | exact Mine.lm7 (by assumption) (by decide) | exact Mine.lm8 (by assumption) (by decide) | exact Mine.lm9 (by assumption) (by decide) | exact Int.natCast_nonneg _ | (refine Mine.cj1 (by assumption) ?_; k_extra "cj") | (refine Mine.cj2 (by assumption) ?_; k_extra "cj") | (refine Mine.cj3 (by assumption) ?_; k_extra "cj") | (refine Mine.cj4 (by assumption) ?_; k_extra "cj") | (refine Mine.cj5 (by assumption) (by assumption) ?_; k_extra "cj") | (refine Mine.cj6 (by assumption) (by assumption) ?_; k_extra "cj") | (refine Mine.cj7 (by assumption) (by assumption) (by assumption) ?_; k_extra "cj") | (refine Mine.cj8 (by assumption) (by assumption) (by assumption) ?_; k_extra "cj") | exact Mine.cj9 (by assumption) (by assumption) | exact Mine.cj10 (by assumption) (by assumption) | (refine Mine.cl1 (by assumption) ?_; k_extra "cj") | (refine Mine.cl2 (by assumption) (by assumption) ?_; k_extra "cj") | exact Mine.ns1 (by assumption) | exact Mine.ns2 (by assumption) | exact Mine.ns3 | exact Mine.ns4 | exact Mine.lm10 (by assumption) (by decide) | exact Mine.lm11 (by assumption) (by decide) | exact Mine.lm12 (by assumption) (by assumption) (by decide) | exact Mine.lm12 (by assumption) (Nat.le_refl _) (by decide) | exact Mine.lm13 (by assumption) (by assumption) (by decide) | exact Mine.lm13 (by assumption) (Nat.le_refl _) (by decide) | fail))
  (k_with "eval Name" => ((with_reducible show wpAny _ _ (eval (Expr.Name _ _) (compEnvC _ _ _ _)) _ _ _); first
  | (refine nb_local (by assumption) (by assumption) (by assumption) (by assumption) (by assumption) ?_)
  | (k_dflt (refine LCgL.ld_built (by assumption) (by assumption) (by assumption) (by k_is) (by boot_by_name) (by decide) ?_ (by assumption) (by assumption) (by assumption) (by assumption) (by decide)))))
  (k_with "call type:str" => (refine PySem.P.str_of_int (numS_log (by assumption)) ?_))
  repeat' (first | (walk1; (try dsimp only)))
  exact h _ _
end

theorem intsAre_get {vs : List Value} {ns : List Int} (h : IntsAre vs ns) : ∀ (i : Nat) (v : Value), vs[i]? = some v → ∃ n t, ns[i]? = some n ∧ v = .int n t := by
  induction h with
  | nil => intro i v e; simp at e
  | cons n t _ ih =>
    intro i v e
    cases i with
    | zero => simp at e; exact ⟨n, t, by simp, e.symm⟩
    | succ i => simpa using ih i v (by simpa using e)
theorem strsAre_snoc {vs : List Value} {xs : List Str} (h : StrsAre vs xs) (x : Str) (t : Tok) : StrsAre (vs ++ [.str x t]) (xs ++ [x]) := by
  induction h with
  | nil => exact .cons x t .nil
  | cons y u _ ih => exact .cons y u ih
theorem take_snoc {α : Type} {l : List α} {i : Nat} {a : α} (h : l[i]? = some a) : l.take (i + 1) = l.take i ++ [a] := by
  rw [List.take_add_one, h]; rfl

/-- what a list of texts comes to: the block's list, the ledger as it was -/
abbrev TextsOut (h₀ : Heap) (L : Addr) (m : Str → Option Value) (news : List (Addr × Obj)) (xs : List Str) (Fin : Addr → Shared → Prop) (s₁ : Shared) : Prop :=
  ∀ D h tk ys, Fr h₀ L h m → News h₀ L h ((D, LCg.lst ys) :: news) → (∀ p ∈ news, p.1 ≠ D) → (∀ b o, b ≠ L → s₁.heap.get? b = some o → h.get? b = some o) → StrsAre ys xs → Fin D { s₁ with heap := h, toks := tk }
/-- the source of `[str(x) for x in ..]` -/
def StrSrc (h₀ : Heap) (L : Addr) (m : Str → Option Value) (Q : Value → Shared → Prop) (xv : Value) (s₁ : Shared) : Prop :=
  ∃ ax vs ns news, xv = .ref ax ∧ (s₁.heap.IsList ax vs.toArray ∨ s₁.heap.IsTuple ax vs.toArray) ∧ IntsAre vs ns ∧ ns.length ≤ 1000 ∧ (∀ n ∈ ns, n.natAbs < 10 ^ 9) ∧ Fr h₀ L s₁.heap m ∧ News h₀ L s₁.heap news ∧ TextsOut h₀ L m news (ns.map numS) (fun D s => Q (.ref D) s) s₁

section
variable {prog : Program} {w : World} {A : Around} {E : Value → Shared → Prop} {s : Shared} {env : Env} {h₀ : Heap} {L : Addr} {m mg mb : Str → Option Value} {scope : Scope} {cl : List (Str × Addr)}
  {p : Program} {loose : List Str} {mean : ExcName → Option Value} {x : Str} {p1 p2 p3 p4 pos : Pos} {Q : Value → Shared → Prop}

theorem textsOut_fin {Fin : Addr → Shared → Prop} {own : List (Addr × Obj)} {n : Nat} {R : Nat → List Value → List (Addr × Obj) → Prop} {news : List (Addr × Obj)} {xs : List Str} {s₁ : Shared} (N : News h₀ L s₁.heap news) (out : TextsOut h₀ L m news xs Fin s₁) (hown : own = []) (hR : ∀ ys own', R n ys own' → StrsAre ys xs) :
    FinOn h₀ L (fun _ => m) own n R Fin s₁ := by
  subst hown
  intro D h tk ys own' F' _ hD hD₀ hDL _ hsD hr hk _
  refine out D h tk ys F' (fun p hp => ?_) (fun p hp e => ?_) (fun b o hb e => hk b o hb e (by simp)) (hR _ _ hr)
  · rcases List.mem_cons.mp hp with rfl | hp
    · exact ⟨hD, hDL, hD₀⟩
    · exact ⟨hk _ _ (N p hp).2.1 (N p hp).1 (by simp), (N p hp).2⟩
  · have := (N p hp).1; rw [e, hsD] at this; cases this

theorem comp_strs {iter : PySem.Expr} (_F : Fr h₀ L s.heap m) (hh : A.handled = none) (X : (Mine.hd.heap_1 w.params).In h₀) (T : Top p loose mean mg mb h₀)
    (hclos : closureFor scope env = pure cl) (hcell : ∀ y ∈ scope.names, y.2 ≠ .cell) (hkind : scope.kind = .function)
    (hnames : ∀ y ∈ scope.names, y.2 = .local → scope.names.lookup y.1 = some .local) (hx : scope.names.lookup x = some .local)
    (hg : env.globals = mainGlobals) (hbn : env.builtins = builtinsNs) (hk : ∀ C, (compEnvC scope cl C env).scope.kind = .function) (hks : ∀ C, (compEnvC scope cl C env).kindOf "str" = some .globalImplicit) (hxd : (x == ("__debug__" : Str)) = false)
    (h : wpAny (model prog w) A (eval iter env) (StrSrc h₀ L m Q) E s)
    (hs : ∀ x, foldedSetIterable iter env x = pure x := by intro _; rfl) :
    wpAny (model prog w) A (eval (.ListComp (.Call (.Name "str" p1) [.Name x p2] [] p3) [⟨.Name x p4, iter, [], 0⟩] scope pos) env) Q E s := by
  refine comp_eval (h₀ := h₀) (L := L) (m := m) hclos hcell hkind hnames (wpAny_mono h (fun xv s₁ hsrc => ?_) fun _ _ e => e) hs
  obtain ⟨ax, vs, ns, news, rfl, hl, hi, hlen, hb, F, N, out⟩ := hsrc
  have hvl : vs.length = ns.length := hi.length
  have turn : TurnsOn prog w A h₀ L m env (.Call (.Name "str" p1) [.Name x p2] [] p3) [] scope cl [] vs.length (fun i ys own₁ => own₁ = [] ∧ StrsAre ys ((ns.take i).map numS)) (fun i mc => ∃ v, vs[i]? = some v ∧ mc x = some v) s₁ := by
    rintro i ys own₁ C mc s E' hlt _ ⟨rfl, hys⟩ F' N' hn ⟨v, hv, hmc⟩ _ _ _ _ _
    obtain ⟨n, t, hn', rfl⟩ := intsAre_get hi i v hv
    refine Turn.plain (elt_str F' X T hn hmc (hb n (List.mem_of_getElem? hn')) hg hbn (hk C) (hks C) (lookup_relabel_local hx) hxd fun t tk => ?_)
    refine TEnd.same F' N' ⟨rfl, ?_⟩
    rw [take_snoc hn', List.map_append]
    exact strsAre_snoc hys _ _
  have fin : FinOn h₀ L (fun _ => m) [] vs.length (fun i ys own₁ => own₁ = [] ∧ StrsAre ys ((ns.take i).map numS)) (fun D s₂ => Q (.ref D) s₂) s₁ :=
    textsOut_fin N out rfl fun ys own' hr => by have := hr.2; rwa [hvl, List.take_length] at this
  rcases hl with hl | hl
  · exact src_list hh hl (by rw [hvl, sizeLine_eq]; omega) hkind hx F News.nil (List.forall_mem_nil _) ⟨rfl, .nil⟩ turn fin
  · exact src_tuple hh hl (by rw [hvl, sizeLine_eq]; omega) hkind hx F News.nil (List.forall_mem_nil _) ⟨rfl, .nil⟩ turn fin

theorem StrSrc.intro {ax : Addr} {vs : List Value} {ns : List Int} {news : List (Addr × Obj)} {s₁ : Shared} (hl : s₁.heap.IsList ax vs.toArray ∨ s₁.heap.IsTuple ax vs.toArray) (hi : IntsAre vs ns) (hlen : ns.length ≤ 1000) (hb : ∀ n ∈ ns, n.natAbs < 10 ^ 9)
    (F : Fr h₀ L s₁.heap m) (N : News h₀ L s₁.heap news) (out : TextsOut h₀ L m news (ns.map numS) (fun D s => Q (.ref D) s) s₁) : StrSrc h₀ L m Q (.ref ax) s₁ := ⟨ax, vs, ns, news, rfl, hl, hi, hlen, hb, F, N, out⟩

theorem strsAre_values {vs : List Value} {xs : List Str} (h : StrsAre vs xs) : ∃ l : List (Str × Tok), vs = PySem.strValues l ∧ l.map (·.1) = xs := by
  induction h with
  | nil => exact ⟨[], rfl, rfl⟩
  | cons y t _ ih => obtain ⟨l, rfl, rfl⟩ := ih; exact ⟨(y, t) :: l, rfl, rfl⟩
theorem joinOk_of {sep : Str} {xs : List Str} (B : Nat) (hB : ∀ y ∈ xs, y.length ≤ B) (h : xs.length * B + xs.length * sep.length ≤ 16777216) : PySem.JoinOk sep xs = true := by
  unfold PySem.JoinOk
  rw [PySem.StrLaws.joinFits hB h]; rfl
theorem join_len {sep : Str} {xs : List Str} (B : Nat) (hB : ∀ y ∈ xs, y.length ≤ B) : (Txt.join sep xs).length ≤ xs.length * B + xs.length * sep.length := by
  have h1 := PySem.StrLaws.sumLen_le xs hB
  have h2 := PySem.StrLaws.join_length_le sep xs
  have e : Txt.join sep xs = Str.join sep xs := PySem.StrLaws.glued_eq_join sep xs
  rw [e]; omega
theorem join_strs {D : Addr} {ys : List Value} {xs : List Str} {sep : Str} {t : Tok} (hl : s.heap.IsList D ys.toArray) (hs : StrsAre ys xs) (hok : PySem.JoinOk sep xs = true)
    (hq : ∀ t' k, Q (.str (Txt.join sep xs) t') { s with toks := k }) : wpAny (model prog w) A (call (.builtin "str.join") [.str sep t, .ref D]) Q E s := by
  obtain ⟨l, rfl, e⟩ := strsAre_values hs
  exact PySem.SC.join hl e hok hq
theorem numS_len {n : Int} (h : n.natAbs < 10 ^ 9) : (numS n).length ≤ 10 := by
  rw [PySem.ofString_length]
  exact PySem.int_text_length_le10 (by decide) h
end
end Mine
end
-- Draw
section
open PySem PySem.W PyProof.Rows PySem.Calls PySem.Spec
namespace Mine


abbrev penObj (cells : Addr) (c r q : Int) (tc tr tq : Tok) (n : Nat) : Obj := W.listOf [.ref cells, .int c tc, .int r tr, .int q tq].toArray n

def CellsPre (cells : Addr) (g : Heap) : Prop := ∃ (xs : List Value) (ns : List Int), g.IsList cells xs.toArray ∧ IntsAre xs ns ∧ ns.length ≤ 63

def DrawPost (pen cells : Addr) (c : Int) (q : Int) (tq : Tok) (many : Int) (_ : Heap) (v : Value) (own' : List (Addr × Obj)) : Prop :=
  ∃ d t c' tc' r' tr' n', v = .int d t ∧ 0 ≤ d ∧ d < many ∧ own' = [(pen, penObj cells c' r' q tc' tr' tq n')] ∧ 0 ≤ c' ∧ c' ≤ c + 1 ∧ 0 ≤ r'

/-- the number from which a cell is read digit by digit -/
@[irreducible] def big : Int := 10 ^ 18
theorem big_eq : (10 : Int) ^ 18 = big := by unfold big; rfl
theorem big_pos : 0 < big := by unfold big; decide
theorem pow_big {prog : Program} {w : World} {A : Around} {E : Value → Shared → Prop} {s : Shared} {t u : Tok} {Q : Value → Shared → Prop} (h : Q (.int big s.toks) { s with toks := s.toks + 1 }) :
    wpAny (model prog w) A (binaryOp .Pow (.int 10 t) (.int 18 u)) Q E s :=
  pow_int_small (by decide) (by decide) (by decide) (by rw [show ((10 : Int) ^ (18 : Int).toNat) = big from big_eq]; exact h)
theorem draw_end {g : Heap} {L' : Addr} {s : Shared} {pen cells : Addr} {c q : Int} {tq : Tok} {many : Int} {d : Int} {t tk : Nat} {c' r' : Int} {tc' tr' : Tok} {n' : Nat} {h' : Heap} {m' : Str → Option Value}
    (hm : 1 ≤ many) (F : Fr g L' h' m') (N : News g L' h' [(pen, W.listOf [.ref cells, .int c' tc', .int r' tr', .int q tq].toArray n')]) (h0 : 0 ≤ c') (h1 : c' ≤ c + 1) (h2 : 0 ≤ r') :
    Fin g L' s (DrawPost pen cells c q tq many) (.int (d.fmod many) t) { s with heap := h', toks := tk } :=
  Fin.intro F N ⟨_, t, c', tc', r', tr', n', rfl, Int.fmod_nonneg_of_pos _ (by omega), Int.fmod_lt_of_pos _ (by omega), rfl, h0, h1, h2⟩

set_option maxHeartbeats 4000000 in
theorem draw_spec (prog : Program) (w : World) (pen cells : Addr) (c r q : Int) (tc tr tq : Tok) (n : Nat) (many : Int) (tm : Tok)
    (hc : 0 ≤ c) (hc' : c ≤ 100000) (hr : 0 ≤ r) (hq : 0 ≤ q) (hq' : q ≤ 1008) (hm : 1 ≤ many) (hm' : many ≤ 1000) :
    Spec prog w 306 [.ref pen, .int many tm] 2 30 [(pen, penObj cells c r q tc tr tq n)] (CellsPre cells) (DrawPost pen cells c q tq many) := by
  k_with_none
  (k_with "cj" => (first | exact fun h => h.1 | exact fun h => h.2.1 | exact fun h => h.2.2.1 | exact fun h => h.2.2.2.1 | exact fun h => h.2.2.2.2.1 | exact fun h => h.2.2.2.2.2.1 | exact fun h => h.2.2.2.2.2.2.1 | exact fun h => h.2.2.2.2.2.2.2.1 | exact fun h => h.2.2.2.2.2.2.2.2.1 | exact fun h => h.2.2.2.2.2.2.2.2.2.1 | exact fun h => h.2.2.2.2.2.2.2.2.2.2.1 | exact fun h => h.2.2.2.2.2.2.2.2.2.2.2.1 | exact fun h => h.2.2.2.2.2.2.2.2.2.2.2.2.1 | exact fun h => h.2.2.2.2.2.2.2.2.2.2.2.2.2.1 | exact fun h => h.2 | exact fun h => h.2.2 | exact fun h => h.2.2.2 | exact fun h => h.2.2.2.2 | exact fun h => h.2.2.2.2.2 | exact fun h => h.2.2.2.2.2.2 | exact fun h => h.2.2.2.2.2.2.2 | exact fun h => h.2.2.2.2.2.2.2.2 | exact fun h => h.2.2.2.2.2.2.2.2.2 | exact fun h => h.2.2.2.2.2.2.2.2.2.2 | exact fun h => h.2.2.2.2.2.2.2.2.2.2.2 | exact fun h => h.2.2.2.2.2.2.2.2.2.2.2.2 | exact fun h => h.2.2.2.2.2.2.2.2.2.2.2.2.2))
  (k_with "omega" => (with_reducible first | assumption | exact Nat.le_of_ble_eq_true (by decide) | exact Nat.ne_of_gt (by assumption) | exact Nat.ne_of_lt (by assumption) | exact Mine.lm1 (by assumption) (by decide) | exact Mine.lm2 (by assumption) (by decide) | exact Mine.lm3 (by assumption) (by decide) | exact Mine.lm4 (by assumption) (by decide) | exact Mine.lm5 (by assumption) (by decide) | exact Mine.lm6 (by assumption) (by decide) | exact Mine.lm7 (by assumption) (by decide) | exact Mine.lm8 (by assumption) (by decide) | exact Mine.lm9 (by assumption) (by decide) | exact Int.natCast_nonneg _ | (refine Mine.cj1 (by assumption) ?_; k_extra "cj") | (refine Mine.cj2 (by assumption) ?_; k_extra "cj") | (refine Mine.cj3 (by assumption) ?_; k_extra "cj") | (refine Mine.cj4 (by assumption) ?_; k_extra "cj") | (refine Mine.cj5 (by assumption) (by assumption) ?_; k_extra "cj") | (refine Mine.cj6 (by assumption) (by assumption) ?_; k_extra "cj") | (refine Mine.cj7 (by assumption) (by assumption) (by assumption) ?_; k_extra "cj") | (refine Mine.cj8 (by assumption) (by assumption) (by assumption) ?_; k_extra "cj") | exact Mine.cj9 (by assumption) (by assumption) | exact Mine.cj10 (by assumption) (by assumption) | (refine Mine.cl1 (by assumption) ?_; k_extra "cj") | (refine Mine.cl2 (by assumption) (by assumption) ?_; k_extra "cj") | exact Mine.ns1 (by assumption) | exact Mine.ns2 (by assumption) | exact Mine.ns3 | exact Mine.ns4 | exact Mine.lm10 (by assumption) (by decide) | exact Mine.lm11 (by assumption) (by decide) | exact Mine.lm12 (by assumption) (by assumption) (by decide) | exact Mine.lm12 (by assumption) (Nat.le_refl _) (by decide) | exact Mine.lm13 (by assumption) (by assumption) (by decide) | exact Mine.lm13 (by assumption) (Nat.le_refl _) (by decide) | fail))
  (k_with "binaryOp Pow int int" => (refine pow_big ?_))
  (k_with "Fin" => (refine draw_end (by assumption) (by assumption) (by assumption) ?_ ?_ ?_ <;> first | omega | (refine Int.fdiv_nonneg ?_ (by omega); omega)))
  refine spec_of [("pen", .ref pen), ("many", .int many tm)] (by k_is) (by k_is) (fun s _ => BindsTo.of_eq rfl) (locs rfl) ?_ (by decide)
  rintro p loose mean mg mb dp un gd outer A₀ base g L' s B' F' N' X' T' ⟨xs, ns, hxs, hns, hlen⟩ hdp hun hlt
  k_fold
  k_steps
end Mine
end
-- Nums
section
open PySem PySem.W PyProof.Rows PySem.Calls PySem.Spec
namespace Mine
section

set_option maxHeartbeats 4000000 in
theorem numbers_told_spec (prog : Program) (w : World) (l : Addr) (vs : List Value) (ns : List Int) (hl3 : ns.length ≤ 3) (hb : ∀ i ∈ ns, i.natAbs < 10 ^ 9) :
    Spec prog w 97 [.ref l] 3 60 [] (fun g => g.IsList l vs.toArray ∧ IntsAre vs ns) (fun _ v own' => ∃ t, v = .str (Txt.join (Str.ofString " ") (ns.map numS)) t ∧ own' = []) := by
  k_with_none
  (k_with "cj" => (first | exact fun h => h.1 | exact fun h => h.2.1 | exact fun h => h.2.2.1 | exact fun h => h.2.2.2.1 | exact fun h => h.2.2.2.2.1 | exact fun h => h.2.2.2.2.2.1 | exact fun h => h.2.2.2.2.2.2.1 | exact fun h => h.2.2.2.2.2.2.2.1 | exact fun h => h.2.2.2.2.2.2.2.2.1 | exact fun h => h.2.2.2.2.2.2.2.2.2.1 | exact fun h => h.2.2.2.2.2.2.2.2.2.2.1 | exact fun h => h.2.2.2.2.2.2.2.2.2.2.2.1 | exact fun h => h.2.2.2.2.2.2.2.2.2.2.2.2.1 | exact fun h => h.2.2.2.2.2.2.2.2.2.2.2.2.2.1 | exact fun h => h.2 | exact fun h => h.2.2 | exact fun h => h.2.2.2 | exact fun h => h.2.2.2.2 | exact fun h => h.2.2.2.2.2 | exact fun h => h.2.2.2.2.2.2 | exact fun h => h.2.2.2.2.2.2.2 | exact fun h => h.2.2.2.2.2.2.2.2 | exact fun h => h.2.2.2.2.2.2.2.2.2 | exact fun h => h.2.2.2.2.2.2.2.2.2.2 | exact fun h => h.2.2.2.2.2.2.2.2.2.2.2 | exact fun h => h.2.2.2.2.2.2.2.2.2.2.2.2 | exact fun h => h.2.2.2.2.2.2.2.2.2.2.2.2.2))
  (k_with "omega" => (with_reducible first | assumption | exact Nat.le_of_ble_eq_true (by decide) | exact Nat.ne_of_gt (by assumption) | exact Nat.ne_of_lt (by assumption) | exact Mine.lm1 (by assumption) (by decide) | exact Mine.lm2 (by assumption) (by decide) | exact Mine.lm3 (by assumption) (by decide) | exact Mine.lm4 (by assumption) (by decide) | exact Mine.lm5 (by assumption) (by decide) | exact Mine.lm6 (by assumption) (by decide) | exact Mine.lm7 (by assumption) (by decide) | exact Mine.lm8 (by assumption) (by decide) | exact Mine.lm9 (by assumption) (by decide) | exact Int.natCast_nonneg _ | (refine Mine.cj1 (by assumption) ?_; k_extra "cj") | (refine Mine.cj2 (by assumption) ?_; k_extra "cj") | (refine Mine.cj3 (by assumption) ?_; k_extra "cj") | (refine Mine.cj4 (by assumption) ?_; k_extra "cj") | (refine Mine.cj5 (by assumption) (by assumption) ?_; k_extra "cj") | (refine Mine.cj6 (by assumption) (by assumption) ?_; k_extra "cj") | (refine Mine.cj7 (by assumption) (by assumption) (by assumption) ?_; k_extra "cj") | (refine Mine.cj8 (by assumption) (by assumption) (by assumption) ?_; k_extra "cj") | exact Mine.cj9 (by assumption) (by assumption) | exact Mine.cj10 (by assumption) (by assumption) | (refine Mine.cl1 (by assumption) ?_; k_extra "cj") | (refine Mine.cl2 (by assumption) (by assumption) ?_; k_extra "cj") | exact Mine.ns1 (by assumption) | exact Mine.ns2 (by assumption) | exact Mine.ns3 | exact Mine.ns4 | exact Mine.lm10 (by assumption) (by decide) | exact Mine.lm11 (by assumption) (by decide) | exact Mine.lm12 (by assumption) (by assumption) (by decide) | exact Mine.lm12 (by assumption) (Nat.le_refl _) (by decide) | exact Mine.lm13 (by assumption) (by assumption) (by decide) | exact Mine.lm13 (by assumption) (Nat.le_refl _) (by decide) | fail))
  (k_with "eval ListComp" => (k_here; k_dflt (refine comp_strs (by assumption) (by rfl) (by assumption) (by assumption) (by with_unfolding_all rfl) (by decide) (by rfl) (by decide) (by rfl) (by rfl) (by rfl) (fun _ => by rfl) (fun _ => by rfl) (by decide) ?_)))
  (k_with "StrSrc" => (refine StrSrc.intro (.inl (by is_list)) (by assumption) (by omega) (by assumption) (by assumption) (by assumption) ?_; intro D' h' tk' ys' F' N' ne' hk' hys'; clear hk'; (try dsimp only); (try k_sweep)))
  (k_with "call builtin:str.join" => (k_here; refine join_strs (by is_list) (by assumption) (by assumption) ?_; intro t' k'))
  have hj : JoinOk (Str.ofString " ") (ns.map numS) = true := by
    refine joinOk_of 10 (fun y hy => ?_) ?_
    · obtain ⟨n, hn, rfl⟩ := List.mem_map.mp hy
      exact numS_len (hb n hn)
    · rw [List.length_map, show (Str.ofString " ").length = 1 from by decide]; omega
  refine spec_of [("numbers", .ref l)] (by k_is) (by k_is) (fun s _ => BindsTo.of_eq rfl) (locs rfl) ?_ (by decide)
  rintro p loose mean mg mb dp un gd outer A₀ base g L' s B' F' N' X' T' ⟨h1, h2⟩ hdp hun hlt
  k_fold
  k_steps
  exact Fin.intro (by assumption) News.nil ⟨_, rfl, rfl⟩
end
end Mine
end
-- Low
section
open PySem PySem.W PyProof.Rows PySem.Calls PySem.Spec
namespace Mine
section

set_option maxHeartbeats 4000000 in
theorem lower_code_spec (prog : Program) (w : World) (c : Int) (t : Tok) (h0 : 0 ≤ c) (h1 : c < 128) :
    Spec prog w 233 [.int c t] 1 30 [] (fun _ => True) (fun _ v own' => ∃ c' t, v = .int c' t ∧ 0 ≤ c' ∧ c' < 200 ∧ own' = []) := by
  k_with_none
  (k_with "cj" => (first | exact fun h => h.1 | exact fun h => h.2.1 | exact fun h => h.2.2.1 | exact fun h => h.2.2.2.1 | exact fun h => h.2.2.2.2.1 | exact fun h => h.2.2.2.2.2.1 | exact fun h => h.2.2.2.2.2.2.1 | exact fun h => h.2.2.2.2.2.2.2.1 | exact fun h => h.2.2.2.2.2.2.2.2.1 | exact fun h => h.2.2.2.2.2.2.2.2.2.1 | exact fun h => h.2.2.2.2.2.2.2.2.2.2.1 | exact fun h => h.2.2.2.2.2.2.2.2.2.2.2.1 | exact fun h => h.2.2.2.2.2.2.2.2.2.2.2.2.1 | exact fun h => h.2.2.2.2.2.2.2.2.2.2.2.2.2.1 | exact fun h => h.2 | exact fun h => h.2.2 | exact fun h => h.2.2.2 | exact fun h => h.2.2.2.2 | exact fun h => h.2.2.2.2.2 | exact fun h => h.2.2.2.2.2.2 | exact fun h => h.2.2.2.2.2.2.2 | exact fun h => h.2.2.2.2.2.2.2.2 | exact fun h => h.2.2.2.2.2.2.2.2.2 | exact fun h => h.2.2.2.2.2.2.2.2.2.2 | exact fun h => h.2.2.2.2.2.2.2.2.2.2.2 | exact fun h => h.2.2.2.2.2.2.2.2.2.2.2.2 | exact fun h => h.2.2.2.2.2.2.2.2.2.2.2.2.2))
  (k_with "omega" => (with_reducible first | assumption | exact Nat.le_of_ble_eq_true (by decide) | exact Nat.ne_of_gt (by assumption) | exact Nat.ne_of_lt (by assumption) | exact Mine.lm1 (by assumption) (by decide) | exact Mine.lm2 (by assumption) (by decide) | exact Mine.lm3 (by assumption) (by decide) | exact Mine.lm4 (by assumption) (by decide) | exact Mine.lm5 (by assumption) (by decide) | exact Mine.lm6 (by assumption) (by decide) | exact Mine.lm7 (by assumption) (by decide) | exact Mine.lm8 (by assumption) (by decide) | exact Mine.lm9 (by assumption) (by decide) | exact Int.natCast_nonneg _ | (refine Mine.cj1 (by assumption) ?_; k_extra "cj") | (refine Mine.cj2 (by assumption) ?_; k_extra "cj") | (refine Mine.cj3 (by assumption) ?_; k_extra "cj") | (refine Mine.cj4 (by assumption) ?_; k_extra "cj") | (refine Mine.cj5 (by assumption) (by assumption) ?_; k_extra "cj") | (refine Mine.cj6 (by assumption) (by assumption) ?_; k_extra "cj") | (refine Mine.cj7 (by assumption) (by assumption) (by assumption) ?_; k_extra "cj") | (refine Mine.cj8 (by assumption) (by assumption) (by assumption) ?_; k_extra "cj") | exact Mine.cj9 (by assumption) (by assumption) | exact Mine.cj10 (by assumption) (by assumption) | (refine Mine.cl1 (by assumption) ?_; k_extra "cj") | (refine Mine.cl2 (by assumption) (by assumption) ?_; k_extra "cj") | exact Mine.ns1 (by assumption) | exact Mine.ns2 (by assumption) | exact Mine.ns3 | exact Mine.ns4 | exact Mine.lm10 (by assumption) (by decide) | exact Mine.lm11 (by assumption) (by decide) | exact Mine.lm12 (by assumption) (by assumption) (by decide) | exact Mine.lm12 (by assumption) (Nat.le_refl _) (by decide) | exact Mine.lm13 (by assumption) (by assumption) (by decide) | exact Mine.lm13 (by assumption) (Nat.le_refl _) (by decide) | fail))
  refine spec_of [("code", .int c t)] (by k_is) (by k_is) (fun s _ => BindsTo.of_eq rfl) (locs rfl) ?_ (by decide)
  rintro p loose mean mg mb dp un gd outer A₀ base g L' s B' F' N' X' T' - hdp hun hlt
  k_fold
  k_steps
  all_goals exact Fin.intro (by assumption) (by assumption) ⟨_, _, rfl, by omega, by omega, rfl⟩
end

section
variable {prog : Program} {w : World} {E : Value → Shared → Prop} {s : Shared} {h₀ base : Heap} {A₀ : Around} {L C : Addr} {m mc mg mb : Str → Option Value} {scope : Scope} {cl' cl : List (Str × Addr)}
  {p : Program} {loose : List Str} {mean : ExcName → Option Value} {x : Str} {t : Tok} {p1 p2 p3 p4 p5 p6 p7 pos : Pos} {Q : Value → Shared → Prop} {dp un : Nat} {gd : Option (List Code)} {cn : Str} {cs : Scope} {a : Addr} {ccd : Value} {outer : List Env} {env : Env}

set_option maxHeartbeats 1000000 in
/-- `chr(lower_code(ord(sign)))` -/
theorem elt_lower {c : Nat} (B : Below A₀ base outer h₀) (F : Fr h₀ L s.heap m) (X : (Mine.hd.heap_1 w.params).In h₀) (T : Top p loose mean mg mb h₀) (hcs : cs.kind = .function) (hd : dp + 1 < recursionLimit) (hu : un + 30 < cLine) (hn : s.heap.Ns C mc) (hx : mc x = some (.str ⟨#[c]⟩ t)) (hb : c < 128)
    (hg : env.globals = mainGlobals) (hbn : env.builtins = builtinsNs) (hk : (compEnvC scope cl' C env).scope.kind = .function) (hks : (compEnvC scope cl' C env).kindOf "chr" = some .globalImplicit) (hko : (compEnvC scope cl' C env).kindOf "ord" = some .globalImplicit) (hkl : (compEnvC scope cl' C env).kindOf "lower_code" = some .globalImplicit)
    (hkx : (compEnvC scope cl' C env).kindOf x = some .local) (hxd : (x == ("__debug__" : Str)) = false)
    (h : ∀ y t h' tk, y.length = 1 → Fr h₀ L h' m → (∀ b o, s.heap.get? b = some o → h'.get? b = some o) → Q (.str y t) { s with heap := h', toks := tk }) :
    wpAny (model prog w) (ktrTop dp un gd cn cs L a ccd cl outer) (eval (.Call (.Name "chr" p1) [.Call (.Name "lower_code" p2) [.Call (.Name "ord" p3) [.Name x p4] [] p5] [] p6] [] p7) (compEnvC scope cl' C env)) Q E s := by
  k_with_none
  (k_with "cj" => (first | exact fun h => h.1 | exact fun h => h.2.1 | exact fun h => h.2.2.1 | exact fun h => h.2.2.2.1 | exact fun h => h.2.2.2.2.1 | exact fun h => h.2.2.2.2.2.1 | exact fun h => h.2.2.2.2.2.2.1 | exact fun h => h.2.2.2.2.2.2.2.1 | exact fun h => h.2.2.2.2.2.2.2.2.1 | exact fun h => h.2.2.2.2.2.2.2.2.2.1 | exact fun h => h.2.2.2.2.2.2.2.2.2.2.1 | exact fun h => h.2.2.2.2.2.2.2.2.2.2.2.1 | exact fun h => h.2.2.2.2.2.2.2.2.2.2.2.2.1 | exact fun h => h.2.2.2.2.2.2.2.2.2.2.2.2.2.1 | exact fun h => h.2 | exact fun h => h.2.2 | exact fun h => h.2.2.2 | exact fun h => h.2.2.2.2 | exact fun h => h.2.2.2.2.2 | exact fun h => h.2.2.2.2.2.2 | exact fun h => h.2.2.2.2.2.2.2 | exact fun h => h.2.2.2.2.2.2.2.2 | exact fun h => h.2.2.2.2.2.2.2.2.2 | exact fun h => h.2.2.2.2.2.2.2.2.2.2 | exact fun h => h.2.2.2.2.2.2.2.2.2.2.2 | exact fun h => h.2.2.2.2.2.2.2.2.2.2.2.2 | exact fun h => h.2.2.2.2.2.2.2.2.2.2.2.2.2))
  (k_with "omega" => (with_reducible first | assumption | exact Nat.le_of_ble_eq_true (by decide) | exact Nat.ne_of_gt (by assumption) | exact Nat.ne_of_lt (by assumption) | exact Mine.lm1 (by assumption) (by decide) | exact Mine.lm2 (by assumption) (by decide) | exact Mine.lm3 (by assumption) (by decide) | exact Mine.lm4 (by assumption) (by decide) | exact Mine.lm5 (by assumption) (by decide) | exact Mine.lm6 (by assumption) (by decide) | exact Mine.lm7 (by assumption) (by decide) | exact Mine.lm8 (by assumption) (by decide) | exact Mine.lm9 (by assumption) (by decide) | exact Int.natCast_nonneg _ | (refine Mine.cj1 (by assumption) ?_; k_extra "cj") | (refine Mine.cj2 (by assumption) ?_; k_extra "cj") | (refine Mine.cj3 (by assumption) ?_; k_extra "cj") | (refine Mine.cj4 (by assumption) ?_; k_extra "cj") | (refine Mine.cj5 (by assumption) (by assumption) ?_; k_extra "cj") | (refine Mine.cj6 (by assumption) (by assumption) ?_; k_extra "cj") | (refine Mine.cj7 (by assumption) (by assumption) (by assumption) ?_; k_extra "cj") | (refine Mine.cj8 (by assumption) (by assumption) (by assumption) ?_; k_extra "cj") | exact Mine.cj9 (by assumption) (by assumption) | exact Mine.cj10 (by assumption) (by assumption) | (refine Mine.cl1 (by assumption) ?_; k_extra "cj") | (refine Mine.cl2 (by assumption) (by assumption) ?_; k_extra "cj") | exact Mine.ns1 (by assumption) | exact Mine.ns2 (by assumption) | exact Mine.ns3 | exact Mine.ns4 | exact Mine.lm10 (by assumption) (by decide) | exact Mine.lm11 (by assumption) (by decide) | exact Mine.lm12 (by assumption) (by assumption) (by decide) | exact Mine.lm12 (by assumption) (Nat.le_refl _) (by decide) | exact Mine.lm13 (by assumption) (by assumption) (by decide) | exact Mine.lm13 (by assumption) (Nat.le_refl _) (by decide) | fail))
  (k_with "eval Name" => ((with_reducible show wpAny _ _ (eval (Expr.Name _ _) (compEnvC _ _ _ _)) _ _ _); first
  | (refine nb_local (by assumption) (by assumption) (by assumption) (by assumption) (by assumption) ?_)
  | (k_dflt (refine LCgL.ld_built (by assumption) (by assumption) (by assumption) (by k_is) (by boot_by_name) (by decide) ?_ (by assumption) (by assumption) (by assumption) (by assumption) (by decide)))
  | (k_dflt (refine LCgL.ld_global (by assumption) (by assumption) (by assumption) (by k_is) ?_ (by assumption) (by assumption) (by assumption) (by decide)))))
  (k_with "call ref" => ((with_reducible show wpAny _ _ (call (Value.ref 233) [Value.int _ _]) _ _ _); k_dflt (refine Spec.use (lower_code_spec _ _ _ _ ?z1r9 ?z2r9) (by assumption) (by assumption) (by assumption) News.nil (by assumption) (by assumption) trivial ?z3r9 ?z4r9 ?_); (case z1r9 => omega); (case z2r9 => omega); (case z3r9 => omega); (case z4r9 => omega); intro r own' h' tk' F' N' k' f' ⟨c', t', e1, c0, c1, e2⟩; subst e1 e2))
  repeat' (first | (walk1; (try dsimp only)))
  exact h _ _ _ _ rfl (by assumption) (fun b o e => (by assumption : KeepX _ _ []) b o e (by simp))
end

section
variable {prog : Program} {w : World} {E : Value → Shared → Prop} {s : Shared} {h₀ base : Heap} {A₀ : Around} {L : Addr} {m mg mb : Str → Option Value} {scope : Scope} {cl' cl : List (Str × Addr)}
  {p : Program} {loose : List Str} {mean : ExcName → Option Value} {x : Str} {p1 p2 p3 p4 p5 p6 p7 p8 pos : Pos} {Q : Value → Shared → Prop} {dp un : Nat} {gd : Option (List Code)} {cn : Str} {cs : Scope} {a : Addr} {ccd : Value} {outer : List Env} {env : Env}

/-- the source of `[chr(lower_code(ord(sign))) for sign in ..]` -/
def LowSrc (h₀ : Heap) (L : Addr) (m : Str → Option Value) (Q : Value → Shared → Prop) (xv : Value) (s₁ : Shared) : Prop :=
  ∃ x t news, xv = .str x t ∧ x.cps.size ≤ 1000 ∧ (∀ i (hi : i < x.cps.size), x.cps[i] < 128) ∧ Fr h₀ L s₁.heap m ∧ News h₀ L s₁.heap news ∧ ∀ xs : List Str, xs.length ≤ 1000 → (∀ y ∈ xs, y.length = 1) → TextsOut h₀ L m news xs (fun D s => Q (.ref D) s) s₁
theorem LowSrc.intro {x : Str} {t : Tok} {news : List (Addr × Obj)} {s₁ : Shared} (h1 : x.cps.size ≤ 1000) (h2 : ∀ i (hi : i < x.cps.size), x.cps[i] < 128) (F : Fr h₀ L s₁.heap m) (N : News h₀ L s₁.heap news) (out : ∀ xs : List Str, xs.length ≤ 1000 → (∀ y ∈ xs, y.length = 1) → TextsOut h₀ L m news xs (fun D s => Q (.ref D) s) s₁) :
    LowSrc h₀ L m Q (.str x t) s₁ := ⟨x, t, news, rfl, h1, h2, F, N, out⟩

theorem comp_lower {iter : PySem.Expr} (B : Below A₀ base outer h₀) (_F : Fr h₀ L s.heap m) (X : (Mine.hd.heap_1 w.params).In h₀) (T : Top p loose mean mg mb h₀) (hcs : cs.kind = .function) (hd : dp + 1 < recursionLimit) (hu : un + 30 < cLine)
    (hclos : closureFor scope env = pure cl') (hcell : ∀ y ∈ scope.names, y.2 ≠ .cell) (hkind : scope.kind = .function)
    (hnames : ∀ y ∈ scope.names, y.2 = .local → scope.names.lookup y.1 = some .local) (hx : scope.names.lookup x = some .local)
    (hg : env.globals = mainGlobals) (hbn : env.builtins = builtinsNs) (hk : ∀ C, (compEnvC scope cl' C env).scope.kind = .function) (hks : ∀ C, (compEnvC scope cl' C env).kindOf "chr" = some .globalImplicit) (hko : ∀ C, (compEnvC scope cl' C env).kindOf "ord" = some .globalImplicit) (hkl : ∀ C, (compEnvC scope cl' C env).kindOf "lower_code" = some .globalImplicit) (hxd : (x == ("__debug__" : Str)) = false)
    (h : wpAny (model prog w) (ktrTop dp un gd cn cs L a ccd cl outer) (eval iter env) (LowSrc h₀ L m Q) E s)
    (hs : ∀ x, foldedSetIterable iter env x = pure x := by intro _; rfl) :
    wpAny (model prog w) (ktrTop dp un gd cn cs L a ccd cl outer) (eval (.ListComp (.Call (.Name "chr" p1) [.Call (.Name "lower_code" p2) [.Call (.Name "ord" p3) [.Name x p4] [] p5] [] p6] [] p7) [⟨.Name x p8, iter, [], 0⟩] scope pos) env) Q E s := by
  refine comp_eval (h₀ := h₀) (L := L) (m := m) hclos hcell hkind hnames (wpAny_mono h (fun xv s₁ hsrc => ?_) fun _ _ e => e) hs
  obtain ⟨t, tt, news, rfl, hlen, hb, F, N, out⟩ := hsrc
  refine src_str (R := fun i ys own₁ => own₁ = [] ∧ ∃ xs, StrsAre ys xs ∧ xs.length = i ∧ ∀ y ∈ xs, y.length = 1) rfl (by rw [sizeLine_eq]; omega) hkind hx F News.nil ⟨rfl, [], .nil, rfl, List.forall_mem_nil _⟩ ?_ ?_
  · rintro i ys own₁ C mc s E' hlt _ ⟨rfl, xs, hys, hxl, hx1⟩ F' N' hn ⟨v, ⟨c, u, hc, rfl⟩, hmc⟩ _ _ _ _ _
    have hc128 : c < 128 := by
      have := hb i hlt
      rw [Array.getElem?_eq_getElem hlt] at hc
      cases hc; exact this
    refine Turn.plain (elt_lower B F' X T hcs hd hu hn hmc hc128 hg hbn (hk C) (hks C) (hko C) (hkl C) (lookup_relabel_local hx) hxd fun y t h' tk hy F'' hk' => ?_)
    refine TEnd.intro F'' News.nil (fun b o e _ => hk' b o e) (fun p hp => nomatch hp) ⟨rfl, xs ++ [y], strsAre_snoc hys _ _, by rw [List.length_append, hxl]; rfl, fun z hz => ?_⟩
    rcases List.mem_append.mp hz with hz | hz
    · exact hx1 z hz
    · rw [List.mem_singleton.mp hz]; exact hy
  · intro D h tk ys own' F' N' hD hD₀ hDL hDo hsD hr hk' hf
    obtain ⟨rfl, xs, hys, hxl, hx1⟩ := hr
    exact textsOut_fin (n := 0) (R := fun _ ys own' => own' = [] ∧ StrsAre ys xs) N (out xs (by omega) hx1) rfl (fun _ _ r => r.2) D h tk ys [] F' N' hD hD₀ hDL hDo hsD ⟨rfl, hys⟩ hk' hf
end

section

set_option maxHeartbeats 4000000 in
theorem lower_text_spec (prog : Program) (w : World) (t : Tok) :
    Spec prog w 238 [.str (Str.ofString "content-transfer-encoding") t] 2 60 [] (fun _ => True) (fun _ v own' => ∃ x t, v = .str x t ∧ own' = []) := by
  k_with_none
  (k_with "cj" => (first | exact fun h => h.1 | exact fun h => h.2.1 | exact fun h => h.2.2.1 | exact fun h => h.2.2.2.1 | exact fun h => h.2.2.2.2.1 | exact fun h => h.2.2.2.2.2.1 | exact fun h => h.2.2.2.2.2.2.1 | exact fun h => h.2.2.2.2.2.2.2.1 | exact fun h => h.2.2.2.2.2.2.2.2.1 | exact fun h => h.2.2.2.2.2.2.2.2.2.1 | exact fun h => h.2.2.2.2.2.2.2.2.2.2.1 | exact fun h => h.2.2.2.2.2.2.2.2.2.2.2.1 | exact fun h => h.2.2.2.2.2.2.2.2.2.2.2.2.1 | exact fun h => h.2.2.2.2.2.2.2.2.2.2.2.2.2.1 | exact fun h => h.2 | exact fun h => h.2.2 | exact fun h => h.2.2.2 | exact fun h => h.2.2.2.2 | exact fun h => h.2.2.2.2.2 | exact fun h => h.2.2.2.2.2.2 | exact fun h => h.2.2.2.2.2.2.2 | exact fun h => h.2.2.2.2.2.2.2.2 | exact fun h => h.2.2.2.2.2.2.2.2.2 | exact fun h => h.2.2.2.2.2.2.2.2.2.2 | exact fun h => h.2.2.2.2.2.2.2.2.2.2.2 | exact fun h => h.2.2.2.2.2.2.2.2.2.2.2.2 | exact fun h => h.2.2.2.2.2.2.2.2.2.2.2.2.2))
  (k_with "omega" => (with_reducible first | assumption | exact Nat.le_of_ble_eq_true (by decide) | exact Nat.ne_of_gt (by assumption) | exact Nat.ne_of_lt (by assumption) | exact Mine.lm1 (by assumption) (by decide) | exact Mine.lm2 (by assumption) (by decide) | exact Mine.lm3 (by assumption) (by decide) | exact Mine.lm4 (by assumption) (by decide) | exact Mine.lm5 (by assumption) (by decide) | exact Mine.lm6 (by assumption) (by decide) | exact Mine.lm7 (by assumption) (by decide) | exact Mine.lm8 (by assumption) (by decide) | exact Mine.lm9 (by assumption) (by decide) | exact Int.natCast_nonneg _ | (refine Mine.cj1 (by assumption) ?_; k_extra "cj") | (refine Mine.cj2 (by assumption) ?_; k_extra "cj") | (refine Mine.cj3 (by assumption) ?_; k_extra "cj") | (refine Mine.cj4 (by assumption) ?_; k_extra "cj") | (refine Mine.cj5 (by assumption) (by assumption) ?_; k_extra "cj") | (refine Mine.cj6 (by assumption) (by assumption) ?_; k_extra "cj") | (refine Mine.cj7 (by assumption) (by assumption) (by assumption) ?_; k_extra "cj") | (refine Mine.cj8 (by assumption) (by assumption) (by assumption) ?_; k_extra "cj") | exact Mine.cj9 (by assumption) (by assumption) | exact Mine.cj10 (by assumption) (by assumption) | (refine Mine.cl1 (by assumption) ?_; k_extra "cj") | (refine Mine.cl2 (by assumption) (by assumption) ?_; k_extra "cj") | exact Mine.ns1 (by assumption) | exact Mine.ns2 (by assumption) | exact Mine.ns3 | exact Mine.ns4 | exact Mine.lm10 (by assumption) (by decide) | exact Mine.lm11 (by assumption) (by decide) | exact Mine.lm12 (by assumption) (by assumption) (by decide) | exact Mine.lm12 (by assumption) (Nat.le_refl _) (by decide) | exact Mine.lm13 (by assumption) (by assumption) (by decide) | exact Mine.lm13 (by assumption) (Nat.le_refl _) (by decide) | fail))
  (k_with "eval ListComp" => (k_here; k_dflt (refine comp_lower (by assumption) (by assumption) (by assumption) (by assumption) (by rfl) ?z1r10 ?z2r10 (by with_unfolding_all rfl) (by decide) (by rfl) (by decide) (by rfl) (by rfl) (by rfl) (fun _ => by rfl) (fun _ => by rfl) (fun _ => by rfl) (fun _ => by rfl) (by decide) ?_); (case z1r10 => omega); (case z2r10 => omega)))
  (k_with "LowSrc" => (refine LowSrc.intro (by decide) (by decide) (by assumption) (by assumption) ?_; intro xs' hl' hx' D' h' tk' ys' F' N' ne' hk' hys'; clear hk'; (try dsimp only); (try k_sweep)))
  (k_with "call builtin:str.join" => (k_here; refine join_strs (by is_list) (by assumption) (joinOk_of 1 (fun y hy => by have := (by assumption : ∀ y ∈ _, y.length = 1) y hy; omega) (by rw [show (Str.ofString "").length = 0 from by decide]; omega)) ?_; intro t' k'))
  refine spec_of [("text", .str (Str.ofString "content-transfer-encoding") t)] (by k_is) (by k_is) (fun s _ => BindsTo.of_eq rfl) (locs rfl) ?_ (by decide)
  rintro p loose mean mg mb dp un gd outer A₀ base g L' s B' F' N' X' T' - hdp hun hlt
  k_fold
  k_steps
  exact Fin.intro (by assumption) News.nil ⟨_, _, rfl, rfl⟩
end
section
set_option maxHeartbeats 4000000 in
theorem first_body_spec (prog : Program) (w : World) (l : Addr) (t : Tok) (n : Nat) :
    Spec prog w 266 [.ref l, .str (Str.ofString "content-transfer-encoding") t] 3 90 [(l, W.listOf #[] n)] (fun _ => True) (fun _ v own' => v = .none ∧ own' = [(l, W.listOf #[] n)]) := by
  k_with_none
  (k_with "cj" => (first | exact fun h => h.1 | exact fun h => h.2.1 | exact fun h => h.2.2.1 | exact fun h => h.2.2.2.1 | exact fun h => h.2.2.2.2.1 | exact fun h => h.2.2.2.2.2.1 | exact fun h => h.2.2.2.2.2.2.1 | exact fun h => h.2.2.2.2.2.2.2.1 | exact fun h => h.2.2.2.2.2.2.2.2.1 | exact fun h => h.2.2.2.2.2.2.2.2.2.1 | exact fun h => h.2.2.2.2.2.2.2.2.2.2.1 | exact fun h => h.2.2.2.2.2.2.2.2.2.2.2.1 | exact fun h => h.2.2.2.2.2.2.2.2.2.2.2.2.1 | exact fun h => h.2.2.2.2.2.2.2.2.2.2.2.2.2.1 | exact fun h => h.2 | exact fun h => h.2.2 | exact fun h => h.2.2.2 | exact fun h => h.2.2.2.2 | exact fun h => h.2.2.2.2.2 | exact fun h => h.2.2.2.2.2.2 | exact fun h => h.2.2.2.2.2.2.2 | exact fun h => h.2.2.2.2.2.2.2.2 | exact fun h => h.2.2.2.2.2.2.2.2.2 | exact fun h => h.2.2.2.2.2.2.2.2.2.2 | exact fun h => h.2.2.2.2.2.2.2.2.2.2.2 | exact fun h => h.2.2.2.2.2.2.2.2.2.2.2.2 | exact fun h => h.2.2.2.2.2.2.2.2.2.2.2.2.2))
  (k_with "omega" => (with_reducible first | assumption | exact Nat.le_of_ble_eq_true (by decide) | exact Nat.ne_of_gt (by assumption) | exact Nat.ne_of_lt (by assumption) | exact Mine.lm1 (by assumption) (by decide) | exact Mine.lm2 (by assumption) (by decide) | exact Mine.lm3 (by assumption) (by decide) | exact Mine.lm4 (by assumption) (by decide) | exact Mine.lm5 (by assumption) (by decide) | exact Mine.lm6 (by assumption) (by decide) | exact Mine.lm7 (by assumption) (by decide) | exact Mine.lm8 (by assumption) (by decide) | exact Mine.lm9 (by assumption) (by decide) | exact Int.natCast_nonneg _ | (refine Mine.cj1 (by assumption) ?_; k_extra "cj") | (refine Mine.cj2 (by assumption) ?_; k_extra "cj") | (refine Mine.cj3 (by assumption) ?_; k_extra "cj") | (refine Mine.cj4 (by assumption) ?_; k_extra "cj") | (refine Mine.cj5 (by assumption) (by assumption) ?_; k_extra "cj") | (refine Mine.cj6 (by assumption) (by assumption) ?_; k_extra "cj") | (refine Mine.cj7 (by assumption) (by assumption) (by assumption) ?_; k_extra "cj") | (refine Mine.cj8 (by assumption) (by assumption) (by assumption) ?_; k_extra "cj") | exact Mine.cj9 (by assumption) (by assumption) | exact Mine.cj10 (by assumption) (by assumption) | (refine Mine.cl1 (by assumption) ?_; k_extra "cj") | (refine Mine.cl2 (by assumption) (by assumption) ?_; k_extra "cj") | exact Mine.ns1 (by assumption) | exact Mine.ns2 (by assumption) | exact Mine.ns3 | exact Mine.ns4 | exact Mine.lm10 (by assumption) (by decide) | exact Mine.lm11 (by assumption) (by decide) | exact Mine.lm12 (by assumption) (by assumption) (by decide) | exact Mine.lm12 (by assumption) (Nat.le_refl _) (by decide) | exact Mine.lm13 (by assumption) (by assumption) (by decide) | exact Mine.lm13 (by assumption) (Nat.le_refl _) (by decide) | fail))
  (k_with "call ref" => ((with_reducible show wpAny _ _ (call (Value.ref 238) [Value.str _ _]) _ _ _); k_dflt (refine Spec.use0 (lower_text_spec _ _ _) (by assumption) (by assumption) (by assumption) (by assumption) (by assumption) (by rfl) trivial ?z3r13 ?z4r13 ?_); (case z3r13 => omega); (case z4r13 => omega); intro r own' h' tk' F' N' N2' n2' ⟨c', t', e1, e2⟩; clear N2' n2'; subst e1 e2))
  refine spec_of [("fields", .ref l), ("word", .str (Str.ofString "content-transfer-encoding") t)] (by k_is) (by k_is) (fun s _ => BindsTo.of_eq rfl) (locs rfl) ?_ (by decide)
  rintro p loose mean mg mb dp un gd outer A₀ base g L' s B' F' N' X' T' h1 hdp hun hlt
  k_fold
  k_steps
  exact Fin.intro (by assumption) (by assumption) ⟨rfl, rfl⟩
end
section
set_option maxHeartbeats 4000000 in
theorem encoding_of_spec (prog : Program) (w : World) (l : Addr) (n : Nat) :
    Spec prog w 297 [.ref l] 4 120 [(l, W.listOf #[] n)] (fun _ => True) (fun _ v own' => (∃ t, v = .str (Str.ofString "7bit") t) ∧ own' = [(l, W.listOf #[] n)]) := by
  k_with_none
  (k_with "cj" => (first | exact fun h => h.1 | exact fun h => h.2.1 | exact fun h => h.2.2.1 | exact fun h => h.2.2.2.1 | exact fun h => h.2.2.2.2.1 | exact fun h => h.2.2.2.2.2.1 | exact fun h => h.2.2.2.2.2.2.1 | exact fun h => h.2.2.2.2.2.2.2.1 | exact fun h => h.2.2.2.2.2.2.2.2.1 | exact fun h => h.2.2.2.2.2.2.2.2.2.1 | exact fun h => h.2.2.2.2.2.2.2.2.2.2.1 | exact fun h => h.2.2.2.2.2.2.2.2.2.2.2.1 | exact fun h => h.2.2.2.2.2.2.2.2.2.2.2.2.1 | exact fun h => h.2.2.2.2.2.2.2.2.2.2.2.2.2.1 | exact fun h => h.2 | exact fun h => h.2.2 | exact fun h => h.2.2.2 | exact fun h => h.2.2.2.2 | exact fun h => h.2.2.2.2.2 | exact fun h => h.2.2.2.2.2.2 | exact fun h => h.2.2.2.2.2.2.2 | exact fun h => h.2.2.2.2.2.2.2.2 | exact fun h => h.2.2.2.2.2.2.2.2.2 | exact fun h => h.2.2.2.2.2.2.2.2.2.2 | exact fun h => h.2.2.2.2.2.2.2.2.2.2.2 | exact fun h => h.2.2.2.2.2.2.2.2.2.2.2.2 | exact fun h => h.2.2.2.2.2.2.2.2.2.2.2.2.2))
  (k_with "omega" => (with_reducible first | assumption | exact Nat.le_of_ble_eq_true (by decide) | exact Nat.ne_of_gt (by assumption) | exact Nat.ne_of_lt (by assumption) | exact Mine.lm1 (by assumption) (by decide) | exact Mine.lm2 (by assumption) (by decide) | exact Mine.lm3 (by assumption) (by decide) | exact Mine.lm4 (by assumption) (by decide) | exact Mine.lm5 (by assumption) (by decide) | exact Mine.lm6 (by assumption) (by decide) | exact Mine.lm7 (by assumption) (by decide) | exact Mine.lm8 (by assumption) (by decide) | exact Mine.lm9 (by assumption) (by decide) | exact Int.natCast_nonneg _ | (refine Mine.cj1 (by assumption) ?_; k_extra "cj") | (refine Mine.cj2 (by assumption) ?_; k_extra "cj") | (refine Mine.cj3 (by assumption) ?_; k_extra "cj") | (refine Mine.cj4 (by assumption) ?_; k_extra "cj") | (refine Mine.cj5 (by assumption) (by assumption) ?_; k_extra "cj") | (refine Mine.cj6 (by assumption) (by assumption) ?_; k_extra "cj") | (refine Mine.cj7 (by assumption) (by assumption) (by assumption) ?_; k_extra "cj") | (refine Mine.cj8 (by assumption) (by assumption) (by assumption) ?_; k_extra "cj") | exact Mine.cj9 (by assumption) (by assumption) | exact Mine.cj10 (by assumption) (by assumption) | (refine Mine.cl1 (by assumption) ?_; k_extra "cj") | (refine Mine.cl2 (by assumption) (by assumption) ?_; k_extra "cj") | exact Mine.ns1 (by assumption) | exact Mine.ns2 (by assumption) | exact Mine.ns3 | exact Mine.ns4 | exact Mine.lm10 (by assumption) (by decide) | exact Mine.lm11 (by assumption) (by decide) | exact Mine.lm12 (by assumption) (by assumption) (by decide) | exact Mine.lm12 (by assumption) (Nat.le_refl _) (by decide) | exact Mine.lm13 (by assumption) (by assumption) (by decide) | exact Mine.lm13 (by assumption) (Nat.le_refl _) (by decide) | fail))
  (k_with "call ref" => ((with_reducible show wpAny _ _ (call (Value.ref 266) [Value.ref _, Value.str _ _]) _ _ _); k_dflt (refine' Spec.useR (first_body_spec _ _ _ _ ?nr14) (by assumption) (by assumption) (by assumption) (by assumption) ?z5r14 (by assumption) (by rfl) trivial ?z3r14 ?z4r14 (fun _ _ _ e => own_same e.2) ?_); (case z5r14 => exact List.forall_mem_singleton.mpr (by k_mem)); (case z3r14 => omega); (case z4r14 => omega); intro r own' h' tk' F' N' ⟨e1, e2⟩; subst e1 e2))
  refine spec_of [("fields", .ref l)] (by k_is) (by k_is) (fun s _ => BindsTo.of_eq rfl) (locs rfl) ?_ (by decide)
  rintro p loose mean mg mb dp un gd outer A₀ base g L' s B' F' N' X' T' h1 hdp hun hlt
  k_fold
  k_steps
  exact Fin.intro (by assumption) (by assumption) ⟨⟨_, rfl⟩, rfl⟩
end
end Mine
end
-- LetL
section
open PySem PySem.W PyProof.Rows PySem.Calls PySem.Spec
namespace Mine

/-- a letter, as the law draws it -/
structure LetD where
  uid : Nat
  size : Nat
  modseq : Nat
  flags : List Str

/-- an entry of an object's dict -/
abbrev ent (w : World) (x : String) (t : Tok) (v : Value) : DictEntry := ⟨PyData.keyHash w.params (Str.ofString x), .str (Str.ofString x) t, v⟩

/-- the letter at `a` -/
def LetAt (w : World) (h : Heap) (a : Addr) (l : LetD) : Prop :=
  ∃ (d fa : Addr) (fvs : List Value) (n : Nat) (b : Array UInt8) (t1 t2 t3 t4 t5 u1 u2 u4 u5 : Tok), h.get? a = some (instObj 128 d) ∧
    h.get? d = some (dictOf [ent w "uid" t1 (.int l.uid u1), ent w "octets" t2 (.bytes b u2), ent w "flags" t3 (.ref fa), ent w "instant" t4 (.int 0 u4), ent w "modseq" t5 (.int l.modseq u5)] n) ∧
    h.IsTuple fa fvs.toArray ∧ StrsAre fvs l.flags ∧ b.size = l.size

theorem instAt_base {g h : Heap} {L x C dx : Addr} {m : Str → Option Value} {od : Obj} {sl : Array (Option Value)} (F : Fr g L h m) (ha : g.get? x = some ⟨.ref C, some dx, .plain, sl⟩) (hd : g.get? dx = some od) : InstAt h x ⟨.ref C, some dx, .plain, sl⟩ C (some od) :=
  ⟨F.keep _ _ ha, rfl, rfl, F.keep _ _ hd⟩

theorem list_cat {prog : Program} {w : World} {A : Around} {E : Value → Shared → Prop} {s : Shared} {h₀ : Heap} {L : Addr} {m : Str → Option Value} {news : List (Addr × Obj)} {l b : Addr} {its its2 : Array Value} {Q : Value → Shared → Prop} (F : Fr h₀ L s.heap m) (N : News h₀ L s.heap news) (hl : s.heap.IsList l its) (hb : s.heap.IsList b its2) (hsz : its.size + its2.size ≤ sizeLine)
    (h : ∀ D h', Fr h₀ L h' m → News h₀ L h' ((D, W.listOf (its.toList ++ its2.toList).toArray 0) :: news) → (∀ p ∈ news, p.1 < D) → Q (.ref D) { s with heap := h' }) :
    wpAny (model prog w) A (binaryOp .Add (.ref l) (.ref b)) Q E s := add_arrays F N hl hb (fun h' F' N' => h _ h' F' N' fun p hp => Heap.lt_size (N p hp).1) hsz

/-- the line that tells a letter -/
def lineS (k : Nat) (l : LetD) : Str := Txt.join (Str.ofString ", ") (numS k :: (Str.ofString "uid " ++ numS l.uid) :: (Str.ofString "octets " ++ numS l.size) :: (Str.ofString "modseq " ++ numS l.modseq) :: l.flags)
structure LetD.Ok (l : LetD) : Prop where
  h1 : l.uid < 1000
  h2 : l.size < 1000
  h3 : l.modseq < 1000
  h4 : l.flags.length ≤ 4
  h5 : ∀ x ∈ l.flags, x.length ≤ 20
theorem numS_len' {n : Nat} (h : n < 1000) : (numS n).length ≤ 10 := numS_len (by omega)
theorem line_le {k : Nat} {l : LetD} (hk : k ≤ 10) (o : l.Ok) : ∀ y ∈ (numS k :: (Str.ofString "uid " ++ numS l.uid) :: (Str.ofString "octets " ++ numS l.size) :: (Str.ofString "modseq " ++ numS l.modseq) :: l.flags), y.length ≤ 30 := by
  intro y hy
  simp only [List.mem_cons] at hy
  have a1 := numS_len' (n := k) (by omega)
  have a2 := numS_len' o.h1
  have a3 := numS_len' o.h2
  have a4 := numS_len' o.h3
  have b1 : (Str.ofString "uid ").length = 4 := by decide
  have b2 : (Str.ofString "octets ").length = 7 := by decide
  have b3 : (Str.ofString "modseq ").length = 7 := by decide
  rcases hy with rfl | rfl | rfl | rfl | hy
  · omega
  · rw [Str.length_append]; omega
  · rw [Str.length_append]; omega
  · rw [Str.length_append]; omega
  · have := o.h5 y hy; omega
theorem line_ok {k : Nat} {l : LetD} (hk : k ≤ 10) (o : l.Ok) : JoinOk (Str.ofString ", ") (numS k :: (Str.ofString "uid " ++ numS l.uid) :: (Str.ofString "octets " ++ numS l.size) :: (Str.ofString "modseq " ++ numS l.modseq) :: l.flags) = true := by
  refine joinOk_of 30 (line_le hk o) ?_
  simp only [List.length_cons]
  have := o.h4
  rw [show (Str.ofString ", ").length = 2 from by decide]
  omega
theorem lineS_len {k : Nat} {l : LetD} (hk : k ≤ 10) (o : l.Ok) : (lineS k l).length ≤ 300 := by
  have h := join_len (sep := Str.ofString ", ") 30 (line_le hk o)
  simp only [List.length_cons] at h
  have := o.h4
  rw [show (Str.ofString ", ").length = 2 from by decide] at h
  unfold lineS
  omega

section

set_option maxHeartbeats 4000000 in
theorem letter_line_spec (prog : Program) (w : World) (k : Nat) (tk : Tok) (a : Addr) (l : LetD) (hk : k ≤ 10) (ok : l.Ok) :
    Spec prog w 73 [.int k tk, .ref a] 2 60 [] (fun g => LetAt w g a l) (fun _ v own' => (∃ t, v = .str (lineS k l) t) ∧ own' = []) := by
  k_with_none
  (k_with "cj" => (first | exact fun h => h.1 | exact fun h => h.2.1 | exact fun h => h.2.2.1 | exact fun h => h.2.2.2.1 | exact fun h => h.2.2.2.2.1 | exact fun h => h.2.2.2.2.2.1 | exact fun h => h.2.2.2.2.2.2.1 | exact fun h => h.2.2.2.2.2.2.2.1 | exact fun h => h.2.2.2.2.2.2.2.2.1 | exact fun h => h.2.2.2.2.2.2.2.2.2.1 | exact fun h => h.2.2.2.2.2.2.2.2.2.2.1 | exact fun h => h.2.2.2.2.2.2.2.2.2.2.2.1 | exact fun h => h.2.2.2.2.2.2.2.2.2.2.2.2.1 | exact fun h => h.2.2.2.2.2.2.2.2.2.2.2.2.2.1 | exact fun h => h.2 | exact fun h => h.2.2 | exact fun h => h.2.2.2 | exact fun h => h.2.2.2.2 | exact fun h => h.2.2.2.2.2 | exact fun h => h.2.2.2.2.2.2 | exact fun h => h.2.2.2.2.2.2.2 | exact fun h => h.2.2.2.2.2.2.2.2 | exact fun h => h.2.2.2.2.2.2.2.2.2 | exact fun h => h.2.2.2.2.2.2.2.2.2.2 | exact fun h => h.2.2.2.2.2.2.2.2.2.2.2 | exact fun h => h.2.2.2.2.2.2.2.2.2.2.2.2 | exact fun h => h.2.2.2.2.2.2.2.2.2.2.2.2.2))
  (k_with "omega" => (with_reducible first | assumption | exact Nat.le_of_ble_eq_true (by decide) | exact Nat.ne_of_gt (by assumption) | exact Nat.ne_of_lt (by assumption) | exact Mine.lm1 (by assumption) (by decide) | exact Mine.lm2 (by assumption) (by decide) | exact Mine.lm3 (by assumption) (by decide) | exact Mine.lm4 (by assumption) (by decide) | exact Mine.lm5 (by assumption) (by decide) | exact Mine.lm6 (by assumption) (by decide) | exact Mine.lm7 (by assumption) (by decide) | exact Mine.lm8 (by assumption) (by decide) | exact Mine.lm9 (by assumption) (by decide) | exact Int.natCast_nonneg _ | (refine Mine.cj1 (by assumption) ?_; k_extra "cj") | (refine Mine.cj2 (by assumption) ?_; k_extra "cj") | (refine Mine.cj3 (by assumption) ?_; k_extra "cj") | (refine Mine.cj4 (by assumption) ?_; k_extra "cj") | (refine Mine.cj5 (by assumption) (by assumption) ?_; k_extra "cj") | (refine Mine.cj6 (by assumption) (by assumption) ?_; k_extra "cj") | (refine Mine.cj7 (by assumption) (by assumption) (by assumption) ?_; k_extra "cj") | (refine Mine.cj8 (by assumption) (by assumption) (by assumption) ?_; k_extra "cj") | exact Mine.cj9 (by assumption) (by assumption) | exact Mine.cj10 (by assumption) (by assumption) | (refine Mine.cl1 (by assumption) ?_; k_extra "cj") | (refine Mine.cl2 (by assumption) (by assumption) ?_; k_extra "cj") | exact Mine.ns1 (by assumption) | exact Mine.ns2 (by assumption) | exact Mine.ns3 | exact Mine.ns4 | exact Mine.lm10 (by assumption) (by decide) | exact Mine.lm11 (by assumption) (by decide) | exact Mine.lm12 (by assumption) (by assumption) (by decide) | exact Mine.lm12 (by assumption) (Nat.le_refl _) (by decide) | exact Mine.lm13 (by assumption) (by assumption) (by decide) | exact Mine.lm13 (by assumption) (Nat.le_refl _) (by decide) | fail))
  (k_with "k_inst" => exact instAt_base (by assumption) (by assumption) (by assumption))
  (k_with "binaryOp Add ref ref" => (k_here; (with_reducible show wpAny _ _ (binaryOp _ (Value.ref _) (Value.ref _)) _ _ _); k_dflt (refine list_cat (by assumption) (by assumption) (by is_list) (by is_list) ?z1r16 ?_); (case z1r16 => (simp only [List.size_toArray, List.length_cons, List.length_nil]; rw [sizeLine_eq]; omega)); intro D' h' F' N' l1; (simp only [List.cons_append, List.nil_append] at N'); (try k_lt l1); (try k_sweep)))
  (k_with "call builtin:str.join" => (k_here; refine join_strs (xs := _ :: _ :: _ :: _ :: _) (by is_list) (StrsAre.cons _ _ (StrsAre.cons _ _ (StrsAre.cons _ _ (StrsAre.cons _ _ (by assumption))))) ?z1r17 ?_; (case z1r17 => assumption); intro t' k'))
  refine spec_of [("number", .int k tk), ("letter", .ref a)] (by k_is) (by k_is) (fun s _ => BindsTo.of_eq rfl) (locs rfl) ?_ (by decide)
  rintro p loose mean mg mb dp un gd outer A₀ base g L' s B' F' N' X' T' ⟨d, fa, fvs, n, b, t1, t2, t3, t4, t5, u1, u2, u4, u5, ha, hd, hf, hfs, hbs⟩ hdp hun hlt
  k_fold
  have hj := line_ok hk ok
  have h1 := ok.h1
  have h2 := ok.h2
  have h3 := ok.h3
  have h4 := ok.h4
  have hfl : fvs.length ≤ 4 := by rw [hfs.length]; exact h4
  rw [← hbs] at hj h2
  have e : lineS k l = Txt.join (Str.ofString ", ") (numS k :: (Str.ofString "uid " ++ numS l.uid) :: (Str.ofString "octets " ++ numS b.size) :: (Str.ofString "modseq " ++ numS l.modseq) :: l.flags) := by rw [lineS, hbs]
  k_steps
  exact Fin.intro (by assumption) News.nil ⟨⟨_, by rw [e]⟩, rfl⟩
end

theorem comp_evalF {prog : Program} {w : World} {A : Around} {E : Value → Shared → Prop} {s : Shared} {env : Env} {h₀ : Heap} {L : Addr} {m : Str → Option Value} {elt target iter : PySem.Expr} {ifs : List PySem.Expr} {scope : Scope} {cl : List (Str × Addr)} {pos : Pos} {Q : Value → Shared → Prop} (_F : Fr h₀ L s.heap m)
    (hclos : closureFor scope env = pure cl) (hcell : ∀ y ∈ scope.names, y.2 ≠ .cell) (hkind : scope.kind = .function)
    (hnames : ∀ y ∈ scope.names, y.2 = .local → scope.names.lookup y.1 = some .local)
    (h : wpAny (model prog w) A (eval iter env) (fun xv s₁ => wpAny (model prog w) A (pyIter xv) (BlockAt prog w A h₀ L m env elt target ifs scope cl (fun _ => m) (fun D s₂ => Q (.ref D) s₂)) E s₁) E s)
    (hs : ∀ x, foldedSetIterable iter env x = pure x := by intro _; rfl) :
    wpAny (model prog w) A (eval (.ListComp elt [⟨target, iter, ifs, 0⟩] scope pos) env) Q E s := comp_eval hclos hcell hkind hnames h hs

theorem LetAt.keeps {w : World} {h h' : Heap} {a : Addr} {l : LetD} (x : LetAt w h a l) (k : ∀ b o, h.get? b = some o → h'.get? b = some o) : LetAt w h' a l := by
  obtain ⟨d, fa, fvs, n, b, t1, t2, t3, t4, t5, u1, u2, u4, u5, ha, hd, ⟨o, hf, r⟩, hfs, hbs⟩ := x
  exact ⟨d, fa, fvs, n, b, t1, t2, t3, t4, t5, u1, u2, u4, u5, k _ _ ha, k _ _ hd, ⟨o, k _ _ hf, r⟩, hfs, hbs⟩

/-- the letters of a list -/
inductive LettersAt (w : World) (h : Heap) : List Value → List LetD → Prop
  | nil : LettersAt w h [] []
  | cons {a : Addr} {l : LetD} {vs : List Value} {ls : List LetD} : LetAt w h a l → LettersAt w h vs ls → LettersAt w h (.ref a :: vs) (l :: ls)
theorem LettersAt.keeps {w : World} {h h' : Heap} {vs : List Value} {ls : List LetD} (x : LettersAt w h vs ls) (k : ∀ b o, h.get? b = some o → h'.get? b = some o) : LettersAt w h' vs ls := by
  induction x with
  | nil => exact .nil
  | cons h1 _ ih => exact .cons (h1.keeps k) ih
theorem LettersAt.length {w : World} {h : Heap} {vs : List Value} {ls : List LetD} (x : LettersAt w h vs ls) : vs.length = ls.length := by
  induction x with
  | nil => rfl
  | cons _ _ ih => simp [ih]
theorem LettersAt.get {w : World} {h : Heap} {vs : List Value} {ls : List LetD} (x : LettersAt w h vs ls) : ∀ (i : Nat) (v : Value), vs[i]? = some v → ∃ a l, v = .ref a ∧ ls[i]? = some l ∧ LetAt w h a l := by
  induction x with
  | nil => intro i v e; simp at e
  | cons h1 _ ih =>
    intro i v e
    cases i with
    | zero => simp at e; exact ⟨_, _, e.symm, by simp, h1⟩
    | succ i => simpa using ih i v (by simpa using e)

theorem letter_line_spec' (prog : Program) (w : World) (kz : Int) (k : Nat) (tk : Tok) (a : Addr) (l : LetD) (hz : kz = k) (hk : k ≤ 10) (ok : l.Ok) :
    Spec prog w 73 [.int kz tk, .ref a] 2 60 [] (fun g => LetAt w g a l) (fun _ v own' => (∃ t, v = .str (lineS k l) t) ∧ own' = []) := by
  subst hz; exact letter_line_spec prog w k tk a l hk ok

section
variable {prog : Program} {w : World} {E : Value → Shared → Prop} {s : Shared} {h₀ base : Heap} {A₀ : Around} {L C : Addr} {m mc mg mb : Str → Option Value} {scope : Scope} {cl' cl : List (Str × Addr)}
  {p : Program} {loose : List Str} {mean : ExcName → Option Value} {t : Tok} {p1 p2 p3 p4 p5 p6 p7 p8 p9 pos : Pos} {kk : Nat} {Q : Value → Shared → Prop} {dp un : Nat} {gd : Option (List Code)} {cn : Str} {cs : Scope} {a : Addr} {ccd : Value} {outer : List Env} {env : Env}

set_option maxHeartbeats 1000000 in
theorem elt_line {i : Nat} {ax : Addr} {l : LetD} (B : Below A₀ base outer h₀) (F : Fr h₀ L s.heap m) (X : (Mine.hd.heap_1 w.params).In h₀) (T : Top p loose mean mg mb h₀) (hcs : cs.kind = .function) (hd : dp + 2 < recursionLimit) (hu : un + 60 < cLine) (hn : s.heap.Ns C mc)
    (hx : mc (Str.ofString "spot") = some (.int i t)) (hy : mc (Str.ofString "letter") = some (.ref ax)) (hl : LetAt w s.heap ax l) (hz : (i : Int) + 1 = ((i + 1 : Nat) : Int)) (hi : i + 1 ≤ 10) (ok : l.Ok)
    (hg : env.globals = mainGlobals) (hk : (compEnvC scope cl' C env).scope.kind = .function) (hks : (compEnvC scope cl' C env).kindOf "letter_line" = some .globalImplicit) (hkx : (compEnvC scope cl' C env).kindOf "spot" = some .local) (hky : (compEnvC scope cl' C env).kindOf "letter" = some .local)
    (h : ∀ t h' tk, Fr h₀ L h' m → KeepX s.heap h' [] → Q (.str (lineS (i + 1) l) t) { s with heap := h', toks := tk }) :
    wpAny (model prog w) (ktrTop dp un gd cn cs L a ccd cl outer) (eval (.Call (.Name "letter_line" p1) [.BinOp (.Name "spot" p2) .Add (.Constant (.int 1) 0 p3) p4, .Name "letter" p5] [] p6) (compEnvC scope cl' C env)) Q E s := by
  k_with_none
  (k_with "cj" => (first | exact fun h => h.1 | exact fun h => h.2.1 | exact fun h => h.2.2.1 | exact fun h => h.2.2.2.1 | exact fun h => h.2.2.2.2.1 | exact fun h => h.2.2.2.2.2.1 | exact fun h => h.2.2.2.2.2.2.1 | exact fun h => h.2.2.2.2.2.2.2.1 | exact fun h => h.2.2.2.2.2.2.2.2.1 | exact fun h => h.2.2.2.2.2.2.2.2.2.1 | exact fun h => h.2.2.2.2.2.2.2.2.2.2.1 | exact fun h => h.2.2.2.2.2.2.2.2.2.2.2.1 | exact fun h => h.2.2.2.2.2.2.2.2.2.2.2.2.1 | exact fun h => h.2.2.2.2.2.2.2.2.2.2.2.2.2.1 | exact fun h => h.2 | exact fun h => h.2.2 | exact fun h => h.2.2.2 | exact fun h => h.2.2.2.2 | exact fun h => h.2.2.2.2.2 | exact fun h => h.2.2.2.2.2.2 | exact fun h => h.2.2.2.2.2.2.2 | exact fun h => h.2.2.2.2.2.2.2.2 | exact fun h => h.2.2.2.2.2.2.2.2.2 | exact fun h => h.2.2.2.2.2.2.2.2.2.2 | exact fun h => h.2.2.2.2.2.2.2.2.2.2.2 | exact fun h => h.2.2.2.2.2.2.2.2.2.2.2.2 | exact fun h => h.2.2.2.2.2.2.2.2.2.2.2.2.2))
  (k_with "omega" => (with_reducible first | assumption | exact Nat.le_of_ble_eq_true (by decide) | exact Nat.ne_of_gt (by assumption) | exact Nat.ne_of_lt (by assumption) | exact Mine.lm1 (by assumption) (by decide) | exact Mine.lm2 (by assumption) (by decide) | exact Mine.lm3 (by assumption) (by decide) | exact Mine.lm4 (by assumption) (by decide) | exact Mine.lm5 (by assumption) (by decide) | exact Mine.lm6 (by assumption) (by decide) | exact Mine.lm7 (by assumption) (by decide) | exact Mine.lm8 (by assumption) (by decide) | exact Mine.lm9 (by assumption) (by decide) | exact Int.natCast_nonneg _ | (refine Mine.cj1 (by assumption) ?_; k_extra "cj") | (refine Mine.cj2 (by assumption) ?_; k_extra "cj") | (refine Mine.cj3 (by assumption) ?_; k_extra "cj") | (refine Mine.cj4 (by assumption) ?_; k_extra "cj") | (refine Mine.cj5 (by assumption) (by assumption) ?_; k_extra "cj") | (refine Mine.cj6 (by assumption) (by assumption) ?_; k_extra "cj") | (refine Mine.cj7 (by assumption) (by assumption) (by assumption) ?_; k_extra "cj") | (refine Mine.cj8 (by assumption) (by assumption) (by assumption) ?_; k_extra "cj") | exact Mine.cj9 (by assumption) (by assumption) | exact Mine.cj10 (by assumption) (by assumption) | (refine Mine.cl1 (by assumption) ?_; k_extra "cj") | (refine Mine.cl2 (by assumption) (by assumption) ?_; k_extra "cj") | exact Mine.ns1 (by assumption) | exact Mine.ns2 (by assumption) | exact Mine.ns3 | exact Mine.ns4 | exact Mine.lm10 (by assumption) (by decide) | exact Mine.lm11 (by assumption) (by decide) | exact Mine.lm12 (by assumption) (by assumption) (by decide) | exact Mine.lm12 (by assumption) (Nat.le_refl _) (by decide) | exact Mine.lm13 (by assumption) (by assumption) (by decide) | exact Mine.lm13 (by assumption) (Nat.le_refl _) (by decide) | fail))
  (k_with "eval Name" => ((with_reducible show wpAny _ _ (eval (Expr.Name _ _) (compEnvC _ _ _ _)) _ _ _); first
  | (refine nb_local (by assumption) (by assumption) (by assumption) (by assumption) (by decide) ?_)
  | (k_dflt (refine LCgL.ld_global (by assumption) (by assumption) (by assumption) (by k_is) ?_ (by assumption) (by assumption) (by assumption) (by decide)))))
  (k_with "call ref" => ((with_reducible show wpAny _ _ (call (Value.ref 73) [Value.int _ _, Value.ref _]) _ _ _); k_dflt (refine' Spec.use (letter_line_spec' _ _ _ _ _ _ _ (by assumption) (by assumption) (by assumption)) (by assumption) (by assumption) (by assumption) News.nil (by assumption) (by assumption) (by assumption) ?z3r19 ?z4r19 ?_); (case z3r19 => omega); (case z4r19 => omega); intro r own' h' tk' F' N' k' f' ⟨⟨t', e1⟩, e2⟩; clear N' f'; subst e1 e2))
  repeat' (first | (walk1; (try dsimp only)))
  exact h _ _ _ (by assumption) (by assumption)

def linesFrom : Nat → List LetD → List Str
  | _, [] => []
  | k, l :: r => lineS (k + 1) l :: linesFrom (k + 1) r
theorem linesFrom_length : ∀ (ls : List LetD) (k : Nat), (linesFrom k ls).length = ls.length
  | [], _ => rfl
  | _ :: r, k => by simp [linesFrom, linesFrom_length r (k + 1)]
theorem linesFrom_le : ∀ (ls : List LetD) (k : Nat), k + ls.length ≤ 10 → (∀ l ∈ ls, l.Ok) → ∀ y ∈ linesFrom k ls, y.length ≤ 300
  | [], _, _, _, _, hy => nomatch hy
  | l :: r, k, hk, ok, y, hy => by
    rw [List.length_cons] at hk
    rcases List.mem_cons.mp hy with rfl | hy
    · exact lineS_len (by omega) (ok l (List.mem_cons_self ..))
    · exact linesFrom_le r (k + 1) (by omega) (fun z hz => ok z (List.mem_cons_of_mem _ hz)) y hy
theorem linesFrom_snoc : ∀ (ls : List LetD) (k : Nat) (l : LetD), linesFrom k (ls ++ [l]) = linesFrom k ls ++ [lineS (k + ls.length + 1) l]
  | [], k, l => rfl
  | x :: r, k, l => by
    show lineS (k + 1) x :: linesFrom (k + 1) (r ++ [l]) = lineS (k + 1) x :: (linesFrom (k + 1) r ++ _)
    rw [linesFrom_snoc r (k + 1) l, List.length_cons, show k + 1 + r.length + 1 = k + (r.length + 1) + 1 by omega]

/-- `[letter_line(spot + 1, letter) for spot, letter in enumerate(..)]`, at the call of enumerate -/
theorem enum_lines {Fin : Addr → Shared → Prop} {lst : Addr} {ps : List Value} {ls : List LetD} {news : List (Addr × Obj)} (B : Below A₀ base outer h₀) (F : Fr h₀ L s.heap m) (N : News h₀ L s.heap news) (X : (Mine.hd.heap_1 w.params).In h₀) (T : Top p loose mean mg mb h₀) (hcs : cs.kind = .function) (hd : dp + 2 < recursionLimit) (hu : un + 60 < cLine)
    (hl : s.heap.IsList lst ps.toArray) (hls : LettersAt w s.heap ps ls) (hn5 : ls.length ≤ 5) (ok : ∀ l ∈ ls, l.Ok)
    (hkind : scope.kind = .function) (hxa : scope.names.lookup (Str.ofString "spot") = some .local) (hxb : scope.names.lookup (Str.ofString "letter") = some .local)
    (hg : env.globals = mainGlobals) (hk : ∀ C, (compEnvC scope cl' C env).scope.kind = .function) (hks : ∀ C, (compEnvC scope cl' C env).kindOf "letter_line" = some .globalImplicit)
    (out : TextsOut h₀ L m news (linesFrom 0 ls) Fin s) :
    wpAny (model prog w) (ktrTop dp un gd cn cs L a ccd cl outer) (call (.type "enumerate") [.ref lst]) (fun xv s₂ => wpAny (model prog w) (ktrTop dp un gd cn cs L a ccd cl outer) (pyIter xv)
      (BlockAt prog w (ktrTop dp un gd cn cs L a ccd cl outer) h₀ L m env (.Call (.Name "letter_line" p1) [.BinOp (.Name "spot" p2) .Add (.Constant (.int 1) 0 p3) p4, .Name "letter" p5] [] p6) (.Tuple [.Name (Str.ofString "spot") p7, .Name (Str.ofString "letter") p8] kk p9) [] scope cl' (fun _ => m) Fin) E s₂) E s := by
  have hlen := hls.length
  refine src_enum (R := fun i ys own₁ => own₁ = [] ∧ StrsAre ys (linesFrom 0 (ls.take i))) rfl hl (by rw [hlen, sizeLine_eq]; omega) hkind hxa hxb (by decide) F News.nil (List.forall_mem_nil _) ⟨rfl, .nil⟩ ?_ ?_
  · rintro i ys own₁ C mc s' E' hlt _ ⟨rfl, hys⟩ F' N' hn ⟨x, y, ⟨⟨t, rfl⟩, hy⟩, hma, hmb⟩ _ _ _ hk' _
    obtain ⟨ax, l, rfl, hl', hat⟩ := hls.get i y hy
    refine Turn.plain (elt_line B F' X T hcs hd hu hn hma hmb (hat.keeps fun b o e => hk' b o e (by simp)) (by push_cast; rfl) (by omega) (ok l (List.mem_of_getElem? hl')) hg (hk C) (hks C) (lookup_relabel_local hxa) (lookup_relabel_local hxb) fun t h' tk F'' k'' => ?_)
    refine TEnd.intro F'' News.nil k'' (fun p hp => nomatch hp) ⟨rfl, ?_⟩
    rw [take_snoc hl', linesFrom_snoc, List.length_take, Nat.zero_add, Nat.min_eq_left (by omega)]
    exact strsAre_snoc hys _ _
  · exact textsOut_fin N out rfl fun ys own' hr => by have := hr.2; rwa [hlen, List.take_length] at this
end
end Mine
end
-- BoxT
section
open PySem PySem.W PyProof.Rows PySem.Calls PySem.Spec
namespace Mine

structure BoxD where
  name : Str
  validity : Nat
  next : Nat
  top : Nat
  letters : List LetD
structure BoxD.Ok (b : BoxD) : Prop where
  h1 : b.name.length ≤ 20
  h2 : b.validity < 1000
  h3 : b.next < 1000
  h4 : b.top < 1000
  h5 : b.letters.length ≤ 5
  h6 : ∀ l ∈ b.letters, l.Ok
/-- the box at `a`, its letters as values `ps` in the list `lst` -/
def BoxAt (w : World) (h : Heap) (a lst : Addr) (ps : List Value) (b : BoxD) : Prop :=
  ∃ (d : Addr) (n : Nat) (t1 t2 t3 t4 t5 t6 t7 u1 u2 u3 u4 u5 : Tok) (g : Value), h.get? a = some (instObj 168 d) ∧
    h.get? d = some (dictOf [ent w "name" t1 (.str b.name u1), ent w "validity" t2 (.int b.validity u2), ent w "next_uid" t3 (.int b.next u3), ent w "top" t4 (.int b.top u4), ent w "floor" t5 (.int 0 u5), ent w "letters" t6 (.ref lst), ent w "gone" t7 g] n) ∧
    h.IsList lst ps.toArray ∧ LettersAt w h ps b.letters

def headS (b : BoxD) : Str := b.name ++ Str.ofString ": validity " ++ numS b.validity ++ Str.ofString ", next " ++ numS b.next ++ Str.ofString ", top " ++ numS b.top
def boxS (b : BoxD) : Str := Txt.join (Str.ofString "\n") (headS b :: linesFrom 0 b.letters)

theorem headS_len {b : BoxD} (o : b.Ok) : (headS b).length ≤ 300 := by
  have a1 := o.h1
  have a2 := numS_len' o.h2
  have a3 := numS_len' o.h3
  have a4 := numS_len' o.h4
  unfold headS
  simp only [Str.length_append]
  rw [show (Str.ofString ": validity ").length = 11 from by decide, show (Str.ofString ", next ").length = 7 from by decide, show (Str.ofString ", top ").length = 6 from by decide]
  omega
theorem boxS_ok {b : BoxD} (o : b.Ok) : JoinOk (Str.ofString "\n") (headS b :: linesFrom 0 b.letters) = true := by
  refine joinOk_of 300 (fun y hy => ?_) ?_
  · rcases List.mem_cons.mp hy with rfl | hy
    · exact headS_len o
    · exact linesFrom_le _ 0 (by have := o.h5; omega) o.h6 y hy
  · rw [List.length_cons, linesFrom_length, show (Str.ofString "\n").length = 1 from by decide]
    have := o.h5
    omega

section

set_option maxHeartbeats 4000000 in
theorem box_told_spec (prog : Program) (w : World) (a lst : Addr) (ps : List Value) (b : BoxD) (ok : b.Ok) :
    Spec prog w 78 [.ref a] 3 100 [] (fun g => BoxAt w g a lst ps b) (fun _ v own' => (∃ t, v = .str (boxS b) t) ∧ own' = []) := by
  k_with_none
  (k_with "cj" => (first | exact fun h => h.1 | exact fun h => h.2.1 | exact fun h => h.2.2.1 | exact fun h => h.2.2.2.1 | exact fun h => h.2.2.2.2.1 | exact fun h => h.2.2.2.2.2.1 | exact fun h => h.2.2.2.2.2.2.1 | exact fun h => h.2.2.2.2.2.2.2.1 | exact fun h => h.2.2.2.2.2.2.2.2.1 | exact fun h => h.2.2.2.2.2.2.2.2.2.1 | exact fun h => h.2.2.2.2.2.2.2.2.2.2.1 | exact fun h => h.2.2.2.2.2.2.2.2.2.2.2.1 | exact fun h => h.2.2.2.2.2.2.2.2.2.2.2.2.1 | exact fun h => h.2.2.2.2.2.2.2.2.2.2.2.2.2.1 | exact fun h => h.2 | exact fun h => h.2.2 | exact fun h => h.2.2.2 | exact fun h => h.2.2.2.2 | exact fun h => h.2.2.2.2.2 | exact fun h => h.2.2.2.2.2.2 | exact fun h => h.2.2.2.2.2.2.2 | exact fun h => h.2.2.2.2.2.2.2.2 | exact fun h => h.2.2.2.2.2.2.2.2.2 | exact fun h => h.2.2.2.2.2.2.2.2.2.2 | exact fun h => h.2.2.2.2.2.2.2.2.2.2.2 | exact fun h => h.2.2.2.2.2.2.2.2.2.2.2.2 | exact fun h => h.2.2.2.2.2.2.2.2.2.2.2.2.2))
  (k_with "omega" => (with_reducible first | assumption | exact Nat.le_of_ble_eq_true (by decide) | exact Nat.ne_of_gt (by assumption) | exact Nat.ne_of_lt (by assumption) | exact Mine.lm1 (by assumption) (by decide) | exact Mine.lm2 (by assumption) (by decide) | exact Mine.lm3 (by assumption) (by decide) | exact Mine.lm4 (by assumption) (by decide) | exact Mine.lm5 (by assumption) (by decide) | exact Mine.lm6 (by assumption) (by decide) | exact Mine.lm7 (by assumption) (by decide) | exact Mine.lm8 (by assumption) (by decide) | exact Mine.lm9 (by assumption) (by decide) | exact Int.natCast_nonneg _ | (refine Mine.cj1 (by assumption) ?_; k_extra "cj") | (refine Mine.cj2 (by assumption) ?_; k_extra "cj") | (refine Mine.cj3 (by assumption) ?_; k_extra "cj") | (refine Mine.cj4 (by assumption) ?_; k_extra "cj") | (refine Mine.cj5 (by assumption) (by assumption) ?_; k_extra "cj") | (refine Mine.cj6 (by assumption) (by assumption) ?_; k_extra "cj") | (refine Mine.cj7 (by assumption) (by assumption) (by assumption) ?_; k_extra "cj") | (refine Mine.cj8 (by assumption) (by assumption) (by assumption) ?_; k_extra "cj") | exact Mine.cj9 (by assumption) (by assumption) | exact Mine.cj10 (by assumption) (by assumption) | (refine Mine.cl1 (by assumption) ?_; k_extra "cj") | (refine Mine.cl2 (by assumption) (by assumption) ?_; k_extra "cj") | exact Mine.ns1 (by assumption) | exact Mine.ns2 (by assumption) | exact Mine.ns3 | exact Mine.ns4 | exact Mine.lm10 (by assumption) (by decide) | exact Mine.lm11 (by assumption) (by decide) | exact Mine.lm12 (by assumption) (by assumption) (by decide) | exact Mine.lm12 (by assumption) (Nat.le_refl _) (by decide) | exact Mine.lm13 (by assumption) (by assumption) (by decide) | exact Mine.lm13 (by assumption) (Nat.le_refl _) (by decide) | fail))
  (k_with "k_inst" => exact instAt_base (by assumption) (by assumption) (by assumption))
  (k_with "eval ListComp" => (k_here; k_dflt (refine comp_evalF (by assumption) (by with_unfolding_all rfl) (by decide) (by rfl) (by decide) ?_)))
  (k_with "call type:enumerate" => (k_here; k_dflt (refine' enum_lines (by assumption) (by assumption) (by assumption) (by assumption) (by assumption) (by rfl) ?z1r22 ?z2r22 (by is_list) ?z3r22 (by assumption) (by assumption) (by rfl) (by rfl) (by rfl) (by rfl) (fun _ => by rfl) (fun _ => by rfl) ?_); (case z1r22 => omega); (case z2r22 => omega); (case z3r22 => exact LettersAt.keeps (by assumption) (Fr.keep (by assumption))); intro D' h' tk' ys' F' N' ne' hk' hys'; clear hk'; (have hyl' := StrsAre.length hys'); (rw [linesFrom_length] at hyl'); (try dsimp only); (try k_sweep)))
  (k_with "binaryOp Add ref ref" => (k_here; (with_reducible show wpAny _ _ (binaryOp _ (Value.ref _) (Value.ref _)) _ _ _); k_dflt (refine list_cat (by assumption) (by assumption) (by is_list) (by is_list) ?z1r23 ?_); (case z1r23 => (simp only [List.size_toArray, List.length_cons, List.length_nil]; rw [sizeLine_eq]; omega)); intro D' h' F' N' l1; (simp only [List.cons_append, List.nil_append] at N'); (try k_lt l1); (try k_sweep)))
  (k_with "call builtin:str.join" => (k_here; refine join_strs (xs := _ :: _) (by is_list) (StrsAre.cons _ _ (by assumption)) ?z1r24 ?_; (case z1r24 => assumption); intro t' k'))
  refine spec_of [("box", .ref a)] (by k_is) (by k_is) (fun s _ => BindsTo.of_eq rfl) (locs rfl) ?_ (by decide)
  rintro p loose mean mg mb dp un gd outer A₀ base g L' s B' F' N' X' T' ⟨d, n, t1, t2, t3, t4, t5, t6, t7, u1, u2, u3, u4, u5, gv, ha, hd, hl, hls⟩ hdp hun hlt
  k_fold
  have h1 := ok.h1
  have h2 := ok.h2
  have h3 := ok.h3
  have h4 := ok.h4
  have h5 := ok.h5
  have h6 := ok.h6
  have hlen := hls.length
  have hj := boxS_ok ok
  unfold headS at hj
  k_steps
  exact Fin.intro (by assumption) News.nil ⟨⟨_, rfl⟩, rfl⟩
end
end Mine
end
-- Place
section
open PySem PySem.W PyProof.Rows PySem.Calls PySem.Spec
namespace Mine

theorem item_at {prog w A E s} {value slice : PySem.Expr} {l : Addr} {vs : List Value} {k : Int} {u : Tok} {v : Value} {Q : Value → Shared → Prop}
    (hl : s.heap.IsList l vs.toArray) (h0 : 0 ≤ k) (hhi : k < 2 ^ 63) (hx : vs[k.toNat]? = some v) (h : Q v s)
    (hs : subscripted slice false (.ref l) (.int k u) = operate [.ref l, .int k u] (getItem (.ref l) (.int k u)) := by with_unfolding_all rfl) :
    wpAny (model prog w) A (subscriptTail value slice (.ref l) (.int k u)) Q E s :=
  tail_any hl.typeIs slot_list_getitem.lookup (wpAny_getItem_list hl h0 hhi (by simpa using hx) h) hs

theorem half_rule {prog : Program} {w : World} {A : Around} {E : Value → Shared → Prop} {s : Shared} {a : Int} {t u : Tok} {Q : Value → Shared → Prop} (h : ∀ q : Int, 2 * q ≤ a → a < 2 * q + 2 → Q (.int q s.toks) { s with toks := s.toks + 1 }) :
    wpAny (model prog w) A (binaryOp .FloorDiv (.int a t) (.int 2 u)) Q E s := by
  refine floordiv_int (by decide) (h _ ?_ ?_) <;> rw [Int.fdiv_eq_ediv_of_nonneg _ (by decide)] <;> omega

theorem item_letter {prog : Program} {w : World} {A : Around} {E : Value → Shared → Prop} {s : Shared} {g : Heap} {value slice : PySem.Expr} {lst : Addr} {ps : List Value} {ls : List LetD} {k : Int} {u : Tok} {Q : Value → Shared → Prop}
    (hl : s.heap.IsList lst ps.toArray) (hls : LettersAt w g ps ls) (hn : ls.length ≤ 5) (h0 : 0 ≤ k) (h1 : k < ls.length)
    (h : ∀ (ax : Addr) (l : LetD) (d fa : Addr) (fvs : List Value) (n : Nat) (b : Array UInt8) (t1 t2 t3 t4 t5 u1 u2 u4 u5 : Tok), ls[k.toNat]? = some l → g.get? ax = some (instObj 128 d) →
      g.get? d = some (dictOf [ent w "uid" t1 (.int l.uid u1), ent w "octets" t2 (.bytes b u2), ent w "flags" t3 (.ref fa), ent w "instant" t4 (.int 0 u4), ent w "modseq" t5 (.int l.modseq u5)] n) → Q (.ref ax) s)
    (hs : subscripted slice false (.ref lst) (.int k u) = operate [.ref lst, .int k u] (getItem (.ref lst) (.int k u)) := by with_unfolding_all rfl) :
    wpAny (model prog w) A (subscriptTail value slice (.ref lst) (.int k u)) Q E s := by
  have hk : k.toNat < ps.length := by rw [hls.length]; omega
  obtain ⟨ax, l, e, hl', d, fa, fvs, n, b, t1, t2, t3, t4, t5, u1, u2, u4, u5, ha, hd, _⟩ := hls.get k.toNat ps[k.toNat] (List.getElem?_eq_getElem hk)
  exact item_at hl h0 (by omega) (by rw [List.getElem?_eq_getElem hk, e]) (h ax l d fa fvs n b t1 t2 t3 t4 t5 u1 u2 u4 u5 hl' ha hd) hs

/-- the uids rise -/
def Rising (ls : List LetD) : Prop := ∀ (i j : Nat) (a b : LetD), i < j → ls[i]? = some a → ls[j]? = some b → a.uid < b.uid

/-- between two turns of the search -/
def PlaceJ (ls : List LetD) (u : Int) (m₀ : Str → Option Value) (news₀ : List (Addr × Obj)) (n : Nat) (m₁ : Str → Option Value) (news₁ : List (Addr × Obj)) : Prop :=
  ∃ (lo hi : Nat) (tl th : Tok), m₁ (Str.ofString "low") = some (.int lo tl) ∧ m₁ (Str.ofString "high") = some (.int hi th) ∧ (∀ z, z ≠ Str.ofString "low" → z ≠ Str.ofString "high" → z ≠ Str.ofString "middle" → m₁ z = m₀ z) ∧ news₁ = news₀ ∧ lo ≤ hi ∧ hi ≤ ls.length ∧ n = hi - lo ∧
    (∀ j l, j < lo → ls[j]? = some l → (l.uid : Int) < u) ∧ (∀ j l, hi ≤ j → ls[j]? = some l → u ≤ (l.uid : Int))

theorem PlaceJ.frame {m₀ m₁ : Str → Option Value} {lo hi : Nat} {tl th : Tok} (h1 : m₁ (Str.ofString "low") = some (.int lo tl)) (h2 : m₁ (Str.ofString "high") = some (.int hi th)) (h3 : ∀ z, z ≠ Str.ofString "low" → z ≠ Str.ofString "high" → z ≠ Str.ofString "middle" → m₁ z = m₀ z) :
    m₁ = fun y => if y = Str.ofString "low" then some (.int lo tl) else if y = Str.ofString "high" then some (.int hi th) else if y = Str.ofString "middle" then m₁ (Str.ofString "middle") else m₀ y := by
  funext y
  by_cases a : y = Str.ofString "low"
  · rw [if_pos a, a]; exact h1
  · rw [if_neg a]
    by_cases b : y = Str.ofString "high"
    · rw [if_pos b, b]; exact h2
    · rw [if_neg b]
      by_cases c : y = Str.ofString "middle"
      · rw [if_pos c, c]
      · rw [if_neg c]; exact h3 y a b c

theorem below_next {ls : List LetD} {u q : Int} {l : LetD} (hr : Rising ls) (h0 : 0 ≤ q) (hl : ls[q.toNat]? = some l) (h : (l.uid : Int) < u) : ∀ (j : Nat) (x : LetD), j < (q + 1).toNat → ls[j]? = some x → (x.uid : Int) < u := by
  intro j x hj e
  by_cases hq : j = q.toNat
  · rw [hq, hl] at e; cases e; exact h
  · have := hr j q.toNat x l (by omega) e hl
    omega
theorem above_from {ls : List LetD} {u q : Int} {l : LetD} (hr : Rising ls) (hl : ls[q.toNat]? = some l) (h : ¬ (l.uid : Int) < u) : ∀ (j : Nat) (x : LetD), q.toNat ≤ j → ls[j]? = some x → u ≤ (x.uid : Int) := by
  intro j x hj e
  by_cases hq : j = q.toNat
  · rw [hq, hl] at e; cases e; omega
  · have := hr q.toNat j l x (by omega) hl e
    omega
theorem not_there {ls : List LetD} {u : Int} {lo : Nat} (i4 : ∀ (j : Nat) (l : LetD), j < lo → ls[j]? = some l → (l.uid : Int) < u) (h : ∀ (j : Nat) (l : LetD), lo ≤ j → ls[j]? = some l → u < (l.uid : Int)) : ∀ l ∈ ls, (l.uid : Int) ≠ u := by
  intro l hl
  obtain ⟨j, e⟩ := List.mem_iff_getElem?.mp hl
  by_cases hj : j < lo
  · have := i4 j l hj e; omega
  · have := h j l (by omega) e; omega
theorem not_there1 {ls : List LetD} {u : Int} {lo hi : Nat} {l : LetD} (hr : Rising ls) (i4 : ∀ (j : Nat) (l : LetD), j < lo → ls[j]? = some l → (l.uid : Int) < u) (i5 : ∀ (j : Nat) (l : LetD), hi ≤ j → ls[j]? = some l → u ≤ (l.uid : Int)) (h : ¬ (lo : Int) < hi) (i1 : lo ≤ hi)
    (hl : ls[((lo : Nat) : Int).toNat]? = some l) (hne : (l.uid : Int) ≠ u) : ∀ l ∈ ls, (l.uid : Int) ≠ u := by
  have e0 : ((lo : Nat) : Int).toNat = lo := by omega
  rw [e0] at hl
  refine not_there i4 fun j x hj e => ?_
  have h1 := i5 j x (by omega) e
  have h2 := i5 lo l (by omega) hl
  by_cases hq : j = lo
  · rw [hq, hl] at e; cases e; omega
  · have := hr lo j l x (by omega) hl e
    omega
theorem not_there2 {ls : List LetD} {u : Int} {lo : Nat} {N : Nat} (i4 : ∀ (j : Nat) (l : LetD), j < lo → ls[j]? = some l → (l.uid : Int) < u) (hN : N = ls.length) (h : ¬ (lo : Int) < (N : Int)) : ∀ l ∈ ls, (l.uid : Int) ≠ u :=
  not_there i4 fun j x hj e => by rw [List.getElem?_eq_none (by omega)] at e; cases e

def PlaceStep (h₀ : Heap) (L : Addr) (s : Shared) (ls : List LetD) (u : Int) (m₀ : Str → Option Value) (news₀ : List (Addr × Obj)) (Q : Flow → Shared → Prop) (n : Nat) (f : Flow) (s₃ : Shared) : Prop := WhileStep2 h₀ L s (PlaceJ ls u m₀ news₀) Q n f s₃

theorem PlaceStep.intro {h₀ h' : Heap} {L : Addr} {s : Shared} {ls : List LetD} {u : Int} {m₀ m₂ : Str → Option Value} {news₀ : List (Addr × Obj)} {Q : Flow → Shared → Prop} {n tk : Nat} {lo' hi' : Nat} {a b : Int} {tl th : Tok} (F : Fr h₀ L h' m₂) (N : News h₀ L h' news₀)
    (h1 : m₂ (Str.ofString "low") = some (.int a tl)) (h2 : m₂ (Str.ofString "high") = some (.int b th)) (ha : a = lo') (hb : b = hi') (h3 : ∀ z, z ≠ Str.ofString "low" → z ≠ Str.ofString "high" → z ≠ Str.ofString "middle" → m₂ z = m₀ z) (i1 : lo' ≤ hi') (i2 : hi' ≤ ls.length) (i3 : hi' - lo' < n)
    (i4 : ∀ j l, j < lo' → ls[j]? = some l → (l.uid : Int) < u) (i5 : ∀ j l, hi' ≤ j → ls[j]? = some l → u ≤ (l.uid : Int)) : PlaceStep h₀ L s ls u m₀ news₀ Q n .next { s with heap := h', toks := tk } :=
  ⟨h', tk, m₂, news₀, hi' - lo', rfl, F, N, i3, lo', hi', tl, th, ha ▸ h1, hb ▸ h2, h3, rfl, i1, i2, rfl, i4, i5⟩

theorem PlaceStep.toLow {h₀ h' : Heap} {L : Addr} {s : Shared} {ls : List LetD} {u q : Int} {lo hi : Nat} {l : LetD} {m₀ m₂ : Str → Option Value} {news₀ : List (Addr × Obj)} {Q : Flow → Shared → Prop} {tk : Nat} {tl th : Tok} (F : Fr h₀ L h' m₂) (N : News h₀ L h' news₀)
    (h1 : m₂ (Str.ofString "low") = some (.int (q + 1) tl)) (h2 : m₂ (Str.ofString "high") = some (.int (hi : Int) th)) (h3 : ∀ z, z ≠ Str.ofString "low" → z ≠ Str.ofString "high" → z ≠ Str.ofString "middle" → m₂ z = m₀ z)
    (c1 : 2 * q ≤ (lo : Int) + hi) (c2 : (lo : Int) + hi < 2 * q + 2) (c3 : (lo : Int) < hi) (i2 : hi ≤ ls.length) (hr : Rising ls) (hl : ls[q.toNat]? = some l) (hlt : (l.uid : Int) < u) (i5 : ∀ (j : Nat) (l : LetD), hi ≤ j → ls[j]? = some l → u ≤ (l.uid : Int)) :
    PlaceStep h₀ L s ls u m₀ news₀ Q (hi - lo) .next { s with heap := h', toks := tk } :=
  PlaceStep.intro (lo' := (q + 1).toNat) F N h1 h2 (by omega) rfl h3 (by omega) i2 (by omega) (below_next hr (by omega) hl hlt) i5
theorem PlaceStep.toHigh {h₀ h' : Heap} {L : Addr} {s : Shared} {ls : List LetD} {u q : Int} {lo hi : Nat} {l : LetD} {m₀ m₂ : Str → Option Value} {news₀ : List (Addr × Obj)} {Q : Flow → Shared → Prop} {tk : Nat} {tl th : Tok} (F : Fr h₀ L h' m₂) (N : News h₀ L h' news₀)
    (h1 : m₂ (Str.ofString "low") = some (.int (lo : Int) tl)) (h2 : m₂ (Str.ofString "high") = some (.int q th)) (h3 : ∀ z, z ≠ Str.ofString "low" → z ≠ Str.ofString "high" → z ≠ Str.ofString "middle" → m₂ z = m₀ z)
    (c1 : 2 * q ≤ (lo : Int) + hi) (c2 : (lo : Int) + hi < 2 * q + 2) (c3 : (lo : Int) < hi) (i2 : hi ≤ ls.length) (hr : Rising ls) (hl : ls[q.toNat]? = some l) (hlt : ¬ (l.uid : Int) < u) (i4 : ∀ (j : Nat) (l : LetD), j < lo → ls[j]? = some l → (l.uid : Int) < u) :
    PlaceStep h₀ L s ls u m₀ news₀ Q (hi - lo) .next { s with heap := h', toks := tk } :=
  PlaceStep.intro (hi' := q.toNat) F N h1 h2 rfl (by omega) h3 (by omega) (by omega) (by omega) i4 (above_from hr hl hlt)
theorem item_cast {ls : List LetD} {lo : Nat} {l : LetD} (h : ls[((lo : Nat) : Int).toNat]? = some l) : ls[lo]? = some l := by
  rw [show ((lo : Nat) : Int).toNat = lo by omega] at h; exact h

theorem place_while {prog : Program} {w : World} {A : Around} {E : Value → Shared → Prop} {Q : Flow → Shared → Prop} {s : Shared} {env : Env} {h₀ : Heap} {L : Addr} {m : Str → Option Value} {news : List (Addr × Obj)} {ls : List LetD} {u : Int} {test : PySem.Expr} {body : List Stmt} {pos : Pos} {n : Nat} {t1 t2 tu : Tok}
    (F : Fr h₀ L s.heap m) (N : News h₀ L s.heap news) (hlow : m (Str.ofString "low") = some (.int 0 t1)) (hhigh : m (Str.ofString "high") = some (.int (n : Int) t2)) (hu : m (Str.ofString "uid") = some (.int u tu)) (hn : n = ls.length)
    (turn : ∀ (lo hi : Nat) (tl th : Tok) (um : Option Value) (h₁ : Heap) (tk₁ : Nat), Fr h₀ L h₁ (fun y => if y = Str.ofString "low" then some (.int lo tl) else if y = Str.ofString "high" then some (.int hi th) else if y = Str.ofString "middle" then um else m y) → News h₀ L h₁ news → lo ≤ hi → hi ≤ ls.length →
      (∀ j l, j < lo → ls[j]? = some l → (l.uid : Int) < u) → (∀ j l, hi ≤ j → ls[j]? = some l → u ≤ (l.uid : Int)) →
      wpAny (model prog w) A (isTrue test env (eval test env)) (fun b s₂ => if b = true then wpAny (model prog w) A (execs body env) (PlaceStep h₀ L s ls u m news Q (hi - lo)) E s₂ else Q .next s₂) E { s with heap := h₁, toks := tk₁ })
    (hE : PassesOwn (model prog w) A env E) : wpAny (model prog w) A (exec (.While test body [] pos) env) Q E s := by
  refine While_inv2 (PlaceJ ls u m news) (n₀ := n) F N ⟨0, n, t1, t2, hlow, hhigh, fun _ _ _ _ => rfl, rfl, Nat.zero_le _, Nat.le_of_eq hn, rfl, fun j l hj => absurd hj (Nat.not_lt_zero _), fun j l hj e => ?_⟩ ?_ hE
  · rw [List.getElem?_eq_none (by omega)] at e; cases e
  · rintro k m₁ news₁ h₁ tk₁ F₁ N₁ ⟨lo, hi, tl, th, e1, e2, e3, rfl, i1, i2, rfl, i4, i5⟩
    rw [PlaceJ.frame e1 e2 e3] at F₁
    exact turn lo hi tl th (m₁ (Str.ofString "middle")) h₁ tk₁ F₁ N₁ i1 i2 i4 i5

section
set_option maxHeartbeats 4000000 in
theorem place_of_spec (prog : Program) (w : World) (lst : Addr) (ps : List Value) (ls : List LetD) (u : Int) (tu : Tok) (hn : ls.length ≤ 5) (hr : Rising ls) :
    Spec prog w 179 [.ref lst, .int u tu] 2 60 [] (fun g => g.IsList lst ps.toArray ∧ LettersAt w g ps ls) (fun _ v own' => (∃ r t, v = .int r t ∧ ((r = -1 ∧ ∀ l ∈ ls, (l.uid : Int) ≠ u) ∨ ∃ (i : Nat) (l : LetD), r = i ∧ ls[i]? = some l ∧ (l.uid : Int) = u)) ∧ own' = []) := by
  k_with_none
  (k_with "cj" => (first | exact fun h => h.1 | exact fun h => h.2.1 | exact fun h => h.2.2.1 | exact fun h => h.2.2.2.1 | exact fun h => h.2.2.2.2.1 | exact fun h => h.2.2.2.2.2.1 | exact fun h => h.2.2.2.2.2.2.1 | exact fun h => h.2.2.2.2.2.2.2.1 | exact fun h => h.2.2.2.2.2.2.2.2.1 | exact fun h => h.2.2.2.2.2.2.2.2.2.1 | exact fun h => h.2.2.2.2.2.2.2.2.2.2.1 | exact fun h => h.2.2.2.2.2.2.2.2.2.2.2.1 | exact fun h => h.2.2.2.2.2.2.2.2.2.2.2.2.1 | exact fun h => h.2.2.2.2.2.2.2.2.2.2.2.2.2.1 | exact fun h => h.2 | exact fun h => h.2.2 | exact fun h => h.2.2.2 | exact fun h => h.2.2.2.2 | exact fun h => h.2.2.2.2.2 | exact fun h => h.2.2.2.2.2.2 | exact fun h => h.2.2.2.2.2.2.2 | exact fun h => h.2.2.2.2.2.2.2.2 | exact fun h => h.2.2.2.2.2.2.2.2.2 | exact fun h => h.2.2.2.2.2.2.2.2.2.2 | exact fun h => h.2.2.2.2.2.2.2.2.2.2.2 | exact fun h => h.2.2.2.2.2.2.2.2.2.2.2.2 | exact fun h => h.2.2.2.2.2.2.2.2.2.2.2.2.2))
  (k_with "omega" => (with_reducible first | assumption | exact Nat.le_of_ble_eq_true (by decide) | exact Nat.ne_of_gt (by assumption) | exact Nat.ne_of_lt (by assumption) | exact Mine.lm1 (by assumption) (by decide) | exact Mine.lm2 (by assumption) (by decide) | exact Mine.lm3 (by assumption) (by decide) | exact Mine.lm4 (by assumption) (by decide) | exact Mine.lm5 (by assumption) (by decide) | exact Mine.lm6 (by assumption) (by decide) | exact Mine.lm7 (by assumption) (by decide) | exact Mine.lm8 (by assumption) (by decide) | exact Mine.lm9 (by assumption) (by decide) | exact Int.natCast_nonneg _ | (refine Mine.cj1 (by assumption) ?_; k_extra "cj") | (refine Mine.cj2 (by assumption) ?_; k_extra "cj") | (refine Mine.cj3 (by assumption) ?_; k_extra "cj") | (refine Mine.cj4 (by assumption) ?_; k_extra "cj") | (refine Mine.cj5 (by assumption) (by assumption) ?_; k_extra "cj") | (refine Mine.cj6 (by assumption) (by assumption) ?_; k_extra "cj") | (refine Mine.cj7 (by assumption) (by assumption) (by assumption) ?_; k_extra "cj") | (refine Mine.cj8 (by assumption) (by assumption) (by assumption) ?_; k_extra "cj") | exact Mine.cj9 (by assumption) (by assumption) | exact Mine.cj10 (by assumption) (by assumption) | (refine Mine.cl1 (by assumption) ?_; k_extra "cj") | (refine Mine.cl2 (by assumption) (by assumption) ?_; k_extra "cj") | exact Mine.ns1 (by assumption) | exact Mine.ns2 (by assumption) | exact Mine.ns3 | exact Mine.ns4 | exact Mine.lm10 (by assumption) (by decide) | exact Mine.lm11 (by assumption) (by decide) | exact Mine.lm12 (by assumption) (by assumption) (by decide) | exact Mine.lm12 (by assumption) (Nat.le_refl _) (by decide) | exact Mine.lm13 (by assumption) (by assumption) (by decide) | exact Mine.lm13 (by assumption) (Nat.le_refl _) (by decide) | fail))
  (k_with "k_inst" => exact instAt_base (by assumption) (by assumption) (by assumption))
  (k_with "subscriptTail Name Name ref int" => (k_here; (with_unfolding_all refine' item_letter ?k1r26 ?k2r26 ?k3r26 ?k4r26 ?k5r26 ?_ ?k6r26; (case k1r26 => is_list); (case k2r26 => assumption); (case k3r26 => assumption); (case k4r26 => omega); (case k5r26 => omega); (case k6r26 => with_unfolding_all rfl); k_whole); intro ax' l' d' fa' fvs' n' b' _ _ _ _ _ _ _ _ _ hl' ha' hd'))
  (k_with "binaryOp FloorDiv int int" => (k_here; refine half_rule ?_; intro q' hq1' hq2'))
  (k_with "exec While Compare cons nil" => (k_here; k_dflt (refine' place_while (by assumption) (by assumption) (by rfl) (by rfl) (by rfl) ?z1r28 ?_ ?z2r28); (case z1r28 => assumption); (case z2r28 => (with_unfolding_all exact PassesOwn.never)); intro lo hi tl th um h₁ tk₁ F' N' i1 i2 i4 i5))
  (k_with "PlaceStep" => first
  | (refine PlaceStep.toLow (by assumption) (by assumption) (by rfl) (by rfl) ?z1r29 (by assumption) (by assumption) (by assumption) (by assumption) (by assumption) (by assumption) (by assumption) (by assumption); (case z1r29 => intro z' a' b' c'; simp [a', b', c']))
  | (refine PlaceStep.toHigh (by assumption) (by assumption) (by rfl) (by rfl) ?z1r29 (by assumption) (by assumption) (by assumption) (by assumption) (by assumption) (by assumption) (by assumption) (by assumption); (case z1r29 => intro z' a' b' c'; simp [a', b', c'])))
  (k_with "Fin" => first
  | exact Fin.intro (by assumption) News.nil ⟨⟨_, _, rfl, .inr ⟨_, _, rfl, item_cast (by assumption), by assumption⟩⟩, rfl⟩
  | exact Fin.intro (by assumption) News.nil ⟨⟨_, _, rfl, .inl ⟨rfl, not_there1 (by assumption) (by assumption) (by assumption) (by assumption) (by assumption) (by assumption) (by assumption)⟩⟩, rfl⟩
  | exact Fin.intro (by assumption) News.nil ⟨⟨_, _, rfl, .inl ⟨rfl, not_there2 (by assumption) (by assumption) (by assumption)⟩⟩, rfl⟩)
  refine spec_of [("letters", .ref lst), ("uid", .int u tu)] (by k_is) (by k_is) (fun s _ => BindsTo.of_eq rfl) (locs rfl) ?_ (by decide)
  rintro p loose mean mg mb dp un gd outer A₀ base g L' s B' F' N' X' T' ⟨hl, hls⟩ hdp hun hlt
  k_fold
  have hlen := hls.length
  have hsz : ps.toArray.size = ls.length := by simp [hlen]
  k_steps
end
end Mine
end
-- Whole
section
open PySem PySem.W PyProof.Rows PySem.Calls PySem.Spec
namespace Mine

theorem numS_digits {n : Nat} : ∀ (i c : Nat), (numS n).cps[i]? = some c → 48 ≤ c ∧ c ≤ 57 := by
  intro i c h
  have hm : c ∈ (numS n).cps.toList := by rw [Array.mem_toList_iff]; exact Array.mem_of_getElem? h
  rw [PySem.W.KIN.signs_num] at hm
  obtain ⟨ch, hch, e⟩ := List.mem_map.mp hm
  have r := digit_range (Nat.isDigit_of_mem_toDigits (by decide) (by decide) hch)
  rw [← e]; exact r

section
variable {prog : Program} {w : World} {A : Around} {E : Value → Shared → Prop} {s : Shared} {h₀ : Heap} {L C : Addr} {m mc mg mb : Str → Option Value} {scope : Scope} {cl' : List (Str × Addr)}
  {p : Program} {loose : List Str} {mean : ExcName → Option Value} {t : Tok} {p1 p2 p3 : Pos} {Q : Bool → Shared → Prop} {env : Env}
set_option maxHeartbeats 1000000 in
/-- `sign not in '0123456789'`, upon a figure -/
theorem test_sign {c : Nat} (F : Fr h₀ L s.heap m) (hn : s.heap.Ns C mc) (hx : mc (Str.ofString "sign") = some (.str ⟨#[c]⟩ t)) (h0 : 48 ≤ c) (h1 : c ≤ 57)
    (hk : (compEnvC scope cl' C env).scope.kind = .function) (hkx : (compEnvC scope cl' C env).kindOf "sign" = some .local)
    (h : ∀ tk, Q false { s with toks := tk }) :
    wpAny (model prog w) A (isTrue (.Compare (.Name "sign" p1) [.NotIn] [.Constant (.str "0123456789") 0 p2] p3) (compEnvC scope cl' C env) (eval (.Compare (.Name "sign" p1) [.NotIn] [.Constant (.str "0123456789") 0 p2] p3) (compEnvC scope cl' C env))) Q E s := by
  k_with_none
  (k_with "cj" => (first | exact fun h => h.1 | exact fun h => h.2.1 | exact fun h => h.2.2.1 | exact fun h => h.2.2.2.1 | exact fun h => h.2.2.2.2.1 | exact fun h => h.2.2.2.2.2.1 | exact fun h => h.2.2.2.2.2.2.1 | exact fun h => h.2.2.2.2.2.2.2.1 | exact fun h => h.2.2.2.2.2.2.2.2.1 | exact fun h => h.2.2.2.2.2.2.2.2.2.1 | exact fun h => h.2.2.2.2.2.2.2.2.2.2.1 | exact fun h => h.2.2.2.2.2.2.2.2.2.2.2.1 | exact fun h => h.2.2.2.2.2.2.2.2.2.2.2.2.1 | exact fun h => h.2.2.2.2.2.2.2.2.2.2.2.2.2.1 | exact fun h => h.2 | exact fun h => h.2.2 | exact fun h => h.2.2.2 | exact fun h => h.2.2.2.2 | exact fun h => h.2.2.2.2.2 | exact fun h => h.2.2.2.2.2.2 | exact fun h => h.2.2.2.2.2.2.2 | exact fun h => h.2.2.2.2.2.2.2.2 | exact fun h => h.2.2.2.2.2.2.2.2.2 | exact fun h => h.2.2.2.2.2.2.2.2.2.2 | exact fun h => h.2.2.2.2.2.2.2.2.2.2.2 | exact fun h => h.2.2.2.2.2.2.2.2.2.2.2.2 | exact fun h => h.2.2.2.2.2.2.2.2.2.2.2.2.2))
  (k_with "omega" => (with_reducible first | assumption | exact Nat.le_of_ble_eq_true (by decide) | exact Nat.ne_of_gt (by assumption) | exact Nat.ne_of_lt (by assumption) | exact Mine.lm1 (by assumption) (by decide) | exact Mine.lm2 (by assumption) (by decide) | exact Mine.lm3 (by assumption) (by decide) | exact Mine.lm4 (by assumption) (by decide) | exact Mine.lm5 (by assumption) (by decide) | exact Mine.lm6 (by assumption) (by decide) | exact Mine.lm7 (by assumption) (by decide) | exact Mine.lm8 (by assumption) (by decide) | exact Mine.lm9 (by assumption) (by decide) | exact Int.natCast_nonneg _ | (refine Mine.cj1 (by assumption) ?_; k_extra "cj") | (refine Mine.cj2 (by assumption) ?_; k_extra "cj") | (refine Mine.cj3 (by assumption) ?_; k_extra "cj") | (refine Mine.cj4 (by assumption) ?_; k_extra "cj") | (refine Mine.cj5 (by assumption) (by assumption) ?_; k_extra "cj") | (refine Mine.cj6 (by assumption) (by assumption) ?_; k_extra "cj") | (refine Mine.cj7 (by assumption) (by assumption) (by assumption) ?_; k_extra "cj") | (refine Mine.cj8 (by assumption) (by assumption) (by assumption) ?_; k_extra "cj") | exact Mine.cj9 (by assumption) (by assumption) | exact Mine.cj10 (by assumption) (by assumption) | (refine Mine.cl1 (by assumption) ?_; k_extra "cj") | (refine Mine.cl2 (by assumption) (by assumption) ?_; k_extra "cj") | exact Mine.ns1 (by assumption) | exact Mine.ns2 (by assumption) | exact Mine.ns3 | exact Mine.ns4 | exact Mine.lm10 (by assumption) (by decide) | exact Mine.lm11 (by assumption) (by decide) | exact Mine.lm12 (by assumption) (by assumption) (by decide) | exact Mine.lm12 (by assumption) (Nat.le_refl _) (by decide) | exact Mine.lm13 (by assumption) (by assumption) (by decide) | exact Mine.lm13 (by assumption) (Nat.le_refl _) (by decide) | fail))
  (k_with "eval Name" => ((with_reducible show wpAny _ _ (eval (Expr.Name _ _) (compEnvC _ _ _ _)) _ _ _); first
  | (refine nb_local (by assumption) (by assumption) (by assumption) (by assumption) (by decide) ?_)))
  have hc : c = 48 ∨ c = 49 ∨ c = 50 ∨ c = 51 ∨ c = 52 ∨ c = 53 ∨ c = 54 ∨ c = 55 ∨ c = 56 ∨ c = 57 := by omega
  have e : (!!(Builtin.Str.occurrences (Str.ofString "0123456789") ⟨#[c]⟩ 0 (Str.ofString "0123456789").length 1).isEmpty) = false := by
    rcases hc with rfl | rfl | rfl | rfl | rfl | rfl | rfl | rfl | rfl | rfl <;> decide +kernel
  repeat' (first | (walk1; (try dsimp only)))
  rw [e]
  exact h _
end

/-- the source of `[sign for sign in .. if sign not in '0123456789']`: a number's text -/
def SignSrc (h₀ : Heap) (L : Addr) (m : Str → Option Value) (Q : Value → Shared → Prop) (xv : Value) (s₁ : Shared) : Prop :=
  ∃ (n : Nat) (t : Tok) (news : List (Addr × Obj)), xv = .str (numS n) t ∧ n < 1000 ∧ Fr h₀ L s₁.heap m ∧ News h₀ L s₁.heap news ∧ ∀ D h tk, Fr h₀ L h m → News h₀ L h ((D, LCg.lst []) :: news) → (∀ p ∈ news, p.1 ≠ D) → Q (.ref D) { s₁ with heap := h, toks := tk }
theorem SignSrc.intro {h₀ : Heap} {L : Addr} {m : Str → Option Value} {Q : Value → Shared → Prop} {s₁ : Shared} {n : Nat} {t : Tok} {news : List (Addr × Obj)} (hn : n < 1000) (F : Fr h₀ L s₁.heap m) (N : News h₀ L s₁.heap news)
    (out : ∀ D h tk, Fr h₀ L h m → News h₀ L h ((D, LCg.lst []) :: news) → (∀ p ∈ news, p.1 ≠ D) → Q (.ref D) { s₁ with heap := h, toks := tk }) : SignSrc h₀ L m Q (.str (Str.ofString (toString (n : Int))) t) s₁ := ⟨n, t, news, rfl, hn, F, N, out⟩

section
variable {prog : Program} {w : World} {A : Around} {E : Value → Shared → Prop} {s : Shared} {h₀ : Heap} {L : Addr} {m mg mb : Str → Option Value} {scope : Scope} {cl' : List (Str × Addr)}
  {p1 p2 p3 p4 p5 pos : Pos} {Q : Value → Shared → Prop} {env : Env}
theorem comp_sign {iter : PySem.Expr} (_F : Fr h₀ L s.heap m) (hh : A.handled = none)
    (hclos : closureFor scope env = pure cl') (hcell : ∀ y ∈ scope.names, y.2 ≠ .cell) (hkind : scope.kind = .function)
    (hnames : ∀ y ∈ scope.names, y.2 = .local → scope.names.lookup y.1 = some .local) (hx : scope.names.lookup (Str.ofString "sign") = some .local) (hk : ∀ C, (compEnvC scope cl' C env).scope.kind = .function)
    (h : wpAny (model prog w) A (eval iter env) (SignSrc h₀ L m Q) E s)
    (hs : ∀ x, foldedSetIterable iter env x = pure x := by intro _; rfl) :
    wpAny (model prog w) A (eval (.ListComp (.Name "sign" p4) [⟨.Name (Str.ofString "sign") p5, iter, [.Compare (.Name "sign" p1) [.NotIn] [.Constant (.str "0123456789") 0 p2] p3], 0⟩] scope pos) env) Q E s := by
  refine comp_eval (h₀ := h₀) (L := L) (m := m) hclos hcell hkind hnames (wpAny_mono h (fun xv s₁ hsrc => ?_) fun _ _ e => e) hs
  obtain ⟨n, tt, news, rfl, hn1, F, N, out⟩ := hsrc
  have hl := numS_len' hn1
  refine src_str (R := fun i ys own₁ => own₁ = [] ∧ ys = []) hh (by rw [sizeLine_eq]; exact Nat.le_trans hl (by decide)) hkind hx F News.nil ⟨rfl, rfl⟩ ?_ ?_
  · rintro i ys own₁ C mc s E' hlt _ ⟨rfl, rfl⟩ F' N' hn ⟨v, ⟨c, u, hc, rfl⟩, hmc⟩ _ _ _ _ _
    obtain ⟨c0, c1⟩ := numS_digits i c hc
    refine Turn.test (test_sign F' hn hmc c0 c1 (hk C) (lookup_relabel_local hx) fun tk => ?_)
    simp only [Bool.false_eq_true, if_false]
    exact TEnd.same F' N' ⟨rfl, by trivial⟩
  · intro D h tk ys own' F' _ hD hD₀ hDL _ hsD hr hk' _
    obtain ⟨rfl, rfl⟩ := hr
    refine out D h tk F' (fun p hp => ?_) (fun p hp e => ?_)
    · rcases List.mem_cons.mp hp with rfl | hp
      · exact ⟨hD, hDL, hD₀⟩
      · exact ⟨hk' _ _ (N p hp).2.1 (N p hp).1 (by simp), (N p hp).2⟩
    · have := (N p hp).1; rw [e, hsD] at this; cases this
end

theorem numS_ne (n : Nat) : (numS n == Str.ofString "") = false := by
  have h : numS n ≠ Str.ofString "" := by
    intro h
    have h2 : (numS n).cps.toList = _ := PySem.W.KIN.signs_num n
    rw [h] at h2
    exact absurd (List.map_eq_nil_iff.mp h2.symm) Nat.toDigits_ne_nil
  exact beq_eq_false_iff_ne.mpr h
theorem eq_num_empty {prog : Program} {w : World} {A : Around} {E : Value → Shared → Prop} {s : Shared} {n : Nat} {t u : Tok} {Q : Value → Shared → Prop} (h : Q (.bool false) s) :
    wpAny (model prog w) A (compareOp .Eq (.str (Str.ofString (toString (n : Int))) t) (.str (Str.ofString "") u)) Q E s := by
  refine eq_str ?_
  rw [show (Str.ofString (toString (n : Int))) = numS n from rfl, numS_ne]
  exact h

section
set_option maxHeartbeats 4000000 in
theorem whole_number_spec (prog : Program) (w : World) (n : Nat) (t : Tok) (hn : n < 1000) :
    Spec prog w 66 [.str (Str.ofString (toString (n : Int))) t] 2 200 [] (fun _ => True) (fun _ v own' => (∃ t, v = .int n t) ∧ own' = []) := by
  k_with_none
  (k_with "cj" => (first | exact fun h => h.1 | exact fun h => h.2.1 | exact fun h => h.2.2.1 | exact fun h => h.2.2.2.1 | exact fun h => h.2.2.2.2.1 | exact fun h => h.2.2.2.2.2.1 | exact fun h => h.2.2.2.2.2.2.1 | exact fun h => h.2.2.2.2.2.2.2.1 | exact fun h => h.2.2.2.2.2.2.2.2.1 | exact fun h => h.2.2.2.2.2.2.2.2.2.1 | exact fun h => h.2.2.2.2.2.2.2.2.2.2.1 | exact fun h => h.2.2.2.2.2.2.2.2.2.2.2.1 | exact fun h => h.2.2.2.2.2.2.2.2.2.2.2.2.1 | exact fun h => h.2.2.2.2.2.2.2.2.2.2.2.2.2.1 | exact fun h => h.2 | exact fun h => h.2.2 | exact fun h => h.2.2.2 | exact fun h => h.2.2.2.2 | exact fun h => h.2.2.2.2.2 | exact fun h => h.2.2.2.2.2.2 | exact fun h => h.2.2.2.2.2.2.2 | exact fun h => h.2.2.2.2.2.2.2.2 | exact fun h => h.2.2.2.2.2.2.2.2.2 | exact fun h => h.2.2.2.2.2.2.2.2.2.2 | exact fun h => h.2.2.2.2.2.2.2.2.2.2.2 | exact fun h => h.2.2.2.2.2.2.2.2.2.2.2.2 | exact fun h => h.2.2.2.2.2.2.2.2.2.2.2.2.2))
  (k_with "omega" => (with_reducible first | assumption | exact Nat.le_of_ble_eq_true (by decide) | exact Nat.ne_of_gt (by assumption) | exact Nat.ne_of_lt (by assumption) | exact Mine.lm1 (by assumption) (by decide) | exact Mine.lm2 (by assumption) (by decide) | exact Mine.lm3 (by assumption) (by decide) | exact Mine.lm4 (by assumption) (by decide) | exact Mine.lm5 (by assumption) (by decide) | exact Mine.lm6 (by assumption) (by decide) | exact Mine.lm7 (by assumption) (by decide) | exact Mine.lm8 (by assumption) (by decide) | exact Mine.lm9 (by assumption) (by decide) | exact Int.natCast_nonneg _ | (refine Mine.cj1 (by assumption) ?_; k_extra "cj") | (refine Mine.cj2 (by assumption) ?_; k_extra "cj") | (refine Mine.cj3 (by assumption) ?_; k_extra "cj") | (refine Mine.cj4 (by assumption) ?_; k_extra "cj") | (refine Mine.cj5 (by assumption) (by assumption) ?_; k_extra "cj") | (refine Mine.cj6 (by assumption) (by assumption) ?_; k_extra "cj") | (refine Mine.cj7 (by assumption) (by assumption) (by assumption) ?_; k_extra "cj") | (refine Mine.cj8 (by assumption) (by assumption) (by assumption) ?_; k_extra "cj") | exact Mine.cj9 (by assumption) (by assumption) | exact Mine.cj10 (by assumption) (by assumption) | (refine Mine.cl1 (by assumption) ?_; k_extra "cj") | (refine Mine.cl2 (by assumption) (by assumption) ?_; k_extra "cj") | exact Mine.ns1 (by assumption) | exact Mine.ns2 (by assumption) | exact Mine.ns3 | exact Mine.ns4 | exact Mine.lm10 (by assumption) (by decide) | exact Mine.lm11 (by assumption) (by decide) | exact Mine.lm12 (by assumption) (by assumption) (by decide) | exact Mine.lm12 (by assumption) (Nat.le_refl _) (by decide) | exact Mine.lm13 (by assumption) (by assumption) (by decide) | exact Mine.lm13 (by assumption) (Nat.le_refl _) (by decide) | fail))
  (k_with "eval ListComp" => (k_here; k_dflt (refine comp_sign (by assumption) (by rfl) (by with_unfolding_all rfl) (by decide) (by rfl) (by decide) (by rfl) (fun _ => by rfl) ?_)))
  (k_with "SignSrc" => (refine SignSrc.intro (by assumption) (by assumption) (by assumption) ?_; intro D' h' tk' F' N' ne'; (try dsimp only); (try k_sweep)))
  (k_with "compareOp Eq str str" => (k_here; refine eq_num_empty ?_))
  (k_with "compareOp NotEq ref ref" => (k_here; refine' ne_intsK (ns := []) (ms := []) (by is_list) .nil (by is_list) .nil ?z1r35 ?_; (case z1r35 => (show un + _ < cLine; omega)); (try simp only [])))
  refine spec_of [("text", .str (Str.ofString (toString (n : Int))) t)] (by k_is) (by k_is) (fun s _ => BindsTo.of_eq rfl) (locs rfl) ?_ (by decide)
  rintro p loose mean mg mb dp un gd outer A₀ base g L' s B' F' N' X' T' - hdp hun hlt
  k_fold
  have hlen := numS_len' hn
  k_steps
  exact Fin.intro (by assumption) News.nil ⟨⟨_, rfl⟩, rfl⟩
end
end Mine
end
-- Exc
section
open PySem PySem.W PyProof.Rows PySem.Calls PySem.Spec
namespace Mine

/-- the class DeskFault, at 59 -/
abbrev deskObj : Obj := excClassObj (Str.ofString "DeskFault") (Str.ofString "DeskFault") 59 58 [.ref 46] [.ref 46, .type "Exception", .type "BaseException", .type "object"] true [] [] false none none
  (some (.ref 50)) none (some (.str (Str.ofString "DeskFault") 236)) (some (.str (Str.ofString "DeskFault") 244)) (some (.bool true)) "Exception.__new__"

theorem desk_in {w : World} {h : Heap} (X : (Mine.hd.heap_1 w.params).In h) : h.get? 59 = some deskObj := X _ _ (by k_is)

section
variable {prog : Program} {w : World} {A : Around} {E : Value → Shared → Prop} {R : Result → Shared → Prop} {h : Heap} {g : Array GenState} {d : Drawn} {t : Nat} {os : OsState} {M : Model}
variable {nm q : Str} {C N : Addr} {bs bm : List Value} {hdct : Bool} {sn : List Str} {sub : List Value} {ab : Bool} {col : Option Bool} {dd : Option Addr} {k0 k1 k2 k3 k5 : Option Value} {B newId initId : String} {bmB : List Value}

theorem exc_check_new (F : ExcBaseFacts B newId initId bmB) (hcont : (Value.ref C :: bm).contains (.type B) = true) {rest : List Value} {Q : Unit → Shared → Prop} (hC : h.get? C = some (excClassObj nm q C N bs bm hdct sn sub ab col dd k0 k1 k2 k3 k5 newId))
    (hq : Q () ⟨h, g, d, t, os⟩) : wpAny M A (checkBuiltinCall newId ⟨.ref C :: rest, []⟩) Q E ⟨h, g, d, t, os⟩ := by
  have hstar := F.noStar
  simp only [checkBuiltinCall, F.newKind, F.newSplit, F.newRow]
  repeat (first | refine wpAny_loadPart_at hC ?_ | (refine wpAny_isSubtype_exc hC ?_; rw [hcont]) | refine wpAny_staticBase_exc hC ?_ | refine wpAny_madeBy_exc hC ?_ | simp only [bne_self_eq_false, Bool.false_eq_true, if_false] | wp_step)
  exact hq

theorem exc_new (F : ExcBaseFacts B newId initId bmB) (hcB : (Value.ref C :: bm).contains (.type B) = true) (hcA : (Value.ref C :: bm).contains (.type "AttributeError") = false) (hcN : (Value.ref C :: bm).contains (.type "NameError") = false)
    {rest : List Value} (hC : h.get? C = some (excClassObj nm q C N bs bm hdct sn sub ab col dd k0 k1 k2 k3 k5 newId))
    (hq : R (.ok (.ret (.ref (h.objs.size + 1)))) ⟨(h.push { cls := .type "tuple", data := .seq rest.toArray }).push
      { cls := .ref C, data := .fields #[.ref h.objs.size, .none, .none, .none, .bool false, .none] }, g, d, t, os⟩) (hrest : rest.length ≤ sizeLine := by size_fits) :
    codeAny (model prog w) A (.builtin newId ⟨.ref C :: rest, []⟩) R ⟨h, g, d, t, os⟩ := by
  have hends := F.ends
  refine codeAny_builtinAt F.entry ?_
  unfold Builtin.«BaseException.__new__»
  refine PySem.wpAt_bind ?_
  show PySem.wpAt _ _ _ (stack >>= _) _ _ _
  refine PySem.wpAt_bind (PySem.wpAt_stack fun p below => PySem.wpAt_of_wpAny ?_)
  wp_walk
  refine PySem.wpAt_of_wpAny ?_
  rw [F.owner]
  repeat (first | with_reducible refine wpAny_madeHere_exc F.canon hC ?_ | with_reducible refine wpAny_loadPart_at hC ?_ | (with_reducible refine wpAny_isSubtype_exc hC ?_; first | rw [hcB] | rw [hcA] | rw [hcN]) | wp_step)
  show R _ _
  rw [Heap.size_push]
  exact hq

theorem exc_check_init {M : Model} {A : Around} {E : Value → Shared → Prop} {h : Heap} {g : Array GenState} {d : Drawn} {t : Nat} {os : OsState} {nm q : Str} {C N : Addr} {bs bm : List Value} {hdct : Bool} {sn : List Str} {sub : List Value} {ab : Bool} {col : Option Bool} {dd : Option Addr} {k0 k1 k2 k3 k5 : Option Value} {B newId initId : String} {bmB : List Value}
    (F : ExcBaseFacts B newId initId bmB) (hcB : (Value.ref C :: bm).contains (.type B) = true) {e : Addr} {oe : Obj} {rest : List Value} {Q : Unit → Shared → Prop}
    (hC : h.get? C = some (excClassObj nm q C N bs bm hdct sn sub ab col dd k0 k1 k2 k3 k5 newId)) (he : h.get? e = some oe) (hcls : oe.cls = .ref C) (hq : Q () ⟨h, g, d, t, os⟩) :
    wpAny M A (checkBuiltinCall initId ⟨.ref e :: rest, []⟩) Q E ⟨h, g, d, t, os⟩ := by
  have hshort := F.noStar
  simp only [checkBuiltinCall, F.initKind, F.initSplit, F.initRow]
  repeat (first | (with_reducible refine wpAny_loadPart_at he ?_; rw [hcls]) | with_reducible refine wpAny_loadPart_at hC ?_ | (with_reducible refine wpAny_isSubtype_exc hC ?_; rw [hcB]) | wp_step)
  refine wpAny_onRaise ?_
  rw [show ∀ (a b : String) (n : Nat), Bind.check ⟨.positional, "*", B, .self, [⟨"args", .varPos, false⟩]⟩ a b n (List.map (fun x => x.fst) ({ pos := Value.ref e :: rest } : Args).kw) = pure () from
    fun a b n => check_star_args _ _ _ _ _ _]
  exact wpAny_pure hq

theorem exc_type_call (F : ExcBaseFacts B newId initId bmB) (hcB : (Value.ref C :: bm).contains (.type B) = true) (hcA : (Value.ref C :: bm).contains (.type "AttributeError") = false) (hcN : (Value.ref C :: bm).contains (.type "NameError") = false)
    {rest : List Value} {fI : Addr} {oI : Obj} {Q : PySem.Fin → Shared → Prop}
    (hC : h.get? C = some (excClassObj nm q C N bs bm hdct sn sub ab col dd k0 k1 k2 k3 k5 newId)) (hi : Looks (model prog w) h (typeLookup (.ref C) "__init__") (some (.ref fI)))
    (hfI : h.get? fI = some oI) (hfc : oI.cls = .type "function")
    (hq : ∀ h' e, Heap.MadeExcOf h h' e (.ref C) rest →
      wpAny (model prog w) A (call (.ref fI) (.ref e :: rest)) (fun r s' => r = .none ∧ Q (.done (.ret (.ref e))) s') E ⟨h', g, d, t, os⟩) (hrest : rest.length ≤ sizeLine := by size_fits) :
    wpAny (model prog w) A (Builtin.«type.__call__» ⟨.ref C :: rest, []⟩) Q E ⟨h, g, d, t, os⟩ := by
  repeat (first | with_reducible refine wpAny_loadPart_at hC ?_ | with_reducible refine wpAny_madeBy_exc hC ?_ | wp_step)
  refine codeAny_call_builtin_code (Code.quiet_builtin _ F.quiet) (exc_check_new F hcB hC ?_)
  refine exc_new F hcB hcA hcN hC ?_ hrest
  show wpAny _ _ _ _ _ _
  have hC₁ := Heap.get?_push_of_some { cls := .ref C, data := .fields #[.ref h.objs.size, .none, .none, .none, .bool false, .none] }
    (Heap.get?_push_of_some { cls := .type "tuple", data := .seq rest.toArray } hC)
  have hfI₁ := Heap.get?_push_of_some { cls := .ref C, data := .fields #[.ref h.objs.size, .none, .none, .none, .bool false, .none] }
    (Heap.get?_push_of_some { cls := .type "tuple", data := .seq rest.toArray } hfI)
  have hget : ((h.push { cls := .type "tuple", data := .seq rest.toArray }).push
      { cls := .ref C, data := .fields #[.ref h.objs.size, .none, .none, .none, .bool false, .none] }).get? (h.objs.size + 1) = some
      { cls := .ref C, data := .fields #[.ref h.objs.size, .none, .none, .none, .bool false, .none] } := by heap_get
  have hcC : (Value.ref C :: bm).contains (.ref C) = true := by simp
  unfold isInstance
  repeat (first | with_reducible refine wpAny_loadPart_at hget ?_ | (with_reducible refine wpAny_isSubtype_exc hC₁ ?_; rw [hcC]) | wp_step)
  show wpAny _ _ (typeLookup (.ref C) _) _ _ _
  refine hi _ _ _ _ (fun b o e => Heap.get?_push_of_some _ (Heap.get?_push_of_some _ e)) ?_
  refine wpAny_holding (wpAny_bind ?_)
  unfold bindSpecial
  refine wpAny_bind (wpAny_typeOf (T := "function") ⟨_, hfI₁, hfc⟩ ?_)
  rw [if_pos (by decide)]
  refine wpAny_pure (wpAny_bind (wpAny_mono (hq _ (h.objs.size + 1) ⟨fun b o hb => Heap.get?_push_of_some _ (Heap.get?_push_of_some _ hb), Heap.get?_none_of_le (Nat.le_succ _), h.objs.size, hget, Heap.get?_none_of_le (Nat.le_refl _), ?_⟩) (fun r s' hr => ?_) fun _ _ x => x))
  · exact Heap.get?_push_of_some _ (Heap.get?_push_at rfl rfl)
  · obtain ⟨rfl, hQ⟩ := hr
    wp_walk
    exact hQ

theorem exc_call (F : ExcBaseFacts B newId initId bmB) (hcB : (Value.ref C :: bm).contains (.type B) = true) (hcA : (Value.ref C :: bm).contains (.type "AttributeError") = false) (hcN : (Value.ref C :: bm).contains (.type "NameError") = false)
    {rest : List Value} {fI : Addr} {oI : Obj} {Q : Value → Shared → Prop}
    (hC : h.get? C = some (excClassObj nm q C N bs bm hdct sn sub ab col dd k0 k1 k2 k3 k5 newId)) (hi : Looks (model prog w) h (typeLookup (.ref C) "__init__") (some (.ref fI)))
    (hfI : h.get? fI = some oI) (hfc : oI.cls = .type "function")
    (hq : ∀ h' e, Heap.MadeExcOf h h' e (.ref C) rest →
      wpAny (model prog w) (A.under (.builtin "type.__call__" ⟨.ref C :: rest, []⟩)) (call (.ref fI) (.ref e :: rest)) (fun r s' => r = .none ∧ Q (.ref e) s') E ⟨h', g, d, t, os⟩) (hrest : rest.length ≤ sizeLine := by size_fits) :
    wpAny (model prog w) A (call (.ref C) rest) Q E ⟨h, g, d, t, os⟩ := by
  have f1 := tc_lookup
  have f2 := tc_bind (.ref C)
  have hT : (⟨h, g, d, t, os⟩ : Shared).TypeIs (.ref C) "type" := ⟨_, hC, rfl⟩
  refine wpAny_call (codeAny_of_tree ?_)
  show wpAny _ _ (callAny (.ref C) _) _ _ _
  repeat (any_goals (first | assumption | with_reducible refine wpAny_loadPart_at hC ?_ | wp_step))
  refine ⟨rfl, ?_⟩
  refine codeAny_call_builtin_at (Code.quiet_builtin _ (by decide +kernel)) entry_typeCall (wpAny_check_type_call_sub hC (exc_type_call (hrest := hrest) F hcB hcA hcN hC hi hfI hfc fun h' e hm => ?_))
  exact hq h' e hm
end
end Mine
namespace Mine
/-- an exception of the class DeskFault -/
abbrev excO (t0 : Addr) (dx : Option Addr) : Obj := { cls := .ref 59, dict := dx, data := .fields #[.ref t0, .none, .none, .none, .bool false, .none] }
abbrev tupO (vs : List Value) : Obj := { cls := .type "tuple", data := .seq vs.toArray }

section
variable {prog : Program} {w : World} {A : Around} {E : Value → Shared → Prop} {s : Shared} {h₀ : Heap} {L e t0 : Addr} {m : Str → Option Value}
theorem exc_init0 {x : Value} {Q : Value → Shared → Prop} (F : Fr h₀ L s.heap m) (X : (Mine.hd.heap_1 w.params).In h₀) (N : News h₀ L s.heap [(e, excO t0 none)])
    (h : ∀ T h', Fr h₀ L h' m → News h₀ L h' [(T, tupO [x]), (e, excO T none)] → T ≠ e → Q .none { s with heap := h' }) :
    wpAny (model prog w) A (call (.builtin "Exception.__init__") [.ref e, x]) Q E s := by
  have FX := PySem.F.excCall_Exception
  have he := (N (e, excO t0 none) (List.mem_cons_self ..)).1
  have X' := X.keeps F.keep
  obtain ⟨hp, g, d, tk, os⟩ := s
  refine wpAny_call (codeAny_call_builtin FX.init.plain FX.initEntry (exc_check_init PySem.F.excBase_Exception (by rfl) (desk_in X') he rfl ?_))
  have N2 := N.push F (tupO [x])
  have F2 := F.push (tupO [x])
  have hTe : hp.objs.size ≠ e := Nat.ne_of_gt (Heap.lt_size he)
  obtain ⟨U1, U2⟩ := news_upd (d := e) (pre := [(hp.objs.size, tupO [x])]) (post := []) (o := excO t0 none) (o' := excO hp.objs.size none) (f := Obj.mapFields (·.setIfInBounds 0 (.ref hp.objs.size))) F2 N2
    (by intro p hp; rw [List.mem_singleton] at hp; subst hp; exact hTe) (fun _ hp => nomatch hp) (by rfl) (by rfl)
  unfold Builtin.«BaseException.__init__»
  wp_walk
  exact h _ _ U1 U2 hTe
end
open Builtin Builtin.ObjectAttr in
section
variable {prog : Program} {w : World} {A : Around} {E : Value → Shared → Prop} {s : Shared} {h₀ : Heap} {L e T dx : Addr} {dxo : Option Addr} {m : Str → Option Value} {name : Str} {v : Value}

theorem put_dict {od od' : Obj} {tk : Tok} {pre post : List (Addr × Obj)} {es : List DictEntry} {n : Nat} {Q : PySem.Fin → Shared → Prop} (F : Fr h₀ L s.heap m) (N : News h₀ L s.heap (pre ++ (dx, od) :: post))
    (hl : (lookIn name od).isSome = true) (h1 : ∀ p ∈ pre, p.1 ≠ dx) (h2 : ∀ p ∈ post, p.1 ≠ dx)
    (e : Obj.putName name (PyData.keyHash w.params name) (.str name s.toks) v od = od') (e' : od'.data = .dict es.toArray n) (hz : es.length ≤ 1000)
    (h : ∀ h', Fr h₀ L h' m → News h₀ L h' (pre ++ (dx, od') :: post) → Q (.done (.ret .none)) { s with heap := h', toks := s.toks + 1 }) :
    wpAny (model prog w) A (storeInDict dx (.str name tk) name v) Q E s := by
  obtain ⟨U1, U2⟩ := news_upd (f := Obj.putName name (PyData.keyHash w.params name) (.str name s.toks) v) F N h1 h2 e (by obtain ⟨_, _, dd, _⟩ := od'; cases e'; rfl)
  have D := (N (dx, od) (by simp)).1
  have D' := (U2 (dx, od') (by simp)).1
  refine wpAny_bind (wpAny_pure (wpAny_bind ?_))
  unfold nsSet
  refine wpAny_bind (wpAny_bind (wpAny_askSetting (wpAny_pure (wpAny_bind (wpAny_mkText (wpAny_bind (wpAny_loadPart D ?_)))))))
  unfold lookIn at hl
  split at hl
  · rename_i es₀ n₀ q
    rw [q]
    dsimp only
    have c : (!es₀.any (·.key.isStr name) && es₀.any (·.refKey)) = false := by
      rw [← Array.any_toList, ← Array.any_toList]
      split at hl
      · rename_i en he
        rw [List.any_eq_true.mpr ⟨en, List.mem_of_find?_eq_some he, List.find?_some he⟩]; rfl
      · split at hl
        · cases hl
        · rename_i z; rw [Bool.not_eq_true] at z; rw [z, Bool.and_false]
    rw [aRefKeyMayBeTheName_at, c]
    refine wpAny_updatePart D ?_
    refine wpAny_bind (wpAny_lookBehind D' (by rw [e']; exact pastItsLine_dict (by rw [List.size_toArray, sizeLine_eq]; omega)) ?_)
    exact wpAny_pure (h _ U1 U2)
  · cases hl

theorem exc_open {Q : Unit → Shared → Prop} (X : (Mine.hd.heap_1 w.params).In s.heap) (he : s.heap.get? e = some (excO T dxo)) (hn : findIn (Mine.hd.heap_1 w.params) (.ref 59) name = some none)
    (h : ∀ A' : Around, wpAny (model prog w) A' (storeInOwnDict (.ref e) (.ref 59) (.str name s.toks) name v false) (fun fin s' => match fin with | .done (.ret _) => Q () s' | _ => False) (fun _ _ => False) { s with toks := s.toks + 1 }) :
    wpAny (model prog w) A (setAttr (.ref e) name v) Q E s := by
  have SF := PySem.F.store_Exception
  have ty : Looks (model prog w) s.heap (typeOf (.ref e)) (.ref 59) := (Looks.ld he).andThen .now
  have hs : findIn (Mine.hd.heap_1 w.params) (.ref 59) "__setattr__" = some (some (.builtin "object.__setattr__")) := by k_is
  have sub : Looks (model prog w) s.heap (isInstance (.ref e) (.type "object")) true := ty.andThen (looks_mroIn X (by k_is))
  have hc := desk_in X
  have hm : Looks (model prog w) s.heap (mroOf (.ref 59)) [.ref 59, .ref 46, .type "Exception", .type "BaseException", .type "object"] := ((Looks.ld (part := none) hc).andThen .now).andThen .now
  have hp := SF.passes (.ref e)
  refine wpAny_bind (wpAny_mkText (wpAny_bind (wpAny_bind (wpAny_bind (ty _ _ _ _ (fun _ _ e => e) (looks_findIn X hs _ _ _ _ (fun _ _ e => e) (wpAny_holding ?_)))))))
  rw [SF.slot.bind]
  refine wpAny_bind (wpAny_pure (wpAny_bind (wpAny_call ?_)))
  refine codeAny_call_builtin SF.slot.plain SF.entry (@check_slot (model prog w) _ _ { s with toks := s.toks + 1 } "object.__setattr__" "object" "__setattr__" (.ref e) [.str name s.toks, v] [] _ SF.kind SF.split sub (SF.args (.ref e) (.str name s.toks) v) ?_)
  show wpAny _ _ (Builtin.«object.__setattr__» ⟨[.ref e, .str name s.toks, v], []⟩) _ _ _
  rw [osa_eq, refuse_eq]
  refine wpAny_bind (wpAny_bind (ty _ _ _ _ (fun _ _ e => e) (wpAny_bind (hm _ _ _ _ (fun _ _ e => e) ?_))))
  rw [refuseLoop_ref, refuseLoop_ref, hp]
  refine wpAny_pure (wpAny_bind (ty _ _ _ _ (fun _ _ e => e) (wpAny_bind (looks_findIn X hn _ _ _ _ (fun _ _ e => e) (wpAny_bind (wpAny_pure ?_))))))
  refine wpAny_mono (h _) (fun fin s' z => ?_) fun _ _ z => z.elim
  rcases fin with (_ | _ | _ | _) | _ <;> first | exact z.elim | exact wpAny_pure (wpAny_pure z)

/-- the first name that is stored upon it -/
theorem exc_set0 {Q : Unit → Shared → Prop} {tp : Obj} (F : Fr h₀ L s.heap m) (X : (Mine.hd.heap_1 w.params).In h₀) (N : News h₀ L s.heap [(T, tp), (e, excO T none)]) (hTe : T ≠ e) (hn : findIn (Mine.hd.heap_1 w.params) (.ref 59) name = some none)
    (h : ∀ D es n h', Fr h₀ L h' m → News h₀ L h' [(D, dictOf es n), (T, tp), (e, excO T (some D))] → es.length = 1 → (∀ n2, (lookIn n2 (dictOf es n)).isSome = true) → D ≠ T → D ≠ e → Q () { s with heap := h', toks := s.toks + 2 }) :
    wpAny (model prog w) A (setAttr (.ref e) name v) Q E s := by
  have X' := X.keeps F.keep
  have he := (N (e, excO T none) (by simp)).1
  refine exc_open X' he hn fun A' => ?_
  have hc := desk_in X'
  have F2 := F.push emptyDict
  have N2 := N.push F emptyDict
  have hDT : s.heap.objs.size ≠ T := Nat.ne_of_gt (Heap.lt_size (N (T, tp) (by simp)).1)
  have hDe : s.heap.objs.size ≠ e := Nat.ne_of_gt (Heap.lt_size he)
  obtain ⟨U1, U2⟩ := news_upd (d := e) (pre := [(s.heap.objs.size, emptyDict), (T, tp)]) (post := []) (o := excO T none) (o' := excO T (some s.heap.objs.size)) (f := fun o => { o with dict := some s.heap.objs.size }) F2 N2
    (by intro p hp; simp only [List.mem_cons, List.not_mem_nil, or_false] at hp; rcases hp with rfl | rfl; exact hDe; exact hTe) (fun _ hp => nomatch hp) (by rfl) (by rfl)
  have hcl : Looks (model prog w) s.heap (classData 59) { name := Str.ofString "DeskFault", bases := [.ref 46], mro := [.ref 59, .ref 46, .type "Exception", .type "BaseException", .type "object"], ns := 58, qualname := Str.ofString "DeskFault" } := (Looks.ld hc).andThen .now
  refine wpAny_bind (wpAny_pure (wpAny_bind (wpAny_bind (wpAny_loadPart he (wpAny_bind (hcl _ _ _ _ (fun _ _ e => e) ?_))))))
  refine wpAny_bind (wpAny_alloc' (wpAny_bind (wpAny_update' (Heap.get?_push_of_some _ he) ?_)))
  refine wpAny_pure ?_
  refine put_dict (s := { s with heap := (s.heap.push emptyDict).update e (fun o => { o with dict := some s.heap.objs.size }), toks := s.toks + 1 }) (pre := []) U1 U2 (by rfl) (fun _ hp => nomatch hp) ?_ (by rfl) (by rfl) (by simp) fun h' F' N' => ?_
  · intro p hp
    rcases List.mem_cons.mp hp with rfl | hp
    · exact hDT.symm
    · rcases List.mem_cons.mp hp with rfl | hp
      · exact hDe.symm
      · cases hp
  · exact h _ _ _ h' F' N' (by rfl) (fun n2 => by unfold lookIn; cases hh : (Value.str name (s.toks + 1)).isStr n2 <;> simp [hh, DictEntry.refKey]) hDT hDe

theorem putL_length (name : Str) (hsh : Int) (key v : Value) : ∀ es : List DictEntry, (putL name hsh key v es).length ≤ es.length + 1
  | [] => by simp [putL]
  | e :: r => by
    unfold putL
    split
    · simp
    · simpa using putL_length name hsh key v r

/-- a further name that is stored upon it -/
theorem exc_set1 {Q : Unit → Shared → Prop} {tp : Obj} {D : Addr} {es : List DictEntry} {n : Nat} (F : Fr h₀ L s.heap m) (X : (Mine.hd.heap_1 w.params).In h₀) (N : News h₀ L s.heap [(D, dictOf es n), (T, tp), (e, excO T (some D))]) (hDT : D ≠ T) (hDe : D ≠ e)
    (hl : (lookIn name (dictOf es n)).isSome = true) (hlen : es.length = 1) (hn : findIn (Mine.hd.heap_1 w.params) (.ref 59) name = some none)
    (h : ∀ od h', Fr h₀ L h' m → News h₀ L h' [(D, od), (T, tp), (e, excO T (some D))] → Q () { s with heap := h', toks := s.toks + 2 }) :
    wpAny (model prog w) A (setAttr (.ref e) name v) Q E s := by
  have X' := X.keeps F.keep
  have he := (N (e, excO T (some D)) (by simp)).1
  refine exc_open X' he hn fun A' => ?_
  have hc := desk_in X'
  have hcl : Looks (model prog w) s.heap (classData 59) { name := Str.ofString "DeskFault", bases := [.ref 46], mro := [.ref 59, .ref 46, .type "Exception", .type "BaseException", .type "object"], ns := 58, qualname := Str.ofString "DeskFault" } := (Looks.ld hc).andThen .now
  refine wpAny_bind (wpAny_pure (wpAny_bind (wpAny_bind (wpAny_loadPart he (wpAny_bind (hcl _ _ _ _ (fun _ _ e => e) ?_))))))
  refine wpAny_pure (a := some D) ?_
  refine put_dict (s := { s with toks := s.toks + 1 }) (pre := []) F N hl (fun _ hp => nomatch hp) ?_ (putName_dict ..) (by rfl) ?_ fun h' F' N' => ?_
  · intro p hp
    rcases List.mem_cons.mp hp with rfl | hp
    · exact hDT.symm
    · rcases List.mem_cons.mp hp with rfl | hp
      · exact hDe.symm
      · cases hp
  · refine Nat.le_trans (putL_length name (PyData.keyHash w.params name) (.str name (s.toks + 1)) v es) ?_
    omega
  · exact h _ h' F' N'
end
theorem type_exc : typeOf (.type "Exception") = pure (.type "type") := by kernel_rfl
section
set_option maxHeartbeats 4000000 in
theorem init_spec (prog : Program) (w : World) (e t0 : Addr) (x : Str) (t : Tok) :
    Spec prog w 36 [.ref e, .str x t] 2 200 [(e, excO t0 none)] (fun _ => True) (fun _ v own' => v = .none ∧ ∃ T od, (e, excO T od) ∈ own') := by
  k_with_none
  (k_with "cj" => (first | exact fun h => h.1 | exact fun h => h.2.1 | exact fun h => h.2.2.1 | exact fun h => h.2.2.2.1 | exact fun h => h.2.2.2.2.1 | exact fun h => h.2.2.2.2.2.1 | exact fun h => h.2.2.2.2.2.2.1 | exact fun h => h.2.2.2.2.2.2.2.1 | exact fun h => h.2.2.2.2.2.2.2.2.1 | exact fun h => h.2.2.2.2.2.2.2.2.2.1 | exact fun h => h.2.2.2.2.2.2.2.2.2.2.1 | exact fun h => h.2.2.2.2.2.2.2.2.2.2.2.1 | exact fun h => h.2.2.2.2.2.2.2.2.2.2.2.2.1 | exact fun h => h.2.2.2.2.2.2.2.2.2.2.2.2.2.1 | exact fun h => h.2 | exact fun h => h.2.2 | exact fun h => h.2.2.2 | exact fun h => h.2.2.2.2 | exact fun h => h.2.2.2.2.2 | exact fun h => h.2.2.2.2.2.2 | exact fun h => h.2.2.2.2.2.2.2 | exact fun h => h.2.2.2.2.2.2.2.2 | exact fun h => h.2.2.2.2.2.2.2.2.2 | exact fun h => h.2.2.2.2.2.2.2.2.2.2 | exact fun h => h.2.2.2.2.2.2.2.2.2.2.2 | exact fun h => h.2.2.2.2.2.2.2.2.2.2.2.2 | exact fun h => h.2.2.2.2.2.2.2.2.2.2.2.2.2))
  (k_with "omega" => (with_reducible first | assumption | exact Nat.le_of_ble_eq_true (by decide) | exact Nat.ne_of_gt (by assumption) | exact Nat.ne_of_lt (by assumption) | exact Mine.lm1 (by assumption) (by decide) | exact Mine.lm2 (by assumption) (by decide) | exact Mine.lm3 (by assumption) (by decide) | exact Mine.lm4 (by assumption) (by decide) | exact Mine.lm5 (by assumption) (by decide) | exact Mine.lm6 (by assumption) (by decide) | exact Mine.lm7 (by assumption) (by decide) | exact Mine.lm8 (by assumption) (by decide) | exact Mine.lm9 (by assumption) (by decide) | exact Int.natCast_nonneg _ | (refine Mine.cj1 (by assumption) ?_; k_extra "cj") | (refine Mine.cj2 (by assumption) ?_; k_extra "cj") | (refine Mine.cj3 (by assumption) ?_; k_extra "cj") | (refine Mine.cj4 (by assumption) ?_; k_extra "cj") | (refine Mine.cj5 (by assumption) (by assumption) ?_; k_extra "cj") | (refine Mine.cj6 (by assumption) (by assumption) ?_; k_extra "cj") | (refine Mine.cj7 (by assumption) (by assumption) (by assumption) ?_; k_extra "cj") | (refine Mine.cj8 (by assumption) (by assumption) (by assumption) ?_; k_extra "cj") | exact Mine.cj9 (by assumption) (by assumption) | exact Mine.cj10 (by assumption) (by assumption) | (refine Mine.cl1 (by assumption) ?_; k_extra "cj") | (refine Mine.cl2 (by assumption) (by assumption) ?_; k_extra "cj") | exact Mine.ns1 (by assumption) | exact Mine.ns2 (by assumption) | exact Mine.ns3 | exact Mine.ns4 | exact Mine.lm10 (by assumption) (by decide) | exact Mine.lm11 (by assumption) (by decide) | exact Mine.lm12 (by assumption) (by assumption) (by decide) | exact Mine.lm12 (by assumption) (Nat.le_refl _) (by decide) | exact Mine.lm13 (by assumption) (by assumption) (by decide) | exact Mine.lm13 (by assumption) (Nat.le_refl _) (by decide) | fail))
  (k_with "getMethod type:Exception" => (k_here; refine' method_type (by assumption) (by assumption) type_exc (by decide +kernel) (by k_is) (by rfl) ?_))
  (k_with "call builtin:Exception.__init__" => (k_here; refine' exc_init0 (by assumption) (by assumption) (by assumption) ?_; intro T' h' F' N' ne'))
  (k_with "setAttr ref" => (k_here; first
  | (refine' exc_set0 (by assumption) (by assumption) (by assumption) (by assumption) (by k_is) ?_; intro D' es' n' h' F' N' el' lk' ne1 ne2)
  | (refine' exc_set1 (by assumption) (by assumption) (by assumption) (by assumption) (by assumption) (by apply_assumption) (by assumption) (by k_is) ?_; intro od' h' F' N')))
  refine spec_of [("self", .ref e), ("what", .str x t), ("at", .int (-1) 209)] (by k_is) (by k_is) (fun s X => binds_K X rfl (by k_is) rfl rfl rfl) (locs rfl) ?_ (by decide)
  rintro p loose mean mg mb dp un gd outer A₀ base g L' s B' F' N' X' T' - hdp hun hlt
  k_fold
  k_steps
  exact Fin.intro (by assumption) (by assumption) ⟨rfl, _, _, List.mem_cons_of_mem _ (List.mem_cons_of_mem _ (List.mem_cons_self ..))⟩
end

theorem under_make {dp un : Nat} {gd : Option (List Code)} {cn : Str} {cs : Scope} {L a : Addr} {ccd : Value} {cl : List (Str × Addr)} {outer : List Env} {C : Addr} {rest : List Value} :
  (ktrTop dp un gd cn cs L a ccd cl outer).under (.builtin "type.__call__" ⟨.ref C :: rest, []⟩) = ktrTop (dp + 1) (un + 1) gd cn cs L a ccd cl outer := by
  rfl

/-- an exception DeskFault was made -/
structure DeskMade (h h' : Heap) (e : Addr) : Prop where
  keeps : ∀ b o, h.get? b = some o → h'.get? b = some o
  new : h.get? e = none
  there : ∃ T od, h'.get? e = some (excO T od)

theorem desk_made {prog : Program} {w : World} {p : Program} {loose : List Str} {mean : ExcName → Option Value} {mg mb : Str → Option Value} {dp un : Nat} {gd : Option (List Code)} {cn : Str} {cs : Scope} {a : Addr} {ccd : Value} {cl : List (Str × Addr)} {outer : List Env} {A₀ : Around} {base h₀ : Heap} {L : Addr} {m : Str → Option Value} {s : Shared} {x : Str} {t : Tok}
    {Q E : Value → Shared → Prop} (B : Below A₀ base outer h₀) (F : Fr h₀ L s.heap m) (X : (Mine.hd.heap_1 w.params).In h₀) (T : Top p loose mean mg mb h₀) (hk : cs.kind = .function) (hd : dp + 4 < recursionLimit) (hu : un + 300 < cLine)
    (ret : ∀ e h' tk', DeskMade s.heap h' e → Q (.ref e) { s with heap := h', toks := tk' }) :
    wpAny (model prog w) (ktrTop dp un gd cn cs L a ccd cl outer) (call (.ref 59) [.str x t]) Q E s := by
  have X' := X.keeps F.keep
  obtain ⟨hp, g, d, tk, os⟩ := s
  refine exc_call PySem.F.excBase_Exception (by rfl) (by rfl) (by rfl) (desk_in X') (looks_findIn X' (by k_is)) (X' 36 _ (by k_is)) (by rfl) (fun h' e hm => ?_)
  rw [under_make]
  obtain ⟨t0, he, _, _⟩ := hm.there
  have F' : Fr h₀ L h' m := F.keeps hm.keeps
  have N' : News h₀ L h' [(e, excO t0 none)] := fun q hq => by
    rw [List.mem_singleton] at hq
    subst hq
    refine ⟨he, fun z => ?_, ?_⟩
    · obtain ⟨oL, es, ep, hL, _⟩ := F.ns
      have := hm.new
      rw [show e = L from z] at this
      rw [this] at hL; cases hL
    · cases q : h₀.get? e with
      | none => rfl
      | some o => have := F.keep _ _ q; rw [hm.new] at this; cases this
  refine Spec.use (init_spec prog w e t0 x t) (s := ⟨h', g, d, tk, os⟩) B F' X N' T hk trivial (by omega) (by omega) fun r own' h2 tk2 F2 N2 k2 f2 ⟨e1, T1, od, hmem⟩ => ⟨e1, ?_⟩
  refine ret e h2 tk2 ⟨fun b o q => k2 b o (hm.keeps b o q) fun z => ?_, hm.new, T1, od, (N2 _ hmem).1⟩
  rw [List.map_singleton, List.mem_singleton] at z
  have := hm.new
  rw [← show b = e from z, q] at this
  cases this

/-- the value of a raise -/
def RaisableX (w : World) (E : Value → Shared → Prop) (v : Value) (s₁ : Shared) : Prop :=
  ∃ a T od, v = .ref a ∧ (Mine.hd.heap_1 w.params).In s₁.heap ∧ s₁.heap.get? a = some (excO T od) ∧ E (.ref a) s₁

theorem raise_own {prog : Program} {w : World} {A : Around} {E : Value → Shared → Prop} {s : Shared} {env : Env} {e : Expr} {pos : Pos} {Q : Flow → Shared → Prop} (hh : A.handled = none)
    (h : wpAny (model prog w) A (eval e env) (RaisableX w E) E s) : wpAny (model prog w) A (exec (.Raise (some e) none pos) env) Q E s := by
  show wpAny (model prog w) A (do standAt pos; raiseStmt env (some (do let v ← eval e env; standAt pos; pure v)) none) Q E s
  refine wpAny_bind (wpAny_standAt ?_)
  unfold raiseStmt
  refine wpAny_bind (wpAny_bind (wpAny_mono h (fun v s₁ h₁ => wpAny_bind (wpAny_standAt (wpAny_pure ?_))) fun _ _ x => x))
  obtain ⟨a, T, od, rfl, X, ha, hE⟩ := h₁
  have hC := desk_in X
  obtain ⟨hp, g, d, tk, os⟩ := s₁
  have hcB : ([Value.ref 59, .ref 46, .type "Exception", .type "BaseException", .type "object"]).contains (.type "BaseException") = true := by rfl
  repeat (first | with_reducible refine wpAny_loadPart_at ha ?_ | with_reducible refine wpAny_loadPart_at hC ?_ | (with_reducible refine wpAny_isSubtype_exc hC ?_; rw [hcB]) | wp_step)
  exact wpAny_raiseNew_none hh hE
end Mine
end
-- Found
section
open PySem PySem.W PyProof.Rows PySem.Calls PySem.Spec
namespace Mine
theorem LettersAt.get' {w : World} {h : Heap} {vs : List Value} {ls : List LetD} (x : LettersAt w h vs ls) {i : Nat} {l : LetD} (e : ls[i]? = some l) : ∃ a, vs[i]? = some (.ref a) ∧ LetAt w h a l := by
  have hi : i < vs.length := by
    rw [x.length]
    exact (List.getElem?_eq_some_iff.mp e).1
  obtain ⟨a, l', hv, hl, hat⟩ := x.get i vs[i] (List.getElem?_eq_getElem hi)
  rw [e] at hl
  cases hl
  exact ⟨a, by rw [List.getElem?_eq_getElem hi, hv], hat⟩

theorem uid_none {ls : List LetD} {u : Nat} (h : ∀ l ∈ ls, (l.uid : Int) ≠ (u : Int)) : ∀ l ∈ ls, l.uid ≠ u := fun l hl e => h l hl (by rw [e])
theorem uid_cast {a u : Nat} (h : (a : Int) = (u : Int)) : a = u := by omega
theorem item_box {prog : Program} {w : World} {A : Around} {E : Value → Shared → Prop} {s : Shared} {g : Heap} {value slice : PySem.Expr} {lst : Addr} {ps : List Value} {ls : List LetD} {i : Nat} {l : LetD} {u : Tok} {Q : Value → Shared → Prop}
    (hl : s.heap.IsList lst ps.toArray) (hls : LettersAt w g ps ls) (hn : ls.length ≤ 5) (hi : ls[i]? = some l) (h : ∀ x, ps[i]? = some (.ref x) → Q (.ref x) s)
    (hs : subscripted slice false (.ref lst) (.int i u) = operate [.ref lst, .int i u] (getItem (.ref lst) (.int i u)) := by with_unfolding_all rfl) :
    wpAny (model prog w) A (subscriptTail value slice (.ref lst) (.int i u)) Q E s := by
  obtain ⟨x, hv, _⟩ := hls.get' hi
  have := (List.getElem?_eq_some_iff.mp hi).1
  exact item_at hl (by omega) (by omega) (by rw [Int.toNat_natCast]; exact hv) (h x hv) hs

section
set_option maxHeartbeats 4000000 in
theorem box_letter_spec (prog : Program) (w : World) (a lst : Addr) (ps : List Value) (b : BoxD) (u : Nat) (tu : Tok) (hn : b.letters.length ≤ 5) (hr : Rising b.letters) :
    Spec prog w 153 [.ref a, .int u tu] 4 100 [] (fun g => BoxAt w g a lst ps b) (fun _ v own' => ((v = .none ∧ ∀ l ∈ b.letters, l.uid ≠ u) ∨ ∃ (i : Nat) (l : LetD) (x : Addr), v = .ref x ∧ ps[i]? = some (.ref x) ∧ b.letters[i]? = some l ∧ l.uid = u) ∧ own' = []) := by
  k_with_none
  (k_with "cj" => (first | exact fun h => h.1 | exact fun h => h.2.1 | exact fun h => h.2.2.1 | exact fun h => h.2.2.2.1 | exact fun h => h.2.2.2.2.1 | exact fun h => h.2.2.2.2.2.1 | exact fun h => h.2.2.2.2.2.2.1 | exact fun h => h.2.2.2.2.2.2.2.1 | exact fun h => h.2.2.2.2.2.2.2.2.1 | exact fun h => h.2.2.2.2.2.2.2.2.2.1 | exact fun h => h.2.2.2.2.2.2.2.2.2.2.1 | exact fun h => h.2.2.2.2.2.2.2.2.2.2.2.1 | exact fun h => h.2.2.2.2.2.2.2.2.2.2.2.2.1 | exact fun h => h.2.2.2.2.2.2.2.2.2.2.2.2.2.1 | exact fun h => h.2 | exact fun h => h.2.2 | exact fun h => h.2.2.2 | exact fun h => h.2.2.2.2 | exact fun h => h.2.2.2.2.2 | exact fun h => h.2.2.2.2.2.2 | exact fun h => h.2.2.2.2.2.2.2 | exact fun h => h.2.2.2.2.2.2.2.2 | exact fun h => h.2.2.2.2.2.2.2.2.2 | exact fun h => h.2.2.2.2.2.2.2.2.2.2 | exact fun h => h.2.2.2.2.2.2.2.2.2.2.2 | exact fun h => h.2.2.2.2.2.2.2.2.2.2.2.2 | exact fun h => h.2.2.2.2.2.2.2.2.2.2.2.2.2))
  (k_with "omega" => (with_reducible first | assumption | exact Nat.le_of_ble_eq_true (by decide) | exact Nat.ne_of_gt (by assumption) | exact Nat.ne_of_lt (by assumption) | exact Mine.lm1 (by assumption) (by decide) | exact Mine.lm2 (by assumption) (by decide) | exact Mine.lm3 (by assumption) (by decide) | exact Mine.lm4 (by assumption) (by decide) | exact Mine.lm5 (by assumption) (by decide) | exact Mine.lm6 (by assumption) (by decide) | exact Mine.lm7 (by assumption) (by decide) | exact Mine.lm8 (by assumption) (by decide) | exact Mine.lm9 (by assumption) (by decide) | exact Int.natCast_nonneg _ | (refine Mine.cj1 (by assumption) ?_; k_extra "cj") | (refine Mine.cj2 (by assumption) ?_; k_extra "cj") | (refine Mine.cj3 (by assumption) ?_; k_extra "cj") | (refine Mine.cj4 (by assumption) ?_; k_extra "cj") | (refine Mine.cj5 (by assumption) (by assumption) ?_; k_extra "cj") | (refine Mine.cj6 (by assumption) (by assumption) ?_; k_extra "cj") | (refine Mine.cj7 (by assumption) (by assumption) (by assumption) ?_; k_extra "cj") | (refine Mine.cj8 (by assumption) (by assumption) (by assumption) ?_; k_extra "cj") | exact Mine.cj9 (by assumption) (by assumption) | exact Mine.cj10 (by assumption) (by assumption) | (refine Mine.cl1 (by assumption) ?_; k_extra "cj") | (refine Mine.cl2 (by assumption) (by assumption) ?_; k_extra "cj") | exact Mine.ns1 (by assumption) | exact Mine.ns2 (by assumption) | exact Mine.ns3 | exact Mine.ns4 | exact Mine.lm10 (by assumption) (by decide) | exact Mine.lm11 (by assumption) (by decide) | exact Mine.lm12 (by assumption) (by assumption) (by decide) | exact Mine.lm12 (by assumption) (Nat.le_refl _) (by decide) | exact Mine.lm13 (by assumption) (by assumption) (by decide) | exact Mine.lm13 (by assumption) (Nat.le_refl _) (by decide) | fail))
  (k_with "k_inst" => exact instAt_base (by assumption) (by assumption) (by assumption))
  (k_with "call ref" => ((with_reducible show wpAny _ _ (call (Value.ref 179) [Value.ref _, Value.int _ _]) _ _ _); k_dflt (refine' Spec.use0 (place_of_spec _ _ _ _ _ _ _ (by assumption) (by assumption)) (by assumption) (by assumption) (by assumption) (by assumption) (by assumption) (by rfl) ⟨by is_list, LettersAt.keeps (by assumption) (Fr.keep (by assumption))⟩ ?z3r40 ?z4r40 ?_); (case z3r40 => omega); (case z4r40 => omega); intro r own' h' tk' F' N' N2' f' ⟨⟨r', t', e1, hp'⟩, e2⟩; clear N2' f'; subst e1 e2; (rcases hp' with ⟨e3, hp'⟩ | ⟨i', l', e3, hi', hp'⟩ <;> subst e3); (try k_sweep)))
  (k_with "subscriptTail Name Name ref int" => (k_here; (with_unfolding_all refine' item_box ?k1r41 ?k2r41 ?k3r41 ?k4r41 ?_ ?k6r41; (case k1r41 => is_list); (case k2r41 => assumption); (case k3r41 => assumption); (case k4r41 => assumption); (case k6r41 => with_unfolding_all rfl); k_whole); intro x' hx'))
  refine spec_of [("self", .ref a), ("uid", .int u tu)] (by k_is) (by k_is) (fun s _ => BindsTo.of_eq rfl) (locs rfl) ?_ (by decide)
  rintro p loose mean mg mb dp un gd outer A₀ base g L' s B' F' N' X' T' ⟨d, n, t1, t2, t3, t4, t5, t6, t7, u1, u2, u3, u4, u5, gv, ha, hd, hl, hls⟩ hdp hun hlt
  k_fold
  have hlen := hls.length
  k_steps
  · refine Fin.intro (by assumption) News.nil ⟨.inl ⟨rfl, ?_⟩, rfl⟩
    exact uid_none (by assumption)
  · exact Fin.intro (by assumption) News.nil ⟨.inr ⟨_, _, _, rfl, by assumption, by assumption, uid_cast (by assumption)⟩, rfl⟩
end

/-- the end of a body that raises DeskFault -/
def RaiseEnd (g : Heap) (L' : Addr) (s : Shared) (own : List (Addr × Obj)) (P : Prop) (v : Value) (s' : Shared) : Prop :=
  ∃ e h' tk hR mR, v = .ref e ∧ s' = { s with heap := h', toks := tk } ∧ Fr g L' hR mR ∧ News g L' hR own ∧ DeskMade hR h' e ∧ P

theorem RaiseEnd.intro {w : World} {g : Heap} {L' : Addr} {s : Shared} {own : List (Addr × Obj)} {P : Prop} {e : Addr} {h' : Heap} {tk : Nat} {m : Str → Option Value} {hR : Heap} (F : Fr g L' hR m) (N : News g L' hR own) (X : (Mine.hd.heap_1 w.params).In g) (D : DeskMade hR h' e) (hP : P) :
    RaisableX w (RaiseEnd g L' s own P) (.ref e) { s with heap := h', toks := tk } := by
  obtain ⟨T, od, he⟩ := D.there
  exact ⟨e, T, od, rfl, (X.keeps F.keep).keeps D.keeps, he, e, h', tk, hR, m, rfl, rfl, F, N, D, hP⟩


theorem leave_desk {M : Model} {A : Around} {E : Value → Shared → Prop} {s' : Shared} {base g h : Heap} {outer : List Env} {L a e : Addr} {m : Str → Option Value} {name : Str} {scope : Scope} {cd : Value} {Q : Unit → Shared → Prop} {news : List (Addr × Obj)}
    (K : Below A base outer g) (hx : DeskMade h s'.heap e) (F : Fr g L h m) (N : News g L h news)
    (hQ : ∀ h', RaisedSN base g outer e (.ref 59) news h' → g.UpToSlots h' → Q () { s' with heap := h' }) (hk : scope.kind = .function := by rfl) :
    wpAny M (A.deeper (envOf name scope L a cd)) (leaving (envOf name scope L a cd) (.ref e)) Q E s' := by
  have K' := K.push (name := name) (a := a) (cd := cd) F hk
  have hin : ∀ env ∈ (envOf name scope L a cd :: outer), ∀ b, env.frame = some b → b ∈ (envOf name scope L a cd :: outer).filterMap (·.frame) := fun env he b hb => List.mem_filterMap.mpr ⟨env, he, hb⟩
  have st : base.StaysIn (hideAll h ((envOf name scope L a cd :: outer).filterMap (·.frame))) := fun b o q => hideAll_get _ (K'.stays b o q) fun hm => by
    rw [(K'.frames.mem hm).1] at q; cases q
  have sg : ∀ b o, g.get? b = some o → b ∉ outer.filterMap (·.frame) → (hideAll h ((envOf name scope L a cd :: outer).filterMap (·.frame))).get? b = some o := fun b o q nm => hideAll_get _ (F.keep b o q) fun hm => by
    rcases kts_mem hm with z | z
    · rw [z, kts_self F] at q
      cases q
    · exact nm z
  have hl : ∀ q ∈ news, (hideAll h ((envOf name scope L a cd :: outer).filterMap (·.frame))).get? q.1 = some q.2 ∧ g.get? q.1 = none ∧ base.get? q.1 = none := fun q hq => by
    refine ⟨hideAll_get _ (N q hq).1 fun hm => ?_, (N q hq).2.2, fresh_of_stays K.stays (N q hq).2.2⟩
    obtain ⟨env, he, hf⟩ := List.mem_filterMap.mp hm
    rcases List.mem_cons.mp he with rfl | he
    · exact (N q hq).2.1 (Option.some.inj hf).symm
    · obtain ⟨o, ho, _⟩ := (K.frames.mem (List.mem_filterMap.mpr ⟨env, he, hf⟩)).2
      rw [(N q hq).2.2] at ho; cases ho
  obtain ⟨T, od, he⟩ := hx.there
  have hen : (hideAll h ((envOf name scope L a cd :: outer).filterMap (·.frame))).get? e = none := by
    cases q : (hideAll h ((envOf name scope L a cd :: outer).filterMap (·.frame))).get? e with
    | none => rfl
    | some o => have := of_hideAll _ q; rw [hx.new] at this; cases this
  refine wpAny_leaving_firstW (a0 := .ref T) K'.stack ((funFrames_hide K'.frames hin).of_keeps fun b o hb _ => ⟨o, hx.keeps b o hb, rfl⟩) rfl he (fun b o hb => hx.keeps b o (of_hideAll _ hb)) hen rfl rfl rfl fun h' hL => ?_
  obtain ⟨k1, ⟨_, _, k2⟩, k3, k4⟩ := hL
  have R : RaisedSN base g outer e (.ref 59) news h' := ⟨_, .ref T, st, sg, hl, k1, hen, k2, k3⟩
  exact hQ h' R (((Heap.UpToSlots.of_keeps F.keep).trans (Heap.UpToSlots.of_keeps hx.keeps)).trans k4)

/-- what a call of `f` upon `vs` does that may raise DeskFault, where `P` holds then -/
def SpecR (prog : Program) (w : World) (f : Addr) (vs : List Value) (dd uu : Nat) (own : List (Addr × Obj)) (Pre : Heap → Prop) (Post : Heap → Value → List (Addr × Obj) → Prop) (P : Prop) : Prop :=
  ∀ (p : Program) (loose : List Str) (mean : ExcName → Option Value) (mg mb : Str → Option Value) (dp un : Nat) (gd : Option (List Code)) (cn : Str) (cs : Scope) (a : Addr) (ccd : Value) (cl : List (Str × Addr)) (outer : List Env) (A₀ : Around) (base h₀ : Heap) (L : Addr) (m : Str → Option Value) (s : Shared)
    (Q E : Value → Shared → Prop),
    Below A₀ base outer h₀ → Fr h₀ L s.heap m → (Mine.hd.heap_1 w.params).In h₀ → News h₀ L s.heap own → Top p loose mean mg mb h₀ → cs.kind = .function → Pre (hid s.heap own) →
    dp + dd < recursionLimit → un + uu < cLine →
    (∀ r own' h' tk', Fr h₀ L h' m → News h₀ L h' own' → KeepX s.heap h' own → FreshX s.heap own own' → Post h' r own' → Q r { s with heap := h', toks := tk' }) →
    (∀ e h' tk', RaisedSN base (hid s.heap own) (envX cn cs L a ccd cl :: outer) e (.ref 59) own h' → (hid s.heap own).UpToSlots h' → P → E (.ref e) { s with heap := h', toks := tk' }) →
    wpAny (model prog w) (ktrTop dp un gd cn cs L a ccd cl outer) (call (.ref f) vs) Q E s

section
variable {prog : Program} {w : World} {vs : List Value} {dd uu : Nat} {own : List (Addr × Obj)} {Pre : Heap → Prop} {Post : Heap → Value → List (Addr × Obj) → Prop} {P : Prop}
  {name qual : Str} {params : Arguments} {body : List Stmt} {scope : Scope} {dV kV doc pm cdv ct oc : Value} {an od : Option Addr} {osl : Array (Option Value)} {f : Addr}
theorem spec_ofR (binds : List (Str × Value)) (ho : (Mine.hd.heap_1 w.params).lookup f = some ⟨oc, od, .func (fnOf name qual params body scope dV kV doc pm an cdv ct), osl⟩) (hcd : codeIn (Mine.hd.heap_1 w.params) cdv qual = true)
    (hbind : ∀ s : Shared, (Mine.hd.heap_1 w.params).In s.heap → BindsTo s (fnOf name qual params body scope dV kV doc pm an cdv ct) ⟨vs, []⟩ binds) (hloc : ∀ y ∈ binds, scope.names.lookup y.1 = some .local)
    (h : ∀ (p : Program) (loose : List Str) (mean : ExcName → Option Value) (mg mb : Str → Option Value) (dp un : Nat) (gd : Option (List Code)) (outer : List Env) (A₀ : Around) (base g : Heap) (L' : Addr) (s : Shared),
      Below A₀ base outer g → Fr g L' s.heap (fun y => binds.reverse.lookup y) → News g L' s.heap own → (Mine.hd.heap_1 w.params).In g → Top p loose mean mg mb g → Pre g → dp + dd ≤ recursionLimit → un + uu < cLine + 3 → (∀ q ∈ own, q.1 < L') →
      wpAny (model prog w) (ktrTop dp un gd qual scope L' f cdv [] outer) (execs body (envOf qual scope L' f cdv)) (fun fl s' => Fin g L' s Post (match fl with | .ret v => v | _ => .none) s') (RaiseEnd g L' s own P) s)
    (hdd : 0 < dd)
    (hco : scope.isCoroutine = false := by rfl) (hgen : scope.isGenerator = false := by rfl) (hk : scope.kind = .function := by rfl)
    (hcell : ∀ x ∈ scope.names, x.2 ≠ .cell := by decide) : SpecR prog w f vs dd uu own Pre Post P := by
  intro p loose mean mg mb dp un gd cn cs a ccd cl outer A₀ base h₀ L m s Q E B F X N T hk' hpre hdp hun ret rai
  refine wpAny_call ?_
  obtain ⟨FG, BG, st, lv⟩ := groundX (A := ktrTop dp un gd cn cs L a ccd cl outer) (R := fun r s' => match r with | .ok (.ret v) => Q v s' | .ok _ => False | .error e => E e s') B F N rfl rfl hk'
  refine codeAny_call_def (fd := fnX name qual params body scope [] dV kV doc pm an cdv ct) (body := body) (binds := binds) (by show dp < recursionLimit; omega) ((X.keeps F.keep) _ _ ho) rfl (T.nolimit.keeps F.keep) (codeRec_of (X.keeps F.keep) hcd) rfl (hbind s (X.keeps F.keep)) hcell hloc (fun h₁ hns hk₁ => ?_) hco hgen hk
  refine wpAny_mono (h p loose mean mg mb (dp + 1) (un + 3) gd (envX cn cs L a ccd cl :: outer) (ktrTop dp un gd cn cs L a ccd cl outer) base (hid s.heap own) s.heap.objs.size { s with heap := h₁, toks := s.toks + binds.length } BG
    ⟨hns, fun b o e => hk₁ b o (of_hideAll _ e), Nat.le_of_eq (hideAll_size _ _)⟩ (fun p hp => ⟨hk₁ _ _ (N p hp).1, Nat.ne_of_lt (Heap.lt_size (N p hp).1), hideAll_none _ (List.mem_map_of_mem hp)⟩) (X.keeps st) (T.keeps st) hpre (by omega) (by omega) fun p hp => Heap.lt_size (N p hp).1)
    (fun fl s' hfl => lv _ _ ?_) (fun v s' hr => ?_)
  · obtain ⟨h', tk, m', own', rfl, F', N', P⟩ := hfl
    exact leaveK_ F' N' fun kF kN => ret _ own' h' tk kF kN (fun b o e n => F'.keep b o (hideAll_get _ e n)) (freshX_of N') P
  · obtain ⟨e, h', tk, hR, mR, rfl, rfl, FR, NR, D, hP⟩ := hr
    exact leave_desk (name := qual) (scope := scope) (a := f) (cd := cdv) BG D FR NR (fun h2 R U => rai e h2 tk R U hP) hk
end

theorem BoxAt.keeps {w : World} {h h' : Heap} {a lst : Addr} {ps : List Value} {b : BoxD} (x : BoxAt w h a lst ps b) (k : ∀ b o, h.get? b = some o → h'.get? b = some o) : BoxAt w h' a lst ps b := by
  obtain ⟨d, n, t1, t2, t3, t4, t5, t6, t7, u1, u2, u3, u4, u5, gv, ha, hd, ⟨o, ho, r⟩, hls⟩ := x
  exact ⟨d, n, t1, t2, t3, t4, t5, t6, t7, u1, u2, u3, u4, u5, gv, k _ _ ha, k _ _ hd, ⟨o, k _ _ ho, r⟩, hls.keeps k⟩

section
set_option maxHeartbeats 4000000 in
theorem letter_in_spec (prog : Program) (w : World) (a lst : Addr) (ps : List Value) (b : BoxD) (u : Nat) (tu : Tok) (news : List (Addr × Obj)) (hn : b.letters.length ≤ 5) (hr : Rising b.letters) (hu : u < 1000) :
    SpecR prog w 92 [.ref a, .str (Str.ofString (toString (u : Int))) tu] 8 500 news (fun g => BoxAt w g a lst ps b) (fun _ v own' => own' = news ∧ ∃ (i : Nat) (l : LetD) (x : Addr), v = .ref x ∧ ps[i]? = some (.ref x) ∧ b.letters[i]? = some l ∧ l.uid = u)
      (∀ l ∈ b.letters, l.uid ≠ u) := by
  k_with_none
  (k_with "cj" => (first | exact fun h => h.1 | exact fun h => h.2.1 | exact fun h => h.2.2.1 | exact fun h => h.2.2.2.1 | exact fun h => h.2.2.2.2.1 | exact fun h => h.2.2.2.2.2.1 | exact fun h => h.2.2.2.2.2.2.1 | exact fun h => h.2.2.2.2.2.2.2.1 | exact fun h => h.2.2.2.2.2.2.2.2.1 | exact fun h => h.2.2.2.2.2.2.2.2.2.1 | exact fun h => h.2.2.2.2.2.2.2.2.2.2.1 | exact fun h => h.2.2.2.2.2.2.2.2.2.2.2.1 | exact fun h => h.2.2.2.2.2.2.2.2.2.2.2.2.1 | exact fun h => h.2.2.2.2.2.2.2.2.2.2.2.2.2.1 | exact fun h => h.2 | exact fun h => h.2.2 | exact fun h => h.2.2.2 | exact fun h => h.2.2.2.2 | exact fun h => h.2.2.2.2.2 | exact fun h => h.2.2.2.2.2.2 | exact fun h => h.2.2.2.2.2.2.2 | exact fun h => h.2.2.2.2.2.2.2.2 | exact fun h => h.2.2.2.2.2.2.2.2.2 | exact fun h => h.2.2.2.2.2.2.2.2.2.2 | exact fun h => h.2.2.2.2.2.2.2.2.2.2.2 | exact fun h => h.2.2.2.2.2.2.2.2.2.2.2.2 | exact fun h => h.2.2.2.2.2.2.2.2.2.2.2.2.2))
  (k_with "omega" => (with_reducible first | assumption | exact Nat.le_of_ble_eq_true (by decide) | exact Nat.ne_of_gt (by assumption) | exact Nat.ne_of_lt (by assumption) | exact Mine.lm1 (by assumption) (by decide) | exact Mine.lm2 (by assumption) (by decide) | exact Mine.lm3 (by assumption) (by decide) | exact Mine.lm4 (by assumption) (by decide) | exact Mine.lm5 (by assumption) (by decide) | exact Mine.lm6 (by assumption) (by decide) | exact Mine.lm7 (by assumption) (by decide) | exact Mine.lm8 (by assumption) (by decide) | exact Mine.lm9 (by assumption) (by decide) | exact Int.natCast_nonneg _ | (refine Mine.cj1 (by assumption) ?_; k_extra "cj") | (refine Mine.cj2 (by assumption) ?_; k_extra "cj") | (refine Mine.cj3 (by assumption) ?_; k_extra "cj") | (refine Mine.cj4 (by assumption) ?_; k_extra "cj") | (refine Mine.cj5 (by assumption) (by assumption) ?_; k_extra "cj") | (refine Mine.cj6 (by assumption) (by assumption) ?_; k_extra "cj") | (refine Mine.cj7 (by assumption) (by assumption) (by assumption) ?_; k_extra "cj") | (refine Mine.cj8 (by assumption) (by assumption) (by assumption) ?_; k_extra "cj") | exact Mine.cj9 (by assumption) (by assumption) | exact Mine.cj10 (by assumption) (by assumption) | (refine Mine.cl1 (by assumption) ?_; k_extra "cj") | (refine Mine.cl2 (by assumption) (by assumption) ?_; k_extra "cj") | exact Mine.ns1 (by assumption) | exact Mine.ns2 (by assumption) | exact Mine.ns3 | exact Mine.ns4 | exact Mine.lm10 (by assumption) (by decide) | exact Mine.lm11 (by assumption) (by decide) | exact Mine.lm12 (by assumption) (by assumption) (by decide) | exact Mine.lm12 (by assumption) (Nat.le_refl _) (by decide) | exact Mine.lm13 (by assumption) (by assumption) (by decide) | exact Mine.lm13 (by assumption) (Nat.le_refl _) (by decide) | fail))
  (k_with "k_inst" => exact instAt_base (by assumption) (by assumption) (by assumption))
  (k_with "exec Raise some none" => (k_here; refine raise_own (by rfl) ?_))
  (k_with "call ref" => first
  | ((with_reducible show wpAny _ _ (call (Value.ref 66) [Value.str _ _]) _ _ _); k_dflt (refine' Spec.use0 (whole_number_spec _ _ _ _ (by assumption)) (by assumption) (by assumption) (by assumption) (by assumption) (by assumption) (by rfl) trivial ?z3r44 ?z4r44 ?_); (case z3r44 => omega); (case z4r44 => omega); intro r own' h' tk' F' N' N2' f' ⟨⟨t', e1⟩, e2⟩; clear N2' f'; subst e1 e2; (try k_sweep))
  | ((with_reducible show wpAny _ _ (call (Value.ref 153) [Value.ref _, Value.int _ _]) _ _ _); k_dflt (refine' Spec.use0 (box_letter_spec _ _ _ _ _ _ _ _ (by assumption) (by assumption)) (by assumption) (by assumption) (by assumption) (by assumption) (by assumption) (by rfl) ?z2r44 ?z3r44 ?z4r44 ?_); (case z2r44 => exact BoxAt.keeps (by assumption) (Fr.keep (by assumption))); (case z3r44 => omega); (case z4r44 => omega); intro r own' h' tk' F' N' N2' f' ⟨hp', e2⟩; clear N2' f'; subst e2; (rcases hp' with ⟨e3, hp'⟩ | ⟨i', l', x', e3, hx', hi', hp'⟩ <;> subst e3); (try k_sweep))
  | ((with_reducible show wpAny _ _ (call (Value.ref 59) [Value.str _ _]) _ _ _); k_dflt (refine' desk_made (by assumption) (by assumption) (by assumption) (by assumption) (by rfl) ?z3r44 ?z4r44 ?_); (case z3r44 => omega); (case z4r44 => omega); intro e' h' tk' D'))
  refine spec_ofR [("box", .ref a), ("text", .str (Str.ofString (toString (u : Int))) tu)] (by k_is) (by k_is) (fun s _ => BindsTo.of_eq rfl) (locs rfl) ?_ (by decide)
  rintro p loose mean mg mb dp un gd outer A₀ base g L' s B' F' N' X' T' hb hdp hun hlt
  k_fold
  have hb' := hb
  obtain ⟨d, n, t1, t2, t3, t4, t5, t6, t7, u1, u2, u3, u4, u5, gv, ha, hd, hl, hls⟩ := hb'
  k_steps
  · exact RaiseEnd.intro (by assumption) (by assumption) (by assumption) (by assumption) (by assumption)
  · exact Fin.intro (by assumption) (by assumption) ⟨rfl, _, _, _, rfl, by assumption, by assumption, by assumption⟩
end
end Mine
end
-- IsF
section
open PySem PySem.W PyProof.Rows PySem.Calls PySem.Spec
namespace Mine

section
variable {prog : Program} {w : World} {A A₀ : Around} {E : Value → Shared → Prop} {s' : Shared} {base g G : Heap} {outer : List Env} {L a e : Addr} {m : Str → Option Value} {name : Str} {scope : Scope} {cd : Value} {cl : List (Str × Addr)}
  {b₀ : Stmt} {suite : List Stmt} {pos np : Pos} {rest : List ExceptHandler} {Q : Flow → Shared → Prop} {news : List (Addr × Obj)}
  {p : Program} {loose : List Str} {mean : ExcName → Option Value} {mg mb : Str → Option Value}
theorem caught_desk (hA : A.frames = some (envX name scope L a cd cl :: outer)) (R : RaisedSN base G (envX name scope L a cd cl :: outer) e (.ref 59) news s'.heap) (F : Fr g L G m) (K : Below A₀ base outer g) (hsm : G.UpToSlots s'.heap) (XB : (Mine.hd.heap_1 w.params).In base) (TB : Top p loose mean mg mb base)
    (k : ∀ h' g', KtsTurn (outer.filterMap (·.frame)) g g' → Fr g' L h' m → News g' L h' news → Below A₀ base outer g' → (Mine.hd.heap_1 w.params).In g' → Top p loose mean mg mb g' →
      wpAny (model prog w) (A.mark (some (.ref e))) (execs (b₀ :: suite) (envX name scope L a cd cl)) Q E { s' with heap := h' })
    (hk : scope.kind = .function := by rfl) (hx : (envX name scope L a cd cl).kindOf "DeskFault" = some .globalImplicit := by rfl)
    (hE : PassesOwnAt (model prog w) (A.mark (some (.ref e))) A (envX name scope L a cd cl) E := by passes_own) :
    wpAny (model prog w) A (noteFrame (.ref e) (envX name scope L a cd cl))
      (fun _ s₂ => wpAny (model prog w) A (setFlight (.ref e) none) (fun _ s₃ =>
        wpAny (model prog w) A (handleBy (.ref e) (envX name scope L a cd cl) (.ExceptHandler (some (.Name "DeskFault" np)) none (b₀ :: suite) pos :: rest)) Q E s₃) E s₂) E s' := by
  obtain ⟨B, a0, hB, hBG, hl, hfl⟩ := R
  have hL : B.get? L = none := by
    obtain ⟨_, ⟨L', _, hf, hn', _⟩, _⟩ := hfl.2.2.1
    obtain rfl : L = L' := Option.some.inj hf
    exact hn'
  refine wpAny_looks_onW hA rfl hfl fun h₄ hheld₄ hsm₄ => ?_
  refine wpAny_landsW hheld₄ fun h₅ hheld hsm₅' => ?_
  have hsm₅ := hsm₄.trans hsm₅'
  obtain ⟨g₅, T₅, F₅, K₅⟩ := kts_ground (name := name) (scope := scope) (a := a) (cd := cd) K F hBG hheld.1 (hsm.trans hsm₅)
  have X₅ : (Mine.hd.heap_1 w.params).In g₅ := XB.keeps K₅.stays
  have P₅ : TopRead p loose mg mb g₅ := topRead_of (TB.keeps K₅.stays)
  obtain ⟨ob, hob, hobc⟩ := hheld.there
  refine wpAny_handleBy_cons (codeAny_handlers_test (nameX_K F₅ X₅ P₅ (v := .ref 59) (by k_is) (wpAny_excMatches_sub_self (desk_in (X₅.keeps F₅.keep)) hob hobc (by rfl) ?_) hk hx)) (by intro q; cases q)
  refine codeAny_handlers_suite ?_
  refine lands_againW hheld fun h₆ hfl₆ hsm₆ => ?_
  obtain ⟨g₆, T₆, F₆, K₆⟩ := kts_ground (name := name) (scope := scope) (a := a) (cd := cd) K F hBG hfl₆.1 ((hsm.trans hsm₅).trans hsm₆)
  have Nl : News g₆ L h₆ news := fun q hq => ⟨hfl₆.1 _ _ (hl q hq).1, (fun z => by have := (hl q hq).1; rw [z, hL] at this; cases this), T₆.none_ _ (kts_none F.keep (hl q hq).2.1)⟩
  have X₆ : (Mine.hd.heap_1 w.params).In g₆ := XB.keeps K₆.stays
  have P₆ : Top p loose mean mg mb g₆ := TB.keeps K₆.stays
  exact wpAny_passesOwnAt hE (k h₆ g₆ T₆ F₆ Nl K₆ X₆ P₆)
end

/-- the end of a body that may have caught an exception: the frames below may have got their slots -/
def FinT (fs : List Addr) (g : Heap) (L' : Addr) (s : Shared) (P : Value → Prop) (v : Value) (s' : Shared) : Prop :=
  ∃ g' h' tk m' own', s' = { s with heap := h', toks := tk } ∧ KtsTurn fs g g' ∧ Fr g' L' h' m' ∧ News g' L' h' own' ∧ P v
theorem FinT.intro {fs : List Addr} {g g' : Heap} {L' : Addr} {s : Shared} {P : Value → Prop} {v : Value} {h' : Heap} {tk : Nat} {m' : Str → Option Value} {own' : List (Addr × Obj)}
    (T : KtsTurn fs g g') (F : Fr g' L' h' m') (N : News g' L' h' own') (hP : P v) : FinT fs g L' s P v { s with heap := h', toks := tk } := ⟨g', h', tk, m', own', rfl, T, F, N, hP⟩

section
variable {prog : Program} {w : World} {vs : List Value} {dd uu : Nat} {Pre : Heap → Prop} {P : Value → Prop}
  {name qual : Str} {params : Arguments} {body : List Stmt} {scope : Scope} {dV kV doc pm cdv ct oc : Value} {an od : Option Addr} {osl : Array (Option Value)} {f : Addr}

/-- a call from the outermost frame of a function whose names a comprehension captures, and that may catch an exception -/
theorem call_ofT (binds : List (Str × Value)) (ho : (Mine.hd.heap_1 w.params).lookup f = some ⟨oc, od, .func (fnOf name qual params body scope dV kV doc pm an cdv ct), osl⟩) (hcd : codeIn (Mine.hd.heap_1 w.params) cdv qual = true)
    (hbind : ∀ s : Shared, (Mine.hd.heap_1 w.params).In s.heap → BindsTo s (fnOf name qual params body scope dV kV doc pm an cdv ct) ⟨vs, []⟩ binds)
    (hkind : (binds.all fun y => scope.names.lookup y.1 == some .local || scope.names.lookup y.1 == some .cell) = true)
    (hnd : ((cellsFrom 0 scope.names []).map (·.1)).Nodup)
    (h : ∀ (p : Program) (loose : List Str) (mean : ExcName → Option Value) (mg mb : Str → Option Value) (dp un : Nat) (gd : Option (List Code)) (outer : List Env) (A₀ : Around) (base g : Heap) (L' : Addr) (cells : List (Addr × Obj)) (s : Shared),
      Below A₀ base outer g → Fr g L' s.heap (bindL (envOfC qual scope L' f cdv).kindOf binds fun _ => none) → News g L' s.heap cells →
      CellsAre (bindC (envOfC qual scope L' f cdv).kindOf binds fun _ => none) (cellsFrom (L' + 1) scope.names []) cells → (Mine.hd.heap_1 w.params).In g → Top p loose mean mg mb g → (Mine.hd.heap_1 w.params).In base → Top p loose mean mg mb base → Pre g → dp + dd ≤ recursionLimit → un + uu < cLine + 3 →
      wpAny (model prog w) (ktrTop dp un gd qual scope L' f cdv (cellsFrom (L' + 1) scope.names []) outer) (execs body (envOfC qual scope L' f cdv)) (fun fl s' => FinT (outer.filterMap (·.frame)) g L' s P (match fl with | .ret v => v | _ => .none) s') (fun _ _ => False) s)
    (hdd : 0 < dd)
    {p : Program} {loose : List Str} {mean : ExcName → Option Value} {mg mb : Str → Option Value} {dp un : Nat} {gd : Option (List Code)} {cn : Str} {cs : Scope} {a : Addr} {ccd : Value} {cl : List (Str × Addr)} {A₀ : Around} {h₀ : Heap} {L : Addr} {m : Str → Option Value} {s : Shared} {news : List (Addr × Obj)}
    {Q E : Value → Shared → Prop} (B : Below A₀ h₀ [] h₀) (F : Fr h₀ L s.heap m) (X : (Mine.hd.heap_1 w.params).In h₀) (N : News h₀ L s.heap news) (T : Top p loose mean mg mb h₀) (hk' : cs.kind = .function) (hpre : Pre s.heap) (hdp : dp + dd < recursionLimit) (hun : un + uu < cLine)
    (ret : ∀ r h' tk', Fr h₀ L h' m → News h₀ L h' news → P r → Q r { s with heap := h', toks := tk' })
    (hco : scope.isCoroutine = false := by rfl) (hgen : scope.isGenerator = false := by rfl) (hk : scope.kind = .function := by rfl) :
    wpAny (model prog w) (ktrTop dp un gd cn cs L a ccd cl []) (call (.ref f) vs) Q E s := by
  refine wpAny_call ?_
  obtain ⟨FG, BG, st, -⟩ := groundX (A := ktrTop dp un gd cn cs L a ccd cl []) (R := fun r s' => match r with | .ok (.ret v) => Q v s' | .ok _ => False | .error e => E e s') B F (News.nil (h₀ := h₀) (L := L) (h := s.heap)) rfl rfl hk'
  refine codeAny_call_function (by show dp < recursionLimit; omega) ((X.keeps F.keep) _ _ ho) rfl hco hgen rfl (codeRec_of (X.keeps F.keep) hcd) ?_
  refine hbind s (X.keeps F.keep) _ _ _ _ ?_
  refine wpAny_newFunctionEnv_cells hk (kindsX hkind _) fun env' he s' x => ?_
  subst he
  refine ⟨(T.nolimit.keeps F.keep).keeps x.toInCall.keep, codeAny_func ?_⟩
  obtain ⟨h₁, tk, rfl, _⟩ := x.done
  have hk₁ := x.toInCall.keep
  obtain ⟨cells, NC, Y⟩ := Cl.news (h₀ := s.heap) (Nat.le_refl _) fun n c hm => ⟨x.cell n c (lookup_of_mem_nodup (cellsFrom_names scope.names 0 (s.heap.objs.size + 1) [] [] rfl ▸ hnd) hm), x.above n c hm⟩
  refine wpAny_mono (h p loose mean mg mb (dp + 1) (un + 3) gd (envX cn cs L a ccd cl :: []) (ktrTop dp un gd cn cs L a ccd cl []) h₀ s.heap s.heap.objs.size cells { s with heap := h₁, toks := tk } BG
    ⟨x.toInCall.ns, fun b o e => hk₁ b o e, Nat.le_refl _⟩ NC Y (X.keeps st) (T.keeps st) X T hpre (by omega) (by omega))
    (fun fl s' hfl => ?_) (fun _ _ x => x.elim)
  obtain ⟨g', h', tk', m', own', rfl, KT, F', N', hP⟩ := hfl
  have up : ∀ b o, s.heap.get? b = some o → b ≠ L → h'.get? b = some o := fun b o e n => F'.keep _ _ (KT.other b o e (by
    intro hm
    rw [show [envX cn cs L a ccd cl].filterMap (·.frame) = [L] from rfl, List.mem_singleton] at hm
    exact n hm))
  refine ret _ h' tk' ⟨?_, fun b o e => ?_, F.above⟩ (fun q hq => ⟨up _ _ (N q hq).1 (N q hq).2.1, (N q hq).2⟩) hP
  · obtain ⟨oL, es, ep, hL, r⟩ := F.ns
    obtain ⟨sl, hs⟩ := KT.up hL
    exact ⟨_, es, ep, F'.keep _ _ hs, r⟩
  · refine up b o (F.keep b o e) fun z => ?_
    have := kts_self F
    rw [z, this] at e
    cases e
end


/-- what `[letter for letter in .. if letter.uid == uid]` holds -/
def theres : List Value → List LetD → Nat → List Value
  | v :: vs, l :: ls, u => if l.uid = u then v :: theres vs ls u else theres vs ls u
  | _, _, _ => []
theorem theres_len : ∀ (vs : List Value) (ls : List LetD) (u : Nat), (theres vs ls u).length ≤ ls.length
  | [], _, _ => by simp [theres]
  | _ :: _, [], _ => by simp [theres]
  | v :: vs, l :: ls, u => by
    have := theres_len vs ls u
    unfold theres
    split
    · simp only [List.length_cons]; omega
    · simp only [List.length_cons]; omega
theorem theres_snoc : ∀ (vs : List Value) (ls : List LetD) (u i : Nat) (v : Value) (l : LetD), vs[i]? = some v → ls[i]? = some l →
    theres (vs.take (i + 1)) (ls.take (i + 1)) u = theres (vs.take i) (ls.take i) u ++ (if l.uid = u then [v] else [])
  | [], _, _, _, _, _, h, _ => by simp at h
  | _ :: _, [], _, _, _, _, _, h => by simp at h
  | a :: vs, b :: ls, u, 0, v, l, h1, h2 => by
    simp at h1 h2
    subst h1 h2
    simp only [List.take_succ_cons, List.take_zero, theres, List.nil_append]
  | a :: vs, b :: ls, u, i + 1, v, l, h1, h2 => by
    have ih := theres_snoc vs ls u i v l (by simpa using h1) (by simpa using h2)
    simp only [List.take_succ_cons, theres]
    rw [ih]
    split <;> simp
theorem theres_none : ∀ (vs : List Value) (ls : List LetD) (u : Nat), (∀ l ∈ ls, l.uid ≠ u) → theres vs ls u = []
  | [], _, _, _ => by simp [theres]
  | _ :: _, [], _, _ => by simp [theres]
  | v :: vs, l :: ls, u, h => by
    unfold theres
    rw [if_neg (h l (List.mem_cons_self ..)), theres_none vs ls u fun x hx => h x (List.mem_cons_of_mem _ hx)]
theorem rising_tail {l : LetD} {ls : List LetD} (h : Rising (l :: ls)) : Rising ls := fun i j a b hij ha hb => h (i + 1) (j + 1) a b (by omega) (by simpa using ha) (by simpa using hb)
theorem theres_one : ∀ (vs : List Value) (ls : List LetD) (u i : Nat) (v : Value) (l : LetD), Rising ls → vs[i]? = some v → ls[i]? = some l → l.uid = u → vs.length = ls.length → theres vs ls u = [v]
  | [], _, _, _, _, _, _, h, _, _, _ => by simp at h
  | _ :: _, [], _, _, _, _, _, _, h, _, _ => by simp at h
  | a :: vs, b :: ls, u, 0, v, l, hr, h1, h2, hu, hl => by
    simp at h1 h2
    subst h1 h2
    unfold theres
    rw [if_pos hu, theres_none vs ls u fun x hx e => ?_]
    obtain ⟨j, hj⟩ := List.mem_iff_getElem?.mp hx
    have := hr 0 (j + 1) b x (by omega) (by simp) (by simpa using hj)
    omega
  | a :: vs, b :: ls, u, i + 1, v, l, hr, h1, h2, hu, hl => by
    have h2' : ls[i]? = some l := by simpa using h2
    have hb : b.uid ≠ u := by
      have := hr 0 (i + 1) b l (by omega) (by simp) h2
      omega
    unfold theres
    rw [if_neg hb]
    exact theres_one vs ls u i v l (rising_tail hr) (by simpa using h1) h2' hu (by simpa using hl)

section
variable {prog : Program} {w : World} {A : Around} {E : Value → Shared → Prop} {s : Shared} {h₀ : Heap} {L C c d fa : Addr} {o : Obj} {m mc mg mb : Str → Option Value} {scope : Scope} {cl' : List (Str × Addr)} {news : List (Addr × Obj)}
  {p : Program} {loose : List Str} {mean : ExcName → Option Value} {p1 p2 p3 p4 : Pos} {Q : Bool → Shared → Prop} {env : Env}
set_option maxHeartbeats 1000000 in
theorem test_uid {ax : Addr} {l : LetD} {u n : Nat} {tu t1 t2 t3 t4 t5 u1 u2 u4 u5 : Tok} {b : Array UInt8} (F : Fr h₀ L s.heap m) (N : News h₀ L s.heap news) (X : (Mine.hd.heap_1 w.params).In h₀) (hn : s.heap.Ns C mc) (hx : mc (Str.ofString "letter") = some (.ref ax))
    (ha : h₀.get? ax = some (instObj 128 d)) (hd : h₀.get? d = some (dictOf [ent w "uid" t1 (.int l.uid u1), ent w "octets" t2 (.bytes b u2), ent w "flags" t3 (.ref fa), ent w "instant" t4 (.int 0 u4), ent w "modseq" t5 (.int l.modseq u5)] n))
    (hc : cl'.lookup (Str.ofString "uid") = some c) (hm : (c, o) ∈ news) (ho : o.data = .cell (some (.int u tu)))
    (hk : (compEnvC scope cl' C env).scope.kind = .function) (hkx : (compEnvC scope cl' C env).kindOf "letter" = some .local) (hku : (compEnvC scope cl' C env).kindOf "uid" = some .cell)
    (h : ∀ tk, Q (decide (l.uid = u)) { s with toks := tk }) :
    wpAny (model prog w) A (isTrue (.Compare (.Attribute (.Name "letter" p1) "uid" p2) [.Eq] [.Name "uid" p3] p4) (compEnvC scope cl' C env) (eval (.Compare (.Attribute (.Name "letter" p1) "uid" p2) [.Eq] [.Name "uid" p3] p4) (compEnvC scope cl' C env))) Q E s := by
  k_with_none
  (k_with "cj" => (first | exact fun h => h.1 | exact fun h => h.2.1 | exact fun h => h.2.2.1 | exact fun h => h.2.2.2.1 | exact fun h => h.2.2.2.2.1 | exact fun h => h.2.2.2.2.2.1 | exact fun h => h.2.2.2.2.2.2.1 | exact fun h => h.2.2.2.2.2.2.2.1 | exact fun h => h.2.2.2.2.2.2.2.2.1 | exact fun h => h.2.2.2.2.2.2.2.2.2.1 | exact fun h => h.2.2.2.2.2.2.2.2.2.2.1 | exact fun h => h.2.2.2.2.2.2.2.2.2.2.2.1 | exact fun h => h.2.2.2.2.2.2.2.2.2.2.2.2.1 | exact fun h => h.2.2.2.2.2.2.2.2.2.2.2.2.2.1 | exact fun h => h.2 | exact fun h => h.2.2 | exact fun h => h.2.2.2 | exact fun h => h.2.2.2.2 | exact fun h => h.2.2.2.2.2 | exact fun h => h.2.2.2.2.2.2 | exact fun h => h.2.2.2.2.2.2.2 | exact fun h => h.2.2.2.2.2.2.2.2 | exact fun h => h.2.2.2.2.2.2.2.2.2 | exact fun h => h.2.2.2.2.2.2.2.2.2.2 | exact fun h => h.2.2.2.2.2.2.2.2.2.2.2 | exact fun h => h.2.2.2.2.2.2.2.2.2.2.2.2 | exact fun h => h.2.2.2.2.2.2.2.2.2.2.2.2.2))
  (k_with "omega" => (with_reducible first | assumption | exact Nat.le_of_ble_eq_true (by decide) | exact Nat.ne_of_gt (by assumption) | exact Nat.ne_of_lt (by assumption) | exact Mine.lm1 (by assumption) (by decide) | exact Mine.lm2 (by assumption) (by decide) | exact Mine.lm3 (by assumption) (by decide) | exact Mine.lm4 (by assumption) (by decide) | exact Mine.lm5 (by assumption) (by decide) | exact Mine.lm6 (by assumption) (by decide) | exact Mine.lm7 (by assumption) (by decide) | exact Mine.lm8 (by assumption) (by decide) | exact Mine.lm9 (by assumption) (by decide) | exact Int.natCast_nonneg _ | (refine Mine.cj1 (by assumption) ?_; k_extra "cj") | (refine Mine.cj2 (by assumption) ?_; k_extra "cj") | (refine Mine.cj3 (by assumption) ?_; k_extra "cj") | (refine Mine.cj4 (by assumption) ?_; k_extra "cj") | (refine Mine.cj5 (by assumption) (by assumption) ?_; k_extra "cj") | (refine Mine.cj6 (by assumption) (by assumption) ?_; k_extra "cj") | (refine Mine.cj7 (by assumption) (by assumption) (by assumption) ?_; k_extra "cj") | (refine Mine.cj8 (by assumption) (by assumption) (by assumption) ?_; k_extra "cj") | exact Mine.cj9 (by assumption) (by assumption) | exact Mine.cj10 (by assumption) (by assumption) | (refine Mine.cl1 (by assumption) ?_; k_extra "cj") | (refine Mine.cl2 (by assumption) (by assumption) ?_; k_extra "cj") | exact Mine.ns1 (by assumption) | exact Mine.ns2 (by assumption) | exact Mine.ns3 | exact Mine.ns4 | exact Mine.lm10 (by assumption) (by decide) | exact Mine.lm11 (by assumption) (by decide) | exact Mine.lm12 (by assumption) (by assumption) (by decide) | exact Mine.lm12 (by assumption) (Nat.le_refl _) (by decide) | exact Mine.lm13 (by assumption) (by assumption) (by decide) | exact Mine.lm13 (by assumption) (Nat.le_refl _) (by decide) | fail))
  (k_with "k_inst" => exact instAt_base (by assumption) (by assumption) (by assumption))
  (k_with "eval Name" => ((with_reducible show wpAny _ _ (eval (Expr.Name _ _) (compEnvC _ _ _ _)) _ _ _); first
  | (refine nb_local (by assumption) (by assumption) (by assumption) (by assumption) (by decide) ?_)
  | (refine lcf_cell (by assumption) (by assumption) (by assumption) (by assumption) ?_ (by assumption) (by assumption))))
  have e : ((l.uid : Int) == (u : Int)) = decide (l.uid = u) := by
    by_cases q : l.uid = u
    · simp [q]
    · rw [beq_eq_false_iff_ne.mpr (by omega : (l.uid : Int) ≠ (u : Int))]
      simp [q]
  repeat' (first | (walk1; (try dsimp only)))
  rw [e]
  exact h _
end

/-- the source of `[letter for letter in .. if letter.uid == uid]` -/
def ThereSrc (w : World) (h₀ : Heap) (L : Addr) (m : Str → Option Value) (c : Addr) (Q : Value → Shared → Prop) (xv : Value) (s₁ : Shared) : Prop :=
  ∃ (u : Nat) (lst : Addr) (ps : List Value) (ls : List LetD) (o : Obj) (tu : Tok) (news : List (Addr × Obj)), xv = .ref lst ∧ s₁.heap.IsList lst ps.toArray ∧ LettersAt w h₀ ps ls ∧ ls.length ≤ 5 ∧ Fr h₀ L s₁.heap m ∧ News h₀ L s₁.heap news ∧ (c, o) ∈ news ∧ o.data = .cell (some (.int u tu)) ∧
    ∀ D h tk, Fr h₀ L h m → News h₀ L h ((D, LCg.lst (theres ps ls u)) :: news) → (∀ p ∈ news, p.1 ≠ D) → Q (.ref D) { s₁ with heap := h, toks := tk }
theorem ThereSrc.intro {w : World} {h₀ : Heap} {L : Addr} {m : Str → Option Value} {c : Addr} {u : Nat} {Q : Value → Shared → Prop} {s₁ : Shared} {lst : Addr} {ps : List Value} {ls : List LetD} {o : Obj} {tu : Tok} {news : List (Addr × Obj)}
    (hl : s₁.heap.IsList lst ps.toArray) (hls : LettersAt w h₀ ps ls) (hn : ls.length ≤ 5) (F : Fr h₀ L s₁.heap m) (N : News h₀ L s₁.heap news) (hm : (c, o) ∈ news) (ho : o.data = .cell (some (.int u tu)))
    (out : ∀ D h tk, Fr h₀ L h m → News h₀ L h ((D, LCg.lst (theres ps ls u)) :: news) → (∀ p ∈ news, p.1 ≠ D) → Q (.ref D) { s₁ with heap := h, toks := tk }) : ThereSrc w h₀ L m c Q (.ref lst) s₁ :=
  ⟨u, lst, ps, ls, o, tu, news, rfl, hl, hls, hn, F, N, hm, ho, out⟩

section
variable {prog : Program} {w : World} {A : Around} {E : Value → Shared → Prop} {s : Shared} {h₀ : Heap} {L c : Addr} {m : Str → Option Value} {scope : Scope} {cl' : List (Str × Addr)}
  {p1 p2 p3 p4 p5 p6 pos : Pos} {Q : Value → Shared → Prop} {env : Env}
theorem comp_there {iter : PySem.Expr} (_F : Fr h₀ L s.heap m) (X : (Mine.hd.heap_1 w.params).In h₀) (hh : A.handled = none)
    (hclos : closureFor scope env = pure cl') (hcell : ∀ y ∈ scope.names, y.2 ≠ .cell) (hkind : scope.kind = .function)
    (hnames : ∀ y ∈ scope.names, y.2 = .local → scope.names.lookup y.1 = some .local) (hx : scope.names.lookup (Str.ofString "letter") = some .local) (hk : ∀ C, (compEnvC scope cl' C env).scope.kind = .function)
    (hku : ∀ C, (compEnvC scope cl' C env).kindOf "uid" = some .cell) (hc : cl'.lookup (Str.ofString "uid") = some c)
    (h : wpAny (model prog w) A (eval iter env) (ThereSrc w h₀ L m c Q) E s)
    (hs : ∀ x, foldedSetIterable iter env x = pure x := by intro _; rfl) :
    wpAny (model prog w) A (eval (.ListComp (.Name "letter" p5) [⟨.Name (Str.ofString "letter") p6, iter, [.Compare (.Attribute (.Name "letter" p1) "uid" p2) [.Eq] [.Name "uid" p3] p4], 0⟩] scope pos) env) Q E s := by
  refine comp_eval (h₀ := h₀) (L := L) (m := m) hclos hcell hkind hnames (wpAny_mono h (fun xv s₁ hsrc => ?_) fun _ _ e => e) hs
  obtain ⟨u, lst, ps, ls, o, tu, news, rfl, hl, hls, hn5, F, N, hm, ho, out⟩ := hsrc
  have hlen := hls.length
  refine src_list (R := fun i ys own₁ => own₁ = [] ∧ ys = theres (ps.take i) (ls.take i) u) hh hl (by rw [hlen, sizeLine_eq]; omega) hkind hx F News.nil (List.forall_mem_nil _) ⟨rfl, by simp [theres]⟩ ?_ ?_
  · rintro i ys own₁ C mc s E' hlt _ ⟨rfl, hys⟩ F' N' hn ⟨v, hv, hmc⟩ _ _ _ hk' _
    obtain ⟨ax, l, rfl, hl', d, fa, fvs, n, b, t1, t2, t3, t4, t5, u1, u2, u4, u5, ha, hd, _⟩ := hls.get i v hv
    have N2 : News h₀ L s.heap news := fun p hp => ⟨hk' _ _ (N p hp).1 (by simp), (N p hp).2⟩
    have hsn := theres_snoc ps ls u i _ l hv hl'
    refine Turn.test (test_uid F' N2 X hn hmc ha hd hc hm ho (hk C) (lookup_relabel_local hx) (hku C) fun tk => ?_)
    by_cases q : l.uid = u
    · rw [if_pos q] at hsn
      simp only [q, decide_true, if_true]
      exact nb_local (s := { s with toks := tk }) hn hmc (hk C) (lookup_relabel_local hx) (by decide) (TEnd.same F' N' ⟨rfl, by rw [hsn, hys]⟩)
    · rw [if_neg q, List.append_nil] at hsn
      simp only [q, decide_false, Bool.false_eq_true, if_false]
      exact TEnd.same F' N' ⟨rfl, by rw [hsn, hys]⟩
  · intro D h tk ys own' F' _ hD hD₀ hDL _ hsD hr hk' _
    obtain ⟨rfl, rfl⟩ := hr
    rw [List.take_length, hlen, List.take_length] at hD
    refine out D h tk F' (fun p hp => ?_) (fun p hp e => ?_)
    · rcases List.mem_cons.mp hp with rfl | hp
      · exact ⟨hD, hDL, hD₀⟩
      · exact ⟨hk' _ _ (N p hp).2.1 (N p hp).1 (by simp), (N p hp).2⟩
    · have := (N p hp).1; rw [e, hsD] at this; cases this
end
theorem EqS.one_nil {prog : Program} {w : World} {A : Around} {E : Value → Shared → Prop} {s : Shared} {a b : Addr} {v : Value} {Q : Value → Shared → Prop} (hl : s.heap.IsList a [v].toArray) (hb : s.heap.IsList b ([] : List Value).toArray) (hu : A.units < cLine) (h : Q (.bool false) s) :
    wpAny (model prog w) A (compareOp .Eq (.ref a) (.ref b)) Q E s := PySem.SeqAt.eq_list_lengthsAt hl hb (by rfl) hu h
theorem hid_fr {h₀ : Heap} {L : Addr} {m : Str → Option Value} {h : Heap} {news : List (Addr × Obj)} (F : Fr h₀ L h m) (N : News h₀ L h news) : Fr h₀ L (hid h news) m := by
  obtain ⟨oL, es, ep, hL, r⟩ := F.ns
  refine ⟨⟨oL, es, ep, hideAll_get _ hL fun z => ?_, r⟩, fun b o e => hideAll_get _ (F.keep b o e) fun z => ?_, F.above⟩
  · obtain ⟨q, hq, e⟩ := List.mem_map.mp z
    exact (N q hq).2.1 e
  · obtain ⟨q, hq, e'⟩ := List.mem_map.mp z
    have := (N q hq).2.2
    rw [e', e] at this
    cases this
theorem SpecR.use {prog : Program} {w : World} {f : Addr} {vs : List Value} {dd uu : Nat} {own : List (Addr × Obj)} {Pre : Heap → Prop} {Post : Heap → Value → List (Addr × Obj) → Prop} {P : Prop} (S : SpecR prog w f vs dd uu own Pre Post P)
    {p : Program} {loose : List Str} {mean : ExcName → Option Value} {mg mb : Str → Option Value} {dp un : Nat} {gd : Option (List Code)} {cn : Str} {cs : Scope} {a : Addr} {ccd : Value} {cl : List (Str × Addr)} {outer : List Env} {A₀ : Around} {base h₀ : Heap} {L : Addr} {m : Str → Option Value} {s : Shared}
    {Q E : Value → Shared → Prop} (B : Below A₀ base outer h₀) (F : Fr h₀ L s.heap m) (X : (Mine.hd.heap_1 w.params).In h₀) (N : News h₀ L s.heap own) (T : Top p loose mean mg mb h₀) (hk : cs.kind = .function) (hpre : Pre (hid s.heap own)) (hd : dp + dd < recursionLimit) (hu : un + uu < cLine)
    (ret : ∀ r own' h' tk', Fr h₀ L h' m → News h₀ L h' own' → Post h' r own' → Q r { s with heap := h', toks := tk' })
    (rai : ∀ e h' tk', RaisedSN base (hid s.heap own) (envX cn cs L a ccd cl :: outer) e (.ref 59) own h' → (hid s.heap own).UpToSlots h' → P → E (.ref e) { s with heap := h', toks := tk' }) :
    wpAny (model prog w) (ktrTop dp un gd cn cs L a ccd cl outer) (call (.ref f) vs) Q E s := S p loose mean mg mb dp un gd cn cs a ccd cl outer A₀ base h₀ L m s Q E B F X N T hk hpre hd hu (fun r own' h' tk' F' N' _ _ P' => ret r own' h' tk' F' N' P') rai

section
set_option maxHeartbeats 4000000 in
theorem is_found_body (prog : Program) (w : World) (a lst : Addr) (ps : List Value) (b : BoxD) (u : Nat) (tu : Tok) (hn : b.letters.length ≤ 5) (hr : Rising b.letters) (hu : u < 1000)
    {p : Program} {loose : List Str} {mean : ExcName → Option Value} {mg mb : Str → Option Value} {dp un : Nat} {gd : Option (List Code)} {cn : Str} {cs : Scope} {af : Addr} {ccd : Value} {cl : List (Str × Addr)} {A₀ : Around} {h₀ : Heap} {L : Addr} {m : Str → Option Value} {s : Shared} {news : List (Addr × Obj)}
    {Q E : Value → Shared → Prop} (B : Below A₀ h₀ [] h₀) (F : Fr h₀ L s.heap m) (X : (Mine.hd.heap_1 w.params).In h₀) (N : News h₀ L s.heap news) (T : Top p loose mean mg mb h₀) (hk' : cs.kind = .function) (hpre : BoxAt w s.heap a lst ps b) (hdp : dp + 12 < recursionLimit) (hun : un + 700 < cLine)
    (ret : ∀ h' tk', Fr h₀ L h' m → News h₀ L h' news → Q (.bool true) { s with heap := h', toks := tk' }) :
    wpAny (model prog w) (ktrTop dp un gd cn cs L af ccd cl []) (call (.ref 326) [.ref a, .int u tu]) Q E s := by
  k_with_none
  (k_with "cj" => (first | exact fun h => h.1 | exact fun h => h.2.1 | exact fun h => h.2.2.1 | exact fun h => h.2.2.2.1 | exact fun h => h.2.2.2.2.1 | exact fun h => h.2.2.2.2.2.1 | exact fun h => h.2.2.2.2.2.2.1 | exact fun h => h.2.2.2.2.2.2.2.1 | exact fun h => h.2.2.2.2.2.2.2.2.1 | exact fun h => h.2.2.2.2.2.2.2.2.2.1 | exact fun h => h.2.2.2.2.2.2.2.2.2.2.1 | exact fun h => h.2.2.2.2.2.2.2.2.2.2.2.1 | exact fun h => h.2.2.2.2.2.2.2.2.2.2.2.2.1 | exact fun h => h.2.2.2.2.2.2.2.2.2.2.2.2.2.1 | exact fun h => h.2 | exact fun h => h.2.2 | exact fun h => h.2.2.2 | exact fun h => h.2.2.2.2 | exact fun h => h.2.2.2.2.2 | exact fun h => h.2.2.2.2.2.2 | exact fun h => h.2.2.2.2.2.2.2 | exact fun h => h.2.2.2.2.2.2.2.2 | exact fun h => h.2.2.2.2.2.2.2.2.2 | exact fun h => h.2.2.2.2.2.2.2.2.2.2 | exact fun h => h.2.2.2.2.2.2.2.2.2.2.2 | exact fun h => h.2.2.2.2.2.2.2.2.2.2.2.2 | exact fun h => h.2.2.2.2.2.2.2.2.2.2.2.2.2))
  (k_with "omega" => (with_reducible first | assumption | exact Nat.le_of_ble_eq_true (by decide) | exact Nat.ne_of_gt (by assumption) | exact Nat.ne_of_lt (by assumption) | exact Mine.lm1 (by assumption) (by decide) | exact Mine.lm2 (by assumption) (by decide) | exact Mine.lm3 (by assumption) (by decide) | exact Mine.lm4 (by assumption) (by decide) | exact Mine.lm5 (by assumption) (by decide) | exact Mine.lm6 (by assumption) (by decide) | exact Mine.lm7 (by assumption) (by decide) | exact Mine.lm8 (by assumption) (by decide) | exact Mine.lm9 (by assumption) (by decide) | exact Int.natCast_nonneg _ | (refine Mine.cj1 (by assumption) ?_; k_extra "cj") | (refine Mine.cj2 (by assumption) ?_; k_extra "cj") | (refine Mine.cj3 (by assumption) ?_; k_extra "cj") | (refine Mine.cj4 (by assumption) ?_; k_extra "cj") | (refine Mine.cj5 (by assumption) (by assumption) ?_; k_extra "cj") | (refine Mine.cj6 (by assumption) (by assumption) ?_; k_extra "cj") | (refine Mine.cj7 (by assumption) (by assumption) (by assumption) ?_; k_extra "cj") | (refine Mine.cj8 (by assumption) (by assumption) (by assumption) ?_; k_extra "cj") | exact Mine.cj9 (by assumption) (by assumption) | exact Mine.cj10 (by assumption) (by assumption) | (refine Mine.cl1 (by assumption) ?_; k_extra "cj") | (refine Mine.cl2 (by assumption) (by assumption) ?_; k_extra "cj") | exact Mine.ns1 (by assumption) | exact Mine.ns2 (by assumption) | exact Mine.ns3 | exact Mine.ns4 | exact Mine.lm10 (by assumption) (by decide) | exact Mine.lm11 (by assumption) (by decide) | exact Mine.lm12 (by assumption) (by assumption) (by decide) | exact Mine.lm12 (by assumption) (Nat.le_refl _) (by decide) | exact Mine.lm13 (by assumption) (by assumption) (by decide) | exact Mine.lm13 (by assumption) (Nat.le_refl _) (by decide) | fail))
  (k_with "k_inst" => exact instAt_base (by assumption) (by assumption) (by assumption))
  (k_with "eval ListComp" => (k_here; k_dflt (refine comp_there (by assumption) (by assumption) (by rfl) (by with_unfolding_all rfl) (by decide) (by rfl) (by decide) (by rfl) (fun _ => by rfl) (fun _ => by rfl) (by rfl) ?_)))
  (k_with "ThereSrc" => (k_here; refine' ThereSrc.intro (by is_list) (by assumption) (by assumption) (by assumption) (by assumption) ?z1r49 ?z2r49 ?_; (case z1r49 => k_mem); (case z2r49 => (first | assumption | (refine Eq.trans (by assumption) ?_; rfl))); intro D' h' tk' F' N' ne'; (try dsimp only); (try k_sweep)))
  (k_with "noteFrame ref" => (k_here; k_dflt (refine' caught_desk (by rfl) (by assumption) ?zFr50 (by assumption) (by assumption) (by assumption) (by assumption) ?_); (case zFr50 => exact hid_fr (by assumption) (by assumption)); k_whole; intro h' g' KT' F' N' B' X' T'; (try k_sweep)))
  (k_with "compareOp Eq ref ref" => (k_here; first
  | (refine' eq_intsK (ns := []) (ms := []) (by is_list) .nil (by is_list) .nil ?z1r51 ?_; (case z1r51 => (dsimp only; omega)); (try simp only []))
  | (k_dflt (refine' EqS.one_nil ?z2r51 ?z3r51 ?z1r51 ?_); (case z2r51 => is_list); (case z3r51 => is_list); (case z1r51 => (dsimp only; omega)))))
  (k_with "exec Try" => (k_here; refine wpAny_Try_except ?_))
  (k_with "call ref" => (k_here; (with_reducible show wpAny _ _ (call (Value.ref 92) [Value.ref _, Value.str _ _]) _ _ _); k_dflt (refine' SpecR.use (letter_in_spec _ _ _ _ _ _ _ _ _ (by assumption) (by assumption) (by assumption)) (by assumption) (by assumption) (by assumption) (by assumption) (by assumption) (by rfl) ?z2r53 ?z3r53 ?z4r53 ?y1r53 ?y2r53); (case z2r53 => exact BoxAt.keeps (by assumption) (Fr.keep (hid_fr (by assumption) (by assumption)))); (case z3r53 => omega); (case z4r53 => omega); (case' y1r53 => (intro r own' h' tk' F' N' hp'; (obtain ⟨e2, i', l', x', e3, hx', hi', hu'⟩ := hp'); subst e2; subst e3; (have hth' := theres_one _ _ _ _ _ _ (by assumption) hx' hi' hu' (LettersAt.length (by assumption))); (rw [hth'] at N'); clear hth'; (try k_sweep))); (case' y2r53 => (intro e' h' tk' R' U' hp'; (have hth' := fun vs => theres_none vs _ _ hp'); (simp only [hth'] at *); (try clear hth'); (try dsimp only)))))
  refine call_ofT (dd := 12) (uu := 700) (Pre := fun g => BoxAt w g a lst ps b) (P := fun v => v = .bool true) [("box", .ref a), ("uid", .int u tu)] (by k_is) (by k_is) (fun s _ => BindsTo.of_eq rfl) (by rfl) (by decide +kernel) ?_ (by decide) B F X N T hk' hpre hdp hun (fun r h' tk' F' N' e => by subst e; exact ret h' tk' F' N')
  clear hpre B F X N T ret hdp hun
  rintro p loose mean mg mb dp un gd outer A₀ base g L' cells s B' F' N' Y' X' T' XB TB hb hdp hun
  k_fold
  k_cells Y'
  have hb' := hb
  obtain ⟨d, n, t1, t2, t3, t4, t5, t6, t7, u1, u2, u3, u4, u5, gv, ha, hd, hl, hls⟩ := hb'
  k_steps
  · exact FinT.intro (by assumption) (by assumption) (by assumption) rfl
  · exact FinT.intro KtsTurn.refl (by assumption) (by assumption) rfl
end
end Mine
end
-- EnumT
section
open PySem PySem.W PyProof.Rows PySem.Calls PySem.Spec
namespace Mine
section
variable {prog : Program} {w : World} {A : Around} {E : Value → Shared → Prop} {s : Shared}
theorem next_tuple_item {it l : Addr} {i : Nat} {items : Array Value} {x : Value} {Q : Value → Shared → Prop} (hit : s.heap.IsTupleIter it l i)
    (hl : s.heap.IsTuple l items) (hx : items[i]? = some x)
    (hQ : ∀ h', h'.IsTupleIter it l (i + 1) → Heap.SameBut it s.heap h' → Q x { s with heap := h' }) :
    wpAny (model prog w) A (Builtin.SmallTypes.nextOf (.ref it)) Q E s := by
  obtain ⟨o, ho, hc, hd⟩ := id hit
  obtain ⟨ol, hol, _, nl, hdl⟩ := hl
  unfold Builtin.SmallTypes.nextOf
  refine wpAny_bind (wpAny_callSpecial?_slot (name := Str.ofString "__next__") hit.typeIs PySem.F.slot_tuple_iterator_next
    (wpAny_call_entry PySem.F.slot_tuple_iterator_next hit.typeIs PySem.F.entry_tuple_iterator_next ?_ (PySem.F.args_tuple_iterator_next_1 _)))
  show wpAny _ _ (field (.ref it) 0 >>= _) _ _ s
  refine wpAny_bind (wpAny_field ho hd (x := .ref l) rfl ?_)
  show wpAny _ _ (if (Value.ref l == Value.none) = true then _ else _) _ _ s
  rw [if_neg (show ¬ ((Value.ref l == Value.none) = true) from Bool.false_ne_true)]
  show wpAny _ _ (field (.ref it) 1 >>= _) _ _ s
  refine wpAny_bind (wpAny_field ho hd (x := .int i 0) rfl ?_)
  show wpAny _ _ (seqItems? (.ref l) >>= _) _ _ s
  refine wpAny_bind (wpAny_seqItems hol hdl ?_)
  simp only [Int.toNat_natCast, hx]
  refine wpAny_bind (wpAny_setField ho hd (by simp) (wpAny_pure ⟨x, rfl, wpAny_pure (hQ _ ?_ (Heap.SameBut.update ..))⟩))
  exact ⟨_, Heap.get?_update_self _ ho (Obj.isFreed_of_fields (Obj.data_mapFields hd _)), (Obj.cls_mapFields ..).trans hc, by
    rw [Obj.data_mapFields hd]; simp [rawInt]⟩

theorem next_tuple_end {it l : Addr} {i : Nat} {items : Array Value} {Q : Value → Shared → Prop} (hh : A.handled = none)
    (hit : s.heap.IsTupleIter it l i) (hl : s.heap.IsTuple l items) (hx : items[i]? = none)
    (hE : ∀ h' e, Heap.ExtBut it s.heap h' → (∃ o, h'.get? e = some o ∧ o.cls = .type "StopIteration") → E (.ref e) { s with heap := h' }) :
    wpAny (model prog w) A (Builtin.SmallTypes.nextOf (.ref it)) Q E s := by
  obtain ⟨o, ho, hc, hd⟩ := id hit
  obtain ⟨ol, hol, _, nl, hdl⟩ := hl
  unfold Builtin.SmallTypes.nextOf
  refine wpAny_bind (wpAny_callSpecial?_slot (name := Str.ofString "__next__") hit.typeIs PySem.F.slot_tuple_iterator_next
    (wpAny_call_entry PySem.F.slot_tuple_iterator_next hit.typeIs PySem.F.entry_tuple_iterator_next ?_ (PySem.F.args_tuple_iterator_next_1 _)))
  show wpAny _ _ (field (.ref it) 0 >>= _) _ _ s
  refine wpAny_bind (wpAny_field ho hd (x := .ref l) rfl ?_)
  show wpAny _ _ (if (Value.ref l == Value.none) = true then _ else _) _ _ s
  rw [if_neg (show ¬ ((Value.ref l == Value.none) = true) from Bool.false_ne_true)]
  show wpAny _ _ (field (.ref it) 1 >>= _) _ _ s
  refine wpAny_bind (wpAny_field ho hd (x := .int i 0) rfl ?_)
  show wpAny _ _ (seqItems? (.ref l) >>= _) _ _ s
  refine wpAny_bind (wpAny_seqItems hol hdl ?_)
  simp only [Int.toNat_natCast, hx]
  refine wpAny_bind (wpAny_rule (wpAny_bind (wpAny_setField ho hd (by simp) ?_)))
  show wpAny _ _ (newExc (.type "StopIteration") [] >>= _) _ _ _
  refine wpAny_bind ?_
  simp only [newExc, newTuple]
  refine wpAny_bind (wpAny_newObj_type ?_ (by size_fits))
  refine wpAny_bind (m := firstArgMember _ _) (wpAny_of_eq (a := Value.none) (by first | rfl | (simp only [firstArgMember]; rfl)) ?_)
  refine wpAny_newObj_type ?_ (by size_fits)
  simp only [raiseNew]
  refine wpAny_bind (wpAny_handled ?_)
  first | rw [show A.in1.handled = none from hh] | rw [hh]
  refine wpAny_bind (wpAny_pure (wpAny_throw ?_))
  exact hE _ _ (((Heap.SameBut.update ..).extBut.push _).push _) ⟨_, Heap.get?_push_size _ rfl, rfl⟩
end

theorem draws_tuple {prog : Program} {w : World} {A : Around} (hh : A.handled = none) (it l : Addr) (hne : l ≠ it) (items : Array Value) :
    Draws prog w A it [it, l] items.size (fun i v => items[i]? = some v) (fun i h => h.IsTupleIter it l i ∧ h.IsTuple l items) where
  live := fun _ _ st => let ⟨o, ho, _⟩ := st.1; ⟨o, ho⟩
  frame := fun _ _ _ st hk => by
    obtain ⟨⟨o, ho, r⟩, ⟨o2, ho2, r2⟩⟩ := st
    exact ⟨⟨o, hk it (by simp) o ho, r⟩, ⟨o2, hk l (by simp) o2 ho2, r2⟩⟩
  item := fun i s Q E hi st hQ => by
    refine next_tuple_item st.1 st.2 (x := items[i]) (by simp [hi]) fun h' hit' hs' => ?_
    exact hQ _ h' s.toks (by simp [hi]) ⟨hit', st.2.extBut hs'.extBut hne⟩ hs'
  done := fun s Q E st hE => next_tuple_end hh st.1 st.2 (by simp) hE

open AutoSeq1 (wpAny_loadPart')
theorem enumerate_newT (l : Addr) (items : Array Value) (n : Nat) (dct : Option Addr) (sl : Array (Option Value)) :
    Meets (Builtin.«enumerate.__new__» ⟨[.type "enumerate", .ref l], []⟩) (fun _ R s => s.heap.get? l = some { cls := .type "tuple", dict := dct, data := .seq items n, slots := sl } ∧
      R (.ok (.ret (.ref (s.heap.push { cls := .type "tuple_iterator", data := .fields #[.ref l, .int 0 0] }).objs.size)))
        { s with heap := (s.heap.push { cls := .type "tuple_iterator", data := .fields #[.ref l, .int 0 0] }).push { cls := .type "enumerate", data := .fields #[.none, .bool false, .ref s.heap.objs.size, rawInt 0, .none, .none] } }) :=
  .of_wp fun prog w A R s h => by
    obtain ⟨hp, g, d, tk, os⟩ := s; obtain ⟨hl, h⟩ := h
    have hsub := sub_enumerate
    have hL : Heap.IsTuple (Shared.heap ⟨hp, g, d, tk, os⟩) l items := ⟨_, hl, rfl, n, rfl⟩
    wp_walk using wpAny_loadPart' hl
    refine wpAny_stack_any fun st => wpAny_pure ?_
    split
    · rename_i c _ _ _ _ _
      cases (c == Value.type "enumerate")
      · wp_walk using wpAny_loadPart' hl, wpAny_pyIter_tuple hL
        exact ⟨_, rfl, h⟩
      · wp_walk using wpAny_loadPart' hl, wpAny_pyIter_tuple hL
        exact ⟨_, rfl, h⟩
    · wp_walk using wpAny_loadPart' hl, wpAny_pyIter_tuple hL
      exact ⟨_, rfl, h⟩

section
variable {prog : Program} {w : World} {A : Around} {E : Value → Shared → Prop} {s : Shared}
theorem call_enumerate_tuple {l : Addr} {items : Array Value} {Q : Value → Shared → Prop} (hL : s.heap.IsTuple l items)
    (h : ∀ h', IsEnum h' (s.heap.objs.size + 1) s.heap.objs.size 0 .none → h'.IsTupleIter s.heap.objs.size l 0 → h'.objs.size = s.heap.objs.size + 2 →
      (∀ b o, s.heap.get? b = some o → h'.get? b = some o) → Q (.ref (s.heap.objs.size + 1)) { s with heap := h' }) :
    wpAny (model prog w) A (call (.type "enumerate") [.ref l]) Q E s := by
  obtain ⟨⟨c, dct, dt, sl⟩, hl, hc, n, hd⟩ := hL
  replace hc : c = .type "tuple" := hc
  replace hd : dt = .seq items n := hd
  subst hc hd
  refine callType_new PySem.F.called_enumerate (by decide) (PySem.F.typeCall_enumerate_1 _) (PySem.F.newCall_enumerate_1 _) (fun obj => PySem.F.args_object_init_2 obj _) PySem.F.entry_enumerate_new
    (enumerate_newT l items n dct sl) ⟨hl, ?_⟩
  have hz : (s.heap.push { cls := .type "tuple_iterator", data := .fields #[.ref l, .int 0 0] }).objs.size = s.heap.objs.size + 1 := Heap.size_push ..
  show _ ∧ _
  rw [hz]
  have he : IsEnum ((s.heap.push { cls := .type "tuple_iterator", data := .fields #[.ref l, .int 0 0] }).push
      { cls := .type "enumerate", data := .fields #[.none, .bool false, .ref s.heap.objs.size, rawInt 0, .none, .none] }) (s.heap.objs.size + 1) s.heap.objs.size 0 .none := by
    have := Heap.get?_push_size (s.heap.push { cls := .type "tuple_iterator", data := .fields #[.ref l, .int 0 0] })
      (o := { cls := .type "enumerate", data := .fields #[.none, .bool false, .ref s.heap.objs.size, rawInt 0, .none, .none] }) rfl
    rw [hz] at this; exact this
  refine ⟨⟨_, he, rfl⟩, h _ he ⟨_, Heap.get?_push_of_some _ (Heap.get?_push_size _ rfl), rfl, rfl⟩ (by rw [Heap.size_push, hz]) fun b o x => Heap.get?_push_of_some _ (Heap.get?_push_of_some _ x)⟩
end
section
variable {prog : Program} {w : World} {A : Around} {E : Value → Shared → Prop} {s₁ : Shared} {env : Env} {h₀ : Heap} {L : Addr} {m : Str → Option Value}
  {elt target : PySem.Expr} {ifs : List PySem.Expr} {scope : Scope} {cl : List (Str × Addr)} {mf : Addr → Str → Option Value} {Fin : Addr → Shared → Prop} {own : List (Addr × Obj)} {R : Nat → List Value → List (Addr × Obj) → Prop}

theorem src_enumT {a b : Str} {pa pb tp : Pos} {kk : Nat} {l : Addr} {its : List Value} (hh : A.handled = none) (hl : s₁.heap.IsTuple l its.toArray) (hsz : its.length ≤ sizeLine) (hkind : scope.kind = .function) (hxa : scope.names.lookup a = some .local) (hxb : scope.names.lookup b = some .local) (hab : a ≠ b)
    (F : Fr h₀ L s₁.heap m) (N : News h₀ L s₁.heap own) (off : ∀ p ∈ own, p.1 ≠ l) (R0 : R 0 [] own)
    (turn : TurnsOn prog w A h₀ L m env elt ifs scope cl own its.length R (fun i mc => ∃ x y, ((∃ t, x = .int (i : Int) t) ∧ its[i]? = some y) ∧ mc a = some x ∧ mc b = some y) s₁) (fin : FinOn h₀ L mf own its.length R Fin s₁) :
    wpAny (model prog w) A (call (.type "enumerate") [.ref l]) (fun xv s₂ => wpAny (model prog w) A (pyIter xv) (BlockAt prog w A h₀ L m env elt (.Tuple [.Name a pa, .Name b pb] kk tp) ifs scope cl mf Fin) E s₂) E s₁ := by
  have hlt : l < s₁.heap.objs.size := by obtain ⟨_, e, _⟩ := hl; exact Heap.lt_size e
  refine call_enumerate_tuple hl fun h' hE hI hsz' hk => ?_
  refine wpAny_pyIter_enum hE ?_
  have W := (WalksT.enumerateD (prog := prog) (w := w) (draws_tuple (A := A.in1) hh s₁.heap.objs.size l (Nat.ne_of_lt hlt) its.toArray) (s₁.heap.objs.size + 1) (Nat.succ_ne_self _) (by intro hm; rcases List.mem_cons.mp hm with q | q; exact Nat.succ_ne_self _ q; exact ktu_ne 1 hlt (List.mem_singleton.mp q).symm) (List.mem_cons_self ..)).toU
  rw [show its.toArray.size = its.length from List.size_toArray] at W
  refine block_from (tk₂ := s₁.toks) hk (fun b hb => ?_) (KTurns.ofWalksU W) (fun s Q E st h => W.self 0 s Q E st h) hsz ⟨⟨_, hE⟩, hI, ?_⟩ (fun i h st b hb => ?_) F N (fun p hp hb => ?_)
    (fun i v C mc s Q E hP hn h => asg_pair (val := fun i x y => (∃ t, x = .int (i : Int) t) ∧ its[i]? = some y) hh hkind hxa hxb hab i v C mc s Q E ?_ hn h) R0 turn fin
  · rcases List.mem_cons.mp hb with rfl | hb
    · exact Heap.get?_none_of_le (Nat.le_succ _)
    · rw [List.mem_singleton.mp hb]; exact Heap.get?_none_of_le (Nat.le_refl _)
  · obtain ⟨o, e, r⟩ := hl; exact ⟨o, hk _ _ e, r⟩
  · obtain ⟨⟨old, e1⟩, ⟨o2, e2, _⟩, ⟨o3, e3, _⟩⟩ := st
    have e1' : h.get? (s₁.heap.objs.size + 1) = some _ := e1
    rcases List.mem_cons.mp hb with rfl | hb
    · rw [e1']; rfl
    · rcases List.mem_cons.mp hb with rfl | hb
      · rw [e2]; rfl
      · rw [List.mem_singleton.mp hb, e3]; rfl
  · have hlp := Heap.lt_size (N p hp).1
    rcases List.mem_cons.mp hb with q | hb
    · rw [q] at hlp; exact Nat.not_lt.mpr (Nat.le_succ _) hlp
    · rcases List.mem_cons.mp hb with q | hb
      · rw [q] at hlp; exact Nat.lt_irrefl _ hlp
      · exact off p hp (List.mem_singleton.mp hb)
  · obtain ⟨T, vals, rfl, ⟨t, x, hx, rfl⟩, hT⟩ := hP
    exact ⟨T, _, rfl, ⟨_, _, ⟨⟨t, rfl⟩, by simpa using hx⟩, rfl⟩, hT⟩

end
end Mine
end
-- Flags
section
open PySem PySem.W PyProof.Rows PySem.Calls PySem.Spec
namespace Mine

theorem flags_in {w : World} {h : Heap} (X : (Mine.hd.heap_1 w.params).In h) : h.IsTuple 299 ([.str (Str.ofString "\\Answered") 605, .str (Str.ofString "\\Seen") 606, .str (Str.ofString "work") 607, .str (Str.ofString "x.y") 608] : List Value).toArray :=
  ⟨_, X 299 { cls := .type "tuple", data := .seq ([.str (Str.ofString "\\Answered") 605, .str (Str.ofString "\\Seen") 606, .str (Str.ofString "work") 607, .str (Str.ofString "x.y") 608] : List Value).toArray } (by k_is), rfl, _, rfl⟩

section
variable {prog : Program} {w : World} {A : Around} {E : Value → Shared → Prop} {s : Shared} {h₀ : Heap} {L C c : Addr} {o : Obj} {m mc mg mb : Str → Option Value} {scope : Scope} {cl' : List (Str × Addr)} {news : List (Addr × Obj)}
  {p0 p1 p2 p3 p4 p5 p6 p7 p8 : Pos} {Q : Bool → Shared → Prop} {env : Env}
theorem pow_spot {k : Int} {t u : Tok} {Q : Value → Shared → Prop} (hk : k = 0 ∨ k = 1 ∨ k = 2 ∨ k = 3) (h : ∀ q : Int, 0 < q → q < 10 → Q (.int q s.toks) { s with toks := s.toks + 1 }) :
    wpAny (model prog w) A (binaryOp .Pow (.int 2 t) (.int k u)) Q E s := by
  rcases hk with rfl | rfl | rfl | rfl
  · exact pow_int_small (by decide) (by decide) (by decide) (h 1 (by decide) (by decide))
  · exact pow_int_small (by decide) (by decide) (by decide) (h 2 (by decide) (by decide))
  · exact pow_int_small (by decide) (by decide) (by decide) (h 4 (by decide) (by decide))
  · exact pow_int_small (by decide) (by decide) (by decide) (h 8 (by decide) (by decide))
set_option maxHeartbeats 1000000 in
theorem test_flag {k n : Int} {t tn : Tok} (_F : Fr h₀ L s.heap m) (N : News h₀ L s.heap news) (hn : s.heap.Ns C mc) (hx : mc (Str.ofString "spot") = some (.int k t)) (hk4 : k = 0 ∨ k = 1 ∨ k = 2 ∨ k = 3)
    (hc : cl'.lookup (Str.ofString "number") = some c) (hm : (c, o) ∈ news) (ho : o.data = .cell (some (.int n tn)))
    (hk : (compEnvC scope cl' C env).scope.kind = .function) (hkx : (compEnvC scope cl' C env).kindOf "spot" = some .local) (hku : (compEnvC scope cl' C env).kindOf "number" = some .cell)
    (h : ∀ b tk, Q b { s with toks := tk }) :
    wpAny (model prog w) A (isTrue (.Compare (.BinOp (.BinOp (.Name "number" p1) .FloorDiv (.BinOp (.Constant (.int 2) 0 p2) .Pow (.Name "spot" p3) p4) p5) .Mod (.Constant (.int 2) 0 p6) p7) [.Eq] [.Constant (.int 1) 0 p8] p0) (compEnvC scope cl' C env) (eval (.Compare (.BinOp (.BinOp (.Name "number" p1) .FloorDiv (.BinOp (.Constant (.int 2) 0 p2) .Pow (.Name "spot" p3) p4) p5) .Mod (.Constant (.int 2) 0 p6) p7) [.Eq] [.Constant (.int 1) 0 p8] p0) (compEnvC scope cl' C env))) Q E s := by
  k_with_none
  (k_with "cj" => (first | exact fun h => h.1 | exact fun h => h.2.1 | exact fun h => h.2.2.1 | exact fun h => h.2.2.2.1 | exact fun h => h.2.2.2.2.1 | exact fun h => h.2.2.2.2.2.1 | exact fun h => h.2.2.2.2.2.2.1 | exact fun h => h.2.2.2.2.2.2.2.1 | exact fun h => h.2.2.2.2.2.2.2.2.1 | exact fun h => h.2.2.2.2.2.2.2.2.2.1 | exact fun h => h.2.2.2.2.2.2.2.2.2.2.1 | exact fun h => h.2.2.2.2.2.2.2.2.2.2.2.1 | exact fun h => h.2.2.2.2.2.2.2.2.2.2.2.2.1 | exact fun h => h.2.2.2.2.2.2.2.2.2.2.2.2.2.1 | exact fun h => h.2 | exact fun h => h.2.2 | exact fun h => h.2.2.2 | exact fun h => h.2.2.2.2 | exact fun h => h.2.2.2.2.2 | exact fun h => h.2.2.2.2.2.2 | exact fun h => h.2.2.2.2.2.2.2 | exact fun h => h.2.2.2.2.2.2.2.2 | exact fun h => h.2.2.2.2.2.2.2.2.2 | exact fun h => h.2.2.2.2.2.2.2.2.2.2 | exact fun h => h.2.2.2.2.2.2.2.2.2.2.2 | exact fun h => h.2.2.2.2.2.2.2.2.2.2.2.2 | exact fun h => h.2.2.2.2.2.2.2.2.2.2.2.2.2))
  (k_with "omega" => (with_reducible first | assumption | exact Nat.le_of_ble_eq_true (by decide) | exact Nat.ne_of_gt (by assumption) | exact Nat.ne_of_lt (by assumption) | exact Mine.lm1 (by assumption) (by decide) | exact Mine.lm2 (by assumption) (by decide) | exact Mine.lm3 (by assumption) (by decide) | exact Mine.lm4 (by assumption) (by decide) | exact Mine.lm5 (by assumption) (by decide) | exact Mine.lm6 (by assumption) (by decide) | exact Mine.lm7 (by assumption) (by decide) | exact Mine.lm8 (by assumption) (by decide) | exact Mine.lm9 (by assumption) (by decide) | exact Int.natCast_nonneg _ | (refine Mine.cj1 (by assumption) ?_; k_extra "cj") | (refine Mine.cj2 (by assumption) ?_; k_extra "cj") | (refine Mine.cj3 (by assumption) ?_; k_extra "cj") | (refine Mine.cj4 (by assumption) ?_; k_extra "cj") | (refine Mine.cj5 (by assumption) (by assumption) ?_; k_extra "cj") | (refine Mine.cj6 (by assumption) (by assumption) ?_; k_extra "cj") | (refine Mine.cj7 (by assumption) (by assumption) (by assumption) ?_; k_extra "cj") | (refine Mine.cj8 (by assumption) (by assumption) (by assumption) ?_; k_extra "cj") | exact Mine.cj9 (by assumption) (by assumption) | exact Mine.cj10 (by assumption) (by assumption) | (refine Mine.cl1 (by assumption) ?_; k_extra "cj") | (refine Mine.cl2 (by assumption) (by assumption) ?_; k_extra "cj") | exact Mine.ns1 (by assumption) | exact Mine.ns2 (by assumption) | exact Mine.ns3 | exact Mine.ns4 | exact Mine.lm10 (by assumption) (by decide) | exact Mine.lm11 (by assumption) (by decide) | exact Mine.lm12 (by assumption) (by assumption) (by decide) | exact Mine.lm12 (by assumption) (Nat.le_refl _) (by decide) | exact Mine.lm13 (by assumption) (by assumption) (by decide) | exact Mine.lm13 (by assumption) (Nat.le_refl _) (by decide) | fail))
  (k_with "eval Name" => ((with_reducible show wpAny _ _ (eval (Expr.Name _ _) (compEnvC _ _ _ _)) _ _ _); first
  | (refine nb_local (by assumption) (by assumption) (by assumption) (by assumption) (by decide) ?_)
  | (refine lcf_cell (by assumption) (by assumption) (by assumption) (by assumption) ?_ (by assumption) (by assumption))))
  (k_with "binaryOp Pow int int" => (refine pow_spot (by assumption) ?_; intro q' hq1 hq2))
  (k_with "binaryOp FloorDiv int int" => (refine floordiv_int (by omega) ?_))
  repeat' (first | (walk1; (try dsimp only)))
  all_goals exact h _ _
end

/-- `[name for spot, name in enumerate(_law_flags) if ..]`, at the call of enumerate -/
theorem enum_flags {prog : Program} {w : World} {A : Around} {E : Value → Shared → Prop} {s : Shared} {h₀ : Heap} {L c : Addr} {o : Obj} {m : Str → Option Value} {scope : Scope} {cl' : List (Str × Addr)} {news : List (Addr × Obj)} {mf : Addr → Str → Option Value}
    {p0 p1 p2 p3 p4 p5 p6 p7 p8 p9 pa pb tp : Pos} {kk : Nat} {env : Env} {Fin : Addr → Shared → Prop} {n : Int} {tn : Tok} (hh : A.handled = none) (F : Fr h₀ L s.heap m) (N : News h₀ L s.heap news) (X : (Mine.hd.heap_1 w.params).In h₀)
    (hkind : scope.kind = .function) (hxa : scope.names.lookup (Str.ofString "spot") = some .local) (hxb : scope.names.lookup (Str.ofString "name") = some .local)
    (hk : ∀ C, (compEnvC scope cl' C env).scope.kind = .function) (hku : ∀ C, (compEnvC scope cl' C env).kindOf "number" = some .cell) (hc : cl'.lookup (Str.ofString "number") = some c) (hm : (c, o) ∈ news) (ho : o.data = .cell (some (.int n tn)))
    (out : ∀ D h tk ys fl, Fr h₀ L h (mf D) → News h₀ L h ((D, LCg.lst ys) :: news) → (∀ p ∈ news, p.1 ≠ D) → StrsAre ys fl → fl.length ≤ 4 → (∀ x ∈ fl, x.length ≤ 20) → Fin D { s with heap := h, toks := tk }) :
    wpAny (model prog w) A (call (.type "enumerate") [.ref 299]) (fun xv s₂ => wpAny (model prog w) A (pyIter xv)
      (BlockAt prog w A h₀ L m env (.Name "name" p9) (.Tuple [.Name (Str.ofString "spot") pa, .Name (Str.ofString "name") pb] kk tp)
        [.Compare (.BinOp (.BinOp (.Name "number" p1) .FloorDiv (.BinOp (.Constant (.int 2) 0 p2) .Pow (.Name "spot" p3) p4) p5) .Mod (.Constant (.int 2) 0 p6) p7) [.Eq] [.Constant (.int 1) 0 p8] p0] scope cl' mf Fin) E s₂) E s := by
  have hl := flags_in (X.keeps F.keep)
  have hit : ∀ (i : Nat) (y : Value), ([.str (Str.ofString "\\Answered") 605, .str (Str.ofString "\\Seen") 606, .str (Str.ofString "work") 607, .str (Str.ofString "x.y") 608] : List Value)[i]? = some y → ∃ (x : Str) (t : Tok), y = Value.str x t ∧ x.length ≤ 20 := by
    intro i y hy
    have : i < 4 := by have := (List.getElem?_eq_some_iff.mp hy).1; simpa using this
    have h4 : i = 0 ∨ i = 1 ∨ i = 2 ∨ i = 3 := by omega
    rcases h4 with rfl | rfl | rfl | rfl <;> (simp at hy; subst hy; exact ⟨_, _, rfl, by decide⟩)
  refine src_enumT (R := fun i ys own₁ => own₁ = [] ∧ ∃ fl, StrsAre ys fl ∧ fl.length ≤ i ∧ ∀ x ∈ fl, x.length ≤ 20) hh hl (by decide) hkind hxa hxb (by decide) F News.nil (List.forall_mem_nil _) ⟨rfl, [], .nil, Nat.le_refl _, List.forall_mem_nil _⟩ ?_ ?_
  · rintro i ys own₁ C mc s' E' hlt _ ⟨rfl, fl, hfl, hfn, hfx⟩ F' N' hn ⟨x, y, ⟨⟨t, rfl⟩, hy⟩, hma, hmb⟩ _ _ _ hk' _
    have N2 : News h₀ L s'.heap news := fun p hp => ⟨hk' _ _ (N p hp).1 (by simp), (N p hp).2⟩
    have hi4 : i < 4 := hlt
    refine Turn.test (test_flag F' N2 hn hma (by omega) hc hm ho (hk C) (lookup_relabel_local hxa) (hku C) fun b tk => ?_)
    obtain ⟨x, tx, rfl, hxl⟩ := hit i y hy
    cases b
    · simp only [Bool.false_eq_true, if_false]
      exact TEnd.same F' N' ⟨rfl, fl, hfl, by omega, hfx⟩
    · simp only [if_true]
      refine nb_local (s := { s' with toks := tk }) hn hmb (hk C) (lookup_relabel_local hxb) (by decide) (TEnd.same F' N' ⟨rfl, fl ++ [x], strsAre_snoc hfl _ _, by simp; omega, fun z hz => ?_⟩)
      rcases List.mem_append.mp hz with hz | hz
      · exact hfx z hz
      · rw [List.mem_singleton.mp hz]; exact hxl
  · intro D h tk ys own' F' _ hD hD₀ hDL _ hsD hr hk' _
    obtain ⟨rfl, fl, hfl, hfn, hfx⟩ := hr
    refine out D h tk ys fl F' (fun p hp => ?_) (fun p hp e => ?_) hfl hfn hfx
    · rcases List.mem_cons.mp hp with rfl | hp
      · exact ⟨hD, hDL, hD₀⟩
      · exact ⟨hk' _ _ (N p hp).2.1 (N p hp).1 (by simp), (N p hp).2⟩
    · have := (N p hp).1; rw [e, hsD] at this; cases this
end Mine
end
-- ForR
section
open PySem PySem.W PyProof.Rows PySem.Calls PySem.Spec
namespace Mine
/-- the end of a turn of a loop over a range: its iterator stands at `I` -/
def TurnEnd (h₀ : Heap) (L I : Addr) (oI : Obj) (Jn : (Str → Option Value) → List (Addr × Obj) → Prop) (s₁ : Shared) (f : Flow) (s₂ : Shared) : Prop :=
  f = .next ∧ ∃ h' tk m₂ news₂, s₂ = { s₁ with heap := h', toks := tk } ∧ Fr h₀ L h' m₂ ∧ News h₀ L h' ((I, oI) :: news₂) ∧ (∀ p ∈ news₂, p.1 ≠ I) ∧ Jn m₂ news₂
theorem TurnEnd.intro {h₀ : Heap} {L I : Addr} {oI : Obj} {Jn : (Str → Option Value) → List (Addr × Obj) → Prop} {s₁ : Shared} {h' : Heap} {tk : Nat} {m₂ : Str → Option Value} {news₂ : List (Addr × Obj)}
    (F : Fr h₀ L h' m₂) (N : News h₀ L h' ((I, oI) :: news₂)) (hI : ∀ p ∈ news₂, p.1 ≠ I) (hJ : Jn m₂ news₂) : TurnEnd h₀ L I oI Jn s₁ .next { s₁ with heap := h', toks := tk } := ⟨rfl, h', tk, m₂, news₂, rfl, F, N, hI, hJ⟩

section
variable {prog : Program} {w : World} {A : Around} {E : Value → Shared → Prop} {s₁ : Shared} {env : Env} {h₀ : Heap} {m : Str → Option Value} {news : List (Addr × Obj)}
theorem iter_range_U {x : Str} {body : List Stmt} {Q : Flow → Shared → Prop} {r : Addr} {a b : Int} {t u v : Tok} {n : Nat} (hh : A.handled = none) (hr : IsRange s₁.heap r a b 1 t u v) (hsm : Builtin.Range.small a b 1 = true) (hn : Builtin.Range.rangeSize a b 1 = ((n : Nat) : Int))
    (F : Fr h₀ env.locals s₁.heap m) (N : News h₀ env.locals s₁.heap news) (J : Nat → (Str → Option Value) → List (Addr × Obj) → Prop) (h0 : J 0 m news)
    (step : ∀ i tv m₁ news₁ I oI s', i < n → J i m₁ news₁ → (∀ p ∈ news₁, p.1 ≠ I) → Fr h₀ env.locals s'.heap (fun y => if y = x then some (.int (a + (i : Int)) tv) else m₁ y) → News h₀ env.locals s'.heap ((I, oI) :: news₁) →
      wpAny (model prog w) A (execs body env) (TurnEnd h₀ env.locals I oI (J (i + 1)) s') E s')
    (out : ∀ h' tk m' news', Fr h₀ env.locals h' m' → News h₀ env.locals h' news' → J n m' news' → Q .next { s₁ with heap := h', toks := tk }) :
    wpAny (model prog w) A (pyIter (.ref r)) (fun it s₂ => LoopAtU prog w A h₀ env x body Q E it s₂) E s₁ := by
  refine wpAny_pyIter_range hr hsm ?_
  have W := LCg.range_walks (prog := prog) (w := w) (A := A) (I := s₁.heap.objs.size) hh a n
  have hL0 : env.locals < s₁.heap.objs.size := F.ns.lt
  refine ⟨s₁.heap.objs.size, _, _, n, _, _, m, news, J, rfl, W, ?_, ?_, ?_, ?_, F.push _, fun p hp => ⟨Heap.get?_push_of_some _ (N p hp).1, (N p hp).2⟩, h0, ?_, fun h' tk m' news' F' N' _ hJ => out h' tk m' news' F' N' hJ⟩
  · intro hm
    exact absurd (List.mem_singleton.mp hm) (Nat.ne_of_lt hL0)
  · intro b hb
    rw [List.mem_singleton.mp hb]
    exact none_at_size F
  · intro p hp hm
    exact absurd (List.mem_singleton.mp hm) (Nat.ne_of_lt (Heap.lt_size (N p hp).1))
  · show IsRangeIter _ _ _ _ _
    rw [hn]
    simpa using Heap.get?_push_size _ rfl
  · intro i v m₁ news₁ s' own hi hP hJ hoff hsub hown hall hst F₁ N₁
    obtain ⟨tv, rfl⟩ := hP
    obtain ⟨oI, hst'⟩ : ∃ oI, s'.heap.get? s₁.heap.objs.size = some oI := ⟨_, hst⟩
    have hIn := hall _ (List.mem_singleton.mpr rfl) (none_at_size F) oI hst'
    refine wpAny_mono (step i tv m₁ news₁ s₁.heap.objs.size oI s' hi hJ (fun p hp e => hoff p hp (List.mem_singleton.mpr e)) F₁ (fun p hp => ?_)) (fun f s₃ h₃ => ?_) fun _ _ e => e
    · rcases List.mem_cons.mp hp with rfl | hp
      · exact N₁ _ (List.mem_append_left _ hIn)
      · exact N₁ p (List.mem_append_right _ hp)
    · obtain ⟨rfl, h', tk, m₂, news₂, rfl, F₂, N₂, hI, hJ₂⟩ := h₃
      refine LoopStepU.intro F₂ (fun p hp => ?_) (fun p hp hm => hI p hp (List.mem_singleton.mp hm)) hJ₂
      rcases List.mem_append.mp hp with hp | hp
      · have e1 : p.1 = s₁.heap.objs.size := List.mem_singleton.mp (hsub p hp)
        have e2 := hown p hp
        rw [e1, hst'] at e2
        have e3 : p = (s₁.heap.objs.size, oI) := Prod.ext e1 (Option.some.inj e2).symm
        rw [e3]
        exact N₂ _ (List.mem_cons_self ..)
      · exact N₂ p (List.mem_cons_of_mem _ hp)
end

/-- a draw, with the rest of the ledger kept -/
theorem draw_use {prog : Program} {w : World} {p : Program} {loose : List Str} {mean : ExcName → Option Value} {mg mb : Str → Option Value} {dp un : Nat} {gd : Option (List Code)} {cn : Str} {cs : Scope} {a : Addr} {ccd : Value} {cl : List (Str × Addr)} {outer : List Env} {A₀ : Around} {base h₀ : Heap} {L : Addr} {m : Str → Option Value} {s : Shared} {news : List (Addr × Obj)} {g : Obj → List (Addr × Obj)}
    {pen cells : Addr} {c r q : Int} {tc tr tq : Tok} {n : Nat} {many : Int} {tm : Tok} {Q E : Value → Shared → Prop}
    (hm : 1 ≤ many) (hm' : many ≤ 1000) (hc : 0 ≤ c) (hr : 0 ≤ r) (hq : 0 ≤ q) (hc' : c ≤ 100000) (hq' : q ≤ 1008)
    (B : Below A₀ base outer h₀) (F : Fr h₀ L s.heap m) (X : (Mine.hd.heap_1 w.params).In h₀) (N : News h₀ L s.heap news) (U : UpdF pen (penObj cells c r q tc tr tq n) news g) (T : Top p loose mean mg mb h₀) (hk : cs.kind = .function)
    (hcells : CellsPre cells (hid s.heap [(pen, penObj cells c r q tc tr tq n)])) (hd : dp + 2 < recursionLimit) (hu : un + 30 < cLine)
    (ret : ∀ (d : Nat) td c' r' tc' tr' n' h' tk', Fr h₀ L h' m → News h₀ L h' (g (penObj cells c' r' q tc' tr' tq n')) → (d : Int) < many → 0 ≤ c' → c' ≤ c + 1 → 0 ≤ r' → Q (.int (d : Int) td) { s with heap := h', toks := tk' }) :
    wpAny (model prog w) (ktrTop dp un gd cn cs L a ccd cl outer) (call (.ref 306) [.ref pen, .int many tm]) Q E s := by
  obtain ⟨pre, post, rfl, hg, h1, h2⟩ := U.split
  refine Spec.use (draw_spec prog w pen cells c r q tc tr tq n many tm hc hc' hr hq hq' hm hm') B F X (fun p hp => N p (by rw [List.mem_singleton.mp hp]; simp)) T hk hcells hd hu
    fun rr own' h' tk' F' N' k' f' ⟨d, td, c', tc', r', tr', n', e1, d0, d1, e2, c0, c1, r0⟩ => ?_
  subst e1 e2
  obtain ⟨d, rfl⟩ := Int.eq_ofNat_of_zero_le d0
  refine ret d td c' r' tc' tr' n' h' tk' F' (hg _ ▸ fun p hp => ?_) d1 c0 c1 r0
  have nm : ∀ x ∈ pre ++ post, x.1 ∉ [(pen, penObj cells c r q tc tr tq n)].map (·.1) := fun x hx z => by
    rw [List.map_singleton, List.mem_singleton] at z
    rcases List.mem_append.mp hx with hx | hx
    · exact h1 x hx z
    · exact h2 x hx z
  rcases List.mem_append.mp hp with hp | hp
  · exact ⟨k' _ _ (N p (List.mem_append_left _ hp)).1 (nm p (List.mem_append_left _ hp)), (N p (List.mem_append_left _ hp)).2⟩
  · rcases List.mem_cons.mp hp with rfl | hp
    · exact N' _ (List.mem_singleton.mpr rfl)
    · have hp' : p ∈ pre ++ (pen, penObj cells c r q tc tr tq n) :: post := List.mem_append_right _ (List.mem_cons_of_mem _ hp)
      exact ⟨k' _ _ (N p hp').1 (nm p (List.mem_append_right _ hp)), (N p hp').2⟩
end Mine
end
-- Make
section
open PySem PySem.W PyProof.Rows PySem.Calls PySem.Spec
namespace Mine

/-- `Spec`, said of the call's code -/
def SpecI (prog : Program) (w : World) (f : Addr) (vs : List Value) (dd uu : Nat) (own : List (Addr × Obj)) (Pre : Heap → Prop) (Post : Heap → Value → List (Addr × Obj) → Prop) : Prop :=
  ∀ (p : Program) (loose : List Str) (mean : ExcName → Option Value) (mg mb : Str → Option Value) (dp un : Nat) (gd : Option (List Code)) (cn : Str) (cs : Scope) (a : Addr) (ccd : Value) (cl : List (Str × Addr)) (outer : List Env) (A₀ : Around) (base h₀ : Heap) (L : Addr) (m : Str → Option Value) (s : Shared)
    (R : Result → Shared → Prop),
    Below A₀ base outer h₀ → Fr h₀ L s.heap m → (Mine.hd.heap_1 w.params).In h₀ → News h₀ L s.heap own → Top p loose mean mg mb h₀ → cs.kind = .function → Pre (hid s.heap own) →
    dp + dd < recursionLimit → un + uu < cLine →
    (∀ r own' h' tk', Fr h₀ L h' m → News h₀ L h' own' → KeepX s.heap h' own → FreshX s.heap own own' → Post h' r own' → R (.ok (.ret r)) { s with heap := h', toks := tk' }) →
    codeAny (model prog w) (ktrTop dp un gd cn cs L a ccd cl outer) (.call (.ref f) ⟨vs, []⟩) R s

section
variable {prog : Program} {w : World} {vs : List Value} {dd uu : Nat} {own : List (Addr × Obj)} {Pre : Heap → Prop} {Post : Heap → Value → List (Addr × Obj) → Prop}
  {name qual : Str} {params : Arguments} {body : List Stmt} {scope : Scope} {dV kV doc pm cdv ct oc : Value} {an od : Option Addr} {osl : Array (Option Value)} {f : Addr}

theorem spec_ofI (binds : List (Str × Value)) (ho : (Mine.hd.heap_1 w.params).lookup f = some ⟨oc, od, .func (fnOf name qual params body scope dV kV doc pm an cdv ct), osl⟩) (hcd : codeIn (Mine.hd.heap_1 w.params) cdv qual = true)
    (hbind : ∀ s : Shared, (Mine.hd.heap_1 w.params).In s.heap → BindsTo s (fnOf name qual params body scope dV kV doc pm an cdv ct) ⟨vs, []⟩ binds) (hloc : ∀ y ∈ binds, scope.names.lookup y.1 = some .local)
    (h : ∀ (p : Program) (loose : List Str) (mean : ExcName → Option Value) (mg mb : Str → Option Value) (dp un : Nat) (gd : Option (List Code)) (outer : List Env) (A₀ : Around) (base g : Heap) (L' : Addr) (s : Shared),
      Below A₀ base outer g → Fr g L' s.heap (fun y => binds.reverse.lookup y) → News g L' s.heap own → (Mine.hd.heap_1 w.params).In g → Top p loose mean mg mb g → Pre g → dp + dd ≤ recursionLimit → un + uu < cLine + 3 → (∀ q ∈ own, q.1 < L') →
      wpAny (model prog w) (ktrTop dp un gd qual scope L' f cdv [] outer) (execs body (envOf qual scope L' f cdv)) (fun fl s' => Fin g L' s Post (match fl with | .ret v => v | _ => .none) s') (fun _ _ => False) s)
    (hdd : 0 < dd)
    (hco : scope.isCoroutine = false := by rfl) (hgen : scope.isGenerator = false := by rfl) (hk : scope.kind = .function := by rfl)
    (hcell : ∀ x ∈ scope.names, x.2 ≠ .cell := by decide) : SpecI prog w f vs dd uu own Pre Post := by
  intro p loose mean mg mb dp un gd cn cs a ccd cl outer A₀ base h₀ L m s R B F X N T hk' hpre hdp hun ret
  obtain ⟨FG, BG, st, lv⟩ := groundX (A := ktrTop dp un gd cn cs L a ccd cl outer) (R := R) B F N rfl rfl hk'
  refine codeAny_call_def (fd := fnX name qual params body scope [] dV kV doc pm an cdv ct) (body := body) (binds := binds) (by show dp < recursionLimit; omega) ((X.keeps F.keep) _ _ ho) rfl (T.nolimit.keeps F.keep) (codeRec_of (X.keeps F.keep) hcd) rfl (hbind s (X.keeps F.keep)) hcell hloc (fun h₁ hns hk₁ => ?_) hco hgen hk
  refine wpAny_mono (h p loose mean mg mb (dp + 1) (un + 3) gd (envX cn cs L a ccd cl :: outer) (ktrTop dp un gd cn cs L a ccd cl outer) base (hid s.heap own) s.heap.objs.size { s with heap := h₁, toks := s.toks + binds.length } BG
    ⟨hns, fun b o e => hk₁ b o (of_hideAll _ e), Nat.le_of_eq (hideAll_size _ _)⟩ (fun p hp => ⟨hk₁ _ _ (N p hp).1, Nat.ne_of_lt (Heap.lt_size (N p hp).1), hideAll_none _ (List.mem_map_of_mem hp)⟩) (X.keeps st) (T.keeps st) hpre (by omega) (by omega) fun p hp => Heap.lt_size (N p hp).1)
    (fun fl s' hfl => lv _ _ ?_) (fun _ _ x => x.elim)
  obtain ⟨h', tk, m', own', rfl, F', N', P⟩ := hfl
  exact leaveK_ F' N' fun kF kN => ret _ own' h' tk kF kN (fun b o e n => F'.keep b o (hideAll_get _ e n)) (freshX_of N') P
end

/-- an object is made; `ex` is lent to its maker -/
theorem make_useX {prog : Program} {w : World} {C fI : Addr} {pos : List Value} {dd uu : Nat} {ex : List (Addr × Obj)} {Pre : Heap → Prop} {Post : Addr → Addr → List (Addr × Obj) → Prop}
    (S : ∀ x dx : Addr, dx < x → (∀ p ∈ ex, p.1 < dx) → SpecI prog w fI (.ref x :: pos) dd uu ((x, instObj C dx) :: (dx, dictOf [] 0) :: ex) Pre (fun _ v own' => v = .none ∧ (∀ p ∈ ex, p ∈ own') ∧ Post x dx own'))
    (hm : makesIn (Mine.hd.heap_1 w.params) C = true) (hi : findIn (Mine.hd.heap_1 w.params) (.ref C) "__init__" = some (some (.ref fI))) (hf : isFn (Mine.hd.heap_1 w.params) (.ref fI) = true)
    {p : Program} {loose : List Str} {mean : ExcName → Option Value} {mg mb : Str → Option Value} {dp un : Nat} {gd : Option (List Code)} {cn : Str} {cs : Scope} {a : Addr} {ccd : Value} {cl : List (Str × Addr)} {outer : List Env} {A₀ : Around} {base h₀ : Heap} {L : Addr} {m : Str → Option Value} {s : Shared} {news : List (Addr × Obj)}
    {Q E : Value → Shared → Prop} (B : Below A₀ base outer h₀) (F : Fr h₀ L s.heap m) (X : (Mine.hd.heap_1 w.params).In h₀) (N : News h₀ L s.heap news) (hex : ∀ p ∈ ex, p ∈ news) (T : Top p loose mean mg mb h₀) (hk : cs.kind = .function)
    (hpre : ∀ h, (∀ p ∈ news, p.1 ∉ ex.map (·.1) → h.get? p.1 = some p.2) → (∀ b o, h₀.get? b = some o → h.get? b = some o) → Pre h) (hd : dp + dd + 1 < recursionLimit) (hu : un + uu + 1 < cLine)
    (ret : ∀ x dx own' h' tk', Fr h₀ L h' m → News h₀ L h' news → News h₀ L h' own' → (∀ p ∈ news, p.1 < dx) → dx < x → Post x dx own' → Q (.ref x) { s with heap := h', toks := tk' }) :
    wpAny (model prog w) (ktrTop dp un gd cn cs L a ccd cl outer) (call (.ref C) pos) Q E s := by
  refine call_cls F X N hm hi hf fun x dx h' F' N' l1 l2 => ?_
  rw [under_make]
  have Nn : News h₀ L h' news := fun q hq => N' q (List.mem_cons_of_mem _ (List.mem_cons_of_mem _ hq))
  have No : News h₀ L h' ((x, instObj C dx) :: (dx, dictOf [] 0) :: ex) := fun q hq => by
    rcases List.mem_cons.mp hq with rfl | hq
    · exact N' _ (List.mem_cons_self ..)
    · rcases List.mem_cons.mp hq with rfl | hq
      · exact N' _ (List.mem_cons_of_mem _ (List.mem_cons_self ..))
      · exact Nn q (hex q hq)
  have nn : ∀ p ∈ news, p.1 ∉ ex.map (·.1) → p.1 ∉ ((x, instObj C dx) :: (dx, dictOf [] 0) :: ex).map (·.1) := fun p hp hx z => by
    rcases List.mem_cons.mp z with e | z
    · exact absurd (Nat.lt_trans (l1 p hp) l2) (by rw [show p.1 = x from e]; exact Nat.lt_irrefl _)
    · rcases List.mem_cons.mp z with e | z
      · exact absurd (l1 p hp) (by rw [show p.1 = dx from e]; exact Nat.lt_irrefl _)
      · exact hx z
  have nh : ∀ b o, h₀.get? b = some o → b ∉ ((x, instObj C dx) :: (dx, dictOf [] 0) :: ex).map (·.1) := fun b o e z => by
    obtain ⟨q, hq, rfl⟩ := List.mem_map.mp z
    have := (No q hq).2.2
    rw [e] at this; cases this
  refine S x dx l2 (fun q hq => l1 q (hex q hq)) p loose mean mg mb (dp + 1) (un + 1) gd cn cs a ccd cl outer A₀ base h₀ L m { s with heap := h' } _ B F' X No T hk
    (hpre _ (fun q hq hx => hideAll_get _ (Nn q hq).1 (nn q hq hx)) fun b o e => hideAll_get _ (F'.keep b o e) (nh b o e)) (by omega) (by omega) fun r own' h2 tk2 F2 N2 k2 f2 ⟨e1, hx', hP⟩ => ?_
  subst e1
  refine ⟨rfl, ret x dx own' h2 tk2 F2 (fun q hq => ⟨?_, (Nn q hq).2⟩) N2 l1 l2 hP⟩
  by_cases hm : q.1 ∈ ex.map (·.1)
  · obtain ⟨q', hq', e⟩ := List.mem_map.mp hm
    have h1 := (Nn q hq).1
    have h2 := (Nn q' (hex q' hq')).1
    rw [show q'.1 = q.1 from e, h1] at h2
    have h3 := (N2 q' (hx' q' hq')).1
    rw [show q'.1 = q.1 from e] at h3
    rw [h3, Option.some.inj h2]
  · exact k2 _ _ (Nn q hq).1 (nn q hq hm)

theorem tuple_of {prog : Program} {w : World} {A : Around} {E : Value → Shared → Prop} {s : Shared} {h₀ : Heap} {L : Addr} {m : Str → Option Value} {news : List (Addr × Obj)} {l : Addr} {items : Array Value} {Q : Value → Shared → Prop} (F : Fr h₀ L s.heap m) (N : News h₀ L s.heap news) (hl : s.heap.IsList l items) (hsz : items.size ≤ sizeLine)
    (h : ∀ D h', Fr h₀ L h' m → News h₀ L h' ((D, { cls := .type "tuple", data := .seq items }) :: news) → (∀ p ∈ news, p.1 < D) → L < D → Q (.ref D) { s with heap := h' }) :
    wpAny (model prog w) A (call (.type "tuple") [.ref l]) Q E s :=
  call_tuple_list (hsz := hsz) hl fun h' hk =>
    have F1 := F.keeps hk
    have N1 : News h₀ L h' news := fun p hp => ⟨hk _ _ (N p hp).1, (N p hp).2⟩
    h _ _ (F1.push _) (N1.push F1 _) (fun p hp => Heap.lt_size (N1 p hp).1) F1.ns.lt

section
set_option maxHeartbeats 4000000 in
/-- Kind.__init__ -/
theorem kind_spec (prog : Program) (w : World) (a b : Str) (ta tb : Tok) (ps x dx : Addr) (hne : dx < x) :
    SpecI prog w 193 [.ref x, .str a ta, .str b tb, .ref ps] 2 200 [(x, instObj 222 dx), (dx, dictOf [] 0)] (fun _ => True) (fun _ v own' => v = .none ∧ (∀ p ∈ ([] : List (Addr × Obj)), p ∈ own') ∧ ∃ t1 t2 t3 n, own' = [(x, instObj 222 dx), (dx, dictOf [ent w "top" t1 (.str a ta), ent w "sub" t2 (.str b tb), ent w "params" t3 (.ref ps)] n)]) := by
  k_with_none
  (k_with "cj" => (first | exact fun h => h.1 | exact fun h => h.2.1 | exact fun h => h.2.2.1 | exact fun h => h.2.2.2.1 | exact fun h => h.2.2.2.2.1 | exact fun h => h.2.2.2.2.2.1 | exact fun h => h.2.2.2.2.2.2.1 | exact fun h => h.2.2.2.2.2.2.2.1 | exact fun h => h.2.2.2.2.2.2.2.2.1 | exact fun h => h.2.2.2.2.2.2.2.2.2.1 | exact fun h => h.2.2.2.2.2.2.2.2.2.2.1 | exact fun h => h.2.2.2.2.2.2.2.2.2.2.2.1 | exact fun h => h.2.2.2.2.2.2.2.2.2.2.2.2.1 | exact fun h => h.2.2.2.2.2.2.2.2.2.2.2.2.2.1 | exact fun h => h.2 | exact fun h => h.2.2 | exact fun h => h.2.2.2 | exact fun h => h.2.2.2.2 | exact fun h => h.2.2.2.2.2 | exact fun h => h.2.2.2.2.2.2 | exact fun h => h.2.2.2.2.2.2.2 | exact fun h => h.2.2.2.2.2.2.2.2 | exact fun h => h.2.2.2.2.2.2.2.2.2 | exact fun h => h.2.2.2.2.2.2.2.2.2.2 | exact fun h => h.2.2.2.2.2.2.2.2.2.2.2 | exact fun h => h.2.2.2.2.2.2.2.2.2.2.2.2 | exact fun h => h.2.2.2.2.2.2.2.2.2.2.2.2.2))
  (k_with "omega" => (with_reducible first | assumption | exact Nat.le_of_ble_eq_true (by decide) | exact Nat.ne_of_gt (by assumption) | exact Nat.ne_of_lt (by assumption) | exact Mine.lm1 (by assumption) (by decide) | exact Mine.lm2 (by assumption) (by decide) | exact Mine.lm3 (by assumption) (by decide) | exact Mine.lm4 (by assumption) (by decide) | exact Mine.lm5 (by assumption) (by decide) | exact Mine.lm6 (by assumption) (by decide) | exact Mine.lm7 (by assumption) (by decide) | exact Mine.lm8 (by assumption) (by decide) | exact Mine.lm9 (by assumption) (by decide) | exact Int.natCast_nonneg _ | (refine Mine.cj1 (by assumption) ?_; k_extra "cj") | (refine Mine.cj2 (by assumption) ?_; k_extra "cj") | (refine Mine.cj3 (by assumption) ?_; k_extra "cj") | (refine Mine.cj4 (by assumption) ?_; k_extra "cj") | (refine Mine.cj5 (by assumption) (by assumption) ?_; k_extra "cj") | (refine Mine.cj6 (by assumption) (by assumption) ?_; k_extra "cj") | (refine Mine.cj7 (by assumption) (by assumption) (by assumption) ?_; k_extra "cj") | (refine Mine.cj8 (by assumption) (by assumption) (by assumption) ?_; k_extra "cj") | exact Mine.cj9 (by assumption) (by assumption) | exact Mine.cj10 (by assumption) (by assumption) | (refine Mine.cl1 (by assumption) ?_; k_extra "cj") | (refine Mine.cl2 (by assumption) (by assumption) ?_; k_extra "cj") | exact Mine.ns1 (by assumption) | exact Mine.ns2 (by assumption) | exact Mine.ns3 | exact Mine.ns4 | exact Mine.lm10 (by assumption) (by decide) | exact Mine.lm11 (by assumption) (by decide) | exact Mine.lm12 (by assumption) (by assumption) (by decide) | exact Mine.lm12 (by assumption) (Nat.le_refl _) (by decide) | exact Mine.lm13 (by assumption) (by assumption) (by decide) | exact Mine.lm13 (by assumption) (Nat.le_refl _) (by decide) | fail))
  (k_with "call type:tuple" => (k_here; (with_reducible show wpAny _ _ (call (Value.type _) [Value.ref _]) _ _ _); k_dflt (refine tuple_of (by assumption) (by assumption) (by is_list) ?z1r57 ?_); (case z1r57 => (rw [List.size_toArray, sizeLine_eq]; omega)); intro D' h' F' N' l1 l2; (try k_lt l1); (replace l2 := ltN l2); (try k_sweep)))
  refine spec_ofI [("self", .ref x), ("top", .str a ta), ("sub", .str b tb), ("params", .ref ps)] (by k_is) (by k_is) (fun s _ => BindsTo.of_eq rfl) (locs rfl) ?_ (by decide)
  rintro p loose mean mg mb dp un gd outer A₀ base g L' s B' F' N' X' T' - hdp hun hlt
  k_fold
  have hne' := ltN hne
  k_steps
  exact Fin.intro (by assumption) (by assumption) ⟨rfl, List.forall_mem_nil _, _, _, _, _, rfl⟩

set_option maxHeartbeats 4000000 in
/-- Box.__init__ -/
theorem box_spec (prog : Program) (w : World) (a : Str) (v : Int) (ta tv : Tok) (x dx : Addr) (hne : dx < x) :
    SpecI prog w 146 [.ref x, .str a ta, .int v tv] 2 200 [(x, instObj 168 dx), (dx, dictOf [] 0)] (fun _ => True) (fun _ r own' => r = .none ∧ (∀ p ∈ ([] : List (Addr × Obj)), p ∈ own') ∧
      ∃ (l1 l2 : Addr) (t1 t2 t3 t4 t5 t6 t7 u3 u4 u5 : Tok), own' = [(l2, W.listOf #[] 0), (l1, W.listOf #[] 0), (x, instObj 168 dx), (dx, dictOf [ent w "name" t1 (.str a ta), ent w "validity" t2 (.int v tv), ent w "next_uid" t3 (.int 1 u3), ent w "top" t4 (.int 1 u4), ent w "floor" t5 (.int 0 u5), ent w "letters" t6 (.ref l1), ent w "gone" t7 (.ref l2)] 7)] ∧ @LT.lt Nat _ x l1 ∧ @LT.lt Nat _ l1 l2) := by
  refine spec_ofI [("self", .ref x), ("name", .str a ta), ("validity", .int v tv)] (by k_is) (by k_is) (fun s _ => BindsTo.of_eq rfl) (locs rfl) ?_ (by decide)
  rintro p loose mean mg mb dp un gd outer A₀ base g L' s B' F' N' X' T' - hdp hun hlt
  k_fold
  have hne' := ltN hne
  have hlt' := ltN (hlt _ (List.mem_cons_self ..))
  dsimp only at hlt'
  k_steps
  exact Fin.intro (by assumption) (by assumption) ⟨rfl, List.forall_mem_nil _, _, _, _, _, _, _, _, _, _, _, _, _, rfl, by omega, by omega⟩

set_option maxHeartbeats 4000000 in
/-- Letter.__init__ -/
theorem letter_spec (prog : Program) (w : World) (u md : Int) (b : Array UInt8) (fvs : List Value) (fl : Addr) (tu tb t0 tm : Tok) (x dx : Addr) (hfl : fvs.length ≤ 4) (hne : dx < x) :
    SpecI prog w 111 [.ref x, .int u tu, .bytes b tb, .ref fl, .int 0 t0, .int md tm] 2 200 [(x, instObj 128 dx), (dx, dictOf [] 0)] (fun g => g.IsList fl fvs.toArray) (fun _ v own' => v = .none ∧ (∀ p ∈ ([] : List (Addr × Obj)), p ∈ own') ∧
      ∃ (D : Addr) (t1 t2 t3 t4 t5 : Tok) (n : Nat), own' = [(D, tupO fvs), (x, instObj 128 dx), (dx, dictOf [ent w "uid" t1 (.int u tu), ent w "octets" t2 (.bytes b tb), ent w "flags" t3 (.ref D), ent w "instant" t4 (.int 0 t0), ent w "modseq" t5 (.int md tm)] n)] ∧ @LT.lt Nat _ x D) := by
  refine spec_ofI [("self", .ref x), ("uid", .int u tu), ("octets", .bytes b tb), ("flags", .ref fl), ("instant", .int 0 t0), ("modseq", .int md tm)] (by k_is) (by k_is) (fun s _ => BindsTo.of_eq rfl) (locs rfl) ?_ (by decide)
  rintro p loose mean mg mb dp un gd outer A₀ base g L' s B' F' N' X' T' hfl2 hdp hun hlt
  k_fold
  have hne' := ltN hne
  have hlt' := ltN (hlt _ (List.mem_cons_self ..))
  dsimp only at hlt'
  k_steps
  exact Fin.intro (by assumption) (by assumption) ⟨rfl, List.forall_mem_nil _, _, _, _, _, _, _, _, rfl, by omega⟩
end
section
set_option maxHeartbeats 4000000 in
/-- Part.__init__ -/
theorem part_spec (prog : Program) (w : World) (l k : Addr) (n : Nat) (t1 t2 t3 : Tok) (x dx : Addr) (hne : dx < x) (hl : ∀ p ∈ [(l, W.listOf #[] n)], p.1 < dx) :
    SpecI prog w 280 [.ref x, .int 0 t1, .int 0 t2, .int 0 t3, .ref l, .ref k] 8 500 [(x, instObj 288 dx), (dx, dictOf [] 0), (l, W.listOf #[] n)] (fun _ => True) (fun _ v own' => v = .none ∧ (∀ p ∈ [(l, W.listOf #[] n)], p ∈ own') ∧
      ∃ (kl : Addr) (s1 s2 s3 s4 s5 s6 s7 s8 u6 : Tok), own' = [(kl, W.listOf #[] 0), (x, instObj 288 dx), (dx, dictOf [ent w "begin" s1 (.int 0 t1), ent w "body" s2 (.int 0 t2), ent w "end" s3 (.int 0 t3), ent w "fields" s4 (.ref l), ent w "kind" s5 (.ref k), ent w "encoding" s6 (.str (Str.ofString "7bit") u6), ent w "kids" s7 (.ref kl), ent w "inner" s8 .none] 8), (l, W.listOf #[] n)] ∧ @LT.lt Nat _ x kl) := by
  k_with_none
  (k_with "cj" => (first | exact fun h => h.1 | exact fun h => h.2.1 | exact fun h => h.2.2.1 | exact fun h => h.2.2.2.1 | exact fun h => h.2.2.2.2.1 | exact fun h => h.2.2.2.2.2.1 | exact fun h => h.2.2.2.2.2.2.1 | exact fun h => h.2.2.2.2.2.2.2.1 | exact fun h => h.2.2.2.2.2.2.2.2.1 | exact fun h => h.2.2.2.2.2.2.2.2.2.1 | exact fun h => h.2.2.2.2.2.2.2.2.2.2.1 | exact fun h => h.2.2.2.2.2.2.2.2.2.2.2.1 | exact fun h => h.2.2.2.2.2.2.2.2.2.2.2.2.1 | exact fun h => h.2.2.2.2.2.2.2.2.2.2.2.2.2.1 | exact fun h => h.2 | exact fun h => h.2.2 | exact fun h => h.2.2.2 | exact fun h => h.2.2.2.2 | exact fun h => h.2.2.2.2.2 | exact fun h => h.2.2.2.2.2.2 | exact fun h => h.2.2.2.2.2.2.2 | exact fun h => h.2.2.2.2.2.2.2.2 | exact fun h => h.2.2.2.2.2.2.2.2.2 | exact fun h => h.2.2.2.2.2.2.2.2.2.2 | exact fun h => h.2.2.2.2.2.2.2.2.2.2.2 | exact fun h => h.2.2.2.2.2.2.2.2.2.2.2.2 | exact fun h => h.2.2.2.2.2.2.2.2.2.2.2.2.2))
  (k_with "omega" => (with_reducible first | assumption | exact Nat.le_of_ble_eq_true (by decide) | exact Nat.ne_of_gt (by assumption) | exact Nat.ne_of_lt (by assumption) | exact Mine.lm1 (by assumption) (by decide) | exact Mine.lm2 (by assumption) (by decide) | exact Mine.lm3 (by assumption) (by decide) | exact Mine.lm4 (by assumption) (by decide) | exact Mine.lm5 (by assumption) (by decide) | exact Mine.lm6 (by assumption) (by decide) | exact Mine.lm7 (by assumption) (by decide) | exact Mine.lm8 (by assumption) (by decide) | exact Mine.lm9 (by assumption) (by decide) | exact Int.natCast_nonneg _ | (refine Mine.cj1 (by assumption) ?_; k_extra "cj") | (refine Mine.cj2 (by assumption) ?_; k_extra "cj") | (refine Mine.cj3 (by assumption) ?_; k_extra "cj") | (refine Mine.cj4 (by assumption) ?_; k_extra "cj") | (refine Mine.cj5 (by assumption) (by assumption) ?_; k_extra "cj") | (refine Mine.cj6 (by assumption) (by assumption) ?_; k_extra "cj") | (refine Mine.cj7 (by assumption) (by assumption) (by assumption) ?_; k_extra "cj") | (refine Mine.cj8 (by assumption) (by assumption) (by assumption) ?_; k_extra "cj") | exact Mine.cj9 (by assumption) (by assumption) | exact Mine.cj10 (by assumption) (by assumption) | (refine Mine.cl1 (by assumption) ?_; k_extra "cj") | (refine Mine.cl2 (by assumption) (by assumption) ?_; k_extra "cj") | exact Mine.ns1 (by assumption) | exact Mine.ns2 (by assumption) | exact Mine.ns3 | exact Mine.ns4 | exact Mine.lm10 (by assumption) (by decide) | exact Mine.lm11 (by assumption) (by decide) | exact Mine.lm12 (by assumption) (by assumption) (by decide) | exact Mine.lm12 (by assumption) (Nat.le_refl _) (by decide) | exact Mine.lm13 (by assumption) (by assumption) (by decide) | exact Mine.lm13 (by assumption) (Nat.le_refl _) (by decide) | fail))
  (k_with "call ref" => ((with_reducible show wpAny _ _ (call (Value.ref 297) [Value.ref _]) _ _ _); k_dflt (refine' Spec.useR (encoding_of_spec _ _ _ _) (by assumption) (by assumption) (by assumption) (by assumption) ?zsr58 (by assumption) (by rfl) trivial ?z3r58 ?z4r58 ?zor58 ?_); (case zsr58 => (intro p' hp'; rw [List.mem_singleton.mp hp']; k_mem)); (case z3r58 => omega); (case z4r58 => omega); (case zor58 => (intro h' r' own' hP'; exact own_same hP'.2)); intro r own' h' tk' F' N' ⟨⟨t', e1⟩, e2⟩; subst e1 e2; (try k_sweep)))
  refine spec_ofI [("self", .ref x), ("begin", .int 0 t1), ("body", .int 0 t2), ("end", .int 0 t3), ("fields", .ref l), ("kind", .ref k)] (by k_is) (by k_is) (fun s _ => BindsTo.of_eq rfl) (locs rfl) ?_ (by decide)
  rintro p loose mean mg mb dp un gd outer A₀ base g L' s B' F' N' X' T' - hdp hun hlt
  k_fold
  have hne' := ltN hne
  have hl' := ltN (hl _ (List.mem_singleton.mpr rfl))
  have hlt' := ltN (hlt _ (List.mem_cons_self ..))
  dsimp only at hlt' hl'
  k_steps
  exact Fin.intro (by assumption) (by assumption) ⟨rfl, fun p' hp' => by rw [List.mem_singleton.mp hp']; k_mem, _, _, _, _, _, _, _, _, _, _, rfl, by omega⟩
end
end Mine
end
-- LBoxA
section
open PySem PySem.W PyProof.Rows PySem.Calls PySem.Spec
namespace Mine

theorem CellsPre.keeps {cells : Addr} {h h' : Heap} (x : CellsPre cells h) (k : ∀ b o, h.get? b = some o → h'.get? b = some o) : CellsPre cells h' := by
  obtain ⟨xs, ns, ⟨o, ho, r⟩, r2⟩ := x
  exact ⟨xs, ns, ⟨o, k _ _ ho, r⟩, r2⟩
theorem CellsPre.hid {cells : Addr} {g h : Heap} {L : Addr} {m : Str → Option Value} {own : List (Addr × Obj)} (x : CellsPre cells g) (F : Fr g L h m) (N : News g L h own) : CellsPre cells (Mine.hid h own) := x.keeps fun b o e => hideAll_get _ (F.keep b o e) fun z => by
  obtain ⟨q, hq, e'⟩ := List.mem_map.mp z
  have := (N q hq).2.2
  rw [e', e] at this
  cases this
theorem news_at {h₀ h : Heap} {L : Addr} {news : List (Addr × Obj)} {d : Addr} {o : Obj} {g : Obj → List (Addr × Obj)} (N : News h₀ L h news) (U : UpdF d o news g) : News h₀ L h [(d, o)] := by
  obtain ⟨pre, post, rfl, _⟩ := U.split
  intro p hp
  rw [List.mem_singleton.mp hp]
  exact N _ (by simp)

theorem title_item {prog : Program} {w : World} {A : Around} {E : Value → Shared → Prop} {s : Shared} {value slice : PySem.Expr} {t : Addr} {a b : Str} {ta tb : Tok} {k : Int} {u : Tok} {Q : Value → Shared → Prop} (ht : IsTup s.heap t ([.str a ta, .str b tb] : List Value).toArray) (h0 : 0 ≤ k) (h1 : k < 2) (ha : a.length ≤ 20) (hb : b.length ≤ 20)
    (h : ∀ x tx, x.length ≤ 20 → Q (.str x tx) s)
    (hs : subscripted slice false (.ref t) (.int k u) = operate [.ref t, .int k u] (getItem (.ref t) (.int k u)) := by with_unfolding_all rfl) :
    wpAny (model prog w) A (subscriptTail value slice (.ref t) (.int k u)) Q E s := by
  have hk : k = 0 ∨ k = 1 := by omega
  rcases hk with rfl | rfl
  · exact tail_any ht.typeIs slot_tuple_getitem.lookup (getItem_tuple ht (by decide) (by decide) (j := 0) (by rfl) (by rfl) (h a ta ha)) hs
  · exact tail_any ht.typeIs slot_tuple_getitem.lookup (getItem_tuple ht (by decide) (by decide) (j := 1) (by rfl) (by rfl) (h b tb hb)) hs
theorem news_app {h₀ h : Heap} {L : Addr} {a b : List (Addr × Obj)} (A : News h₀ L h a) (B : News h₀ L h b) : News h₀ L h (a ++ b) := fun p hp => (List.mem_append.mp hp).elim (A p) (B p)

/-- the letters of a list, by the ledger -/
inductive LettersN (w : World) (news : List (Addr × Obj)) : List Value → List LetD → Prop
  | nil : LettersN w news [] []
  | snoc {vs : List Value} {ls : List LetD} {a d fa : Addr} {l : LetD} {fvs : List Value} {n : Nat} {b : Array UInt8} {t1 t2 t3 t4 t5 u1 u2 u4 u5 : Tok} : LettersN w news vs ls → (a, instObj 128 d) ∈ news →
      (d, dictOf [ent w "uid" t1 (.int l.uid u1), ent w "octets" t2 (.bytes b u2), ent w "flags" t3 (.ref fa), ent w "instant" t4 (.int 0 u4), ent w "modseq" t5 (.int l.modseq u5)] n) ∈ news → (fa, tupO fvs) ∈ news → StrsAre fvs l.flags → b.size = l.size →
      LettersN w news (vs ++ [.ref a]) (ls ++ [l])
theorem LettersN.mono {w : World} {a b : List (Addr × Obj)} {vs : List Value} {ls : List LetD} (x : LettersN w a vs ls) (k : ∀ p ∈ a, p ∈ b) : LettersN w b vs ls := by
  induction x with
  | nil => exact .nil
  | snoc _ h1 h2 h3 h4 h5 ih => exact .snoc ih (k _ h1) (k _ h2) (k _ h3) h4 h5
theorem LettersAt.snoc {w : World} {h : Heap} {vs : List Value} {ls : List LetD} {a : Addr} {l : LetD} (x : LettersAt w h vs ls) (y : LetAt w h a l) : LettersAt w h (vs ++ [.ref a]) (ls ++ [l]) := by
  induction x with
  | nil => exact .cons y .nil
  | cons z _ ih => exact .cons z ih
theorem LettersN.at {w : World} {h₀ h : Heap} {L : Addr} {news : List (Addr × Obj)} {vs : List Value} {ls : List LetD} (x : LettersN w news vs ls) (N : News h₀ L h news) : LettersAt w h vs ls := by
  induction x with
  | nil => exact .nil
  | snoc _ h1 h2 h3 h4 h5 ih => exact ih.snoc ⟨_, _, _, _, _, _, _, _, _, _, _, _, _, _, (N _ h1).1, (N _ h2).1, ⟨_, (N _ h3).1, rfl, _, rfl⟩, h4, h5⟩
theorem LettersN.length {w : World} {news : List (Addr × Obj)} {vs : List Value} {ls : List LetD} (x : LettersN w news vs ls) : vs.length = ls.length := by
  induction x with
  | nil => rfl
  | snoc _ _ _ _ _ _ ih => simp [ih]

/-- between two turns of the loop that makes the letters -/
def BoxJ (w : World) (cA pen cells lst ln bx bd : Addr) (bo : Obj) (q : Int) (tq : Tok) (c₀ : Int) (m₀ : Str → Option Value) (i : Nat) (m₁ : Str → Option Value) (news₁ : List (Addr × Obj)) : Prop :=
  ∃ (U : Nat) (tU : Tok) (c r : Int) (tc tr : Tok) (n n1 n2 : Nat) (co : Obj) (ov : Option Value) (ps vs : List Value) (ls : List LetD) (rest : List (Addr × Obj)),
    news₁ = (cA, co) :: (pen, penObj cells c r q tc tr tq n) :: (lst, W.listOf ps.toArray n1) :: (ln, W.listOf vs.toArray n2) :: (bx, instObj 168 bd) :: (bd, bo) :: rest ∧
    co.data = .cell ov ∧ (∀ p ∈ rest, p.1 ≠ cA) ∧ (∀ p ∈ rest, p.1 ≠ pen) ∧ (∀ p ∈ rest, p.1 ≠ lst) ∧ (∀ p ∈ rest, p.1 ≠ ln) ∧ (∀ p ∈ rest, p.1 ≠ bd) ∧ LettersN w rest ps ls ∧ StrsAre vs (linesFrom 0 ls) ∧ ls.length = i ∧ Rising ls ∧ (∀ l ∈ ls, l.Ok) ∧ (∀ l ∈ ls, l.uid ≤ U) ∧ U ≤ 3 * i ∧
    0 ≤ c ∧ c ≤ c₀ + 4 * i ∧ 0 ≤ r ∧ m₁ (Str.ofString "uid") = some (.int U tU) ∧
    (∀ z, z ≠ Str.ofString "uid" → z ≠ Str.ofString "size" → z ≠ Str.ofString "modseq" → z ≠ Str.ofString "flags" → z ≠ Str.ofString "parts" → z ≠ Str.ofString "turn" → m₁ z = m₀ z)

theorem box_frame {m₀ m₁ : Str → Option Value} {U : Nat} {tU : Tok} (h1 : m₁ (Str.ofString "uid") = some (.int U tU))
    (h3 : ∀ z, z ≠ Str.ofString "uid" → z ≠ Str.ofString "size" → z ≠ Str.ofString "modseq" → z ≠ Str.ofString "flags" → z ≠ Str.ofString "parts" → z ≠ Str.ofString "turn" → m₁ z = m₀ z) :
    m₁ = fun y => if y = Str.ofString "uid" then some (.int U tU) else if y = Str.ofString "size" then m₁ (Str.ofString "size") else if y = Str.ofString "modseq" then m₁ (Str.ofString "modseq") else if y = Str.ofString "flags" then m₁ (Str.ofString "flags") else if y = Str.ofString "parts" then m₁ (Str.ofString "parts") else if y = Str.ofString "turn" then m₁ (Str.ofString "turn") else m₀ y := by
  funext y
  by_cases a : y = Str.ofString "uid"
  · rw [if_pos a, a]; exact h1
  rw [if_neg a]
  by_cases b : y = Str.ofString "size"
  · rw [if_pos b, b]
  rw [if_neg b]
  by_cases c : y = Str.ofString "modseq"
  · rw [if_pos c, c]
  rw [if_neg c]
  by_cases d : y = Str.ofString "flags"
  · rw [if_pos d, d]
  rw [if_neg d]
  by_cases e : y = Str.ofString "parts"
  · rw [if_pos e, e]
  rw [if_neg e]
  by_cases f : y = Str.ofString "turn"
  · rw [if_pos f, f]
  rw [if_neg f]
  exact h3 y a b c d e f

theorem for_inv {prog : Program} {w : World} {A : Around} {E : Value → Shared → Prop} {s : Shared} {env : Env} {h₀ : Heap} {m : Str → Option Value} {Q : Flow → Shared → Prop} {x : Str} {px pos : Pos} {iter : PySem.Expr} {body : List Stmt} (_F : Fr h₀ env.locals s.heap m) (hx : env.kindOf x = some .local)
    (hp : (env.scope.kind == .class || (env.scope.kind == .module && env.locals != env.globals)) = false)
    (h : wpAny (model prog w) A (eval iter env) (fun xv s₁ => wpAny (model prog w) A (pyIter xv) (fun it s₂ => LoopAtU prog w A h₀ env x body Q E it s₂) E s₁) E s)
    (hs : ∀ x, foldedSetIterable iter env x = pure x) (hE : PassesOwn (model prog w) A env E) :
    wpAny (model prog w) A (exec (.For (.Name x px) iter body [] pos) env) Q E s := For_invU h₀ hx hp h hs hE

abbrev turnM (m : Str → Option Value) (U : Nat) (tU : Tok) (x1 x2 x3 x4 x5 : Option Value) : Str → Option Value := fun y => if y = Str.ofString "uid" then some (.int U tU) else if y = Str.ofString "size" then x1 else if y = Str.ofString "modseq" then x2 else if y = Str.ofString "flags" then x3 else if y = Str.ofString "parts" then x4 else if y = Str.ofString "turn" then x5 else m y

/-- what holds between two turns, of the things by name -/
structure BoxT (w : World) (cA pen lst ln bd : Addr) (c₀ : Int) (i U : Nat) (c r : Int) (co : Obj) (ov : Option Value) (ps vs : List Value) (ls : List LetD) (rest : List (Addr × Obj)) : Prop where
  co : co.data = .cell ov
  r1 : ∀ p ∈ rest, p.1 ≠ cA
  r2 : ∀ p ∈ rest, p.1 ≠ pen
  r3 : ∀ p ∈ rest, p.1 ≠ lst
  r4 : ∀ p ∈ rest, p.1 ≠ ln
  r5 : ∀ p ∈ rest, p.1 ≠ bd
  lets : LettersN w rest ps ls
  lns : StrsAre vs (linesFrom 0 ls)
  len : ls.length = i
  rise : Rising ls
  ok : ∀ l ∈ ls, l.Ok
  top : ∀ l ∈ ls, l.uid ≤ U
  u : U ≤ 3 * i
  c0 : 0 ≤ c
  c1 : c ≤ c₀ + 4 * i
  r0 : 0 ≤ r

theorem iter_box {prog : Program} {w : World} {A : Around} {E : Value → Shared → Prop} {s : Shared} {env : Env} {h₀ : Heap} {m : Str → Option Value} {Q : Flow → Shared → Prop} {body : List Stmt}
    {L b2 lst bx bd T1 ln T2 cA pen cells : Addr} (hLe : env.locals = L) {ob2 bo oT1 oT2 co : Obj} {n1 n2 n : Nat} {c r q d : Int} {tc tr tq tU t u v : Tok} {ov : Option Value} {ra : Addr}
    (hh : A.handled = none) (hr : IsRange s.heap ra 0 d 1 t u v) (d0 : 0 ≤ d) (d1 : d < 6) (F : Fr h₀ L s.heap m)
    (N : News h₀ L s.heap [(b2, ob2), (lst, W.listOf #[] n1), (bx, instObj 168 bd), (bd, bo), (T1, oT1), (ln, W.listOf #[] n2), (T2, oT2), (cA, co), (pen, penObj cells c r q tc tr tq n)])
    (hco : co.data = .cell ov) (hu : m (Str.ofString "uid") = some (.int 0 tU)) (hc : 0 ≤ c) (hrr : 0 ≤ r)
    (step : ∀ (i : Nat) (tv : Tok) (I : Addr) (oI : Obj) (s' : Shared) (U : Nat) (tU' : Tok) (c' r' : Int) (tc' tr' : Tok) (n' n1' n2' : Nat) (co' : Obj) (ov' : Option Value) (ps vs : List Value) (ls : List LetD) (rest : List (Addr × Obj)) (x1 x2 x3 x4 x5 : Option Value),
      i < 5 → BoxT w cA pen lst ln bd c i U c' r' co' ov' ps vs ls rest → (∀ p ∈ (cA, co') :: (pen, penObj cells c' r' q tc' tr' tq n') :: (lst, W.listOf ps.toArray n1') :: (ln, W.listOf vs.toArray n2') :: (bx, instObj 168 bd) :: (bd, bo) :: rest, p.1 ≠ I) →
      Fr h₀ L s'.heap (fun y => if y = Str.ofString "turn" then some (.int (i : Int) tv) else turnM m U tU' x1 x2 x3 x4 x5 y) →
      News h₀ L s'.heap ((I, oI) :: (cA, co') :: (pen, penObj cells c' r' q tc' tr' tq n') :: (lst, W.listOf ps.toArray n1') :: (ln, W.listOf vs.toArray n2') :: (bx, instObj 168 bd) :: (bd, bo) :: rest) →
      wpAny (model prog w) A (execs body env) (TurnEnd h₀ L I oI (BoxJ w cA pen cells lst ln bx bd bo q tq c m (i + 1)) s') E s')
    (out : ∀ (k : Nat) (h' : Heap) (tk : Nat) (U : Nat) (tU' : Tok) (c' r' : Int) (tc' tr' : Tok) (n' n1' n2' : Nat) (co' : Obj) (ov' : Option Value) (ps vs : List Value) (ls : List LetD) (rest : List (Addr × Obj)) (x1 x2 x3 x4 x5 : Option Value),
      k ≤ 5 → BoxT w cA pen lst ln bd c k U c' r' co' ov' ps vs ls rest → Fr h₀ L h' (turnM m U tU' x1 x2 x3 x4 x5) →
      News h₀ L h' ((cA, co') :: (pen, penObj cells c' r' q tc' tr' tq n') :: (lst, W.listOf ps.toArray n1') :: (ln, W.listOf vs.toArray n2') :: (bx, instObj 168 bd) :: (bd, bo) :: rest) → Q .next { s with heap := h', toks := tk }) :
    wpAny (model prog w) A (pyIter (.ref ra)) (fun it s₂ => LoopAtU prog w A h₀ env (Str.ofString "turn") body Q E it s₂) E s := by
  subst hLe
  have hk : ∃ k : Nat, d = (k : Int) ∧ k ≤ 5 := ⟨d.toNat, by omega, by omega⟩
  obtain ⟨k, rfl, hk5⟩ := hk
  have hsm : Builtin.Range.small 0 (k : Int) 1 = true := by
    have : k = 0 ∨ k = 1 ∨ k = 2 ∨ k = 3 ∨ k = 4 ∨ k = 5 := by omega
    rcases this with rfl | rfl | rfl | rfl | rfl | rfl <;> decide +kernel
  have hsz : Builtin.Range.rangeSize 0 (k : Int) 1 = ((k : Nat) : Int) := by
    have : k = 0 ∨ k = 1 ∨ k = 2 ∨ k = 3 ∨ k = 4 ∨ k = 5 := by omega
    rcases this with rfl | rfl | rfl | rfl | rfl | rfl <;> decide +kernel
  have N2 : News h₀ env.locals s.heap ((cA, co) :: (pen, penObj cells c r q tc tr tq n) :: (lst, W.listOf ([] : List Value).toArray n1) :: (ln, W.listOf ([] : List Value).toArray n2) :: (bx, instObj 168 bd) :: (bd, bo) :: []) := fun p hp => N p (by
    simp only [List.mem_cons, List.not_mem_nil, or_false] at hp ⊢
    rcases hp with h | h | h | h | h | h <;> simp [h])
  refine iter_range_U hh hr hsm hsz F N2 (BoxJ w cA pen cells lst ln bx bd bo q tq c m) ?_ ?_ ?_
  · refine ⟨0, tU, c, r, tc, tr, n, n1, n2, co, ov, [], [], [], [], rfl, hco, List.forall_mem_nil _, List.forall_mem_nil _, List.forall_mem_nil _, List.forall_mem_nil _, List.forall_mem_nil _, .nil, .nil, rfl, fun i j a b _ h => by simp at h, List.forall_mem_nil _, List.forall_mem_nil _, Nat.le_refl _, hc, by omega, hrr, hu, fun _ _ _ _ _ _ _ => rfl⟩
  · rintro i tv m₁ news₁ I oI s' hi ⟨U, tU', c', r', tc', tr', n', n1', n2', co', ov', ps, vs, ls, rest, rfl, e1, e2, e3, e4, e5, e5', e6, e7, e8, e9, e10, e11, e12, e13, e14, e15, e16, e17⟩ hI F' N'
    rw [Int.zero_add, box_frame e16 e17] at F'
    exact step i tv I oI s' U tU' c' r' tc' tr' n' n1' n2' co' ov' ps vs ls rest _ _ _ _ _ (by omega) ⟨e1, e2, e3, e4, e5, e5', e6, e7, e8, e9, e10, e11, e12, e13, e14, e15⟩ hI F' N'
  · rintro h' tk m' news' F' N' ⟨U, tU', c', r', tc', tr', n', n1', n2', co', ov', ps, vs, ls, rest, rfl, e1, e2, e3, e4, e5, e5', e6, e7, e8, e9, e10, e11, e12, e13, e14, e15, e16, e17⟩
    rw [box_frame e16 e17] at F'
    exact out k h' tk U tU' c' r' tc' tr' n' n1' n2' co' ov' ps vs ls rest _ _ _ _ _ hk5 ⟨e1, e2, e3, e4, e5, e5', e6, e7, e8, e9, e10, e11, e12, e13, e14, e15⟩ F' N'

def AllNe (d : Addr) : List (Addr × Obj) → Prop
  | [] => True
  | p :: r => @Ne Nat p.1 d ∧ AllNe d r
theorem allNe_of {d : Addr} : ∀ {l : List (Addr × Obj)}, (∀ p ∈ l, p.1 ≠ d) → AllNe d l
  | [], _ => trivial
  | p :: _, h => ⟨h p (.head _), allNe_of fun q hq => h q (.tail _ hq)⟩
theorem comp_assignF {prog : Program} {w : World} {A : Around} {E : Value → Shared → Prop} {s : Shared} {env : Env} {h₀ : Heap} {m : Str → Option Value} {elt target iter : PySem.Expr} {ifs : List PySem.Expr} {scope : Scope} {cl : List (Str × Addr)} {pos spos : Pos} {y : Str} {py : Pos} {Q : Flow → Shared → Prop} {L : Addr} (_F : Fr h₀ L s.heap m) (hLe : env.locals = L)
    (hsw : swapsWith (.ListComp elt [⟨target, iter, ifs, 0⟩] scope pos) (some (.Name y py)) spos.line env = pure true)
    (hclos : closureFor scope env = pure cl) (hcell : ∀ y ∈ scope.names, y.2 ≠ .cell) (hkind : scope.kind = .function)
    (hnames : ∀ y ∈ scope.names, y.2 = .local → scope.names.lookup y.1 = some .local)
    (hy : env.kindOf y = some .local) (hp : (env.scope.kind == .class || (env.scope.kind == .module && env.locals != env.globals)) = false)
    (h : wpAny (model prog w) A (eval iter env) (fun xv s₁ => wpAny (model prog w) A (pyIter xv) (BlockAt prog w A h₀ L m env elt target ifs scope cl (fun D z => if z = y then some (.ref D) else m z) (fun _ s₂ => Q .next s₂)) E s₁) E s)
    (hs : ∀ x, foldedSetIterable iter env x = pure x := by intro _; rfl) :
    wpAny (model prog w) A (exec (.Assign [.Name y py] (.ListComp elt [⟨target, iter, ifs, 0⟩] scope pos) spos) env) Q E s := comp_assign hLe hsw hclos hcell hkind hnames hy hp h hs

section
variable {prog : Program} {w : World} {A : Around} {E : Value → Shared → Prop} {s : Shared}
theorem add_natI {a b : Int} {x y : Nat} {t u : Tok} {Q : Value → Shared → Prop} (e1 : a = (x : Int)) (e2 : b = (y : Int)) (h : Q (.int ((x + y : Nat) : Int) s.toks) { s with toks := s.toks + 1 }) :
    wpAny (model prog w) A (binaryOp .Add (.int a t) (.int b u)) Q E s := by
  subst e1 e2
  exact add_int (by rw [show ((x : Int) + (y : Int)) = ((x + y : Nat) : Int) from by omega]; exact h)
theorem mul_x {n : Nat} {t u : Tok} {Q : Value → Shared → Prop} (hn : n ≤ 1000) (h : ∀ b t' k, b.size = n → Q (.bytes b t') { s with toks := k }) :
    wpAny (model prog w) A (binaryOp .Mult (.bytes ([120] : List UInt8).toArray t) (.int (n : Int) u)) Q E s :=
  bytes_mul_any (by simp) (by omega) (by omega) (by decide) fun t' k => h _ t' k (by simp)
theorem append_use {h₀ : Heap} {L D : Addr} {m : Str → Option Value} {news news' : List (Addr × Obj)} {its : List Value} {n : Nat} {x : Value} {Q : Value → Shared → Prop} (F : Fr h₀ L s.heap m) (N : News h₀ L s.heap news)
    (U : Upd D (W.listOf its.toArray n) (W.listOf (its ++ [x]).toArray (n + 1)) news news') (hsz : its.length ≤ 1000)
    (h : ∀ h', Fr h₀ L h' m → News h₀ L h' news' → Q .none { s with heap := h' }) : wpAny (model prog w) A (call (.builtin "list.append") [.ref D, x]) Q E s := by
  refine append_K (hsz := by rw [List.size_toArray, sizeLine_eq]; omega) F N (news' := news') (its := its.toArray) (n := n) ?_ h
  rw [show its.toArray.push x = (its ++ [x]).toArray by simp]
  exact U
end
/-- a letter is made -/
theorem letter_make {prog : Program} {w : World} {u md : Nat} {b : Array UInt8} {fvs : List Value} {fl : Addr} {tu tb t0 tm : Tok}
    {p : Program} {loose : List Str} {mean : ExcName → Option Value} {mg mb : Str → Option Value} {dp un : Nat} {gd : Option (List Code)} {cn : Str} {cs : Scope} {a : Addr} {ccd : Value} {cl : List (Str × Addr)} {outer : List Env} {A₀ : Around} {base h₀ : Heap} {L : Addr} {m : Str → Option Value} {s : Shared} {news : List (Addr × Obj)}
    {Q E : Value → Shared → Prop} (hm : (fl, LCg.lst fvs) ∈ news) (hfl : fvs.length ≤ 4) (B : Below A₀ base outer h₀) (F : Fr h₀ L s.heap m) (X : (Mine.hd.heap_1 w.params).In h₀) (N : News h₀ L s.heap news) (T : Top p loose mean mg mb h₀) (hk : cs.kind = .function) (hd : dp + 4 < recursionLimit) (hu : un + 300 < cLine)
    (ret : ∀ (x dx D : Addr) t1 t2 t3 t4 t5 n h' tk', Fr h₀ L h' m → News h₀ L h' ((D, tupO fvs) :: (x, instObj 128 dx) :: (dx, dictOf [ent w "uid" t1 (.int u tu), ent w "octets" t2 (.bytes b tb), ent w "flags" t3 (.ref D), ent w "instant" t4 (.int 0 t0), ent w "modseq" t5 (.int md tm)] n) :: news) →
      (∀ p ∈ news, p.1 < dx) → @LT.lt Nat _ dx x → @LT.lt Nat _ x D → Q (.ref x) { s with heap := h', toks := tk' }) :
    wpAny (model prog w) (ktrTop dp un gd cn cs L a ccd cl outer) (call (.ref 128) [.int u tu, .bytes b tb, .ref fl, .int 0 t0, .int md tm]) Q E s := by
  refine make_useX (ex := []) (fun x dx hne _ => letter_spec prog w u md b fvs fl tu tb t0 tm x dx hfl hne) (by k_is) (by k_is) (by k_is) B F X N (List.forall_mem_nil _) T hk (fun h hk _ => ⟨_, hk _ hm (by simp), rfl, _, rfl⟩) (by omega) (by omega)
    fun x dx own' h' tk' F' N' N2 l1 l2 ⟨D, t1, t2, t3, t4, t5, n, e, l3⟩ => ?_
  subst e
  exact ret x dx D t1 t2 t3 t4 t5 n h' tk' F' (news_app N2 N') l1 l2 l3

theorem rising_snoc {ls : List LetD} {l : LetD} {U : Nat} (hr : Rising ls) (ht : ∀ x ∈ ls, x.uid ≤ U) (h : U < l.uid) : Rising (ls ++ [l]) := by
  intro i j a b hij ha hb
  by_cases hj : j < ls.length
  · rw [List.getElem?_append_left (by omega)] at ha
    rw [List.getElem?_append_left hj] at hb
    exact hr i j a b hij ha hb
  · have hj' : j = ls.length := by
      have := (List.getElem?_eq_some_iff.mp hb).1
      simp only [List.length_append, List.length_singleton] at this
      omega
    subst hj'
    rw [List.getElem?_append_right (Nat.le_refl _), Nat.sub_self] at hb
    simp at hb
    subst hb
    rw [List.getElem?_append_left hij] at ha
    have := ht a (List.mem_of_getElem? ha)
    omega

theorem box_turn_end {w : World} {g : Heap} {L I cA pen cells lst ln bx bd x dx D : Addr} {oI bo co co' : Obj} {c₀ q c r c' r' : Int} {m m₂ : Str → Option Value} {i U u' sz md : Nat} {ov ov' : Option Value} {ps vs fvs : List Value} {ls : List LetD} {rest news : List (Addr × Obj)} {s' : Shared} {h' : Heap} {tk n1 n2 n' nn : Nat} {tc' tr' tq t1 t2 t3 t4 t5 u1 u2 u4 u5 tl tu : Tok} {b : Array UInt8} {fl : List Str}
    (hT : BoxT w cA pen lst ln bd c₀ i U c r co ov ps vs ls rest) (F : Fr g L h' m₂) (N : News g L h' news)
    (hsub : ∀ p ∈ (I, oI) :: (lst, W.listOf (ps ++ [Value.ref x]).toArray n1) :: (x, instObj 128 dx) :: (dx, dictOf [ent w "uid" t1 (.int u' u1), ent w "octets" t2 (.bytes b u2), ent w "flags" t3 (.ref D), ent w "instant" t4 (.int 0 u4), ent w "modseq" t5 (.int md u5)] nn) :: (D, tupO fvs) :: (cA, co') ::
      (pen, penObj cells c' r' q tc' tr' tq n') :: (ln, W.listOf (vs ++ [Value.str (lineS (i + 1) ⟨u', sz, md, fl⟩) tl]).toArray n2) :: (bx, instObj 168 bd) :: (bd, bo) :: rest, p ∈ news)
    (hco : co'.data = .cell ov') (hI : ∀ p ∈ (cA, co) :: (pen, co) :: (lst, co) :: (ln, co) :: (bx, co) :: (bd, co) :: rest, p.1 ≠ I) (hfl : StrsAre fvs fl) (hb : b.size = sz) (hu : U < u') (hu3 : u' ≤ 3 * (i + 1)) (ok : LetD.Ok ⟨u', sz, md, fl⟩)
    (l0 : @LT.lt Nat _ I dx) (l1 : @LT.lt Nat _ cA dx) (l2 : @LT.lt Nat _ pen dx) (l3 : @LT.lt Nat _ lst dx) (l4 : @LT.lt Nat _ ln dx) (l5 : @LT.lt Nat _ bd dx) (l6 : @LT.lt Nat _ dx x) (l7 : @LT.lt Nat _ x D)
    (k0 : 0 ≤ c') (k1 : c' ≤ c₀ + 4 * (i + 1 : Nat)) (k2 : 0 ≤ r') (huid : m₂ (Str.ofString "uid") = some (.int u' tu))
    (hm : ∀ z, z ≠ Str.ofString "uid" → z ≠ Str.ofString "size" → z ≠ Str.ofString "modseq" → z ≠ Str.ofString "flags" → z ≠ Str.ofString "parts" → z ≠ Str.ofString "turn" → m₂ z = m z) :
    TurnEnd g L I oI (BoxJ w cA pen cells lst ln bx bd bo q tq c₀ m (i + 1)) s' .next { s' with heap := h', toks := tk } := by
  have hlen := hT.len
  have ne3 : ∀ d : Addr, @LT.lt Nat _ d dx → (∀ p ∈ rest, p.1 ≠ d) → ∀ p ∈ (x, instObj 128 dx) :: (dx, dictOf [ent w "uid" t1 (.int u' u1), ent w "octets" t2 (.bytes b u2), ent w "flags" t3 (.ref D), ent w "instant" t4 (.int 0 u4), ent w "modseq" t5 (.int md u5)] nn) :: (D, tupO fvs) :: rest, p.1 ≠ d := by
    intro d hd hr p hp
    have hd' := ltN hd
    have h6 := ltN l6
    have h7 := ltN l7
    rcases List.mem_cons.mp hp with rfl | hp
    · exact neN (a := x) (b := d) (by omega)
    · rcases List.mem_cons.mp hp with rfl | hp
      · exact neN (a := dx) (b := d) (by omega)
      · rcases List.mem_cons.mp hp with rfl | hp
        · exact neN (a := D) (b := d) (by omega)
        · exact hr p hp
  have hIr : ∀ p ∈ rest, p.1 ≠ I := fun p hp => hI p (by simp [hp])
  refine TurnEnd.intro (news₂ := (cA, co') :: (pen, penObj cells c' r' q tc' tr' tq n') :: (lst, W.listOf (ps ++ [Value.ref x]).toArray n1) :: (ln, W.listOf (vs ++ [Value.str (lineS (i + 1) ⟨u', sz, md, fl⟩) tl]).toArray n2) :: (bx, instObj 168 bd) :: (bd, bo) :: ((x, instObj 128 dx) :: (dx, dictOf [ent w "uid" t1 (.int u' u1), ent w "octets" t2 (.bytes b u2), ent w "flags" t3 (.ref D), ent w "instant" t4 (.int 0 u4), ent w "modseq" t5 (.int md u5)] nn) :: (D, tupO fvs) :: rest)) F (fun p hp => N p (hsub p ?_)) (fun p hp => ?_) ?_
  · simp only [List.mem_cons] at hp ⊢
    rcases hp with h | h | h | h | h | h | h | h | h | h | h <;> simp [h]
  · rcases List.mem_cons.mp hp with rfl | hp
    · exact hI (cA, co) (by simp)
    rcases List.mem_cons.mp hp with rfl | hp
    · exact hI (pen, co) (by simp)
    rcases List.mem_cons.mp hp with rfl | hp
    · exact hI (lst, co) (by simp)
    rcases List.mem_cons.mp hp with rfl | hp
    · exact hI (ln, co) (by simp)
    rcases List.mem_cons.mp hp with rfl | hp
    · exact hI (bx, co) (by simp)
    rcases List.mem_cons.mp hp with rfl | hp
    · exact hI (bd, co) (by simp)
    exact ne3 I l0 hIr p hp
  · refine ⟨u', tu, c', r', tc', tr', n', n1, n2, co', ov', ps ++ [Value.ref x], vs ++ [Value.str (lineS (i + 1) ⟨u', sz, md, fl⟩) tl], ls ++ [⟨u', sz, md, fl⟩], _, rfl, hco, ne3 _ l1 hT.r1, ne3 _ l2 hT.r2, ne3 _ l3 hT.r3, ne3 _ l4 hT.r4, ne3 _ l5 hT.r5,
      .snoc (l := ⟨u', sz, md, fl⟩) (hT.lets.mono fun p hp => List.mem_cons_of_mem _ (List.mem_cons_of_mem _ (List.mem_cons_of_mem _ hp))) (List.mem_cons_self ..) (List.mem_cons_of_mem _ (List.mem_cons_self ..)) (List.mem_cons_of_mem _ (List.mem_cons_of_mem _ (List.mem_cons_self ..))) hfl hb, ?_, by simp [hlen], rising_snoc hT.rise hT.top hu, ?_, ?_, hu3, k0, k1, k2, huid, hm⟩
    · rw [linesFrom_snoc, Nat.zero_add, hlen]
      exact strsAre_snoc hT.lns _ _
    · intro l hl
      rcases List.mem_append.mp hl with hl | hl
      · exact hT.ok l hl
      · rw [List.mem_singleton.mp hl]; exact ok
    · intro l hl
      rcases List.mem_append.mp hl with hl | hl
      · exact Nat.le_of_lt (Nat.lt_of_le_of_lt (hT.top l hl) hu)
      · rw [List.mem_singleton.mp hl]; exact Nat.le_refl _

section
variable {prog : Program} {w : World} {A : Around} {E : Value → Shared → Prop} {s : Shared}
theorem join_line {D : Addr} {i U d1 sz d2 : Nat} {t t1 t2 t3 t4 : Tok} {fvs : List Value} {fl : List Str} {Q : Value → Shared → Prop}
    (hl : s.heap.IsList D (Value.str (numS ((i : Int) + 1)) t1 :: Value.str (Str.ofString "uid " ++ numS ((U : Int) + 1 + (d1 : Int))) t2 :: Value.str (Str.ofString "octets " ++ numS (sz : Int)) t3 :: Value.str (Str.ofString "modseq " ++ numS (2 + (d2 : Int))) t4 :: fvs).toArray)
    (hs : StrsAre fvs fl) (hi : i + 1 ≤ 10) (o : LetD.Ok ⟨U + 1 + d1, sz, 2 + d2, fl⟩)
    (hq : ∀ t' k, Q (.str (lineS (i + 1) ⟨U + 1 + d1, sz, 2 + d2, fl⟩) t') { s with toks := k }) : wpAny (model prog w) A (call (.builtin "str.join") [.str (Str.ofString ", ") t, .ref D]) Q E s := by
  have e1 : (i : Int) + 1 = ((i + 1 : Nat) : Int) := by omega
  have e2 : (U : Int) + 1 + (d1 : Int) = ((U + 1 + d1 : Nat) : Int) := by omega
  have e3 : 2 + (d2 : Int) = ((2 + d2 : Nat) : Int) := by omega
  rw [e1, e2, e3] at hl
  exact join_strs hl (.cons _ _ (.cons _ _ (.cons _ _ (.cons _ _ hs)))) (line_ok (l := ⟨U + 1 + d1, sz, 2 + d2, fl⟩) hi o) hq
theorem join_box {D : Addr} {x : Str} {v U d1 d2 : Nat} {t t1 : Tok} {vs : List Value} {ls : List LetD} {Q : Value → Shared → Prop}
    (hl : s.heap.IsList D (Value.str (x ++ Str.ofString ": validity " ++ numS (1 + (v : Int)) ++ Str.ofString ", next " ++ numS ((U : Int) + 1 + (d1 : Int)) ++ Str.ofString ", top " ++ numS (100 + (d2 : Int))) t1 :: vs).toArray)
    (hs : StrsAre vs (linesFrom 0 ls)) (o : BoxD.Ok ⟨x, 1 + v, U + 1 + d1, 100 + d2, ls⟩)
    (hq : ∀ t' k, Q (.str (boxS ⟨x, 1 + v, U + 1 + d1, 100 + d2, ls⟩) t') { s with toks := k }) : wpAny (model prog w) A (call (.builtin "str.join") [.str (Str.ofString "\n") t, .ref D]) Q E s := by
  have e1 : 1 + (v : Int) = ((1 + v : Nat) : Int) := by omega
  have e2 : (U : Int) + 1 + (d1 : Int) = ((U + 1 + d1 : Nat) : Int) := by omega
  have e3 : 100 + (d2 : Int) = ((100 + d2 : Nat) : Int) := by omega
  rw [e1, e2, e3] at hl
  exact join_strs (xs := headS ⟨x, 1 + v, U + 1 + d1, 100 + d2, ls⟩ :: linesFrom 0 ls) hl (StrsAre.cons (headS ⟨x, 1 + v, U + 1 + d1, 100 + d2, ls⟩) t1 hs) (boxS_ok o) hq
end

/-- the box at `bx`, by the ledger -/
def BoxN (w : World) (E : List (Addr × Obj)) (bx lst : Addr) (ps : List Value) (b : BoxD) : Prop :=
  ∃ (d : Addr) (n k : Nat) (t1 t2 t3 t4 t5 t6 t7 u1 u2 u3 u4 u5 : Tok) (g : Value), (bx, instObj 168 d) ∈ E ∧
    (d, dictOf [ent w "name" t1 (.str b.name u1), ent w "validity" t2 (.int b.validity u2), ent w "next_uid" t3 (.int b.next u3), ent w "top" t4 (.int b.top u4), ent w "floor" t5 (.int 0 u5), ent w "letters" t6 (.ref lst), ent w "gone" t7 g] n) ∈ E ∧
    (lst, W.listOf ps.toArray k) ∈ E ∧ LettersN w E ps b.letters
theorem BoxN.at {w : World} {E : List (Addr × Obj)} {bx lst : Addr} {ps : List Value} {b : BoxD} (x : BoxN w E bx lst ps b) {h₀ h : Heap} {L : Addr} (N : News h₀ L h E) : BoxAt w h bx lst ps b := by
  obtain ⟨d, n, k, t1, t2, t3, t4, t5, t6, t7, u1, u2, u3, u4, u5, g, m1, m2, m3, m4⟩ := x
  exact ⟨d, n, t1, t2, t3, t4, t5, t6, t7, u1, u2, u3, u4, u5, g, (N _ m1).1, (N _ m2).1, ⟨_, (N _ m3).1, rfl, k, rfl⟩, m4.at N⟩
def LBoxPost (w : World) (pen cells : Addr) (c q : Int) (tq : Tok) (_ : Heap) (v : Value) (own' : List (Addr × Obj)) : Prop :=
  ∃ (T bx lst : Addr) (ps : List Value) (b : BoxD) (t : Tok) (c' r' : Int) (tc' tr' : Tok) (n' : Nat) (E : List (Addr × Obj)),
    v = .ref T ∧ own' = (T, tupO [.ref bx, .str (boxS b) t]) :: (pen, penObj cells c' r' q tc' tr' tq n') :: E ∧ BoxN w E bx lst ps b ∧ b.Ok ∧ Rising b.letters ∧ b.next ≤ 30 ∧ 0 ≤ c' ∧ c' ≤ c + 40 ∧ 0 ≤ r' ∧ (∀ p ∈ E, p.1 ≠ pen) ∧ @Ne Nat T pen
theorem law_box_end {w : World} {g h' : Heap} {L' pen cells lst bx bd T : Addr} {s : Shared} {m' : Str → Option Value} {news rest : List (Addr × Obj)} {c q c' r' : Int} {tq tc' tr' t t1 t2 t3 t4 t5 t6 t7 u1 u2 u3 u4 u5 : Tok} {gv : Value} {n' n k tk v U d1 d2 : Nat} {x : Str} {ps : List Value} {ls : List LetD}
    (F : Fr g L' h' m') (N : News g L' h' news) (m1 : (T, tupO [.ref bx, .str (boxS ⟨x, 1 + v, U + 1 + d1, 100 + d2, ls⟩) t]) ∈ news) (m2 : (pen, penObj cells c' r' q tc' tr' tq n') ∈ news) (m3 : (lst, W.listOf ps.toArray k) ∈ news) (m4 : (bx, instObj 168 bd) ∈ news)
    (m5 : (bd, dictOf [ent w "name" t1 (.str x u1), ent w "validity" t2 (.int (1 + (v : Int)) u2), ent w "next_uid" t3 (.int ((U : Int) + 1 + (d1 : Int)) u3), ent w "top" t4 (.int (100 + (d2 : Int)) u4), ent w "floor" t5 (.int 0 u5), ent w "letters" t6 (.ref lst), ent w "gone" t7 gv] n) ∈ news)
    (hr : ∀ p ∈ rest, p ∈ news) (hl : LettersN w rest ps ls) (o : BoxD.Ok ⟨x, 1 + v, U + 1 + d1, 100 + d2, ls⟩) (ri : Rising ls) (hU : U + 1 + d1 ≤ 30) (k0 : 0 ≤ c') (k1 : c' ≤ c + 40) (k2 : 0 ≤ r')
    (r2 : ∀ p ∈ rest, p.1 ≠ pen) (e1 : @Ne Nat lst pen) (e2 : @Ne Nat bx pen) (e3 : @Ne Nat bd pen) (e4 : @Ne Nat T pen) :
    Fin g L' s (LBoxPost w pen cells c q tq) (.ref T) { s with heap := h', toks := tk } := by
  have q2 : 1 + (v : Int) = ((1 + v : Nat) : Int) := by omega
  have q3 : (U : Int) + 1 + (d1 : Int) = ((U + 1 + d1 : Nat) : Int) := by omega
  have q4 : 100 + (d2 : Int) = ((100 + d2 : Nat) : Int) := by omega
  rw [q2, q3, q4] at m5
  refine Fin.intro (own' := (T, tupO [.ref bx, .str (boxS ⟨x, 1 + v, U + 1 + d1, 100 + d2, ls⟩) t]) :: (pen, penObj cells c' r' q tc' tr' tq n') :: (lst, W.listOf ps.toArray k) :: (bx, instObj 168 bd) ::
    (bd, dictOf [ent w "name" t1 (.str x u1), ent w "validity" t2 (.int ((1 + v : Nat) : Int) u2), ent w "next_uid" t3 (.int ((U + 1 + d1 : Nat) : Int) u3), ent w "top" t4 (.int ((100 + d2 : Nat) : Int) u4), ent w "floor" t5 (.int 0 u5), ent w "letters" t6 (.ref lst), ent w "gone" t7 gv] n) :: rest) F (fun p hp => N p ?_)
    ⟨T, bx, lst, ps, ⟨x, 1 + v, U + 1 + d1, 100 + d2, ls⟩, t, c', r', tc', tr', n', _, rfl, rfl, ⟨bd, n, k, t1, t2, t3, t4, t5, t6, t7, u1, u2, u3, u4, u5, gv, by simp, by simp, by simp, hl.mono fun p hp => by simp [hp]⟩, o, ri, hU, k0, k1, k2, fun p hp => ?_, e4⟩
  · simp only [List.mem_cons] at hp
    rcases hp with rfl | rfl | rfl | rfl | rfl | hp
    · exact m1
    · exact m2
    · exact m3
    · exact m4
    · exact m5
    · exact hr p hp
  · simp only [List.mem_cons] at hp
    rcases hp with rfl | rfl | rfl | hp
    · exact e1
    · exact e2
    · exact e3
    · exact r2 p hp

theorem allNe_mem {d : Addr} : ∀ {l : List (Addr × Obj)}, AllNe d l → ∀ p ∈ l, p.1 ≠ d
  | [], _, _, h => by simp at h
  | q :: r, x, p, h => by
    rcases List.mem_cons.mp h with rfl | h
    · exact x.1
    · exact allNe_mem x.2 p h
theorem box_turn_end2 {w : World} {g : Heap} {L I cA pen cells lst ln bx bd x dx D : Addr} {oI bo co co' : Obj} {c₀ q c r c' r' v : Int} {m m₂ : Str → Option Value} {i U u' sz md : Nat} {ov ov' : Option Value} {ps vs fvs : List Value} {ls : List LetD} {rest news : List (Addr × Obj)} {s' : Shared} {h' : Heap} {tk n1 n2 n' nn : Nat} {tc' tr' tq t1 t2 t3 t4 t5 u1 u2 u4 u5 tl tu : Tok} {b : Array UInt8} {fl : List Str}
    (hT : BoxT w cA pen lst ln bd c₀ i U c r co ov ps vs ls rest) (F : Fr g L h' m₂) (N : News g L h' news)
    (q1 : (I, oI) ∈ news) (q2 : (lst, W.listOf (ps ++ [Value.ref x]).toArray n1) ∈ news) (q3 : (x, instObj 128 dx) ∈ news) (q4 : (dx, dictOf [ent w "uid" t1 (.int u' u1), ent w "octets" t2 (.bytes b u2), ent w "flags" t3 (.ref D), ent w "instant" t4 (.int 0 u4), ent w "modseq" t5 (.int md u5)] nn) ∈ news)
    (q5 : (D, tupO fvs) ∈ news) (q6 : (cA, co') ∈ news) (q7 : (pen, penObj cells c' r' q tc' tr' tq n') ∈ news) (q8 : (ln, W.listOf (vs ++ [Value.str (lineS (i + 1) ⟨u', sz, md, fl⟩) tl]).toArray n2) ∈ news) (q9 : (bx, instObj 168 bd) ∈ news) (q10 : (bd, bo) ∈ news) (q11 : ∀ p ∈ rest, p ∈ news)
    (hco : co'.data = .cell ov') (hI : @Ne Nat cA I ∧ @Ne Nat pen I ∧ @Ne Nat lst I ∧ @Ne Nat ln I ∧ @Ne Nat bx I ∧ @Ne Nat bd I ∧ AllNe I rest) (hfl : StrsAre fvs fl) (hb : b.size = sz) (hu : U < u') (hu3 : u' ≤ 3 * (i + 1)) (ok : LetD.Ok ⟨u', sz, md, fl⟩)
    (l0 : @LT.lt Nat _ I dx) (l1 : @LT.lt Nat _ cA dx) (l2 : @LT.lt Nat _ pen dx) (l3 : @LT.lt Nat _ lst dx) (l4 : @LT.lt Nat _ ln dx) (l5 : @LT.lt Nat _ bd dx) (l6 : @LT.lt Nat _ dx x) (l7 : @LT.lt Nat _ x D)
    (k0 : 0 ≤ c') (k1 : c' ≤ c₀ + 4 * (i + 1 : Nat)) (k2 : 0 ≤ r') (huid : m₂ (Str.ofString "uid") = some (.int v tu)) (hv : v = (u' : Int))
    (hm : ∀ z, z ≠ Str.ofString "uid" → z ≠ Str.ofString "size" → z ≠ Str.ofString "modseq" → z ≠ Str.ofString "flags" → z ≠ Str.ofString "parts" → z ≠ Str.ofString "turn" → m₂ z = m z) :
    TurnEnd g L I oI (BoxJ w cA pen cells lst ln bx bd bo q tq c₀ m (i + 1)) s' .next { s' with heap := h', toks := tk } := by
  subst hv
  obtain ⟨e1, e2, e3, e4, e5, e6, e7⟩ := hI
  refine box_turn_end (n1 := n1) (n2 := n2) (n' := n') (nn := nn) (tc' := tc') (tr' := tr') (t1 := t1) (t2 := t2) (t3 := t3) (t4 := t4) (t5 := t5) (u1 := u1) (u2 := u2) (u4 := u4) (u5 := u5) (tl := tl) hT F N (fun p hp => ?_) hco (fun p hp => ?_) hfl hb hu hu3 ok l0 l1 l2 l3 l4 l5 l6 l7 k0 k1 k2 huid hm
  · simp only [List.mem_cons] at hp
    rcases hp with rfl | rfl | rfl | rfl | rfl | rfl | rfl | rfl | rfl | rfl | hp
    · exact q1
    · exact q2
    · exact q3
    · exact q4
    · exact q5
    · exact q6
    · exact q7
    · exact q8
    · exact q9
    · exact q10
    · exact q11 p hp
  · simp only [List.mem_cons] at hp
    rcases hp with rfl | rfl | rfl | rfl | rfl | rfl | hp
    · exact e1
    · exact e2
    · exact e3
    · exact e4
    · exact e5
    · exact e6
    · exact allNe_mem e7 p hp

end Mine
end
-- LBox
section
open PySem PySem.W PyProof.Rows PySem.Calls PySem.Spec
namespace Mine

theorem nm10 {i m : Nat} {a M : Int} (h : i < m) (k : (m : Int) + a ≤ M) : (i : Int) + a < M := by omega
theorem letter_makeI {prog : Program} {w : World} {U d1 d2 : Nat} {b : Array UInt8} {fvs : List Value} {fl : Addr} {tu tb t0 tm : Tok}
    {p : Program} {loose : List Str} {mean : ExcName → Option Value} {mg mb : Str → Option Value} {dp un : Nat} {gd : Option (List Code)} {cn : Str} {cs : Scope} {a : Addr} {ccd : Value} {cl : List (Str × Addr)} {outer : List Env} {A₀ : Around} {base h₀ : Heap} {L : Addr} {m : Str → Option Value} {s : Shared} {news : List (Addr × Obj)}
    {Q E : Value → Shared → Prop} (hm : (fl, LCg.lst fvs) ∈ news) (hfl : fvs.length ≤ 4) (B : Below A₀ base outer h₀) (F : Fr h₀ L s.heap m) (X : (Mine.hd.heap_1 w.params).In h₀) (N : News h₀ L s.heap news) (T : Top p loose mean mg mb h₀) (hk : cs.kind = .function) (hd : dp + 4 < recursionLimit) (hu : un + 300 < cLine)
    (ret : ∀ (x dx D : Addr) t1 t2 t3 t4 t5 n h' tk', Fr h₀ L h' m → News h₀ L h' ((D, tupO fvs) :: (x, instObj 128 dx) :: (dx, dictOf [ent w "uid" t1 (.int ((U + 1 + d1 : Nat) : Int) tu), ent w "octets" t2 (.bytes b tb), ent w "flags" t3 (.ref D), ent w "instant" t4 (.int 0 t0), ent w "modseq" t5 (.int ((2 + d2 : Nat) : Int) tm)] n) :: news) →
      (∀ p ∈ news, p.1 < dx) → @LT.lt Nat _ dx x → @LT.lt Nat _ x D → Q (.ref x) { s with heap := h', toks := tk' }) :
    wpAny (model prog w) (ktrTop dp un gd cn cs L a ccd cl outer) (call (.ref 128) [.int ((U : Int) + 1 + (d1 : Int)) tu, .bytes b tb, .ref fl, .int 0 t0, .int (2 + (d2 : Int)) tm]) Q E s := by
  have e2 : (U : Int) + 1 + (d1 : Int) = ((U + 1 + d1 : Nat) : Int) := by omega
  have e3 : 2 + (d2 : Int) = ((2 + d2 : Nat) : Int) := by omega
  rw [e2, e3]
  exact letter_make hm hfl B F X N T hk hd hu ret
section

set_option maxHeartbeats 16000000 in
theorem law_box_spec (prog : Program) (w : World) (pen cells : Addr) (c r q : Int) (tc tr tq : Tok) (n : Nat)
    (hc : 0 ≤ c) (hc' : c ≤ 50000) (hr : 0 ≤ r) (hq : 0 ≤ q) (hq' : q ≤ 1008) :
    Spec prog w 321 [.ref pen] 8 500 [(pen, penObj cells c r q tc tr tq n)] (CellsPre cells) (LBoxPost w pen cells c q tq) := by
  k_with_none
  (k_with "cj" => (first | exact fun h => h.1 | exact fun h => h.2.1 | exact fun h => h.2.2.1 | exact fun h => h.2.2.2.1 | exact fun h => h.2.2.2.2.1 | exact fun h => h.2.2.2.2.2.1 | exact fun h => h.2.2.2.2.2.2.1 | exact fun h => h.2.2.2.2.2.2.2.1 | exact fun h => h.2.2.2.2.2.2.2.2.1 | exact fun h => h.2.2.2.2.2.2.2.2.2.1 | exact fun h => h.2.2.2.2.2.2.2.2.2.2.1 | exact fun h => h.2.2.2.2.2.2.2.2.2.2.2.1 | exact fun h => h.2.2.2.2.2.2.2.2.2.2.2.2.1 | exact fun h => h.2.2.2.2.2.2.2.2.2.2.2.2.2.1 | exact fun h => h.2 | exact fun h => h.2.2 | exact fun h => h.2.2.2 | exact fun h => h.2.2.2.2 | exact fun h => h.2.2.2.2.2 | exact fun h => h.2.2.2.2.2.2 | exact fun h => h.2.2.2.2.2.2.2 | exact fun h => h.2.2.2.2.2.2.2.2 | exact fun h => h.2.2.2.2.2.2.2.2.2 | exact fun h => h.2.2.2.2.2.2.2.2.2.2 | exact fun h => h.2.2.2.2.2.2.2.2.2.2.2 | exact fun h => h.2.2.2.2.2.2.2.2.2.2.2.2 | exact fun h => h.2.2.2.2.2.2.2.2.2.2.2.2.2))
  (k_with "omega" => (with_reducible first | assumption | exact Nat.le_of_ble_eq_true (by decide) | exact Nat.ne_of_gt (by assumption) | exact Nat.ne_of_lt (by assumption) | exact Mine.lm1 (by assumption) (by decide) | exact Mine.lm2 (by assumption) (by decide) | exact Mine.lm3 (by assumption) (by decide) | exact Mine.lm4 (by assumption) (by decide) | exact Mine.lm5 (by assumption) (by decide) | exact Mine.lm6 (by assumption) (by decide) | exact Mine.lm7 (by assumption) (by decide) | exact Mine.lm8 (by assumption) (by decide) | exact Mine.lm9 (by assumption) (by decide) | exact Int.natCast_nonneg _ | (refine Mine.cj1 (by assumption) ?_; k_extra "cj") | (refine Mine.cj2 (by assumption) ?_; k_extra "cj") | (refine Mine.cj3 (by assumption) ?_; k_extra "cj") | (refine Mine.cj4 (by assumption) ?_; k_extra "cj") | (refine Mine.cj5 (by assumption) (by assumption) ?_; k_extra "cj") | (refine Mine.cj6 (by assumption) (by assumption) ?_; k_extra "cj") | (refine Mine.cj7 (by assumption) (by assumption) (by assumption) ?_; k_extra "cj") | (refine Mine.cj8 (by assumption) (by assumption) (by assumption) ?_; k_extra "cj") | exact Mine.cj9 (by assumption) (by assumption) | exact Mine.cj10 (by assumption) (by assumption) | (refine Mine.cl1 (by assumption) ?_; k_extra "cj") | (refine Mine.cl2 (by assumption) (by assumption) ?_; k_extra "cj") | exact Mine.ns1 (by assumption) | exact Mine.ns2 (by assumption) | exact Mine.ns3 | exact Mine.ns4 | exact Mine.lm10 (by assumption) (by decide) | exact Mine.lm11 (by assumption) (by decide) | exact Mine.lm12 (by assumption) (by assumption) (by decide) | exact Mine.lm12 (by assumption) (Nat.le_refl _) (by decide) | exact Mine.lm13 (by assumption) (by assumption) (by decide) | exact Mine.lm13 (by assumption) (Nat.le_refl _) (by decide) | fail))
  (k_with "omega" => with_reducible first | exact Mine.nz1 (by decide) | exact Mine.nz2 (by decide) | exact Mine.ub5 | exact Mine.ub6 | (refine Mine.ngt ?_; exact Int.natCast_nonneg _) | (refine Mine.ngt ?_; exact Mine.nz1 (by decide)) | (refine Mine.ngt ?_; exact Mine.nz2 (by decide)) | (refine Mine.ngt ?_; exact Mine.ub5) | exact Int.lt_of_lt_of_le (by assumption) (by decide +kernel) | (refine Mine.lt1920 ?_; exact Int.lt_of_lt_of_le (by assumption) (by decide +kernel)) | exact Mine.nm3 (by assumption) (by decide +kernel) | (refine Mine.lt1920 ?_; exact Mine.nm3 (by assumption) (by decide +kernel)) | exact Mine.nm4 (by assumption) (by decide +kernel) | exact Mine.nm7 (by assumption) (by decide +kernel) | exact Mine.nm8 (by assumption) (by decide +kernel) | exact Mine.nm10 (by assumption) (by decide +kernel) | (refine Mine.lt1920 ?_; exact Mine.nm10 (by assumption) (by decide +kernel)) | exact Mine.ub1 (by assumption) (by assumption) (by assumption) (by decide +kernel) | exact Mine.ub2 (by assumption) (by assumption) (by assumption) (by decide +kernel) | exact Mine.ub3 (by assumption) (by assumption) (by assumption) (by decide +kernel) | exact Mine.ub4 (by assumption) (by assumption) (by assumption) (by decide +kernel) | (refine Mine.lt1920 ?_; first | exact Mine.ub3 (by assumption) (by assumption) (by assumption) (by decide +kernel) | exact Mine.ub4 (by assumption) (by assumption) (by assumption) (by decide +kernel)) | exact Mine.el1 (by assumption) (by assumption) (by decide) | exact Mine.el2 (by assumption) (by assumption) (by decide) | exact Mine.el3 (by assumption) (by assumption) (by assumption) (by decide) | exact Mine.el4 (by assumption) (by assumption) (by assumption) (by decide) | fail)
  (k_with "k_all" => assumption)
  (k_with "binaryOp Add ref ref" => (k_here; (with_reducible show wpAny _ _ (binaryOp _ (Value.ref _) (Value.ref _)) _ _ _); k_dflt (refine list_cat (by assumption) (by assumption) (by is_list) (by is_list) ?z1r61 ?_); (case z1r61 => ((try simp only [List.size_toArray, List.length_cons, List.length_nil]); rw [sizeLine_eq]; omega)); intro D' h' F' N' l1; (simp only [List.cons_append, List.nil_append] at N'); (try k_lt l1); (try k_sweep)))
  (k_with "call builtin:str.join" => (k_here; first
  | (refine' join_line ?z0r62 ?zzr62 ?z1r62 ?z2r62 ?_; (case z0r62 => is_list); (case zzr62 => assumption); (case z1r62 => omega); (case z2r62 => exact ⟨by (dsimp only; omega), by (dsimp only; omega), by (dsimp only; omega), by assumption, by assumption⟩); intro t' k')
  | (refine' join_box ?z0r62 ?zzr62 ?z2r62 ?_; (case z0r62 => is_list); (case zzr62 => assumption); (case z2r62 => exact ⟨by assumption, by (dsimp only; omega), by (dsimp only; omega), by (dsimp only; omega), by (dsimp only; omega), by assumption⟩); intro t' k')))
  (k_with "binaryOp Mult bytes int" => (k_dflt (refine' mul_x ?z1r63 ?_); (case z1r63 => omega); intro b' t' k' hb'))
  (k_with "call builtin:list.append" => (k_here; k_dflt (refine' append_use (by assumption) (by assumption) ?zUr64 ?z1r64 ?_); (case zUr64 => k_upd); (case z1r64 => omega); intro h' F' N'; (try k_sweep)))
  (k_with "call ref" => (k_here; (with_reducible show wpAny _ _ (call (Value.ref 128) [Value.int _ _, Value.bytes _ _, Value.ref _, Value.int _ _, Value.int _ _]) _ _ _); k_dflt (refine' letter_makeI ?zmr65 ?z1r65 (by assumption) (by assumption) (by assumption) (by assumption) (by assumption) (by rfl) ?z3r65 ?z4r65 ?_); (case zmr65 => k_mem); (case z1r65 => omega); (case z3r65 => omega); (case z4r65 => omega); intro x dx D t1 t2 t3 t4 t5 n h' tk' F' N' l1 l2 l3; (k_lt l1); (try k_sweep)))
  (k_with "exec Assign cons ListComp" => (k_here; k_dflt (refine comp_assignF (by assumption) (by rfl) (by with_unfolding_all rfl) (by with_unfolding_all rfl) (by decide) (by rfl) (by decide) (by rfl) (by rfl) ?_)))
  (k_with "call type:enumerate" => (k_here; k_dflt (refine' enum_flags (by rfl) (by assumption) (by assumption) (by assumption) (by rfl) (by rfl) (by rfl) (fun _ => by rfl) (fun _ => by rfl) (by rfl) ?zmr67 ?zor67 ?_); (case zmr67 => k_mem); (case zor67 => assumption); intro D' h' tk' ys' fl' F' N' ne' hys' hf1' hf2'; (replace ne' := allNe_of ne'); (simp only [AllNe, and_true] at ne'); (have hf3' := StrsAre.length hys'); (try dsimp only); (try k_sweep)))
  (k_with "exec For Name Call cons nil" => (k_here; k_dflt (refine' for_inv (by assumption) (by rfl) (by rfl) ?_ (by intro _; rfl) ?zEr68); (case zEr68 => (with_unfolding_all exact PassesOwn.never))))
  (k_with "pyIter ref" => (k_here; k_dflt (refine' iter_box (by rfl) (by rfl) (by assumption) ?d0r69 ?d1r69 (by assumption) (by assumption) ?hcor69 ?hur69 ?c0r69 ?r0r69 ?y1r69 ?y2r69); (case d0r69 => omega); (case d1r69 => assumption); (case hcor69 => assumption); (case hur69 => rfl); (case c0r69 => assumption); (case r0r69 => assumption); (case' y1r69 => (intro i tv I oI s' U tU c' r' tc' tr' n' n1 n2 co ov ps vs ls rest x1 x2 x3 x4 x5 hi hT hI F' N'; (have hI' := allNe_of hI); (simp only [AllNe] at hI'); (have co' := hT.co); (have r1 := hT.r1); (have r2 := hT.r2); (have r3 := hT.r3); (have r4 := hT.r4); (have r5 := hT.r5); (have hlen := hT.len); (have hlns := hT.lns); (have hok := hT.ok); (have hvl := StrsAre.length hT.lns); (rw [linesFrom_length] at hvl); (have hpl := LettersN.length hT.lets); (have u' := hT.u); (have c0 := hT.c0); (have c1 := hT.c1); (have r0 := hT.r0); (try k_sweep))); (case' y2r69 => (intro k h' tk U tU c' r' tc' tr' n' n1 n2 co ov ps vs ls rest x1 x2 x3 x4 x5 hk hT F' N'; (have co' := hT.co); (have hlen := hT.len); (have hlns := hT.lns); (have hok := hT.ok); (have hvl := StrsAre.length hT.lns); (rw [linesFrom_length] at hvl); (have hpl := LettersN.length hT.lets); (have u' := hT.u); (have c0 := hT.c0); (have c1 := hT.c1); (have r0 := hT.r0); (have r2 := hT.r2); (have r5 := hT.r5); (try k_sweep)))))
  (k_with "subscriptTail Tuple" => (k_here; (with_unfolding_all refine' title_item ?k1r70 ?k2r70 ?k3r70 ?k4r70 ?k5r70 ?_ ?k6r70; (case k1r70 => exact News.isTup (by assumption) (by k_mem)); (case k2r70 => omega); (case k3r70 => assumption); (case k4r70 => decide); (case k5r70 => decide); (case k6r70 => with_unfolding_all rfl); k_whole); intro x' tx' hx'))
  (k_with "call ref" => (k_here; (with_reducible show wpAny _ _ (call (Value.ref 168) [Value.str _ _, Value.int _ _]) _ _ _); k_dflt (refine' make_useX (ex := []) (fun x dx hne _ => box_spec _ _ _ _ _ _ x dx hne) (by k_is) (by k_is) (by k_is) (by assumption) (by assumption) (by assumption) (by assumption) (List.forall_mem_nil _) (by assumption) (by rfl) (fun _ _ _ => trivial) ?z3r71 ?z4r71 ?_); (case z3r71 => omega); (case z4r71 => omega); intro x dx own' h' tk' F' N' N2' l1 l2 ⟨b1, b2, _, _, _, _, _, _, _, _, _, _, e2, l3, l4⟩; subst e2; (replace l2 := ltN l2); (k_lt l1); (replace N' := news_app N2' N'); clear N2'; (simp only [List.cons_append, List.nil_append, ent] at N'); (try k_sweep)))
  (k_with "call ref" => (k_here; (with_reducible show wpAny _ _ (call (Value.ref 306) [Value.ref _, Value.int _ _]) _ _ _); k_dflt (refine' draw_use (by decide) (by decide) ?y1r72 ?y2r72 ?y3r72 ?y4r72 ?y5r72 (by assumption) (by assumption) (by assumption) (by assumption) ?zUr72 (by assumption) (by rfl) ?z2r72 ?z3r72 ?z4r72 ?_); (case zUr72 => k_updF); (case y1r72 => omega); (case y2r72 => omega); (case y3r72 => omega); (case y4r72 => omega); (case y5r72 => omega); (case z2r72 => exact CellsPre.hid (by assumption) (by assumption) (news_at (by assumption) (by k_updF))); (case z3r72 => omega); (case z4r72 => omega); intro d' td' c' r' tc' tr' n' h' tk' F' N' d1 c0 c1 r0; (try dsimp only at N'); (try k_sweep)))
  refine spec_ofC [("pen", .ref pen)] (by k_is) (by k_is) (fun s _ => BindsTo.of_eq rfl) (by rfl) (by decide +kernel) ?_ (by decide)
  rintro p loose mean mg mb dp un gd outer A₀ base g L' cells' s B' F' N' Y' X' T' hcp hdp hun hlt
  k_fold
  k_cells Y'
  simp only [List.cons_append, List.nil_append] at N'
  have hlt' : @LT.lt Nat _ pen L' := hlt _ (List.mem_singleton.mpr rfl)
  k_steps
  · refine' law_box_end (by assumption) (by assumption) ?m1 ?m2 ?m3 ?m4 ?m5 ?hr ?hl ?o ?ri ?hU ?k0 ?k1 ?k2 ?r2 ?e1 ?e2 ?e3 ?e4
    case m1 => k_mem
    case m4 => k_mem
    case m2 => k_mem
    case m5 => k_mem
    case m3 => k_mem
    case hl => exact BoxT.lets (by assumption)
    case hr => (intro p' hp'; repeat' (first | exact hp' | apply List.mem_cons_of_mem))
    case o => exact ⟨by assumption, by (dsimp only; omega), by (dsimp only; omega), by (dsimp only; omega), by (dsimp only; omega), by assumption⟩
    case ri => exact BoxT.rise (by assumption)
    case hU => omega
    case k0 => omega
    case k1 => omega
    case k2 => omega
    case r2 => assumption
    case e1 => omega
    case e2 => omega
    case e3 => omega
    case e4 => omega
  · refine' box_turn_end2 (by assumption) (by assumption) (by assumption) ?q1 ?q2 ?q3 ?q4 ?q5 ?q6 ?q7 ?q8 ?q9 ?q10 ?q11 ?hco (by assumption) ?hfl ?hb ?hu ?hu3 ?ok ?l0 ?l1 ?l2 ?l3 ?l4 ?l5 ?l6 ?l7 ?k0 ?k1 ?k2 ?huid ?hv ?hm
    case q1 => k_mem
    case q2 => k_mem
    case q3 => k_mem
    case q4 => k_mem
    case q5 => k_mem
    case q6 => k_mem
    case q7 => k_mem
    case q8 => k_mem
    case q9 => k_mem
    case q10 => k_mem
    case q11 => (intro p' hp'; repeat' (first | exact hp' | apply List.mem_cons_of_mem))
    case hco => assumption
    case hfl => assumption
    case hb => assumption
    case hu => omega
    case hu3 => omega
    case ok => exact ⟨by (dsimp only; omega), by (dsimp only; omega), by (dsimp only; omega), by assumption, by assumption⟩
    case l0 => omega
    case l1 => omega
    case l2 => omega
    case l3 => omega
    case l4 => omega
    case l5 => omega
    case l6 => assumption
    case l7 => assumption
    case k0 => omega
    case k1 => omega
    case k2 => omega
    case huid => rfl
    case hv => omega
    case hm => (intro z h1 h2 h3 h4 h5 h6; simp only [turnM, h1, h2, h3, h4, h5, h6, if_false])
end
end Mine
end
-- TreeA
section
open PySem PySem.W PyProof.Rows PySem.Calls PySem.Spec
namespace Mine

/-- a tree of parts: no kids, one, two, or a letter within -/
inductive TreeD where
  | leaf (a b : Str)
  | one (a b : Str) (t : TreeD)
  | two (a b : Str) (t u : TreeD)
  | inn (a b : Str) (t : TreeD)
def TreeD.depth : TreeD → Nat
  | .leaf _ _ => 0
  | .one _ _ t => t.depth + 1
  | .two _ _ t u => max t.depth u.depth + 1
  | .inn _ _ t => t.depth + 1
def TreeD.Ok : TreeD → Prop
  | .leaf a b => a.length ≤ 20 ∧ b.length ≤ 20
  | .one a b t => (a.length ≤ 20 ∧ b.length ≤ 20) ∧ t.Ok
  | .two a b t u => (a.length ≤ 20 ∧ b.length ≤ 20) ∧ t.Ok ∧ u.Ok
  | .inn a b t => (a.length ≤ 20 ∧ b.length ≤ 20) ∧ t.Ok
def TreeD.Sok : TreeD → Prop
  | .leaf a b => PyData.strOk a = true ∧ PyData.strOk b = true
  | .one a b t => (PyData.strOk a = true ∧ PyData.strOk b = true) ∧ t.Sok
  | .two a b t u => (PyData.strOk a = true ∧ PyData.strOk b = true) ∧ t.Sok ∧ u.Sok
  | .inn a b t => (PyData.strOk a = true ∧ PyData.strOk b = true) ∧ t.Sok
abbrev kindS (a b : Str) : Str := a ++ Str.ofString "/" ++ b

/-- a part at `x`, by what lies where: its kind's words, its kids' list, what is within -/
def PartO (w : World) (M : Addr → Obj → Prop) (x : Addr) (a b : Str) (kl : Addr) (v : Value) : Prop :=
  ∃ (dx fl k dk ps : Addr) (n n' : Nat) (s1 s2 s3 s4 s5 s6 s7 s8 t1 t2 t3 u6 r1 r2 r3 ra rb : Tok), M x (instObj 288 dx) ∧
    M dx (dictOf [ent w "begin" s1 (.int 0 t1), ent w "body" s2 (.int 0 t2), ent w "end" s3 (.int 0 t3), ent w "fields" s4 (.ref fl), ent w "kind" s5 (.ref k), ent w "encoding" s6 (.str (Str.ofString "7bit") u6), ent w "kids" s7 (.ref kl), ent w "inner" s8 v] n) ∧
    M k (instObj 222 dk) ∧ M dk (dictOf [ent w "top" r1 (.str a ra), ent w "sub" r2 (.str b rb), ent w "params" r3 (.ref ps)] n')
theorem PartO.mono {w : World} {M M' : Addr → Obj → Prop} {x kl : Addr} {a b : Str} {v : Value} (h : PartO w M x a b kl v) (k : ∀ a o, M a o → M' a o) : PartO w M' x a b kl v := by
  obtain ⟨dx, fl, kk, dk, ps, n, n', s1, s2, s3, s4, s5, s6, s7, s8, t1, t2, t3, u6, r1, r2, r3, ra, rb, h1, h2, h3, h4⟩ := h
  exact ⟨dx, fl, kk, dk, ps, n, n', s1, s2, s3, s4, s5, s6, s7, s8, t1, t2, t3, u6, r1, r2, r3, ra, rb, k _ _ h1, k _ _ h2, k _ _ h3, k _ _ h4⟩

inductive PartP (w : World) (M : Addr → Obj → Prop) : Value → TreeD → Prop
  | leaf {x kl : Addr} {a b : Str} {n : Nat} : PartO w M x a b kl .none → M kl (W.listOf ([] : List Value).toArray n) → PartP w M (.ref x) (.leaf a b)
  | one {x kl : Addr} {a b : Str} {n : Nat} {v : Value} {t : TreeD} : PartO w M x a b kl .none → M kl (W.listOf [v].toArray n) → PartP w M v t → PartP w M (.ref x) (.one a b t)
  | two {x kl : Addr} {a b : Str} {n : Nat} {v v' : Value} {t u : TreeD} : PartO w M x a b kl .none → M kl (W.listOf [v, v'].toArray n) → PartP w M v t → PartP w M v' u → PartP w M (.ref x) (.two a b t u)
  | inn {x kl : Addr} {a b : Str} {n : Nat} {v : Value} {t : TreeD} : PartO w M x a b kl v → M kl (W.listOf ([] : List Value).toArray n) → PartP w M v t → PartP w M (.ref x) (.inn a b t)
inductive TreeP (M : Addr → Obj → Prop) : Value → TreeD → Prop
  | leaf {y kl : Addr} {a b : Str} {n : Nat} {tt : Tok} : M y (tupO [.str (kindS a b) tt, .ref kl, .none]) → M kl (W.listOf ([] : List Value).toArray n) → TreeP M (.ref y) (.leaf a b)
  | one {y kl : Addr} {a b : Str} {n : Nat} {tt : Tok} {v : Value} {t : TreeD} : M y (tupO [.str (kindS a b) tt, .ref kl, .none]) → M kl (W.listOf [v].toArray n) → TreeP M v t → TreeP M (.ref y) (.one a b t)
  | two {y kl : Addr} {a b : Str} {n : Nat} {tt : Tok} {v v' : Value} {t u : TreeD} : M y (tupO [.str (kindS a b) tt, .ref kl, .none]) → M kl (W.listOf [v, v'].toArray n) → TreeP M v t → TreeP M v' u → TreeP M (.ref y) (.two a b t u)
  | inn {y kl : Addr} {a b : Str} {n : Nat} {tt : Tok} {v : Value} {t : TreeD} : M y (tupO [.str (kindS a b) tt, .ref kl, v]) → M kl (W.listOf ([] : List Value).toArray n) → TreeP M v t → TreeP M (.ref y) (.inn a b t)
theorem PartP.mono {w : World} {M M' : Addr → Obj → Prop} {v : Value} {t : TreeD} (h : PartP w M v t) (k : ∀ a o, M a o → M' a o) : PartP w M' v t := by
  induction h with
  | leaf h1 h2 => exact .leaf (h1.mono k) (k _ _ h2)
  | one h1 h2 _ ih => exact .one (h1.mono k) (k _ _ h2) ih
  | two h1 h2 _ _ ih1 ih2 => exact .two (h1.mono k) (k _ _ h2) ih1 ih2
  | inn h1 h2 _ ih => exact .inn (h1.mono k) (k _ _ h2) ih
theorem TreeP.mono {M M' : Addr → Obj → Prop} {v : Value} {t : TreeD} (h : TreeP M v t) (k : ∀ a o, M a o → M' a o) : TreeP M' v t := by
  induction h with
  | leaf h1 h2 => exact .leaf (k _ _ h1) (k _ _ h2)
  | one h1 h2 _ ih => exact .one (k _ _ h1) (k _ _ h2) ih
  | two h1 h2 _ _ ih1 ih2 => exact .two (k _ _ h1) (k _ _ h2) ih1 ih2
  | inn h1 h2 _ ih => exact .inn (k _ _ h1) (k _ _ h2) ih

/-- what lies in a ledger, what lies on a heap -/
abbrev inN (E : List (Addr × Obj)) : Addr → Obj → Prop := fun a o => (a, o) ∈ E
abbrev onH (h : Heap) : Addr → Obj → Prop := fun a o => h.get? a = some o

/-- how many draws a part takes at most -/
def drw : Nat → Nat
  | 0 => 1
  | d + 1 => 3 + 2 * drw d

def PartPost (w : World) (pen cells : Addr) (c q : Int) (tq : Tok) (deep : Nat) (_ : Heap) (v : Value) (own' : List (Addr × Obj)) : Prop :=
  ∃ (R : Addr) (x y : Value) (T : TreeD) (c' r' : Int) (tc' tr' : Tok) (n' : Nat) (E : List (Addr × Obj)), v = .ref R ∧ own' = (R, tupO [x, y]) :: (pen, penObj cells c' r' q tc' tr' tq n') :: E ∧
    PartP w (inN E) x T ∧ TreeP (inN E) y T ∧ T.depth ≤ deep ∧ (T.Ok ∧ T.Sok) ∧ 0 ≤ c' ∧ c' ≤ c + drw deep ∧ 0 ≤ r' ∧ (∀ p ∈ E, p.1 ≠ pen) ∧ @Ne Nat R pen

abbrev kindsL : List Str := [Str.ofString "text/plain", Str.ofString "text/html", Str.ofString "multipart/mixed", Str.ofString "multipart/digest", Str.ofString "message/rfc822", Str.ofString "image/png", Str.ofString "application/pdf", Str.ofString "a/b"]
def KindTxt (x : Str) : Prop := x ∈ kindsL
theorem kinds_in {w : World} {h : Heap} (X : (Mine.hd.heap_1 w.params).In h) : IsTup h 298 ([.str (Str.ofString "text/plain") 596, .str (Str.ofString "text/html") 597, .str (Str.ofString "multipart/mixed") 598, .str (Str.ofString "multipart/digest") 599, .str (Str.ofString "message/rfc822") 600, .str (Str.ofString "image/png") 601, .str (Str.ofString "application/pdf") 602, .str (Str.ofString "a/b") 603] : List Value).toArray :=
  ⟨_, X 298 { cls := .type "tuple", data := .seq ([.str (Str.ofString "text/plain") 596, .str (Str.ofString "text/html") 597, .str (Str.ofString "multipart/mixed") 598, .str (Str.ofString "multipart/digest") 599, .str (Str.ofString "message/rfc822") 600, .str (Str.ofString "image/png") 601, .str (Str.ofString "application/pdf") 602, .str (Str.ofString "a/b") 603] : List Value).toArray } (by k_is), rfl, _, rfl⟩
theorem kind_item {prog : Program} {w : World} {A : Around} {E : Value → Shared → Prop} {s : Shared} {h₀ : Heap} {L : Addr} {m : Str → Option Value} {value slice : PySem.Expr} {k : Nat} {u : Tok} {Q : Value → Shared → Prop} (F : Fr h₀ L s.heap m) (X : (Mine.hd.heap_1 w.params).In h₀) (h1 : (k : Int) < 8)
    (h : ∀ x tx, KindTxt x → Q (.str x tx) s)
    (hs : subscripted slice false (.ref 298) (.int k u) = operate [.ref 298, .int k u] (getItem (.ref 298) (.int k u)) := by with_unfolding_all rfl) :
    wpAny (model prog w) A (subscriptTail value slice (.ref 298) (.int k u)) Q E s := by
  have ht := kinds_in (X.keeps F.keep)
  have hk : k = 0 ∨ k = 1 ∨ k = 2 ∨ k = 3 ∨ k = 4 ∨ k = 5 ∨ k = 6 ∨ k = 7 := by omega
  rcases hk with rfl | rfl | rfl | rfl | rfl | rfl | rfl | rfl
  · exact tail_any ht.typeIs slot_tuple_getitem.lookup (getItem_tuple ht (by decide) (by decide) (j := 0) (by rfl) (by rfl) (h _ _ (by simp [KindTxt]))) hs
  · exact tail_any ht.typeIs slot_tuple_getitem.lookup (getItem_tuple ht (by decide) (by decide) (j := 1) (by rfl) (by rfl) (h _ _ (by simp [KindTxt]))) hs
  · exact tail_any ht.typeIs slot_tuple_getitem.lookup (getItem_tuple ht (by decide) (by decide) (j := 2) (by rfl) (by rfl) (h _ _ (by simp [KindTxt]))) hs
  · exact tail_any ht.typeIs slot_tuple_getitem.lookup (getItem_tuple ht (by decide) (by decide) (j := 3) (by rfl) (by rfl) (h _ _ (by simp [KindTxt]))) hs
  · exact tail_any ht.typeIs slot_tuple_getitem.lookup (getItem_tuple ht (by decide) (by decide) (j := 4) (by rfl) (by rfl) (h _ _ (by simp [KindTxt]))) hs
  · exact tail_any ht.typeIs slot_tuple_getitem.lookup (getItem_tuple ht (by decide) (by decide) (j := 5) (by rfl) (by rfl) (h _ _ (by simp [KindTxt]))) hs
  · exact tail_any ht.typeIs slot_tuple_getitem.lookup (getItem_tuple ht (by decide) (by decide) (j := 6) (by rfl) (by rfl) (h _ _ (by simp [KindTxt]))) hs
  · exact tail_any ht.typeIs slot_tuple_getitem.lookup (getItem_tuple ht (by decide) (by decide) (j := 7) (by rfl) (by rfl) (h _ _ (by simp [KindTxt]))) hs
theorem kind_splits {x : Str} (hx : KindTxt x) : ∃ a b : Str, Txt.split x (Str.ofString "/") = [a, b] ∧ a.length ≤ 20 ∧ b.length ≤ 20 ∧ x.length ≤ 20 ∧ PyData.strOk a = true ∧ PyData.strOk b = true := by
  simp only [KindTxt, kindsL, List.mem_cons, List.not_mem_nil, or_false] at hx
  rcases hx with rfl | rfl | rfl | rfl | rfl | rfl | rfl | rfl
  · exact ⟨Str.ofString "text", Str.ofString "plain", by decide +kernel, by decide, by decide, by decide, by decide +kernel, by decide +kernel⟩
  · exact ⟨Str.ofString "text", Str.ofString "html", by decide +kernel, by decide, by decide, by decide, by decide +kernel, by decide +kernel⟩
  · exact ⟨Str.ofString "multipart", Str.ofString "mixed", by decide +kernel, by decide, by decide, by decide, by decide +kernel, by decide +kernel⟩
  · exact ⟨Str.ofString "multipart", Str.ofString "digest", by decide +kernel, by decide, by decide, by decide, by decide +kernel, by decide +kernel⟩
  · exact ⟨Str.ofString "message", Str.ofString "rfc822", by decide +kernel, by decide, by decide, by decide, by decide +kernel, by decide +kernel⟩
  · exact ⟨Str.ofString "image", Str.ofString "png", by decide +kernel, by decide, by decide, by decide, by decide +kernel, by decide +kernel⟩
  · exact ⟨Str.ofString "application", Str.ofString "pdf", by decide +kernel, by decide, by decide, by decide, by decide +kernel, by decide +kernel⟩
  · exact ⟨Str.ofString "a", Str.ofString "b", by decide +kernel, by decide, by decide, by decide, by decide +kernel, by decide +kernel⟩
theorem split_kind {prog : Program} {w : World} {A : Around} {E : Value → Shared → Prop} {s : Shared} {h₀ : Heap} {L : Addr} {m : Str → Option Value} {news : List (Addr × Obj)} {x : Str} {t u : Tok} {Q : Value → Shared → Prop} (F : Fr h₀ L s.heap m) (N : News h₀ L s.heap news) (hx : KindTxt x)
    (h : ∀ D (a b : Str) ta tb h' k, a.length ≤ 20 → b.length ≤ 20 → PyData.strOk a = true → PyData.strOk b = true → Fr h₀ L h' m → News h₀ L h' ((D, W.listOf #[.str a ta, .str b tb] 0) :: news) → (∀ p ∈ news, p.1 < D) → Q (.ref D) { s with heap := h', toks := k }) :
    wpAny (model prog w) A (call (.builtin "str.split") [.str x t, .str (Str.ofString "/") u]) Q E s := by
  obtain ⟨a, b, e, ha, hb, hxl, hsa, hsb⟩ := kind_splits hx
  refine KSpl.split1 F N (by decide) (fun D l h' k e' _ F' N' l1 => ?_) (by rw [sizeLine_eq]; omega)
  rw [e] at e'
  obtain ⟨ta, l2, rfl, e2⟩ := KSpl.cons_of e'
  obtain ⟨tb, l3, rfl, e3⟩ := KSpl.cons_of e2
  obtain rfl := KSpl.nil_of e3
  exact h D a b ta tb h' k ha hb hsa hsb F' N' l1

/-- a kind is made -/
theorem kind_make {prog : Program} {w : World} {x y : Str} {ps : Addr} {tx ty : Tok}
    {p : Program} {loose : List Str} {mean : ExcName → Option Value} {mg mb : Str → Option Value} {dp un : Nat} {gd : Option (List Code)} {cn : Str} {cs : Scope} {a : Addr} {ccd : Value} {cl : List (Str × Addr)} {outer : List Env} {A₀ : Around} {base h₀ : Heap} {L : Addr} {m : Str → Option Value} {s : Shared} {news : List (Addr × Obj)}
    {Q E : Value → Shared → Prop} (B : Below A₀ base outer h₀) (F : Fr h₀ L s.heap m) (X : (Mine.hd.heap_1 w.params).In h₀) (N : News h₀ L s.heap news) (T : Top p loose mean mg mb h₀) (hk : cs.kind = .function) (hd : dp + 4 < recursionLimit) (hu : un + 300 < cLine)
    (ret : ∀ (k dk : Addr) t1 t2 t3 n h' tk', Fr h₀ L h' m → News h₀ L h' ((k, instObj 222 dk) :: (dk, dictOf [ent w "top" t1 (.str x tx), ent w "sub" t2 (.str y ty), ent w "params" t3 (.ref ps)] n) :: news) →
      (∀ p ∈ news, p.1 < dk) → @LT.lt Nat _ dk k → Q (.ref k) { s with heap := h', toks := tk' }) :
    wpAny (model prog w) (ktrTop dp un gd cn cs L a ccd cl outer) (call (.ref 222) [.str x tx, .str y ty, .ref ps]) Q E s := by
  refine make_useX (ex := []) (fun k dk hne _ => kind_spec prog w x y tx ty ps k dk hne) (by k_is) (by k_is) (by k_is) B F X N (List.forall_mem_nil _) T hk (fun _ _ _ => trivial) (by omega) (by omega)
    fun k dk own' h' tk' F' N' N2 l1 l2 ⟨t1, t2, t3, n, e⟩ => ?_
  subst e
  exact ret k dk t1 t2 t3 n h' tk' F' (news_app N2 N') l1 l2
/-- a part is made -/
theorem part_make {prog : Program} {w : World} {l k : Addr} {n : Nat} {t1 t2 t3 : Tok}
    {p : Program} {loose : List Str} {mean : ExcName → Option Value} {mg mb : Str → Option Value} {dp un : Nat} {gd : Option (List Code)} {cn : Str} {cs : Scope} {a : Addr} {ccd : Value} {cl : List (Str × Addr)} {outer : List Env} {A₀ : Around} {base h₀ : Heap} {L : Addr} {m : Str → Option Value} {s : Shared} {news : List (Addr × Obj)}
    {Q E : Value → Shared → Prop} (hm : (l, W.listOf #[] n) ∈ news) (B : Below A₀ base outer h₀) (F : Fr h₀ L s.heap m) (X : (Mine.hd.heap_1 w.params).In h₀) (N : News h₀ L s.heap news) (T : Top p loose mean mg mb h₀) (hk : cs.kind = .function) (hd : dp + 10 < recursionLimit) (hu : un + 600 < cLine)
    (ret : ∀ (x dx kl : Addr) s1 s2 s3 s4 s5 s6 s7 s8 u6 h' tk', Fr h₀ L h' m → News h₀ L h' ((kl, W.listOf #[] 0) :: (x, instObj 288 dx) :: (dx, dictOf [ent w "begin" s1 (.int 0 t1), ent w "body" s2 (.int 0 t2), ent w "end" s3 (.int 0 t3), ent w "fields" s4 (.ref l), ent w "kind" s5 (.ref k), ent w "encoding" s6 (.str (Str.ofString "7bit") u6), ent w "kids" s7 (.ref kl), ent w "inner" s8 .none] 8) :: news) →
      (∀ p ∈ news, p.1 < dx) → @LT.lt Nat _ dx x → @LT.lt Nat _ x kl → Q (.ref x) { s with heap := h', toks := tk' }) :
    wpAny (model prog w) (ktrTop dp un gd cn cs L a ccd cl outer) (call (.ref 288) [.int 0 t1, .int 0 t2, .int 0 t3, .ref l, .ref k]) Q E s := by
  refine make_useX (ex := [(l, W.listOf #[] n)]) (fun x dx hne hl => part_spec prog w l k n t1 t2 t3 x dx hne hl) (by k_is) (by k_is) (by k_is) B F X N (fun q hq => by rw [List.mem_singleton.mp hq]; exact hm) T hk (fun _ _ _ => trivial) (by omega) (by omega)
    fun x dx own' h' tk' F' N' N2 l1 l2 ⟨kl, s1, s2, s3, s4, s5, s6, s7, s8, u6, e, l3⟩ => ?_
  subst e
  refine ret x dx kl s1 s2 s3 s4 s5 s6 s7 s8 u6 h' tk' F' (fun q hq => ?_) l1 l2 l3
  rcases List.mem_cons.mp hq with rfl | hq
  · exact N2 _ (by simp)
  rcases List.mem_cons.mp hq with rfl | hq
  · exact N2 _ (by simp)
  rcases List.mem_cons.mp hq with rfl | hq
  · exact N2 _ (by simp)
  exact N' q hq
end Mine
end
-- LPartA
section
open PySem PySem.W PyProof.Rows PySem.Calls PySem.Spec
namespace Mine

/-- the contract of `_law_part` at a depth -/
def PartSpec (prog : Program) (w : World) (deep : Nat) : Prop :=
  ∀ (pen cells : Addr) (c r q dz : Int) (tc tr tq td : Tok) (n : Nat), dz = deep → 0 ≤ c → c + drw deep ≤ 50000 → 0 ≤ r → 0 ≤ q → q ≤ 1008 →
    Spec prog w 311 [.ref pen, .int dz td] (12 + 2 * deep) (900 + 20 * deep) [(pen, penObj cells c r q tc tr tq n)] (CellsPre cells) (PartPost w pen cells c q tq deep)

/-- what has been made: tuples of a part and its tree -/
inductive MadeP (w : World) (M : Addr → Obj → Prop) : List Value → List TreeD → Prop
  | nil : MadeP w M [] []
  | cons {R : Addr} {x y : Value} {ys : List Value} {t : TreeD} {ts : List TreeD} : M R (tupO [x, y]) → PartP w M x t → TreeP M y t → MadeP w M ys ts → MadeP w M (.ref R :: ys) (t :: ts)
theorem MadeP.mono {w : World} {M M' : Addr → Obj → Prop} {ys : List Value} {ts : List TreeD} (h : MadeP w M ys ts) (k : ∀ a o, M a o → M' a o) : MadeP w M' ys ts := by
  induction h with
  | nil => exact .nil
  | cons h1 h2 h3 _ ih => exact .cons (k _ _ h1) (h2.mono k) (h3.mono k) ih
theorem MadeP.snoc {w : World} {M : Addr → Obj → Prop} {ys : List Value} {ts : List TreeD} {R : Addr} {x y : Value} {t : TreeD} (h : MadeP w M ys ts) (h1 : M R (tupO [x, y])) (h2 : PartP w M x t) (h3 : TreeP M y t) : MadeP w M (ys ++ [.ref R]) (ts ++ [t]) := by
  induction h with
  | nil => exact .cons h1 h2 h3 .nil
  | cons g1 g2 g3 _ ih => exact .cons g1 g2 g3 ih

/-- a name that a block reads -/
def Looks (M : Model) (A : Around) (x : String) (v : Value) (env : Env) (s : Shared) : Prop := ∀ (pos : Pos) (Q : Value → Shared → Prop) (E : Value → Shared → Prop), Q v s → wpAny M A (eval (.Name x pos) env) Q E s
theorem Looks.use {M : Model} {A : Around} {x : String} {v : Value} {env : Env} {s : Shared} (h : Looks M A x v env s) {pos : Pos} {Q E : Value → Shared → Prop} (hq : Q v s) : wpAny M A (eval (.Name x pos) env) Q E s := h pos Q E hq

theorem use_part {prog : Program} {w : World} {f pen : Addr} {dz : Int} {td : Tok} {dd uu : Nat} {own : List (Addr × Obj)} {Pre : Heap → Prop} {Post : Heap → Value → List (Addr × Obj) → Prop} (S : ∀ td, Spec prog w f [.ref pen, .int dz td] dd uu own Pre Post)
    {p : Program} {loose : List Str} {mean : ExcName → Option Value} {mg mb : Str → Option Value} {dp un : Nat} {gd : Option (List Code)} {cn : Str} {cs : Scope} {a : Addr} {ccd : Value} {cl : List (Str × Addr)} {outer : List Env} {A₀ : Around} {base h₀ : Heap} {L : Addr} {m : Str → Option Value} {s : Shared}
    {Q E : Value → Shared → Prop} (B : Below A₀ base outer h₀) (F : Fr h₀ L s.heap m) (X : (Mine.hd.heap_1 w.params).In h₀) (N : News h₀ L s.heap own) (T : Top p loose mean mg mb h₀) (hk : cs.kind = .function) (hpre : Pre (hid s.heap own)) (hd : dp + dd < recursionLimit) (hu : un + uu < cLine)
    (ret : ∀ r own' h' tk', Fr h₀ L h' m → News h₀ L h' own' → KeepX s.heap h' own → FreshX s.heap own own' → Post h' r own' → Q r { s with heap := h', toks := tk' }) :
    wpAny (model prog w) (ktrTop dp un gd cn cs L a ccd cl outer) (call (.ref f) [.ref pen, .int dz td]) Q E s := Spec.use (S td) B F X N T hk hpre hd hu ret

section
variable {prog : Program} {w : World} {E : Value → Shared → Prop} {s : Shared} {h₀ base : Heap} {A₀ : Around} {L C : Addr} {m mc mg mb : Str → Option Value} {scope : Scope} {cl' cl : List (Str × Addr)}
  {p : Program} {loose : List Str} {mean : ExcName → Option Value} {p1 p2 p3 p4 p5 p6 pos : Pos} {Q : Value → Shared → Prop} {dp un : Nat} {gd : Option (List Code)} {cn : Str} {cs : Scope} {a : Addr} {ccd : Value} {outer : List Env} {env : Env}
set_option maxHeartbeats 1000000 in
/-- `_law_part(pen, deep - 1)` within a block -/
theorem elt_part {d : Nat} {pen cells : Addr} {c r q dz : Int} {tc tr tq td : Tok} {n : Nat} (S : ∀ td, Spec prog w 311 [.ref pen, .int (dz - 1) td] (12 + 2 * d) (900 + 20 * d) [(pen, penObj cells c r q tc tr tq n)] (CellsPre cells) (PartPost w pen cells c q tq d))
    (B : Below A₀ base outer h₀) (F : Fr h₀ L s.heap m) (X : (Mine.hd.heap_1 w.params).In h₀) (T : Top p loose mean mg mb h₀) (hcs : cs.kind = .function) (hd : dp + (12 + 2 * d) < recursionLimit) (hu : un + (900 + 20 * d) < cLine)
    (N : News h₀ L s.heap [(pen, penObj cells c r q tc tr tq n)]) (hcells : CellsPre cells (hid s.heap [(pen, penObj cells c r q tc tr tq n)]))
    (hg : env.globals = mainGlobals) (hk : (compEnvC scope cl' C env).scope.kind = .function) (hkl : (compEnvC scope cl' C env).kindOf "_law_part" = some .globalImplicit)
    (lP : Looks (model prog w) (ktrTop dp un gd cn cs L a ccd cl outer) "pen" (.ref pen) (compEnvC scope cl' C env) s) (lD : Looks (model prog w) (ktrTop dp un gd cn cs L a ccd cl outer) "deep" (.int dz td) (compEnvC scope cl' C env) s)
    (h : ∀ v own' h' tk', Fr h₀ L h' m → News h₀ L h' own' → KeepX s.heap h' [(pen, penObj cells c r q tc tr tq n)] → FreshX s.heap [(pen, penObj cells c r q tc tr tq n)] own' → PartPost w pen cells c q tq d h' v own' → Q v { s with heap := h', toks := tk' }) :
    wpAny (model prog w) (ktrTop dp un gd cn cs L a ccd cl outer) (eval (.Call (.Name "_law_part" p1) [.Name "pen" p2, .BinOp (.Name "deep" p3) .Sub (.Constant (.int 1) 0 p4) p5] [] p6) (compEnvC scope cl' C env)) Q E s := by
  k_with_none
  (k_with "cj" => (first | exact fun h => h.1 | exact fun h => h.2.1 | exact fun h => h.2.2.1 | exact fun h => h.2.2.2.1 | exact fun h => h.2.2.2.2.1 | exact fun h => h.2.2.2.2.2.1 | exact fun h => h.2.2.2.2.2.2.1 | exact fun h => h.2.2.2.2.2.2.2.1 | exact fun h => h.2.2.2.2.2.2.2.2.1 | exact fun h => h.2.2.2.2.2.2.2.2.2.1 | exact fun h => h.2.2.2.2.2.2.2.2.2.2.1 | exact fun h => h.2.2.2.2.2.2.2.2.2.2.2.1 | exact fun h => h.2.2.2.2.2.2.2.2.2.2.2.2.1 | exact fun h => h.2.2.2.2.2.2.2.2.2.2.2.2.2.1 | exact fun h => h.2 | exact fun h => h.2.2 | exact fun h => h.2.2.2 | exact fun h => h.2.2.2.2 | exact fun h => h.2.2.2.2.2 | exact fun h => h.2.2.2.2.2.2 | exact fun h => h.2.2.2.2.2.2.2 | exact fun h => h.2.2.2.2.2.2.2.2 | exact fun h => h.2.2.2.2.2.2.2.2.2 | exact fun h => h.2.2.2.2.2.2.2.2.2.2 | exact fun h => h.2.2.2.2.2.2.2.2.2.2.2 | exact fun h => h.2.2.2.2.2.2.2.2.2.2.2.2 | exact fun h => h.2.2.2.2.2.2.2.2.2.2.2.2.2))
  (k_with "omega" => (with_reducible first | assumption | exact Nat.le_of_ble_eq_true (by decide) | exact Nat.ne_of_gt (by assumption) | exact Nat.ne_of_lt (by assumption) | exact Mine.lm1 (by assumption) (by decide) | exact Mine.lm2 (by assumption) (by decide) | exact Mine.lm3 (by assumption) (by decide) | exact Mine.lm4 (by assumption) (by decide) | exact Mine.lm5 (by assumption) (by decide) | exact Mine.lm6 (by assumption) (by decide) | exact Mine.lm7 (by assumption) (by decide) | exact Mine.lm8 (by assumption) (by decide) | exact Mine.lm9 (by assumption) (by decide) | exact Int.natCast_nonneg _ | (refine Mine.cj1 (by assumption) ?_; k_extra "cj") | (refine Mine.cj2 (by assumption) ?_; k_extra "cj") | (refine Mine.cj3 (by assumption) ?_; k_extra "cj") | (refine Mine.cj4 (by assumption) ?_; k_extra "cj") | (refine Mine.cj5 (by assumption) (by assumption) ?_; k_extra "cj") | (refine Mine.cj6 (by assumption) (by assumption) ?_; k_extra "cj") | (refine Mine.cj7 (by assumption) (by assumption) (by assumption) ?_; k_extra "cj") | (refine Mine.cj8 (by assumption) (by assumption) (by assumption) ?_; k_extra "cj") | exact Mine.cj9 (by assumption) (by assumption) | exact Mine.cj10 (by assumption) (by assumption) | (refine Mine.cl1 (by assumption) ?_; k_extra "cj") | (refine Mine.cl2 (by assumption) (by assumption) ?_; k_extra "cj") | exact Mine.ns1 (by assumption) | exact Mine.ns2 (by assumption) | exact Mine.ns3 | exact Mine.ns4 | exact Mine.lm10 (by assumption) (by decide) | exact Mine.lm11 (by assumption) (by decide) | exact Mine.lm12 (by assumption) (by assumption) (by decide) | exact Mine.lm12 (by assumption) (Nat.le_refl _) (by decide) | exact Mine.lm13 (by assumption) (by assumption) (by decide) | exact Mine.lm13 (by assumption) (Nat.le_refl _) (by decide) | fail))
  (k_with "eval Name" => ((with_reducible show wpAny _ _ (eval (Expr.Name _ _) (compEnvC _ _ _ _)) _ _ _); first
  | (refine Looks.use (by assumption) ?_)
  | (k_dflt (refine LCgL.ld_global (by assumption) (by assumption) (by assumption) (by k_is) ?_ (by assumption) (by assumption) (by assumption) (by decide)))))
  (k_with "call ref" => ((with_reducible show wpAny _ _ (call (Value.ref 311) [Value.ref _, Value.int _ _]) _ _ _); refine use_part (by assumption) (by assumption) (by assumption) (by assumption) (by assumption) (by assumption) (by assumption) (by assumption) (by assumption) (by assumption) ?_; intro r own' h' tk' F' N' k' f' P'))
  repeat' (first | (walk1; (try dsimp only)))
  exact h _ _ _ _ (by assumption) (by assumption) (by assumption) (by assumption) (by assumption)
end

def NeAll (E news : List (Addr × Obj)) : Prop := ∀ p ∈ E, ∀ q ∈ news, p.1 ≠ q.1
theorem NeAll.of {E news : List (Addr × Obj)} (h : NeAll E news) {a : Addr} {o : Obj} (hm : (a, o) ∈ news) : ∀ p ∈ E, p.1 ≠ a := fun p hp => h p hp _ hm
theorem NeAll.at {E news : List (Addr × Obj)} (h : NeAll E news) {R : Addr} {o : Obj} (hm : (R, o) ∈ E) : ∀ p ∈ news, p.1 ≠ R := fun p hp e => h _ hm p hp e.symm

/-- between two turns -/
def PartsR (w : World) (pen cells : Addr) (c q : Int) (tq : Tok) (d i : Nat) (ys : List Value) (own₁ : List (Addr × Obj)) : Prop :=
  ∃ (ts : List TreeD) (c' r' : Int) (tc' tr' : Tok) (n' : Nat) (E : List (Addr × Obj)), own₁ = (pen, penObj cells c' r' q tc' tr' tq n') :: E ∧ MadeP w (inN E) ys ts ∧ ts.length = i ∧ (∀ t ∈ ts, t.depth ≤ d ∧ (t.Ok ∧ t.Sok)) ∧
    0 ≤ c' ∧ c' ≤ c + ((i * drw d : Nat) : Int) ∧ 0 ≤ r' ∧ ∀ p ∈ E, p.1 ≠ pen

section
variable {prog : Program} {w : World} {E' : Value → Shared → Prop} {s : Shared} {h₀ base : Heap} {A₀ : Around} {L : Addr} {m mg mb : Str → Option Value} {scope : Scope} {cl' cl : List (Str × Addr)}
  {p : Program} {loose : List Str} {mean : ExcName → Option Value} {p1 p2 p3 p4 p5 p6 p7 pos : Pos} {dp un : Nat} {gd : Option (List Code)} {cn : Str} {cs : Scope} {a : Addr} {ccd : Value} {outer : List Env} {env : Env} {mf : Addr → Str → Option Value} {Fin : Addr → Shared → Prop}
theorem range_parts {d k n : Nat} {pen cells cP cD ra : Addr} {oP oD : Obj} {c r q dz : Int} {tc tr tq td t u v : Tok} {news : List (Addr × Obj)} {g : Obj → List (Addr × Obj)} (S : PartSpec prog w d)
    (hc : 0 ≤ c) (hc' : c + 2 * drw d ≤ 50000) (hr0 : 0 ≤ r) (hq : 0 ≤ q) (hq' : q ≤ 1008) (hdz : dz - 1 = d) (hd : dp + (12 + 2 * d) < recursionLimit) (hu : un + (900 + 20 * d) < cLine) (hk2 : (k : Int) < 2)
    (hr : IsRange s.heap ra 0 (1 + (k : Int)) 1 t u v) (B : Below A₀ base outer h₀) (F : Fr h₀ L s.heap m) (N : News h₀ L s.heap news) (U : UpdF pen (penObj cells c r q tc tr tq n) news g) (X : (Mine.hd.heap_1 w.params).In h₀) (T : Top p loose mean mg mb h₀) (hcs : cs.kind = .function)
    (hcells : CellsPre cells h₀) (hkind : scope.kind = .function) (hx : scope.names.lookup (Str.ofString "turn") = some .local)
    (hg : env.globals = mainGlobals) (hk : ∀ C, (compEnvC scope cl' C env).scope.kind = .function) (hkl : ∀ C, (compEnvC scope cl' C env).kindOf "_law_part" = some .globalImplicit) (hkp : ∀ C, (compEnvC scope cl' C env).kindOf "pen" = some .cell) (hkd : ∀ C, (compEnvC scope cl' C env).kindOf "deep" = some .cell)
    (hcP : cl'.lookup (Str.ofString "pen") = some cP) (hcD : cl'.lookup (Str.ofString "deep") = some cD) (hmP : (cP, oP) ∈ news) (hmD : (cD, oD) ∈ news) (hoP : oP.data = .cell (some (.ref pen))) (hoD : oD.data = .cell (some (.int dz td))) (hnP : @Ne Nat cP pen) (hnD : @Ne Nat cD pen)
    (out : ∀ D h tk ys ts c' r' tc' tr' n' E, Fr h₀ L h (mf D) → News h₀ L h ((D, LCg.lst ys) :: g (penObj cells c' r' q tc' tr' tq n') ++ E) → (∀ p ∈ news, p.1 ≠ D) → (∀ p ∈ E, p.1 ≠ D) → NeAll E news → MadeP w (inN E) ys ts → ts.length = 1 + k → (∀ t ∈ ts, t.depth ≤ d ∧ (t.Ok ∧ t.Sok)) →
      0 ≤ c' → c' ≤ c + (((1 + k) * drw d : Nat) : Int) → 0 ≤ r' → Fin D { s with heap := h, toks := tk }) :
    wpAny (model prog w) (ktrTop dp un gd cn cs L a ccd cl outer) (pyIter (.ref ra)) (BlockAt prog w (ktrTop dp un gd cn cs L a ccd cl outer) h₀ L m env (.Call (.Name "_law_part" p1) [.Name "pen" p2, .BinOp (.Name "deep" p3) .Sub (.Constant (.int 1) 0 p4) p5] [] p6) (.Name (Str.ofString "turn") p7) [] scope cl' mf Fin) E' s := by
  have hk01 : k = 0 ∨ k = 1 := by omega
  have hsm : Builtin.Range.small 0 (1 + (k : Int)) 1 = true := by rcases hk01 with rfl | rfl <;> decide +kernel
  have hsz : Builtin.Range.rangeSize 0 (1 + (k : Int)) 1 = ((1 + k : Nat) : Int) := by rcases hk01 with rfl | rfl <;> decide +kernel
  obtain ⟨pre, post, hnews, hg', h1, h2⟩ := U.split
  have hpm : (pen, penObj cells c r q tc tr tq n) ∈ news := by rw [hnews]; simp
  have N1 : News h₀ L s.heap [(pen, penObj cells c r q tc tr tq n)] := fun p hp => by rw [List.mem_singleton.mp hp]; exact N _ hpm
  refine src_range (own := [(pen, penObj cells c r q tc tr tq n)]) (R := PartsR w pen cells c q tq d) rfl hr hsm hsz (by rw [sizeLine_eq]; omega) hkind hx F N1 ⟨[], c, r, tc, tr, n, [], rfl, .nil, rfl, List.forall_mem_nil _, hc, by simp, hr0, List.forall_mem_nil _⟩ ?_ ?_
  · rintro i ys own₁ C mc s' E'' hi _ ⟨ts, c', r', tc', tr', n', E, rfl, hM, hl, hts, e0, e1, e2, e3⟩ F' N' hn ⟨vv, ⟨tv, rfl⟩, hmc⟩ _ _ _ hk' ⟨_, _, rfl⟩
    have keep : ∀ b o, (b, o) ∈ news → @Ne Nat b pen → News h₀ L _ [(b, o)] := fun b o hm hne p hp => by
      rw [List.mem_singleton.mp hp]
      exact ⟨hk' _ _ (N _ hm).1 (by rw [List.map_singleton, List.mem_singleton]; exact hne), (N _ hm).2⟩
    have Np : News h₀ L _ [(pen, penObj cells c' r' q tc' tr' tq n')] := fun p hp => by rw [List.mem_singleton.mp hp]; exact N' _ (List.mem_cons_self ..)
    have hb : c' + drw d ≤ 50000 := by
      have hi2 : i = 0 ∨ i = 1 := by omega
      rcases hi2 with rfl | rfl
      · simp at e1; omega
      · simp at e1; omega
    refine Turn.plain (elt_part (fun td => S pen cells c' r' q (dz - 1) tc' tr' tq td n' hdz e0 hb e2 hq hq') B F' X T hcs hd hu Np (hcells.hid F' Np) hg (hk C) (hkl C) (fun pos Q E h => lcf_cell (keep _ _ hmP hnP) hcP (List.mem_singleton.mpr rfl) hoP h (hk C) (hkp C)) (fun pos Q E h => lcf_cell (keep _ _ hmD hnD) hcD (List.mem_singleton.mpr rfl) hoD h (hk C) (hkd C)) ?_)
    rintro v own' h' tk' F2 N2 k2 f2 ⟨R, x, y, t, c2, r2, tc2, tr2, n2, E2, rfl, rfl, hP, hT, hdp, hok, g0, g1, g2, g3, g4⟩
    refine TEnd.intro (own' := (pen, penObj cells c2 r2 q tc2 tr2 tq n2) :: (R, tupO [x, y]) :: (E2 ++ E)) F2 (fun p hp => ?_) (fun b o e hb => k2 b o e fun z => hb ?_) (fun p hp => ?_) ⟨ts ++ [t], c2, r2, tc2, tr2, n2, _, rfl, (hM.mono fun a o h => List.mem_cons_of_mem _ (List.mem_append_right _ h)).snoc (List.mem_cons_self ..) (hP.mono fun a o h => List.mem_cons_of_mem _ (List.mem_append_left _ h)) (hT.mono fun a o h => List.mem_cons_of_mem _ (List.mem_append_left _ h)), by simp [hl], ?_, g0, ?_, g2, ?_⟩
    · rcases List.mem_cons.mp hp with rfl | hp
      · exact N2 _ (by simp)
      rcases List.mem_cons.mp hp with rfl | hp
      · exact N2 _ (by simp)
      rcases List.mem_append.mp hp with hp | hp
      · exact N2 _ (by simp [hp])
      · exact ⟨k2 _ _ (N' p (List.mem_cons_of_mem _ hp)).1 (by rw [List.map_singleton, List.mem_singleton]; exact e3 p hp), (N' p (List.mem_cons_of_mem _ hp)).2⟩
    · rw [List.map_singleton, List.mem_singleton] at z
      simp [z]
    · rcases List.mem_cons.mp hp with rfl | hp
      · exact .inl (by simp)
      have up : ∀ p : Addr × Obj, p.1 ∈ [(pen, penObj cells c' r' q tc' tr' tq n')].map (·.1) → p.1 ∈ ((pen, penObj cells c' r' q tc' tr' tq n') :: E).map (·.1) := fun p z => by
        rw [List.map_singleton, List.mem_singleton] at z
        simp [z]
      rcases List.mem_cons.mp hp with rfl | hp
      · exact (f2 _ (List.mem_cons_self ..)).imp (up _) id
      rcases List.mem_append.mp hp with hp | hp
      · exact (f2 p (by simp [hp])).imp (up _) id
      · exact .inl (List.mem_map_of_mem (List.mem_cons_of_mem _ hp))
    · intro z hz
      rcases List.mem_append.mp hz with hz | hz
      · exact hts z hz
      · rw [List.mem_singleton.mp hz]; exact ⟨hdp, hok⟩
    · rw [Nat.succ_mul]; push_cast; push_cast at e1; omega
    · intro p hp
      rcases List.mem_cons.mp hp with rfl | hp
      · exact g4
      rcases List.mem_append.mp hp with hp | hp
      · exact g3 p hp
      · exact e3 p hp
  · rintro D h tk ys own' F' N' hD hD₀ hDL hDo hsD ⟨ts, c', r', tc', tr', n', E, rfl, hM, hl, hts, e0, e1, e2, e3⟩ hk' hf
    have nm : ∀ x ∈ pre ++ post, x.1 ∉ [(pen, penObj cells c r q tc tr tq n)].map (·.1) := fun x hx z => by
      rw [List.map_singleton, List.mem_singleton] at z
      rcases List.mem_append.mp hx with hx | hx
      · exact h1 x hx z
      · exact h2 x hx z
    refine out D h tk ys ts c' r' tc' tr' n' E F' (fun p hp => ?_) (fun p hp e => ?_) (fun p hp => hDo p (List.mem_cons_of_mem _ hp)) (fun p hp x hx e => ?_) hM hl hts e0 e1 e2
    · rw [List.cons_append] at hp
      rcases List.mem_cons.mp hp with rfl | hp
      · exact ⟨hD, hDL, hD₀⟩
      rcases List.mem_append.mp hp with hp | hp
      · rw [hg'] at hp
        rcases List.mem_append.mp hp with hp | hp
        · have hp' : p ∈ news := by rw [hnews]; exact List.mem_append_left _ hp
          exact ⟨hk' _ _ (N p hp').2.1 (N p hp').1 (nm p (List.mem_append_left _ hp)), (N p hp').2⟩
        rcases List.mem_cons.mp hp with rfl | hp
        · exact N' _ (List.mem_cons_self ..)
        · have hp' : p ∈ news := by rw [hnews]; exact List.mem_append_right _ (List.mem_cons_of_mem _ hp)
          exact ⟨hk' _ _ (N p hp').2.1 (N p hp').1 (nm p (List.mem_append_right _ hp)), (N p hp').2⟩
      · exact N' _ (List.mem_cons_of_mem _ hp)
    · have := (N p hp).1; rw [e, hsD] at this; cases this
    · rcases hf p (List.mem_cons_of_mem _ hp) with z | z
      · rw [List.map_singleton, List.mem_singleton] at z
        exact e3 p hp z
      · have := (N x hx).1; rw [← e, z] at this; cases this
end

section
variable {prog : Program} {w : World} {A : Around} {E : Value → Shared → Prop} {s : Shared} {h₀ : Heap} {L : Addr} {m : Str → Option Value} {env : Env} {scope : Scope} {cl' : List (Str × Addr)} {mf : Addr → Str → Option Value} {Fin : Addr → Shared → Prop} {p1 p2 p3 p4 : Pos} {kk : Nat}
/-- `[one for one, tree in ..]`, `[tree for one, tree in ..]` over tuples that are at hand -/
theorem iter_pairs {z : Str} {l : Addr} {Ts : Nat → Addr} {xs ys zs : Nat → Value} {n : Nat} {news : List (Addr × Obj)} (hh : A.handled = none) (hl : s.heap.IsList l ((List.range n).map fun j => Value.ref (Ts j)).toArray) (hT : ∀ j, j < n → s.heap.IsTuple (Ts j) #[xs j, ys j]) (hn8 : n ≤ 8)
    (hkind : scope.kind = .function) (hxa : scope.names.lookup (Str.ofString "one") = some .local) (hxb : scope.names.lookup (Str.ofString "tree") = some .local) (hk : ∀ C, (compEnvC scope cl' C env).scope.kind = .function)
    (hz : (z = Str.ofString "one" ∧ zs = xs) ∨ (z = Str.ofString "tree" ∧ zs = ys)) (F : Fr h₀ L s.heap m) (N : News h₀ L s.heap news)
    (out : ∀ D h tk, Fr h₀ L h (mf D) → News h₀ L h ((D, LCg.lst ((List.range n).map zs)) :: news) → (∀ p ∈ news, p.1 ≠ D) → Fin D { s with heap := h, toks := tk }) :
    wpAny (model prog w) A (pyIter (.ref l)) (BlockAt prog w A h₀ L m env (.Name z p1) (.Tuple [.Name (Str.ofString "one") p2, .Name (Str.ofString "tree") p3] kk p4) [] scope cl' mf Fin) E s := by
  refine src_pairs (own := []) (R := fun i vs own₁ => own₁ = [] ∧ vs = (List.range i).map zs) (Ts := Ts) (xs := xs) (ys := ys) hh hl hT (by rw [sizeLine_eq]; omega) hkind hxa hxb (by decide) F News.nil (List.forall_mem_nil _) ⟨rfl, rfl⟩ ?_ ?_
  · rintro i vs own₁ C mc s' E' hi _ ⟨rfl, rfl⟩ F' N' hn ⟨x, y, ⟨rfl, rfl⟩, hma, hmb⟩ _ _ _ _ _
    refine Turn.plain ?_
    rcases hz with ⟨rfl, rfl⟩ | ⟨rfl, rfl⟩
    · exact nb_local hn hma (hk C) (lookup_relabel_local hxa) (by decide) (TEnd.same F' N' ⟨rfl, by rw [List.range_succ, List.map_append]; rfl⟩)
    · exact nb_local hn hmb (hk C) (lookup_relabel_local hxb) (by decide) (TEnd.same F' N' ⟨rfl, by rw [List.range_succ, List.map_append]; rfl⟩)
  · rintro D h tk vs own' F' _ hD hD₀ hDL _ hsD ⟨rfl, rfl⟩ hk' _
    refine out D h tk F' (fun p hp => ?_) (fun p hp e => ?_)
    · rcases List.mem_cons.mp hp with rfl | hp
      · exact ⟨hD, hDL, hD₀⟩
      · exact ⟨hk' _ _ (N p hp).2.1 (N p hp).1 (by simp), (N p hp).2⟩
    · have := (N p hp).1; rw [e, hsD] at this; cases this
theorem iter_pairs1 {z : Str} {l R : Addr} {x y zv : Value} {news : List (Addr × Obj)} (hh : A.handled = none) (hl : s.heap.IsList l [Value.ref R].toArray) (hT : s.heap.IsTuple R #[x, y])
    (hkind : scope.kind = .function) (hxa : scope.names.lookup (Str.ofString "one") = some .local) (hxb : scope.names.lookup (Str.ofString "tree") = some .local) (hk : ∀ C, (compEnvC scope cl' C env).scope.kind = .function)
    (hz : (z = Str.ofString "one" ∧ zv = x) ∨ (z = Str.ofString "tree" ∧ zv = y)) (F : Fr h₀ L s.heap m) (N : News h₀ L s.heap news)
    (out : ∀ D h tk, Fr h₀ L h (mf D) → News h₀ L h ((D, LCg.lst [zv]) :: news) → (∀ p ∈ news, p.1 ≠ D) → Fin D { s with heap := h, toks := tk }) :
    wpAny (model prog w) A (pyIter (.ref l)) (BlockAt prog w A h₀ L m env (.Name z p1) (.Tuple [.Name (Str.ofString "one") p2, .Name (Str.ofString "tree") p3] kk p4) [] scope cl' mf Fin) E s :=
  iter_pairs (n := 1) (Ts := fun _ => R) (xs := fun _ => x) (ys := fun _ => y) (zs := fun _ => zv) hh hl (fun _ _ => hT) (by decide) hkind hxa hxb hk (hz.imp (fun h => ⟨h.1, by rw [h.2]⟩) (fun h => ⟨h.1, by rw [h.2]⟩)) F N out
theorem iter_pairs2 {z : Str} {l R R' : Addr} {x y zv x' y' zv' : Value} {news : List (Addr × Obj)} (hh : A.handled = none) (hl : s.heap.IsList l [Value.ref R, Value.ref R'].toArray) (hT : s.heap.IsTuple R #[x, y]) (hT' : s.heap.IsTuple R' #[x', y'])
    (hkind : scope.kind = .function) (hxa : scope.names.lookup (Str.ofString "one") = some .local) (hxb : scope.names.lookup (Str.ofString "tree") = some .local) (hk : ∀ C, (compEnvC scope cl' C env).scope.kind = .function)
    (hz : (z = Str.ofString "one" ∧ zv = x ∧ zv' = x') ∨ (z = Str.ofString "tree" ∧ zv = y ∧ zv' = y')) (F : Fr h₀ L s.heap m) (N : News h₀ L s.heap news)
    (out : ∀ D h tk, Fr h₀ L h (mf D) → News h₀ L h ((D, LCg.lst [zv, zv']) :: news) → (∀ p ∈ news, p.1 ≠ D) → Fin D { s with heap := h, toks := tk }) :
    wpAny (model prog w) A (pyIter (.ref l)) (BlockAt prog w A h₀ L m env (.Name z p1) (.Tuple [.Name (Str.ofString "one") p2, .Name (Str.ofString "tree") p3] kk p4) [] scope cl' mf Fin) E s := by
  refine iter_pairs (n := 2) (Ts := fun j => if j = 0 then R else R') (xs := fun j => if j = 0 then x else x') (ys := fun j => if j = 0 then y else y') (zs := fun j => if j = 0 then zv else zv') hh hl (fun j hj => ?_) (by decide) hkind hxa hxb hk (hz.imp (fun h => ⟨h.1, by rw [h.2.1, h.2.2]⟩) (fun h => ⟨h.1, by rw [h.2.1, h.2.2]⟩)) F N out
  have : j = 0 ∨ j = 1 := by omega
  rcases this with rfl | rfl
  · exact hT
  · exact hT'
end

theorem PartP.ref {w : World} {M : Addr → Obj → Prop} {v : Value} {t : TreeD} (h : PartP w M v t) : ∃ a, v = .ref a := by cases h <;> exact ⟨_, rfl⟩
theorem TreeP.ref {M : Addr → Obj → Prop} {v : Value} {t : TreeD} (h : TreeP M v t) : ∃ a, v = .ref a := by cases h <;> exact ⟨_, rfl⟩
theorem made_one {w : World} {M : Addr → Obj → Prop} {ys : List Value} {ts : List TreeD} (h : MadeP w M ys ts) (hl : ts.length = 1) : ∃ R x y t, ys = [.ref R] ∧ ts = [t] ∧ M R (tupO [x, y]) ∧ PartP w M x t ∧ TreeP M y t := by
  cases h with
  | nil => simp at hl
  | cons h1 h2 h3 h4 =>
    cases h4 with
    | nil => exact ⟨_, _, _, _, rfl, rfl, h1, h2, h3⟩
    | cons => simp at hl
theorem made_two {w : World} {M : Addr → Obj → Prop} {ys : List Value} {ts : List TreeD} (h : MadeP w M ys ts) (hl : ts.length = 2) : ∃ R x y t R' x' y' t', ys = [.ref R, .ref R'] ∧ ts = [t, t'] ∧ (M R (tupO [x, y]) ∧ PartP w M x t ∧ TreeP M y t) ∧ (M R' (tupO [x', y']) ∧ PartP w M x' t' ∧ TreeP M y' t') := by
  cases h with
  | nil => simp at hl
  | cons h1 h2 h3 h4 =>
    obtain ⟨R', x', y', t', rfl, rfl, g1, g2, g3⟩ := made_one h4 (by simpa using hl)
    exact ⟨_, _, _, _, _, _, _, _, rfl, rfl, ⟨h1, h2, h3⟩, g1, g2, g3⟩

section
variable {prog : Program} {w : World} {E' : Value → Shared → Prop} {s : Shared} {h₀ base : Heap} {A₀ : Around} {L : Addr} {m mg mb : Str → Option Value} {scope : Scope} {cl' cl : List (Str × Addr)}
  {p : Program} {loose : List Str} {mean : ExcName → Option Value} {p1 p2 p3 p4 p5 p6 p7 pos : Pos} {dp un : Nat} {gd : Option (List Code)} {cn : Str} {cs : Scope} {a : Addr} {ccd : Value} {outer : List Env} {env : Env} {mf : Addr → Str → Option Value} {Fin : Addr → Shared → Prop}
theorem range_parts2 {d k n : Nat} {pen cells cP cD ra : Addr} {oP oD : Obj} {c r q dz : Int} {tc tr tq td t u v : Tok} {news : List (Addr × Obj)} {g : Obj → List (Addr × Obj)} (S : PartSpec prog w d)
    (hc : 0 ≤ c) (hc' : c + 2 * drw d ≤ 50000) (hr0 : 0 ≤ r) (hq : 0 ≤ q) (hq' : q ≤ 1008) (hdz : dz - 1 = d) (hd : dp + (12 + 2 * d) < recursionLimit) (hu : un + (900 + 20 * d) < cLine) (hk2 : (k : Int) < 2)
    (hr : IsRange s.heap ra 0 (1 + (k : Int)) 1 t u v) (B : Below A₀ base outer h₀) (F : Fr h₀ L s.heap m) (N : News h₀ L s.heap news) (U : UpdF pen (penObj cells c r q tc tr tq n) news g) (X : (Mine.hd.heap_1 w.params).In h₀) (T : Top p loose mean mg mb h₀) (hcs : cs.kind = .function)
    (hcells : CellsPre cells h₀) (hkind : scope.kind = .function) (hx : scope.names.lookup (Str.ofString "turn") = some .local)
    (hg : env.globals = mainGlobals) (hk : ∀ C, (compEnvC scope cl' C env).scope.kind = .function) (hkl : ∀ C, (compEnvC scope cl' C env).kindOf "_law_part" = some .globalImplicit) (hkp : ∀ C, (compEnvC scope cl' C env).kindOf "pen" = some .cell) (hkd : ∀ C, (compEnvC scope cl' C env).kindOf "deep" = some .cell)
    (hcP : cl'.lookup (Str.ofString "pen") = some cP) (hcD : cl'.lookup (Str.ofString "deep") = some cD) (hmP : (cP, oP) ∈ news) (hmD : (cD, oD) ∈ news) (hoP : oP.data = .cell (some (.ref pen))) (hoD : oD.data = .cell (some (.int dz td))) (hnP : @Ne Nat cP pen) (hnD : @Ne Nat cD pen)
    (out1 : ∀ (D R x y : Addr) (t : TreeD) h tk c' r' tc' tr' n' E, Fr h₀ L h (mf D) → News h₀ L h ((D, LCg.lst [.ref R]) :: (R, tupO [.ref x, .ref y]) :: (g (penObj cells c' r' q tc' tr' tq n') ++ E)) → (∀ p ∈ news, p.1 ≠ D) → (∀ p ∈ E, p.1 ≠ D) → (∀ p ∈ news, p.1 ≠ R) → NeAll E news → PartP w (inN E) (.ref x) t → TreeP (inN E) (.ref y) t → t.depth ≤ d ∧ (t.Ok ∧ t.Sok) →
      0 ≤ c' → c' ≤ c + drw d → 0 ≤ r' → Fin D { s with heap := h, toks := tk })
    (out2 : ∀ (D R R' x y x' y' : Addr) (t t' : TreeD) h tk c' r' tc' tr' n' E, Fr h₀ L h (mf D) → News h₀ L h ((D, LCg.lst [.ref R, .ref R']) :: (R, tupO [.ref x, .ref y]) :: (R', tupO [.ref x', .ref y']) :: (g (penObj cells c' r' q tc' tr' tq n') ++ E)) → (∀ p ∈ news, p.1 ≠ D) → (∀ p ∈ E, p.1 ≠ D) → (∀ p ∈ news, p.1 ≠ R) → (∀ p ∈ news, p.1 ≠ R') → NeAll E news →
      PartP w (inN E) (.ref x) t → TreeP (inN E) (.ref y) t → PartP w (inN E) (.ref x') t' → TreeP (inN E) (.ref y') t' → t.depth ≤ d ∧ (t.Ok ∧ t.Sok) → t'.depth ≤ d ∧ (t'.Ok ∧ t'.Sok) → 0 ≤ c' → c' ≤ c + 2 * drw d → 0 ≤ r' → Fin D { s with heap := h, toks := tk }) :
    wpAny (model prog w) (ktrTop dp un gd cn cs L a ccd cl outer) (pyIter (.ref ra)) (BlockAt prog w (ktrTop dp un gd cn cs L a ccd cl outer) h₀ L m env (.Call (.Name "_law_part" p1) [.Name "pen" p2, .BinOp (.Name "deep" p3) .Sub (.Constant (.int 1) 0 p4) p5] [] p6) (.Name (Str.ofString "turn") p7) [] scope cl' mf Fin) E' s := by
  refine range_parts S hc hc' hr0 hq hq' hdz hd hu hk2 hr B F N U X T hcs hcells hkind hx hg hk hkl hkp hkd hcP hcD hmP hmD hoP hoD hnP hnD ?_
  intro D h tk ys ts c' r' tc' tr' n' E F' N' hnD hED hEn hM hl hts e0 e1 e2
  have hk01 : k = 0 ∨ k = 1 := by omega
  rcases hk01 with rfl | rfl
  · obtain ⟨R, x, y, t, rfl, rfl, m1, m2, m3⟩ := made_one hM hl
    obtain ⟨x, rfl⟩ := m2.ref
    obtain ⟨y, rfl⟩ := m3.ref
    refine out1 D R x y t h tk c' r' tc' tr' n' E F' (fun p hp => ?_) hnD hED (hEn.at m1) hEn m2 m3 (hts _ (by simp)) e0 (by simp at e1; omega) e2
    rcases List.mem_cons.mp hp with rfl | hp
    · exact N' _ (by simp)
    rcases List.mem_cons.mp hp with rfl | hp
    · exact N' _ (List.mem_append_right _ m1)
    · exact N' _ (List.mem_cons_of_mem _ hp)
  · obtain ⟨R, x, y, t, R', x', y', t', rfl, rfl, ⟨m1, m2, m3⟩, m1', m2', m3'⟩ := made_two hM hl
    obtain ⟨x, rfl⟩ := m2.ref
    obtain ⟨y, rfl⟩ := m3.ref
    obtain ⟨x', rfl⟩ := m2'.ref
    obtain ⟨y', rfl⟩ := m3'.ref
    refine out2 D R R' x y x' y' t t' h tk c' r' tc' tr' n' E F' (fun p hp => ?_) hnD hED (hEn.at m1) (hEn.at m1') hEn m2 m3 m2' m3' (hts _ (by simp)) (hts _ (by simp)) e0 (by push_cast at e1; omega) e2
    rcases List.mem_cons.mp hp with rfl | hp
    · exact N' _ (by simp)
    rcases List.mem_cons.mp hp with rfl | hp
    · exact N' _ (List.mem_append_right _ m1)
    rcases List.mem_cons.mp hp with rfl | hp
    · exact N' _ (List.mem_append_right _ m1')
    · exact N' _ (List.mem_cons_of_mem _ hp)
end

theorem neMem {news : List (Addr × Obj)} {R : Addr} (h : ∀ p ∈ news, p.1 ≠ R) {a : Addr} {o : Obj} (hm : (a, o) ∈ news) : R ≠ a := fun e => h _ hm e.symm
/-- a draw of four ways -/
theorem draw4_use {prog : Program} {w : World} {p : Program} {loose : List Str} {mean : ExcName → Option Value} {mg mb : Str → Option Value} {dp un : Nat} {gd : Option (List Code)} {cn : Str} {cs : Scope} {a : Addr} {ccd : Value} {cl : List (Str × Addr)} {outer : List Env} {A₀ : Around} {base h₀ : Heap} {L : Addr} {m : Str → Option Value} {s : Shared} {news : List (Addr × Obj)} {g : Obj → List (Addr × Obj)}
    {pen cells : Addr} {c r q : Int} {tc tr tq : Tok} {n : Nat} {tm : Tok} {Q E : Value → Shared → Prop}
    (hc : 0 ≤ c) (hr : 0 ≤ r) (hq : 0 ≤ q) (hc' : c ≤ 100000) (hq' : q ≤ 1008)
    (B : Below A₀ base outer h₀) (F : Fr h₀ L s.heap m) (X : (Mine.hd.heap_1 w.params).In h₀) (N : News h₀ L s.heap news) (U : UpdF pen (penObj cells c r q tc tr tq n) news g) (T : Top p loose mean mg mb h₀) (hk : cs.kind = .function)
    (hcells : CellsPre cells (hid s.heap [(pen, penObj cells c r q tc tr tq n)])) (hd : dp + 2 < recursionLimit) (hu : un + 30 < cLine)
    (r0 : ∀ td c' r' tc' tr' n' h' tk', Fr h₀ L h' m → News h₀ L h' (g (penObj cells c' r' q tc' tr' tq n')) → 0 ≤ c' → c' ≤ c + 1 → 0 ≤ r' → Q (.int 0 td) { s with heap := h', toks := tk' })
    (r1 : ∀ td c' r' tc' tr' n' h' tk', Fr h₀ L h' m → News h₀ L h' (g (penObj cells c' r' q tc' tr' tq n')) → 0 ≤ c' → c' ≤ c + 1 → 0 ≤ r' → Q (.int 1 td) { s with heap := h', toks := tk' })
    (r2 : ∀ td c' r' tc' tr' n' h' tk', Fr h₀ L h' m → News h₀ L h' (g (penObj cells c' r' q tc' tr' tq n')) → 0 ≤ c' → c' ≤ c + 1 → 0 ≤ r' → Q (.int 2 td) { s with heap := h', toks := tk' })
    (r3 : ∀ td c' r' tc' tr' n' h' tk', Fr h₀ L h' m → News h₀ L h' (g (penObj cells c' r' q tc' tr' tq n')) → 0 ≤ c' → c' ≤ c + 1 → 0 ≤ r' → Q (.int 3 td) { s with heap := h', toks := tk' }) :
    wpAny (model prog w) (ktrTop dp un gd cn cs L a ccd cl outer) (call (.ref 306) [.ref pen, .int 4 tm]) Q E s := by
  refine draw_use (by decide) (by decide) hc hr hq hc' hq' B F X N U T hk hcells hd hu fun d td c' r' tc' tr' n' h' tk' F' N' d1 c0 c1 rr => ?_
  have hd4 : d = 0 ∨ d = 1 ∨ d = 2 ∨ d = 3 := by omega
  rcases hd4 with rfl | rfl | rfl | rfl
  · exact r0 td c' r' tc' tr' n' h' tk' F' N' c0 c1 rr
  · exact r1 td c' r' tc' tr' n' h' tk' F' N' c0 c1 rr
  · exact r2 td c' r' tc' tr' n' h' tk' F' N' c0 c1 rr
  · exact r3 td c' r' tc' tr' n' h' tk' F' N' c0 c1 rr
theorem item_first {prog : Program} {w : World} {A : Around} {E : Value → Shared → Prop} {s : Shared} {h₀ : Heap} {L : Addr} {news : List (Addr × Obj)} {value slice : PySem.Expr} {l : Addr} {v : Value} {vs : List Value} {u : Tok} {Q : Value → Shared → Prop}
    (N : News h₀ L s.heap news) (hm : (l, LCg.lst (v :: vs)) ∈ news) (h : Q v s)
    (hs : subscripted slice false (.ref l) (.int 0 u) = operate [.ref l, .int 0 u] (getItem (.ref l) (.int 0 u)) := by with_unfolding_all rfl) :
    wpAny (model prog w) A (subscriptTail value slice (.ref l) (.int 0 u)) Q E s :=
  item_at (vs := v :: vs) (k := 0) ⟨_, (N _ hm).1, rfl, _, rfl⟩ (by decide) (by decide) rfl h hs

/-- in the ledger, and not the pen -/
abbrev inX (news : List (Addr × Obj)) (pen : Addr) : Addr → Obj → Prop := fun a o => (a, o) ∈ news ∧ @Ne Nat a pen
theorem partO_mk {w : World} {M : Addr → Obj → Prop} {x kl dx fl k dk ps : Addr} {a b : Str} {v : Value} {n n' : Nat} {s1 s2 s3 s4 s5 s6 s7 s8 t1 t2 t3 u6 r1 r2 r3 ra rb : Tok} (h1 : M x (instObj 288 dx))
    (h2 : M dx (dictOf [ent w "begin" s1 (.int 0 t1), ent w "body" s2 (.int 0 t2), ent w "end" s3 (.int 0 t3), ent w "fields" s4 (.ref fl), ent w "kind" s5 (.ref k), ent w "encoding" s6 (.str (Str.ofString "7bit") u6), ent w "kids" s7 (.ref kl), ent w "inner" s8 v] n))
    (h3 : M k (instObj 222 dk)) (h4 : M dk (dictOf [ent w "top" r1 (.str a ra), ent w "sub" r2 (.str b rb), ent w "params" r3 (.ref ps)] n')) : PartO w M x a b kl v :=
  ⟨dx, fl, k, dk, ps, n, n', s1, s2, s3, s4, s5, s6, s7, s8, t1, t2, t3, u6, r1, r2, r3, ra, rb, h1, h2, h3, h4⟩
theorem PartP.one' {w : World} {M : Addr → Obj → Prop} {x kl : Addr} {a b : Str} {v : Value} {t : TreeD} (h1 : PartO w M x a b kl .none) (h2 : M kl (LCg.lst [v])) (h3 : PartP w M v t) : PartP w M (.ref x) (.one a b t) := .one (n := 1) h1 h2 h3
theorem PartP.two' {w : World} {M : Addr → Obj → Prop} {x kl : Addr} {a b : Str} {v v' : Value} {t u : TreeD} (h1 : PartO w M x a b kl .none) (h2 : M kl (LCg.lst [v, v'])) (h3 : PartP w M v t) (h4 : PartP w M v' u) : PartP w M (.ref x) (.two a b t u) := .two (n := 2) h1 h2 h3 h4
theorem TreeP.one' {M : Addr → Obj → Prop} {y kl : Addr} {a b : Str} {tt : Tok} {v : Value} {t : TreeD} (h1 : M y (tupO [.str (kindS a b) tt, .ref kl, .none])) (h2 : M kl (LCg.lst [v])) (h3 : TreeP M v t) : TreeP M (.ref y) (.one a b t) := .one (n := 1) h1 h2 h3
theorem TreeP.two' {M : Addr → Obj → Prop} {y kl : Addr} {a b : Str} {tt : Tok} {v v' : Value} {t u : TreeD} (h1 : M y (tupO [.str (kindS a b) tt, .ref kl, .none])) (h2 : M kl (LCg.lst [v, v'])) (h3 : TreeP M v t) (h4 : TreeP M v' u) : TreeP M (.ref y) (.two a b t u) := .two (n := 2) h1 h2 h3 h4

theorem part_end {w : World} {g h' : Heap} {L' pen cells R x y : Addr} {s : Shared} {m' : Str → Option Value} {news : List (Addr × Obj)} {c q c' r' : Int} {tq tc' tr' : Tok} {n' tk deep : Nat} {T : TreeD} (F : Fr g L' h' m') (N : News g L' h' news) (mR : (R, tupO [.ref x, .ref y]) ∈ news) (mp : (pen, penObj cells c' r' q tc' tr' tq n') ∈ news)
    (hP : PartP w (inX news pen) (.ref x) T) (hT : TreeP (inX news pen) (.ref y) T) (hd : T.depth ≤ deep) (ho : T.Ok ∧ T.Sok) (k0 : 0 ≤ c') (k1 : c' ≤ c + drw deep) (k2 : 0 ≤ r') (hR : @Ne Nat R pen) : Fin g L' s (PartPost w pen cells c q tq deep) (.ref R) { s with heap := h', toks := tk } := by
  have up : ∀ a o, inX news pen a o → inN (news.filter fun p => !(Nat.beq p.1 pen)) a o := fun a o h => List.mem_filter.mpr ⟨h.1, by
    cases e : Nat.beq a pen with
    | false => simp [e]
    | true => exact absurd (Nat.eq_of_beq_eq_true e) h.2⟩
  have dn : ∀ p ∈ (news.filter fun p => !(Nat.beq p.1 pen)), p ∈ news ∧ p.1 ≠ pen := fun p hp => by
    obtain ⟨h1, h2⟩ := List.mem_filter.mp hp
    refine ⟨h1, fun e => ?_⟩
    have : Nat.beq p.1 pen = true := by rw [e]; exact Nat.beq_refl pen
    simp [this] at h2
  refine Fin.intro (own' := (R, tupO [.ref x, .ref y]) :: (pen, penObj cells c' r' q tc' tr' tq n') :: (news.filter fun p => !(Nat.beq p.1 pen))) F (fun p hp => N p ?_)
    ⟨R, .ref x, .ref y, T, c', r', tc', tr', n', _, rfl, rfl, hP.mono up, hT.mono up, hd, ho, k0, k1, k2, fun p hp => (dn p hp).2, hR⟩
  rcases List.mem_cons.mp hp with rfl | hp
  · exact mR
  rcases List.mem_cons.mp hp with rfl | hp
  · exact mp
  · exact (dn p hp).1
theorem inX_of {E news news' : List (Addr × Obj)} {pen : Addr} {o : Obj} (h : NeAll E news) (hm : (pen, o) ∈ news) (hs : ∀ p ∈ E, p ∈ news') : ∀ a o, inN E a o → inX news' pen a o := fun a o' hx => ⟨hs _ hx, h _ hx _ hm⟩
end Mine
end
-- LPart0
section
open PySem PySem.W PyProof.Rows PySem.Calls PySem.Spec
namespace Mine

section
set_option maxHeartbeats 16000000 in
theorem law_part0 (prog : Program) (w : World) (pen cells : Addr) (c r q : Int) (tc tr tq td : Tok) (n : Nat)
    (hc : 0 ≤ c) (hc' : c + drw 0 ≤ 50000) (hr : 0 ≤ r) (hq : 0 ≤ q) (hq' : q ≤ 1008) :
    Spec prog w 311 [.ref pen, .int 0 td] 12 900 [(pen, penObj cells c r q tc tr tq n)] (CellsPre cells) (PartPost w pen cells c q tq 0) := by
  k_with_none
  (k_with "cj" => (first | exact fun h => h.1 | exact fun h => h.2.1 | exact fun h => h.2.2.1 | exact fun h => h.2.2.2.1 | exact fun h => h.2.2.2.2.1 | exact fun h => h.2.2.2.2.2.1 | exact fun h => h.2.2.2.2.2.2.1 | exact fun h => h.2.2.2.2.2.2.2.1 | exact fun h => h.2.2.2.2.2.2.2.2.1 | exact fun h => h.2.2.2.2.2.2.2.2.2.1 | exact fun h => h.2.2.2.2.2.2.2.2.2.2.1 | exact fun h => h.2.2.2.2.2.2.2.2.2.2.2.1 | exact fun h => h.2.2.2.2.2.2.2.2.2.2.2.2.1 | exact fun h => h.2.2.2.2.2.2.2.2.2.2.2.2.2.1 | exact fun h => h.2 | exact fun h => h.2.2 | exact fun h => h.2.2.2 | exact fun h => h.2.2.2.2 | exact fun h => h.2.2.2.2.2 | exact fun h => h.2.2.2.2.2.2 | exact fun h => h.2.2.2.2.2.2.2 | exact fun h => h.2.2.2.2.2.2.2.2 | exact fun h => h.2.2.2.2.2.2.2.2.2 | exact fun h => h.2.2.2.2.2.2.2.2.2.2 | exact fun h => h.2.2.2.2.2.2.2.2.2.2.2 | exact fun h => h.2.2.2.2.2.2.2.2.2.2.2.2 | exact fun h => h.2.2.2.2.2.2.2.2.2.2.2.2.2))
  (k_with "omega" => (with_reducible first | assumption | exact Nat.le_of_ble_eq_true (by decide) | exact Nat.ne_of_gt (by assumption) | exact Nat.ne_of_lt (by assumption) | exact Mine.lm1 (by assumption) (by decide) | exact Mine.lm2 (by assumption) (by decide) | exact Mine.lm3 (by assumption) (by decide) | exact Mine.lm4 (by assumption) (by decide) | exact Mine.lm5 (by assumption) (by decide) | exact Mine.lm6 (by assumption) (by decide) | exact Mine.lm7 (by assumption) (by decide) | exact Mine.lm8 (by assumption) (by decide) | exact Mine.lm9 (by assumption) (by decide) | exact Int.natCast_nonneg _ | (refine Mine.cj1 (by assumption) ?_; k_extra "cj") | (refine Mine.cj2 (by assumption) ?_; k_extra "cj") | (refine Mine.cj3 (by assumption) ?_; k_extra "cj") | (refine Mine.cj4 (by assumption) ?_; k_extra "cj") | (refine Mine.cj5 (by assumption) (by assumption) ?_; k_extra "cj") | (refine Mine.cj6 (by assumption) (by assumption) ?_; k_extra "cj") | (refine Mine.cj7 (by assumption) (by assumption) (by assumption) ?_; k_extra "cj") | (refine Mine.cj8 (by assumption) (by assumption) (by assumption) ?_; k_extra "cj") | exact Mine.cj9 (by assumption) (by assumption) | exact Mine.cj10 (by assumption) (by assumption) | (refine Mine.cl1 (by assumption) ?_; k_extra "cj") | (refine Mine.cl2 (by assumption) (by assumption) ?_; k_extra "cj") | exact Mine.ns1 (by assumption) | exact Mine.ns2 (by assumption) | exact Mine.ns3 | exact Mine.ns4 | exact Mine.lm10 (by assumption) (by decide) | exact Mine.lm11 (by assumption) (by decide) | exact Mine.lm12 (by assumption) (by assumption) (by decide) | exact Mine.lm12 (by assumption) (Nat.le_refl _) (by decide) | exact Mine.lm13 (by assumption) (by assumption) (by decide) | exact Mine.lm13 (by assumption) (Nat.le_refl _) (by decide) | fail))
  (k_with "call ref" => (k_here; (with_reducible show wpAny _ _ (call (Value.ref 306) [Value.ref _, Value.int _ _]) _ _ _); k_dflt (refine' draw_use (by decide) (by decide) ?y1r75 ?y2r75 ?y3r75 ?y4r75 ?y5r75 (by assumption) (by assumption) (by assumption) (by assumption) ?zUr75 (by assumption) (by rfl) ?z2r75 ?z3r75 ?z4r75 ?_); (case zUr75 => k_updF); (case y1r75 => omega); (case y2r75 => omega); (case y3r75 => omega); (case y4r75 => omega); (case y5r75 => omega); (case z2r75 => exact CellsPre.hid (by assumption) (by assumption) (news_at (by assumption) (by k_updF))); (case z3r75 => omega); (case z4r75 => omega); intro d' td' c' r' tc' tr' n' h' tk' F' N' d1 c0 c1 r0; (try dsimp only at N'); (try k_sweep)))
  (k_with "subscriptTail Name Call ref int" => (k_here; (with_unfolding_all refine' kind_item ?k1r76 ?k2r76 ?k3r76 ?_ ?k6r76; (case k1r76 => assumption); (case k2r76 => assumption); (case k3r76 => assumption); (case k6r76 => with_unfolding_all rfl); k_whole); intro x' tx' hx'))
  (k_with "call builtin:str.split" => (k_here; k_dflt (refine split_kind (by assumption) (by assumption) (by assumption) ?_); intro D' a' b' ta' tb' h' k' ha' hb' hsa' hsb' F' N' l1; (try k_lt l1); (try k_sweep)))
  (k_with "call ref" => (k_here; (with_reducible show wpAny _ _ (call (Value.ref 222) [Value.str _ _, Value.str _ _, Value.ref _]) _ _ _); k_dflt (refine' kind_make (by assumption) (by assumption) (by assumption) (by assumption) (by assumption) (by rfl) ?z3r78 ?z4r78 ?_); (case z3r78 => omega); (case z4r78 => omega); intro k dk t1 t2 t3 n h' tk' F' N' l1 l2; (k_lt l1); (try k_sweep)))
  (k_with "call ref" => (k_here; (with_reducible show wpAny _ _ (call (Value.ref 288) [Value.int _ _, Value.int _ _, Value.int _ _, Value.ref _, Value.ref _]) _ _ _); k_dflt (refine' part_make ?zmr79 (by assumption) (by assumption) (by assumption) (by assumption) (by assumption) (by rfl) ?z3r79 ?z4r79 ?_); (case zmr79 => k_mem); (case z3r79 => omega); (case z4r79 => omega); intro x dx kl s1 s2 s3 s4 s5 s6 s7 s8 u6 h' tk' F' N' l1 l2 l3; (k_lt l1); (try k_sweep)))
  refine spec_ofC [("pen", .ref pen), ("deep", .int 0 td)] (by k_is) (by k_is) (fun s _ => BindsTo.of_eq rfl) (by rfl) (by decide +kernel) ?_ (by decide)
  rintro p loose mean mg mb dp un gd outer A₀ base g L' cells' s B' F' N' Y' X' T' hcp hdp hun hlt
  k_fold
  k_cells Y'
  simp only [List.cons_append, List.nil_append] at N'
  have hlt' : @LT.lt Nat _ pen L' := hlt _ (List.mem_singleton.mpr rfl)
  have hdr : drw 0 = 1 := rfl
  k_steps
  · refine' part_end (T := TreeD.leaf _ _) (by assumption) (by assumption) ?mR ?mp (PartP.leaf (partO_mk ?m1 ?m2 ?m3 ?m4) ?m5) (TreeP.leaf ?m6 ?m7) ?hd ?ho ?k0 ?k1 ?k2 ?hR
    case mR => k_mem
    case m1 => (refine' And.intro ?q1 ?q2; (case q1 => k_mem); (case q2 => (first | omega | exact neMem (by assumption) (by k_mem))))
    case m2 => (refine' And.intro ?q1 ?q2; (case q1 => k_mem); (case q2 => (first | omega | exact neMem (by assumption) (by k_mem))))
    case m3 => (refine' And.intro ?q1 ?q2; (case q1 => k_mem); (case q2 => (first | omega | exact neMem (by assumption) (by k_mem))))
    case m4 => (refine' And.intro ?q1 ?q2; (case q1 => k_mem); (case q2 => (first | omega | exact neMem (by assumption) (by k_mem))))
    case m5 => (refine' And.intro ?q1 ?q2; (case q1 => k_mem); (case q2 => (first | omega | exact neMem (by assumption) (by k_mem))))
    case m6 => (refine' And.intro ?q1 ?q2; (case q1 => k_mem); (case q2 => (first | omega | exact neMem (by assumption) (by k_mem))))
    case m7 => (refine' And.intro ?q1 ?q2; (case q1 => k_mem); (case q2 => (first | omega | exact neMem (by assumption) (by k_mem))))
    case mp => k_mem
    case hd => exact Nat.zero_le _
    case ho => exact ⟨⟨by assumption, by assumption⟩, by assumption, by assumption⟩
    case k0 => omega
    case k1 => omega
    case k2 => omega
    case hR => (first | omega | exact neMem (by assumption) (by k_mem))
end
end Mine
end
-- LPart1
section
open PySem PySem.W PyProof.Rows PySem.Calls PySem.Spec
namespace Mine

section
set_option maxHeartbeats 16000000 in
theorem law_part1 (prog : Program) (w : World) (d : Nat) (S : PartSpec prog w d) (hd3 : d < 3) (pen cells : Addr) (c r q dz : Int) (tc tr tq td : Tok) (n : Nat) (hdz : dz = (d + 1 : Nat))
    (hc : 0 ≤ c) (hc' : c + drw (d + 1) ≤ 50000) (hr : 0 ≤ r) (hq : 0 ≤ q) (hq' : q ≤ 1008) :
    Spec prog w 311 [.ref pen, .int dz td] (12 + 2 * (d + 1)) (900 + 20 * (d + 1)) [(pen, penObj cells c r q tc tr tq n)] (CellsPre cells) (PartPost w pen cells c q tq (d + 1)) := by
  k_with_none
  (k_with "cj" => (first | exact fun h => h.1 | exact fun h => h.2.1 | exact fun h => h.2.2.1 | exact fun h => h.2.2.2.1 | exact fun h => h.2.2.2.2.1 | exact fun h => h.2.2.2.2.2.1 | exact fun h => h.2.2.2.2.2.2.1 | exact fun h => h.2.2.2.2.2.2.2.1 | exact fun h => h.2.2.2.2.2.2.2.2.1 | exact fun h => h.2.2.2.2.2.2.2.2.2.1 | exact fun h => h.2.2.2.2.2.2.2.2.2.2.1 | exact fun h => h.2.2.2.2.2.2.2.2.2.2.2.1 | exact fun h => h.2.2.2.2.2.2.2.2.2.2.2.2.1 | exact fun h => h.2.2.2.2.2.2.2.2.2.2.2.2.2.1 | exact fun h => h.2 | exact fun h => h.2.2 | exact fun h => h.2.2.2 | exact fun h => h.2.2.2.2 | exact fun h => h.2.2.2.2.2 | exact fun h => h.2.2.2.2.2.2 | exact fun h => h.2.2.2.2.2.2.2 | exact fun h => h.2.2.2.2.2.2.2.2 | exact fun h => h.2.2.2.2.2.2.2.2.2 | exact fun h => h.2.2.2.2.2.2.2.2.2.2 | exact fun h => h.2.2.2.2.2.2.2.2.2.2.2 | exact fun h => h.2.2.2.2.2.2.2.2.2.2.2.2 | exact fun h => h.2.2.2.2.2.2.2.2.2.2.2.2.2))
  (k_with "omega" => (with_reducible first | assumption | exact Nat.le_of_ble_eq_true (by decide) | exact Nat.ne_of_gt (by assumption) | exact Nat.ne_of_lt (by assumption) | exact Mine.lm1 (by assumption) (by decide) | exact Mine.lm2 (by assumption) (by decide) | exact Mine.lm3 (by assumption) (by decide) | exact Mine.lm4 (by assumption) (by decide) | exact Mine.lm5 (by assumption) (by decide) | exact Mine.lm6 (by assumption) (by decide) | exact Mine.lm7 (by assumption) (by decide) | exact Mine.lm8 (by assumption) (by decide) | exact Mine.lm9 (by assumption) (by decide) | exact Int.natCast_nonneg _ | (refine Mine.cj1 (by assumption) ?_; k_extra "cj") | (refine Mine.cj2 (by assumption) ?_; k_extra "cj") | (refine Mine.cj3 (by assumption) ?_; k_extra "cj") | (refine Mine.cj4 (by assumption) ?_; k_extra "cj") | (refine Mine.cj5 (by assumption) (by assumption) ?_; k_extra "cj") | (refine Mine.cj6 (by assumption) (by assumption) ?_; k_extra "cj") | (refine Mine.cj7 (by assumption) (by assumption) (by assumption) ?_; k_extra "cj") | (refine Mine.cj8 (by assumption) (by assumption) (by assumption) ?_; k_extra "cj") | exact Mine.cj9 (by assumption) (by assumption) | exact Mine.cj10 (by assumption) (by assumption) | (refine Mine.cl1 (by assumption) ?_; k_extra "cj") | (refine Mine.cl2 (by assumption) (by assumption) ?_; k_extra "cj") | exact Mine.ns1 (by assumption) | exact Mine.ns2 (by assumption) | exact Mine.ns3 | exact Mine.ns4 | exact Mine.lm10 (by assumption) (by decide) | exact Mine.lm11 (by assumption) (by decide) | exact Mine.lm12 (by assumption) (by assumption) (by decide) | exact Mine.lm12 (by assumption) (Nat.le_refl _) (by decide) | exact Mine.lm13 (by assumption) (by assumption) (by decide) | exact Mine.lm13 (by assumption) (Nat.le_refl _) (by decide) | fail))
  (k_with "k_all" => first | assumption | exact NeAll.of (by assumption) (by k_mem))
  (k_with "call ref" => (k_here; (with_reducible show wpAny _ _ (call (Value.ref 306) [Value.ref _, Value.int _ _]) _ _ _); k_dflt (refine' draw_use (by decide) (by decide) ?y1r81 ?y2r81 ?y3r81 ?y4r81 ?y5r81 (by assumption) (by assumption) (by assumption) (by assumption) ?zUr81 (by assumption) (by rfl) ?z2r81 ?z3r81 ?z4r81 ?_); (case zUr81 => k_updF); (case y1r81 => omega); (case y2r81 => omega); (case y3r81 => omega); (case y4r81 => omega); (case y5r81 => omega); (case z2r81 => exact CellsPre.hid (by assumption) (by assumption) (news_at (by assumption) (by k_updF))); (case z3r81 => omega); (case z4r81 => omega); intro d' td' c' r' tc' tr' n' h' tk' F' N' d1 c0 c1 r0; (try dsimp only at N'); (try k_sweep)))
  (k_with "subscriptTail Name Call ref int" => (k_here; (with_unfolding_all refine' kind_item ?k1r82 ?k2r82 ?k3r82 ?_ ?k6r82; (case k1r82 => assumption); (case k2r82 => assumption); (case k3r82 => assumption); (case k6r82 => with_unfolding_all rfl); k_whole); intro x' tx' hx'))
  (k_with "call builtin:str.split" => (k_here; k_dflt (refine split_kind (by assumption) (by assumption) (by assumption) ?_); intro D' a' b' ta' tb' h' k' ha' hb' hsa' hsb' F' N' l1; (try k_lt l1); (try k_sweep)))
  (k_with "call ref" => (k_here; (with_reducible show wpAny _ _ (call (Value.ref 222) [Value.str _ _, Value.str _ _, Value.ref _]) _ _ _); k_dflt (refine' kind_make (by assumption) (by assumption) (by assumption) (by assumption) (by assumption) (by rfl) ?z3r84 ?z4r84 ?_); (case z3r84 => omega); (case z4r84 => omega); intro k dk t1 t2 t3 n h' tk' F' N' l1 l2; (k_lt l1); (try k_sweep)))
  (k_with "call ref" => (k_here; (with_reducible show wpAny _ _ (call (Value.ref 288) [Value.int _ _, Value.int _ _, Value.int _ _, Value.ref _, Value.ref _]) _ _ _); k_dflt (refine' part_make ?zmr85 (by assumption) (by assumption) (by assumption) (by assumption) (by assumption) (by rfl) ?z3r85 ?z4r85 ?_); (case zmr85 => k_mem); (case z3r85 => omega); (case z4r85 => omega); intro x dx kl s1 s2 s3 s4 s5 s6 s7 s8 u6 h' tk' F' N' l1 l2 l3; (k_lt l1); (try k_sweep)))
  (k_with "exec Assign cons ListComp" => (k_here; k_dflt (refine comp_assignF (by assumption) (by rfl) (by with_unfolding_all rfl) (by with_unfolding_all rfl) (by decide) (by rfl) (by decide) (by rfl) (by rfl) ?_)))
  (k_with "eval ListComp" => (k_here; k_dflt (refine comp_evalF (by assumption) (by with_unfolding_all rfl) (by decide) (by rfl) (by decide) ?_)))
  (k_with "pyIter ref" => (k_here; first
  | (k_dflt (refine' range_parts2 (by assumption) ?c0r88 ?c1r88 ?c2r88 ?c3r88 ?c4r88 ?c5r88 ?c6r88 ?c7r88 ?c8r88 (by assumption) (by assumption) (by assumption) (by assumption) ?zUr88 (by assumption) (by assumption) (by rfl) (by assumption) (by rfl) (by rfl) (by rfl) (fun _ => by rfl) (fun _ => by rfl) (fun _ => by rfl) (fun _ => by rfl) (by rfl) (by rfl) ?m1r88 ?m2r88 ?m3r88 ?m4r88 ?m5r88 ?m6r88 (fun D R x y t h tk c' r' tc' tr' n' E F' N' nD nE nR hE hP hT hO c0 c1 r0 => ?_) (fun D R R2 x y x2 y2 t t2 h tk c' r' tc' tr' n' E F' N' nD nE nR nR2 hE hP hT hP2 hT2 hO hO2 c0 c1 r0 => ?_)); (case m1r88 => k_mem); (case m2r88 => k_mem); (case m3r88 => (refine Eq.trans (by assumption) ?_; rfl)); (case m4r88 => (refine Eq.trans (by assumption) ?_; rfl)); (case zUr88 => k_updF); (case c0r88 => omega); (case c1r88 => omega); (case c2r88 => omega); (case c3r88 => omega); (case c4r88 => omega); (case c5r88 => omega); (case c6r88 => omega); (case c7r88 => omega); (case c8r88 => omega); (case m5r88 => omega); (case m6r88 => omega);
     (all_goals (clear nE)); (all_goals (try dsimp only at N')); (all_goals (simp only [List.cons_append, List.nil_append] at N')); (all_goals (try k_sweep)))
  | (k_dflt (refine' iter_pairs1 (by rfl) ?l1r88 ?l2r88 (by rfl) (by rfl) (by rfl) (fun _ => by rfl) ?l3r88 (by assumption) (by assumption) ?_); (case l1r88 => is_list); (case l2r88 => exact News.isTup (by assumption) (by k_mem)); (case l3r88 => first | exact .inl ⟨rfl, rfl⟩ | exact .inr ⟨rfl, rfl⟩); intro D h' tk' F' N' nD; (try dsimp only); (try k_sweep))
  | (k_dflt (refine' iter_pairs2 (by rfl) ?l1r88 ?l2r88 ?l4r88 (by rfl) (by rfl) (by rfl) (fun _ => by rfl) ?l3r88 (by assumption) (by assumption) ?_); (case l1r88 => is_list); (case l2r88 => exact News.isTup (by assumption) (by k_mem)); (case l4r88 => exact News.isTup (by assumption) (by k_mem)); (case l3r88 => first | exact .inl ⟨rfl, rfl, rfl⟩ | exact .inr ⟨rfl, rfl, rfl⟩); intro D h' tk' F' N' nD; (try dsimp only); (try k_sweep))))
  (k_with "k_ne" => first | exact neMem (by assumption) (by k_mem) | fail "neMem")
  (k_with "exec Assign cons ListComp" => ((with_reducible show wpAny _ _ (exec (Stmt.Assign [Expr.Attribute _ _ _] _ _) _) _ _ _); k_here; (with_reducible refine plainObj_wpAny_Assign_Attribute ?_ ?_); rotate_left; with_unfolding_all rfl))
  (k_with "subscriptTail Name Constant ref int" => (k_here; (with_reducible show wpAny _ _ (subscriptTail _ _ (Value.ref _) (Value.int 0 _)) _ _ _); (k_dflt (refine' item_first (by assumption) ?k1r91 ?_ ?k6r91)); (case k1r91 => k_mem); (case k6r91 => with_unfolding_all rfl)))
  (k_with "call ref" => (k_here; (with_reducible show wpAny _ _ (call (Value.ref 306) [Value.ref _, Value.int 4 _]) _ _ _); k_dflt (refine' draw4_use ?y1r92 ?y2r92 ?y3r92 ?y4r92 ?y5r92 (by assumption) (by assumption) (by assumption) (by assumption) ?zUr92 (by assumption) (by rfl) ?z2r92 ?z3r92 ?z4r92 ?x0r92 ?x1r92 ?x2r92 ?x3r92); (case zUr92 => k_updF); (case y1r92 => omega); (case y2r92 => omega); (case y3r92 => omega); (case y4r92 => omega); (case y5r92 => omega); (case z2r92 => exact CellsPre.hid (by assumption) (by assumption) (news_at (by assumption) (by k_updF))); (case z3r92 => omega); (case z4r92 => omega); (case' x0r92 => (intro td' c' r' tc' tr' n' h' tk' F' N' c0 c1 r0; (try dsimp only at N'); (try k_sweep))); (case' x1r92 => (intro td' c' r' tc' tr' n' h' tk' F' N' c0 c1 r0; (try dsimp only at N'); (try k_sweep))); (case' x2r92 => (intro td' c' r' tc' tr' n' h' tk' F' N' c0 c1 r0; (try dsimp only at N'); (try k_sweep))); (case' x3r92 => (intro td' c' r' tc' tr' n' h' tk' F' N' c0 c1 r0; (try dsimp only at N'); (try k_sweep)))))
  refine spec_ofC [("pen", .ref pen), ("deep", .int dz td)] (by k_is) (by k_is) (fun s _ => BindsTo.of_eq rfl) (by rfl) (by decide +kernel) ?_ (by omega)
  rintro p loose mean mg mb dp un gd outer A₀ base g L' cells' s B' F' N' Y' X' T' hcp hdp hun hlt
  k_fold
  k_cells Y'
  simp only [List.cons_append, List.nil_append] at N'
  have hlt' : @LT.lt Nat _ pen L' := hlt _ (List.mem_singleton.mpr rfl)
  have hdr : drw (d + 1) = 3 + 2 * drw d := rfl
  k_steps
  · refine' part_end (T := TreeD.inn _ _ _) (by assumption) (by assumption) ?mR ?mp (PartP.inn (partO_mk ?m1 ?m2 ?m3 ?m4) ?m5 ?p1) (TreeP.inn ?m6 ?m7 ?p2) ?hd ?ho ?k0 ?k1 ?k2 ?hR
    case mR => k_mem
    case m1 => (refine' And.intro ?q1 ?q2; (case q1 => k_mem); (case q2 => (first | omega | exact neMem (by assumption) (by k_mem))))
    case m2 => (refine' And.intro ?q1 ?q2; (case q1 => k_mem); (case q2 => (first | omega | exact neMem (by assumption) (by k_mem))))
    case m3 => (refine' And.intro ?q1 ?q2; (case q1 => k_mem); (case q2 => (first | omega | exact neMem (by assumption) (by k_mem))))
    case m4 => (refine' And.intro ?q1 ?q2; (case q1 => k_mem); (case q2 => (first | omega | exact neMem (by assumption) (by k_mem))))
    case m5 => (refine' And.intro ?q1 ?q2; (case q1 => k_mem); (case q2 => (first | omega | exact neMem (by assumption) (by k_mem))))
    case m6 => (refine' And.intro ?q1 ?q2; (case q1 => k_mem); (case q2 => (first | omega | exact neMem (by assumption) (by k_mem))))
    case m7 => (refine' And.intro ?q1 ?q2; (case q1 => k_mem); (case q2 => (first | omega | exact neMem (by assumption) (by k_mem))))
    case mp => k_mem
    case p1 => (refine' PartP.mono ?h1 ?h2; (case h1 => assumption); (case h2 => (refine' inX_of (by assumption) ?h3 ?h4; (case h3 => k_mem); (case h4 => (intro p' hp'; repeat' (first | exact hp' | apply List.mem_cons_of_mem))))))
    case p2 => (refine' TreeP.mono ?h1 ?h2; (case h1 => assumption); (case h2 => (refine' inX_of (by assumption) ?h3 ?h4; (case h3 => k_mem); (case h4 => (intro p' hp'; repeat' (first | exact hp' | apply List.mem_cons_of_mem))))))
    case hd => exact Nat.succ_le_succ (And.left (by assumption))
    case ho => exact ⟨⟨⟨by assumption, by assumption⟩, And.left (And.right (by assumption))⟩, ⟨by assumption, by assumption⟩, And.right (And.right (by assumption))⟩
    case k0 => omega
    case k1 => omega
    case k2 => omega
    case hR => (first | omega | exact neMem (by assumption) (by k_mem))
  · refine' part_end (T := TreeD.inn _ _ _) (by assumption) (by assumption) ?mR ?mp (PartP.inn (partO_mk ?m1 ?m2 ?m3 ?m4) ?m5 ?p1) (TreeP.inn ?m6 ?m7 ?p2) ?hd ?ho ?k0 ?k1 ?k2 ?hR
    case mR => k_mem
    case m1 => (refine' And.intro ?q1 ?q2; (case q1 => k_mem); (case q2 => (first | omega | exact neMem (by assumption) (by k_mem))))
    case m2 => (refine' And.intro ?q1 ?q2; (case q1 => k_mem); (case q2 => (first | omega | exact neMem (by assumption) (by k_mem))))
    case m3 => (refine' And.intro ?q1 ?q2; (case q1 => k_mem); (case q2 => (first | omega | exact neMem (by assumption) (by k_mem))))
    case m4 => (refine' And.intro ?q1 ?q2; (case q1 => k_mem); (case q2 => (first | omega | exact neMem (by assumption) (by k_mem))))
    case m5 => (refine' And.intro ?q1 ?q2; (case q1 => k_mem); (case q2 => (first | omega | exact neMem (by assumption) (by k_mem))))
    case m6 => (refine' And.intro ?q1 ?q2; (case q1 => k_mem); (case q2 => (first | omega | exact neMem (by assumption) (by k_mem))))
    case m7 => (refine' And.intro ?q1 ?q2; (case q1 => k_mem); (case q2 => (first | omega | exact neMem (by assumption) (by k_mem))))
    case mp => k_mem
    case p1 => (refine' PartP.mono ?h1 ?h2; (case h1 => assumption); (case h2 => (refine' inX_of (by assumption) ?h3 ?h4; (case h3 => k_mem); (case h4 => (intro p' hp'; repeat' (first | exact hp' | apply List.mem_cons_of_mem))))))
    case p2 => (refine' TreeP.mono ?h1 ?h2; (case h1 => assumption); (case h2 => (refine' inX_of (by assumption) ?h3 ?h4; (case h3 => k_mem); (case h4 => (intro p' hp'; repeat' (first | exact hp' | apply List.mem_cons_of_mem))))))
    case hd => exact Nat.succ_le_succ (And.left (by assumption))
    case ho => exact ⟨⟨⟨by assumption, by assumption⟩, And.left (And.right (by assumption))⟩, ⟨by assumption, by assumption⟩, And.right (And.right (by assumption))⟩
    case k0 => omega
    case k1 => omega
    case k2 => omega
    case hR => (first | omega | exact neMem (by assumption) (by k_mem))
  · refine' part_end (T := TreeD.one _ _ _) (by assumption) (by assumption) ?mR ?mp (PartP.one' (partO_mk ?m1 ?m2 ?m3 ?m4) ?m5 ?p1) (TreeP.one' ?m6 ?m7 ?p2) ?hd ?ho ?k0 ?k1 ?k2 ?hR
    case mR => k_mem
    case m1 => (refine' And.intro ?q1 ?q2; (case q1 => k_mem); (case q2 => (first | omega | exact neMem (by assumption) (by k_mem))))
    case m2 => (refine' And.intro ?q1 ?q2; (case q1 => k_mem); (case q2 => (first | omega | exact neMem (by assumption) (by k_mem))))
    case m3 => (refine' And.intro ?q1 ?q2; (case q1 => k_mem); (case q2 => (first | omega | exact neMem (by assumption) (by k_mem))))
    case m4 => (refine' And.intro ?q1 ?q2; (case q1 => k_mem); (case q2 => (first | omega | exact neMem (by assumption) (by k_mem))))
    case m5 => (refine' And.intro ?q1 ?q2; (case q1 => k_mem); (case q2 => (first | omega | exact neMem (by assumption) (by k_mem))))
    case m6 => (refine' And.intro ?q1 ?q2; (case q1 => k_mem); (case q2 => (first | omega | exact neMem (by assumption) (by k_mem))))
    case m7 => (refine' And.intro ?q1 ?q2; (case q1 => k_mem); (case q2 => (first | omega | exact neMem (by assumption) (by k_mem))))
    case mp => k_mem
    case p1 => (refine' PartP.mono ?h1 ?h2; (case h1 => assumption); (case h2 => (refine' inX_of (by assumption) ?h3 ?h4; (case h3 => k_mem); (case h4 => (intro p' hp'; repeat' (first | exact hp' | apply List.mem_cons_of_mem))))))
    case p2 => (refine' TreeP.mono ?h1 ?h2; (case h1 => assumption); (case h2 => (refine' inX_of (by assumption) ?h3 ?h4; (case h3 => k_mem); (case h4 => (intro p' hp'; repeat' (first | exact hp' | apply List.mem_cons_of_mem))))))
    case hd => exact Nat.succ_le_succ (And.left (by assumption))
    case ho => exact ⟨⟨⟨by assumption, by assumption⟩, And.left (And.right (by assumption))⟩, ⟨by assumption, by assumption⟩, And.right (And.right (by assumption))⟩
    case k0 => omega
    case k1 => omega
    case k2 => omega
    case hR => (first | omega | exact neMem (by assumption) (by k_mem))
  · refine' part_end (T := TreeD.two _ _ _ _) (by assumption) (by assumption) ?mR ?mp (PartP.two' (partO_mk ?m1 ?m2 ?m3 ?m4) ?m5 ?p1 ?p3) (TreeP.two' ?m6 ?m7 ?p2 ?p4) ?hd ?ho ?k0 ?k1 ?k2 ?hR
    case mR => k_mem
    case m1 => (refine' And.intro ?q1 ?q2; (case q1 => k_mem); (case q2 => (first | omega | exact neMem (by assumption) (by k_mem))))
    case m2 => (refine' And.intro ?q1 ?q2; (case q1 => k_mem); (case q2 => (first | omega | exact neMem (by assumption) (by k_mem))))
    case m3 => (refine' And.intro ?q1 ?q2; (case q1 => k_mem); (case q2 => (first | omega | exact neMem (by assumption) (by k_mem))))
    case m4 => (refine' And.intro ?q1 ?q2; (case q1 => k_mem); (case q2 => (first | omega | exact neMem (by assumption) (by k_mem))))
    case m5 => (refine' And.intro ?q1 ?q2; (case q1 => k_mem); (case q2 => (first | omega | exact neMem (by assumption) (by k_mem))))
    case m6 => (refine' And.intro ?q1 ?q2; (case q1 => k_mem); (case q2 => (first | omega | exact neMem (by assumption) (by k_mem))))
    case m7 => (refine' And.intro ?q1 ?q2; (case q1 => k_mem); (case q2 => (first | omega | exact neMem (by assumption) (by k_mem))))
    case mp => k_mem
    case p1 => (refine' PartP.mono ?h1 ?h2; (case h1 => assumption); (case h2 => (refine' inX_of (by assumption) ?h3 ?h4; (case h3 => k_mem); (case h4 => (intro p' hp'; repeat' (first | exact hp' | apply List.mem_cons_of_mem))))))
    case p3 => (refine' PartP.mono ?h1 ?h2; (case h1 => assumption); (case h2 => (refine' inX_of (by assumption) ?h3 ?h4; (case h3 => k_mem); (case h4 => (intro p' hp'; repeat' (first | exact hp' | apply List.mem_cons_of_mem))))))
    case p2 => (refine' TreeP.mono ?h1 ?h2; (case h1 => assumption); (case h2 => (refine' inX_of (by assumption) ?h3 ?h4; (case h3 => k_mem); (case h4 => (intro p' hp'; repeat' (first | exact hp' | apply List.mem_cons_of_mem))))))
    case p4 => (refine' TreeP.mono ?h1 ?h2; (case h1 => assumption); (case h2 => (refine' inX_of (by assumption) ?h3 ?h4; (case h3 => k_mem); (case h4 => (intro p' hp'; repeat' (first | exact hp' | apply List.mem_cons_of_mem))))))
    case hd => exact Nat.succ_le_succ (Nat.max_le.mpr ⟨And.left (by assumption), And.left (by assumption)⟩)
    case ho => exact ⟨⟨⟨by assumption, by assumption⟩, And.left (And.right (by assumption)), And.left (And.right (by assumption))⟩, ⟨by assumption, by assumption⟩, And.right (And.right (by assumption)), And.right (And.right (by assumption))⟩
    case k0 => omega
    case k1 => omega
    case k2 => omega
    case hR => (first | omega | exact neMem (by assumption) (by k_mem))
  · refine' part_end (T := TreeD.leaf _ _) (by assumption) (by assumption) ?mR ?mp (PartP.leaf (partO_mk ?m1 ?m2 ?m3 ?m4) ?m5) (TreeP.leaf ?m6 ?m7) ?hd ?ho ?k0 ?k1 ?k2 ?hR
    case mR => k_mem
    case m1 => (refine' And.intro ?q1 ?q2; (case q1 => k_mem); (case q2 => (first | omega | exact neMem (by assumption) (by k_mem))))
    case m2 => (refine' And.intro ?q1 ?q2; (case q1 => k_mem); (case q2 => (first | omega | exact neMem (by assumption) (by k_mem))))
    case m3 => (refine' And.intro ?q1 ?q2; (case q1 => k_mem); (case q2 => (first | omega | exact neMem (by assumption) (by k_mem))))
    case m4 => (refine' And.intro ?q1 ?q2; (case q1 => k_mem); (case q2 => (first | omega | exact neMem (by assumption) (by k_mem))))
    case m5 => (refine' And.intro ?q1 ?q2; (case q1 => k_mem); (case q2 => (first | omega | exact neMem (by assumption) (by k_mem))))
    case m6 => (refine' And.intro ?q1 ?q2; (case q1 => k_mem); (case q2 => (first | omega | exact neMem (by assumption) (by k_mem))))
    case m7 => (refine' And.intro ?q1 ?q2; (case q1 => k_mem); (case q2 => (first | omega | exact neMem (by assumption) (by k_mem))))
    case mp => k_mem
    case hd => exact Nat.zero_le _
    case ho => exact ⟨⟨by assumption, by assumption⟩, by assumption, by assumption⟩
    case k0 => omega
    case k1 => omega
    case k2 => omega
    case hR => (first | omega | exact neMem (by assumption) (by k_mem))
  · refine' part_end (T := TreeD.leaf _ _) (by assumption) (by assumption) ?mR ?mp (PartP.leaf (partO_mk ?m1 ?m2 ?m3 ?m4) ?m5) (TreeP.leaf ?m6 ?m7) ?hd ?ho ?k0 ?k1 ?k2 ?hR
    case mR => k_mem
    case m1 => (refine' And.intro ?q1 ?q2; (case q1 => k_mem); (case q2 => (first | omega | exact neMem (by assumption) (by k_mem))))
    case m2 => (refine' And.intro ?q1 ?q2; (case q1 => k_mem); (case q2 => (first | omega | exact neMem (by assumption) (by k_mem))))
    case m3 => (refine' And.intro ?q1 ?q2; (case q1 => k_mem); (case q2 => (first | omega | exact neMem (by assumption) (by k_mem))))
    case m4 => (refine' And.intro ?q1 ?q2; (case q1 => k_mem); (case q2 => (first | omega | exact neMem (by assumption) (by k_mem))))
    case m5 => (refine' And.intro ?q1 ?q2; (case q1 => k_mem); (case q2 => (first | omega | exact neMem (by assumption) (by k_mem))))
    case m6 => (refine' And.intro ?q1 ?q2; (case q1 => k_mem); (case q2 => (first | omega | exact neMem (by assumption) (by k_mem))))
    case m7 => (refine' And.intro ?q1 ?q2; (case q1 => k_mem); (case q2 => (first | omega | exact neMem (by assumption) (by k_mem))))
    case mp => k_mem
    case hd => exact Nat.zero_le _
    case ho => exact ⟨⟨by assumption, by assumption⟩, by assumption, by assumption⟩
    case k0 => omega
    case k1 => omega
    case k2 => omega
    case hR => (first | omega | exact neMem (by assumption) (by k_mem))
end
end Mine
end
-- LPartB
section
open PySem PySem.W PyProof.Rows PySem.Calls PySem.Spec
namespace Mine
theorem law_part_spec (prog : Program) (w : World) : ∀ d, d ≤ 3 → PartSpec prog w d
  | 0, _ => fun pen cells c r q dz tc tr tq td n hdz hc hc' hr hq hq' => by
    subst hdz
    exact law_part0 prog w pen cells c r q tc tr tq td n hc hc' hr hq hq'
  | d + 1, h => fun pen cells c r q dz tc tr tq td n hdz hc hc' hr hq hq' => law_part1 prog w d (law_part_spec prog w d (Nat.le_of_succ_le h)) h pen cells c r q dz tc tr tq td n hdz hc hc' hr hq hq'
end Mine
end
-- TellA
section
open PySem PySem.W PyProof.Rows PySem.Calls PySem.Spec
namespace Mine

def pathS (p : List Nat) : Str := Txt.join (Str.ofString ".") ((p.map fun (n : Nat) => (n : Int)).map numS)
def preS (p : List Nat) (c : Str) : Str := if p = [] then Str.ofString "" else pathS p ++ c
def headT (p : List Nat) (a b : Str) : Str := preS p (Str.ofString " ") ++ a ++ Str.ofString "/" ++ b
def linesT : TreeD → List Nat → List Str
  | .leaf a b, p => [headT p a b]
  | .one a b t, p => headT p a b :: linesT t (p ++ [1])
  | .two a b t u, p => headT p a b :: (linesT t (p ++ [1]) ++ linesT u (p ++ [2]))
  | .inn a b t, p => headT p a b :: (linesT t []).map (Str.ofString "in " ++ ·)

theorem pathS_nil : pathS [] = Str.ofString "" := by unfold pathS; rfl
theorem numS_pos (n : Nat) : 1 ≤ (numS n).length := by
  have h2 : (numS n).cps.toList = _ := PySem.W.KIN.signs_num n
  show 1 ≤ (numS n).cps.size
  rw [← Array.length_toList, h2, List.length_map]
  have : (Nat.toDigits 10 n).length ≠ 0 := fun e => Nat.toDigits_ne_nil (List.length_eq_zero_iff.mp e)
  omega
theorem pathS_snoc (p : List Nat) (k : Nat) : pathS (p ++ [k]) = preS p (Str.ofString ".") ++ numS k := by
  unfold pathS preS
  rw [List.map_append, List.map_append]
  have e := PyProof.Rows.FinIter.join_snoc (Str.ofString ".") (numS k) ((p.map fun (n : Nat) => (n : Int)).map numS)
  have j : ∀ l, Txt.join (Str.ofString ".") l = Str.join (Str.ofString ".") l := fun l => PySem.StrLaws.glued_eq_join _ l
  rw [j]
  show Str.join (Str.ofString ".") (List.map numS (List.map (fun (n : Nat) => (n : Int)) p) ++ [numS k]) = _
  rw [e]
  by_cases h : p = []
  · subst h
    simp only [List.map_nil, if_true]
    exact (Str.empty_append _).symm
  · have h' : ¬ (List.map numS (List.map (fun (n : Nat) => (n : Int)) p) = []) := by simpa using h
    rw [if_neg h', if_neg h]
    unfold pathS
    rw [j]
theorem pathS_ne {p : List Nat} (h : p ≠ []) : (pathS p == Str.ofString "") = false := by
  refine beq_eq_false_iff_ne.mpr fun e => ?_
  have e1 : p = p.dropLast ++ [p.getLast h] := (List.dropLast_concat_getLast h).symm
  rw [e1, pathS_snoc] at e
  have := congrArg Str.length e
  rw [Str.length_append, show (Str.ofString "").length = 0 from by decide] at this
  have := numS_pos (p.getLast h)
  omega
theorem pathS_len (p : List Nat) (hp : ∀ i ∈ p, i < 1000) : (pathS p).length ≤ 11 * p.length := by
  unfold pathS
  have := join_len (sep := Str.ofString ".") (xs := (p.map fun (n : Nat) => (n : Int)).map numS) 10 (fun y hy => by
    obtain ⟨z, hz, rfl⟩ := List.mem_map.mp hy
    obtain ⟨i, hi, rfl⟩ := List.mem_map.mp hz
    exact numS_len (by have := hp i hi; omega))
  rw [show (Str.ofString ".").length = 1 from by decide, List.length_map, List.length_map] at this
  omega
theorem preS_len (p : List Nat) (hp : ∀ i ∈ p, i < 1000) {c : Str} (hc : c.length ≤ 1) : (preS p c).length ≤ 11 * p.length + 1 := by
  unfold preS
  split
  · rw [show (Str.ofString "").length = 0 from by decide]; omega
  · rw [Str.length_append]
    have := pathS_len p hp
    omega
theorem headT_len (p : List Nat) (hp : ∀ i ∈ p, i < 1000) {a b : Str} (ha : a.length ≤ 20) (hb : b.length ≤ 20) : (headT p a b).length ≤ 11 * p.length + 42 := by
  unfold headT
  rw [Str.length_append, Str.length_append, Str.length_append, show (Str.ofString "/").length = 1 from by decide]
  have := preS_len p hp (c := Str.ofString " ") (by decide)
  omega
theorem linesT_count : ∀ (t : TreeD) (p : List Nat), (linesT t p).length + 1 ≤ 2 ^ (t.depth + 1)
  | .leaf _ _, _ => by simp [linesT, TreeD.depth]
  | .one _ _ t, p => by
    have := linesT_count t (p ++ [1])
    simp only [linesT, TreeD.depth, List.length_cons]
    have h : 2 ^ (t.depth + 1 + 1) = 2 ^ (t.depth + 1) + 2 ^ (t.depth + 1) := by rw [Nat.pow_succ]; omega
    have := Nat.one_le_two_pow (n := t.depth + 1)
    omega
  | .two _ _ t u, p => by
    have h1 := linesT_count t (p ++ [1])
    have h2 := linesT_count u (p ++ [2])
    simp only [linesT, TreeD.depth, List.length_cons, List.length_append]
    have h : 2 ^ (max t.depth u.depth + 1 + 1) = 2 ^ (max t.depth u.depth + 1) + 2 ^ (max t.depth u.depth + 1) := by rw [Nat.pow_succ]; omega
    have g1 : 2 ^ (t.depth + 1) ≤ 2 ^ (max t.depth u.depth + 1) := Nat.pow_le_pow_right (by decide) (by omega)
    have g2 : 2 ^ (u.depth + 1) ≤ 2 ^ (max t.depth u.depth + 1) := Nat.pow_le_pow_right (by decide) (by omega)
    omega
  | .inn _ _ t, p => by
    have := linesT_count t []
    simp only [linesT, TreeD.depth, List.length_cons, List.length_map]
    have h : 2 ^ (t.depth + 1 + 1) = 2 ^ (t.depth + 1) + 2 ^ (t.depth + 1) := by rw [Nat.pow_succ]; omega
    have := Nat.one_le_two_pow (n := t.depth + 1)
    omega
theorem linesT_few {t : TreeD} (h : t.depth ≤ 3) (p : List Nat) : (linesT t p).length ≤ 15 := by
  have h1 := linesT_count t p
  have h2 : 2 ^ (t.depth + 1) ≤ 2 ^ 4 := Nat.pow_le_pow_right (by decide) (by omega)
  have h3 : (2 : Nat) ^ 4 = 16 := by decide
  omega
theorem linesT_len : ∀ (t : TreeD) (p : List Nat), (∀ i ∈ p, i < 1000) → t.Ok → ∀ y ∈ linesT t p, y.length ≤ 42 + 14 * (p.length + t.depth)
  | .leaf a b, p, hp, ok, y, hy => by
    simp only [linesT, List.mem_singleton] at hy
    subst hy
    have := headT_len p hp ok.1 ok.2
    simp only [TreeD.depth]; omega
  | .one a b t, p, hp, ok, y, hy => by
    simp only [linesT, List.mem_cons] at hy
    rcases hy with rfl | hy
    · have := headT_len p hp ok.1.1 ok.1.2
      simp only [TreeD.depth]; omega
    · have := linesT_len t (p ++ [1]) (fun i hi => by rcases List.mem_append.mp hi with h | h; exact hp i h; rw [List.mem_singleton.mp h]; decide) ok.2 y hy
      simp only [TreeD.depth, List.length_append, List.length_singleton] at this ⊢; omega
  | .two a b t u, p, hp, ok, y, hy => by
    simp only [linesT, List.mem_cons, List.mem_append] at hy
    rcases hy with rfl | hy | hy
    · have := headT_len p hp ok.1.1 ok.1.2
      simp only [TreeD.depth]; omega
    · have := linesT_len t (p ++ [1]) (fun i hi => by rcases List.mem_append.mp hi with h | h; exact hp i h; rw [List.mem_singleton.mp h]; decide) ok.2.1 y hy
      simp only [TreeD.depth, List.length_append, List.length_singleton] at this ⊢; omega
    · have := linesT_len u (p ++ [2]) (fun i hi => by rcases List.mem_append.mp hi with h | h; exact hp i h; rw [List.mem_singleton.mp h]; decide) ok.2.2 y hy
      simp only [TreeD.depth, List.length_append, List.length_singleton] at this ⊢; omega
  | .inn a b t, p, hp, ok, y, hy => by
    simp only [linesT, List.mem_cons, List.mem_map] at hy
    rcases hy with rfl | ⟨z, hz, rfl⟩
    · have := headT_len p hp ok.1.1 ok.1.2
      simp only [TreeD.depth]; omega
    · have := linesT_len t [] (by simp) ok.2 z hz
      rw [Str.length_append, show (Str.ofString "in ").length = 3 from by decide]
      simp only [TreeD.depth, List.length_nil] at this ⊢; omega
end Mine
end
-- TellB
section
open PySem PySem.W PyProof.Rows PySem.Calls PySem.Spec
namespace Mine

theorem strsAre_append {vs ws : List Value} {xs ys : List Str} (h : StrsAre vs xs) (g : StrsAre ws ys) : StrsAre (vs ++ ws) (xs ++ ys) := by
  induction h with
  | nil => exact g
  | cons y t _ ih => exact .cons y t ih
theorem strsAre_get {vs : List Value} {xs : List Str} (h : StrsAre vs xs) : ∀ (i : Nat) (v : Value), vs[i]? = some v → ∃ x t, xs[i]? = some x ∧ v = .str x t := by
  induction h with
  | nil => intro i v e; simp at e
  | cons y t _ ih =>
    intro i v e
    cases i with
    | zero => simp at e; exact ⟨y, t, by simp, e.symm⟩
    | succ i => simpa using ih i v (by simpa using e)

section
variable {prog : Program} {w : World} {A : Around} {E : Value → Shared → Prop} {s : Shared} {h₀ : Heap} {L C : Addr} {m mc : Str → Option Value} {scope : Scope} {cl : List (Str × Addr)} {x : Str} {t : Tok} {p1 p2 p3 : Pos} {Q : Value → Shared → Prop} {env : Env}
/-- `'in ' + line` within a block -/
theorem elt_in (hn : s.heap.Ns C mc) (hx : mc (Str.ofString "line") = some (.str x t)) (hl : x.length ≤ 1000) (hk : (compEnvC scope cl C env).scope.kind = .function) (hkx : (compEnvC scope cl C env).kindOf "line" = some .local)
    (h : ∀ t tk, Q (.str (Str.ofString "in " ++ x) t) { s with toks := tk }) :
    wpAny (model prog w) A (eval (.BinOp (.Constant (.str "in ") 0 p1) .Add (.Name "line" p2) p3) (compEnvC scope cl C env)) Q E s := by
  k_with_none
  (k_with "cj" => (first | exact fun h => h.1 | exact fun h => h.2.1 | exact fun h => h.2.2.1 | exact fun h => h.2.2.2.1 | exact fun h => h.2.2.2.2.1 | exact fun h => h.2.2.2.2.2.1 | exact fun h => h.2.2.2.2.2.2.1 | exact fun h => h.2.2.2.2.2.2.2.1 | exact fun h => h.2.2.2.2.2.2.2.2.1 | exact fun h => h.2.2.2.2.2.2.2.2.2.1 | exact fun h => h.2.2.2.2.2.2.2.2.2.2.1 | exact fun h => h.2.2.2.2.2.2.2.2.2.2.2.1 | exact fun h => h.2.2.2.2.2.2.2.2.2.2.2.2.1 | exact fun h => h.2.2.2.2.2.2.2.2.2.2.2.2.2.1 | exact fun h => h.2 | exact fun h => h.2.2 | exact fun h => h.2.2.2 | exact fun h => h.2.2.2.2 | exact fun h => h.2.2.2.2.2 | exact fun h => h.2.2.2.2.2.2 | exact fun h => h.2.2.2.2.2.2.2 | exact fun h => h.2.2.2.2.2.2.2.2 | exact fun h => h.2.2.2.2.2.2.2.2.2 | exact fun h => h.2.2.2.2.2.2.2.2.2.2 | exact fun h => h.2.2.2.2.2.2.2.2.2.2.2 | exact fun h => h.2.2.2.2.2.2.2.2.2.2.2.2 | exact fun h => h.2.2.2.2.2.2.2.2.2.2.2.2.2))
  (k_with "omega" => (with_reducible first | assumption | exact Nat.le_of_ble_eq_true (by decide) | exact Nat.ne_of_gt (by assumption) | exact Nat.ne_of_lt (by assumption) | exact Mine.lm1 (by assumption) (by decide) | exact Mine.lm2 (by assumption) (by decide) | exact Mine.lm3 (by assumption) (by decide) | exact Mine.lm4 (by assumption) (by decide) | exact Mine.lm5 (by assumption) (by decide) | exact Mine.lm6 (by assumption) (by decide) | exact Mine.lm7 (by assumption) (by decide) | exact Mine.lm8 (by assumption) (by decide) | exact Mine.lm9 (by assumption) (by decide) | exact Int.natCast_nonneg _ | (refine Mine.cj1 (by assumption) ?_; k_extra "cj") | (refine Mine.cj2 (by assumption) ?_; k_extra "cj") | (refine Mine.cj3 (by assumption) ?_; k_extra "cj") | (refine Mine.cj4 (by assumption) ?_; k_extra "cj") | (refine Mine.cj5 (by assumption) (by assumption) ?_; k_extra "cj") | (refine Mine.cj6 (by assumption) (by assumption) ?_; k_extra "cj") | (refine Mine.cj7 (by assumption) (by assumption) (by assumption) ?_; k_extra "cj") | (refine Mine.cj8 (by assumption) (by assumption) (by assumption) ?_; k_extra "cj") | exact Mine.cj9 (by assumption) (by assumption) | exact Mine.cj10 (by assumption) (by assumption) | (refine Mine.cl1 (by assumption) ?_; k_extra "cj") | (refine Mine.cl2 (by assumption) (by assumption) ?_; k_extra "cj") | exact Mine.ns1 (by assumption) | exact Mine.ns2 (by assumption) | exact Mine.ns3 | exact Mine.ns4 | exact Mine.lm10 (by assumption) (by decide) | exact Mine.lm11 (by assumption) (by decide) | exact Mine.lm12 (by assumption) (by assumption) (by decide) | exact Mine.lm12 (by assumption) (Nat.le_refl _) (by decide) | exact Mine.lm13 (by assumption) (by assumption) (by decide) | exact Mine.lm13 (by assumption) (Nat.le_refl _) (by decide) | fail))
  (k_with "eval Name" => ((with_reducible show wpAny _ _ (eval (Expr.Name _ _) (compEnvC _ _ _ _)) _ _ _); (refine nb_local (by assumption) (by assumption) (by assumption) (by assumption) (by decide) ?_)))
  repeat' (first | (walk1; (try dsimp only)))
  exact h _ _
end

/-- the source of `['in ' + line for line in ..]` -/
def InSrc (h₀ : Heap) (L : Addr) (m : Str → Option Value) (Q : Value → Shared → Prop) (xv : Value) (s₁ : Shared) : Prop :=
  ∃ ax vs xs news, xv = .ref ax ∧ s₁.heap.IsList ax vs.toArray ∧ StrsAre vs xs ∧ xs.length ≤ 100 ∧ (∀ y ∈ xs, y.length ≤ 1000) ∧ Fr h₀ L s₁.heap m ∧ News h₀ L s₁.heap news ∧ TextsOut h₀ L m news (xs.map (Str.ofString "in " ++ ·)) (fun D s => Q (.ref D) s) s₁
section
variable {prog : Program} {w : World} {A : Around} {E : Value → Shared → Prop} {s : Shared} {env : Env} {h₀ : Heap} {L : Addr} {m : Str → Option Value} {scope : Scope} {cl : List (Str × Addr)} {p1 p2 p3 p4 pos : Pos} {Q : Value → Shared → Prop}
theorem InSrc.intro {ax : Addr} {vs : List Value} {xs : List Str} {news : List (Addr × Obj)} {s₁ : Shared} (hl : s₁.heap.IsList ax vs.toArray) (hi : StrsAre vs xs) (hlen : xs.length ≤ 100) (hb : ∀ y ∈ xs, y.length ≤ 1000)
    (F : Fr h₀ L s₁.heap m) (N : News h₀ L s₁.heap news) (out : TextsOut h₀ L m news (xs.map (Str.ofString "in " ++ ·)) (fun D s => Q (.ref D) s) s₁) : InSrc h₀ L m Q (.ref ax) s₁ := ⟨ax, vs, xs, news, rfl, hl, hi, hlen, hb, F, N, out⟩
theorem comp_in {iter : PySem.Expr} (_F : Fr h₀ L s.heap m) (hh : A.handled = none)
    (hclos : closureFor scope env = pure cl) (hcell : ∀ y ∈ scope.names, y.2 ≠ .cell) (hkind : scope.kind = .function)
    (hnames : ∀ y ∈ scope.names, y.2 = .local → scope.names.lookup y.1 = some .local) (hx : scope.names.lookup (Str.ofString "line") = some .local) (hk : ∀ C, (compEnvC scope cl C env).scope.kind = .function)
    (h : wpAny (model prog w) A (eval iter env) (InSrc h₀ L m Q) E s)
    (hs : ∀ x, foldedSetIterable iter env x = pure x := by intro _; rfl) :
    wpAny (model prog w) A (eval (.ListComp (.BinOp (.Constant (.str "in ") 0 p1) .Add (.Name "line" p2) p3) [⟨.Name (Str.ofString "line") p4, iter, [], 0⟩] scope pos) env) Q E s := by
  refine comp_eval (h₀ := h₀) (L := L) (m := m) hclos hcell hkind hnames (wpAny_mono h (fun xv s₁ hsrc => ?_) fun _ _ e => e) hs
  obtain ⟨ax, vs, xs, news, rfl, hl, hi, hlen, hb, F, N, out⟩ := hsrc
  have hvl : vs.length = xs.length := StrsAre.length hi
  have turn : TurnsOn prog w A h₀ L m env (.BinOp (.Constant (.str "in ") 0 p1) .Add (.Name "line" p2) p3) [] scope cl [] vs.length (fun i ys own₁ => own₁ = [] ∧ StrsAre ys ((xs.take i).map (Str.ofString "in " ++ ·))) (fun i mc => ∃ v, vs[i]? = some v ∧ mc (Str.ofString "line") = some v) s₁ := by
    rintro i ys own₁ C mc s E' hlt _ ⟨rfl, hys⟩ F' N' hn ⟨v, hv, hmc⟩ _ _ _ _ _
    obtain ⟨x, t, hx', rfl⟩ := strsAre_get hi i v hv
    refine Turn.plain (elt_in hn hmc (hb x (List.mem_of_getElem? hx')) (hk C) (lookup_relabel_local hx) fun t tk => ?_)
    refine TEnd.same F' N' ⟨rfl, ?_⟩
    rw [take_snoc hx', List.map_append]
    exact strsAre_snoc hys _ _
  have fin : FinOn h₀ L (fun _ => m) [] vs.length (fun i ys own₁ => own₁ = [] ∧ StrsAre ys ((xs.take i).map (Str.ofString "in " ++ ·))) (fun D s₂ => Q (.ref D) s₂) s₁ :=
    textsOut_fin N out rfl fun ys own' hr => by have := hr.2; rwa [hvl, List.take_length] at this
  exact src_list hh hl (by rw [hvl, sizeLine_eq]; omega) hkind hx F News.nil (List.forall_mem_nil _) ⟨rfl, .nil⟩ turn fin
end

section
variable {prog : Program} {w : World} {A : Around} {E : Value → Shared → Prop} {s : Shared} {h₀ : Heap} {L : Addr} {m : Str → Option Value} {news news' : List (Addr × Obj)}
theorem extend_use {D b : Addr} {xs ys : List Value} {n n2 : Nat} {Q : Value → Shared → Prop} (F : Fr h₀ L s.heap m) (N : News h₀ L s.heap news) (hb : (b, W.listOf ys.toArray n2) ∈ news) (U : Upd D (W.listOf xs.toArray n) (W.listOf (xs ++ ys).toArray (n + 1)) news news')
    (h1 : 1 ≤ ys.length) (h2 : ys.length ≤ 100) (h3 : xs.length ≤ 100) (h : ∀ h', Fr h₀ L h' m → News h₀ L h' news' → Q .none { s with heap := h' }) : wpAny (model prog w) A (call (.builtin "list.extend") [.ref D, .ref b]) Q E s :=
  kl_extend F N hb (by simp) (by simp; intro e; subst e; simp at h1) U (extend_door (by rw [List.size_toArray, List.size_toArray, sizeLine_eq]; omega)) (by simp; rw [sizeLine_eq]; omega) (by rw [List.size_toArray, List.size_toArray, sizeLine_eq]; omega) h
/-- a path and one place more -/
theorem path_add {pa b : Addr} {vs : List Value} {v : Value} {Q : Value → Shared → Prop} (F : Fr h₀ L s.heap m) (N : News h₀ L s.heap news) (ht : s.heap.IsTuple pa vs.toArray) (hb : (b, tupO [v]) ∈ news) (hn : vs.length ≤ 100)
    (h : ∀ D h', Fr h₀ L h' m → News h₀ L h' news → h'.IsTuple D (vs ++ [v]).toArray → Q (.ref D) { s with heap := h' }) : wpAny (model prog w) A (binaryOp .Add (.ref pa) (.ref b)) Q E s := by
  have hb' : s.heap.IsTuple b [v].toArray := ⟨_, (N _ hb).1, rfl, _, rfl⟩
  refine add_tuples F N ht hb' (fun e => ?_) (fun _ e => by simp at e) (fun _ _ h' F' N' => ?_) (by rw [sizeLine_eq]; simp; omega)
  · subst e
    exact h b s.heap F N (by simpa using hb')
  · exact h _ h' F' (fun p hp => N' p (List.mem_cons_of_mem _ hp)) ⟨_, (N' _ (List.mem_cons_self ..)).1, rfl, _, rfl⟩
end

/-- a name that is read at any state of this heap -/
def LooksH (M : Model) (A : Around) (x : String) (v : Value) (env : Env) (h : Heap) : Prop := ∀ (s : Shared) (pos : Pos) (Q : Value → Shared → Prop) (E : Value → Shared → Prop), s.heap = h → Q v s → wpAny M A (eval (.Name x pos) env) Q E s
theorem LooksH.use {M : Model} {A : Around} {x : String} {v : Value} {env : Env} {s : Shared} (h : LooksH M A x v env s.heap) {pos : Pos} {Q E : Value → Shared → Prop} (hq : Q v s) : wpAny M A (eval (.Name x pos) env) Q E s := h s pos Q E rfl hq
section
variable {prog : Program} {w : World} {A : Around} {E : Value → Shared → Prop} {s : Shared} {env : Env} {p : List Nat} {t : Tok} {p1 p2 p3 p4 p5 p6 p7 p8 : Pos} {Q : Value → Shared → Prop}
theorem ifexp_no {x e1 : PySem.Expr} (hP : LooksH (model prog w) A "place" (.str (Str.ofString "") t) env s.heap) (h : ∀ tk, wpAny (model prog w) A (eval e1 env) Q E { s with toks := tk }) :
    wpAny (model prog w) A (eval (.IfExp (.Compare (.Name "place" p1) [.NotEq] [.Constant (.str "") 0 p2] p3) x e1 p7) env) Q E s := by
  k_with_none
  (k_with "cj" => (first | exact fun h => h.1 | exact fun h => h.2.1 | exact fun h => h.2.2.1 | exact fun h => h.2.2.2.1 | exact fun h => h.2.2.2.2.1 | exact fun h => h.2.2.2.2.2.1 | exact fun h => h.2.2.2.2.2.2.1 | exact fun h => h.2.2.2.2.2.2.2.1 | exact fun h => h.2.2.2.2.2.2.2.2.1 | exact fun h => h.2.2.2.2.2.2.2.2.2.1 | exact fun h => h.2.2.2.2.2.2.2.2.2.2.1 | exact fun h => h.2.2.2.2.2.2.2.2.2.2.2.1 | exact fun h => h.2.2.2.2.2.2.2.2.2.2.2.2.1 | exact fun h => h.2.2.2.2.2.2.2.2.2.2.2.2.2.1 | exact fun h => h.2 | exact fun h => h.2.2 | exact fun h => h.2.2.2 | exact fun h => h.2.2.2.2 | exact fun h => h.2.2.2.2.2 | exact fun h => h.2.2.2.2.2.2 | exact fun h => h.2.2.2.2.2.2.2 | exact fun h => h.2.2.2.2.2.2.2.2 | exact fun h => h.2.2.2.2.2.2.2.2.2 | exact fun h => h.2.2.2.2.2.2.2.2.2.2 | exact fun h => h.2.2.2.2.2.2.2.2.2.2.2 | exact fun h => h.2.2.2.2.2.2.2.2.2.2.2.2 | exact fun h => h.2.2.2.2.2.2.2.2.2.2.2.2.2))
  (k_with "omega" => (with_reducible first | assumption | exact Nat.le_of_ble_eq_true (by decide) | exact Nat.ne_of_gt (by assumption) | exact Nat.ne_of_lt (by assumption) | exact Mine.lm1 (by assumption) (by decide) | exact Mine.lm2 (by assumption) (by decide) | exact Mine.lm3 (by assumption) (by decide) | exact Mine.lm4 (by assumption) (by decide) | exact Mine.lm5 (by assumption) (by decide) | exact Mine.lm6 (by assumption) (by decide) | exact Mine.lm7 (by assumption) (by decide) | exact Mine.lm8 (by assumption) (by decide) | exact Mine.lm9 (by assumption) (by decide) | exact Int.natCast_nonneg _ | (refine Mine.cj1 (by assumption) ?_; k_extra "cj") | (refine Mine.cj2 (by assumption) ?_; k_extra "cj") | (refine Mine.cj3 (by assumption) ?_; k_extra "cj") | (refine Mine.cj4 (by assumption) ?_; k_extra "cj") | (refine Mine.cj5 (by assumption) (by assumption) ?_; k_extra "cj") | (refine Mine.cj6 (by assumption) (by assumption) ?_; k_extra "cj") | (refine Mine.cj7 (by assumption) (by assumption) (by assumption) ?_; k_extra "cj") | (refine Mine.cj8 (by assumption) (by assumption) (by assumption) ?_; k_extra "cj") | exact Mine.cj9 (by assumption) (by assumption) | exact Mine.cj10 (by assumption) (by assumption) | (refine Mine.cl1 (by assumption) ?_; k_extra "cj") | (refine Mine.cl2 (by assumption) (by assumption) ?_; k_extra "cj") | exact Mine.ns1 (by assumption) | exact Mine.ns2 (by assumption) | exact Mine.ns3 | exact Mine.ns4 | exact Mine.lm10 (by assumption) (by decide) | exact Mine.lm11 (by assumption) (by decide) | exact Mine.lm12 (by assumption) (by assumption) (by decide) | exact Mine.lm12 (by assumption) (Nat.le_refl _) (by decide) | exact Mine.lm13 (by assumption) (by assumption) (by decide) | exact Mine.lm13 (by assumption) (Nat.le_refl _) (by decide) | fail))
  (k_with "eval Name" => (refine LooksH.use (by assumption) ?_))
  repeat' (first | (walk1; (try dsimp only)))
  exact h _
theorem ne_place {x y : Str} {t u : Tok} {Q : Value → Shared → Prop} (e : (x == y) = false) (h : Q (.bool true) s) : wpAny (model prog w) A (compareOp .NotEq (.str x t) (.str y u)) Q E s := by
  refine PyProof.Rows.ne_str ?_
  rw [show (x != y) = !(x == y) from rfl, e]
  exact h
theorem ifexp_yes {x e1 : PySem.Expr} {y : Str} (e : (y == Str.ofString "") = false) (hP : LooksH (model prog w) A "place" (.str y t) env s.heap) (h : ∀ tk, wpAny (model prog w) A (eval x env) Q E { s with toks := tk }) :
    wpAny (model prog w) A (eval (.IfExp (.Compare (.Name "place" p1) [.NotEq] [.Constant (.str "") 0 p2] p3) x e1 p7) env) Q E s := by
  (k_with "compareOp NotEq str str" => (refine ne_place (by assumption) ?_))
  repeat' (first | (walk1; (try dsimp only)))
  exact h _
theorem place_cat {c : String} (hc : (Str.ofString c).length ≤ 1) {y : Str} (hl : y.length ≤ 1000) (hP : LooksH (model prog w) A "place" (.str y t) env s.heap) (h : ∀ t tk, Q (.str (y ++ Str.ofString c) t) { s with toks := tk }) :
    wpAny (model prog w) A (eval (.BinOp (.Name "place" p4) .Add (.Constant (.str c) 0 p5) p6) env) Q E s := by
  repeat' (first | (walk1; (try dsimp only)))
  exact h _ _
/-- `place + c if place != '' else ''` -/
theorem ifexp_pre {c : String} (hc : (Str.ofString c).length ≤ 1) (hP : LooksH (model prog w) A "place" (.str (pathS p) t) env s.heap) (hl : (pathS p).length ≤ 1000) (h : ∀ t tk, Q (.str (preS p (Str.ofString c)) t) { s with toks := tk }) :
    wpAny (model prog w) A (eval (.IfExp (.Compare (.Name "place" p1) [.NotEq] [.Constant (.str "") 0 p2] p3) (.BinOp (.Name "place" p4) .Add (.Constant (.str c) 0 p5) p6) (.Constant (.str "") 0 p8) p7) env) Q E s := by
  by_cases e : p = []
  · subst e
    rw [pathS_nil] at hP
    refine ifexp_no hP fun tk => ?_
    repeat' (first | (walk1; (try dsimp only)))
    exact h _ _
  · have hq : preS p (Str.ofString c) = pathS p ++ Str.ofString c := by unfold preS; rw [if_neg e]
    rw [hq] at h
    exact ifexp_yes (pathS_ne e) hP fun tk => place_cat hc hl hP fun t tk => h t tk
theorem place_cat_kind {y k : Str} {tk0 : Tok} (hl : y.length ≤ 1000) (hkl : k.length ≤ 1000) (hP : LooksH (model prog w) A "place" (.str y t) env s.heap) (hK : LooksH (model prog w) A "kind" (.str k tk0) env s.heap) (h : ∀ t tk, Q (.str (y ++ Str.ofString " " ++ k) t) { s with toks := tk }) :
    wpAny (model prog w) A (eval (.BinOp (.BinOp (.Name "place" p4) .Add (.Constant (.str " ") 0 p5) p6) .Add (.Name "kind" p8) p7) env) Q E s := by
  repeat' (first | (walk1; (try dsimp only)))
  exact h _ _
/-- `place + ' ' + kind if place != '' else kind` -/
theorem ifexp_kind {p9 p10 : Pos} {k : Str} {tk0 : Tok} (hP : LooksH (model prog w) A "place" (.str (pathS p) t) env s.heap) (hK : LooksH (model prog w) A "kind" (.str k tk0) env s.heap) (hl : (pathS p).length ≤ 1000) (hkl : k.length ≤ 1000) (h : ∀ t tk, Q (.str (preS p (Str.ofString " ") ++ k) t) { s with toks := tk }) :
    wpAny (model prog w) A (eval (.IfExp (.Compare (.Name "place" p1) [.NotEq] [.Constant (.str "") 0 p2] p3) (.BinOp (.BinOp (.Name "place" p4) .Add (.Constant (.str " ") 0 p5) p6) .Add (.Name "kind" p8) p7) (.Name "kind" p9) p10) env) Q E s := by
  by_cases e : p = []
  · subst e
    rw [pathS_nil] at hP
    refine ifexp_no hP fun tk => ?_
    refine LooksH.use (s := { s with toks := tk }) hK ?_
    have := h tk0 tk
    rwa [show preS [] (Str.ofString " ") ++ k = k from by unfold preS; rw [if_pos rfl]; exact Str.empty_append _] at this
  · have hq : preS p (Str.ofString " ") = pathS p ++ Str.ofString " " := by unfold preS; rw [if_neg e]
    rw [hq] at h
    exact ifexp_yes (pathS_ne e) hP fun tk => place_cat_kind (s := { s with toks := tk }) hl hkl hP hK fun t tk => h t tk
end
end Mine
end
-- TellC
section
open PySem PySem.W PyProof.Rows PySem.Calls PySem.Spec
namespace Mine
abbrev intsL (p : List Nat) : List Int := p.map fun (n : Nat) => (n : Int)
def ToldPost (t : TreeD) (p : List Nat) (_ : Heap) (v : Value) (own' : List (Addr × Obj)) : Prop := ∃ (D : Addr) (ys : List Value) (n : Nat), v = .ref D ∧ own' = [(D, W.listOf ys.toArray n)] ∧ StrsAre ys (linesT t p)
def ToldSpec (prog : Program) (w : World) (t : TreeD) : Prop :=
  ∀ (x pa : Addr) (p : List Nat) (vs args : List Value), (args = [.ref x, .ref pa] ∨ (args = [.ref x] ∧ pa = 79)) → p.length + t.depth ≤ 3 → (∀ i ∈ p, i < 1000) → IntsAre vs (intsL p) → t.Ok →
    Spec prog w 85 args (10 + 4 * t.depth) (500 + 40 * t.depth) [] (fun g => PartP w (onH g) (.ref x) t ∧ g.IsTuple pa vs.toArray) (ToldPost t p)

theorem tup_at {g h : Heap} {L : Addr} {m : Str → Option Value} {pa : Addr} {its : Array Value} (ht : g.IsTuple pa its) (F : Fr g L h m) : h.IsTuple pa its := by
  obtain ⟨o, ho, r⟩ := ht
  exact ⟨o, F.keep _ _ ho, r⟩
theorem list_at {g h : Heap} {L : Addr} {m : Str → Option Value} {a : Addr} {its : Array Value} {n : Nat} (ht : g.get? a = some (W.listOf its n)) (F : Fr g L h m) : h.IsList a its := ⟨_, F.keep _ _ ht, rfl, _, rfl⟩
theorem looks_local {prog : Program} {w : World} {A : Around} {h₀ h : Heap} {L : Addr} {m : Str → Option Value} {env : Env} {x : String} {v : Value} (F : Fr h₀ L h m) (hL : env.locals = L) (hk : env.scope.kind = .function) (hl : env.kindOf x = some .local) (hv : m (Str.ofString x) = some v) (hd : ((Str.ofString x) == ("__debug__" : Str)) = false) :
    LooksH (model prog w) A x v env h := fun s pos Q E hs hq => by
  subst hs hL
  exact wpAny_Name (wpAny_loadName_local hk hl F.ns hv hq) hd
theorem join_path {prog : Program} {w : World} {A : Around} {E : Value → Shared → Prop} {s : Shared} {D : Addr} {ys : List Value} {p : List Nat} {t : Tok} {Q : Value → Shared → Prop} (hl : s.heap.IsList D ys.toArray) (hs : StrsAre ys ((intsL p).map numS)) (hp : p.length ≤ 3) (hi : ∀ i ∈ p, i < 1000)
    (hq : ∀ t' k, Q (.str (pathS p) t') { s with toks := k }) : wpAny (model prog w) A (call (.builtin "str.join") [.str (Str.ofString ".") t, .ref D]) Q E s := by
  refine join_strs hl hs (joinOk_of 10 (fun y hy => ?_) ?_) hq
  · obtain ⟨z, hz, rfl⟩ := List.mem_map.mp hy
    obtain ⟨i, hi', rfl⟩ := List.mem_map.mp hz
    exact numS_len (by have := hi i hi'; omega)
  · rw [List.length_map, List.length_map, show (Str.ofString ".").length = 1 from by decide]; omega
theorem intsAre_append {vs ws : List Value} {xs ys : List Int} (h : IntsAre vs xs) (g : IntsAre ws ys) : IntsAre (vs ++ ws) (xs ++ ys) := h.append g
theorem ints_snoc {vs : List Value} {p : List Nat} {z : Int} {k : Nat} {t : Tok} (hv : IntsAre vs (intsL p)) (e : z = (k : Int)) : IntsAre (vs ++ [.int z t]) (intsL (p ++ [k])) := by
  subst e
  rw [show intsL (p ++ [k]) = intsL p ++ [(k : Int)] from by simp [intsL]]
  exact h_app hv
where h_app {vs : List Value} {xs : List Int} {k : Int} {t : Tok} (h : IntsAre vs xs) : IntsAre (vs ++ [.int k t]) (xs ++ [k]) := h.append (.cons k t .nil)
theorem linesT_some (t : TreeD) (p : List Nat) : 1 ≤ (linesT t p).length := by cases t <;> simp [linesT]
theorem ints_step {vs : List Value} {p : List Nat} {i : Nat} {t : Tok} (hv : IntsAre vs (intsL p)) : IntsAre (vs ++ [.int ((i : Int) + 1) t]) (intsL (p ++ [i + 1])) := ints_snoc hv (by omega)
theorem mem_snoc {p : List Nat} {k : Nat} (h : ∀ i ∈ p, i < 1000) (hk : k < 1000) : ∀ i ∈ p ++ [k], i < 1000 := fun i hi => by
  rcases List.mem_append.mp hi with hi | hi
  · exact h i hi
  · rw [List.mem_singleton.mp hi]; exact hk

/-- a call of tree_told -/
theorem told_call {prog : Program} {w : World} {t : TreeD} {x pa : Addr} {p : List Nat} {vs args : List Value} {pr : Program} {loose : List Str} {mean : ExcName → Option Value} {mg mb : Str → Option Value} {dp un : Nat} {gd : Option (List Code)} {cn : Str} {cs : Scope} {a : Addr} {ccd : Value} {cl : List (Str × Addr)} {outer : List Env} {A₀ : Around} {base h₀ : Heap} {L : Addr} {m : Str → Option Value} {s : Shared} {news : List (Addr × Obj)}
    {Q E : Value → Shared → Prop} (hP : PartP w (onH h₀) (.ref x) t) (S : ToldSpec prog w t) (hargs : args = [.ref x, .ref pa] ∨ (args = [.ref x] ∧ pa = 79)) (ht : s.heap.IsTuple pa vs.toArray) (hv : IntsAre vs (intsL p)) (hpi : ∀ i ∈ p, i < 1000) (hp : p.length + t.depth ≤ 3) (ok : t.Ok)
    (B : Below A₀ base outer h₀) (F : Fr h₀ L s.heap m) (X : (Mine.hd.heap_1 w.params).In h₀) (N : News h₀ L s.heap news) (T : Top pr loose mean mg mb h₀) (hk : cs.kind = .function) (hd : dp + (10 + 4 * t.depth) < recursionLimit) (hu : un + (500 + 40 * t.depth) < cLine)
    (ret : ∀ (D : Addr) (ys : List Value) (n : Nat) h' tk', Fr h₀ L h' m → News h₀ L h' ((D, W.listOf ys.toArray n) :: news) → (∀ q ∈ news, q.1 ≠ D) → StrsAre ys (linesT t p) → 1 ≤ ys.length → ys.length ≤ 15 → Q (.ref D) { s with heap := h', toks := tk' }) :
    wpAny (model prog w) (ktrTop dp un gd cn cs L a ccd cl outer) (call (.ref 85) args) Q E s := by
  refine Spec.use0 (S x pa p vs args hargs hp hpi hv ok) B F X N T hk ⟨hP.mono fun a o h => F.keep a o h, ht⟩ hd hu ?_
  rintro r own' h' tk' F' N' N2 ne ⟨D, ys, n, rfl, rfl, hs⟩
  have hl := StrsAre.length hs
  refine ret D ys n h' tk' F' (fun q hq => ?_) (fun q hq => ne _ (List.mem_singleton.mpr rfl) q hq) hs (by rw [hl]; exact linesT_some t p) (by rw [hl]; exact linesT_few (by omega) p)
  rcases List.mem_cons.mp hq with rfl | hq
  · exact N2 _ (List.mem_singleton.mpr rfl)
  · exact N' q hq
theorem told_end {g h' : Heap} {L' D : Addr} {s : Shared} {m' : Str → Option Value} {news : List (Addr × Obj)} {ys : List Value} {n tk : Nat} {t : TreeD} {p : List Nat} (F : Fr g L' h' m') (N : News g L' h' news) (hm : (D, W.listOf ys.toArray n) ∈ news) (hs : StrsAre ys (linesT t p)) :
    Fin g L' s (ToldPost t p) (.ref D) { s with heap := h', toks := tk } :=
  Fin.intro (own' := [(D, W.listOf ys.toArray n)]) F (fun q hq => N q (by rw [List.mem_singleton.mp hq]; exact hm)) ⟨D, ys, n, rfl, rfl, hs⟩
end Mine
end
-- TellD
section
open PySem PySem.W PyProof.Rows PySem.Calls PySem.Spec
namespace Mine
/-- the end of a turn: its iterators stand as they stood -/
def TurnO (h₀ : Heap) (L : Addr) (own : List (Addr × Obj)) (Jn : (Str → Option Value) → List (Addr × Obj) → Prop) (s₁ : Shared) (f : Flow) (s₂ : Shared) : Prop :=
  f = .next ∧ ∃ h' tk m₂ news₂, s₂ = { s₁ with heap := h', toks := tk } ∧ Fr h₀ L h' m₂ ∧ News h₀ L h' (news₂ ++ own) ∧ (∀ p ∈ news₂, ∀ q ∈ own, p.1 ≠ q.1) ∧ Jn m₂ news₂
theorem TurnO.intro {h₀ : Heap} {L : Addr} {own : List (Addr × Obj)} {Jn : (Str → Option Value) → List (Addr × Obj) → Prop} {s₁ : Shared} {h' : Heap} {tk : Nat} {m₂ : Str → Option Value} {news₂ : List (Addr × Obj)}
    (F : Fr h₀ L h' m₂) (N : News h₀ L h' (news₂ ++ own)) (hI : ∀ p ∈ news₂, ∀ q ∈ own, p.1 ≠ q.1) (hJ : Jn m₂ news₂) : TurnO h₀ L own Jn s₁ .next { s₁ with heap := h', toks := tk } := ⟨rfl, h', tk, m₂, news₂, rfl, F, N, hI, hJ⟩
section
variable {prog : Program} {w : World} {A : Around} {E : Value → Shared → Prop} {s : Shared} {env : Env} {h₀ : Heap} {m : Str → Option Value} {news : List (Addr × Obj)}
theorem enum_turns {a b : Str} {pa pb tp : Pos} {kk : Nat} {l : Addr} {ol : Obj} {its : List Value} {body : List Stmt} {Q : Flow → Shared → Prop} (hh : A.handled = none) (hl0 : h₀.get? l = some ol) (hlc : ol.cls = .type "list") (hld : ∃ n, ol.data = .seq its.toArray n)
    (F : Fr h₀ env.locals s.heap m) (N : News h₀ env.locals s.heap news) (J : Nat → (Str → Option Value) → List (Addr × Obj) → Prop) (h0 : J 0 m news)
    (hxa : env.kindOf a = some .local) (hxb : env.kindOf b = some .local) (hp : (env.scope.kind == .class || (env.scope.kind == .module && env.locals != env.globals)) = false)
    (step : ∀ (i : Nat) (tv : Tok) (v : Value) m₁ news₁ own s', i < its.length → its[i]? = some v → J i m₁ news₁ → (∀ p ∈ news₁, ∀ q ∈ own, p.1 ≠ q.1) → Fr h₀ env.locals s'.heap (fun y => if y = b then some v else if y = a then some (.int (i : Int) tv) else m₁ y) → News h₀ env.locals s'.heap (news₁ ++ own) →
      wpAny (model prog w) A (execs body env) (TurnO h₀ env.locals own (J (i + 1)) s') E s')
    (out : ∀ h' tk m' news', Fr h₀ env.locals h' m' → News h₀ env.locals h' news' → J its.length m' news' → Q .next { s with heap := h', toks := tk }) :
    wpAny (model prog w) A (call (.type "enumerate") [.ref l]) (fun xv s₁ => wpAny (model prog w) A (pyIter xv) (fun it s₂ => TurnsAt prog w A h₀ env (.Tuple [.Name a pa, .Name b pb] kk tp) body Q E it s₂) E s₁) E s := by
  obtain ⟨n, hld⟩ := hld
  have hax := F.keep _ _ hl0
  have hl : s.heap.IsList l its.toArray := ⟨ol, hax, hlc, n, hld⟩
  have hlt : l < s.heap.objs.size := Heap.lt_size hax
  have hLs : env.locals < s.heap.objs.size := F.ns.lt
  have hL0 : h₀.get? env.locals = none := Heap.get?_none_of_le F.above
  refine call_enumerate_list hl fun h' hE hI hsz hk => ?_
  refine wpAny_pyIter_enum hE ?_
  have W := (WalksT.enumerate (prog := prog) (w := w) hh (s.heap.objs.size + 1) s.heap.objs.size l (Nat.succ_ne_self _) (ktu_ne 1 hlt) (Nat.ne_of_lt hlt) its.toArray).toU
  rw [show its.toArray.size = its.length from List.size_toArray] at W
  refine ⟨_, _, _, _, _, _, _, m, news, J, rfl, KTurns.ofWalksU W, ?_, ?_, ?_, ⟨⟨.none, hE⟩, hI, hl.at fun o e => hk l o e⟩, F.keeps hk, N.grown hk, h0, ?_, fun h' tk m' news' F' N' _ hJ => out h' tk m' news' F' N' hJ⟩
  · intro hI'
    have hb' : env.locals = s.heap.objs.size + 1 ∨ env.locals = s.heap.objs.size ∨ env.locals = l := by simpa using hI'
    rcases hb' with e | e | e
    · exact ktu_ne 1 hLs e
    · exact Nat.ne_of_lt hLs e
    · rw [e, hl0] at hL0; cases hL0
  · intro b hb
    have hb' : b = s.heap.objs.size + 1 ∨ b = s.heap.objs.size := by simpa using hb
    rcases hb' with rfl | rfl
    · exact ktu_new F (Nat.le_add_right _ _)
    · exact ktu_new F (Nat.le_refl _)
  · intro p hp hI'
    have hb' : p.1 = s.heap.objs.size + 1 ∨ p.1 = s.heap.objs.size := by simpa using hI'
    have hlp := Heap.lt_size (N p hp).1
    rcases hb' with e | e
    · exact ktu_ne 1 hlp e
    · exact Nat.ne_of_lt hlp e
  · rintro i v m₁ news₁ h₁ tk₁ own hi ⟨T, vals, rfl, ⟨t, x, hx, rfl⟩, hT⟩ hJ hnw hown hget hall ⟨⟨old, he⟩, ⟨oi, hoi, hic, _⟩, _⟩ F₁ N₁
    have hdis : ∀ p ∈ news₁, ∀ q ∈ own, p.1 ≠ q.1 := fun p hp q hq e => by
      have hq' : q.1 = s.heap.objs.size + 1 ∨ q.1 = s.heap.objs.size ∨ q.1 = l := by simpa using hown q hq
      rcases hq' with e' | e' | e'
      · exact hnw p hp (by simp [e, e'])
      · exact hnw p hp (by simp [e, e'])
      · have := (N₁ q (List.mem_append_left _ hq)).2.2; rw [e', hl0] at this; cases this
    have mine : ∀ b, b ∈ [s.heap.objs.size + 1, s.heap.objs.size] → ∃ o, (b, o) ∈ own := fun b hb => by
      have hb' : b = s.heap.objs.size + 1 ∨ b = s.heap.objs.size := by simpa using hb
      rcases hb' with rfl | rfl
      · exact ⟨_, hall _ (by simp) (ktu_new F (Nat.le_add_right _ _)) _ he⟩
      · exact ⟨_, hall _ (by simp) (ktu_new F (Nat.le_refl _)) _ hoi⟩
    refine kcp_assign hh hT hxa hxb hp F₁.ns fun h₂ tk₂ hn₂ hk₂ => ?_
    refine wpAny_mono (step i t x m₁ news₁ own { s with heap := h₂, toks := tk₂ } hi (by simpa using hx) hJ hdis ⟨hn₂, fun c o e => hk₂ c o (fun q => by rw [q, hL0] at e; cases e) (F₁.keep c o e), F₁.above⟩ (fun p hp => ?_)) (fun f s₃ h₃ => ?_) fun _ _ e => e
    · have hp' : p ∈ own ++ news₁ := by
        rcases List.mem_append.mp hp with hp | hp
        · exact List.mem_append_right _ hp
        · exact List.mem_append_left _ hp
      exact ⟨hk₂ _ _ (N₁ p hp').2.1 (N₁ p hp').1, (N₁ p hp').2⟩
    · obtain ⟨rfl, h₄, tk₄, m₂, news₂, rfl, F₂, N₂, hd, hJ₂⟩ := h₃
      refine LoopStepU.intro (s₁ := { s with heap := h₁, toks := tk₁ }) F₂ (fun p hp => ?_) (fun p hp hm => ?_) hJ₂
      · rcases List.mem_append.mp hp with hp | hp
        · exact N₂ p (List.mem_append_right _ hp)
        · exact N₂ p (List.mem_append_left _ hp)
      · obtain ⟨o, ho⟩ := mine p.1 hm
        exact hd p hp _ ho rfl
end
end Mine
end
-- TellE
section
open PySem PySem.W PyProof.Rows PySem.Calls PySem.Spec
namespace Mine
def kidsT (p : List Nat) : Nat → List TreeD → List Str
  | _, [] => []
  | k, t :: r => linesT t (p ++ [k + 1]) ++ kidsT p (k + 1) r
theorem kidsT_snoc (p : List Nat) : ∀ (l : List TreeD) (k : Nat) (t : TreeD), kidsT p k (l ++ [t]) = kidsT p k l ++ linesT t (p ++ [k + l.length + 1])
  | [], k, t => by simp [kidsT]
  | x :: r, k, t => by
    show linesT x (p ++ [k + 1]) ++ kidsT p (k + 1) (r ++ [t]) = (linesT x (p ++ [k + 1]) ++ kidsT p (k + 1) r) ++ _
    rw [kidsT_snoc p r (k + 1) t, List.append_assoc, List.length_cons, show k + 1 + r.length + 1 = k + (r.length + 1) + 1 by omega]
theorem kidsT_few (p : List Nat) : ∀ (l : List TreeD) (k : Nat), (∀ t ∈ l, t.depth ≤ 3) → (kidsT p k l).length ≤ 15 * l.length
  | [], _, _ => by simp [kidsT]
  | t :: r, k, h => by
    have h1 := linesT_few (h t (List.mem_cons_self ..)) (p ++ [k + 1])
    have h2 := kidsT_few p r (k + 1) fun x hx => h x (List.mem_cons_of_mem _ hx)
    simp only [kidsT, List.length_append, List.length_cons]
    omega
theorem Spec.weaken {prog : Program} {w : World} {f : Addr} {vs : List Value} {dd uu : Nat} {own : List (Addr × Obj)} {Pre Pre' : Heap → Prop} {Post Post' : Heap → Value → List (Addr × Obj) → Prop} (S : Spec prog w f vs dd uu own Pre Post) (h1 : ∀ g, Pre' g → Pre g) (h2 : ∀ g v o, Post g v o → Post' g v o) : Spec prog w f vs dd uu own Pre' Post' :=
  fun p loose mean mg mb dp un gd cn cs a ccd cl outer A₀ base h₀ L m s Q E B F X N T hk hp hd hu ret => S p loose mean mg mb dp un gd cn cs a ccd cl outer A₀ base h₀ L m s Q E B F X N T hk (h1 _ hp) hd hu fun r own' h' tk' F' N' k' f' P' => ret r own' h' tk' F' N' k' f' (h2 _ _ _ P')

/-- between two turns -/
def ToldJ (l : Addr) (hd : Str) (ts : List TreeD) (p : List Nat) (m₀ : Str → Option Value) (i : Nat) (m₁ : Str → Option Value) (news₁ : List (Addr × Obj)) : Prop :=
  ∃ (ys : List Value) (n : Nat), news₁ = [(l, W.listOf ys.toArray n)] ∧ StrsAre ys (hd :: kidsT p 0 (ts.take i)) ∧ ∀ z, z ≠ Str.ofString "kid" → z ≠ Str.ofString "spot" → m₁ z = m₀ z
/-- the kids at hand -/
def KidsP (w : World) (M : Addr → Obj → Prop) (its : List Value) (ts : List TreeD) : Prop := its.length = ts.length ∧ ∀ (i : Nat) (v : Value), its[i]? = some v → ∃ (x : Addr) (t : TreeD), v = Value.ref x ∧ ts[i]? = some t ∧ PartP w M (.ref x) t
theorem turn_frame {m₁ m₀ : Str → Option Value} {a b : Option Value} (h : ∀ z, z ≠ Str.ofString "kid" → z ≠ Str.ofString "spot" → m₁ z = m₀ z) : (fun y => if y = Str.ofString "kid" then a else if y = Str.ofString "spot" then b else m₁ y) = (fun y => if y = Str.ofString "kid" then a else if y = Str.ofString "spot" then b else m₀ y) := by
  funext y
  by_cases h1 : y = Str.ofString "kid"
  · simp [h1]
  by_cases h2 : y = Str.ofString "spot"
  · rw [if_neg h1, if_neg h1, if_pos h2, if_pos h2]
  rw [if_neg h1, if_neg h1, if_neg h2, if_neg h2, h y h1 h2]
theorem out_frame {m₁ m₀ : Str → Option Value} (h : ∀ z, z ≠ Str.ofString "kid" → z ≠ Str.ofString "spot" → m₁ z = m₀ z) : m₁ = (fun y => if y = Str.ofString "kid" then m₁ (Str.ofString "kid") else if y = Str.ofString "spot" then m₁ (Str.ofString "spot") else m₀ y) := by
  funext y
  by_cases h1 : y = Str.ofString "kid"
  · simp [h1]
  by_cases h2 : y = Str.ofString "spot"
  · rw [if_neg h1, if_pos h2, h2]
  rw [if_neg h1, if_neg h2, h y h1 h2]

section
variable {prog : Program} {w : World} {A : Around} {E : Value → Shared → Prop} {s : Shared} {env : Env} {h₀ : Heap} {L : Addr} {m : Str → Option Value}
theorem told_enum {pa pb tp : Pos} {kk nk n0 : Nat} {kl l : Addr} {its : List Value} {ts : List TreeD} {p : List Nat} {hd : Str} {th : Tok} {rest : List (Addr × Obj)} {body : List Stmt} {Q : Flow → Shared → Prop} (hLe : env.locals = L) (hh : A.handled = none) (hkl : h₀.get? kl = some (W.listOf its.toArray nk)) (hK : KidsP w (onH h₀) its ts)
    (h2 : ts.length ≤ 2) {e : Nat} {vs : List Value} (_hv : IntsAre vs (intsL p)) (hS : ∀ t ∈ ts, ToldSpec prog w t ∧ p.length + 1 + t.depth ≤ 3 ∧ t.depth + 1 ≤ e ∧ t.Ok) (F : Fr h₀ L s.heap m) (N : News h₀ L s.heap ((l, W.listOf #[.str hd th] n0) :: rest)) (hxa : env.kindOf (Str.ofString "spot") = some .local) (hxb : env.kindOf (Str.ofString "kid") = some .local) (hp : (env.scope.kind == .class || (env.scope.kind == .module && env.locals != env.globals)) = false)
    (step : ∀ (i : Nat) (tv : Tok) (x : Addr) (t : TreeD) (ys : List Value) (n : Nat) (own : List (Addr × Obj)) (s' : Shared), i < 2 → t ∈ ts → ts[i]? = some t → PartP w (onH h₀) (.ref x) t → ToldSpec prog w t → p.length + 1 + t.depth ≤ 3 → t.depth + 1 ≤ e → t.Ok → StrsAre ys (hd :: kidsT p 0 (ts.take i)) → ys.length ≤ 31 → (∀ q ∈ own, q.1 ≠ l) →
      Fr h₀ L s'.heap (fun y => if y = Str.ofString "kid" then some (.ref x) else if y = Str.ofString "spot" then some (.int (i : Int) tv) else m y) → News h₀ L s'.heap ((l, W.listOf ys.toArray n) :: own) → wpAny (model prog w) A (execs body env) (TurnO h₀ L own (ToldJ l hd ts p m (i + 1)) s') E s')
    (out : ∀ (ys : List Value) (n : Nat) (h' : Heap) (tk' : Nat) (x1 x2 : Option Value), StrsAre ys (hd :: kidsT p 0 ts) → ys.length ≤ 31 → Fr h₀ L h' (fun y => if y = Str.ofString "kid" then x1 else if y = Str.ofString "spot" then x2 else m y) → News h₀ L h' [(l, W.listOf ys.toArray n)] → Q .next { s with heap := h', toks := tk' }) :
    wpAny (model prog w) A (call (.type "enumerate") [.ref kl]) (fun xv s₁ => wpAny (model prog w) A (pyIter xv) (fun it s₂ => TurnsAt prog w A h₀ env (.Tuple [.Name (Str.ofString "spot") pa, .Name (Str.ofString "kid") pb] kk tp) body Q E it s₂) E s₁) E s := by
  subst hLe
  obtain ⟨hlen, hK⟩ := hK
  have hd3 : ∀ t ∈ ts, t.depth ≤ 3 := fun t ht => by have := (hS t ht).2.1; omega
  have hys : ∀ (i : Nat) (ys : List Value), StrsAre ys (hd :: kidsT p 0 (ts.take i)) → ys.length ≤ 31 := fun i ys h => by
    rw [StrsAre.length h, List.length_cons]
    have := kidsT_few p (ts.take i) 0 fun t ht => hd3 t (List.mem_of_mem_take ht)
    have : (ts.take i).length ≤ 2 := by rw [List.length_take]; omega
    omega
  refine enum_turns hh hkl rfl ⟨nk, rfl⟩ F (fun q hq => N q (by rw [List.mem_singleton.mp hq]; exact List.mem_cons_self ..)) (ToldJ l hd ts p m) ⟨[.str hd th], n0, rfl, by simpa [kidsT] using StrsAre.cons hd th .nil, fun _ _ _ => rfl⟩ hxa hxb hp ?_ ?_
  · rintro i tv v m₁ news₁ own s' hi hv ⟨ys, n, rfl, hs, hm⟩ hdis F' N'
    obtain ⟨x, t, rfl, ht, hP⟩ := hK i v hv
    rw [turn_frame hm] at F'
    obtain ⟨S1, S2, S3, S4⟩ := hS t (List.mem_of_getElem? ht)
    exact step i tv x t ys n own s' (by omega) (List.mem_of_getElem? ht) ht hP S1 S2 S3 S4 hs (hys i ys hs) (fun q hq e => hdis _ (List.mem_singleton.mpr rfl) q hq e.symm) F' N'
  · rintro h' tk m' news' F' N' ⟨ys, n, rfl, hs, hm⟩
    rw [out_frame hm] at F'
    have hs' := hs
    rw [hlen, List.take_length] at hs
    exact out ys n h' tk _ _ hs (hys _ ys hs') F' N'
theorem told_turn_end {l : Addr} {hd : Str} {ts : List TreeD} {p : List Nat} {i n : Nat} {t : TreeD} {ys zs : List Value} {own news : List (Addr × Obj)} {s' : Shared} {h' : Heap} {tk : Nat} {m₂ : Str → Option Value} (F : Fr h₀ L h' m₂) (N : News h₀ L h' news) (hm : (l, W.listOf (ys ++ zs).toArray (n + 1)) ∈ news) (ho : ∀ q ∈ own, q ∈ news)
    (hol : ∀ q ∈ own, q.1 ≠ l) (hs : StrsAre ys (hd :: kidsT p 0 (ts.take i))) (ht : ts[i]? = some t) (hz : StrsAre zs (linesT t (p ++ [i + 1]))) (hf : ∀ z, z ≠ Str.ofString "kid" → z ≠ Str.ofString "spot" → m₂ z = m z) :
    TurnO h₀ L own (ToldJ l hd ts p m (i + 1)) s' .next { s' with heap := h', toks := tk } := by
  refine TurnO.intro (news₂ := [(l, W.listOf (ys ++ zs).toArray (n + 1))]) F (fun q hq => ?_) (fun q hq r hr e => ?_) ⟨_, _, rfl, ?_, hf⟩
  · rcases List.mem_append.mp hq with hq | hq
    · rw [List.mem_singleton.mp hq]; exact N _ hm
    · exact N _ (ho q hq)
  · rw [List.mem_singleton.mp hq] at e
    exact hol r hr e.symm
  · have hi : i < ts.length := (List.getElem?_eq_some_iff.mp ht).1
    rw [take_snoc ht, kidsT_snoc, List.length_take, Nat.zero_add, Nat.min_eq_left (by omega)]
    exact strsAre_append hs hz
theorem told_enum0 {pa pb tp : Pos} {kk nk n0 : Nat} {kl l : Addr} {hd : Str} {th : Tok} {rest : List (Addr × Obj)} {body : List Stmt} {Q : Flow → Shared → Prop} (hLe : env.locals = L) (hh : A.handled = none) (hkl : h₀.get? kl = some (W.listOf ([] : List Value).toArray nk))
    (F : Fr h₀ L s.heap m) (N : News h₀ L s.heap ((l, W.listOf #[.str hd th] n0) :: rest)) (hxa : env.kindOf (Str.ofString "spot") = some .local) (hxb : env.kindOf (Str.ofString "kid") = some .local) (hp : (env.scope.kind == .class || (env.scope.kind == .module && env.locals != env.globals)) = false)
    (out : ∀ (n : Nat) (th : Tok) (h' : Heap) (tk' : Nat) (x1 x2 : Option Value), Fr h₀ L h' (fun y => if y = Str.ofString "kid" then x1 else if y = Str.ofString "spot" then x2 else m y) → News h₀ L h' [(l, W.listOf #[.str hd th] n)] → Q .next { s with heap := h', toks := tk' }) :
    wpAny (model prog w) A (call (.type "enumerate") [.ref kl]) (fun xv s₁ => wpAny (model prog w) A (pyIter xv) (fun it s₂ => TurnsAt prog w A h₀ env (.Tuple [.Name (Str.ofString "spot") pa, .Name (Str.ofString "kid") pb] kk tp) body Q E it s₂) E s₁) E s := by
  refine told_enum (its := []) (ts := []) (p := []) (e := 0) (vs := []) hLe hh hkl ⟨rfl, fun i v h => by simp at h⟩ (by decide) .nil (by simp) F N hxa hxb hp (fun i tv x t ys n own s' _ h => by simp at h) ?_
  intro ys n h' tk' x1 x2 hs _ F' N'
  cases hs with
  | cons _ t h =>
    cases h
    exact out n t h' tk' x1 x2 F' N'
end
end Mine
end
-- Told1
section
open PySem PySem.W PyProof.Rows PySem.Calls PySem.Spec
namespace Mine
section
set_option maxHeartbeats 16000000 in
theorem told_kids (prog : Program) (w : World) (a b : Str) (ha : a.length ≤ 20) (hb : b.length ≤ 20) (ts : List TreeD) (h2 : ts.length ≤ 2) (e : Nat) (x pa : Addr) (p : List Nat) (vs args : List Value) (hS : ∀ t ∈ ts, ToldSpec prog w t ∧ p.length + 1 + t.depth ≤ 3 ∧ t.depth + 1 ≤ e ∧ t.Ok) (hpl : p.length ≤ 3)
    (hargs : args = [.ref x, .ref pa] ∨ (args = [.ref x] ∧ pa = 79)) (hpi : ∀ i ∈ p, i < 1000) (hv : IntsAre vs (intsL p)) :
    Spec prog w 85 args (10 + 4 * e) (500 + 40 * e) [] (fun g => (∃ (kl : Addr) (its : List Value) (n : Nat), PartO w (onH g) x a b kl .none ∧ g.get? kl = some (W.listOf its.toArray n) ∧ KidsP w (onH g) its ts) ∧ g.IsTuple pa vs.toArray)
      (fun _ v own' => ∃ (D : Addr) (ys : List Value) (n : Nat), v = .ref D ∧ own' = [(D, W.listOf ys.toArray n)] ∧ StrsAre ys (headT p a b :: kidsT p 0 ts)) := by
  k_with_none
  (k_with "cj" => (first | exact fun h => h.1 | exact fun h => h.2.1 | exact fun h => h.2.2.1 | exact fun h => h.2.2.2.1 | exact fun h => h.2.2.2.2.1 | exact fun h => h.2.2.2.2.2.1 | exact fun h => h.2.2.2.2.2.2.1 | exact fun h => h.2.2.2.2.2.2.2.1 | exact fun h => h.2.2.2.2.2.2.2.2.1 | exact fun h => h.2.2.2.2.2.2.2.2.2.1 | exact fun h => h.2.2.2.2.2.2.2.2.2.2.1 | exact fun h => h.2.2.2.2.2.2.2.2.2.2.2.1 | exact fun h => h.2.2.2.2.2.2.2.2.2.2.2.2.1 | exact fun h => h.2.2.2.2.2.2.2.2.2.2.2.2.2.1 | exact fun h => h.2 | exact fun h => h.2.2 | exact fun h => h.2.2.2 | exact fun h => h.2.2.2.2 | exact fun h => h.2.2.2.2.2 | exact fun h => h.2.2.2.2.2.2 | exact fun h => h.2.2.2.2.2.2.2 | exact fun h => h.2.2.2.2.2.2.2.2 | exact fun h => h.2.2.2.2.2.2.2.2.2 | exact fun h => h.2.2.2.2.2.2.2.2.2.2 | exact fun h => h.2.2.2.2.2.2.2.2.2.2.2 | exact fun h => h.2.2.2.2.2.2.2.2.2.2.2.2 | exact fun h => h.2.2.2.2.2.2.2.2.2.2.2.2.2))
  (k_with "omega" => (with_reducible first | assumption | exact Nat.le_of_ble_eq_true (by decide) | exact Nat.ne_of_gt (by assumption) | exact Nat.ne_of_lt (by assumption) | exact Mine.lm1 (by assumption) (by decide) | exact Mine.lm2 (by assumption) (by decide) | exact Mine.lm3 (by assumption) (by decide) | exact Mine.lm4 (by assumption) (by decide) | exact Mine.lm5 (by assumption) (by decide) | exact Mine.lm6 (by assumption) (by decide) | exact Mine.lm7 (by assumption) (by decide) | exact Mine.lm8 (by assumption) (by decide) | exact Mine.lm9 (by assumption) (by decide) | exact Int.natCast_nonneg _ | (refine Mine.cj1 (by assumption) ?_; k_extra "cj") | (refine Mine.cj2 (by assumption) ?_; k_extra "cj") | (refine Mine.cj3 (by assumption) ?_; k_extra "cj") | (refine Mine.cj4 (by assumption) ?_; k_extra "cj") | (refine Mine.cj5 (by assumption) (by assumption) ?_; k_extra "cj") | (refine Mine.cj6 (by assumption) (by assumption) ?_; k_extra "cj") | (refine Mine.cj7 (by assumption) (by assumption) (by assumption) ?_; k_extra "cj") | (refine Mine.cj8 (by assumption) (by assumption) (by assumption) ?_; k_extra "cj") | exact Mine.cj9 (by assumption) (by assumption) | exact Mine.cj10 (by assumption) (by assumption) | (refine Mine.cl1 (by assumption) ?_; k_extra "cj") | (refine Mine.cl2 (by assumption) (by assumption) ?_; k_extra "cj") | exact Mine.ns1 (by assumption) | exact Mine.ns2 (by assumption) | exact Mine.ns3 | exact Mine.ns4 | exact Mine.lm10 (by assumption) (by decide) | exact Mine.lm11 (by assumption) (by decide) | exact Mine.lm12 (by assumption) (by assumption) (by decide) | exact Mine.lm12 (by assumption) (Nat.le_refl _) (by decide) | exact Mine.lm13 (by assumption) (by assumption) (by decide) | exact Mine.lm13 (by assumption) (Nat.le_refl _) (by decide) | fail))
  (k_with "k_inst" => exact instAt_base (by assumption) (by assumption) (by assumption))
  (k_with "k_all" => assumption)
  (k_with "k_ne" => first | exact neMem (by assumption) (by k_mem) | fail "neMem")
  (k_with "eval ListComp" => (k_here; first
  | (k_dflt (refine comp_strs (by assumption) (by rfl) (by assumption) (by assumption) (by with_unfolding_all rfl) (by decide) (by rfl) (by decide) (by rfl) (by rfl) (by rfl) (fun _ => by rfl) (fun _ => by rfl) (by decide) ?_))
  | (k_dflt (refine comp_in (by assumption) (by rfl) (by with_unfolding_all rfl) (by decide) (by rfl) (by decide) (by rfl) (fun _ => by rfl) ?_))))
  (k_with "StrSrc" => (refine StrSrc.intro (.inr (tup_at (by assumption) (by assumption))) (by assumption) (by (rw [List.length_map]; omega)) (by assumption) (by assumption) (by assumption) ?_; intro D' h' tk' ys' F' N' ne' hk' hys'; clear hk'; (try dsimp only); (try k_sweep)))
  (k_with "call builtin:str.join" => (k_here; refine join_path (by is_list) (by assumption) (by assumption) (by assumption) ?_; intro t' k'))
  (k_with "eval IfExp" => (k_here; k_dflt ((refine' ifexp_pre ?z1r102 ?z2r102 ?z3r102 ?_); (case z1r102 => decide); (case z2r102 => exact looks_local (by assumption) (by rfl) (by rfl) (by rfl) (by rfl) (by decide)); (case z3r102 => omega); intro t' tk')))
  (k_with "call builtin:list.extend" => (k_here; k_dflt (refine' extend_use (by assumption) (by assumption) ?z0r103 ?zUr103 ?z1r103 ?z2r103 ?z3r103 ?_); (case z0r103 => k_mem); (case zUr103 => k_upd); (case z1r103 => omega); (case z2r103 => omega); (case z3r103 => first | omega | (simp only [List.length_append, List.length_cons, List.length_nil]; omega)); intro h' F' N'; (try k_sweep)))
  (k_with "binaryOp Add ref ref" => (k_here; (with_reducible show wpAny _ _ (binaryOp _ (Value.ref _) (Value.ref _)) _ _ _); k_dflt (refine' path_add (by assumption) (by assumption) ?z0r104 ?z1r104 ?z2r104 ?_); (case z0r104 => exact tup_at (by assumption) (by assumption)); (case z1r104 => k_mem); (case z2r104 => omega); intro D' h' F' N' ht'; (try k_sweep)))
  (k_with "call ref" => (k_here; (with_reducible show wpAny _ _ (call (Value.ref 85) [Value.ref _, Value.ref _]) _ _ _); k_dflt (refine' told_call (by assumption) (by assumption) (.inl rfl) (by assumption) ?z1r105 ?z2r105 ?z3r105 ?z4r105 (by assumption) (by assumption) (by assumption) (by assumption) (by assumption) (by rfl) ?z5r105 ?z6r105 ?_); (case z1r105 => exact ints_step (by assumption)); (case z2r105 => exact mem_snoc (by assumption) (by omega)); (case z3r105 => (simp only [List.length_append, List.length_singleton]; omega)); (case z4r105 => assumption); (case z5r105 => omega); (case z6r105 => omega); intro D' ys' n' h' tk' F' N' nD' hs' hl1' hl2'; (try k_sweep)))
  (k_with "exec For Tuple Call cons nil" => (k_here; k_dflt (refine' For_turns (by assumption) ?_ (by intro _; rfl) ?zEr106); (case zEr106 => (with_unfolding_all exact PassesOwn.never))))
  (k_with "call type:enumerate" => (k_here; k_dflt (refine' told_enum (by rfl) (by rfl) (by assumption) (by assumption) (by assumption) (by assumption) (by assumption) (by assumption) (by assumption) (by rfl) (by rfl) (by rfl) (fun i tv x t ys n own s' hi hts hti hP S1 S2 S3 S4 hs hl hol F' N' => ?_) (fun ys n h' tk' x1 x2 hs hl F' N' => ?_)); (all_goals (try k_sweep))))
  have hpre := preS_len p hpi (c := Str.ofString " ") (by decide)
  have hps := pathS_len p hpi
  have hvl : vs.length = p.length := by rw [IntsAre.length hv, List.length_map]
  have hnat : ∀ n ∈ intsL p, n.natAbs < 10 ^ 9 := fun n hn => by
    obtain ⟨i, hi, rfl⟩ := List.mem_map.mp hn
    have := hpi i hi
    omega
  refine spec_of [("part", .ref x), ("path", .ref pa)] (by k_is) (by k_is) (fun s X => by rcases hargs with rfl | ⟨rfl, rfl⟩ <;> exact binds_K X rfl (by k_is) rfl rfl rfl) (locs rfl) ?_ (by omega)
  rintro pr loose mean mg mb dp un gd outer A₀ base g L' s B' F' N' X' T' ⟨⟨kl, its, n, hO, hkl, hK⟩, ht⟩ hdp hun hlt
  k_fold
  obtain ⟨dx, fl, kk, dk, ps, n1, n2, s1, s2, s3, s4, s5, s6, s7, s8, t1, t2, t3, u6, r1, r2, r3, ra, rb, h1, h2', h3, h4⟩ := hO
  have h1 : g.get? x = some _ := h1
  have h2' : g.get? dx = some _ := h2'
  have h3 : g.get? kk = some _ := h3
  have h4 : g.get? dk = some _ := h4
  k_steps
  rotate_left
  · exact Fin.intro (by assumption) (by assumption) ⟨_, _, _, rfl, rfl, by assumption⟩
  · refine' told_turn_end (by assumption) (by assumption) ?q1 ?q2 (by assumption) (by assumption) (by assumption) (by assumption) ?q3
    case q1 => k_mem
    case q2 => (intro q' hq'; repeat' (first | exact hq' | apply List.mem_cons_of_mem))
    case q3 => (intro z h1 h2; simp only [h1, h2, if_false])
end
end Mine
end
-- Told2
section
open PySem PySem.W PyProof.Rows PySem.Calls PySem.Spec
namespace Mine
theorem tup79 {w : World} {h₀ h : Heap} {L : Addr} {m : Str → Option Value} (X : (Mine.hd.heap_1 w.params).In h₀) (F : Fr h₀ L h m) : h.IsTuple 79 ([] : List Value).toArray :=
  ⟨_, F.keep _ _ (X 79 { cls := .type "tuple", data := .seq ([] : List Value).toArray } (by k_is)), rfl, _, rfl⟩
section
set_option maxHeartbeats 16000000 in
theorem told_inn (prog : Program) (w : World) (a b : Str) (ha : a.length ≤ 20) (hb : b.length ≤ 20) (t : TreeD) (S : ToldSpec prog w t) (hd3 : t.depth ≤ 2) (ok : t.Ok) (e : Nat) (he : t.depth + 1 ≤ e) (x pa : Addr) (p : List Nat) (vs args : List Value) (hpl : p.length ≤ 3)
    (hargs : args = [.ref x, .ref pa] ∨ (args = [.ref x] ∧ pa = 79)) (hpi : ∀ i ∈ p, i < 1000) (hv : IntsAre vs (intsL p)) :
    Spec prog w 85 args (10 + 4 * e) (500 + 40 * e) [] (fun g => (∃ (kl y : Addr) (n : Nat), PartO w (onH g) x a b kl (.ref y) ∧ g.get? kl = some (W.listOf ([] : List Value).toArray n) ∧ PartP w (onH g) (.ref y) t) ∧ g.IsTuple pa vs.toArray)
      (fun _ v own' => ∃ (D : Addr) (ys : List Value) (n : Nat), v = .ref D ∧ own' = [(D, W.listOf ys.toArray n)] ∧ StrsAre ys (headT p a b :: (linesT t []).map (Str.ofString "in " ++ ·))) := by
  k_with_none
  (k_with "cj" => (first | exact fun h => h.1 | exact fun h => h.2.1 | exact fun h => h.2.2.1 | exact fun h => h.2.2.2.1 | exact fun h => h.2.2.2.2.1 | exact fun h => h.2.2.2.2.2.1 | exact fun h => h.2.2.2.2.2.2.1 | exact fun h => h.2.2.2.2.2.2.2.1 | exact fun h => h.2.2.2.2.2.2.2.2.1 | exact fun h => h.2.2.2.2.2.2.2.2.2.1 | exact fun h => h.2.2.2.2.2.2.2.2.2.2.1 | exact fun h => h.2.2.2.2.2.2.2.2.2.2.2.1 | exact fun h => h.2.2.2.2.2.2.2.2.2.2.2.2.1 | exact fun h => h.2.2.2.2.2.2.2.2.2.2.2.2.2.1 | exact fun h => h.2 | exact fun h => h.2.2 | exact fun h => h.2.2.2 | exact fun h => h.2.2.2.2 | exact fun h => h.2.2.2.2.2 | exact fun h => h.2.2.2.2.2.2 | exact fun h => h.2.2.2.2.2.2.2 | exact fun h => h.2.2.2.2.2.2.2.2 | exact fun h => h.2.2.2.2.2.2.2.2.2 | exact fun h => h.2.2.2.2.2.2.2.2.2.2 | exact fun h => h.2.2.2.2.2.2.2.2.2.2.2 | exact fun h => h.2.2.2.2.2.2.2.2.2.2.2.2 | exact fun h => h.2.2.2.2.2.2.2.2.2.2.2.2.2))
  (k_with "omega" => (with_reducible first | assumption | exact Nat.le_of_ble_eq_true (by decide) | exact Nat.ne_of_gt (by assumption) | exact Nat.ne_of_lt (by assumption) | exact Mine.lm1 (by assumption) (by decide) | exact Mine.lm2 (by assumption) (by decide) | exact Mine.lm3 (by assumption) (by decide) | exact Mine.lm4 (by assumption) (by decide) | exact Mine.lm5 (by assumption) (by decide) | exact Mine.lm6 (by assumption) (by decide) | exact Mine.lm7 (by assumption) (by decide) | exact Mine.lm8 (by assumption) (by decide) | exact Mine.lm9 (by assumption) (by decide) | exact Int.natCast_nonneg _ | (refine Mine.cj1 (by assumption) ?_; k_extra "cj") | (refine Mine.cj2 (by assumption) ?_; k_extra "cj") | (refine Mine.cj3 (by assumption) ?_; k_extra "cj") | (refine Mine.cj4 (by assumption) ?_; k_extra "cj") | (refine Mine.cj5 (by assumption) (by assumption) ?_; k_extra "cj") | (refine Mine.cj6 (by assumption) (by assumption) ?_; k_extra "cj") | (refine Mine.cj7 (by assumption) (by assumption) (by assumption) ?_; k_extra "cj") | (refine Mine.cj8 (by assumption) (by assumption) (by assumption) ?_; k_extra "cj") | exact Mine.cj9 (by assumption) (by assumption) | exact Mine.cj10 (by assumption) (by assumption) | (refine Mine.cl1 (by assumption) ?_; k_extra "cj") | (refine Mine.cl2 (by assumption) (by assumption) ?_; k_extra "cj") | exact Mine.ns1 (by assumption) | exact Mine.ns2 (by assumption) | exact Mine.ns3 | exact Mine.ns4 | exact Mine.lm10 (by assumption) (by decide) | exact Mine.lm11 (by assumption) (by decide) | exact Mine.lm12 (by assumption) (by assumption) (by decide) | exact Mine.lm12 (by assumption) (Nat.le_refl _) (by decide) | exact Mine.lm13 (by assumption) (by assumption) (by decide) | exact Mine.lm13 (by assumption) (Nat.le_refl _) (by decide) | fail))
  (k_with "k_inst" => exact instAt_base (by assumption) (by assumption) (by assumption))
  (k_with "k_all" => assumption)
  (k_with "k_ne" => first | exact neMem (by assumption) (by k_mem) | fail "neMem")
  (k_with "eval ListComp" => ((with_reducible show wpAny _ _ (eval (Expr.ListComp (Expr.Call _ _ _ _) _ _ _) _) _ _ _); k_here; k_dflt (refine comp_strs (by assumption) (by rfl) (by assumption) (by assumption) (by with_unfolding_all rfl) (by decide) (by rfl) (by decide) (by rfl) (by rfl) (by rfl) (fun _ => by rfl) (fun _ => by rfl) (by decide) ?_)))
  (k_with "eval ListComp" => ((with_reducible show wpAny _ _ (eval (Expr.ListComp (Expr.BinOp _ _ _ _) _ _ _) _) _ _ _); k_here; k_dflt (refine comp_in (by assumption) (by rfl) (by with_unfolding_all rfl) (by decide) (by rfl) (by decide) (by rfl) (fun _ => by rfl) ?_)))
  (k_with "StrSrc" => (refine StrSrc.intro (.inr (tup_at (by assumption) (by assumption))) (by assumption) (by (rw [List.length_map]; omega)) (by assumption) (by assumption) (by assumption) ?_; intro D' h' tk' ys' F' N' ne' hk' hys'; clear hk'; (try dsimp only); (try k_sweep)))
  (k_with "call builtin:str.join" => (k_here; refine join_path (by is_list) (by assumption) (by assumption) (by assumption) ?_; intro t' k'))
  (k_with "eval IfExp" => (k_here; k_dflt ((refine' ifexp_pre ?z1r115 ?z2r115 ?z3r115 ?_); (case z1r115 => decide); (case z2r115 => exact looks_local (by assumption) (by rfl) (by rfl) (by rfl) (by rfl) (by decide)); (case z3r115 => omega); intro t' tk')))
  (k_with "call builtin:list.extend" => (k_here; k_dflt (refine' extend_use (by assumption) (by assumption) ?z0r116 ?zUr116 ?z1r116 ?z2r116 ?z3r116 ?_); (case z0r116 => k_mem); (case zUr116 => k_upd); (case z1r116 => omega); (case z2r116 => omega); (case z3r116 => first | omega | (simp only [List.length_append, List.length_cons, List.length_nil]; omega)); intro h' F' N'; (try k_sweep)))
  (k_with "binaryOp Add ref ref" => (k_here; (with_reducible show wpAny _ _ (binaryOp _ (Value.ref _) (Value.ref _)) _ _ _); k_dflt (refine' path_add (by assumption) (by assumption) ?z0r117 ?z1r117 ?z2r117 ?_); (case z0r117 => exact tup_at (by assumption) (by assumption)); (case z1r117 => k_mem); (case z2r117 => omega); intro D' h' F' N' ht'; (try k_sweep)))
  (k_with "call ref" => (k_here; (with_reducible show wpAny _ _ (call (Value.ref 85) [Value.ref _]) _ _ _); k_dflt (refine' told_call (pa := 79) (vs := []) (p := []) (by assumption) (by assumption) (.inr ⟨rfl, rfl⟩) ?z0r118 .nil (by simp) ?z3r118 ?z4r118 (by assumption) (by assumption) (by assumption) (by assumption) (by assumption) (by rfl) ?z5r118 ?z6r118 ?_); (case z0r118 => exact tup79 (by assumption) (by assumption)); (case z3r118 => (simp only [List.length_nil]; omega)); (case z4r118 => assumption); (case z5r118 => omega); (case z6r118 => omega); intro D' ys' n' h' tk' F' N' nD' hs' hl1' hl2'; (try k_sweep)))
  (k_with "exec For Tuple Call cons nil" => (k_here; k_dflt (refine' For_turns (by assumption) ?_ (by intro _; rfl) ?zEr119); (case zEr119 => (with_unfolding_all exact PassesOwn.never))))
  (k_with "call type:enumerate" => (k_here; k_dflt (refine' told_enum0 (by rfl) (by rfl) (by assumption) (by assumption) (by assumption) (by rfl) (by rfl) (by rfl) ?_); (intro n th h' tk' x1 x2 F' N'); (try k_sweep)))
  (k_with "InSrc" => (k_dflt (refine' InSrc.intro ?a1r121 ?a2r121 ?a3r121 ?a4r121 ?a5r121 ?a6r121 ?_); (case a1r121 => is_list); (case a2r121 => assumption); (case a3r121 => omega); (case a4r121 => assumption); (case a5r121 => assumption); (case a6r121 => assumption); intro D' h' tk' ys' F' N' nD' hk' hys'; clear hk'; (have hyl' := StrsAre.length hys'); (rw [List.length_map] at hyl'); (try dsimp only); (try k_sweep)))
  have hpre := preS_len p hpi (c := Str.ofString " ") (by decide)
  have hps := pathS_len p hpi
  have hvl : vs.length = p.length := by rw [IntsAre.length hv, List.length_map]
  have hnat : ∀ n ∈ intsL p, n.natAbs < 10 ^ 9 := fun n hn => by
    obtain ⟨i, hi, rfl⟩ := List.mem_map.mp hn
    have := hpi i hi
    omega
  have hlin : ∀ y ∈ linesT t [], y.length ≤ 1000 := fun y hy => by
    have := linesT_len t [] (by simp) ok y hy
    simp only [List.length_nil] at this
    omega
  have hfew := linesT_few (t := t) (by omega) []
  have hsome := linesT_some t []
  refine spec_of [("part", .ref x), ("path", .ref pa)] (by k_is) (by k_is) (fun s X => by rcases hargs with rfl | ⟨rfl, rfl⟩ <;> exact binds_K X rfl (by k_is) rfl rfl rfl) (locs rfl) ?_ (by omega)
  rintro pr loose mean mg mb dp un gd outer A₀ base g L' s B' F' N' X' T' ⟨⟨kl, y, n, hO, hkl, hP⟩, ht⟩ hdp hun hlt
  k_fold
  obtain ⟨dx, fl, kk, dk, ps, n1, n2, s1, s2, s3, s4, s5, s6, s7, s8, t1, t2, t3, u6, r1, r2, r3, ra, rb, h1, h2', h3, h4⟩ := hO
  have h1 : g.get? x = some _ := h1
  have h2' : g.get? dx = some _ := h2'
  have h3 : g.get? kk = some _ := h3
  have h4 : g.get? dk = some _ := h4
  k_steps
  · exact Fin.intro (own' := [(_, W.listOf _ _)]) (by assumption) (fun q hq => (by assumption : News _ _ _ _) q (by rw [List.mem_singleton.mp hq]; k_mem)) ⟨_, _, _, rfl, rfl, strsAre_append (.cons _ _ .nil) (by assumption)⟩
end
end Mine
end
-- Told3
section
open PySem PySem.W PyProof.Rows PySem.Calls PySem.Spec
namespace Mine
theorem told_spec (prog : Program) (w : World) : ∀ t : TreeD, ToldSpec prog w t
  | .leaf a b => fun x pa p vs args hargs hp hpi hv ok => by
    refine Spec.weaken (told_kids prog w a b ok.1 ok.2 [] (by decide) 0 x pa p vs args (by simp) (by omega) hargs hpi hv) (fun g ⟨hP, ht⟩ => ⟨?_, ht⟩) (fun g v o h => h)
    cases hP with
    | leaf hO hk => exact ⟨_, [], _, hO, hk, rfl, fun i v h => by simp at h⟩
  | .one a b t => fun x pa p vs args hargs hp hpi hv ok => by
    have ih := told_spec prog w t
    simp only [TreeD.depth] at hp
    refine Spec.weaken (told_kids prog w a b ok.1.1 ok.1.2 [t] (by simp) (t.depth + 1) x pa p vs args (fun u hu => by rw [List.mem_singleton.mp hu]; exact ⟨ih, by omega, Nat.le_refl _, ok.2⟩) (by omega) hargs hpi hv) (fun g ⟨hP, ht⟩ => ⟨?_, ht⟩) (fun g v o h => ?_)
    · cases hP with
      | one hO hk h1 =>
        obtain ⟨y, rfl⟩ := h1.ref
        refine ⟨_, [_], _, hO, hk, rfl, fun i v h => ?_⟩
        have hi : i = 0 := by have := (List.getElem?_eq_some_iff.mp h).1; simpa using this
        subst hi
        simp at h
        exact ⟨y, t, h.symm, rfl, h1⟩
    · simpa [ToldPost, linesT, kidsT] using h
  | .two a b t u => fun x pa p vs args hargs hp hpi hv ok => by
    have ih1 := told_spec prog w t
    have ih2 := told_spec prog w u
    simp only [TreeD.depth] at hp
    refine Spec.weaken (told_kids prog w a b ok.1.1 ok.1.2 [t, u] (by simp) (max t.depth u.depth + 1) x pa p vs args (fun z hz => ?_) (by omega) hargs hpi hv) (fun g ⟨hP, ht⟩ => ⟨?_, ht⟩) (fun g v o h => ?_)
    · rcases List.mem_cons.mp hz with rfl | hz
      · exact ⟨ih1, by omega, by omega, ok.2.1⟩
      · rw [List.mem_singleton.mp hz]; exact ⟨ih2, by omega, by omega, ok.2.2⟩
    · cases hP with
      | two hO hk h1 h2 =>
        obtain ⟨y, rfl⟩ := h1.ref
        obtain ⟨z, rfl⟩ := h2.ref
        refine ⟨_, [_, _], _, hO, hk, rfl, fun i v h => ?_⟩
        have hi : i = 0 ∨ i = 1 := by have := (List.getElem?_eq_some_iff.mp h).1; simp at this; omega
        rcases hi with rfl | rfl
        · simp at h; exact ⟨y, t, h.symm, rfl, h1⟩
        · simp at h; exact ⟨z, u, h.symm, rfl, h2⟩
    · simpa [ToldPost, linesT, kidsT] using h
  | .inn a b t => fun x pa p vs args hargs hp hpi hv ok => by
    have ih := told_spec prog w t
    simp only [TreeD.depth] at hp
    refine Spec.weaken (told_inn prog w a b ok.1.1 ok.1.2 t ih (by omega) ok.2 (t.depth + 1) (Nat.le_refl _) x pa p vs args (by omega) hargs hpi hv) (fun g ⟨hP, ht⟩ => ⟨?_, ht⟩) (fun g v o h => h)
    cases hP with
    | inn hO hk h1 =>
      obtain ⟨y, rfl⟩ := h1.ref
      exact ⟨_, y, _, hO, hk, h1⟩
end Mine
end
-- LineA
section
open PySem PySem.W PyProof.Rows PySem.Calls PySem.Spec
namespace Mine
theorem headT_eq (p : List Nat) (a b : Str) : preS p (Str.ofString " ") ++ kindS a b = headT p a b := by
  unfold headT
  rw [Str.append_assoc, Str.append_assoc, ← Str.append_assoc a]
theorem place_step (p : List Nat) (i : Nat) : preS p (Str.ofString ".") ++ Str.ofString (toString ((i : Int) + 1)) = pathS (p ++ [i + 1]) := by
  rw [pathS_snoc]; rfl
def LinesSpec (prog : Program) (w : World) (t : TreeD) : Prop :=
  ∀ (y : Addr) (p : List Nat) (x : Str) (tp : Tok), x = pathS p → p.length + t.depth ≤ 3 → (∀ i ∈ p, i < 1000) → t.Ok →
    Spec prog w 316 [.ref y, .str x tp] (10 + 4 * t.depth) (500 + 40 * t.depth) [] (fun g => TreeP (onH g) (.ref y) t) (ToldPost t p)
def KidsL (M : Addr → Obj → Prop) (its : List Value) (ts : List TreeD) : Prop := its.length = ts.length ∧ ∀ (i : Nat) (v : Value), its[i]? = some v → ∃ (x : Addr) (t : TreeD), v = Value.ref x ∧ ts[i]? = some t ∧ TreeP M (.ref x) t

/-- a call of _law_lines -/
theorem lines_call {prog : Program} {w : World} {t : TreeD} {y : Addr} {p : List Nat} {x : Str} {tp : Tok} {pr : Program} {loose : List Str} {mean : ExcName → Option Value} {mg mb : Str → Option Value} {dp un : Nat} {gd : Option (List Code)} {cn : Str} {cs : Scope} {a : Addr} {ccd : Value} {cl : List (Str × Addr)} {outer : List Env} {A₀ : Around} {base h₀ : Heap} {L : Addr} {m : Str → Option Value} {s : Shared} {news : List (Addr × Obj)}
    {Q E : Value → Shared → Prop} (hP : TreeP (onH h₀) (.ref y) t) (S : LinesSpec prog w t) (hx : x = pathS p) (hpi : ∀ i ∈ p, i < 1000) (hp : p.length + t.depth ≤ 3) (ok : t.Ok)
    (B : Below A₀ base outer h₀) (F : Fr h₀ L s.heap m) (X : (Mine.hd.heap_1 w.params).In h₀) (N : News h₀ L s.heap news) (T : Top pr loose mean mg mb h₀) (hk : cs.kind = .function) (hd : dp + (10 + 4 * t.depth) < recursionLimit) (hu : un + (500 + 40 * t.depth) < cLine)
    (ret : ∀ (D : Addr) (ys : List Value) (n : Nat) h' tk', Fr h₀ L h' m → News h₀ L h' ((D, W.listOf ys.toArray n) :: news) → (∀ q ∈ news, q.1 ≠ D) → StrsAre ys (linesT t p) → 1 ≤ ys.length → ys.length ≤ 15 → Q (.ref D) { s with heap := h', toks := tk' }) :
    wpAny (model prog w) (ktrTop dp un gd cn cs L a ccd cl outer) (call (.ref 316) [.ref y, .str x tp]) Q E s := by
  refine Spec.use0 (S y p x tp hx hp hpi ok) B F X N T hk (hP.mono fun a o h => F.keep a o h) hd hu ?_
  rintro r own' h' tk' F' N' N2 ne ⟨D, ys, n, rfl, rfl, hs⟩
  have hl := StrsAre.length hs
  refine ret D ys n h' tk' F' (fun q hq => ?_) (fun q hq => ne _ (List.mem_singleton.mpr rfl) q hq) hs (by rw [hl]; exact linesT_some t p) (by rw [hl]; exact linesT_few (by omega) p)
  rcases List.mem_cons.mp hq with rfl | hq
  · exact N2 _ (List.mem_singleton.mpr rfl)
  · exact N' q hq

/-- between two turns -/
def LinesJ (hd : Str) (ts : List TreeD) (p : List Nat) (m₀ : Str → Option Value) (i : Nat) (m₁ : Str → Option Value) (news₁ : List (Addr × Obj)) : Prop :=
  ∃ (l : Addr) (ys : List Value) (n : Nat), news₁ = [(l, W.listOf ys.toArray n)] ∧ StrsAre ys (hd :: kidsT p 0 (ts.take i)) ∧ m₁ (Str.ofString "found") = some (.ref l) ∧ ∀ z, z ≠ Str.ofString "spot" → z ≠ Str.ofString "found" → m₁ z = m₀ z
theorem lines_frame {m₁ m₀ : Str → Option Value} {l : Addr} {b : Option Value} (hf : m₁ (Str.ofString "found") = some (.ref l)) (h : ∀ z, z ≠ Str.ofString "spot" → z ≠ Str.ofString "found" → m₁ z = m₀ z) : (fun y => if y = Str.ofString "spot" then b else m₁ y) = (fun y => if y = Str.ofString "spot" then b else if y = Str.ofString "found" then some (.ref l) else m₀ y) := by
  funext y
  by_cases h1 : y = Str.ofString "spot"
  · rw [if_pos h1, if_pos h1]
  by_cases h2 : y = Str.ofString "found"
  · rw [if_neg h1, if_neg h1, if_pos h2, h2, hf]
  rw [if_neg h1, if_neg h1, if_neg h2, h y h1 h2]
theorem lines_out {m₁ m₀ : Str → Option Value} {l : Addr} (hf : m₁ (Str.ofString "found") = some (.ref l)) (h : ∀ z, z ≠ Str.ofString "spot" → z ≠ Str.ofString "found" → m₁ z = m₀ z) : m₁ = (fun y => if y = Str.ofString "spot" then m₁ (Str.ofString "spot") else if y = Str.ofString "found" then some (.ref l) else m₀ y) := by
  funext y
  by_cases h1 : y = Str.ofString "spot"
  · rw [if_pos h1, h1]
  by_cases h2 : y = Str.ofString "found"
  · rw [if_neg h1, if_pos h2, h2, hf]
  rw [if_neg h1, if_neg h2, h y h1 h2]
section
variable {prog : Program} {w : World} {A : Around} {E : Value → Shared → Prop} {s : Shared} {env : Env} {h₀ : Heap} {L : Addr} {m : Str → Option Value}
theorem lines_range {n0 : Nat} {ra l : Addr} {its : List Value} {ts : List TreeD} {p : List Nat} {hd : Str} {th tp t u v : Tok} {z : Int} {rest : List (Addr × Obj)} {body : List Stmt} {Q : Flow → Shared → Prop} (hLe : env.locals = L) (hh : A.handled = none) (hr : IsRange s.heap ra 0 z 1 t u v) (hK : KidsL (onH h₀) its ts) (hz : z = (its.length : Int))
    (h2 : ts.length ≤ 2) {e : Nat} (_hpl : m (Str.ofString "place") = some (.str (pathS p) tp)) (hS : ∀ t ∈ ts, LinesSpec prog w t ∧ p.length + 1 + t.depth ≤ 3 ∧ t.depth + 1 ≤ e ∧ t.Ok) (F : Fr h₀ L s.heap m) (N : News h₀ L s.heap ((l, W.listOf #[.str hd th] n0) :: rest)) (hf : m (Str.ofString "found") = some (.ref l))
    (step : ∀ (i : Nat) (tv : Tok) (x : Addr) (t : TreeD) (l : Addr) (ys : List Value) (n : Nat) (I : Addr) (oI : Obj) (s' : Shared), i < 2 → ts[i]? = some t → its[i]? = some (.ref x) → TreeP (onH h₀) (.ref x) t → LinesSpec prog w t → p.length + 1 + t.depth ≤ 3 → t.depth + 1 ≤ e → t.Ok → StrsAre ys (hd :: kidsT p 0 (ts.take i)) → ys.length ≤ 31 →
      @Ne Nat l I → Fr h₀ L s'.heap (fun y => if y = Str.ofString "spot" then some (.int (i : Int) tv) else if y = Str.ofString "found" then some (.ref l) else m y) → News h₀ L s'.heap [(I, oI), (l, W.listOf ys.toArray n)] → wpAny (model prog w) A (execs body env) (TurnEnd h₀ L I oI (LinesJ hd ts p m (i + 1)) s') E s')
    (out : ∀ (l : Addr) (ys : List Value) (n : Nat) (h' : Heap) (tk' : Nat) (x1 : Option Value), StrsAre ys (hd :: kidsT p 0 ts) → ys.length ≤ 31 → Fr h₀ L h' (fun y => if y = Str.ofString "spot" then x1 else if y = Str.ofString "found" then some (.ref l) else m y) → News h₀ L h' [(l, W.listOf ys.toArray n)] → Q .next { s with heap := h', toks := tk' }) :
    wpAny (model prog w) A (pyIter (.ref ra)) (fun it s₂ => LoopAtU prog w A h₀ env (Str.ofString "spot") body Q E it s₂) E s := by
  subst hLe
  obtain ⟨hlen, hK⟩ := hK
  rw [hlen] at hz
  subst hz
  have hd3 : ∀ t ∈ ts, t.depth ≤ 3 := fun t ht => by have := (hS t ht).2.1; omega
  have hys : ∀ (i : Nat) (ys : List Value), StrsAre ys (hd :: kidsT p 0 (ts.take i)) → ys.length ≤ 31 := fun i ys h => by
    rw [StrsAre.length h, List.length_cons]
    have := kidsT_few p (ts.take i) 0 fun t ht => hd3 t (List.mem_of_mem_take ht)
    have : (ts.take i).length ≤ 2 := by rw [List.length_take]; omega
    omega
  have hn : ts.length = 0 ∨ ts.length = 1 ∨ ts.length = 2 := by omega
  have hsm : Builtin.Range.small 0 ((ts.length : Nat) : Int) 1 = true := by rcases hn with h | h | h <;> rw [h] <;> decide +kernel
  have hsz : Builtin.Range.rangeSize 0 ((ts.length : Nat) : Int) 1 = ((ts.length : Nat) : Int) := by rcases hn with h | h | h <;> rw [h] <;> decide +kernel
  refine iter_range_U hh hr hsm hsz F (fun q hq => N q (by rw [List.mem_singleton.mp hq]; exact List.mem_cons_self ..)) (LinesJ hd ts p m) ⟨l, [.str hd th], n0, rfl, by simpa [kidsT] using StrsAre.cons hd th .nil, hf, fun _ _ _ => rfl⟩ ?_ ?_
  · rintro i tv m₁ news₁ I oI s' hi ⟨l', ys, n, rfl, hs, hf', hm⟩ hI F' N'
    have hi' : i < its.length := by omega
    obtain ⟨x, t, hx, ht, hP⟩ := hK i _ (List.getElem?_eq_getElem hi')
    obtain ⟨S1, S2, S3, S4⟩ := hS t (List.mem_of_getElem? ht)
    rw [Int.zero_add, lines_frame hf' hm] at F'
    exact step i tv x t l' ys n I oI s' (by omega) ht (by rw [List.getElem?_eq_getElem hi', hx]) hP S1 S2 S3 S4 hs (hys i ys hs) (hI (l', W.listOf ys.toArray n) (List.mem_singleton.mpr rfl)) F' N'
  · rintro h' tk' m' news' F' N' ⟨l', ys, n, rfl, hs, hf', hm⟩
    rw [lines_out hf' hm] at F'
    have hs' := hs
    rw [List.take_length] at hs
    exact out l' ys n h' tk' _ hs (hys _ ys hs') F' N'
theorem lines_turn_end {D : Addr} {hd : Str} {ts : List TreeD} {p : List Nat} {i n : Nat} {t : TreeD} {ys zs : List Value} {I : Addr} {oI : Obj} {news : List (Addr × Obj)} {s' : Shared} {h' : Heap} {tk : Nat} {m₂ : Str → Option Value} (F : Fr h₀ L h' m₂) (N : News h₀ L h' news) (hm : (D, W.listOf (ys ++ zs).toArray n) ∈ news) (ho : (I, oI) ∈ news)
    (hol : @Ne Nat D I) (hs : StrsAre ys (hd :: kidsT p 0 (ts.take i))) (ht : ts[i]? = some t) (hz : StrsAre zs (linesT t (p ++ [i + 1]))) (hfo : m₂ (Str.ofString "found") = some (.ref D)) (hf : ∀ z, z ≠ Str.ofString "spot" → z ≠ Str.ofString "found" → m₂ z = m z) :
    TurnEnd h₀ L I oI (LinesJ hd ts p m (i + 1)) s' .next { s' with heap := h', toks := tk } := by
  refine TurnEnd.intro (news₂ := [(D, W.listOf (ys ++ zs).toArray n)]) F (fun q hq => ?_) (fun q hq => ?_) ⟨D, _, _, rfl, ?_, hfo, hf⟩
  · rcases List.mem_cons.mp hq with rfl | hq
    · exact N _ ho
    · rw [List.mem_singleton.mp hq]; exact N _ hm
  · rw [List.mem_singleton.mp hq]; exact hol
  · have hi : i < ts.length := (List.getElem?_eq_some_iff.mp ht).1
    rw [take_snoc ht, kidsT_snoc, List.length_take, Nat.zero_add, Nat.min_eq_left (by omega)]
    exact strsAre_append hs hz
theorem lines_range0 {n0 : Nat} {ra l : Addr} {hd : Str} {th t u v : Tok} {z : Int} {rest : List (Addr × Obj)} {body : List Stmt} {Q : Flow → Shared → Prop} (hLe : env.locals = L) (hh : A.handled = none) (hr : IsRange s.heap ra 0 z 1 t u v) (hz : z = 0) (F : Fr h₀ L s.heap m) (N : News h₀ L s.heap ((l, W.listOf #[.str hd th] n0) :: rest)) (hf : m (Str.ofString "found") = some (.ref l))
    (out : ∀ (l : Addr) (n : Nat) (th : Tok) (h' : Heap) (tk' : Nat) (x1 : Option Value), Fr h₀ L h' (fun y => if y = Str.ofString "spot" then x1 else if y = Str.ofString "found" then some (.ref l) else m y) → News h₀ L h' [(l, W.listOf #[.str hd th] n)] → Q .next { s with heap := h', toks := tk' }) :
    wpAny (model prog w) A (pyIter (.ref ra)) (fun it s₂ => LoopAtU prog w A h₀ env (Str.ofString "spot") body Q E it s₂) E s := by
  subst hLe hz
  refine iter_range_U (n := 0) hh hr (by decide +kernel) (by decide +kernel) F (fun q hq => N q (by rw [List.mem_singleton.mp hq]; exact List.mem_cons_self ..)) (LinesJ hd [] [] m) ⟨l, [.str hd th], n0, rfl, by simpa [kidsT] using StrsAre.cons hd th .nil, hf, fun _ _ _ => rfl⟩ (fun i tv m₁ news₁ I oI s' hi => absurd hi (Nat.not_lt_zero _)) ?_
  rintro h' tk' m' news' F' N' ⟨l', ys, n, rfl, hs, hf', hm⟩
  rw [lines_out hf' hm] at F'
  cases hs with
  | cons _ t h =>
    cases h
    exact out l' n t h' tk' _ F' N'
theorem cat_use {l b : Addr} {xs ys : List Value} {n n2 : Nat} {news : List (Addr × Obj)} {Q : Value → Shared → Prop} (F : Fr h₀ L s.heap m) (N : News h₀ L s.heap news) (hl : (l, W.listOf xs.toArray n) ∈ news) (hb : (b, W.listOf ys.toArray n2) ∈ news) (h1 : xs.length ≤ 100) (h2 : ys.length ≤ 100)
    (h : ∀ D h', Fr h₀ L h' m → News h₀ L h' ((D, W.listOf (xs ++ ys).toArray 0) :: news) → (∀ p ∈ news, p.1 < D) → Q (.ref D) { s with heap := h' }) : wpAny (model prog w) A (binaryOp .Add (.ref l) (.ref b)) Q E s :=
  list_cat F N (its := xs.toArray) (its2 := ys.toArray) ⟨_, (N _ hl).1, rfl, _, rfl⟩ ⟨_, (N _ hb).1, rfl, _, rfl⟩ (by rw [List.size_toArray, List.size_toArray, sizeLine_eq]; omega) fun D h' F' N' l1 => h D h' F' N' l1
theorem item_kid {value slice : PySem.Expr} {kl x : Addr} {its : List Value} {i : Nat} {u : Tok} {Q : Value → Shared → Prop} (hl : s.heap.IsList kl its.toArray) (hx : its[i]? = some (.ref x)) (hi : i < 2) (h : Q (.ref x) s)
    (hs : subscripted slice false (.ref kl) (.int (i : Int) u) = operate [.ref kl, .int (i : Int) u] (getItem (.ref kl) (.int (i : Int) u)) := by with_unfolding_all rfl) :
    wpAny (model prog w) A (subscriptTail value slice (.ref kl) (.int (i : Int) u)) Q E s := item_at hl (by omega) (by omega) (by simpa using hx) h hs
end
end Mine
end
-- Line1
section
open PySem PySem.W PyProof.Rows PySem.Calls PySem.Spec
namespace Mine
section
set_option maxHeartbeats 16000000 in
theorem lines_kids (prog : Program) (w : World) (a b : Str) (ha : a.length ≤ 20) (hb : b.length ≤ 20) (ts : List TreeD) (h2 : ts.length ≤ 2) (e : Nat) (y : Addr) (p : List Nat) (tp : Tok) (hS : ∀ t ∈ ts, LinesSpec prog w t ∧ p.length + 1 + t.depth ≤ 3 ∧ t.depth + 1 ≤ e ∧ t.Ok) (hpl : p.length ≤ 3) (hpi : ∀ i ∈ p, i < 1000) :
    Spec prog w 316 [.ref y, .str (pathS p) tp] (10 + 4 * e) (500 + 40 * e) [] (fun g => ∃ (kl : Addr) (its : List Value) (n : Nat) (tt : Tok), g.get? y = some (tupO [.str (kindS a b) tt, .ref kl, .none]) ∧ g.get? kl = some (W.listOf its.toArray n) ∧ KidsL (onH g) its ts)
      (fun _ v own' => ∃ (D : Addr) (ys : List Value) (n : Nat), v = .ref D ∧ own' = [(D, W.listOf ys.toArray n)] ∧ StrsAre ys (headT p a b :: kidsT p 0 ts)) := by
  k_with_none
  (k_with "cj" => (first | exact fun h => h.1 | exact fun h => h.2.1 | exact fun h => h.2.2.1 | exact fun h => h.2.2.2.1 | exact fun h => h.2.2.2.2.1 | exact fun h => h.2.2.2.2.2.1 | exact fun h => h.2.2.2.2.2.2.1 | exact fun h => h.2.2.2.2.2.2.2.1 | exact fun h => h.2.2.2.2.2.2.2.2.1 | exact fun h => h.2.2.2.2.2.2.2.2.2.1 | exact fun h => h.2.2.2.2.2.2.2.2.2.2.1 | exact fun h => h.2.2.2.2.2.2.2.2.2.2.2.1 | exact fun h => h.2.2.2.2.2.2.2.2.2.2.2.2.1 | exact fun h => h.2.2.2.2.2.2.2.2.2.2.2.2.2.1 | exact fun h => h.2 | exact fun h => h.2.2 | exact fun h => h.2.2.2 | exact fun h => h.2.2.2.2 | exact fun h => h.2.2.2.2.2 | exact fun h => h.2.2.2.2.2.2 | exact fun h => h.2.2.2.2.2.2.2 | exact fun h => h.2.2.2.2.2.2.2.2 | exact fun h => h.2.2.2.2.2.2.2.2.2 | exact fun h => h.2.2.2.2.2.2.2.2.2.2 | exact fun h => h.2.2.2.2.2.2.2.2.2.2.2 | exact fun h => h.2.2.2.2.2.2.2.2.2.2.2.2 | exact fun h => h.2.2.2.2.2.2.2.2.2.2.2.2.2))
  (k_with "omega" => (with_reducible first | assumption | exact Nat.le_of_ble_eq_true (by decide) | exact Nat.ne_of_gt (by assumption) | exact Nat.ne_of_lt (by assumption) | exact Mine.lm1 (by assumption) (by decide) | exact Mine.lm2 (by assumption) (by decide) | exact Mine.lm3 (by assumption) (by decide) | exact Mine.lm4 (by assumption) (by decide) | exact Mine.lm5 (by assumption) (by decide) | exact Mine.lm6 (by assumption) (by decide) | exact Mine.lm7 (by assumption) (by decide) | exact Mine.lm8 (by assumption) (by decide) | exact Mine.lm9 (by assumption) (by decide) | exact Int.natCast_nonneg _ | (refine Mine.cj1 (by assumption) ?_; k_extra "cj") | (refine Mine.cj2 (by assumption) ?_; k_extra "cj") | (refine Mine.cj3 (by assumption) ?_; k_extra "cj") | (refine Mine.cj4 (by assumption) ?_; k_extra "cj") | (refine Mine.cj5 (by assumption) (by assumption) ?_; k_extra "cj") | (refine Mine.cj6 (by assumption) (by assumption) ?_; k_extra "cj") | (refine Mine.cj7 (by assumption) (by assumption) (by assumption) ?_; k_extra "cj") | (refine Mine.cj8 (by assumption) (by assumption) (by assumption) ?_; k_extra "cj") | exact Mine.cj9 (by assumption) (by assumption) | exact Mine.cj10 (by assumption) (by assumption) | (refine Mine.cl1 (by assumption) ?_; k_extra "cj") | (refine Mine.cl2 (by assumption) (by assumption) ?_; k_extra "cj") | exact Mine.ns1 (by assumption) | exact Mine.ns2 (by assumption) | exact Mine.ns3 | exact Mine.ns4 | exact Mine.lm10 (by assumption) (by decide) | exact Mine.lm11 (by assumption) (by decide) | exact Mine.lm12 (by assumption) (by assumption) (by decide) | exact Mine.lm12 (by assumption) (Nat.le_refl _) (by decide) | exact Mine.lm13 (by assumption) (by assumption) (by decide) | exact Mine.lm13 (by assumption) (Nat.le_refl _) (by decide) | fail))
  (k_with "k_all" => assumption)
  (k_with "k_ne" => first | exact neMem (by assumption) (by k_mem) | fail "neMem")
  (k_with "eval ListComp" => ((with_reducible show wpAny _ _ (eval (Expr.ListComp (Expr.BinOp _ _ _ _) _ _ _) _) _ _ _); k_here; k_dflt (refine comp_in (by assumption) (by rfl) (by with_unfolding_all rfl) (by decide) (by rfl) (by decide) (by rfl) (fun _ => by rfl) ?_)))
  (k_with "eval IfExp" => (k_here; first
  | k_dflt ((refine' ifexp_kind ?z1r125 ?z2r125 ?z3r125 ?z4r125 ?_); (case z1r125 => exact looks_local (by assumption) (by rfl) (by rfl) (by rfl) (by rfl) (by decide)); (case z2r125 => exact looks_local (by assumption) (by rfl) (by rfl) (by rfl) (by rfl) (by decide)); (case z3r125 => omega); (case z4r125 => assumption); intro t' tk')
  | k_dflt ((refine' ifexp_pre ?z1r125 ?z2r125 ?z3r125 ?_); (case z1r125 => decide); (case z2r125 => exact looks_local (by assumption) (by rfl) (by rfl) (by rfl) (by rfl) (by decide)); (case z3r125 => omega); intro t' tk')))
  (k_with "exec For Name Call cons nil" => (k_here; k_dflt (refine' for_inv (by assumption) (by rfl) (by rfl) ?_ (by intro _; rfl) ?zEr126); (case zEr126 => (with_unfolding_all exact PassesOwn.never))))
  (k_with "binaryOp Add ref ref" => (k_here; (with_reducible show wpAny _ _ (binaryOp _ (Value.ref _) (Value.ref _)) _ _ _); k_dflt (refine' cat_use (by assumption) (by assumption) ?z0r127 ?z1r127 ?z2r127 ?z3r127 ?_); (case z0r127 => k_mem); (case z1r127 => k_mem); (case z2r127 => first | omega | (simp only [List.length_append, List.length_cons, List.length_nil]; omega)); (case z3r127 => omega); intro D' h' F' N' l1; (try k_lt l1); (try k_sweep)))
  (k_with "call builtin:len" => (k_here; (with_reducible show wpAny _ _ (call (Value.builtin "len") [Value.ref _]) _ _ _); k_dflt (refine' PySem.Calls.call_len_list (items := List.toArray _) ?z1r128 ?z2r128 ?_); (case z1r128 => is_list); (case z2r128 => (rw [List.size_toArray]; omega)); (try dsimp only)))
  (k_with "call ref" => (k_here; (with_reducible show wpAny _ _ (call (Value.ref 316) [Value.ref _, Value.str _ _]) _ _ _); k_dflt (refine' lines_call (by assumption) (by assumption) ?z1r129 ?z2r129 ?z3r129 ?z4r129 (by assumption) (by assumption) (by assumption) (by assumption) (by assumption) (by rfl) ?z5r129 ?z6r129 ?_); (case z1r129 => exact place_step _ _); (case z2r129 => exact mem_snoc (by assumption) (by omega)); (case z3r129 => (simp only [List.length_append, List.length_singleton]; omega)); (case z4r129 => assumption); (case z5r129 => omega); (case z6r129 => omega); intro D' ys' n' h' tk' F' N' nD' hs' hl1' hl2'; (try k_sweep)))
  (k_with "pyIter ref" => (k_here; k_dflt (refine' lines_range (by rfl) (by rfl) (by assumption) (by assumption) ?z1r130 (by assumption) ?z2r130 (by assumption) (by assumption) (by assumption) ?z3r130 (fun i tv x t l ys n I oI s' hi hti hxi hP S1 S2 S3 S4 hs hl hol F' N' => ?_) (fun l ys n h' tk' x1 hs hl F' N' => ?_)); (case z1r130 => first | rfl | simp); (case z2r130 => rfl); (case z3r130 => rfl); (all_goals (try k_sweep))))
  (k_with "subscriptTail" => (k_here; (with_unfolding_all refine' item_kid ?k1r131 ?k2r131 ?k3r131 ?_ ?k6r131; (case k1r131 => is_list); (case k2r131 => assumption); (case k3r131 => assumption); (case k6r131 => with_unfolding_all rfl); k_whole)))
  have hpre := preS_len p hpi (c := Str.ofString " ") (by decide)
  have hpre2 := preS_len p hpi (c := Str.ofString ".") (by decide)
  have hps := pathS_len p hpi
  have hkl : (kindS a b).length ≤ 1000 := by rw [Str.length_append, Str.length_append, show (Str.ofString "/").length = 1 from by decide]; omega
  refine spec_of [("tree", .ref y), ("place", .str (pathS p) tp)] (by k_is) (by k_is) (fun s _ => BindsTo.of_eq rfl) (locs rfl) ?_ (by omega)
  rintro pr loose mean mg mb dp un gd outer A₀ base g L' s B' F' N' X' T' ⟨kl, its, n, tt, hy, hk, hK⟩ hdp hun hlt
  k_fold
  have hil : its.length ≤ 2 := by rw [hK.1]; exact h2
  have hkl1 : g.IsList kl its.toArray := ⟨_, hk, rfl, _, rfl⟩
  have hty : s.heap.IsTuple y _ := tup_at ⟨_, hy, rfl, _, rfl⟩ F'
  have hty2 : IsTup s.heap y _ := hty
  k_steps
  · refine' lines_turn_end (by assumption) (by assumption) ?q1 ?q2 ?q4 (by assumption) (by assumption) (by assumption) ?q5 ?q3
    case q1 => k_mem
    case q2 => k_mem
    case q4 => omega
    case q5 => rfl
    case q3 => (intro z h1 h2; simp only [h1, h2, if_false])
  · exact Fin.intro (by assumption) (by assumption) ⟨_, _, _, rfl, rfl, by rw [← headT_eq]; assumption⟩
end
end Mine
end
-- Line2
section
open PySem PySem.W PyProof.Rows PySem.Calls PySem.Spec
namespace Mine
section
set_option maxHeartbeats 16000000 in
theorem lines_inn (prog : Program) (w : World) (a b : Str) (ha : a.length ≤ 20) (hb : b.length ≤ 20) (t : TreeD) (S : LinesSpec prog w t) (hd3 : t.depth ≤ 2) (ok : t.Ok) (e : Nat) (he : t.depth + 1 ≤ e) (y : Addr) (p : List Nat) (tp : Tok) (hpl : p.length ≤ 3) (hpi : ∀ i ∈ p, i < 1000) :
    Spec prog w 316 [.ref y, .str (pathS p) tp] (10 + 4 * e) (500 + 40 * e) [] (fun g => ∃ (kl z : Addr) (n : Nat) (tt : Tok), g.get? y = some (tupO [.str (kindS a b) tt, .ref kl, .ref z]) ∧ g.get? kl = some (W.listOf ([] : List Value).toArray n) ∧ TreeP (onH g) (.ref z) t)
      (fun _ v own' => ∃ (D : Addr) (ys : List Value) (n : Nat), v = .ref D ∧ own' = [(D, W.listOf ys.toArray n)] ∧ StrsAre ys (headT p a b :: (linesT t []).map (Str.ofString "in " ++ ·))) := by
  k_with_none
  (k_with "cj" => (first | exact fun h => h.1 | exact fun h => h.2.1 | exact fun h => h.2.2.1 | exact fun h => h.2.2.2.1 | exact fun h => h.2.2.2.2.1 | exact fun h => h.2.2.2.2.2.1 | exact fun h => h.2.2.2.2.2.2.1 | exact fun h => h.2.2.2.2.2.2.2.1 | exact fun h => h.2.2.2.2.2.2.2.2.1 | exact fun h => h.2.2.2.2.2.2.2.2.2.1 | exact fun h => h.2.2.2.2.2.2.2.2.2.2.1 | exact fun h => h.2.2.2.2.2.2.2.2.2.2.2.1 | exact fun h => h.2.2.2.2.2.2.2.2.2.2.2.2.1 | exact fun h => h.2.2.2.2.2.2.2.2.2.2.2.2.2.1 | exact fun h => h.2 | exact fun h => h.2.2 | exact fun h => h.2.2.2 | exact fun h => h.2.2.2.2 | exact fun h => h.2.2.2.2.2 | exact fun h => h.2.2.2.2.2.2 | exact fun h => h.2.2.2.2.2.2.2 | exact fun h => h.2.2.2.2.2.2.2.2 | exact fun h => h.2.2.2.2.2.2.2.2.2 | exact fun h => h.2.2.2.2.2.2.2.2.2.2 | exact fun h => h.2.2.2.2.2.2.2.2.2.2.2 | exact fun h => h.2.2.2.2.2.2.2.2.2.2.2.2 | exact fun h => h.2.2.2.2.2.2.2.2.2.2.2.2.2))
  (k_with "omega" => (with_reducible first | assumption | exact Nat.le_of_ble_eq_true (by decide) | exact Nat.ne_of_gt (by assumption) | exact Nat.ne_of_lt (by assumption) | exact Mine.lm1 (by assumption) (by decide) | exact Mine.lm2 (by assumption) (by decide) | exact Mine.lm3 (by assumption) (by decide) | exact Mine.lm4 (by assumption) (by decide) | exact Mine.lm5 (by assumption) (by decide) | exact Mine.lm6 (by assumption) (by decide) | exact Mine.lm7 (by assumption) (by decide) | exact Mine.lm8 (by assumption) (by decide) | exact Mine.lm9 (by assumption) (by decide) | exact Int.natCast_nonneg _ | (refine Mine.cj1 (by assumption) ?_; k_extra "cj") | (refine Mine.cj2 (by assumption) ?_; k_extra "cj") | (refine Mine.cj3 (by assumption) ?_; k_extra "cj") | (refine Mine.cj4 (by assumption) ?_; k_extra "cj") | (refine Mine.cj5 (by assumption) (by assumption) ?_; k_extra "cj") | (refine Mine.cj6 (by assumption) (by assumption) ?_; k_extra "cj") | (refine Mine.cj7 (by assumption) (by assumption) (by assumption) ?_; k_extra "cj") | (refine Mine.cj8 (by assumption) (by assumption) (by assumption) ?_; k_extra "cj") | exact Mine.cj9 (by assumption) (by assumption) | exact Mine.cj10 (by assumption) (by assumption) | (refine Mine.cl1 (by assumption) ?_; k_extra "cj") | (refine Mine.cl2 (by assumption) (by assumption) ?_; k_extra "cj") | exact Mine.ns1 (by assumption) | exact Mine.ns2 (by assumption) | exact Mine.ns3 | exact Mine.ns4 | exact Mine.lm10 (by assumption) (by decide) | exact Mine.lm11 (by assumption) (by decide) | exact Mine.lm12 (by assumption) (by assumption) (by decide) | exact Mine.lm12 (by assumption) (Nat.le_refl _) (by decide) | exact Mine.lm13 (by assumption) (by assumption) (by decide) | exact Mine.lm13 (by assumption) (Nat.le_refl _) (by decide) | fail))
  (k_with "k_all" => assumption)
  (k_with "k_ne" => first | exact neMem (by assumption) (by k_mem) | fail "neMem")
  (k_with "eval ListComp" => ((with_reducible show wpAny _ _ (eval (Expr.ListComp (Expr.BinOp _ _ _ _) _ _ _) _) _ _ _); k_here; k_dflt (refine comp_in (by assumption) (by rfl) (by with_unfolding_all rfl) (by decide) (by rfl) (by decide) (by rfl) (fun _ => by rfl) ?_)))
  (k_with "eval IfExp" => (k_here; first
  | k_dflt ((refine' ifexp_kind ?z1r135 ?z2r135 ?z3r135 ?z4r135 ?_); (case z1r135 => exact looks_local (by assumption) (by rfl) (by rfl) (by rfl) (by rfl) (by decide)); (case z2r135 => exact looks_local (by assumption) (by rfl) (by rfl) (by rfl) (by rfl) (by decide)); (case z3r135 => omega); (case z4r135 => assumption); intro t' tk')
  | k_dflt ((refine' ifexp_pre ?z1r135 ?z2r135 ?z3r135 ?_); (case z1r135 => decide); (case z2r135 => exact looks_local (by assumption) (by rfl) (by rfl) (by rfl) (by rfl) (by decide)); (case z3r135 => omega); intro t' tk')))
  (k_with "exec For Name Call cons nil" => (k_here; k_dflt (refine' for_inv (by assumption) (by rfl) (by rfl) ?_ (by intro _; rfl) ?zEr136); (case zEr136 => (with_unfolding_all exact PassesOwn.never))))
  (k_with "binaryOp Add ref ref" => (k_here; (with_reducible show wpAny _ _ (binaryOp _ (Value.ref _) (Value.ref _)) _ _ _); k_dflt (refine' cat_use (by assumption) (by assumption) ?z0r137 ?z1r137 ?z2r137 ?z3r137 ?_); (case z0r137 => k_mem); (case z1r137 => k_mem); (case z2r137 => first | omega | (simp only [List.length_append, List.length_cons, List.length_nil]; omega)); (case z3r137 => omega); intro D' h' F' N' l1; (try k_lt l1); (try k_sweep)))
  (k_with "call ref" => (k_here; (with_reducible show wpAny _ _ (call (Value.ref 316) [Value.ref _, Value.str _ _]) _ _ _); k_dflt (refine' lines_call (p := []) (by assumption) (by assumption) ?z1r138 (by simp) ?z3r138 ?z4r138 (by assumption) (by assumption) (by assumption) (by assumption) (by assumption) (by rfl) ?z5r138 ?z6r138 ?_); (case z1r138 => exact pathS_nil.symm); (case z3r138 => (simp only [List.length_nil]; omega)); (case z4r138 => assumption); (case z5r138 => omega); (case z6r138 => omega); intro D' ys' n' h' tk' F' N' nD' hs' hl1' hl2'; (try k_sweep)))
  (k_with "pyIter ref" => (k_here; k_dflt (refine' lines_range0 (by rfl) (by rfl) (by assumption) ?z1r139 (by assumption) (by assumption) ?z3r139 (fun l n th h' tk' x1 F' N' => ?_)); (case z1r139 => first | rfl | simp); (case z3r139 => rfl); (all_goals (try k_sweep))))
  (k_with "InSrc" => (k_dflt (refine' InSrc.intro ?a1r140 ?a2r140 ?a3r140 ?a4r140 ?a5r140 ?a6r140 ?_); (case a1r140 => is_list); (case a2r140 => assumption); (case a3r140 => omega); (case a4r140 => assumption); (case a5r140 => assumption); (case a6r140 => assumption); intro D' h' tk' ys' F' N' nD' hk' hys'; clear hk'; (have hyl' := StrsAre.length hys'); (rw [List.length_map] at hyl'); (try dsimp only); (try k_sweep)))
  have hpre := preS_len p hpi (c := Str.ofString " ") (by decide)
  have hps := pathS_len p hpi
  have hkl : (kindS a b).length ≤ 1000 := by rw [Str.length_append, Str.length_append, show (Str.ofString "/").length = 1 from by decide]; omega
  have hlin : ∀ y ∈ linesT t [], y.length ≤ 1000 := fun y hy => by
    have := linesT_len t [] (by simp) ok y hy
    simp only [List.length_nil] at this
    omega
  have hfew := linesT_few (t := t) (by omega) []
  have hsome := linesT_some t []
  refine spec_of [("tree", .ref y), ("place", .str (pathS p) tp)] (by k_is) (by k_is) (fun s _ => BindsTo.of_eq rfl) (locs rfl) ?_ (by omega)
  rintro pr loose mean mg mb dp un gd outer A₀ base g L' s B' F' N' X' T' ⟨kl, z, n, tt, hy, hk, hP⟩ hdp hun hlt
  k_fold
  have hkl1 : g.IsList kl ([] : List Value).toArray := ⟨_, hk, rfl, _, rfl⟩
  have hty : s.heap.IsTuple y _ := tup_at ⟨_, hy, rfl, _, rfl⟩ F'
  have hty2 : IsTup s.heap y _ := hty
  k_steps
  · exact Fin.intro (own' := [(_, W.listOf _ _)]) (by assumption) (fun q hq => (by assumption : News _ _ _ _) q (by rw [List.mem_singleton.mp hq]; k_mem)) ⟨_, _, _, rfl, rfl, by rw [← headT_eq]; exact strsAre_append (.cons _ _ .nil) (by assumption)⟩
end
end Mine
end
-- Line3
section
open PySem PySem.W PyProof.Rows PySem.Calls PySem.Spec
namespace Mine
theorem lines_spec (prog : Program) (w : World) : ∀ t : TreeD, LinesSpec prog w t
  | .leaf a b => fun y p x tp hx hp hpi ok => by
    subst hx
    refine Spec.weaken (lines_kids prog w a b ok.1 ok.2 [] (by decide) 0 y p tp (by simp) (by omega) hpi) (fun g hP => ?_) (fun g v o h => h)
    cases hP with
    | leaf h1 h2 => exact ⟨_, [], _, _, h1, h2, rfl, fun i v h => by simp at h⟩
  | .one a b t => fun y p x tp hx hp hpi ok => by
    subst hx
    have ih := lines_spec prog w t
    simp only [TreeD.depth] at hp
    refine Spec.weaken (lines_kids prog w a b ok.1.1 ok.1.2 [t] (by simp) (t.depth + 1) y p tp (fun u hu => by rw [List.mem_singleton.mp hu]; exact ⟨ih, by omega, Nat.le_refl _, ok.2⟩) (by omega) hpi) (fun g hP => ?_) (fun g v o h => ?_)
    · cases hP with
      | one hO hk h1 =>
        obtain ⟨z, rfl⟩ := h1.ref
        refine ⟨_, [_], _, _, hO, hk, rfl, fun i v h => ?_⟩
        have hi : i = 0 := by have := (List.getElem?_eq_some_iff.mp h).1; simpa using this
        subst hi
        simp at h
        exact ⟨z, t, h.symm, rfl, h1⟩
    · simpa [ToldPost, linesT, kidsT] using h
  | .two a b t u => fun y p x tp hx hp hpi ok => by
    subst hx
    have ih1 := lines_spec prog w t
    have ih2 := lines_spec prog w u
    simp only [TreeD.depth] at hp
    refine Spec.weaken (lines_kids prog w a b ok.1.1 ok.1.2 [t, u] (by simp) (max t.depth u.depth + 1) y p tp (fun z hz => ?_) (by omega) hpi) (fun g hP => ?_) (fun g v o h => ?_)
    · rcases List.mem_cons.mp hz with rfl | hz
      · exact ⟨ih1, by omega, by omega, ok.2.1⟩
      · rw [List.mem_singleton.mp hz]; exact ⟨ih2, by omega, by omega, ok.2.2⟩
    · cases hP with
      | two hO hk h1 h2 =>
        obtain ⟨z, rfl⟩ := h1.ref
        obtain ⟨z', rfl⟩ := h2.ref
        refine ⟨_, [_, _], _, _, hO, hk, rfl, fun i v h => ?_⟩
        have hi : i = 0 ∨ i = 1 := by have := (List.getElem?_eq_some_iff.mp h).1; simp at this; omega
        rcases hi with rfl | rfl
        · simp at h; exact ⟨z, t, h.symm, rfl, h1⟩
        · simp at h; exact ⟨z', u, h.symm, rfl, h2⟩
    · simpa [ToldPost, linesT, kidsT] using h
  | .inn a b t => fun y p x tp hx hp hpi ok => by
    subst hx
    have ih := lines_spec prog w t
    simp only [TreeD.depth] at hp
    refine Spec.weaken (lines_inn prog w a b ok.1.1 ok.1.2 t ih (by omega) ok.2 (t.depth + 1) (Nat.le_refl _) y p tp (by omega) hpi) (fun g hP => ?_) (fun g v o h => h)
    cases hP with
    | inn hO hk h1 =>
      obtain ⟨z, rfl⟩ := h1.ref
      exact ⟨_, z, _, _, hO, hk, h1⟩
end Mine
end
-- CompL
section
open PySem PySem.W PyProof.Rows PySem.Calls PySem.Spec
namespace Mine
section
variable {prog : Program} {w : World} {A : Around} {E : Value → Shared → Prop} {s : Shared} {env : Env} {h₀ : Heap} {L : Addr} {m : Str → Option Value}
/-- what stands behind an element -/
def TEndL (h₀ : Heap) (L : Addr) (m : Str → Option Value) (s : Shared) (own : List (Addr × Obj)) (R : List (Addr × Obj) → Prop) (s' : Shared) : Prop :=
  ∃ h' tk own', s' = { s with heap := h', toks := tk } ∧ Fr h₀ L h' m ∧ News h₀ L h' own' ∧ (∀ b o, b ≠ L → s.heap.get? b = some o → b ∉ own.map (·.1) → h'.get? b = some o) ∧ FreshX s.heap own own' ∧ R own'
theorem TEndL.intro {s : Shared} {own own' : List (Addr × Obj)} {R : List (Addr × Obj) → Prop} {h' : Heap} {tk : Nat} (F : Fr h₀ L h' m) (N : News h₀ L h' own') (k : ∀ b o, b ≠ L → s.heap.get? b = some o → b ∉ own.map (·.1) → h'.get? b = some o) (f : FreshX s.heap own own') (r : R own') :
    TEndL h₀ L m s own R { s with heap := h', toks := tk } := ⟨h', tk, own', rfl, F, N, k, f, r⟩
theorem TEndL.same {s : Shared} {own : List (Addr × Obj)} {R : List (Addr × Obj) → Prop} {tk : Nat} (F : Fr h₀ L s.heap m) (N : News h₀ L s.heap own) (r : R own) :
    TEndL h₀ L m s own R { s with toks := tk } := ⟨s.heap, tk, own, rfl, F, N, fun _ _ _ e _ => e, fun p hp => .inl (List.mem_map_of_mem hp), r⟩

/-- a turn: the target has been stored in C's namespace -/
def TurnL (prog : Program) (w : World) (A : Around) (h₀ : Heap) (L : Addr) (m : Str → Option Value) (cenv : Env) (elt : PySem.Expr) (ifs : List PySem.Expr) (own : List (Addr × Obj)) (Ry : Value → List (Addr × Obj) → Prop) (Rn : List (Addr × Obj) → Prop) (E : Value → Shared → Prop) (s : Shared) : Prop :=
  wpAny (model prog w) A (forIn ifs true fun c r => if r = true then do let ok ← isTrue c cenv (eval c cenv); pure (ForInStep.yield ok) else pure (ForInStep.yield r)) (fun ok s₃ =>
    if ok = true then wpAny (model prog w) A (eval elt cenv) (fun y s₄ => TEndL h₀ L m s own (Ry y) s₄) E s₃ else TEndL h₀ L m s own Rn s₃) E s
/-- a source that is at hand: the iterator, what a turn keeps, what comes of it -/
def BlockAtL (prog : Program) (w : World) (A : Around) (h₀ : Heap) (L : Addr) (m : Str → Option Value) (env : Env) (elt target : PySem.Expr) (ifs : List PySem.Expr) (scope : Scope) (cl : List (Str × Addr)) (mf : Addr → Str → Option Value) (Fin : Addr → Shared → Prop) (it : Value) (s₂ : Shared) : Prop :=
  ∃ (I : Addr) (fp wr : List Addr) (n : Nat) (P Md : Nat → Value → Heap → Prop) (St : Nat → Heap → Prop) (own : List (Addr × Obj)) (R : Nat → List Value → List (Addr × Obj) → Prop) (V : Nat → Value → (Str → Option Value) → Prop),
    it = .ref I ∧ KTurns prog w A target I fp wr n P Md St ∧ (∀ (s : Shared) (Q : Value → Shared → Prop) (E : Value → Shared → Prop), St 0 s.heap → Q (.ref I) s → wpAny (model prog w) A (pyIter (.ref I)) Q E s) ∧ n ≤ sizeLine ∧
    St 0 s₂.heap ∧ (∀ b ∈ fp, b < s₂.heap.objs.size) ∧ (∀ i h, St i h → ∀ b ∈ fp, (h.get? b).isSome = true) ∧ Fr h₀ L s₂.heap m ∧ News h₀ L s₂.heap own ∧ (∀ b ∈ wr, h₀.get? b = none) ∧ L ∉ wr ∧ L ∉ fp ∧ (∀ p ∈ own, p.1 ∉ fp) ∧
    (∀ i v (C : Addr) (mc : Str → Option Value) (s : Shared) (Q : Unit → Shared → Prop) (E : Value → Shared → Prop), P i v s.heap → s.heap.Ns C mc →
      (∀ h' tk mc', h'.Ns C mc' → V i v mc' → (∀ b o, b ≠ C → s.heap.get? b = some o → h'.get? b = some o) → Q () { s with heap := h', toks := tk }) → wpAny (model prog w) A (assign target (compEnvC scope cl C env) v) Q E s) ∧
    R 0 [] own ∧
    (∀ i v ys own₁ (C : Addr) (mc : Str → Option Value) (s : Shared) (E' : Value → Shared → Prop), i < n → ys.length ≤ i → (∃ hp, P i v hp) → R i ys own₁ → Fr h₀ L s.heap m → News h₀ L s.heap own₁ → s.heap.Ns C mc → V i v mc → C ≠ L → h₀.get? C = none → (∀ p ∈ own₁, p.1 ≠ C) →
      (∀ b o, b ≠ L → s₂.heap.get? b = some o → b ∉ own.map (·.1) → b ∉ wr → s.heap.get? b = some o) → (∃ h tk, s = { s₂ with heap := h, toks := tk }) →
      TurnL prog w A h₀ L m (compEnvC scope cl C env) elt ifs own₁ (fun y own' => R (i + 1) (ys ++ [y]) own') (fun own' => R (i + 1) ys own') E' s) ∧
    ∀ D h tk ys own', Fr h₀ L h (mf D) → News h₀ L h own' → h.get? D = some (LCg.lst ys) → h₀.get? D = none → D ≠ L → (∀ p ∈ own', p.1 ≠ D) → s₂.heap.get? D = none → R n ys own' →
      (∀ b o, b ≠ L → s₂.heap.get? b = some o → b ∉ own.map (·.1) → b ∉ wr → h.get? b = some o) → FreshX s₂.heap own own' → Fin D { s₂ with heap := h, toks := tk }

theorem TurnL.plain {cenv : Env} {elt : PySem.Expr} {own : List (Addr × Obj)} {Ry : Value → List (Addr × Obj) → Prop} {Rn : List (Addr × Obj) → Prop}
    (h : wpAny (model prog w) A (eval elt cenv) (fun y s₄ => TEndL h₀ L m s own (Ry y) s₄) E s) : TurnL prog w A h₀ L m cenv elt [] own Ry Rn E s := wpAny_tests_nil (by simpa using h)
theorem TurnL.test {cenv : Env} {c elt : PySem.Expr} {own : List (Addr × Obj)} {Ry : Value → List (Addr × Obj) → Prop} {Rn : List (Addr × Obj) → Prop}
    (h : wpAny (model prog w) A (isTrue c cenv (eval c cenv)) (fun ok s₃ => if ok = true then wpAny (model prog w) A (eval elt cenv) (fun y s₄ => TEndL h₀ L m s own (Ry y) s₄) E s₃ else TEndL h₀ L m s own Rn s₃) E s) :
    TurnL prog w A h₀ L m cenv elt [c] own Ry Rn E s := wpAny_tests_one h

/-- the block over an iterator that is at hand -/
theorem block_GL {elt target iter : PySem.Expr} {ifs : List PySem.Expr} {scope : Scope} {cl : List (Str × Addr)} {pos : Pos} {s₂ : Shared} {I : Addr} {fp wr : List Addr} {n : Nat} {P Md : Nat → Value → Heap → Prop} {St : Nat → Heap → Prop}
    {own : List (Addr × Obj)} {R : Nat → List Value → List (Addr × Obj) → Prop} {RR : Value → Addr → Result → Shared → Prop} {V : Nat → Value → (Str → Option Value) → Prop}
    (W : KTurns prog w A target I fp wr n P Md St) (hself : ∀ (s : Shared) (Q : Value → Shared → Prop) (E : Value → Shared → Prop), St 0 s.heap → Q (.ref I) s → wpAny (model prog w) A (pyIter (.ref I)) Q E s) (hsz : n ≤ sizeLine)
    (hcell : ∀ y ∈ scope.names, y.2 ≠ .cell) (hkind : scope.kind = .function) (hst : St 0 s₂.heap) (hfp : ∀ b ∈ fp, b < s₂.heap.objs.size) (hfpo : ∀ i h, St i h → ∀ b ∈ fp, (h.get? b).isSome = true)
    (F : Fr h₀ L s₂.heap m) (N : News h₀ L s₂.heap own) (hwr : ∀ b ∈ wr, h₀.get? b = none) (hLw : L ∉ wr) (hLf : L ∉ fp) (off : ∀ p ∈ own, p.1 ∉ fp)
    (hasg : ∀ i v (C : Addr) (mc : Str → Option Value) (s : Shared) (Q : Unit → Shared → Prop) (E : Value → Shared → Prop), P i v s.heap → s.heap.Ns C mc →
      (∀ h' tk mc', h'.Ns C mc' → V i v mc' → (∀ b o, b ≠ C → s.heap.get? b = some o → h'.get? b = some o) → Q () { s with heap := h', toks := tk }) → wpAny (model prog w) A (assign target (compEnvC scope cl C env) v) Q E s)
    (R0 : R 0 [] own)
    (turn : ∀ i v ys own₁ (C : Addr) (mc : Str → Option Value) (s : Shared) (E' : Value → Shared → Prop), i < n → ys.length ≤ i → (∃ hp, P i v hp) → R i ys own₁ → Fr h₀ L s.heap m → News h₀ L s.heap own₁ → s.heap.Ns C mc → V i v mc → C ≠ L → h₀.get? C = none → (∀ p ∈ own₁, p.1 ≠ C) →
      (∀ b o, b ≠ L → s₂.heap.get? b = some o → b ∉ own.map (·.1) → b ∉ wr → s.heap.get? b = some o) → (∃ h tk, s = { s₂ with heap := h, toks := tk }) →
      TurnL prog w A h₀ L m (compEnvC scope cl C env) elt ifs own₁ (fun y own' => R (i + 1) (ys ++ [y]) own') (fun own' => R (i + 1) ys own') E' s)
    (hRR : ∀ D C h tk mc ys own', Fr h₀ L h m → News h₀ L h own' → h.get? D = some (LCg.lst ys) → h.Ns C mc → h₀.get? C = none → h₀.get? D = none → C ≠ L → D ≠ L → C ≠ D → (∀ p ∈ own', p.1 ≠ C ∧ p.1 ≠ D) → s₂.heap.get? D = none → s₂.heap.get? C = none →
      R n ys own' → (∀ b o, b ≠ L → s₂.heap.get? b = some o → b ∉ own.map (·.1) → b ∉ wr → h.get? b = some o) → FreshX s₂.heap own own' → RR (.ref D) C (.ok .next) { s₂ with heap := h, toks := tk }) :
    wpAny (model prog w) A (newList []) (fun acc s₃ => wpAny (model prog w) A (newFunctionEnv scope env.globals cl [] env.qual none .none (some env)) (fun cenv s₄ =>
      codeAny (model prog w) A (.compStart (.ListComp elt [⟨target, iter, ifs, 0⟩] scope pos) 0 (.ref I) acc { cenv with scope := relabel scope env }) (RR acc cenv.locals) s₄) E s₃) E s₂ :=
  block_X (fun b => b = L) W hself hsz hcell hkind hst hfp hfpo F N hwr hLw (fun _ q => q) (fun _ hb q => hLf (q ▸ hb)) off hasg R0 turn hRR

theorem comp_evalL {elt target iter : PySem.Expr} {ifs : List PySem.Expr} {scope : Scope} {cl : List (Str × Addr)} {pos : Pos} {Q : Value → Shared → Prop}
    (hclos : closureFor scope env = pure cl) (hcell : ∀ y ∈ scope.names, y.2 ≠ .cell) (hkind : scope.kind = .function)
    (hnames : ∀ y ∈ scope.names, y.2 = .local → scope.names.lookup y.1 = some .local)
    (h : wpAny (model prog w) A (eval iter env) (fun xv s₁ => wpAny (model prog w) A (pyIter xv) (BlockAtL prog w A h₀ L m env elt target ifs scope cl (fun _ => m) (fun D s₂ => Q (.ref D) s₂)) E s₁) E s)
    (hs : ∀ x, foldedSetIterable iter env x = pure x := by intro _; rfl) :
    wpAny (model prog w) A (eval (.ListComp elt [⟨target, iter, ifs, 0⟩] scope pos) env) Q E s := by
  rw [eval_ListComp]
  refine wpAny_comprehension_free (use := none) rfl hs hclos hkind hnames (wpAny_mono h (fun xv s₁ h₁ => wpAny_mono h₁ (fun it s₂ h₂ => ?_) fun _ _ e => e) fun _ _ e => e)
  obtain ⟨I, fp, wr, n, P, Md, St, own, R, V, rfl, W, hself, hsz, hst, hfp, hfpo, F, N, hwr, hLw, hLf, off, hasg, R0, turn, fin⟩ := h₂
  refine block_GL (RR := fun acc C => compPost (model prog w) A E none Q acc C) W hself hsz hcell hkind hst hfp hfpo F N hwr hLw hLf off hasg R0 turn ?_
  intro D C h' tk mc ys own' F' N' hD' hn hC₀ hD₀ hCL hDL hCD offC hsD hsC hR hk hf
  have sC : s₂.heap.get? C = none := hsC
  refine ⟨mc, hn, fun h'' hs'' => ?_⟩
  exact fin D h'' tk ys own' (F'.change hs'' hCL hC₀) (fun p hp => ⟨hs''.extBut _ _ (offC p hp).1 (N' p hp).1, (N' p hp).2⟩) (hs''.extBut _ _ (Ne.symm hCD) hD') hD₀ hDL (fun p hp => (offC p hp).2) hsD hR (fun b o hb e h1 h2 => hs''.extBut b o (fun q => by rw [q, sC] at e; cases e) (hk b o hb e h1 h2)) hf

end

section
variable {prog : Program} {w : World} {A : Around} {E : Value → Shared → Prop} {s₁ : Shared} {env : Env} {h₀ : Heap} {L : Addr} {m : Str → Option Value}
  {elt target : PySem.Expr} {ifs : List PySem.Expr} {scope : Scope} {cl : List (Str × Addr)} {mf : Addr → Str → Option Value} {Fin : Addr → Shared → Prop}
/-- over a range by ones, one name; the block owns nothing, its turns may touch the frame's slots -/
theorem src_rangeL {R : Nat → List Value → Prop} {x : Str} {px : Pos} {r : Addr} {a b : Int} {t u v : Tok} {n : Nat} (hh : A.handled = none) (hr : IsRange s₁.heap r a b 1 t u v) (hsm : Builtin.Range.small a b 1 = true) (hn : Builtin.Range.rangeSize a b 1 = ((n : Nat) : Int)) (hsz : n ≤ sizeLine) (hkind : scope.kind = .function) (hx : scope.names.lookup x = some .local)
    (F : Fr h₀ L s₁.heap m) (R0 : R 0 [])
    (turn : ∀ i ys (C : Addr) (mc : Str → Option Value) (s : Shared) (E' : Value → Shared → Prop), i < n → R i ys → Fr h₀ L s.heap m → s.heap.Ns C mc → (∃ tv, mc x = some (.int (a + (i : Int)) tv)) → C ≠ L → h₀.get? C = none →
      (∀ b o, b ≠ L → s₁.heap.get? b = some o → s.heap.get? b = some o) → (∃ h tk, s = { s₁ with heap := h, toks := tk }) →
      TurnL prog w A h₀ L m (compEnvC scope cl C env) elt ifs [] (fun y own' => own' = [] ∧ R (i + 1) (ys ++ [y])) (fun own' => own' = [] ∧ R (i + 1) ys) E' s)
    (fin : ∀ D h tk ys, Fr h₀ L h (mf D) → h.get? D = some (LCg.lst ys) → h₀.get? D = none → D ≠ L → s₁.heap.get? D = none → R n ys → (∀ b o, b ≠ L → s₁.heap.get? b = some o → h.get? b = some o) → Fin D { s₁ with heap := h, toks := tk }) :
    wpAny (model prog w) A (pyIter (.ref r)) (BlockAtL prog w A h₀ L m env elt (.Name x px) ifs scope cl mf Fin) E s₁ := by
  refine wpAny_pyIter_range hr hsm ?_
  have W := LCg.range_walks (prog := prog) (w := w) (A := A) (I := s₁.heap.objs.size) hh a n
  have hLs : L < s₁.heap.objs.size := F.ns.lt
  have fresh0 : h₀.get? s₁.heap.objs.size = none := none_at_size F
  have up : ∀ (x : Obj) (b : Addr) (o : Obj), s₁.heap.get? b = some o → (s₁.heap.push x).get? b = some o := fun x b o e => Heap.get?_push_of_some _ e
  refine ⟨s₁.heap.objs.size, _, _, n, _, _, _, [], fun i ys own => own = [] ∧ R i ys, fun i _ mc => ∃ tv, mc x = some (.int (a + (i : Int)) tv), rfl, KTurns.ofWalks W fun _ _ _ _ _ _ h => go_name h, fun s Q E st h => W.self 0 s Q E st h, hsz, ?_, ?_, ?_, F.push _, News.nil, ?_, ?_, ?_, List.forall_mem_nil _, ?_, ⟨rfl, R0⟩, ?_, ?_⟩
  · show IsRangeIter _ _ _ _ _
    rw [hn]
    simpa using Heap.get?_push_size _ rfl
  · intro b hb
    rw [List.mem_singleton.mp hb, Heap.size_push]
    exact Nat.lt_succ_self _
  · intro i h st b hb
    have st' : h.get? s₁.heap.objs.size = some _ := st
    rw [List.mem_singleton.mp hb, st']; rfl
  · intro b hb
    rw [List.mem_singleton.mp hb]; exact fresh0
  · intro hm
    exact absurd (List.mem_singleton.mp hm) (Nat.ne_of_lt hLs)
  · intro hm
    exact absurd (List.mem_singleton.mp hm) (Nat.ne_of_lt hLs)
  · intro i v C mc s Q E hP hn' h
    refine asg_name (val := fun i v => ∃ t, v = .int (a + (i : Int)) t) hkind hx i v C mc s Q E hP hn' fun h' tk mc' hn2 hv hk => ?_
    obtain ⟨v', ⟨tv, rfl⟩, hv'⟩ := hv
    exact h h' tk mc' hn2 ⟨tv, hv'⟩ hk
  · rintro i v ys own₁ C mc s E' hi _ _ ⟨rfl, hR⟩ F' _ hn' hV hCL hC0 _ hk ⟨h, tk, rfl⟩
    exact turn i ys C mc _ E' hi hR F' hn' hV hCL hC0 (fun b o hb e => hk b o hb (up _ b o e) (by simp) (fun hm => by rw [List.mem_singleton.mp hm] at e; exact absurd (Heap.lt_size e) (Nat.lt_irrefl _))) ⟨h, tk, rfl⟩
  · rintro D h tk ys own' F' _ hD hD0 hDL _ hsD ⟨rfl, hR⟩ hk _
    refine fin D h tk ys F' hD hD0 hDL ?_ hR fun b o hb e => hk b o hb (up _ b o e) (by simp) fun hm => by rw [List.mem_singleton.mp hm] at e; exact absurd (Heap.lt_size e) (Nat.lt_irrefl _)
    cases e : s₁.heap.get? D with
    | none => rfl
    | some o => have hsD' : (s₁.heap.push _).get? D = none := hsD; rw [up _ _ _ e] at hsD'; cases hsD'
end
end Mine
end
-- LawA
section
open PySem PySem.W PyProof.Rows PySem.Calls PySem.Spec
namespace Mine

/-- all that lies on the heap beyond the ground and the frame -/
def allNews (h₀ h : Heap) (L : Addr) : List (Addr × Obj) := (List.range h.objs.size).filterMap fun b => match h.get? b with
  | some o => if (h₀.get? b).isNone && !(Nat.beq b L) then some (b, o) else none
  | none => none
theorem allNews_news (h₀ h : Heap) (L : Addr) : News h₀ L h (allNews h₀ h L) := by
  intro p hp
  obtain ⟨b, _, hb⟩ := List.mem_filterMap.mp hp
  cases e : h.get? b with
  | none => rw [e] at hb; cases hb
  | some o =>
    rw [e] at hb
    simp only at hb
    split at hb
    · rename_i hc
      obtain rfl := Option.some.inj hb
      simp only [Bool.and_eq_true, Option.isNone_iff_eq_none, Bool.not_eq_true'] at hc
      exact ⟨e, (fun z => by have := hc.2; rw [show b = L from z, Nat.beq_refl] at this; cases this), hc.1⟩
    · cases hb
theorem allNews_mem {h₀ h : Heap} {L b : Addr} {o : Obj} (e : h.get? b = some o) (h0 : h₀.get? b = none) (hb : b ≠ L) : (b, o) ∈ allNews h₀ h L := by
  refine List.mem_filterMap.mpr ⟨b, List.mem_range.mpr (Heap.lt_size e), ?_⟩
  rw [e]
  have hz : Nat.beq b L = false := by
    cases q : Nat.beq b L with
    | false => rfl
    | true => exact absurd (Nat.eq_of_beq_eq_true q) hb
  simp [h0, hz]
theorem keep_all {h₀ h h' : Heap} {L : Addr} {m : Str → Option Value} (F : Fr h₀ L h m) (F' : Fr h₀ L h' m) (N : News h₀ L h' (allNews h₀ h L)) : ∀ b o, b ≠ L → h.get? b = some o → h'.get? b = some o := fun b o hb e => by
  cases q : h₀.get? b with
  | none => exact (N _ (allNews_mem e q hb)).1
  | some o' =>
    have := F.keep b o' q
    rw [e] at this
    obtain rfl := Option.some.inj this
    exact F'.keep b o q

theorem found_use (prog : Program) (w : World) (a lst : Addr) (ps : List Value) (b : BoxD) (u : Nat) (tu : Tok) (hn : b.letters.length ≤ 5) (hr : Rising b.letters) (hu : u < 1000)
    {p : Program} {loose : List Str} {mean : ExcName → Option Value} {mg mb : Str → Option Value} {dp un : Nat} {gd : Option (List Code)} {cn : Str} {cs : Scope} {af : Addr} {ccd : Value} {cl : List (Str × Addr)} {A₀ : Around} {h₀ : Heap} {L : Addr} {m : Str → Option Value} {s : Shared}
    {Q E : Value → Shared → Prop} (B : Below A₀ h₀ [] h₀) (F : Fr h₀ L s.heap m) (X : (Mine.hd.heap_1 w.params).In h₀) (T : Top p loose mean mg mb h₀) (hk' : cs.kind = .function) (hpre : BoxAt w s.heap a lst ps b) (hdp : dp + 12 < recursionLimit) (hun : un + 700 < cLine)
    (ret : ∀ h' tk', Fr h₀ L h' m → (∀ b o, b ≠ L → s.heap.get? b = some o → h'.get? b = some o) → Q (.bool true) { s with heap := h', toks := tk' }) :
    wpAny (model prog w) (ktrTop dp un gd cn cs L af ccd cl []) (call (.ref 326) [.ref a, .int u tu]) Q E s :=
  is_found_body prog w a lst ps b u tu hn hr hu B F X (allNews_news h₀ s.heap L) T hk' hpre hdp hun fun h' tk' F' N' => ret h' tk' F' (keep_all F F' N')

section
variable {prog : Program} {w : World} {E : Value → Shared → Prop} {s : Shared} {h₀ : Heap} {A₀ : Around} {L C : Addr} {m mc mg mb : Str → Option Value} {scope : Scope} {cl' cl : List (Str × Addr)}
  {p : Program} {loose : List Str} {mean : ExcName → Option Value} {p1 p2 p3 p4 p5 p6 p7 pos : Pos} {Q : Bool → Shared → Prop} {dp un : Nat} {gd : Option (List Code)} {cn : Str} {cs : Scope} {a : Addr} {ccd : Value} {env : Env}
set_option maxHeartbeats 1000000 in
theorem test_found {bx lst : Addr} {ps : List Value} {b : BoxD} {u : Nat} {tu : Tok} (hn5 : b.letters.length ≤ 5) (hri : Rising b.letters) (hu : u < 1000) (B : Below A₀ h₀ [] h₀) (F : Fr h₀ L s.heap m) (X : (Mine.hd.heap_1 w.params).In h₀) (T : Top p loose mean mg mb h₀) (hcs : cs.kind = .function) (hpre : BoxAt w s.heap bx lst ps b) (hdp : dp + 12 < recursionLimit) (hun : un + 700 < cLine)
    (hg : env.globals = mainGlobals) (hk : (compEnvC scope cl' C env).scope.kind = .function) (hkl : (compEnvC scope cl' C env).kindOf "_law_is_found" = some .globalImplicit)
    (lB : Looks (model prog w) (ktrTop dp un gd cn cs L a ccd cl []) "box" (.ref bx) (compEnvC scope cl' C env) s) (lU : Looks (model prog w) (ktrTop dp un gd cn cs L a ccd cl []) "uid" (.int (u : Int) tu) (compEnvC scope cl' C env) s)
    (h : ∀ h' tk', Fr h₀ L h' m → (∀ b o, b ≠ L → s.heap.get? b = some o → h'.get? b = some o) → Q false { s with heap := h', toks := tk' }) :
    wpAny (model prog w) (ktrTop dp un gd cn cs L a ccd cl []) (isTrue (.UnaryOp .Not (.Call (.Name "_law_is_found" p1) [.Name "box" p2, .Name "uid" p3] [] p4) p5) (compEnvC scope cl' C env) (eval (.UnaryOp .Not (.Call (.Name "_law_is_found" p1) [.Name "box" p2, .Name "uid" p3] [] p4) p5) (compEnvC scope cl' C env))) Q E s := by
  k_with_none
  (k_with "cj" => (first | exact fun h => h.1 | exact fun h => h.2.1 | exact fun h => h.2.2.1 | exact fun h => h.2.2.2.1 | exact fun h => h.2.2.2.2.1 | exact fun h => h.2.2.2.2.2.1 | exact fun h => h.2.2.2.2.2.2.1 | exact fun h => h.2.2.2.2.2.2.2.1 | exact fun h => h.2.2.2.2.2.2.2.2.1 | exact fun h => h.2.2.2.2.2.2.2.2.2.1 | exact fun h => h.2.2.2.2.2.2.2.2.2.2.1 | exact fun h => h.2.2.2.2.2.2.2.2.2.2.2.1 | exact fun h => h.2.2.2.2.2.2.2.2.2.2.2.2.1 | exact fun h => h.2.2.2.2.2.2.2.2.2.2.2.2.2.1 | exact fun h => h.2 | exact fun h => h.2.2 | exact fun h => h.2.2.2 | exact fun h => h.2.2.2.2 | exact fun h => h.2.2.2.2.2 | exact fun h => h.2.2.2.2.2.2 | exact fun h => h.2.2.2.2.2.2.2 | exact fun h => h.2.2.2.2.2.2.2.2 | exact fun h => h.2.2.2.2.2.2.2.2.2 | exact fun h => h.2.2.2.2.2.2.2.2.2.2 | exact fun h => h.2.2.2.2.2.2.2.2.2.2.2 | exact fun h => h.2.2.2.2.2.2.2.2.2.2.2.2 | exact fun h => h.2.2.2.2.2.2.2.2.2.2.2.2.2))
  (k_with "omega" => (with_reducible first | assumption | exact Nat.le_of_ble_eq_true (by decide) | exact Nat.ne_of_gt (by assumption) | exact Nat.ne_of_lt (by assumption) | exact Mine.lm1 (by assumption) (by decide) | exact Mine.lm2 (by assumption) (by decide) | exact Mine.lm3 (by assumption) (by decide) | exact Mine.lm4 (by assumption) (by decide) | exact Mine.lm5 (by assumption) (by decide) | exact Mine.lm6 (by assumption) (by decide) | exact Mine.lm7 (by assumption) (by decide) | exact Mine.lm8 (by assumption) (by decide) | exact Mine.lm9 (by assumption) (by decide) | exact Int.natCast_nonneg _ | (refine Mine.cj1 (by assumption) ?_; k_extra "cj") | (refine Mine.cj2 (by assumption) ?_; k_extra "cj") | (refine Mine.cj3 (by assumption) ?_; k_extra "cj") | (refine Mine.cj4 (by assumption) ?_; k_extra "cj") | (refine Mine.cj5 (by assumption) (by assumption) ?_; k_extra "cj") | (refine Mine.cj6 (by assumption) (by assumption) ?_; k_extra "cj") | (refine Mine.cj7 (by assumption) (by assumption) (by assumption) ?_; k_extra "cj") | (refine Mine.cj8 (by assumption) (by assumption) (by assumption) ?_; k_extra "cj") | exact Mine.cj9 (by assumption) (by assumption) | exact Mine.cj10 (by assumption) (by assumption) | (refine Mine.cl1 (by assumption) ?_; k_extra "cj") | (refine Mine.cl2 (by assumption) (by assumption) ?_; k_extra "cj") | exact Mine.ns1 (by assumption) | exact Mine.ns2 (by assumption) | exact Mine.ns3 | exact Mine.ns4 | exact Mine.lm10 (by assumption) (by decide) | exact Mine.lm11 (by assumption) (by decide) | exact Mine.lm12 (by assumption) (by assumption) (by decide) | exact Mine.lm12 (by assumption) (Nat.le_refl _) (by decide) | exact Mine.lm13 (by assumption) (by assumption) (by decide) | exact Mine.lm13 (by assumption) (Nat.le_refl _) (by decide) | fail))
  (k_with "eval Name" => ((with_reducible show wpAny _ _ (eval (Expr.Name _ _) (compEnvC _ _ _ _)) _ _ _); first
  | (refine Looks.use (by assumption) ?_)
  | (k_dflt (refine LCgL.ld_global (by assumption) (by assumption) (by assumption) (by k_is) ?_ (by assumption) (by assumption) (by assumption) (by decide)))))
  (k_with "call ref" => ((with_reducible show wpAny _ _ (call (Value.ref 326) [Value.ref _, Value.int _ _]) _ _ _); refine found_use _ _ _ _ _ _ _ _ (by assumption) (by assumption) (by assumption) (by assumption) (by assumption) (by assumption) (by assumption) (by assumption) (by assumption) (by assumption) (by assumption) ?_; intro h' tk' F' k'))
  repeat' (first | (walk1; (try dsimp only)))
  exact h _ _ (by assumption) (by assumption)
end
section
variable {prog : Program} {w : World} {E : Value → Shared → Prop} {s : Shared} {h₀ : Heap} {A₀ : Around} {L : Addr} {m mg mb : Str → Option Value} {scope : Scope} {cl' cl : List (Str × Addr)}
  {p : Program} {loose : List Str} {mean : ExcName → Option Value} {p1 p2 p3 p4 p5 p6 p7 pos : Pos} {dp un : Nat} {gd : Option (List Code)} {cn : Str} {cs : Scope} {a : Addr} {ccd : Value} {env : Env} {mf : Addr → Str → Option Value} {Fin : Addr → Shared → Prop}
/-- `[uid for uid in range(..) if not _law_is_found(box, uid)]`, at its source -/
theorem range_found {bx lst ra cB : Addr} {oB : Obj} {ps : List Value} {b : BoxD} {z : Int} {t u v : Tok} {E₁ news : List (Addr × Obj)} (hb : BoxN w E₁ bx lst ps b) (hn5 : b.letters.length ≤ 5) (hri : Rising b.letters) (hnx : b.next ≤ 30) (hz : z = (b.next : Int) + 1) (hr : IsRange s.heap ra 0 z 1 t u v)
    (B : Below A₀ h₀ [] h₀) (F : Fr h₀ L s.heap m) (X : (Mine.hd.heap_1 w.params).In h₀) (N : News h₀ L s.heap news) (hsub : ∀ q ∈ E₁, q ∈ news) (T : Top p loose mean mg mb h₀) (hcs : cs.kind = .function) (hdp : dp + 12 < recursionLimit) (hun : un + 700 < cLine)
    (hkind : scope.kind = .function) (hx : scope.names.lookup (Str.ofString "uid") = some .local) (hg : env.globals = mainGlobals) (hk : ∀ C, (compEnvC scope cl' C env).scope.kind = .function) (hkl : ∀ C, (compEnvC scope cl' C env).kindOf "_law_is_found" = some .globalImplicit) (hkb : ∀ C, (compEnvC scope cl' C env).kindOf "box" = some .cell)
    (hcB : cl'.lookup (Str.ofString "box") = some cB) (hmB : (cB, oB) ∈ news) (hoB : oB.data = .cell (some (.ref bx)))
    (out : ∀ D h tk, Fr h₀ L h (mf D) → News h₀ L h ((D, LCg.lst []) :: news) → (∀ p ∈ news, p.1 ≠ D) → Fin D { s with heap := h, toks := tk }) :
    wpAny (model prog w) (ktrTop dp un gd cn cs L a ccd cl []) (pyIter (.ref ra)) (BlockAtL prog w (ktrTop dp un gd cn cs L a ccd cl []) h₀ L m env (.Name "uid" p6) (.Name (Str.ofString "uid") p7) [.UnaryOp .Not (.Call (.Name "_law_is_found" p1) [.Name "box" p2, .Name "uid" p3] [] p4) p5] scope cl' mf Fin) E s := by
  subst hz
  have hsm : ∀ k, k ≤ 30 → Builtin.Range.small 0 ((k : Nat) + 1 : Int) 1 = true := by
    intro k hk
    have : ∀ j : _root_.Fin 31, Builtin.Range.small 0 ((j.val : Nat) + 1 : Int) 1 = true := by decide +kernel
    exact this ⟨k, by omega⟩
  have hsz : ∀ k, k ≤ 30 → Builtin.Range.rangeSize 0 ((k : Nat) + 1 : Int) 1 = ((k + 1 : Nat) : Int) := by
    intro k hk
    have : ∀ j : _root_.Fin 31, Builtin.Range.rangeSize 0 ((j.val : Nat) + 1 : Int) 1 = ((j.val + 1 : Nat) : Int) := by decide +kernel
    exact this ⟨k, by omega⟩
  refine src_rangeL (R := fun _ ys => ys = []) rfl hr (hsm _ hnx) (hsz _ hnx) (by rw [sizeLine_eq]; omega) hkind hx F rfl ?_ ?_
  · rintro i ys C mc s' E' hi rfl F' hn ⟨tv, hmc⟩ _ _ hkeep _
    rw [Int.zero_add] at hmc
    have N' : News h₀ L s'.heap news := fun q hq => ⟨hkeep _ _ (N q hq).2.1 (N q hq).1, (N q hq).2⟩
    refine TurnL.test (test_found hn5 hri (by omega) B F' X T hcs (hb.at fun q hq => N' q (hsub q hq)) hdp hun hg (hk C) (hkl C) (fun pos Q E h => lcf_cell N' hcB hmB hoB h (hk C) (hkb C)) (fun pos Q E h => nb_local hn hmc (hk C) (lookup_relabel_local hx) (by decide) h) fun h' tk' F2 k2 => ?_)
    simp only [Bool.false_eq_true, if_false]
    exact TEndL.intro F2 News.nil (fun b o hb e _ => k2 b o hb e) (fun q hq => nomatch hq) ⟨rfl, trivial⟩
  · rintro D h tk ys F' hD hD0 hDL hsD rfl hkeep
    refine out D h tk F' (fun q hq => ?_) (fun q hq e => ?_)
    · rcases List.mem_cons.mp hq with rfl | hq
      · exact ⟨hD, hDL, hD0⟩
      · exact ⟨hkeep _ _ (N q hq).2.1 (N q hq).1, (N q hq).2⟩
    · have := (N q hq).1; rw [e, hsD] at this; cases this
end
end Mine
end
-- LawB
section
open PySem PySem.W PyProof.Rows PySem.Calls PySem.Spec PyProof.V PyProof PySem.SeqAt
namespace Mine
theorem sok_append {x y : Str} (hx : PyData.strOk x = true) (hy : PyData.strOk y = true) : PyData.strOk (x ++ y) = true := by
  unfold PyData.strOk at *
  rw [Str.cps_append, Array.all_append, hx, hy]; rfl
theorem sok_num (n : Nat) : PyData.strOk (numS n) = true := by
  unfold PyData.strOk
  rw [Array.all_eq_true]
  intro i hi
  have := (numS_digits i _ (Array.getElem?_eq_getElem hi)).2
  exact decide_eq_true (by omega)
theorem sok_path : ∀ p : List Nat, PyData.strOk (pathS p) = true := by
  refine PyProof.Rows.FinIter.snoc_ind (by rw [pathS_nil]; decide +kernel) (fun l k ih => ?_)
  rw [pathS_snoc]
  refine sok_append ?_ (sok_num k)
  unfold preS
  split
  · decide +kernel
  · exact sok_append ih (by decide +kernel)
theorem sok_head (p : List Nat) {a b : Str} (ha : PyData.strOk a = true) (hb : PyData.strOk b = true) : PyData.strOk (headT p a b) = true := by
  unfold headT
  refine sok_append (sok_append (sok_append ?_ ha) (by decide +kernel)) hb
  unfold preS
  split
  · decide +kernel
  · exact sok_append (sok_path p) (by decide +kernel)
theorem sok_lines : ∀ (t : TreeD) (p : List Nat), t.Sok → ∀ y ∈ linesT t p, PyData.strOk y = true
  | .leaf a b, p, ok, y, hy => by
    simp only [linesT, List.mem_singleton] at hy
    subst hy
    exact sok_head p ok.1 ok.2
  | .one a b t, p, ok, y, hy => by
    simp only [linesT, List.mem_cons] at hy
    rcases hy with rfl | hy
    · exact sok_head p ok.1.1 ok.1.2
    · exact sok_lines t _ ok.2 y hy
  | .two a b t u, p, ok, y, hy => by
    simp only [linesT, List.mem_cons, List.mem_append] at hy
    rcases hy with rfl | hy | hy
    · exact sok_head p ok.1.1 ok.1.2
    · exact sok_lines t _ ok.2.1 y hy
    · exact sok_lines u _ ok.2.2 y hy
  | .inn a b t, p, ok, y, hy => by
    simp only [linesT, List.mem_cons, List.mem_map] at hy
    rcases hy with rfl | ⟨z, hz, rfl⟩
    · exact sok_head p ok.1.1 ok.1.2
    · exact sok_append (by decide +kernel) (sok_lines t [] ok.2 z hz)
theorem canLay_strs : ∀ xs : List Str, (∀ x ∈ xs, PyData.strOk x = true) → PyData.canLayAll0 (xs.map PyData.str) = true
  | [], _ => by simp [PyData.canLayAll0]
  | n :: r, h => by simp [PyData.canLayAll0, PyData.canLay0, canLay_strs r fun x hx => h x (List.mem_cons_of_mem _ hx), h n (List.mem_cons_self ..)]
theorem depth_strs : ∀ xs : List Str, PyData.depthAll (xs.map PyData.str) ≤ 1
  | [] => by simp [PyData.depthAll]
  | n :: r => by
    have := depth_strs r
    simp only [List.map_cons, PyData.depthAll, PyData.depth]
    omega
theorem shaped_strs (xs : List Str) (hok : ∀ x ∈ xs, PyData.strOk x = true) : shaped (.list (xs.map PyData.str)) = true := by
  have h1 := depth_strs xs
  have h2 : PyData.depth (.list (xs.map PyData.str)) ≤ 64 := by simp only [PyData.depth]; omega
  show (PyData.canLay0 (.list (xs.map PyData.str)) && decide (PyData.depth (.list (xs.map PyData.str)) ≤ 64)) = true
  rw [Bool.and_eq_true]
  exact ⟨by simp only [PyData.canLay0]; exact canLay_strs xs hok, decide_eq_true h2⟩
theorem noMix_strs : ∀ xs ys : List Str, noMixAll (xs.map PyData.str) (ys.map PyData.str) = true
  | [], [] => by simp [noMixAll]
  | [], _ :: _ => by simp [noMixAll]
  | _ :: _, [] => by simp [noMixAll]
  | _ :: r, _ :: q => by simp [noMixAll, noMix, noMix_strs r q]
theorem readsAll_strs {h : Heap} {vs : List Value} {xs : List Str} (hs : StrsAre vs xs) : ReadsAll h vs (xs.map PyData.str) [] := by
  induction hs with
  | nil => exact .nil
  | cons x t _ ih => simpa using ReadsAll.cons (Reads.str x t) ih
theorem reads_strs {h : Heap} {a : Addr} {vs : List Value} {xs : List Str} (hl : h.IsList a vs.toArray) (hs : StrsAre vs xs) : Reads h (.ref a) (.list (xs.map PyData.str)) [a] := by
  obtain ⟨o, ho, hc, n, hd⟩ := hl
  exact Reads.list ho hc hd (by simpa using readsAll_strs hs)

section
variable {prog : Program} {w : World} {A : Around} {E : Value → Shared → Prop} {s : Shared} {h₀ : Heap} {L : Addr} {m : Str → Option Value} {news : List (Addr × Obj)}
theorem eq_strsK {a b : Addr} {vs us : List Value} {n n2 : Nat} {xs : List Str} {Q : Value → Shared → Prop} (N : News h₀ L s.heap news) (hl : (a, W.listOf vs.toArray n) ∈ news) (hi : StrsAre vs xs) (hl' : (b, W.listOf us.toArray n2) ∈ news) (hi' : StrsAre us xs) (hok : ∀ x ∈ xs, PyData.strOk x = true) (hu : A.units + 64 < cLine)
    (h : Q (.bool true) s) : wpAny (model prog w) A (compareOp .Eq (.ref a) (.ref b)) Q E s :=
  eq_dataH_same (reads_strs ⟨_, (N _ hl).1, rfl, _, rfl⟩ hi) (reads_strs ⟨_, (N _ hl').1, rfl, _, rfl⟩ hi') (shaped_strs xs hok) (shaped_strs xs hok) hu (by simp only [noMix]; exact noMix_strs xs xs) (by rw [PySem.Spec.same_self]; exact h)
theorem ne_same {x : Str} {t u : Tok} {Q : Value → Shared → Prop} (h : Q (.bool false) s) : wpAny (model prog w) A (compareOp .NotEq (.str x t) (.str x u)) Q E s := by
  refine PyProof.Rows.ne_str ?_
  rw [show (x != x) = false from by simp]
  exact h

theorem slice63 {value slice : PySem.Expr} {l : Addr} {vs : List Value} {ns : List Int} {vu : Tok} {Q : Value → Shared → Prop} (F : Fr h₀ L s.heap m) (N : News h₀ L s.heap news) (hl : h₀.IsList l vs.toArray) (hi : IntsAre vs ns) (hn : ns.length ≤ 1000)
    (h : ∀ D h' us ms, Fr h₀ L h' m → News h₀ L h' ((D, W.listOf (us : List Value).toArray 0) :: news) → IntsAre us ms → ms.length ≤ 63 → (∀ p ∈ news, p.1 < D) → Q (.ref D) { s with heap := h' })
    (hs : subscripted slice false (.ref l) (.ref s.heap.objs.size) = operate [.ref s.heap.objs.size, .ref l] (getItem (.ref l) (.ref s.heap.objs.size)) := by with_unfolding_all rfl)
    (ht : ∀ r, letTemporaryGo value (.ref l) r = pure () := by intro _; with_unfolding_all rfl) :
    wpAny (model prog w) A (subscriptTail value slice (.ref l) (.ref s.heap.objs.size)) Q E { s with heap := s.heap.push { cls := .type "slice", data := .fields #[.none, .int 63 vu, .none] } } := by
  have hl' : s.heap.IsList l vs.toArray := by obtain ⟨o, ho, r⟩ := hl; exact ⟨o, F.keep _ _ ho, r⟩
  have hlen : vs.length = ns.length := hi.length
  refine slice_list F N hl' .none (.int 63 vu) (fun h' F' N' => ?_) hs ht (by rw [List.size_toArray, sizeLine_eq]; omega)
  have hI := kmk_upto (vs := vs) (ns := ns) (y := 63) hi (by decide)
  refine h _ h' (slicePick vs.toArray none (some 63) none).toList (ns.take 63) F' ?_ hI (by rw [List.length_take]; omega) (fun p hp => Nat.lt_succ_of_lt (Heap.lt_size (N p hp).1))
  rw [Array.toArray_toList]
  exact N'
theorem list63 {l : Addr} {vs : List Value} {n : Nat} {Q : Value → Shared → Prop} (F : Fr h₀ L s.heap m) (N : News h₀ L s.heap news) (hm : (l, W.listOf vs.toArray n) ∈ news) (hn : vs.length ≤ 1000)
    (h : ∀ D c h', Fr h₀ L h' m → News h₀ L h' ((D, W.listOf vs.toArray c) :: news) → (∀ q ∈ news, q.1 < D) → Q (.ref D) { s with heap := h' }) : wpAny (model prog w) A (call (.type "list") [.ref l]) Q E s :=
  list_copyK F N ⟨_, (N _ hm).1, rfl, _, rfl⟩ h (by rw [List.size_toArray, sizeLine_eq]; omega)
theorem sum_list_any {t : Addr} {xs : Array (Int × Tok)} {Q : Value → Shared → Prop} (hh : A.handled = none) (ht : s.heap.IsList t (intItems xs))
    (h : ∀ h' tk t', (∀ b o, s.heap.get? b = some o → h'.get? b = some o) → Q (.int (preSum (numAt xs) xs.size) t') { s with heap := h', toks := tk }) :
    wpAny (model prog w) A (call (.builtin "sum") [.ref t]) Q E s := by
  obtain ⟨o, ho, hc, n, hd⟩ := id ht
  have hne : t ≠ s.heap.objs.size := Nat.ne_of_lt (Heap.lt_size ho)
  have hsz : (intItems xs).size = xs.size := by simp [intItems]
  have W := (Walks.list (prog := prog) (w := w) (A := A.in1) hh s.heap.objs.size t hne (intItems xs)).toS
  rw [hsz] at W
  refine call_sum_walkAnyS (wpAny_pyIter_list ht ?_)
  refine ⟨s.heap.objs.size, _, _, _, _, _, _, numAt xs, rfl, W, ⟨⟨_, Heap.get?_push_size _ rfl, rfl, rfl⟩, ht.push _⟩, fun b hb => ?_, fun i v hP => intItems_at hP, fun s' t' hm => ?_⟩
  · rcases List.mem_cons.mp hb with rfl | hb
    · exact Heap.lt_size (Heap.get?_push_size _ rfl)
    · obtain rfl := List.mem_singleton.mp hb
      exact Heap.lt_size (Heap.get?_push_of_some _ ho)
  · obtain ⟨h', g', d', tk', os'⟩ := s'
    have e1 : g' = s.gens := hm.gens
    have e2 : d' = s.drawn := hm.drawn
    have e3 : os' = s.os := hm.os
    subst e1 e2 e3
    exact h h' tk' t' fun b o e => hm.heap b o (fun hb => absurd (Heap.lt_size e) ((List.mem_singleton.mp hb) ▸ Nat.lt_irrefl _)) (Heap.get?_push_of_some _ e)
theorem sum_use {t : Addr} {vs : List Value} {ns : List Int} {n : Nat} {Q : Value → Shared → Prop} (hh : A.handled = none) (F : Fr h₀ L s.heap m) (N : News h₀ L s.heap news) (hm : (t, W.listOf vs.toArray n) ∈ news) (hi : IntsAre vs ns)
    (h : ∀ h' tk t' z, Fr h₀ L h' m → News h₀ L h' news → Q (.int z t') { s with heap := h', toks := tk }) :
    wpAny (model prog w) A (call (.builtin "sum") [.ref t]) Q E s := by
  have hl : s.heap.IsList t vs.toArray := ⟨_, (N _ hm).1, rfl, _, rfl⟩
  obtain ⟨xs, hx⟩ := hi.allInts.items
  rw [hx] at hl
  exact sum_list_any hh hl fun h' tk t' hk => h h' tk t' _ (F.keeps hk) (N.grown hk)
end

theorem CellsPre.news {h₀ h : Heap} {L cells pen : Addr} {po : Obj} {news : List (Addr × Obj)} {vs : List Value} {ns : List Int} {n : Nat} (N : News h₀ L h news) (hm : (cells, W.listOf vs.toArray n) ∈ news) (hi : IntsAre vs ns) (hn : ns.length ≤ 63) (hne : @Ne Nat cells pen) : CellsPre cells (Mine.hid h [(pen, po)]) :=
  ⟨vs, ns, ⟨_, hideAll_get _ (N _ hm).1 (by rw [List.map_singleton, List.mem_singleton]; exact hne), rfl, _, rfl⟩, hi, hn⟩
theorem law_box_use {prog : Program} {w : World} {p : Program} {loose : List Str} {mean : ExcName → Option Value} {mg mb : Str → Option Value} {dp un : Nat} {gd : Option (List Code)} {cn : Str} {cs : Scope} {a : Addr} {ccd : Value} {cl : List (Str × Addr)} {outer : List Env} {A₀ : Around} {base h₀ : Heap} {L : Addr} {m : Str → Option Value} {s : Shared} {news : List (Addr × Obj)} {g : Obj → List (Addr × Obj)}
    {pen cells : Addr} {q : Int} {tc tr tq : Tok} {n nc : Nat} {vs : List Value} {ns : List Int} {Q E : Value → Shared → Prop} (hq : 0 ≤ q) (hq' : q ≤ 1008)
    (B : Below A₀ base outer h₀) (F : Fr h₀ L s.heap m) (X : (Mine.hd.heap_1 w.params).In h₀) (N : News h₀ L s.heap news) (U : UpdF pen (penObj cells 0 0 q tc tr tq n) news g) (T : Top p loose mean mg mb h₀) (hk : cs.kind = .function)
    (hm : (cells, W.listOf vs.toArray nc) ∈ news) (hi : IntsAre vs ns) (hn : ns.length ≤ 63) (hne : @Ne Nat cells pen) (hd : dp + 8 < recursionLimit) (hu : un + 500 < cLine)
    (ret : ∀ (R bx lst d : Addr) (ps : List Value) (b : BoxD) (t : Tok) (c' r' : Int) (tc' tr' : Tok) (n' nd : Nat) (E : List (Addr × Obj)) (t1 t2 t3 t4 t5 t6 t7 u1 u2 u3 u4 u5 : Tok) (gv : Value) h' tk', Fr h₀ L h' m →
      News h₀ L h' ((R, tupO [.ref bx, .str (boxS b) t]) :: (bx, instObj 168 d) :: (d, dictOf [ent w "name" t1 (.str b.name u1), ent w "validity" t2 (.int b.validity u2), ent w "next_uid" t3 (.int b.next u3), ent w "top" t4 (.int b.top u4), ent w "floor" t5 (.int 0 u5), ent w "letters" t6 (.ref lst), ent w "gone" t7 gv] nd) :: (g (penObj cells c' r' q tc' tr' tq n') ++ E)) →
      (∀ q ∈ news, q.1 ≠ R) → (∀ q ∈ news, q.1 ≠ bx) → (∀ q ∈ news, q.1 ≠ d) → NeAll E news → BoxN w E bx lst ps b → b.Ok → Rising b.letters → b.next ≤ 30 → 0 ≤ c' → c' ≤ 40 → 0 ≤ r' → Q (.ref R) { s with heap := h', toks := tk' }) :
    wpAny (model prog w) (ktrTop dp un gd cn cs L a ccd cl outer) (call (.ref 321) [.ref pen]) Q E s := by
  obtain ⟨pre, post, rfl, hg, h1, h2⟩ := U.split
  refine Spec.use (law_box_spec prog w pen cells 0 0 q tc tr tq n (by decide) (by decide) (by decide) hq hq') B F X (fun p hp => N p (by rw [List.mem_singleton.mp hp]; simp)) T hk (CellsPre.news N hm hi hn hne) hd hu ?_
  rintro v own' h' tk' F' N' k' f' ⟨R, bx, lst, ps, b, t, c', r', tc', tr', n', E1, rfl, rfl, hb, hok, hri, hnx, c0, c1, r0, hE, hRp⟩
  obtain ⟨d, nd, k, t1, t2, t3, t4, t5, t6, t7, u1, u2, u3, u4, u5, gv, m1, m2, m3, m4⟩ := id hb
  have nm : ∀ x ∈ pre ++ post, x.1 ∉ [(pen, penObj cells 0 0 q tc tr tq n)].map (·.1) := fun x hx z => by
    rw [List.map_singleton, List.mem_singleton] at z
    rcases List.mem_append.mp hx with hx | hx
    · exact h1 x hx z
    · exact h2 x hx z
  have fresh : ∀ z ∈ (R, tupO [.ref bx, .str (boxS b) t]) :: (pen, penObj cells c' r' q tc' tr' tq n') :: E1, z.1 ≠ pen → ∀ x ∈ pre ++ (pen, penObj cells 0 0 q tc tr tq n) :: post, x.1 ≠ z.1 := fun z hz hzp x hx e => by
    rcases f' z hz with y | y
    · rw [List.map_singleton, List.mem_singleton] at y; exact hzp y
    · have := (N x hx).1; rw [e, y] at this; cases this
  refine ret R bx lst d ps b t c' r' tc' tr' n' nd E1 t1 t2 t3 t4 t5 t6 t7 u1 u2 u3 u4 u5 gv h' tk' F' (fun z hz => ?_) (fun x hx => fresh (R, tupO [.ref bx, .str (boxS b) t]) (List.mem_cons_self ..) hRp x hx) (fun x hx => fresh (bx, instObj 168 d) (by simp [m1]) (hE _ m1) x hx) (fun x hx => fresh (d, _) (by simp [m2]) (hE _ m2) x hx) (fun z hz x hx e => fresh z (by simp [hz]) (hE z hz) x hx e.symm) hb hok hri hnx c0 (by omega) r0
  rcases List.mem_cons.mp hz with rfl | hz
  · exact N' _ (List.mem_cons_self ..)
  rcases List.mem_cons.mp hz with rfl | hz
  · exact N' _ (by simp [m1])
  rcases List.mem_cons.mp hz with rfl | hz
  · exact N' _ (by simp [m2])
  rcases List.mem_append.mp hz with hz | hz
  · rw [hg] at hz
    rcases List.mem_append.mp hz with hz | hz
    · exact ⟨k' _ _ (N z (List.mem_append_left _ hz)).1 (nm z (List.mem_append_left _ hz)), (N z (List.mem_append_left _ hz)).2⟩
    rcases List.mem_cons.mp hz with rfl | hz
    · exact N' _ (by simp)
    · have hz' : z ∈ pre ++ (pen, penObj cells 0 0 q tc tr tq n) :: post := List.mem_append_right _ (List.mem_cons_of_mem _ hz)
      exact ⟨k' _ _ (N z hz').1 (nm z (List.mem_append_right _ hz)), (N z hz').2⟩
  · exact N' z (by simp [hz])
end Mine
end
-- LawC
section
open PySem PySem.W PyProof.Rows PySem.Calls PySem.Spec
namespace Mine

theorem law_part_use {prog : Program} {w : World} {p : Program} {loose : List Str} {mean : ExcName → Option Value} {mg mb : Str → Option Value} {dp un : Nat} {gd : Option (List Code)} {cn : Str} {cs : Scope} {a : Addr} {ccd : Value} {cl : List (Str × Addr)} {outer : List Env} {A₀ : Around} {base h₀ : Heap} {L : Addr} {m : Str → Option Value} {s : Shared} {news : List (Addr × Obj)} {g : Obj → List (Addr × Obj)}
    {pen cells : Addr} {c r q : Int} {tc tr tq t3 : Tok} {n nc : Nat} {vs : List Value} {ns : List Int} {Q E : Value → Shared → Prop} (hc : 0 ≤ c) (hc' : c ≤ 40000) (hr : 0 ≤ r) (hq : 0 ≤ q) (hq' : q ≤ 1008)
    (B : Below A₀ base outer h₀) (F : Fr h₀ L s.heap m) (X : (Mine.hd.heap_1 w.params).In h₀) (N : News h₀ L s.heap news) (U : UpdF pen (penObj cells c r q tc tr tq n) news g) (T : Top p loose mean mg mb h₀) (hk : cs.kind = .function)
    (hm : (cells, W.listOf vs.toArray nc) ∈ news) (hi : IntsAre vs ns) (hn : ns.length ≤ 63) (hne : @Ne Nat cells pen) (hd : dp + 18 < recursionLimit) (hu : un + 960 < cLine)
    (ret : ∀ (R x y : Addr) (t : TreeD) (c' r' : Int) (tc' tr' : Tok) (n' : Nat) (E : List (Addr × Obj)) h' tk', Fr h₀ L h' m → News h₀ L h' ((R, tupO [.ref x, .ref y]) :: E) → PartP w (inN E) (.ref x) t → TreeP (inN E) (.ref y) t → t.depth ≤ 3 → t.Ok → t.Sok → Q (.ref R) { s with heap := h', toks := tk' }) :
    wpAny (model prog w) (ktrTop dp un gd cn cs L a ccd cl outer) (call (.ref 311) [.ref pen, .int 3 t3]) Q E s := by
  obtain ⟨pre, post, rfl, hg, h1, h2⟩ := U.split
  have hdr : drw 3 = 29 := by decide
  refine Spec.use (law_part_spec prog w 3 (Nat.le_refl _) pen cells c r q 3 tc tr tq t3 n rfl hc (by rw [hdr]; omega) hr hq hq') B F X (fun p hp => N p (by rw [List.mem_singleton.mp hp]; simp)) T hk (CellsPre.news N hm hi hn hne) hd hu ?_
  rintro v own' h' tk' F' N' k' f' ⟨R, x, y, t, c', r', tc', tr', n', E1, rfl, rfl, hP, hT, hdp, ⟨hok, hsok⟩, c0, c1, r0, hE, hRp⟩
  obtain ⟨x, rfl⟩ := hP.ref
  obtain ⟨y, rfl⟩ := hT.ref
  refine ret R x y t c' r' tc' tr' n' E1 h' tk' F' (fun z hz => ?_) hP hT hdp hok hsok
  rcases List.mem_cons.mp hz with rfl | hz
  · exact N' _ (List.mem_cons_self ..)
  · exact N' z (by simp [hz])

section
variable {prog : Program} {w : World} {p : Program} {loose : List Str} {mean : ExcName → Option Value} {mg mb : Str → Option Value} {dp un : Nat} {gd : Option (List Code)} {cn : Str} {cs : Scope} {a : Addr} {ccd : Value} {cl : List (Str × Addr)} {outer : List Env} {A₀ : Around} {base h₀ : Heap} {L : Addr} {m : Str → Option Value} {s : Shared} {news E1 : List (Addr × Obj)} {Q E : Value → Shared → Prop}
theorem told_law {x : Addr} {t : TreeD} (hP : PartP w (inN E1) (.ref x) t) (hsub : ∀ q ∈ E1, q ∈ news) (hdp3 : t.depth ≤ 3) (ok : t.Ok)
    (B : Below A₀ base outer h₀) (F : Fr h₀ L s.heap m) (X : (Mine.hd.heap_1 w.params).In h₀) (N : News h₀ L s.heap news) (T : Top p loose mean mg mb h₀) (hk : cs.kind = .function) (hd : dp + 30 < recursionLimit) (hu : un + 700 < cLine)
    (ret : ∀ (D : Addr) (ys : List Value) (n : Nat) h' tk', Fr h₀ L h' m → News h₀ L h' ((D, W.listOf ys.toArray n) :: news) → StrsAre ys (linesT t []) → Q (.ref D) { s with heap := h', toks := tk' }) :
    wpAny (model prog w) (ktrTop dp un gd cn cs L a ccd cl outer) (call (.ref 85) [.ref x]) Q E s := by
  refine Spec.use0 (told_spec prog w t x 79 [] [] [.ref x] (.inr ⟨rfl, rfl⟩) (by simpa using hdp3) (by simp) .nil ok) B F X N T hk ⟨hP.mono fun a o h => (N _ (hsub _ h)).1, tup79 X F⟩ (by omega) (by omega) ?_
  rintro r own' h' tk' F' N' N2 ne ⟨D, ys, n, rfl, rfl, hs⟩
  refine ret D ys n h' tk' F' (fun q hq => ?_) hs
  rcases List.mem_cons.mp hq with rfl | hq
  · exact N2 _ (List.mem_singleton.mpr rfl)
  · exact N' q hq
theorem lines_law {y : Addr} {t : TreeD} {tp : Tok} (hP : TreeP (inN E1) (.ref y) t) (hsub : ∀ q ∈ E1, q ∈ news) (hdp3 : t.depth ≤ 3) (ok : t.Ok)
    (B : Below A₀ base outer h₀) (F : Fr h₀ L s.heap m) (X : (Mine.hd.heap_1 w.params).In h₀) (N : News h₀ L s.heap news) (T : Top p loose mean mg mb h₀) (hk : cs.kind = .function) (hd : dp + 30 < recursionLimit) (hu : un + 700 < cLine)
    (ret : ∀ (D : Addr) (ys : List Value) (n : Nat) h' tk', Fr h₀ L h' m → News h₀ L h' ((D, W.listOf ys.toArray n) :: news) → StrsAre ys (linesT t []) → Q (.ref D) { s with heap := h', toks := tk' }) :
    wpAny (model prog w) (ktrTop dp un gd cn cs L a ccd cl outer) (call (.ref 316) [.ref y, .str (Str.ofString "") tp]) Q E s := by
  refine Spec.use0 (lines_spec prog w t y [] (Str.ofString "") tp pathS_nil.symm (by simpa using hdp3) (by simp) ok) B F X N T hk (hP.mono fun a o h => (N _ (hsub _ h)).1) (by omega) (by omega) ?_
  rintro r own' h' tk' F' N' N2 ne ⟨D, ys, n, rfl, rfl, hs⟩
  refine ret D ys n h' tk' F' (fun q hq => ?_) hs
  rcases List.mem_cons.mp hq with rfl | hq
  · exact N2 _ (List.mem_singleton.mpr rfl)
  · exact N' q hq
theorem box_told_law {bx lst : Addr} {ps : List Value} {b : BoxD} (hb : BoxN w E1 bx lst ps b) (hsub : ∀ q ∈ E1, q ∈ news) (ok : b.Ok)
    (B : Below A₀ base outer h₀) (F : Fr h₀ L s.heap m) (X : (Mine.hd.heap_1 w.params).In h₀) (N : News h₀ L s.heap news) (T : Top p loose mean mg mb h₀) (hk : cs.kind = .function) (hd : dp + 3 < recursionLimit) (hu : un + 100 < cLine)
    (ret : ∀ t h' tk', Fr h₀ L h' m → News h₀ L h' news → Q (.str (boxS b) t) { s with heap := h', toks := tk' }) :
    wpAny (model prog w) (ktrTop dp un gd cn cs L a ccd cl outer) (call (.ref 78) [.ref bx]) Q E s := by
  refine Spec.use0 (box_told_spec prog w bx lst ps b ok) B F X N T hk (hb.at fun q hq => N q (hsub q hq)) hd hu ?_
  rintro r own' h' tk' F' N' N2 ne ⟨⟨t, rfl⟩, rfl⟩
  exact ret t h' tk' F' N'
theorem nums_law {l : Addr} {vs : List Value} {ns : List Int} {n : Nat} (hm : (l, W.listOf vs.toArray n) ∈ news) (hi : IntsAre vs ns) (hl3 : ns.length ≤ 3) (hb : ∀ i ∈ ns, i.natAbs < 10 ^ 9)
    (B : Below A₀ base outer h₀) (F : Fr h₀ L s.heap m) (X : (Mine.hd.heap_1 w.params).In h₀) (N : News h₀ L s.heap news) (T : Top p loose mean mg mb h₀) (hk : cs.kind = .function) (hd : dp + 3 < recursionLimit) (hu : un + 60 < cLine)
    (ret : ∀ t h' tk', Fr h₀ L h' m → News h₀ L h' news → Q (.str (Txt.join (Str.ofString " ") (ns.map numS)) t) { s with heap := h', toks := tk' }) :
    wpAny (model prog w) (ktrTop dp un gd cn cs L a ccd cl outer) (call (.ref 97) [.ref l]) Q E s := by
  refine Spec.use0 (numbers_told_spec prog w l vs ns hl3 hb) B F X N T hk ⟨⟨_, (N _ hm).1, rfl, _, rfl⟩, hi⟩ hd hu ?_
  rintro r own' h' tk' F' N' N2 ne ⟨t, rfl, rfl⟩
  exact ret t h' tk' F' N'
end

section
variable {prog : Program} {w : World} {E : Value → Shared → Prop} {s : Shared} {h₀ base : Heap} {A₀ : Around} {L C : Addr} {m mc mg mb : Str → Option Value} {scope : Scope} {cl' cl : List (Str × Addr)}
  {p : Program} {loose : List Str} {mean : ExcName → Option Value} {p1 p2 p3 p4 p5 p6 pos : Pos} {Q : Value → Shared → Prop} {dp un : Nat} {gd : Option (List Code)} {cn : Str} {cs : Scope} {a : Addr} {ccd : Value} {outer : List Env} {env : Env}
set_option maxHeartbeats 1000000 in
theorem elt_draw {pen cells : Addr} {c r q : Int} {tc tr tq : Tok} {n : Nat} (S : ∀ td, Spec prog w 306 [.ref pen, .int 1000 td] 2 30 [(pen, penObj cells c r q tc tr tq n)] (CellsPre cells) (DrawPost pen cells c q tq 1000))
    (B : Below A₀ base outer h₀) (F : Fr h₀ L s.heap m) (X : (Mine.hd.heap_1 w.params).In h₀) (T : Top p loose mean mg mb h₀) (hcs : cs.kind = .function) (hd : dp + 2 < recursionLimit) (hu : un + 30 < cLine)
    (N : News h₀ L s.heap [(pen, penObj cells c r q tc tr tq n)]) (hcells : CellsPre cells (hid s.heap [(pen, penObj cells c r q tc tr tq n)]))
    (hg : env.globals = mainGlobals) (hk : (compEnvC scope cl' C env).scope.kind = .function) (hkl : (compEnvC scope cl' C env).kindOf "_law_draw" = some .globalImplicit)
    (lP : Looks (model prog w) (ktrTop dp un gd cn cs L a ccd cl outer) "pen" (.ref pen) (compEnvC scope cl' C env) s)
    (h : ∀ v own' h' tk', Fr h₀ L h' m → News h₀ L h' own' → KeepX s.heap h' [(pen, penObj cells c r q tc tr tq n)] → FreshX s.heap [(pen, penObj cells c r q tc tr tq n)] own' → DrawPost pen cells c q tq 1000 h' v own' → Q v { s with heap := h', toks := tk' }) :
    wpAny (model prog w) (ktrTop dp un gd cn cs L a ccd cl outer) (eval (.Call (.Name "_law_draw" p1) [.Name "pen" p2, .Constant (.int 1000) 0 p4] [] p6) (compEnvC scope cl' C env)) Q E s := by
  k_with_none
  (k_with "cj" => (first | exact fun h => h.1 | exact fun h => h.2.1 | exact fun h => h.2.2.1 | exact fun h => h.2.2.2.1 | exact fun h => h.2.2.2.2.1 | exact fun h => h.2.2.2.2.2.1 | exact fun h => h.2.2.2.2.2.2.1 | exact fun h => h.2.2.2.2.2.2.2.1 | exact fun h => h.2.2.2.2.2.2.2.2.1 | exact fun h => h.2.2.2.2.2.2.2.2.2.1 | exact fun h => h.2.2.2.2.2.2.2.2.2.2.1 | exact fun h => h.2.2.2.2.2.2.2.2.2.2.2.1 | exact fun h => h.2.2.2.2.2.2.2.2.2.2.2.2.1 | exact fun h => h.2.2.2.2.2.2.2.2.2.2.2.2.2.1 | exact fun h => h.2 | exact fun h => h.2.2 | exact fun h => h.2.2.2 | exact fun h => h.2.2.2.2 | exact fun h => h.2.2.2.2.2 | exact fun h => h.2.2.2.2.2.2 | exact fun h => h.2.2.2.2.2.2.2 | exact fun h => h.2.2.2.2.2.2.2.2 | exact fun h => h.2.2.2.2.2.2.2.2.2 | exact fun h => h.2.2.2.2.2.2.2.2.2.2 | exact fun h => h.2.2.2.2.2.2.2.2.2.2.2 | exact fun h => h.2.2.2.2.2.2.2.2.2.2.2.2 | exact fun h => h.2.2.2.2.2.2.2.2.2.2.2.2.2))
  (k_with "omega" => (with_reducible first | assumption | exact Nat.le_of_ble_eq_true (by decide) | exact Nat.ne_of_gt (by assumption) | exact Nat.ne_of_lt (by assumption) | exact Mine.lm1 (by assumption) (by decide) | exact Mine.lm2 (by assumption) (by decide) | exact Mine.lm3 (by assumption) (by decide) | exact Mine.lm4 (by assumption) (by decide) | exact Mine.lm5 (by assumption) (by decide) | exact Mine.lm6 (by assumption) (by decide) | exact Mine.lm7 (by assumption) (by decide) | exact Mine.lm8 (by assumption) (by decide) | exact Mine.lm9 (by assumption) (by decide) | exact Int.natCast_nonneg _ | (refine Mine.cj1 (by assumption) ?_; k_extra "cj") | (refine Mine.cj2 (by assumption) ?_; k_extra "cj") | (refine Mine.cj3 (by assumption) ?_; k_extra "cj") | (refine Mine.cj4 (by assumption) ?_; k_extra "cj") | (refine Mine.cj5 (by assumption) (by assumption) ?_; k_extra "cj") | (refine Mine.cj6 (by assumption) (by assumption) ?_; k_extra "cj") | (refine Mine.cj7 (by assumption) (by assumption) (by assumption) ?_; k_extra "cj") | (refine Mine.cj8 (by assumption) (by assumption) (by assumption) ?_; k_extra "cj") | exact Mine.cj9 (by assumption) (by assumption) | exact Mine.cj10 (by assumption) (by assumption) | (refine Mine.cl1 (by assumption) ?_; k_extra "cj") | (refine Mine.cl2 (by assumption) (by assumption) ?_; k_extra "cj") | exact Mine.ns1 (by assumption) | exact Mine.ns2 (by assumption) | exact Mine.ns3 | exact Mine.ns4 | exact Mine.lm10 (by assumption) (by decide) | exact Mine.lm11 (by assumption) (by decide) | exact Mine.lm12 (by assumption) (by assumption) (by decide) | exact Mine.lm12 (by assumption) (Nat.le_refl _) (by decide) | exact Mine.lm13 (by assumption) (by assumption) (by decide) | exact Mine.lm13 (by assumption) (Nat.le_refl _) (by decide) | fail))
  (k_with "eval Name" => ((with_reducible show wpAny _ _ (eval (Expr.Name _ _) (compEnvC _ _ _ _)) _ _ _); first
  | (refine Looks.use (by assumption) ?_)
  | (k_dflt (refine LCgL.ld_global (by assumption) (by assumption) (by assumption) (by k_is) ?_ (by assumption) (by assumption) (by assumption) (by decide)))))
  (k_with "call ref" => ((with_reducible show wpAny _ _ (call (Value.ref 306) [Value.ref _, Value.int _ _]) _ _ _); refine use_part (by assumption) (by assumption) (by assumption) (by assumption) (by assumption) (by assumption) (by assumption) (by assumption) (by assumption) (by assumption) ?_; intro r own' h' tk' F' N' k' f' P'))
  repeat' (first | (walk1; (try dsimp only)))
  exact h _ _ _ _ (by assumption) (by assumption) (by assumption) (by assumption) (by assumption)
end
section
variable {prog : Program} {w : World} {E' : Value → Shared → Prop} {s : Shared} {h₀ base : Heap} {A₀ : Around} {L : Addr} {m mg mb : Str → Option Value} {scope : Scope} {cl' cl : List (Str × Addr)}
  {p : Program} {loose : List Str} {mean : ExcName → Option Value} {p1 p2 p3 p4 p5 p6 p7 pos : Pos} {dp un : Nat} {gd : Option (List Code)} {cn : Str} {cs : Scope} {a : Addr} {ccd : Value} {outer : List Env} {env : Env} {mf : Addr → Str → Option Value} {Fin : Addr → Shared → Prop}
theorem range_nums {k n nc : Nat} {pen cells cP ra : Addr} {oP : Obj} {c r q : Int} {tc tr tq t u v : Tok} {vs : List Value} {ns : List Int} {news : List (Addr × Obj)} {g : Obj → List (Addr × Obj)}
    (hc : 0 ≤ c) (hc' : c ≤ 30000) (hr0 : 0 ≤ r) (hq : 0 ≤ q) (hq' : q ≤ 1008) (hd : dp + 2 < recursionLimit) (hu : un + 30 < cLine) (hk4 : (k : Int) < 4)
    (hr : IsRange s.heap ra 0 (k : Int) 1 t u v) (B : Below A₀ base outer h₀) (F : Fr h₀ L s.heap m) (N : News h₀ L s.heap news) (U : UpdF pen (penObj cells c r q tc tr tq n) news g) (X : (Mine.hd.heap_1 w.params).In h₀) (T : Top p loose mean mg mb h₀) (hcs : cs.kind = .function)
    (hm : (cells, W.listOf vs.toArray nc) ∈ news) (hi : IntsAre vs ns) (hn : ns.length ≤ 63) (hne : @Ne Nat cells pen) (hkind : scope.kind = .function) (hx : scope.names.lookup (Str.ofString "turn") = some .local)
    (hg : env.globals = mainGlobals) (hk : ∀ C, (compEnvC scope cl' C env).scope.kind = .function) (hkl : ∀ C, (compEnvC scope cl' C env).kindOf "_law_draw" = some .globalImplicit) (hkp : ∀ C, (compEnvC scope cl' C env).kindOf "pen" = some .cell)
    (hcP : cl'.lookup (Str.ofString "pen") = some cP) (hmP : (cP, oP) ∈ news) (hoP : oP.data = .cell (some (.ref pen))) (hnP : @Ne Nat cP pen)
    (out : ∀ D h tk ys ms c' r' tc' tr' n', Fr h₀ L h (mf D) → News h₀ L h ((D, LCg.lst ys) :: g (penObj cells c' r' q tc' tr' tq n')) → (∀ p ∈ news, p.1 ≠ D) → IntsAre ys ms → ms.length ≤ 3 → (∀ i ∈ ms, i.natAbs < 10 ^ 9) → 0 ≤ c' → c' ≤ c + 4 → 0 ≤ r' → Fin D { s with heap := h, toks := tk }) :
    wpAny (model prog w) (ktrTop dp un gd cn cs L a ccd cl outer) (pyIter (.ref ra)) (BlockAt prog w (ktrTop dp un gd cn cs L a ccd cl outer) h₀ L m env (.Call (.Name "_law_draw" p1) [.Name "pen" p2, .Constant (.int 1000) 0 p4] [] p6) (.Name (Str.ofString "turn") p7) [] scope cl' mf Fin) E' s := by
  have hk03 : k = 0 ∨ k = 1 ∨ k = 2 ∨ k = 3 := by omega
  have hsm : Builtin.Range.small 0 (k : Int) 1 = true := by rcases hk03 with rfl | rfl | rfl | rfl <;> decide +kernel
  have hsz : Builtin.Range.rangeSize 0 (k : Int) 1 = ((k : Nat) : Int) := by rcases hk03 with rfl | rfl | rfl | rfl <;> decide +kernel
  obtain ⟨pre, post, hnews, hg', h1, h2⟩ := U.split
  have hpm : (pen, penObj cells c r q tc tr tq n) ∈ news := by rw [hnews]; simp
  have N1 : News h₀ L s.heap [(pen, penObj cells c r q tc tr tq n)] := fun p hp => by rw [List.mem_singleton.mp hp]; exact N _ hpm
  refine src_range (own := [(pen, penObj cells c r q tc tr tq n)]) (R := fun i ys own₁ => ∃ (ms : List Int) (c' r' : Int) (tc' tr' : Tok) (n' : Nat), own₁ = [(pen, penObj cells c' r' q tc' tr' tq n')] ∧ IntsAre ys ms ∧ ms.length = i ∧ (∀ i ∈ ms, i.natAbs < 10 ^ 9) ∧ 0 ≤ c' ∧ c' ≤ c + i ∧ 0 ≤ r') rfl hr hsm hsz (by rw [sizeLine_eq]; omega) hkind hx F N1
    ⟨[], c, r, tc, tr, n, rfl, .nil, rfl, List.forall_mem_nil _, hc, by omega, hr0⟩ ?_ ?_
  · rintro i ys own₁ C mc s' E'' hi' _ ⟨ms, c', r', tc', tr', n', rfl, hI, hl, hb, e0, e1, e2⟩ F' N' hn' _ _ _ _ hk' ⟨_, _, rfl⟩
    have keep : ∀ b o, (b, o) ∈ news → @Ne Nat b pen → News h₀ L _ [(b, o)] := fun b o hm hne p hp => by
      rw [List.mem_singleton.mp hp]
      exact ⟨hk' _ _ (N _ hm).1 (by rw [List.map_singleton, List.mem_singleton]; exact hne), (N _ hm).2⟩
    refine Turn.plain (elt_draw (fun td => draw_spec prog w pen cells c' r' q tc' tr' tq n' 1000 td e0 (by omega) e2 hq hq' (by decide) (by decide)) B F' X T hcs hd hu N' (CellsPre.news (keep _ _ hm hne) (List.mem_singleton.mpr rfl) hi hn hne) hg (hk C) (hkl C) (fun pos Q E h => lcf_cell (keep _ _ hmP hnP) hcP (List.mem_singleton.mpr rfl) hoP h (hk C) (hkp C)) ?_)
    rintro v own' h' tk' F2 N2 k2 f2 ⟨d, td, c2, tc2, r2, tr2, n2, rfl, d0, d1, rfl, g0, g1, g2⟩
    refine TEnd.intro F2 N2 k2 f2 ⟨ms ++ [d], c2, r2, tc2, tr2, n2, rfl, hI.append (.cons d td .nil), by simp [hl], fun z hz => ?_, g0, by push_cast; omega, g2⟩
    rcases List.mem_append.mp hz with hz | hz
    · exact hb z hz
    · rw [List.mem_singleton.mp hz]; omega
  · rintro D h tk ys own' F' N' hD hD₀ hDL hDo hsD ⟨ms, c', r', tc', tr', n', rfl, hI, hl, hb, e0, e1, e2⟩ hk' hf
    have nm : ∀ x ∈ pre ++ post, x.1 ∉ [(pen, penObj cells c r q tc tr tq n)].map (·.1) := fun x hx z => by
      rw [List.map_singleton, List.mem_singleton] at z
      rcases List.mem_append.mp hx with hx | hx
      · exact h1 x hx z
      · exact h2 x hx z
    refine out D h tk ys ms c' r' tc' tr' n' F' (fun p hp => ?_) (fun p hp e => ?_) hI (by omega) hb e0 (by omega) e2
    · rcases List.mem_cons.mp hp with rfl | hp
      · exact ⟨hD, hDL, hD₀⟩
      rw [hg'] at hp
      rcases List.mem_append.mp hp with hp | hp
      · have hp' : p ∈ news := by rw [hnews]; exact List.mem_append_left _ hp
        exact ⟨hk' _ _ (N p hp').2.1 (N p hp').1 (nm p (List.mem_append_left _ hp)), (N p hp').2⟩
      rcases List.mem_cons.mp hp with rfl | hp
      · exact N' _ (List.mem_cons_self ..)
      · have hp' : p ∈ news := by rw [hnews]; exact List.mem_append_right _ (List.mem_cons_of_mem _ hp)
        exact ⟨hk' _ _ (N p hp').2.1 (N p hp').1 (nm p (List.mem_append_right _ hp)), (N p hp').2⟩
    · have := (N p hp).1; rw [e, hsD] at this; cases this
end
theorem comp_evalLF {prog : Program} {w : World} {A : Around} {E : Value → Shared → Prop} {s : Shared} {env : Env} {h₀ : Heap} {L : Addr} {m : Str → Option Value} {elt target iter : PySem.Expr} {ifs : List PySem.Expr} {scope : Scope} {cl : List (Str × Addr)} {pos : Pos} {Q : Value → Shared → Prop} (_F : Fr h₀ L s.heap m)
    (hclos : closureFor scope env = pure cl) (hcell : ∀ y ∈ scope.names, y.2 ≠ .cell) (hkind : scope.kind = .function)
    (hnames : ∀ y ∈ scope.names, y.2 = .local → scope.names.lookup y.1 = some .local)
    (h : wpAny (model prog w) A (eval iter env) (fun xv s₁ => wpAny (model prog w) A (pyIter xv) (BlockAtL prog w A h₀ L m env elt target ifs scope cl (fun _ => m) (fun D s₂ => Q (.ref D) s₂)) E s₁) E s)
    (hs : ∀ x, foldedSetIterable iter env x = pure x := by intro _; rfl) :
    wpAny (model prog w) A (eval (.ListComp elt [⟨target, iter, ifs, 0⟩] scope pos) env) Q E s := comp_evalL hclos hcell hkind hnames h hs
end Mine
end
-- Law
section
open PySem PySem.W PyProof.Rows PySem.Calls PySem.Spec
namespace Mine
theorem below_at' {g h : Heap} {L : Addr} {m : Str → Option Value} (_F : Fr g L h m) : Below callerA g [] g := below_caller g
theorem gen_top {M : Model} {cn : Str} {cs : Scope} {L a : Addr} {ccd : Value} {body : List Stmt} {env : Env} {Q : Flow → Shared → Prop} {E : Value → Shared → Prop} {s : Shared}
    (h : ∀ dp un, dp + 60 < recursionLimit → un + 3000 < cLine → wpAny M (ktrTop dp un (some []) cn cs L a ccd (cellsFrom (L + 1) cs.names []) []) (execs body env) Q E s) : wpAny M (callerA.deeper (envOfC cn cs L a ccd)) (execs body env) Q E s :=
  h (callerA.deeper (envOfC cn cs L a ccd)).depth (callerA.deeper (envOfC cn cs L a ccd)).units (by show 1 + claimMargin + 1 + 60 < recursionLimit; decide +kernel) (by rw [cLine_is]; show 4 + 3 + 3000 < 9900; decide)
theorem slice63' {prog : Program} {w : World} {A : Around} {E : Value → Shared → Prop} {s : Shared} {h h₀ : Heap} {L : Addr} {m : Str → Option Value} {news : List (Addr × Obj)} {tk : Nat} {value slice : PySem.Expr} {l : Addr} {vs : List Value} {ns : List Int} {vu : Tok} {Q : Value → Shared → Prop} (hl : h₀.IsList l vs.toArray) (hi : IntsAre vs ns) (hn : ns.length ≤ 1000) (F : Fr h₀ L h m) (N : News h₀ L h news)
    (ret : ∀ D h' us ms, Fr h₀ L h' m → News h₀ L h' ((D, W.listOf (us : List Value).toArray 0) :: news) → IntsAre us ms → ms.length ≤ 63 → us.length ≤ 63 → (∀ p ∈ news, p.1 < D) → Q (.ref D) { s with heap := h', toks := tk })
    (hs : subscripted slice false (.ref l) (.ref h.objs.size) = operate [.ref h.objs.size, .ref l] (getItem (.ref l) (.ref h.objs.size)) := by with_unfolding_all rfl)
    (ht : ∀ r, letTemporaryGo value (.ref l) r = pure () := by intro _; with_unfolding_all rfl) :
    wpAny (model prog w) A (subscriptTail value slice (.ref l) (.ref h.objs.size)) Q E { s with heap := h.push { cls := .type "slice", data := .fields #[.none, .int 63 vu, .none] }, toks := tk } :=
  slice63 (s := { s with heap := h, toks := tk }) F N hl hi hn (fun D h' us ms F' N' hI hm hlt => ret D h' us ms F' N' hI hm (by rw [hI.length]; exact hm) hlt) hs ht
theorem mod1009 {prog : Program} {w : World} {A : Around} {E : Value → Shared → Prop} {s : Shared} {a : Int} {t u : Tok} {Q : Value → Shared → Prop} (h : ∀ q : Int, 0 ≤ q → q ≤ 1008 → Q (.int q s.toks) { s with toks := s.toks + 1 }) : wpAny (model prog w) A (binaryOp .Mod (.int a t) (.int 1009 u)) Q E s :=
  mod_int' (by decide) (h _ (Int.fmod_nonneg_of_pos _ (by decide)) (by have := Int.fmod_lt_of_pos a (b := 1009) (by decide); omega))
theorem nums_join {ns : List Int} (hl3 : ns.length ≤ 3) (hb : ∀ i ∈ ns, i.natAbs < 10 ^ 9) : JoinOk (Str.ofString " ") (ns.map numS) = true := by
  refine joinOk_of 10 (fun y hy => ?_) ?_
  · obtain ⟨n, hn, rfl⟩ := List.mem_map.mp hy
    exact numS_len (hb n hn)
  · rw [List.length_map, show (Str.ofString " ").length = 1 from by decide]; omega
/-- the law came back with True -/
def LawEnd (h₀ : Heap) (L : Addr) (s : Shared) (f : Flow) (s' : Shared) : Prop := ∃ h' tk m', f = .ret (.bool true) ∧ s' = { s with heap := h', toks := tk } ∧ Fr h₀ L h' m'
theorem law_mono {M : Model} {A : Around} {body : List Stmt} {env : Env} {Q : Flow → Shared → Prop} {E : Value → Shared → Prop} {s : Shared} {h₀ : Heap} {L : Addr} {m : Str → Option Value} (_F : Fr h₀ L s.heap m) (h : wpAny M A (execs body env) (LawEnd h₀ L s) (fun _ _ => False) s)
    (k : ∀ h' tk m', Fr h₀ L h' m' → Q (.ret (.bool true)) { s with heap := h', toks := tk }) : wpAny M A (execs body env) Q E s :=
  wpAny_mono h (fun f s' x => by obtain ⟨h', tk, m', rfl, rfl, F'⟩ := x; exact k h' tk m' F') (fun _ _ x => x.elim)
theorem sub_tail {E1 news : List (Addr × Obj)} (h : ∀ q ∈ E1, q ∈ news) : ∀ q ∈ E1, q ∈ news := h
section
set_option maxHeartbeats 16000000 in
theorem law_holds : PySem.Challenge.rw_nz0293_01.Holds := hd (by
  k_with_none
  (k_with "cj" => (first | exact fun h => h.1 | exact fun h => h.2.1 | exact fun h => h.2.2.1 | exact fun h => h.2.2.2.1 | exact fun h => h.2.2.2.2.1 | exact fun h => h.2.2.2.2.2.1 | exact fun h => h.2.2.2.2.2.2.1 | exact fun h => h.2.2.2.2.2.2.2.1 | exact fun h => h.2.2.2.2.2.2.2.2.1 | exact fun h => h.2.2.2.2.2.2.2.2.2.1 | exact fun h => h.2.2.2.2.2.2.2.2.2.2.1 | exact fun h => h.2.2.2.2.2.2.2.2.2.2.2.1 | exact fun h => h.2.2.2.2.2.2.2.2.2.2.2.2.1 | exact fun h => h.2.2.2.2.2.2.2.2.2.2.2.2.2.1 | exact fun h => h.2 | exact fun h => h.2.2 | exact fun h => h.2.2.2 | exact fun h => h.2.2.2.2 | exact fun h => h.2.2.2.2.2 | exact fun h => h.2.2.2.2.2.2 | exact fun h => h.2.2.2.2.2.2.2 | exact fun h => h.2.2.2.2.2.2.2.2 | exact fun h => h.2.2.2.2.2.2.2.2.2 | exact fun h => h.2.2.2.2.2.2.2.2.2.2 | exact fun h => h.2.2.2.2.2.2.2.2.2.2.2 | exact fun h => h.2.2.2.2.2.2.2.2.2.2.2.2 | exact fun h => h.2.2.2.2.2.2.2.2.2.2.2.2.2))
  (k_with "omega" => (with_reducible first | assumption | exact Nat.le_of_ble_eq_true (by decide) | exact Nat.ne_of_gt (by assumption) | exact Nat.ne_of_lt (by assumption) | exact Mine.lm1 (by assumption) (by decide) | exact Mine.lm2 (by assumption) (by decide) | exact Mine.lm3 (by assumption) (by decide) | exact Mine.lm4 (by assumption) (by decide) | exact Mine.lm5 (by assumption) (by decide) | exact Mine.lm6 (by assumption) (by decide) | exact Mine.lm7 (by assumption) (by decide) | exact Mine.lm8 (by assumption) (by decide) | exact Mine.lm9 (by assumption) (by decide) | exact Int.natCast_nonneg _ | (refine Mine.cj1 (by assumption) ?_; k_extra "cj") | (refine Mine.cj2 (by assumption) ?_; k_extra "cj") | (refine Mine.cj3 (by assumption) ?_; k_extra "cj") | (refine Mine.cj4 (by assumption) ?_; k_extra "cj") | (refine Mine.cj5 (by assumption) (by assumption) ?_; k_extra "cj") | (refine Mine.cj6 (by assumption) (by assumption) ?_; k_extra "cj") | (refine Mine.cj7 (by assumption) (by assumption) (by assumption) ?_; k_extra "cj") | (refine Mine.cj8 (by assumption) (by assumption) (by assumption) ?_; k_extra "cj") | exact Mine.cj9 (by assumption) (by assumption) | exact Mine.cj10 (by assumption) (by assumption) | (refine Mine.cl1 (by assumption) ?_; k_extra "cj") | (refine Mine.cl2 (by assumption) (by assumption) ?_; k_extra "cj") | exact Mine.ns1 (by assumption) | exact Mine.ns2 (by assumption) | exact Mine.ns3 | exact Mine.ns4 | exact Mine.lm10 (by assumption) (by decide) | exact Mine.lm11 (by assumption) (by decide) | exact Mine.lm12 (by assumption) (by assumption) (by decide) | exact Mine.lm12 (by assumption) (Nat.le_refl _) (by decide) | exact Mine.lm13 (by assumption) (by assumption) (by decide) | exact Mine.lm13 (by assumption) (Nat.le_refl _) (by decide) | fail))
  (k_with "k_all" => first | assumption | exact NeAll.of (by assumption) (by k_mem))
  (k_with "k_ne" => first | exact neMem (by assumption) (by k_mem) | fail "neMem")
  (k_with "subscriptTail Name Slice ref ref" => ((k_dflt (refine' slice63' (by assumption) (by assumption) ?z1r147 (by assumption) (by assumption) ?_)); (case z1r147 => omega); intro D' h' us' ms' F' N' hI' hm' hu' l1; (try k_lt l1); (try k_sweep)))
  (k_with "call type:list" => (k_here; (with_reducible show wpAny _ _ (call (Value.type _) [Value.ref _]) _ _ _); k_dflt (refine' list63 (by assumption) (by assumption) ?z1r148 ?z2r148 ?_); (case z1r148 => k_mem); (case z2r148 => omega); intro D' c' h' F' N' l1; (try k_lt l1); (try k_sweep)))
  (k_with "call builtin:sum" => (k_here; (with_reducible show wpAny _ _ (call (Value.builtin "sum") [Value.ref _]) _ _ _); k_dflt (refine' sum_use (by rfl) (by assumption) (by assumption) ?z1r149 (by assumption) ?_); (case z1r149 => k_mem); intro h' tk' t' z' F' N'; (try k_sweep)))
  (k_with "binaryOp Mod int int" => (refine mod1009 ?_; intro q' hq1 hq2))
  (k_with "compareOp NotEq str str" => (refine ne_same ?_))
  (k_with "compareOp NotEq ref ref" => (k_here; k_dflt (refine' ne_intsK (ns := []) (ms := []) ?z2r152 .nil ?z3r152 .nil ?z1r152 ?_); (case z2r152 => is_list); (case z3r152 => is_list); (case z1r152 => (dsimp only; omega)); (try simp only [decide_true, Bool.not_true])))
  (k_with "eval ListComp" => ((with_reducible show wpAny _ _ (eval (Expr.ListComp (Expr.Call _ _ _ _) _ _ _) _) _ _ _); k_here; k_dflt (refine comp_strs (by assumption) (by rfl) (by assumption) (by assumption) (by with_unfolding_all rfl) (by decide) (by rfl) (by decide) (by rfl) (by rfl) (by rfl) (fun _ => by rfl) (fun _ => by rfl) (by decide) ?_)))
  (k_with "eval ListComp" => ((with_reducible show wpAny _ _ (eval (Expr.ListComp (Expr.Name _ _) _ _ _) _) _ _ _); k_here; k_dflt (refine comp_evalLF (by assumption) (by with_unfolding_all rfl) (by decide) (by rfl) (by decide) ?_)))
  (k_with "exec Assign cons ListComp" => (k_here; k_dflt (refine comp_assignF (by assumption) (by rfl) (by with_unfolding_all rfl) (by with_unfolding_all rfl) (by decide) (by rfl) (by decide) (by rfl) (by rfl) ?_)))
  (k_with "StrSrc" => (refine StrSrc.intro (.inl (by is_list)) (by assumption) (by omega) (by assumption) (by assumption) (by assumption) ?_; intro D' h' tk' ys' F' N' ne' hk' hys'; clear hk'; (try dsimp only); (try k_sweep)))
  (k_with "call builtin:str.join" => (k_here; refine join_strs (by is_list) (by assumption) (nums_join (by assumption) (by assumption)) ?_; intro t' k'))
  (k_with "pyIter ref" => (k_here; first
  | (k_dflt (refine' range_found (by assumption) ?z1r158 (by assumption) (by assumption) ?z2r158 (by assumption) (by assumption) (by assumption) (by assumption) (by assumption) ?z3r158 (by assumption) (by rfl) ?z4r158 ?z5r158 (by rfl) (by rfl) (by rfl) (fun _ => by rfl) (fun _ => by rfl) (fun _ => by rfl) (by rfl) ?z6r158 ?z7r158 ?_); (case z1r158 => exact BoxD.Ok.h5 (by assumption)); (case z2r158 => first | rfl | omega); (case z3r158 => (intro p' hp'; repeat' (first | exact hp' | apply List.mem_cons_of_mem))); (case z4r158 => omega); (case z5r158 => omega); (case z6r158 => k_mem); (case z7r158 => (refine Eq.trans (by assumption) ?_; rfl)); intro D' h' tk' F' N' nD'; (try dsimp only); (try k_sweep))
  | (k_dflt (refine' range_nums ?c0r158 ?c1r158 ?c2r158 ?c3r158 ?c4r158 ?c5r158 ?c6r158 ?c7r158 (by assumption) (by assumption) (by assumption) (by assumption) ?zUr158 (by assumption) (by assumption) (by rfl) ?m1r158 ?i1r158 ?i2r158 ?m2r158 (by rfl) (by rfl) (by rfl) (fun _ => by rfl) (fun _ => by rfl) (fun _ => by rfl) (by rfl) ?m3r158 ?m4r158 ?m5r158 ?_); (case m3r158 => k_mem); (case m4r158 => (refine Eq.trans (by assumption) ?_; rfl)); (case zUr158 => k_updF); (case m1r158 => k_mem); (case i1r158 => assumption); (case i2r158 => assumption); (case c0r158 => omega); (case c1r158 => omega); (case c2r158 => omega); (case c3r158 => omega); (case c4r158 => omega); (case c5r158 => omega); (case c6r158 => omega); (case c7r158 => omega); (case m2r158 => omega); (case m5r158 => omega); intro D' h' tk' ys' ms' c' r' tc' tr' n' F' N' nD' hI' hl3' hb' c0 c1 r0; (try dsimp only at N'); (try k_sweep))))
  (k_with "call ref" => (k_here; (with_reducible show wpAny _ _ (call (Value.ref 306) [Value.ref _, Value.int _ _]) _ _ _); k_dflt (refine' draw_use (by decide) (by decide) ?y1r159 ?y2r159 ?y3r159 ?y4r159 ?y5r159 (by assumption) (by assumption) (by assumption) (by assumption) ?zUr159 (by assumption) (by rfl) ?z2r159 ?z3r159 ?z4r159 ?_); (case zUr159 => k_updF); (case y1r159 => omega); (case y2r159 => omega); (case y3r159 => omega); (case y4r159 => omega); (case y5r159 => omega); (case z2r159 => (refine' CellsPre.news (by assumption) ?w1r159 ?w3r159 ?w4r159 ?w2r159; (case w1r159 => k_mem); (case w3r159 => assumption); (case w4r159 => assumption); (case w2r159 => omega))); (case z3r159 => omega); (case z4r159 => omega); intro d' td' c' r' tc' tr' n' h' tk' F' N' d1 c0 c1 r0; (try dsimp only at N'); (try k_sweep)))
  (k_with "call ref" => (k_here; (with_reducible show wpAny _ _ (call (Value.ref 321) [Value.ref _]) _ _ _); k_dflt (refine' law_box_use ?y1r160 ?y2r160 (by assumption) (by assumption) (by assumption) (by assumption) ?zUr160 (by assumption) (by rfl) ?m1r160 ?i1r160 ?i2r160 ?m2r160 ?z3r160 ?z4r160 ?_); (case zUr160 => k_updF); (case m1r160 => k_mem); (case i1r160 => assumption); (case i2r160 => assumption); (case y1r160 => omega); (case y2r160 => omega); (case m2r160 => omega); (case z3r160 => omega); (case z4r160 => omega); intro R bx lst d ps b t c' r' tc' tr' n' nd E t1 t2 t3 t4 t5 t6 t7 u1 u2 u3 u4 u5 gv h' tk' F' N' nR nbx nd' hE hb hok hri hnx c0 c1 r0; (try dsimp only at N'); (simp only [List.cons_append, List.nil_append] at N'); (try k_sweep)))
  (k_with "call ref" => (k_here; (with_reducible show wpAny _ _ (call (Value.ref 78) [Value.ref _]) _ _ _); k_dflt (refine' box_told_law (by assumption) ?z1r161 (by assumption) (by assumption) (by assumption) (by assumption) (by assumption) (by assumption) (by rfl) ?z3r161 ?z4r161 ?_); (case z1r161 => (intro p' hp'; repeat' (first | exact hp' | apply List.mem_cons_of_mem))); (case z3r161 => omega); (case z4r161 => omega); intro t' h' tk' F' N'; (try k_sweep)))
  (k_with "call ref" => (k_here; (with_reducible show wpAny _ _ (call (Value.ref 97) [Value.ref _]) _ _ _); k_dflt (refine' nums_law ?z1r162 (by assumption) (by assumption) (by assumption) (by assumption) (by assumption) (by assumption) (by assumption) (by assumption) (by rfl) ?z3r162 ?z4r162 ?_); (case z1r162 => k_mem); (case z3r162 => omega); (case z4r162 => omega); intro t' h' tk' F' N'; (try k_sweep)))
  (k_with "call ref" => (k_here; (with_reducible show wpAny _ _ (call (Value.ref 311) [Value.ref _, Value.int 3 _]) _ _ _); k_dflt (refine' law_part_use ?y1r163 ?y2r163 ?y3r163 ?y4r163 ?y5r163 (by assumption) (by assumption) (by assumption) (by assumption) ?zUr163 (by assumption) (by rfl) ?m1r163 ?i1r163 ?i2r163 ?m2r163 ?z3r163 ?z4r163 ?_); (case zUr163 => k_updF); (case m1r163 => k_mem); (case i1r163 => assumption); (case i2r163 => assumption); (case y1r163 => omega); (case y2r163 => omega); (case y3r163 => omega); (case y4r163 => omega); (case y5r163 => omega); (case m2r163 => omega); (case z3r163 => omega); (case z4r163 => omega); intro R x y t c' r' tc' tr' n' E h' tk' F' N' hP hT hd3 hok hsok; (try k_sweep)))
  w_strict (k_go0; (refine gen_top ?_); intro dp un hdp hun; (rename Fr _ _ _ _ => F0); (have B0 := below_at' F0); (refine law_mono F0 ?w1 ?w2); (case w2 => (intro h' tk m' F'; (try dsimp only); (try (first | (k_end; wrow_close) | wrow_close)))); ((all_goals try k_fold); k_steps; k_here; (refine' told_law (by assumption) ?z1 (by assumption) (by assumption) (by assumption) (by assumption) (by assumption) (by assumption) (by assumption) (by rfl) ?z3 ?z4 ?_); (case z1 => (intro p' hp'; repeat' (first | exact hp' | apply List.mem_cons_of_mem))); (case z3 => omega); (case z4 => omega); intro D' ys' n' h' tk' F' N' hs'; k_steps; k_here; (refine' lines_law (by assumption) ?z1 (by assumption) (by assumption) (by assumption) (by assumption) (by assumption) (by assumption) (by assumption) (by rfl) ?z3 ?z4 ?_); (case z1 => (intro p' hp'; repeat' (first | exact hp' | apply List.mem_cons_of_mem))); (case z3 => omega); (case z4 => omega); intro D2' ys2' n2' h2' tk2' F2' N2' hs2'; (refine' eq_strsK N2' ?z1 hs' ?z2 hs2' ?i3 ?z3 ?_); (case z1 => exact List.mem_cons_of_mem _ (List.mem_cons_self ..)); (case z2 => exact List.mem_cons_self ..); (case i3 => exact sok_lines _ _ (by assumption)); (case z3 => (dsimp only; omega)); (first | exact ⟨_, _, _, rfl, rfl, F2'⟩ | (dsimp only; exact ⟨_, _, _, rfl, rfl, F2'⟩)))))
end
end Mine
end
end

theorem PySem.Challenge.cw_nz0293_01_holds : PySem.Challenge.rw_nz0293_01.Holds := by
  exact Mine.law_holds
