import PyProof.Rows.All
import Wide.All
import OpenK.AllK
import Wide.FinOn
import KE.KPairComp
import PySem.Challenge.RW_sa0344_01
set_option Elab.async false
set_option maxRecDepth 100000
set_option linter.all false
section
set_option Elab.async false
set_option maxRecDepth 100000
set_option maxHeartbeats 8000000
open PySem PySem.W PyProof.Rows PySem.Calls
namespace Mine
noncomputable def keptV : List Nat := [1,2,3,4,5,6,7,8,9,10,11,12,14,15,16,17,18,19,20,21,23,24,25,26,27,28,29,30,31,32,33,34,36,37,38,39,40,41,42,44,45,46,47,48,49,50]
noncomputable def pv : Program := view PySem.Challenge.pw_sa0344_01 keptV
noncomputable def runQ (p : Program) (w : World) (n₀ : Nat) (ann : Option Value) : Nat → SharedT → Thread → Option SharedT
  | 0, _, _ => none
  | n + 1, s, t => match through t with
    | true => some s
    | false => match PySem.W.Fast.tw6613529449190102663 n₀ ann t with
      | false => none
      | true => match PySem.W.Fast.tw10156331382660048174 (PySem.W.Fast.tw11892475500146522536 PySem.W.Fast.tw14364793385576792824) p w s t with
        | some (s', t') => runQ p w n₀ ann n s' t'
        | none => none
theorem runQ_spec {p : Program} {w : World} {n₀ : Nat} {ann : Option Value} : ∀ (n : Nat) (s s' : SharedT) (t : Thread), runQ p w n₀ ann n s t = some s' → topRun treeTable p w n₀ ann n s.abs t = some s'.abs
  | 0, _, _, _, h => by cases h
  | n + 1, s, s', t, h => by
    unfold runQ at h
    rw [← PySem.W.Fast.te6613529449190102663, ← PySem.W.Fast.te10156331382660048174, ← PySem.W.Fast.te11892475500146522536, ← PySem.W.Fast.te14364793385576792824] at h
    unfold topRun
    cases ht : through t with
    | true => rw [ht] at h; cases h; rfl
    | false =>
      rw [ht] at h
      cases hk : stepOk n₀ ann t with
      | false => rw [hk] at h; cases h
      | true =>
        rw [hk] at h
        cases hs : stepT (denote treeTable) p w s t with
        | none => rw [hs] at h; cases h
        | some r => obtain ⟨s₂, t₂⟩ := r; rw [hs] at h; rw [stepT_spec hs]; exact runQ_spec n s₂ s' t₂ h
noncomputable def bootT (P : Params) : BT := ((boot_heap P).objs.toList.zipIdx).foldl (fun t o => t.ins o.2 o.1) .nil
theorem bootT_abs (P : Params) : absHeap (bootT P) 11 (boot_heap P).life = boot_heap P := by kernel_rfl

theorem left_of {p q : Program} {loose : List Str} {Xt : Shared → Bool} {α : Type} {Yf : Shared → α} {Ya : World → α} {N M m₀ : Nat} {ann : Option Value}
    (open_ : ∀ w : World, (fencedOpening treeTable p w N).map (fun s => (s.heap, s.gens, s.drawn, s.toks)) = some (boot_heap w.params, Array.mk [], boot_drawn, boot_toks))
    (size : ∀ w : World, ((boot_heap w.params).isNs mainGlobals, (boot_heap w.params).objs.size, (boot_heap w.params).nsMap mainGlobals "__annotations__") = (true, m₀, ann))
    (le : Nat.ble M N = true)
    (run : ∀ (w : World) (os : OsState), (runQ p w m₀ ann M ⟨bootT w.params, 11, (boot_heap w.params).life, Array.mk [], boot_drawn, boot_toks, os⟩ (topStub p)).map (fun s =>
      (staticsOk (importedModules p.main.body) (boot_heap w.params) s.abs.heap && namesBound p s.abs.heap && gensDone s.abs && laidKept (boot_heap w.params) s.abs.heap, openSeen q loose (importedModules p.main.body) Xt true s.abs, Yf s.abs)) = some (true, openGood q loose, Ya w)) : LeftO p q loose Xt Yf Ya N true := fun w => by
  have ho := open_ w
  have hz := size w
  have hm := fun os => run w os
  cases hf : fencedOpening treeTable p w N with
  | none => rw [hf] at ho; cases ho
  | some s₀ =>
    rw [hf] at ho
    have hs : s₀ = ⟨boot_heap w.params, Array.mk [], boot_drawn, boot_toks, s₀.os⟩ := by
      cases s₀
      simp only [Option.map_some, Option.some.injEq, Prod.mk.injEq] at ho
      rw [ho.1, ho.2.1, ho.2.2.1, ho.2.2.2]
    specialize hm s₀.os
    cases hq : runQ p w m₀ ann M ⟨bootT w.params, 11, (boot_heap w.params).life, Array.mk [], boot_drawn, boot_toks, s₀.os⟩ (topStub p) with
    | none => rw [hq] at hm; cases hm
    | some s =>
      rw [hq] at hm
      simp only [Option.map_some, Option.some.injEq, Prod.mk.injEq] at hm hz
      have hr := runQ_spec _ _ _ _ hq
      rw [SharedT.abs, bootT_abs, ← hs] at hr
      have hN : N = M + (N - M) := (Nat.add_sub_cancel' (Nat.le_of_ble_eq_true le)).symm
      have hr := topRun_mono (N - M) _ _ _ _ hr
      rw [← hN] at hr
      have hh : s₀.heap = boot_heap w.params ∧ s₀.gens = Array.mk [] := by rw [hs]; exact ⟨rfl, rfl⟩
      have ht : topFrom treeTable p w N s₀ = some s.abs := by
        unfold topFrom
        rw [hh.1, hh.2, hz.1, hz.2.1, hz.2.2, hr]
        show (match _ with | true => some s.abs | false => none) = _
        rw [hm.1]
      show ((fencedOpening treeTable p w N).bind (topFrom treeTable p w N)).map _ = _
      rw [hf]
      show (topFrom treeTable p w N s₀).map _ = _
      rw [ht]
      show some (_, _) = some (_, _)
      rw [hm.2.1, hm.2.2]
theorem size_ok : ∀ w : World, ((boot_heap w.params).isNs mainGlobals, (boot_heap w.params).objs.size, (boot_heap w.params).nsMap mainGlobals "__annotations__") = (true, 11, some (.ref 6)) := by intro w; kernel_rfl
theorem opens_ok : opening PySem.Challenge.pw_sa0344_01 = plainProg PySem.Challenge.pw_sa0344_01.main.scope.names := by kernel_rfl
theorem fence_ok : ∀ s, fenceModules? PySem.Challenge.pw_sa0344_01 s = some s := by intro s; kernel_rfl
theorem glue {σ β0 β1 β2 β3 β4 β5 β6 β7 β8 : Type} {r : Option σ} {c : σ → Bool} {x : σ → β0 × β1 × β2 × β3 × β4 × β5 × β6 × β7 × β8} {g0 : β0} {g1 : β1} {g2 : β2} {g3 : β3} {g4 : β4} {g5 : β5} {g6 : β6} {g7 : β7} {g8 : β8}
    (hA : r.map (fun s => ((x s).1, (x s).2.1, (x s).2.2.2.2.2.2.1)) = some (g0, g1, g6))
    (hB : r.map (fun s => ((x s).2.2.1, (x s).2.2.2.1, (x s).2.2.2.2.1, (x s).2.2.2.2.2.2.2.2)) = some (g2, g3, g4, g8))
    (hC : r.map (fun s => (x s).2.2.2.2.2.1) = some g5)
    (hD : r.map (fun s => (c s, (x s).2.2.2.2.2.2.2.1)) = some (true, g7)) :
    r.map (fun s => (c s, x s, ())) = some (true, (g0, g1, g2, g3, g4, g5, g6, g7, g8), ()) := by
  cases r with
  | none => cases hA
  | some s =>
    simp only [Option.map_some, Option.some.injEq, Prod.mk.injEq] at hA hB hC hD ⊢
    obtain ⟨a0, a1, a6⟩ := hA
    obtain ⟨a2, a3, a4, a8⟩ := hB
    obtain ⟨a, a7⟩ := hD
    generalize x s = y at *
    subst a0 a1 a2 a3 a4 hC a6 a7 a8
    exact ⟨a, rfl, trivial⟩
noncomputable abbrev endQ (w : World) (os : OsState) : Option SharedT := runQ PySem.Challenge.pw_sa0344_01 w 11 (some (.ref 6)) 2300 ⟨bootT w.params, 11, (boot_heap w.params).life, Array.mk [], boot_drawn, boot_toks, os⟩ (topStub PySem.Challenge.pw_sa0344_01)
noncomputable abbrev seenQ (s : SharedT) := PySem.W.Fast.tw4187177175401517315 pv [] (importedModules PySem.Challenge.pw_sa0344_01.main.body) (fun s => xlAt pv [] s && recOk [] s) true s.abs
theorem lookA : ∀ (w : World) (os : OsState), (endQ w os).map (fun s => ((seenQ s).1, (seenQ s).2.1, (seenQ s).2.2.2.2.2.2.1)) = some (expectedOf pv, bltViewBooted, plainGoodD pv []) := by intro w os; kernel_rfl
theorem lookB : ∀ (w : World) (os : OsState), (endQ w os).map (fun s => ((seenQ s).2.2.1, (seenQ s).2.2.2.1, (seenQ s).2.2.2.2.1, (seenQ s).2.2.2.2.2.2.2.2)) = some (true, true, pinGoodD (drecsOf pv), clsGoodW pv []) := by intro w os; kernel_rfl
theorem lookC : ∀ (w : World) (os : OsState), (endQ w os).map (fun s => (seenQ s).2.2.2.2.2.1) = some (plainGoodE pv (looseW pv [])) := by intro w os; kernel_rfl
theorem lookD : ∀ (w : World) (os : OsState), (endQ w os).map (fun s => (staticsOk (importedModules PySem.Challenge.pw_sa0344_01.main.body) (boot_heap w.params) s.abs.heap && namesBound PySem.Challenge.pw_sa0344_01 s.abs.heap && gensDone s.abs && laidKept (boot_heap w.params) s.abs.heap, (seenQ s).2.2.2.2.2.2.2.1)) = some (true, wideGood pv) := by intro w os; kernel_rfl
theorem looks_ok : ∀ (w : World) (os : OsState), (endQ w os).map (fun s => (staticsOk (importedModules PySem.Challenge.pw_sa0344_01.main.body) (boot_heap w.params) s.abs.heap && namesBound PySem.Challenge.pw_sa0344_01 s.abs.heap && gensDone s.abs && laidKept (boot_heap w.params) s.abs.heap, seenQ s, ())) = some (true, openGood pv [], ()) := fun w os =>
  glue (r := endQ w os) (c := fun s => staticsOk (importedModules PySem.Challenge.pw_sa0344_01.main.body) (boot_heap w.params) s.abs.heap && namesBound PySem.Challenge.pw_sa0344_01 s.abs.heap && gensDone s.abs && laidKept (boot_heap w.params) s.abs.heap) (x := seenQ) (lookA w os) (lookB w os) (lookC w os) (lookD w os)
theorem left : LeftO PySem.Challenge.pw_sa0344_01 pv [] (fun s => xlAt pv [] s && recOk [] s) (fun _ => ()) (fun _ => ()) 4310 :=
  left_of (boot_open opens_ok rfl fence_ok) size_ok rfl (by rw [PySem.W.Fast.te4187177175401517315]; exact looks_ok)
theorem said : PySem.Challenge.rw_sa0344_01.wellSaid = true := by
  refine (congrFun PySem.W.Fast.te9446332074065402090 _).trans ?_
  unfold PySem.W.Fast.tw9446332074065402090
  repeat refine look_both ?_ (by as_aux_lemma => kernel_rfl)
  as_aux_lemma => kernel_rfl
end Mine
end
section
namespace Mine

def val (B : Nat) : List Nat → Nat
  | [] => 0
  | x :: r => x + B * val B r

def limbs (B n : Nat) : List Nat :=
  if _h : n = 0 ∨ B < 2 then [] else (n % B) :: limbs B (n / B)
termination_by n
decreasing_by exact Nat.div_lt_self (by omega) (by omega)

def Dig (B : Nat) (l : List Nat) : Prop := ∀ x ∈ l, x < B

section
variable {B : Nat}

theorem limbs_zero : limbs B 0 = [] := by rw [limbs]; simp
theorem limbs_pos (hB : 2 ≤ B) {n : Nat} (h : n ≠ 0) : limbs B n = (n % B) :: limbs B (n / B) := by
  rw [limbs]; rw [dif_neg (by omega)]
theorem limbs_dig (hB : 2 ≤ B) (n : Nat) : Dig B (limbs B n) := by
  induction n using Nat.strongRecOn with
  | ind n ih =>
    by_cases h : n = 0
    · subst h; rw [limbs_zero]; intro x hx; cases hx
    · rw [limbs_pos hB h]
      intro x hx
      rcases List.mem_cons.mp hx with rfl | hx
      · exact Nat.mod_lt _ (by omega)
      · exact ih _ (Nat.div_lt_self (by omega) (by omega)) x hx
theorem val_limbs (hB : 2 ≤ B) (n : Nat) : val B (limbs B n) = n := by
  induction n using Nat.strongRecOn with
  | ind n ih =>
    by_cases h : n = 0
    · subst h; rw [limbs_zero]; rfl
    · rw [limbs_pos hB h, val, ih _ (Nat.div_lt_self (by omega) (by omega))]
      exact Nat.mod_add_div n B
theorem len_limbs (hB : 2 ≤ B) (k : Nat) : ∀ n, (limbs B n).length ≤ k ↔ n < B ^ k := by
  induction k with
  | zero =>
    intro n
    by_cases h : n = 0
    · subst h; rw [limbs_zero]; simp
    · rw [limbs_pos hB h]; simp; omega
  | succ k ih =>
    intro n
    by_cases h : n = 0
    · subst h; rw [limbs_zero]; simp; exact Nat.pow_pos (by omega)
    · rw [limbs_pos hB h, List.length_cons, Nat.succ_le_succ_iff, ih, Nat.div_lt_iff_lt_mul (by omega), Nat.pow_succ]
theorem len_limbs_le (hB : 2 ≤ B) {n k : Nat} (h : n < 2 ^ k) : (limbs B n).length ≤ k :=
  (len_limbs hB k n).mpr (Nat.lt_of_lt_of_le h (Nat.pow_le_pow_left hB k))
theorem limbs_lt (hB : 2 ≤ B) (n : Nat) : n < B ^ (limbs B n).length := (len_limbs hB _ n).mp (Nat.le_refl _)
theorem limbs_nil (hB : 2 ≤ B) {n : Nat} : limbs B n = [] ↔ n = 0 := by
  constructor
  · intro h
    have := (len_limbs hB 0 n).mp (by simp [h])
    simpa using this
  · intro h; subst h; exact limbs_zero
theorem len_pos (hB : 2 ≤ B) {n : Nat} : 0 < (limbs B n).length ↔ 0 < n := by
  constructor
  · intro h
    rcases Nat.eq_zero_or_pos n with h0 | h0
    · subst h0; rw [limbs_zero] at h; simp at h
    · exact h0
  · intro h
    rw [limbs_pos hB (by omega)]; simp
theorem digit (hB : 2 ≤ B) : ∀ (i n : Nat), (limbs B n).getD i 0 = n / B ^ i % B
  | 0, n => by
    by_cases h : n = 0
    · subst h; rw [limbs_zero]; simp
    · rw [limbs_pos hB h]; simp
  | i + 1, n => by
    by_cases h : n = 0
    · subst h; rw [limbs_zero]; simp
    · rw [limbs_pos hB h, List.getD_cons_succ, digit hB i, Nat.div_div_eq_div_mul, Nat.pow_succ, Nat.mul_comm B]
theorem one_limb (hB : 2 ≤ B) {n : Nat} (h0 : 0 < n) (h : n < B) : limbs B n = [n] := by
  rw [limbs_pos hB (by omega), Nat.mod_eq_of_lt h, Nat.div_eq_of_lt h, limbs_zero]

theorem val_append (l m : List Nat) : val B (l ++ m) = val B l + B ^ l.length * val B m := by
  induction l with
  | nil => simp [val]
  | cons x r ih => simp only [List.cons_append, val, ih, List.length_cons, Nat.pow_succ, Nat.mul_add]; rw [Nat.mul_comm (B ^ r.length) B, Nat.mul_assoc]; omega
theorem val_snoc (l : List Nat) (x : Nat) : val B (l ++ [x]) = val B l + B ^ l.length * x := by rw [val_append]; simp [val]
theorem val_lt (hB : 2 ≤ B) : ∀ {l : List Nat}, Dig B l → val B l < B ^ l.length
  | [], _ => by simp [val]
  | x :: r, h => by
    have h1 := val_lt hB (l := r) fun y hy => h y (.tail _ hy)
    have h2 := h x (.head _)
    simp only [val, List.length_cons, Nat.pow_succ]
    have h3 : B * (val B r + 1) ≤ B * B ^ r.length := Nat.mul_le_mul_left B h1
    rw [Nat.mul_comm (B ^ r.length) B]; rw [Nat.mul_add] at h3; omega
theorem canon (hB : 2 ≤ B) : ∀ {l : List Nat}, Dig B l → (l = [] ∨ B ^ (l.length - 1) ≤ val B l) → limbs B (val B l) = l
  | [], _, _ => by simp [val, limbs_zero]
  | [x], h, hc => by
    have h2 := h x (.head _)
    rcases hc with hc | hc
    · cases hc
    · simp only [val, List.length_singleton, Nat.sub_self, Nat.pow_zero, Nat.mul_zero, Nat.add_zero] at hc ⊢
      exact one_limb hB hc h2
  | x :: y :: r, h, hc => by
    have h2 := h x (.head _)
    have hd : Dig B (y :: r) := fun z hz => h z (.tail _ hz)
    have hc' : B ^ ((y :: r).length - 1) ≤ val B (y :: r) := by
      rcases hc with hc | hc
      · cases hc
      · have e : (x :: y :: r).length - 1 = (y :: r).length - 1 + 1 := by simp
        rw [e, Nat.pow_succ, val] at hc
        have h3 : B ^ ((y :: r).length - 1) * B < (val B (y :: r) + 1) * B := by
          rw [Nat.add_mul, Nat.one_mul, Nat.mul_comm (val B (y :: r)) B]; omega
        have := Nat.lt_of_mul_lt_mul_right h3
        omega
    have ih := canon hB hd (.inr hc')
    have hne : val B (x :: y :: r) ≠ 0 := by
      have : 0 < val B (y :: r) := Nat.lt_of_lt_of_le (Nat.pow_pos (by omega)) hc'
      rw [val]
      have : 0 < B * val B (y :: r) := Nat.mul_pos (by omega) this
      omega
    rw [limbs_pos hB hne]
    have e1 : val B (x :: y :: r) % B = x := by rw [val, Nat.add_mul_mod_self_left, Nat.mod_eq_of_lt h2]
    have e2 : val B (x :: y :: r) / B = val B (y :: r) := by rw [val, Nat.add_mul_div_left _ _ (by omega), Nat.div_eq_of_lt h2, Nat.zero_add]
    rw [e1, e2, ih]

theorem Dig.snoc {l : List Nat} {x : Nat} (h : Dig B l) (hx : x < B) : Dig B (l ++ [x]) := fun y hy => by
  rcases List.mem_append.mp hy with h1 | h1
  · exact h y h1
  · rw [List.mem_singleton.mp h1]; exact hx
theorem Dig.take {l : List Nat} (h : Dig B l) (k : Nat) : Dig B (l.take k) := fun y hy => h y (List.mem_of_mem_take hy)
theorem canon_snoc (hB : 2 ≤ B) {l : List Nat} {x : Nat} (h : Dig B l) (hx : x < B) (h0 : 0 < x) : limbs B (val B l + B ^ l.length * x) = l ++ [x] := by
  have := canon hB (h.snoc hx) (.inr (by
    rw [val_snoc, List.length_append, List.length_singleton, Nat.add_sub_cancel]
    have := Nat.le_mul_of_pos_right (B ^ l.length) h0
    omega))
  rwa [val_snoc] at this

/- the digits dealt with so far -/
theorem mod_succ (x i : Nat) : x % B ^ (i + 1) = x % B ^ i + B ^ i * (x / B ^ i % B) := Nat.mod_pow_succ
theorem div_succ (hB : 2 ≤ B) (x i : Nat) : x / B ^ i = B * (x / B ^ (i + 1)) + x / B ^ i % B := by
  rw [Nat.pow_succ, ← Nat.div_div_eq_div_mul]
  exact (Nat.div_add_mod _ _).symm
theorem mod_len (hB : 2 ≤ B) (x : Nat) {i : Nat} (h : (limbs B x).length ≤ i) : x % B ^ i = x := Nat.mod_eq_of_lt ((len_limbs hB i x).mp h)
theorem div_len (hB : 2 ≤ B) (x : Nat) {i : Nat} (h : (limbs B x).length ≤ i) : x / B ^ i = 0 := Nat.div_eq_of_lt ((len_limbs hB i x).mp h)
theorem pow_le (hB : 2 ≤ B) {x : Nat} (h : x ≠ 0) : B ^ ((limbs B x).length - 1) ≤ x := by
  apply Nat.le_of_not_lt
  intro hlt
  have := (len_limbs hB _ x).mpr hlt
  have := (len_pos hB (n := x)).mpr (by omega)
  omega

/- normal: trailing noughts dropped -/
theorem take_step {l : List Nat} {e : Nat} (he : 0 < e) (hl : e ≤ l.length) (h0 : l.getD (e - 1) 0 = 0) : val B (l.take (e - 1)) = val B (l.take e) := by
  obtain ⟨m, rfl⟩ : ∃ m, e = m + 1 := ⟨e - 1, by omega⟩
  have hm : m < l.length := by omega
  have hg : l[m] = 0 := by simpa [hm] using h0
  rw [Nat.add_sub_cancel, List.take_succ_eq_append_getElem hm, hg, val_snoc, Nat.mul_zero, Nat.add_zero]
theorem take_done (hB : 2 ≤ B) {l : List Nat} {e : Nat} (hd : Dig B l) (hl : e ≤ l.length) (h0 : e = 0 ∨ l.getD (e - 1) 0 ≠ 0) : limbs B (val B (l.take e)) = l.take e := by
  by_cases he : e = 0
  · subst he; simp [val, limbs_zero]
  · obtain ⟨m, rfl⟩ : ∃ m, e = m + 1 := ⟨e - 1, by omega⟩
    have h0' : l.getD m 0 ≠ 0 := by
      rcases h0 with h0 | h0
      · exact absurd h0 he
      · simpa using h0
    have hm : m < l.length := by omega
    have hg : l[m] ≠ 0 := by simpa [hm] using h0'
    rw [List.take_succ_eq_append_getElem hm, val_snoc]
    exact canon_snoc hB (hd.take m) (hd _ (List.getElem_mem hm)) (by omega)
end
end Mine
namespace Mine
section
variable {B : Nat}
def cmp (x y : Nat) : Int := if x < y then -1 else if x = y then 0 else 1
theorem lt_of_len (hB : 2 ≤ B) {x y : Nat} (h : (limbs B x).length < (limbs B y).length) : x < y := by
  have h1 := limbs_lt hB x
  apply Nat.lt_of_not_le
  intro hle
  have := (len_limbs hB _ y).mpr (Nat.lt_of_le_of_lt hle h1)
  omega
theorem lt_of_div {x y k : Nat} (h : x / k < y / k) : x < y := by
  apply Nat.lt_of_not_le
  intro hle
  have := Nat.div_le_div_right (c := k) hle
  omega
end
end Mine
namespace Mine
theorem add_step {w : Nat} {l : List Nat} {c x y i : Nat} (hlen : l.length = i) (hv : val (2 ^ w) l + (2 ^ w) ^ i * c = x % (2 ^ w) ^ i + y % (2 ^ w) ^ i) :
    val (2 ^ w) (l ++ [(c + (x / (2 ^ w) ^ i % 2 ^ w + y / (2 ^ w) ^ i % 2 ^ w)) % 2 ^ w]) + (2 ^ w) ^ (i + 1) * ((c + (x / (2 ^ w) ^ i % 2 ^ w + y / (2 ^ w) ^ i % 2 ^ w)) / 2 ^ w) = x % (2 ^ w) ^ (i + 1) + y % (2 ^ w) ^ (i + 1) := by
  subst hlen
  generalize 2 ^ w = B at *
  rw [val_snoc, mod_succ x, mod_succ y, Nat.pow_succ]
  generalize x / B ^ l.length % B = p at *
  generalize y / B ^ l.length % B = q at *
  generalize B ^ l.length = M at *
  have h := Nat.mod_add_div (c + (p + q)) B
  have h2 : M * ((c + (p + q)) % B) + M * B * ((c + (p + q)) / B) = M * (c + (p + q)) := by
    rw [Nat.mul_assoc, ← Nat.mul_add, h]
  rw [Nat.mul_add, Nat.mul_add] at h2
  omega
theorem add_carry {w : Nat} (hB : 2 ≤ 2 ^ w) {l : List Nat} {c x' y' x y : Nat} (hv : val (2 ^ w) l + (2 ^ w) ^ l.length * c = x + y) (hx : x' < 2 ^ 60) (hy : y' < 2 ^ 60) (hs : x' + y' = x + y)
    (hl : (limbs (2 ^ w) x').length = l.length) (hle : (limbs (2 ^ w) y').length ≤ (limbs (2 ^ w) x').length) : c < 2 ^ w := by
  have h1 := (len_limbs hB l.length x').mp (by omega)
  have h2 := (len_limbs hB l.length y').mp (by omega)
  apply Nat.lt_of_not_le
  intro h
  have h3 : (2 ^ w) ^ l.length * 2 ≤ (2 ^ w) ^ l.length * c := Nat.mul_le_mul_left _ (by omega)
  omega
end Mine
namespace Mine
theorem sub_step {w : Nat} {l : List Nat} {c x y i gx gy : Nat} (hlen : l.length = i) (hgx : x / (2 ^ w) ^ i % 2 ^ w = gx) (hgy : y / (2 ^ w) ^ i % 2 ^ w = gy)
    (hv : val (2 ^ w) l + y % (2 ^ w) ^ i = x % (2 ^ w) ^ i + (2 ^ w) ^ i * c) (hgy2 : gy < 2 ^ w) (hc : c ≤ 1) :
    val (2 ^ w) (l ++ [if gx < c + gy then gx + 2 ^ w - (c + gy) else gx - (c + gy)]) + y % (2 ^ w) ^ (i + 1) = x % (2 ^ w) ^ (i + 1) + (2 ^ w) ^ (i + 1) * (if gx < c + gy then 1 else 0) := by
  subst hlen
  rw [val_snoc, mod_succ x, mod_succ y, hgx, hgy, Nat.pow_succ]
  generalize 2 ^ w = B at *
  generalize B ^ l.length = M at *
  by_cases h : gx < c + gy
  · rw [if_pos h, if_pos h, Nat.mul_one]
    have h2 : M * (gx + B - (c + gy)) + M * c + M * gy = M * gx + M * B := by
      rw [← Nat.mul_add, ← Nat.mul_add, ← Nat.mul_add]; congr 1; omega
    omega
  · rw [if_neg h, if_neg h, Nat.mul_zero]
    have h2 : M * (gx - (c + gy)) + M * c + M * gy = M * gx := by
      rw [← Nat.mul_add, ← Nat.mul_add]; congr 1; omega
    omega
theorem addl_step {w : Nat} {l : List Nat} {c c0 x i gx : Nat} (hlen : l.length = i) (hgx : x / (2 ^ w) ^ i % 2 ^ w = gx) (hv : val (2 ^ w) l + (2 ^ w) ^ i * c = x % (2 ^ w) ^ i + c0) :
    val (2 ^ w) (l ++ [(c + gx) % 2 ^ w]) + (2 ^ w) ^ (i + 1) * ((c + gx) / 2 ^ w) = x % (2 ^ w) ^ (i + 1) + c0 := by
  subst hlen
  rw [val_snoc, mod_succ x, hgx, Nat.pow_succ]
  generalize 2 ^ w = B at *
  generalize B ^ l.length = M at *
  have h := Nat.mod_add_div (c + gx) B
  have h2 : M * ((c + gx) % B) + M * B * ((c + gx) / B) = M * (c + gx) := by
    rw [Nat.mul_assoc, ← Nat.mul_add, h]
  rw [Nat.mul_add] at h2
  omega
end Mine
namespace Mine
theorem div_cast (a b : Nat) : ((a : Int) / (b : Int)) = ((a / b : Nat) : Int) := (Int.natCast_ediv a b).symm
theorem mod_cast_ (a b : Nat) : ((a : Int) % (b : Int)) = ((a % b : Nat) : Int) := (Int.natCast_emod a b).symm

theorem getD_set_ne {l : List Nat} {i j v : Nat} (h : i ≠ j) : (l.set i v).getD j 0 = l.getD j 0 := by
  simp [List.getD, List.getElem?_set, h]
theorem val_set {B : Nat} : ∀ {l : List Nat} {k v : Nat}, k < l.length → val B (l.set k v) + B ^ k * l.getD k 0 = val B l + B ^ k * v
  | [], k, v, h => by simp at h
  | x :: r, 0, v, _ => by simp [val]; omega
  | x :: r, k + 1, v, h => by
    have ih := val_set (B := B) (l := r) (k := k) (v := v) (by simpa using h)
    simp only [List.set_cons_succ, val, List.getD_cons_succ, Nat.pow_succ]
    have e1 : B ^ k * B * r.getD k 0 = B * (B ^ k * r.getD k 0) := by rw [Nat.mul_comm (B ^ k) B, Nat.mul_assoc]
    have e2 : B ^ k * B * v = B * (B ^ k * v) := by rw [Nat.mul_comm (B ^ k) B, Nat.mul_assoc]
    have e3 : B * (val B (r.set k v) + B ^ k * r.getD k 0) = B * (val B r + B ^ k * v) := by rw [ih]
    rw [Nat.mul_add, Nat.mul_add] at e3
    omega
theorem Dig.set {B : Nat} {l : List Nat} (h : Dig B l) {k v : Nat} (hv : v < B) : Dig B (l.set k v) := fun y hy => by
  rcases List.mem_or_eq_of_mem_set hy with h1 | h1
  · exact h y h1
  · rw [h1]; exact hv
theorem Dig.zeros {B : Nat} (hB : 0 < B) (n : Nat) : Dig B (List.replicate n 0) := fun y hy => by rw [List.eq_of_mem_replicate hy]; exact hB
theorem val_zeros {B : Nat} : ∀ n, val B (List.replicate n 0) = 0
  | 0 => rfl
  | n + 1 => by rw [List.replicate_succ, val, val_zeros n]; simp
theorem getD_zeros (n j : Nat) : (List.replicate n 0).getD j 0 = 0 := by
  simp [List.getD, List.getElem?_replicate]; split <;> rfl

/- division by one limb: one step -/
theorem divl_step {B : Nat} (hB : 2 ≤ B) {l : List Nat} {x d r m : Nat} (hd0 : 0 < d) (hd : d < B) (hm : m < l.length)
    (hv : val B l = B ^ (m + 1) * (x / B ^ (m + 1) / d)) (hr : r = x / B ^ (m + 1) % d) (hz : l.getD m 0 = 0) :
    val B (l.set m ((r * B + x / B ^ m % B) / d)) = B ^ m * (x / B ^ m / d) ∧ (r * B + x / B ^ m % B) % d = x / B ^ m % d ∧ (r * B + x / B ^ m % B) / d < B := by
  have hs := val_set (B := B) (v := (r * B + x / B ^ m % B) / d) hm
  rw [hz, Nat.mul_zero, Nat.add_zero] at hs
  have hx := div_succ hB x m
  have hg : x / B ^ m % B < B := Nat.mod_lt _ (by omega)
  generalize x / B ^ m % B = g at *
  generalize hX : x / B ^ (m + 1) = X at *
  have hrd : r < d := hr ▸ Nat.mod_lt _ hd0
  have hXd := Nat.div_add_mod X d
  rw [← hr] at hXd
  have e : x / B ^ m = d * (B * (X / d)) + (r * B + g) := by
    rw [hx, ← hXd, Nat.mul_add, ← Nat.mul_assoc, ← Nat.mul_assoc, Nat.mul_comm B d, Nat.mul_comm B r, Nat.add_assoc]
    rw [Nat.mul_add_div hd0, Nat.div_eq_of_lt hrd, Nat.add_zero]
  refine ⟨?_, ?_, ?_⟩
  · rw [hs, hv, e, Nat.mul_add_div hd0, Nat.pow_succ, Nat.mul_add, ← Nat.mul_assoc]
  · rw [e, Nat.mul_add_mod]
  · rw [Nat.div_lt_iff_lt_mul hd0]
    have h1 : (r + 1) * B ≤ d * B := Nat.mul_le_mul_right B hrd
    rw [Nat.add_mul] at h1
    rw [Nat.mul_comm B d]; omega

/- one turn of the inner loop of the school's multiplication -/
theorem mul_step {B : Nat} (hB : 2 ≤ B) {l : List Nat} {c gx gy v0 i j y : Nat} (hd : Dig B l) (hk : i + j < l.length) (hc : c < B) (hgx : gx < B) (hgy : y / B ^ j % B = gy)
    (hv : val B l + B ^ (i + j) * c = v0 + B ^ i * gx * (y % B ^ j)) :
    val B (l.set (i + j) ((c + (l.getD (i + j) 0 + gx * gy)) % B)) + B ^ (i + (j + 1)) * ((c + (l.getD (i + j) 0 + gx * gy)) / B) = v0 + B ^ i * gx * (y % B ^ (j + 1)) ∧
    (c + (l.getD (i + j) 0 + gx * gy)) / B < B := by
  have hgy2 : gy < B := hgy ▸ Nat.mod_lt _ (by omega)
  have hg : l.getD (i + j) 0 < B := by
    have : l[i + j] < B := hd _ (List.getElem_mem hk)
    simpa [hk] using this
  have hs := val_set (B := B) (v := (c + (l.getD (i + j) 0 + gx * gy)) % B) hk
  rw [mod_succ y, hgy]
  generalize l.getD (i + j) 0 = g at *
  constructor
  · have h := Nat.mod_add_div (c + (g + gx * gy)) B
    have e1 : B ^ (i + j) * ((c + (g + gx * gy)) % B) + B ^ (i + (j + 1)) * ((c + (g + gx * gy)) / B) = B ^ (i + j) * (c + (g + gx * gy)) := by
      rw [← Nat.add_assoc i j 1, Nat.pow_succ, Nat.mul_assoc, ← Nat.mul_add, h]
    have e2 : B ^ i * gx * (y % B ^ j + B ^ j * gy) = B ^ i * gx * (y % B ^ j) + B ^ (i + j) * (gx * gy) := by
      rw [Nat.mul_add, Nat.pow_add]; congr 1
      rw [Nat.mul_assoc, Nat.mul_assoc, ← Nat.mul_assoc gx, Nat.mul_comm gx (B ^ j), Nat.mul_assoc]
    rw [e2]
    rw [Nat.mul_add, Nat.mul_add] at e1
    omega
  · rw [Nat.div_lt_iff_lt_mul (by omega)]
    have h1 : gx * gy ≤ (B - 1) * (B - 1) := Nat.mul_le_mul (by omega) (by omega)
    obtain ⟨b, rfl⟩ : ∃ b, B = b + 1 := ⟨B - 1, by omega⟩
    rw [Nat.add_sub_cancel] at h1
    rw [Nat.add_mul, Nat.mul_add]
    omega
end Mine
namespace Mine
def sgn (b : Bool) (x : Nat) : Int := if b then -(x : Int) else x
def cmpZ (x y : Int) : Int := if x < y then -1 else if x = y then 0 else 1
theorem sgn_lt (b : Bool) (x : Nat) : decide (sgn b x < 0) = (b && decide (0 < x)) := by
  cases b <;> simp [sgn] <;> omega
theorem sgn_abs (b : Bool) (x : Nat) : (sgn b x).natAbs = x := by cases b <;> simp [sgn]
theorem sgn_self (z : Int) : sgn (decide (z < 0)) z.natAbs = z := by
  by_cases h : z < 0 <;> simp [sgn, h] <;> omega
end Mine
namespace Mine
theorem sgn_mul (x y : Int) : sgn (decide (x < 0) != decide (y < 0)) (x.natAbs * y.natAbs) = x * y := by
  by_cases h1 : x < 0 <;> by_cases h2 : y < 0 <;> simp only [h1, h2, decide_true, decide_false, bne_self_eq_false, sgn, Bool.false_eq_true, if_false, Bool.true_bne, Bool.false_bne, Bool.not_false, if_true, Int.natCast_mul]
  · rw [Int.ofNat_natAbs_of_nonpos (by omega), Int.ofNat_natAbs_of_nonpos (by omega), Int.neg_mul_neg]
  · rw [Int.ofNat_natAbs_of_nonpos (by omega), Int.natAbs_of_nonneg (by omega), Int.neg_mul, Int.neg_neg]
  · rw [Int.natAbs_of_nonneg (by omega), Int.ofNat_natAbs_of_nonpos (by omega), Int.mul_neg, Int.neg_neg]
  · rw [Int.natAbs_of_nonneg (by omega), Int.natAbs_of_nonneg (by omega)]
end Mine
end
section
set_option Elab.async false
set_option maxRecDepth 100000
open PySem PySem.Calls PySem.Spec PyProof.Rows

namespace Mine

structure Wd where
  prog : Program
  w : World
  mg : Str → Option Value
  mb : Str → Option Value
  defs : List DefItem
  consts : List (Str × PyData)
  names : List Str

def Wd.At (W : Wd) (h : Heap) : Prop := Glob 0 W.mg W.mb W.defs W.consts [] W.names h

inductive Bd where
  | d (x : PyData)
  | v (x : Value)

def Rd (h : Heap) (X : List Addr) (v : Value) (x : PyData) : Prop := ∃ as, Reads h v x as ∧ ∀ a ∈ as, a ∉ X

def Bd.holds (h : Heap) (X : List Addr) (v : Value) : Bd → Prop
  | .d x => Rd h X v x
  | .v x => v = x

structure Ext (s s' : Shared) : Prop where
  keep : ∀ b o, s.heap.get? b = some o → s'.heap.get? b = some o
  gens : s'.gens = s.gens
  os : s'.os = s.os

theorem Ext.refl (s : Shared) : Ext s s := ⟨fun _ _ e => e, rfl, rfl⟩
theorem Ext.trans {a b c : Shared} (x : Ext a b) (y : Ext b c) : Ext a c :=
  ⟨fun p o e => y.keep p o (x.keep p o e), y.gens.trans x.gens, y.os.trans x.os⟩
theorem Ext.toks (s : Shared) (tk : Nat) : Ext s { s with toks := tk } := ⟨fun _ _ e => e, rfl, rfl⟩

theorem Rd.keeps {h h' : Heap} {X : List Addr} {v : Value} {x : PyData} (hk : ∀ b o, h.get? b = some o → h'.get? b = some o) (r : Rd h X v x) : Rd h' X v x :=
  let ⟨as, h1, h2⟩ := r; ⟨as, Reads.keeps hk h1, h2⟩
theorem Rd.sub {h : Heap} {X Y : List Addr} {v : Value} {x : PyData} (hk : ∀ a, a ∈ Y → a ∈ X) (r : Rd h X v x) : Rd h Y v x :=
  let ⟨as, h1, h2⟩ := r; ⟨as, h1, fun a ha hy => h2 a ha (hk a hy)⟩
theorem Bd.holds.keeps {h h' : Heap} {X : List Addr} {v : Value} {d : Bd} (hk : ∀ b o, h.get? b = some o → h'.get? b = some o) (r : d.holds h X v) : d.holds h' X v := by
  cases d with
  | d x => exact Rd.keeps hk r
  | v x => exact r
theorem Bd.holds.sub {h : Heap} {X Y : List Addr} {v : Value} {d : Bd} (hk : ∀ a, a ∈ Y → a ∈ X) (r : d.holds h X v) : d.holds h Y v := by
  cases d with
  | d x => exact Rd.sub hk r
  | v x => exact r

/- a change that spares tuples, and lists and dicts outside X -/
def Spares (X : List Addr) (h h' : Heap) : Prop :=
  ∀ b o, h.get? b = some o → ((∃ vs n, o.data = .seq vs n ∧ (o.cls = .type "tuple" ∨ b ∉ X)) ∨ (∃ es n, o.data = .dict es n ∧ b ∉ X)) → h'.get? b = some o

mutual
theorem reads_spare {h h' : Heap} {X : List Addr} (hk : Spares X h h') :
    ∀ {v : Value} {d : PyData} {as : List Addr}, Reads h v d as → (∀ a ∈ as, a ∉ X) → Reads h' v d as
  | _, _, _, .none, _ => .none
  | _, _, _, .bool b, _ => .bool b
  | _, _, _, .int i t, _ => .int i t
  | _, _, _, .str x t, _ => .str x t
  | _, _, _, .list h1 h2 h3 h4, ha => .list (hk _ _ h1 (.inl ⟨_, _, h3, .inr (ha _ (.head _))⟩)) h2 h3 (readsAll_spare hk h4 (fun a m => ha a (.tail _ m)))
  | _, _, _, .tuple h1 h2 h3 h4, ha => .tuple (hk _ _ h1 (.inl ⟨_, _, h3, .inl h2⟩)) h2 h3 (readsAll_spare hk h4 ha)
  | _, _, _, .dict h1 h2 h3 h4 h5, ha => .dict (hk _ _ h1 (.inr ⟨_, _, h3, ha _ (.head _)⟩)) h2 h3
      (readsAll_spare hk h4 fun a m => ha a (.tail _ (List.mem_append_left _ m))) (readsAll_spare hk h5 fun a m => ha a (.tail _ (List.mem_append_right _ m)))
theorem readsAll_spare {h h' : Heap} {X : List Addr} (hk : Spares X h h') :
    ∀ {vs : List Value} {ds : List PyData} {as : List Addr}, ReadsAll h vs ds as → (∀ a ∈ as, a ∉ X) → ReadsAll h' vs ds as
  | _, _, _, .nil, _ => .nil
  | _, _, _, .cons h1 h2, ha => .cons (reads_spare hk h1 fun a m => ha a (List.mem_append_left _ m)) (readsAll_spare hk h2 fun a m => ha a (List.mem_append_right _ m))
end

theorem Rd.spare {h h' : Heap} {X : List Addr} {v : Value} {x : PyData} (hk : Spares X h h') (r : Rd h X v x) : Rd h' X v x :=
  let ⟨as, h1, h2⟩ := r; ⟨as, reads_spare hk h1 h2, h2⟩
theorem Bd.holds.spare {h h' : Heap} {X : List Addr} {v : Value} {d : Bd} (hk : Spares X h h') (r : d.holds h X v) : d.holds h' X v := by
  cases d with
  | d x => exact Rd.spare hk r
  | v x => exact r

structure Sto where
  own : Option (Addr × List PyData)
  vars : List (Str × Bd)

def Sto.X (σ : Sto) : List Addr := match σ.own with | some p => [p.1] | none => []

def upd (x : Str) (d : Bd) : List (Str × Bd) → List (Str × Bd)
  | [] => [(x, d)]
  | p :: r => if p.1 = x then (x, d) :: r else p :: upd x d r

def Sto.set (σ : Sto) (x : Str) (d : Bd) : Sto := ⟨σ.own, upd x d σ.vars⟩

structure Cx where
  A : Around
  env : Env
  h₀ : Heap
  X : List Addr
  cells : List (Str × Addr × Bd)
  room : Nat
  gens : Array GenState
  os : OsState

def Cx.av (C : Cx) (σ : Sto) : List Addr := C.env.locals :: (σ.X ++ C.X)

structure Wf (W : Wd) (C : Cx) : Prop where
  kind : C.env.scope.kind = .function
  glob : C.env.globals = mainGlobals
  blt : C.env.builtins = builtinsNs
  hh : C.A.handled = none
  dep : C.A.depth + C.room < 1000
  unit : C.A.units + 8 * C.room + 200 < 9900
  at_ : W.At C.h₀
  xs : ∀ a ∈ C.X, ∃ o, C.h₀.get? a = some o

structure Ok (C : Cx) (σ : Sto) (s : Shared) : Prop where
  m : ∃ m, Fr C.h₀ C.env.locals s.heap m ∧ ∀ p ∈ σ.vars, ∃ v, m p.1 = some v ∧ p.2.holds s.heap (C.av σ) v
  own : ∀ l ds, σ.own = some (l, ds) → C.h₀.get? l = none ∧ l ≠ C.env.locals ∧ ∃ vs as, s.heap.PlainList l vs.toArray ∧ ReadsAll s.heap vs ds as ∧ (∀ a ∈ as, a ∉ C.av σ)
  cells : ∀ p ∈ C.cells, C.env.cells.lookup p.1 = some p.2.1 ∧ p.2.1 ≠ C.env.locals ∧ p.2.1 ∉ σ.X ∧ ∃ v, s.heap.IsCell p.2.1 (some v) ∧ p.2.2.holds s.heap (C.av σ) v
  gens : s.gens = C.gens
  os : s.os = C.os
  nd : (σ.vars.map (·.1)).Nodup

theorem Ok.ext {C : Cx} {σ : Sto} {s s' : Shared} (k : Ok C σ s) (x : Ext s s') : Ok C σ s' := by
  obtain ⟨⟨m, F, hv⟩, ho, hc, hg, hos, nd⟩ := k
  refine ⟨⟨m, F.after x.keep, fun p hp => ?_⟩, fun l ds e => ?_, fun p hp => ?_, x.gens.trans hg, x.os.trans hos, nd⟩
  · obtain ⟨v, h1, h2⟩ := hv p hp
    exact ⟨v, h1, h2.keeps x.keep⟩
  · obtain ⟨h1, h2, vs, as, h3, h4, h5⟩ := ho l ds e
    exact ⟨h1, h2, vs, as, h3.at (x.keep l), ReadsAll.keeps x.keep h4, h5⟩
  · obtain ⟨h1, h2, h3, v, h4, h5⟩ := hc p hp
    exact ⟨h1, h2, h3, v, (let ⟨o, a, b⟩ := h4; ⟨o, x.keep _ _ a, b⟩), h5.keeps x.keep⟩

section
variable (W : Wd) (C : Cx) (σ : Sto)
abbrev Nev : Value → Shared → Prop := fun _ _ => False
abbrev Wd.M (W : Wd) : Model := model W.prog W.w

structure EV (e : Expr) (d : Bd) : Prop where
  run : ∀ s, Ok C σ s → wpAny W.M C.A (eval e C.env) (fun v s' => Ext s s' ∧ d.holds s'.heap (C.av σ) v) Nev s
structure TV (e : Expr) (b : Bool) : Prop where
  run : ∀ s, Ok C σ s → wpAny W.M C.A (isTrue e C.env (eval e C.env)) (fun b' s' => Ext s s' ∧ b' = b) Nev s

def HoldsAll (h : Heap) (X : List Addr) : List Value → List Bd → Prop
  | [], [] => True
  | v :: vs, d :: ds => d.holds h X v ∧ HoldsAll h X vs ds
  | _, _ => False

structure EVs (es : List Expr) (ds : List Bd) : Prop where
  len : es.length = ds.length
  run : ∀ pos s, Ok C σ s → wpAny W.M C.A (spliced (backTo pos (starEach es C.env))) (fun vs s' => Ext s s' ∧ HoldsAll s'.heap (C.av σ) vs ds) Nev s

inductive Res where
  | next (σ : Sto)
  | ret (d : PyData)
  | brk (σ : Sto)

structure Fram (σ : Sto) (s : Shared) (σ' : Sto) (s' : Shared) : Prop where
  keep : ∀ b o, b ≠ C.env.locals → b ∉ σ.X → s.heap.get? b = some o → s'.heap.get? b = some o
  news : ∀ a ∈ σ'.X, a ∈ σ.X ∨ s.heap.get? a = none

def ResOk (s : Shared) : Res → Flow → Shared → Prop
  | .next σ', f, s' => f = .next ∧ Ok C σ' s' ∧ Fram C σ s σ' s'
  | .ret d, f, s' => ∃ v, f = .ret v ∧ Rd s'.heap C.X v d ∧ (∀ b o, C.h₀.get? b = some o → s'.heap.get? b = some o) ∧ s'.gens = C.gens ∧ s'.os = C.os
  | .brk σ', f, s' => f = .brk ∧ Ok C σ' s' ∧ Fram C σ s σ' s'

def S1 (st : Stmt) (K : Res → Prop) : Prop := ∀ s, Ok C σ s → wpAny W.M C.A (exec st C.env) (fun f s' => ∃ r, K r ∧ ResOk C σ s r f s') Nev s
def SX (sts : List Stmt) (K : Res → Prop) : Prop := ∀ s, Ok C σ s → wpAny W.M C.A (execs sts C.env) (fun f s' => ∃ r, K r ∧ ResOk C σ s r f s') Nev s
end

structure ConA (W : Wd) (n : Nat) (fa : Addr) (ds : List Bd) (r : PyData) : Prop where
  run : ∀ (A : Around) (s : Shared) (vals : List Value) (X : List Addr), A.handled = none → A.depth + n < 1000 → A.units + 8 * n + 200 < 9900 → W.At s.heap → (∀ a ∈ X, ∃ o, s.heap.get? a = some o) →
    HoldsAll s.heap X vals ds → wpAny W.M A (call (.ref fa) vals) (fun v s' => Ext s s' ∧ Rd s'.heap X v r) Nev s

def Wd.fa (W : Wd) (n : Str) : Addr := match W.mg n with | some (.ref a) => a | _ => 0
abbrev Con (W : Wd) (n : Nat) (name : Str) (ds : List Bd) (r : PyData) : Prop := ConA W n (W.fa name) ds r

end Mine
end
section
set_option Elab.async false
set_option maxRecDepth 100000
open PySem PySem.Calls PySem.Spec PyProof.Rows

namespace Mine

abbrev I (a : Int) : Bd := .d (.int a)
abbrev B (b : Bool) : Bd := .d (.bool b)
abbrev L (xs : List PyData) : Bd := .d (.list xs)
abbrev T (xs : List PyData) : Bd := .d (.tuple xs)

theorem Rd.int_inv {h : Heap} {X : List Addr} {v : Value} {a : Int} (r : Rd h X v (.int a)) : ∃ t, v = .int a t :=
  let ⟨_, h1, _⟩ := r; let ⟨t, e, _⟩ := reads_int_inv h1; ⟨t, e⟩
theorem Rd.bool_inv {h : Heap} {X : List Addr} {v : Value} {b : Bool} (r : Rd h X v (.bool b)) : v = .bool b :=
  let ⟨_, h1, _⟩ := r; (reads_bool_inv h1).1
theorem Rd.int {h : Heap} {X : List Addr} (a : Int) (t : Tok) : Rd h X (.int a t) (.int a) := ⟨[], .int a t, fun _ m => nomatch m⟩
theorem Rd.bool {h : Heap} {X : List Addr} (b : Bool) : Rd h X (.bool b) (.bool b) := ⟨[], .bool b, fun _ m => nomatch m⟩

theorem Rd.list_inv {h : Heap} {X : List Addr} {v : Value} {xs : List PyData} (r : Rd h X v (.list xs)) :
    ∃ a l bs, v = .ref a ∧ h.IsList a l.toArray ∧ ReadsAll h l xs bs ∧ a ∉ X ∧ ∀ b ∈ bs, b ∉ X := by
  obtain ⟨as, h1, h2⟩ := r
  obtain ⟨a, l, bs, rfl, rfl, h3, h4⟩ := reads_list_items h1
  exact ⟨a, l, bs, rfl, h3, h4, h2 _ (.head _), fun b hb => h2 _ (.tail _ hb)⟩
theorem Rd.tuple_inv {h : Heap} {X : List Addr} {v : Value} {xs : List PyData} (r : Rd h X v (.tuple xs)) :
    ∃ a l bs, v = .ref a ∧ IsTup h a l.toArray ∧ ReadsAll h l xs bs ∧ ∀ b ∈ bs, b ∉ X := by
  obtain ⟨as, h1, h2⟩ := r
  obtain ⟨a, l, rfl, h3, h4⟩ := reads_tuple_items h1
  exact ⟨a, l, as, rfl, h3, h4, h2⟩
theorem readsAll_len {h : Heap} : ∀ {vs : List Value} {ds : List PyData} {as : List Addr}, ReadsAll h vs ds as → vs.length = ds.length
  | _, _, _, .nil => rfl
  | _, _, _, .cons _ h2 => by simp [readsAll_len h2]
theorem readsAll_nth {h : Heap} {X : List Addr} : ∀ {vs : List Value} {ds : List PyData} {as : List Addr}, ReadsAll h vs ds as → (∀ a ∈ as, a ∉ X) → ∀ {i : Nat} {d : PyData}, ds[i]? = some d → ∃ v, vs[i]? = some v ∧ Rd h X v d
  | _, _, _, .nil, _, i, d, e => by simp at e
  | _, _, _, .cons (as := as) h1 h2, ha, 0, d, e => by simp at e; subst e; exact ⟨_, rfl, as, h1, fun a m => ha a (List.mem_append_left _ m)⟩
  | _, _, _, .cons h1 h2, ha, i + 1, d, e => by simpa using readsAll_nth h2 (fun a m => ha a (List.mem_append_right _ m)) (i := i) (by simpa using e)

section
variable {W : Wd} {C : Cx} {σ : Sto} {pos : Pos} {k : Nat}

theorem Wf.noClass (wf : Wf W C) : (C.env.scope.kind == .class || (C.env.scope.kind == .module && C.env.locals != C.env.globals)) = false := by
  rw [wf.kind]; rfl

theorem EV.loc {x : Str} {d : Bd} (wf : Wf W C) (hk : C.env.kindOf x = some .local) (hm : (x, d) ∈ σ.vars) (hd : (x == ("__debug__" : Str)) = false := by decide) :
    EV W C σ (.Name x pos) d := .mk fun s ok => by
  obtain ⟨m, F, hv⟩ := ok.m
  obtain ⟨v, h1, h2⟩ := hv _ hm
  exact wpAny_Name (wpAny_loadName_local wf.kind hk F.ns h1 ⟨Ext.refl s, h2⟩) hd

theorem Ok.at_ (wf : Wf W C) {s : Shared} (ok : Ok C σ s) : W.At s.heap := by
  obtain ⟨m, F, _⟩ := ok.m
  exact wf.at_.keeps F.keep

theorem EV.cell {x : Str} {c : Addr} {d : Bd} (wf : Wf W C) (hk : C.env.kindOf x = some .cell) (hm : (x, c, d) ∈ C.cells) (hd : (x == ("__debug__" : Str)) = false := by decide) :
    EV W C σ (.Name x pos) d := .mk fun s ok => by
  obtain ⟨h1, _, _, v, h2, h3⟩ := ok.cells _ hm
  exact wpAny_Name (wpAny_loadName_cell wf.kind hk h1 h2 ⟨Ext.refl s, h3⟩) hd

def HasFn (W : Wd) (x : Str) : Prop := ∃ a, W.mg x = some (.ref a)
theorem HasFn.eq {W : Wd} {x : Str} (h : HasFn W x) : W.mg x = some (.ref (W.fa x)) := by
  obtain ⟨a, e⟩ := h
  unfold Wd.fa; rw [e]

theorem EV.fn {x : Str} (wf : Wf W C) (hk : C.env.kindOf x = some .globalImplicit) (hf : HasFn W x) (hd : (x == ("__debug__" : Str)) = false := by decide) :
    EV W C σ (.Name x pos) (.v (.ref (W.fa x))) := .mk fun s ok => by
  have g := (ok.at_ wf).g
  refine Name_function_global wf.kind hk (loadGlobal_global (mg := W.mg) (by rw [wf.glob]; exact g) hf.eq ⟨Ext.refl s, rfl⟩) hd

theorem EV.blt {x : Str} {v : Value} (wf : Wf W C) (hk : C.env.kindOf x = some .globalImplicit) (hv : bootBuiltins x = some v) (hfree : x ∉ W.names) (hboot : x ∉ bootMainNames := by decide) (hn : x ≠ "__name__" := by decide)
    (hd : (x == ("__debug__" : Str)) = false := by decide) :
    EV W C σ (.Name x pos) (.v v) := .mk fun s ok => by
  have G := ok.at_ wf
  refine Name_function_global wf.kind hk (loadGlobal_builtin (mg := W.mg) (mb := W.mb) (by rw [wf.glob]; exact G.g) (G.free x hfree hboot) (by rw [wf.blt]; exact G.b) ((G.builtins x hn).trans hv) ⟨Ext.refl s, rfl⟩) hd

theorem EV.int {i : Int} : EV W C σ (.Constant (.int i) k pos) (I i) := .mk fun s _ => wpAny_Constant_int ⟨Ext.toks s _, Rd.int _ _⟩
theorem EV.bool {b : Bool} : EV W C σ (.Constant (.bool b) k pos) (B b) := .mk fun s _ => wpAny_Constant_bool ⟨Ext.refl s, Rd.bool _⟩

theorem EV.bin {l r : Expr} {op : Operator} {d1 d2 d : Bd} (h1 : EV W C σ l d1) (h2 : EV W C σ r d2)
    (h : ∀ s a b, Ok C σ s → d1.holds s.heap (C.av σ) a → d2.holds s.heap (C.av σ) b → wpAny W.M C.A (binaryOp op a b) (fun v s' => Ext s s' ∧ d.holds s'.heap (C.av σ) v) Nev s) :
    EV W C σ (.BinOp l op r pos) d := .mk fun s ok => by
  refine wpAny_BinOp (wpAny_mono (h1.run s ok) (fun a s₁ x1 => wpAny_mono (h2.run s₁ (ok.ext x1.1)) (fun b s₂ x2 => ?_) fun _ _ e => e) fun _ _ e => e)
  exact wpAny_mono (h s₂ a b ((ok.ext x1.1).ext x2.1) (x1.2.keeps x2.1.keep) x2.2) (fun v s' x3 => ⟨(x1.1.trans x2.1).trans x3.1, x3.2⟩) fun _ _ e => e

theorem EV.conv {e : Expr} {d d' : Bd} (h : EV W C σ e d) (hd : d = d') : EV W C σ e d' := hd ▸ h

section
variable {l r : Expr} {a b : Int}
theorem EV.add (h1 : EV W C σ l (I a)) (h2 : EV W C σ r (I b)) : EV W C σ (.BinOp l .Add r pos) (I (a + b)) :=
  EV.bin h1 h2 fun s x y _ hx hy => by
    obtain ⟨t, rfl⟩ := hx.int_inv; obtain ⟨u, rfl⟩ := hy.int_inv
    exact add_int ⟨Ext.toks s _, Rd.int _ _⟩
theorem EV.sub (h1 : EV W C σ l (I a)) (h2 : EV W C σ r (I b)) : EV W C σ (.BinOp l .Sub r pos) (I (a - b)) :=
  EV.bin h1 h2 fun s x y _ hx hy => by
    obtain ⟨t, rfl⟩ := hx.int_inv; obtain ⟨u, rfl⟩ := hy.int_inv
    exact sub_int ⟨Ext.toks s _, Rd.int _ _⟩
theorem EV.mul (h1 : EV W C σ l (I a)) (h2 : EV W C σ r (I b)) (ha : a.natAbs < 2 ^ 64) : EV W C σ (.BinOp l .Mult r pos) (I (a * b)) :=
  EV.bin h1 h2 fun s x y _ hx hy => by
    obtain ⟨t, rfl⟩ := hx.int_inv; obtain ⟨u, rfl⟩ := hy.int_inv
    exact mul_int ⟨Ext.toks s _, Rd.int _ _⟩ (IntMulOk.of_left (intBits_le ha))
theorem EV.fdiv (h1 : EV W C σ l (I a)) (h2 : EV W C σ r (I b)) (hb : 0 < b ∧ b < 1000000000) : EV W C σ (.BinOp l .FloorDiv r pos) (I (a / b)) :=
  EV.bin h1 h2 fun s x y _ hx hy => by
    obtain ⟨t, rfl⟩ := hx.int_inv; obtain ⟨u, rfl⟩ := hy.int_inv
    refine floordiv_int (by omega) ⟨Ext.toks s _, ?_⟩ (Or.inl (PyProof.noPylong_small (by omega)))
    rw [Int.fdiv_eq_ediv_of_nonneg _ (by omega)]; exact Rd.int _ _
theorem EV.mod (h1 : EV W C σ l (I a)) (h2 : EV W C σ r (I b)) (hb : 0 < b) : EV W C σ (.BinOp l .Mod r pos) (I (a % b)) :=
  EV.bin h1 h2 fun s x y _ hx hy => by
    obtain ⟨t, rfl⟩ := hx.int_inv; obtain ⟨u, rfl⟩ := hy.int_inv
    refine mod_int' (by omega) ⟨Ext.toks s _, ?_⟩
    rw [Int.fmod_eq_emod_of_nonneg _ (by omega)]; exact Rd.int _ _
theorem EV.shl (h1 : EV W C σ l (I a)) (h2 : EV W C σ r (I b)) (hb : 0 ≤ b ∧ b < 100 ∧ a.natAbs < 2 ^ 64) : EV W C σ (.BinOp l .LShift r pos) (I (a * 2 ^ b.toNat)) :=
  EV.bin h1 h2 fun s x y _ hx hy => by
    obtain ⟨t, rfl⟩ := hx.int_inv; obtain ⟨u, rfl⟩ := hy.int_inv
    exact lshift_int_small hb.1 (by omega) hb.2.2 ⟨Ext.toks s _, Rd.int _ _⟩
theorem EV.pow (h1 : EV W C σ l (I a)) (h2 : EV W C σ r (I b)) (hb : 0 ≤ b ∧ b < 1000 ∧ a.natAbs < 2 ^ 64) : EV W C σ (.BinOp l .Pow r pos) (I (a ^ b.toNat)) :=
  EV.bin h1 h2 fun s x y _ hx hy => by
    obtain ⟨t, rfl⟩ := hx.int_inv; obtain ⟨u, rfl⟩ := hy.int_inv
    exact pow_int_small hb.1 (by omega) hb.2.2 ⟨Ext.toks s _, Rd.int _ _⟩
theorem EV.and_ (h1 : EV W C σ l (I a)) (h2 : EV W C σ r (I b)) : EV W C σ (.BinOp l .BitAnd r pos) (I (Builtin.bitAnd a b)) :=
  EV.bin h1 h2 fun s x y _ hx hy => by
    obtain ⟨t, rfl⟩ := hx.int_inv; obtain ⟨u, rfl⟩ := hy.int_inv
    exact and_int ⟨Ext.toks s _, Rd.int _ _⟩
theorem EV.or_ (h1 : EV W C σ l (I a)) (h2 : EV W C σ r (I b)) : EV W C σ (.BinOp l .BitOr r pos) (I (Builtin.bitOr a b)) :=
  EV.bin h1 h2 fun s x y _ hx hy => by
    obtain ⟨t, rfl⟩ := hx.int_inv; obtain ⟨u, rfl⟩ := hy.int_inv
    exact or_int ⟨Ext.toks s _, Rd.int _ _⟩
theorem EV.neg (h1 : EV W C σ l (I a)) : EV W C σ (.UnaryOp .USub l pos) (I (-a)) := .mk fun s ok =>
  wpAny_UnaryOp (wpAny_mono (h1.run s ok) (fun v s₁ x => by
    obtain ⟨t, rfl⟩ := x.2.int_inv
    exact PyProof.Rows.neg_int ⟨x.1.trans (Ext.toks s₁ _), Rd.int _ _⟩) fun _ _ e => e)
end

/- comparisons -/
theorem EV.cmp {l r : Expr} {op : CmpOp} {d1 d2 d : Bd} (h1 : EV W C σ l d1) (h2 : EV W C σ r d2)
    (h : ∀ s a b, Ok C σ s → d1.holds s.heap (C.av σ) a → d2.holds s.heap (C.av σ) b → wpAny W.M C.A (compareOp op a b) (fun v s' => Ext s s' ∧ d.holds s'.heap (C.av σ) v) Nev s)
    (hm : behindInMarks op r = false) :
    EV W C σ (.Compare l [op] [r] pos) d := .mk fun s ok => by
  refine wpAny_Compare1 (wpAny_mono (h1.run s ok) (fun a s₁ x1 => wpAny_mono (h2.run s₁ (ok.ext x1.1)) (fun b s₂ x2 => ?_) fun _ _ e => e) fun _ _ e => e) hm
  exact wpAny_mono (h s₂ a b ((ok.ext x1.1).ext x2.1) (x1.2.keeps x2.1.keep) x2.2) (fun v s' x3 => ⟨(x1.1.trans x2.1).trans x3.1, x3.2⟩) fun _ _ e => e

theorem TV.cmp {l r : Expr} {op : CmpOp} {d1 d2 : Bd} {c : Bool} (h1 : EV W C σ l d1) (h2 : EV W C σ r d2)
    (h : ∀ s a b, Ok C σ s → d1.holds s.heap (C.av σ) a → d2.holds s.heap (C.av σ) b → wpAny W.M C.A (compareOp op a b) (fun v s' => Ext s s' ∧ (B c).holds s'.heap (C.av σ) v) Nev s)
    (hm : behindInMarks op r = false) :
    TV W C σ (.Compare l [op] [r] pos) c := .mk fun s ok => by
  refine wpAny_isTrue_Compare1 (wpAny_mono (h1.run s ok) (fun a s₁ x1 => wpAny_mono (h2.run s₁ (ok.ext x1.1)) (fun b s₂ x2 => ?_) fun _ _ e => e) fun _ _ e => e) hm
  exact wpAny_mono (h s₂ a b ((ok.ext x1.1).ext x2.1) (x1.2.keeps x2.1.keep) x2.2) (fun v s' x3 => by
    have e := x3.2.bool_inv; subst e
    exact wpAny_truthy_bool ⟨(x1.1.trans x2.1).trans x3.1, rfl⟩) fun _ _ e => e

def cmpI : CmpOp → Int → Int → Option Bool
  | .Lt, a, b => some (decide (a < b))
  | .LtE, a, b => some (decide (a ≤ b))
  | .Gt, a, b => some (decide (a > b))
  | .GtE, a, b => some (decide (a ≥ b))
  | .Eq, a, b => some (a == b)
  | .NotEq, a, b => some (a != b)
  | _, _, _ => none

theorem cmpI_ok {A : Around} {op : CmpOp} {a b : Int} {t u : Tok} {c : Bool} {s : Shared} {X : List Addr} (h : cmpI op a b = some c) :
    wpAny W.M A (compareOp op (.int a t) (.int b u)) (fun v s' => Ext s s' ∧ (B c).holds s'.heap X v) Nev s := by
  cases op <;> simp only [cmpI, Option.some.injEq, reduceCtorEq] at h <;> subst h
  · exact eq_int ⟨Ext.refl s, Rd.bool _⟩
  · exact ne_int ⟨Ext.refl s, Rd.bool _⟩
  · exact lt_int ⟨Ext.refl s, Rd.bool _⟩
  · exact le_int ⟨Ext.refl s, Rd.bool _⟩
  · exact gt_int ⟨Ext.refl s, Rd.bool _⟩
  · exact ge_int ⟨Ext.refl s, Rd.bool _⟩

theorem EV.cmpInt {l r : Expr} {op : CmpOp} {a b : Int} {c : Bool} (h1 : EV W C σ l (I a)) (h2 : EV W C σ r (I b)) (hc : cmpI op a b = some c := by rfl) (hm : behindInMarks op r = false := by with_unfolding_all rfl) :
    EV W C σ (.Compare l [op] [r] pos) (B c) := EV.cmp h1 h2 (fun s x y _ hx hy => by
    obtain ⟨t, rfl⟩ := hx.int_inv; obtain ⟨u, rfl⟩ := hy.int_inv
    exact cmpI_ok hc) hm
theorem TV.cmpInt {l r : Expr} {op : CmpOp} {a b : Int} {c : Bool} (h1 : EV W C σ l (I a)) (h2 : EV W C σ r (I b)) (hc : cmpI op a b = some c := by rfl) (hm : behindInMarks op r = false := by with_unfolding_all rfl) :
    TV W C σ (.Compare l [op] [r] pos) c := TV.cmp h1 h2 (fun s x y _ hx hy => by
    obtain ⟨t, rfl⟩ := hx.int_inv; obtain ⟨u, rfl⟩ := hy.int_inv
    exact cmpI_ok hc) hm
theorem EV.eqBool {l r : Expr} {a b : Bool} (h1 : EV W C σ l (B a)) (h2 : EV W C σ r (B b)) (hm : behindInMarks .Eq r = false := by with_unfolding_all rfl) :
    EV W C σ (.Compare l [.Eq] [r] pos) (B (a == b)) := EV.cmp h1 h2 (fun s x y _ hx hy => by
    obtain rfl := hx.bool_inv; obtain rfl := hy.bool_inv
    exact PyProof.Rows.eq_bool ⟨Ext.refl s, Rd.bool _⟩) hm
theorem EV.neBool {l r : Expr} {a b : Bool} (h1 : EV W C σ l (B a)) (h2 : EV W C σ r (B b)) (hm : behindInMarks .NotEq r = false := by with_unfolding_all rfl) :
    EV W C σ (.Compare l [.NotEq] [r] pos) (B (a != b)) := EV.cmp h1 h2 (fun s x y _ hx hy => by
    obtain rfl := hx.bool_inv; obtain rfl := hy.bool_inv
    exact PyProof.Rows.ne_bool ⟨Ext.refl s, Rd.bool _⟩) hm
theorem TV.eqBool {l r : Expr} {a b : Bool} (h1 : EV W C σ l (B a)) (h2 : EV W C σ r (B b)) (hm : behindInMarks .Eq r = false := by with_unfolding_all rfl) :
    TV W C σ (.Compare l [.Eq] [r] pos) (a == b) := TV.cmp h1 h2 (fun s x y _ hx hy => by
    obtain rfl := hx.bool_inv; obtain rfl := hy.bool_inv
    exact PyProof.Rows.eq_bool ⟨Ext.refl s, Rd.bool _⟩) hm
theorem TV.neBool {l r : Expr} {a b : Bool} (h1 : EV W C σ l (B a)) (h2 : EV W C σ r (B b)) (hm : behindInMarks .NotEq r = false := by with_unfolding_all rfl) :
    TV W C σ (.Compare l [.NotEq] [r] pos) (a != b) := TV.cmp h1 h2 (fun s x y _ hx hy => by
    obtain rfl := hx.bool_inv; obtain rfl := hy.bool_inv
    exact PyProof.Rows.ne_bool ⟨Ext.refl s, Rd.bool _⟩) hm

/- data compared -/
theorem Wf.units64 (wf : Wf W C) : C.A.units + 64 < cLine := by
  have := wf.unit; show _ < 9900; omega
theorem TV.neData {l r : Expr} {x y : PyData} (wf : Wf W C) (h1 : EV W C σ l (.d x)) (h2 : EV W C σ r (.d y)) (hx : SeqAt.shaped x = true) (hy : SeqAt.shaped y = true) (hmix : SeqAt.noMix x y = true)
    (hm : behindInMarks .NotEq r = false := by with_unfolding_all rfl) :
    TV W C σ (.Compare l [.NotEq] [r] pos) (!same x y) := TV.cmp h1 h2 (fun s a b _ ha hb => by
    obtain ⟨as, ra, _⟩ := ha; obtain ⟨bs, rb, _⟩ := hb
    exact ne_dataH_same ra rb hx hy wf.units64 hmix ⟨Ext.refl s, Rd.bool _⟩) hm
theorem EV.eqData {l r : Expr} {x y : PyData} (wf : Wf W C) (h1 : EV W C σ l (.d x)) (h2 : EV W C σ r (.d y)) (hx : SeqAt.shaped x = true) (hy : SeqAt.shaped y = true) (hmix : SeqAt.noMix x y = true)
    (hm : behindInMarks .Eq r = false := by with_unfolding_all rfl) :
    EV W C σ (.Compare l [.Eq] [r] pos) (B (same x y)) := EV.cmp h1 h2 (fun s a b _ ha hb => by
    obtain ⟨as, ra, _⟩ := ha; obtain ⟨bs, rb, _⟩ := hb
    exact eq_dataH_same ra rb hx hy wf.units64 hmix ⟨Ext.refl s, Rd.bool _⟩) hm

/- truth -/
theorem TV.ofBool {e : Expr} {b : Bool} (h : EV W C σ e (B b)) (he : isTrue e C.env (eval e C.env) = (do let v ← eval e C.env; standAt e.pos; holding [v] (truthy v)) := by rfl) : TV W C σ e b := .mk fun s ok =>
  wpAny_isTrue_value (wpAny_mono (h.run s ok) (fun v s₁ x => by
    have e := x.2.bool_inv; subst e
    exact wpAny_truthy_bool ⟨x.1, rfl⟩) fun _ _ e => e) he
theorem TV.conv {e : Expr} {d d' : Bool} (h : TV W C σ e d) (hd : d = d') : TV W C σ e d' := hd ▸ h
theorem TV.not {x : Expr} {b : Bool} (h : TV W C σ x b) : TV W C σ (.UnaryOp .Not x pos) (!b) := .mk fun s ok =>
  wpAny_isTrue_Not (wpAny_mono (h.run s ok) (fun b s₁ x => ⟨x.1, by rw [x.2]⟩) fun _ _ e => e)
theorem EV.not {x : Expr} {b : Bool} (h : EV W C σ x (B b)) : EV W C σ (.UnaryOp .Not x pos) (B (!b)) := .mk fun s ok =>
  wpAny_UnaryOp (wpAny_mono (h.run s ok) (fun v s₁ x => by
    have e := x.2.bool_inv; subst e
    exact not_value (wpAny_truthy_bool ⟨x.1, Rd.bool _⟩)) fun _ _ e => e)

theorem TV.and_ {x y : Expr} {a b : Bool} (h1 : TV W C σ x a) (h2 : a = true → TV W C σ y b) : TV W C σ (.BoolOp .And [x, y] pos) (a && b) := .mk fun s ok =>
  wpAny_isTrue_BoolOp (wpAny_allTrue_And_cons (wpAny_mono (h1.run s ok) (fun c s₁ x1 => by
    obtain ⟨e1, rfl⟩ := x1
    cases c with
    | false => exact ⟨e1, rfl⟩
    | true => exact wpAny_allTrue_And_cons (wpAny_mono ((h2 rfl).run s₁ (ok.ext e1)) (fun c s₂ x2 => by
        obtain ⟨e2, rfl⟩ := x2
        cases c with
        | false => exact ⟨e1.trans e2, rfl⟩
        | true => exact wpAny_allTrue_And_nil ⟨e1.trans e2, rfl⟩) fun _ _ e => e)) fun _ _ e => e))
theorem TV.or_ {x y : Expr} {a b : Bool} (h1 : TV W C σ x a) (h2 : a = false → TV W C σ y b) : TV W C σ (.BoolOp .Or [x, y] pos) (a || b) := .mk fun s ok =>
  wpAny_isTrue_BoolOp (wpAny_allTrue_Or_cons (wpAny_mono (h1.run s ok) (fun c s₁ x1 => by
    obtain ⟨e1, rfl⟩ := x1
    cases c with
    | true => exact ⟨e1, rfl⟩
    | false => exact wpAny_allTrue_Or_cons (wpAny_mono ((h2 rfl).run s₁ (ok.ext e1)) (fun c s₂ x2 => by
        obtain ⟨e2, rfl⟩ := x2
        cases c with
        | true => exact ⟨e1.trans e2, rfl⟩
        | false => exact wpAny_allTrue_Or_nil ⟨e1.trans e2, rfl⟩) fun _ _ e => e)) fun _ _ e => e))
theorem EV.and_b {x y : Expr} {a b : Bool} (h1 : EV W C σ x (B a)) (h2 : a = true → EV W C σ y (B b)) : EV W C σ (.BoolOp .And [x, y] pos) (B (a && b)) := .mk fun s ok =>
  wpAny_And2 (wpAny_mono (h1.run s ok) (fun v s₁ x1 => by
    have e := x1.2.bool_inv; subst e
    refine wpAny_truthy_bool ?_
    cases a with
    | false => exact ⟨x1.1, Rd.bool _⟩
    | true => exact wpAny_mono ((h2 rfl).run s₁ (ok.ext x1.1)) (fun v s₂ x2 => ⟨x1.1.trans x2.1, x2.2⟩) fun _ _ e => e) fun _ _ e => e)

theorem EV.ite {t x y : Expr} {c : Bool} {d : Bd} (h1 : TV W C σ t c) (h2 : c = true → EV W C σ x d) (h3 : c = false → EV W C σ y d) : EV W C σ (.IfExp t x y pos) d := .mk fun s ok =>
  wpAny_IfExp (wpAny_mono (h1.run s ok) (fun b s₁ x1 => by
    obtain ⟨e1, rfl⟩ := x1
    cases b with
    | true => exact wpAny_mono ((h2 rfl).run s₁ (ok.ext e1)) (fun v s₂ x2 => ⟨e1.trans x2.1, x2.2⟩) fun _ _ e => e
    | false => exact wpAny_mono ((h3 rfl).run s₁ (ok.ext e1)) (fun v s₂ x2 => ⟨e1.trans x2.1, x2.2⟩) fun _ _ e => e) fun _ _ e => e)
end
end Mine
end
section
set_option Elab.async false
set_option maxRecDepth 100000
open PySem PySem.Calls PySem.Spec PyProof.Rows

namespace Mine

section
variable {W : Wd} {C : Cx} {σ : Sto} {pos : Pos} {k : Nat}

theorem Ok.alive (wf : Wf W C) {s : Shared} (ok : Ok C σ s) : ∀ a ∈ C.av σ, ∃ o, s.heap.get? a = some o := by
  intro a ha
  obtain ⟨m, F, _⟩ := ok.m
  simp only [Cx.av, List.mem_cons, List.mem_append] at ha
  rcases ha with rfl | ha | ha
  · obtain ⟨o, _, _, h, _⟩ := F.ns; exact ⟨o, h⟩
  · unfold Sto.X at ha
    cases ho : σ.own with
    | none => rw [ho] at ha; cases ha
    | some p =>
      rw [ho] at ha
      obtain ⟨_, _, vs, as, ⟨n, h⟩, _⟩ := ok.own p.1 p.2 ho
      rw [List.mem_singleton.mp ha]
      exact ⟨_, h⟩
  · obtain ⟨o, h⟩ := wf.xs a ha
    exact ⟨o, F.keep _ _ h⟩
theorem Ok.lt (wf : Wf W C) {s : Shared} (ok : Ok C σ s) : ∀ a ∈ C.av σ, a < s.heap.objs.size := fun a ha => let ⟨_, h⟩ := ok.alive wf a ha; Heap.lt_size h
theorem Ok.fresh (wf : Wf W C) {s : Shared} (ok : Ok C σ s) {n : Nat} (hn : s.heap.objs.size ≤ n) : n ∉ C.av σ := fun h => Nat.lt_irrefl _ (Nat.lt_of_lt_of_le (ok.lt wf _ h) hn)

theorem Ext.push (s : Shared) (o : Obj) : Ext s { s with heap := s.heap.push o } := ⟨fun _ _ e => Heap.get?_push_of_some _ e, rfl, rfl⟩
theorem Ext.heap {s : Shared} {h' : Heap} {tk : Nat} (hk : ∀ b o, s.heap.get? b = some o → h'.get? b = some o) : Ext s { s with heap := h', toks := tk } := ⟨hk, rfl, rfl⟩

theorem EV.item {value slice : Expr} {ds : List PyData} {i : Int} {d : PyData} (h1 : EV W C σ value (L ds)) (h2 : EV W C σ slice (I i)) (h0 : 0 ≤ i ∧ i < 1000000000) (hd : ds[i.toNat]? = some d)
    (hs : ∀ a u, subscripted slice false (.ref a) (.int i u) = operate [.ref a, .int i u] (getItem (.ref a) (.int i u)) := by intro _ _; with_unfolding_all rfl) :
    EV W C σ (.Subscript value slice pos) (.d d) := .mk fun s ok => by
  refine Subscript_ (wpAny_mono (h1.run s ok) (fun a s₁ x1 => wpAny_mono (h2.run s₁ (ok.ext x1.1)) (fun b s₂ x2 => ?_) fun _ _ e => e) fun _ _ e => e)
  obtain ⟨u, rfl⟩ := x2.2.int_inv
  obtain ⟨p, l, bs, rfl, hl, hr, _, hb⟩ := (x1.2.keeps x2.1.keep).list_inv
  obtain ⟨v, hv, hrd⟩ := readsAll_nth hr hb hd
  exact tail_any hl.typeIs slot_list_getitem.lookup (wpAny_getItem_list hl h0.1 (by omega) (by simpa using hv) ⟨x1.1.trans x2.1, hrd⟩) (hs p u)

theorem EV.itemNeg {value slice : Expr} {ds : List PyData} {i : Int} {d : PyData} (h1 : EV W C σ value (L ds)) (h2 : EV W C σ slice (I i)) (h0 : i < 0 ∧ -(ds.length : Int) ≤ i ∧ -1000000000 < i) (hd : ds[(i + ds.length).toNat]? = some d)
    (hs : ∀ a u, subscripted slice false (.ref a) (.int i u) = operate [.ref a, .int i u] (getItem (.ref a) (.int i u)) := by intro _ _; with_unfolding_all rfl) :
    EV W C σ (.Subscript value slice pos) (.d d) := .mk fun s ok => by
  refine Subscript_ (wpAny_mono (h1.run s ok) (fun a s₁ x1 => wpAny_mono (h2.run s₁ (ok.ext x1.1)) (fun b s₂ x2 => ?_) fun _ _ e => e) fun _ _ e => e)
  obtain ⟨u, rfl⟩ := x2.2.int_inv
  obtain ⟨p, l, bs, rfl, hl, hr, _, hb⟩ := (x1.2.keeps x2.1.keep).list_inv
  obtain ⟨v, hv, hrd⟩ := readsAll_nth hr hb hd
  have hlen := readsAll_len hr
  exact tail_any hl.typeIs slot_list_getitem.lookup (wpAny_getItem_list_neg hl h0.1 (by simp [hlen]; omega) (by omega) (by simpa [hlen] using hv) ⟨x1.1.trans x2.1, hrd⟩) (hs p u)

theorem EV.itemT {value slice : Expr} {ds : List PyData} {i : Int} {d : PyData} (h1 : EV W C σ value (T ds)) (h2 : EV W C σ slice (I i)) (h0 : 0 ≤ i ∧ i < 1000000000) (hd : ds[i.toNat]? = some d)
    (hs : ∀ a u, subscripted slice false (.ref a) (.int i u) = operate [.ref a, .int i u] (getItem (.ref a) (.int i u)) := by intro _ _; with_unfolding_all rfl) :
    EV W C σ (.Subscript value slice pos) (.d d) := .mk fun s ok => by
  refine Subscript_ (wpAny_mono (h1.run s ok) (fun a s₁ x1 => wpAny_mono (h2.run s₁ (ok.ext x1.1)) (fun b s₂ x2 => ?_) fun _ _ e => e) fun _ _ e => e)
  obtain ⟨u, rfl⟩ := x2.2.int_inv
  obtain ⟨p, l, bs, rfl, hl, hr, hb⟩ := (x1.2.keeps x2.1.keep).tuple_inv
  obtain ⟨v, hv, hrd⟩ := readsAll_nth hr hb hd
  have hlt : i.toNat < l.toArray.size := by
    have := List.getElem?_eq_some_iff.mp hv
    simpa using this.1
  exact tail_any hl.typeIs slot_tuple_getitem.lookup (PyProof.Rows.getItem_tuple hl (by omega) (by omega) (seqIndex_of h0.1 (by omega)) (by simpa using hv) ⟨x1.1.trans x2.1, hrd⟩) (hs p u)

theorem EV.itemOwn {x : Str} {p : Pos} {slice : Expr} {a : Addr} {ds : List PyData} {i : Int} {d : PyData} (ho : σ.own = some (a, ds)) (h1 : EV W C σ (.Name x p) (.v (.ref a))) (h2 : EV W C σ slice (I i)) (h0 : 0 ≤ i ∧ i < 1000000000) (hd : ds[i.toNat]? = some d)
    (hs : ∀ a u, subscripted slice false (.ref a) (.int i u) = operate [.ref a, .int i u] (getItem (.ref a) (.int i u)) := by intro _ _; with_unfolding_all rfl) :
    EV W C σ (.Subscript (.Name x p) slice pos) (.d d) := .mk fun s ok => by
  refine Subscript_ (wpAny_mono (h1.run s ok) (fun v s₁ x1 => wpAny_mono (h2.run s₁ (ok.ext x1.1)) (fun b s₂ x2 => ?_) fun _ _ e => e) fun _ _ e => e)
  obtain ⟨u, rfl⟩ := x2.2.int_inv
  have e : v = .ref a := x1.2
  subst e
  obtain ⟨_, _, vs, as, hl, hr, hb⟩ := ((ok.ext x1.1).ext x2.1).own a ds ho
  obtain ⟨v, hv, hrd⟩ := readsAll_nth hr hb hd
  have hl' := hl.isList
  exact tail_any hl'.typeIs slot_list_getitem.lookup (wpAny_getItem_list hl' h0.1 (by omega) (by simpa using hv) ⟨x1.1.trans x2.1, hrd⟩) (hs a u)

theorem readsAll_take {h : Heap} : ∀ {vs : List Value} {ds : List PyData} {as : List Addr}, ReadsAll h vs ds as → ∀ n : Nat, ∃ bs, ReadsAll h (vs.take n) (ds.take n) bs ∧ ∀ b ∈ bs, b ∈ as
  | _, _, _, .nil, n => ⟨[], by simpa using ReadsAll.nil, fun _ m => nomatch m⟩
  | _, _, _, .cons _ _, 0 => ⟨[], by simpa using ReadsAll.nil, fun _ m => nomatch m⟩
  | _, _, _, .cons (as := as) h1 h2, n + 1 => by
    obtain ⟨bs, hb, hm⟩ := readsAll_take h2 n
    exact ⟨as ++ bs, by simpa using ReadsAll.cons h1 hb, fun b hb => by
      rcases List.mem_append.mp hb with h | h
      · exact List.mem_append_left _ h
      · exact List.mem_append_right _ (hm b h)⟩

theorem EV.slice {value up : Expr} {p : Pos} {ds : List PyData} {i : Nat} (wf : Wf W C) (h1 : EV W C σ value (L ds)) (h2 : EV W C σ up (I i)) (hsz : ds.length ≤ 1000000)
    (ht : ∀ o r, letTemporaryGo value o r = pure () := by intro _ _; rfl) :
    EV W C σ (.Subscript value (.Slice none (some up) none p) pos) (L (ds.take i)) := .mk fun s ok => by
  refine wpAny_Subscript_list_slice (wpAny_mono (h1.run s ok) (fun a s₁ x1 => wpAny_evalPart_none (wpAny_evalPart_some (wpAny_mono (h2.run s₁ (ok.ext x1.1)) (fun b s₂ x2 => ?_) fun _ _ e => e))) fun _ _ e => e) ht
  obtain ⟨u, rfl⟩ := x2.2.int_inv
  obtain ⟨p, l, bs, rfl, hl, hr, _, hb⟩ := (x1.2.keeps x2.1.keep).list_inv
  have hlen := readsAll_len hr
  have ok2 := (ok.ext x1.1).ext x2.1
  refine ⟨p, l.toArray, none, some (i : Int), rfl, hl, by rw [List.size_toArray, hlen]; exact Nat.le_trans hsz (by decide), .none, .int _ _, ?_⟩
  rw [slicePick_upto']
  obtain ⟨cs, hc, hm⟩ := readsAll_take hr i
  have e3 : Ext s₂ { s₂ with heap := (s₂.heap.push { cls := .type "slice", data := .fields #[.none, .int i u, .none] }).push { cls := .type "list", data := .seq (l.take i).toArray } } :=
    ⟨fun _ _ e => Heap.get?_push_of_some _ (Heap.get?_push_of_some _ e), rfl, rfl⟩
  refine ⟨(x1.1.trans x2.1).trans e3, ⟨_, reads_list_at (o := { cls := .type "list", data := .seq (l.take i).toArray }) ?_ rfl rfl (by simpa using ReadsAll.keeps e3.keep hc), ?_⟩⟩
  · have := Heap.get?_push_size (s₂.heap.push { cls := .type "slice", data := .fields #[.none, .int i u, .none] }) (o := { cls := .type "list", data := .seq (l.take i).toArray }) rfl
    rw [Heap.size_push] at this
    simpa using this
  · intro b hb'
    rcases List.mem_cons.mp hb' with rfl | hb'
    · exact ok2.fresh wf (Nat.le_succ _)
    · exact hb b (hm b hb')

theorem EV.copy {value : Expr} {p : Pos} {ds : List PyData} (wf : Wf W C) (h1 : EV W C σ value (L ds)) (hsz : ds.length ≤ 1000000)
    (ht : ∀ o r, letTemporaryGo value o r = pure () := by intro _ _; rfl) :
    EV W C σ (.Subscript value (.Slice none none none p) pos) (L ds) := .mk fun s ok => by
  refine wpAny_Subscript_list_slice (wpAny_mono (h1.run s ok) (fun a s₁ x1 => wpAny_evalPart_none (wpAny_evalPart_none ?_)) fun _ _ e => e) ht
  obtain ⟨p, l, bs, rfl, hl, hr, _, hb⟩ := x1.2.list_inv
  have hlen := readsAll_len hr
  have ok2 := ok.ext x1.1
  refine ⟨p, l.toArray, none, none, rfl, hl, by rw [List.size_toArray, hlen]; exact Nat.le_trans hsz (by decide), .none, .none, ?_⟩
  rw [slicePick_all]
  have e3 : Ext s₁ { s₁ with heap := (s₁.heap.push { cls := .type "slice", data := .fields #[.none, .none, .none] }).push { cls := .type "list", data := .seq l.toArray } } :=
    ⟨fun _ _ e => Heap.get?_push_of_some _ (Heap.get?_push_of_some _ e), rfl, rfl⟩
  refine ⟨x1.1.trans e3, ⟨_, reads_list_at (o := { cls := .type "list", data := .seq l.toArray }) ?_ rfl rfl (by simpa using ReadsAll.keeps e3.keep hr), ?_⟩⟩
  · have := Heap.get?_push_size (s₁.heap.push { cls := .type "slice", data := .fields #[.none, .none, .none] }) (o := { cls := .type "list", data := .seq l.toArray }) rfl
    rw [Heap.size_push] at this
    simpa using this
  · intro b hb'
    rcases List.mem_cons.mp hb' with rfl | hb'
    · exact ok2.fresh wf (Nat.le_succ _)
    · exact hb b hb'

theorem HoldsAll.keeps {h h' : Heap} {X : List Addr} (hk : ∀ b o, h.get? b = some o → h'.get? b = some o) : ∀ {vs : List Value} {ds : List Bd}, HoldsAll h X vs ds → HoldsAll h' X vs ds
  | [], [], _ => trivial
  | _ :: _, _ :: _, ⟨h1, h2⟩ => ⟨h1.keeps hk, HoldsAll.keeps hk h2⟩
  | [], _ :: _, h => h.elim
  | _ :: _, [], h => h.elim
theorem HoldsAll.sub {h : Heap} {X Y : List Addr} (hk : ∀ a, a ∈ Y → a ∈ X) : ∀ {vs : List Value} {ds : List Bd}, HoldsAll h X vs ds → HoldsAll h Y vs ds
  | [], [], _ => trivial
  | _ :: _, _ :: _, ⟨h1, h2⟩ => ⟨h1.sub hk, HoldsAll.sub hk h2⟩
  | [], _ :: _, h => h.elim
  | _ :: _, [], h => h.elim
theorem HoldsAll.reads {h : Heap} {X : List Addr} : ∀ {vs : List Value} {xs : List PyData}, HoldsAll h X vs (xs.map .d) → ∃ as, ReadsAll h vs xs as ∧ ∀ a ∈ as, a ∉ X
  | [], [], _ => ⟨[], .nil, fun _ m => nomatch m⟩
  | _ :: _, _ :: _, ⟨⟨as, h1, h2⟩, h3⟩ => by
    obtain ⟨bs, h4, h5⟩ := HoldsAll.reads h3
    exact ⟨as ++ bs, .cons h1 h4, fun a ha => (List.mem_append.mp ha).elim (h2 a) (h5 a)⟩
  | [], _ :: _, h => h.elim
  | _ :: _, [], h => h.elim
theorem HoldsAll.len {h : Heap} {X : List Addr} : ∀ {vs : List Value} {ds : List Bd}, HoldsAll h X vs ds → vs.length = ds.length
  | [], [], _ => rfl
  | _ :: _, _ :: _, ⟨_, h2⟩ => by simp [HoldsAll.len h2]
  | [], _ :: _, h => h.elim
  | _ :: _, [], h => h.elim

theorem EVs.nil : EVs W C σ [] [] := ⟨rfl, fun _ s _ => wpAny_items_nil ⟨Ext.refl s, trivial⟩⟩
theorem EVs.cons {e : Expr} {rest : List Expr} {d : Bd} {ds : List Bd} (h1 : EV W C σ e d) (h2 : EVs W C σ rest ds) (he : starEach (e :: rest) C.env = (false, eval e C.env) :: starEach rest C.env := by rfl) :
    EVs W C σ (e :: rest) (d :: ds) := ⟨by simp [h2.len], fun pos s ok =>
  wpAny_items_cons (wpAny_mono (h1.run s ok) (fun v s₁ x1 => wpAny_mono (h2.run pos s₁ (ok.ext x1.1)) (fun vs s₂ x2 => ⟨x1.1.trans x2.1, x1.2.keeps x2.1.keep, x2.2⟩) fun _ _ e => e) fun _ _ e => e) he⟩

theorem EV.tuple {elts : List Expr} {xs : List PyData} (h : EVs W C σ elts (xs.map .d)) (hsz : elts.length < 1000 := by decide) : EV W C σ (.Tuple elts k pos) (T xs) := .mk fun s ok =>
  wpAny_Tuple (wpAny_mono (h.run pos s ok) (fun vs s₁ x => by
    obtain ⟨as, h1, h2⟩ := x.2.reads
    have hl := readsAll_len h1
    have hl2 := h.len
    simp only [List.length_map] at hl2
    have e3 := Ext.push s₁ { cls := .type "tuple", data := .seq vs.toArray }
    refine ⟨?_, x.1.trans e3, ⟨as, reads_tuple_at (o := { cls := .type "tuple", data := .seq vs.toArray }) (Heap.get?_push_size _ rfl) rfl rfl (by simpa using ReadsAll.keeps e3.keep h1), h2⟩⟩
    rw [sizeLine_eq]; omega) fun _ _ e => e)

theorem EV.list {elts : List Expr} {xs : List PyData} (wf : Wf W C) (h : EVs W C σ elts (xs.map .d)) (hsz : elts.length < 1000 := by decide) : EV W C σ (.List elts pos) (L xs) := .mk fun s ok =>
  wpAny_List (wpAny_mono (h.run pos s ok) (fun vs s₁ x => by
    obtain ⟨as, h1, h2⟩ := x.2.reads
    have hl := readsAll_len h1
    have hl2 := h.len
    simp only [List.length_map] at hl2
    have e3 := Ext.push s₁ { cls := .type "list", data := .seq vs.toArray }
    refine ⟨?_, x.1.trans e3, ⟨_, reads_list_at (o := { cls := .type "list", data := .seq vs.toArray }) (Heap.get?_push_size _ rfl) rfl rfl (by simpa using ReadsAll.keeps e3.keep h1), ?_⟩⟩
    · rw [sizeLine_eq]; omega
    · intro b hb
      rcases List.mem_cons.mp hb with rfl | hb
      · exact (ok.ext x.1).fresh wf (Nat.le_refl _)
      · exact h2 b hb) fun _ _ e => e)

/- calls -/
theorem EV.callB1 {f e : Expr} {id : String} {d1 d : Bd} (h1 : EV W C σ f (.v (.builtin id))) (h2 : EV W C σ e d1)
    (h : ∀ s a, Ok C σ s → d1.holds s.heap (C.av σ) a → wpAny W.M C.A (call (.builtin id) [a]) (fun v s' => Ext s s' ∧ d.holds s'.heap (C.av σ) v) Nev s)
    (he1 : starEach [e] C.env = (false, eval e C.env) :: starEach [] C.env := by rfl)
    (he : eval (.Call f [e] [] pos) C.env = (do callWith pos (← eval f C.env) [] (backTo pos (starEach [e] C.env)) (backToKw pos (keywordEach [] C.env))) := by rfl) :
    EV W C σ (.Call f [e] [] pos) d := .mk fun s ok => by
  refine Call_ (wpAny_mono (h1.run s ok) (fun fv s₁ x1 => ?_) fun _ _ e => e) he
  have e1 : fv = .builtin id := x1.2
  subst e1
  refine callWith_builtin1 (args_cons (wpAny_mono (h2.run s₁ (ok.ext x1.1)) (fun a s₂ x2 => args_nil ?_) fun _ _ e => e) he1) he1 rfl
  exact wpAny_mono (h s₂ a ((ok.ext x1.1).ext x2.1) x2.2) (fun v s' x3 => ⟨(x1.1.trans x2.1).trans x3.1, x3.2⟩) fun _ _ e => e

theorem EV.len {f e : Expr} {ds : List PyData} (h1 : EV W C σ f (.v (.builtin "len"))) (h2 : EV W C σ e (L ds)) (hsz : ds.length ≤ 1000000)
    (he1 : starEach [e] C.env = (false, eval e C.env) :: starEach [] C.env := by rfl)
    (he : eval (.Call f [e] [] pos) C.env = (do callWith pos (← eval f C.env) [] (backTo pos (starEach [e] C.env)) (backToKw pos (keywordEach [] C.env))) := by rfl) :
    EV W C σ (.Call f [e] [] pos) (I (ds.length : Nat)) := EV.callB1 h1 h2 (fun s a _ ha => by
    obtain ⟨p, l, bs, rfl, hl, hr, _, _⟩ := ha.list_inv
    have hlen := readsAll_len hr
    have e : l.toArray.size = ds.length := by simp [hlen]
    refine call_len_list hl (by rw [e]; omega) ⟨Ext.toks s _, ?_⟩
    rw [e]; exact Rd.int _ _) he1 he

theorem EV.abs {f e : Expr} {i : Int} (h1 : EV W C σ f (.v (.builtin "abs"))) (h2 : EV W C σ e (I i))
    (he1 : starEach [e] C.env = (false, eval e C.env) :: starEach [] C.env := by rfl)
    (he : eval (.Call f [e] [] pos) C.env = (do callWith pos (← eval f C.env) [] (backTo pos (starEach [e] C.env)) (backToKw pos (keywordEach [] C.env))) := by rfl) :
    EV W C σ (.Call f [e] [] pos) (I (i.natAbs : Nat)) := EV.callB1 h1 h2 (fun s a _ ha => by
    obtain ⟨t, rfl⟩ := ha.int_inv
    refine call_abs_int fun u tk => ⟨Ext.toks s _, ?_⟩
    have e : (if i < 0 then -i else i) = (i.natAbs : Int) := by split <;> omega
    rw [e]; exact Rd.int _ _) he1 he

theorem EV.call {f e : Expr} {rest : List Expr} {fa : Addr} {ds : List Bd} {r : PyData} {n : Nat} (wf : Wf W C) (h1 : EV W C σ f (.v (.ref fa))) (h2 : EVs W C σ (e :: rest) ds) (hc : ConA W n fa ds r) (hn : n ≤ C.room)
    (hfn : ∀ h, W.At h → ∃ o fd, h.get? fa = some o ∧ o.data = .func fd)
    (he1 : starEach (e :: rest) C.env = (false, eval e C.env) :: starEach rest C.env := by rfl)
    (he : eval (.Call f (e :: rest) [] pos) C.env = (do callWith pos (← eval f C.env) [] (backTo pos (starEach (e :: rest) C.env)) (backToKw pos (keywordEach [] C.env))) := by rfl) :
    EV W C σ (.Call f (e :: rest) [] pos) (.d r) := .mk fun s ok => by
  refine Call_ (wpAny_mono (h1.run s ok) (fun fv s₁ x1 => ?_) fun _ _ e => e) he
  have e1 : fv = .ref fa := x1.2
  subst e1
  have ok1 := ok.ext x1.1
  obtain ⟨o, fd, ho, hd⟩ := hfn _ (ok1.at_ wf)
  refine callWith_def (o := o) (fd := fd) hd (wpAny_mono (h2.run pos s₁ ok1) (fun vs s₂ x2 => ⟨x2.1.keep _ _ ho, ?_⟩) fun _ _ e => e) he1
  have ok2 := ok1.ext x2.1
  have := wf.dep; have := wf.unit
  exact wpAny_mono (hc.run C.A s₂ vs (C.av σ) wf.hh (by omega) (by omega) (ok2.at_ wf) (ok2.alive wf) x2.2) (fun v s' x3 => ⟨(x1.1.trans x2.1).trans x3.1, x3.2⟩) fun _ _ e => e
end
end Mine
end
section
set_option Elab.async false
set_option maxRecDepth 100000
open PySem PySem.Calls PySem.Spec PyProof.Rows

namespace Mine

inductive Upd (x : Str) (d : Bd) : List (Str × Bd) → List (Str × Bd) → Prop
  | here {e r} : Upd x d ((x, e) :: r) ((x, d) :: r)
  | there {p r r'} : p.1 ≠ x → Upd x d r r' → Upd x d (p :: r) (p :: r')
  | new : Upd x d [] [(x, d)]

theorem Upd.mem {x : Str} {d : Bd} {r r' : List (Str × Bd)} (h : Upd x d r r') (hn : (r.map (·.1)).Nodup) : (∀ p ∈ r', p = (x, d) ∨ (p ∈ r ∧ p.1 ≠ x)) ∧ (r'.map (·.1)).Nodup := by
  induction h with
  | @here e r =>
    have hn' := hn
    simp only [List.map_cons, List.nodup_cons] at hn
    refine ⟨fun p hp => ?_, hn'⟩
    rcases List.mem_cons.mp hp with rfl | hp
    · exact .inl rfl
    · exact .inr ⟨.tail _ hp, fun e => hn.1 (e ▸ List.mem_map.mpr ⟨p, hp, rfl⟩)⟩
  | @there q r r' hne _ ih =>
    simp only [List.map_cons, List.nodup_cons] at hn ⊢
    obtain ⟨ih1, ih2⟩ := ih hn.2
    refine ⟨fun p hp => ?_, fun hm => ?_, ih2⟩
    · rcases List.mem_cons.mp hp with rfl | hp
      · exact .inr ⟨.head _, hne⟩
      · rcases ih1 p hp with h | ⟨h1, h2⟩
        · exact .inl h
        · exact .inr ⟨.tail _ h1, h2⟩
    · obtain ⟨p, hp, e⟩ := List.mem_map.mp hm
      rcases ih1 p hp with h | ⟨h1, h2⟩
      · subst h; exact hne e.symm
      · exact hn.1 (List.mem_map.mpr ⟨p, h1, e⟩)
  | new =>
    exact ⟨fun p hp => .inl (List.mem_singleton.mp hp), by simp⟩

section
variable {W : Wd} {C : Cx} {σ : Sto} {pos : Pos} {k : Nat}

theorem Fram.refl (s : Shared) : Fram C σ s σ s := ⟨fun _ _ _ _ e => e, fun _ h => .inl h⟩
theorem Fram.ext {s s' : Shared} (x : Ext s s') : Fram C σ s σ s' := ⟨fun b o _ _ e => x.keep b o e, fun _ h => .inl h⟩
theorem Ok.locals {s : Shared} (ok : Ok C σ s) : ∃ o, s.heap.get? C.env.locals = some o ∧ ∃ es ep, o.data = .dict es ep := by
  obtain ⟨m, F, _⟩ := ok.m
  obtain ⟨o, es, ep, h, d, _⟩ := F.ns
  exact ⟨o, h, es, ep, d⟩
theorem Fram.trans {σ' σ'' : Sto} {s s' s'' : Shared} (x : Fram C σ s σ' s') (ok : Ok C σ' s') (y : Fram C σ' s' σ'' s'') : Fram C σ s σ'' s'' := by
  refine ⟨fun b o hb hx e => ?_, fun a ha => ?_⟩
  · refine y.keep b o hb (fun h => ?_) (x.keep b o hb hx e)
    rcases x.news b h with h | h
    · exact hx h
    · rw [h] at e; cases e
  · rcases y.news a ha with h | h
    · exact x.news a h
    · by_cases hx : a ∈ σ.X
      · exact .inl hx
      · refine .inr ?_
        cases e : s.heap.get? a with
        | none => rfl
        | some o =>
          by_cases hb : a = C.env.locals
          · subst hb
            obtain ⟨o', ho, _⟩ := ok.locals
            rw [h] at ho; cases ho
          · rw [x.keep a o hb hx e] at h; cases h

theorem ResOk.pre {σ' : Sto} {s s' s'' : Shared} {r : Res} {f : Flow} (x : Fram C σ s σ' s') (ok : Ok C σ' s') (h : ResOk C σ' s' r f s'') : ResOk C σ s r f s'' := by
  cases r with
  | next σ'' => exact ⟨h.1, h.2.1, x.trans ok h.2.2⟩
  | ret d => exact h
  | brk σ'' => exact ⟨h.1, h.2.1, x.trans ok h.2.2⟩

theorem SX.nil {K : Res → Prop} (h : K (.next σ)) : SX W C σ [] K := fun s ok => wpAny_execs_nil ⟨_, h, rfl, ok, Fram.refl s⟩
theorem SX.cons {st : Stmt} {rest : List Stmt} {K : Res → Prop} (h : S1 W C σ st (fun r => match r with | .next σ' => SX W C σ' rest K | r => K r)) : SX W C σ (st :: rest) K := fun s ok => by
  refine wpAny_execs_cons (wpAny_mono (h s ok) (fun f s₁ x => ?_) fun _ _ e => e)
  obtain ⟨r, hr, hok⟩ := x
  cases r with
  | next σ' =>
    obtain ⟨rfl, ok1, fr⟩ := hok
    exact wpAny_mono (hr s₁ ok1) (fun f' s₂ x2 => by obtain ⟨r2, h2, h3⟩ := x2; exact ⟨r2, h2, h3.pre fr ok1⟩) fun _ _ e => e
  | ret d => obtain ⟨v, rfl, h2⟩ := hok; exact ⟨.ret d, hr, v, rfl, h2⟩
  | brk σ' => obtain ⟨rfl, h2⟩ := hok; exact ⟨.brk σ', hr, rfl, h2⟩

theorem SX.mono {sts : List Stmt} {K K' : Res → Prop} (h : SX W C σ sts K) (hk : ∀ r, K r → K' r) : SX W C σ sts K' := fun s ok =>
  wpAny_mono (h s ok) (fun f s' x => by obtain ⟨r, h1, h2⟩ := x; exact ⟨r, hk r h1, h2⟩) fun _ _ e => e
theorem S1.mono {st : Stmt} {K K' : Res → Prop} (h : S1 W C σ st K) (hk : ∀ r, K r → K' r) : S1 W C σ st K' := fun s ok =>
  wpAny_mono (h s ok) (fun f s' x => by obtain ⟨r, h1, h2⟩ := x; exact ⟨r, hk r h1, h2⟩) fun _ _ e => e

/- a state described by less -/
structure Sub (σ σ' : Sto) : Prop where
  own : σ.own = σ'.own
  vars : ∀ p ∈ σ.vars, p ∈ σ'.vars
  nd : (σ.vars.map (·.1)).Nodup

theorem Sub.X {σ' : Sto} (h : Sub σ' σ) : σ'.X = σ.X := by unfold Sto.X; rw [h.own]
theorem Sub.av {σ' : Sto} (h : Sub σ' σ) : C.av σ' = C.av σ := by unfold Cx.av; rw [h.X]
theorem Ok.sub {σ' : Sto} {s : Shared} (ok : Ok C σ s) (h : Sub σ' σ) : Ok C σ' s := by
  obtain ⟨⟨m, F, hv⟩, ho, hc, hg, hos, nd⟩ := ok
  have hX := h.X; have hav := h.av (C := C)
  refine ⟨⟨m, F, fun p hp => ?_⟩, fun l ds e => ?_, fun p hp => ?_, hg, hos, h.nd⟩
  · rw [hav]; exact hv p (h.vars p hp)
  · rw [hav]; exact ho l ds (h.own ▸ e)
  · rw [hav, hX]; exact hc p hp
theorem Fram.sub {σ' : Sto} {s : Shared} (h : Sub σ' σ) : Fram C σ s σ' s := ⟨fun _ _ _ _ e => e, fun a ha => .inl (h.X ▸ ha)⟩
theorem SX.sub {σ' : Sto} {sts : List Stmt} {K : Res → Prop} (h : Sub σ' σ) (hs : SX W C σ' sts K) : SX W C σ sts K := fun s ok =>
  wpAny_mono (hs s (ok.sub h)) (fun f s' x => by obtain ⟨r, h1, h2⟩ := x; exact ⟨r, h1, h2.pre (Fram.sub h) (ok.sub h)⟩) fun _ _ e => e

/- the own list let go: from here on it is plain data -/
def thaw (a : Addr) (ds : List PyData) (p : Str × Bd) : Str × Bd :=
  (p.1, match p.2 with | .v (.ref b) => if b = a then .d (.list ds) else p.2 | d => d)

theorem Ok.freeze {a : Addr} {ds : List PyData} {vs : List (Str × Bd)} {s : Shared} (ok : Ok C ⟨some (a, ds), vs⟩ s) (wf : Wf W C) : Ok C ⟨none, vs.map (thaw a ds)⟩ s := by
  obtain ⟨⟨m, F, hv⟩, ho, hc, hg, hos, nd⟩ := ok
  obtain ⟨h1, h2, ws, as, ⟨n, h3⟩, h4, h5⟩ := ho a ds rfl
  have sub : ∀ b, b ∈ C.av ⟨none, vs.map (thaw a ds)⟩ → b ∈ C.av ⟨some (a, ds), vs⟩ := fun b hb => by
    simp only [Cx.av, Sto.X, List.nil_append, List.mem_cons, List.mem_append, List.cons_append] at hb ⊢
    rcases hb with h | h
    · exact .inl h
    · exact .inr (.inr h)
  have hna : a ∉ C.av ⟨none, vs.map (thaw a ds)⟩ := fun hb => by
    simp only [Cx.av, Sto.X, List.nil_append, List.mem_cons] at hb
    rcases hb with h | h
    · exact h2 h
    · obtain ⟨o, e⟩ := wf.xs a h
      rw [h1] at e; cases e
  refine ⟨⟨m, F, fun p hp => ?_⟩, fun l ds e => (nomatch e), fun p hp => ?_, hg, hos, ?_⟩
  · obtain ⟨q, hq, rfl⟩ := List.mem_map.mp hp
    obtain ⟨v, e1, e2⟩ := hv q hq
    refine ⟨v, e1, ?_⟩
    unfold thaw
    split
    · next b hb =>
      split
      · next hba =>
        subst hba
        rw [hb] at e2
        have e3 : v = .ref b := e2
        subst e3
        refine ⟨b :: as, reads_list_at h3 rfl rfl (by simpa using h4), fun c hc => ?_⟩
        rcases List.mem_cons.mp hc with rfl | hc
        · exact hna
        · exact fun hm => h5 c hc (sub c hm)
      · exact e2.sub sub
    · exact e2.sub sub
  · obtain ⟨g1, g2, g3, v, g4, g5⟩ := hc p hp
    exact ⟨g1, g2, by simp [Sto.X], v, g4, g5.sub sub⟩
  · have : (vs.map (thaw a ds)).map (·.1) = vs.map (·.1) := by
      rw [List.map_map]; rfl
    rw [this]; exact nd
theorem SX.freeze {a : Addr} {ds : List PyData} {vs : List (Str × Bd)} {sts : List Stmt} {K : Res → Prop} (wf : Wf W C) (h : SX W C ⟨none, vs.map (thaw a ds)⟩ sts K) : SX W C ⟨some (a, ds), vs⟩ sts K := fun s ok =>
  wpAny_mono (h s (ok.freeze wf)) (fun f s' x => by
    obtain ⟨r, h1, h2⟩ := x
    exact ⟨r, h1, h2.pre ⟨fun _ _ _ _ e => e, fun a ha => by simp [Sto.X] at ha⟩ (ok.freeze wf)⟩) fun _ _ e => e

/- stores -/
theorem spares_of_sameBut {h h' : Heap} {X : List Addr} {b : Addr} (hs : Heap.SameBut b h h') (hb : b ∈ X) (ht : ∀ o, h.get? b = some o → o.cls ≠ .type "tuple" ∨ (∀ vs n, o.data ≠ .seq vs n)) : Spares X h h' := fun c o e hsh => by
  by_cases hcb : c = b
  · subst hcb
    rcases hsh with ⟨vs, n, hd, hx⟩ | ⟨es, n, hd, hx⟩
    · rcases hx with hx | hx
      · rcases ht o e with h1 | h1
        · exact absurd hx h1
        · exact absurd hd (h1 _ _)
      · exact absurd hb hx
    · exact absurd hb hx
  · exact (hs.2 c hcb).trans e

theorem store_ {x : Str} {d : Bd} {v : Value} {vs' : List (Str × Bd)} {s : Shared} {Q : Unit → Shared → Prop} (wf : Wf W C) (hk : C.env.kindOf x = some .local) (ok : Ok C σ s)
    (hv : d.holds s.heap (C.av σ) v) (hu : Upd x d σ.vars vs')
    (h : ∀ s', Ok C ⟨σ.own, vs'⟩ s' → Spares (C.av σ) s.heap s'.heap → Fram C σ s ⟨σ.own, vs'⟩ s' → Q () s') : wpAny W.M C.A (storeName C.env x v) Q Nev s := by
  obtain ⟨⟨m, F, hm⟩, ho, hc, hg, hos, nd⟩ := ok
  obtain ⟨hmem, nd'⟩ := hu.mem nd
  refine wpAny_storeName_local hk F.ns (fun h' hn hs => ?_) wf.noClass
  have sp : Spares (C.av σ) s.heap h' := spares_of_sameBut hs (by simp [Cx.av]) (fun o e => .inr fun ws n => by
    obtain ⟨o', es, ep, h1, h2, _⟩ := F.ns
    rw [h1] at e; cases e; rw [h2]; intro q; cases q)
  refine h _ ⟨⟨_, F.set hn hs, fun p hp => ?_⟩, fun l ds e => ?_, fun p hp => ?_, hg, hos, nd'⟩ sp ⟨fun b o hb _ e => (hs.2 b hb).trans e, fun a ha => .inl ha⟩
  · rcases hmem p hp with rfl | ⟨h1, h2⟩
    · exact ⟨v, by simp, hv.spare sp⟩
    · obtain ⟨u, e1, e2⟩ := hm p h1
      exact ⟨u, by simp [h2, e1], e2.spare sp⟩
  · obtain ⟨g1, g2, ws, as, g3, g4, g5⟩ := ho l ds e
    exact ⟨g1, g2, ws, as, g3.at (fun o e => (hs.2 l g2).trans e), readsAll_spare sp g4 g5, g5⟩
  · obtain ⟨g1, g2, g3, u, g4, g5⟩ := hc p hp
    exact ⟨g1, g2, g3, u, g4.sameBut hs g2, g5.spare sp⟩

theorem S1.assign {x : Str} {p : Pos} {value : Expr} {d : Bd} {vs' : List (Str × Bd)} {K : Res → Prop} (wf : Wf W C) (hk : C.env.kindOf x = some .local) (hv : EV W C σ value d) (hu : Upd x d σ.vars vs') (h : K (.next ⟨σ.own, vs'⟩))
    (hs : swapsWith value (some (.Name x p)) pos.line C.env = pure false := by rfl) : S1 W C σ (.Assign [.Name x p] value pos) K := fun s ok =>
  wpAny_Assign_Name (wpAny_mono (hv.run s ok) (fun v s₁ x1 => store_ wf hk (ok.ext x1.1) x1.2 hu fun s' ok' _ fr => ⟨_, h, rfl, ok', (Fram.ext x1.1).trans (ok.ext x1.1) fr⟩) fun _ _ e => e) hs

def augI : Operator → Int → Int → Option Int
  | .Add, a, b => some (a + b)
  | .Sub, a, b => some (a - b)
  | .RShift, a, b => if 0 ≤ b then some (a / 2 ^ b.toNat) else none
  | .Mod, a, b => if 0 < b then some (a % b) else none
  | _, _, _ => none
theorem augI_ok {A : Around} {op : Operator} {a b c : Int} {t u : Tok} {s : Shared} {X : List Addr} (h : augI op a b = some c) :
    wpAny W.M A (inplaceOp op (.int a t) (.int b u)) (fun v s' => Ext s s' ∧ (I c).holds s'.heap X v) Nev s := by
  cases op <;> simp only [augI, Option.some.injEq, reduceCtorEq, Option.ite_none_right_eq_some] at h
  · subst h; exact iadd_int ⟨Ext.toks s _, Rd.int _ _⟩
  · subst h; exact isub_int ⟨Ext.toks s _, Rd.int _ _⟩
  · obtain ⟨h1, rfl⟩ := h
    refine imod_int (by omega) ⟨Ext.toks s _, ?_⟩
    rw [Int.fmod_eq_emod_of_nonneg _ (by omega)]; exact Rd.int _ _
  · obtain ⟨h1, rfl⟩ := h
    refine irshift_int h1 ⟨Ext.toks s _, ?_⟩
    rw [Int.fdiv_eq_ediv_of_nonneg _ (Int.pow_nonneg (by decide))]; exact Rd.int _ _

theorem S1.aug {x : Str} {p : Pos} {op : Operator} {value : Expr} {a b c : Int} {vs' : List (Str × Bd)} {K : Res → Prop} (wf : Wf W C) (hk : C.env.kindOf x = some .local) (hx : (x, I a) ∈ σ.vars) (hv : EV W C σ value (I b))
    (hc : augI op a b = some c) (hu : Upd x (I c) σ.vars vs') (h : K (.next ⟨σ.own, vs'⟩)) : S1 W C σ (.AugAssign (.Name x p) op value pos) K := fun s ok => by
  obtain ⟨m, F, hm⟩ := ok.m
  obtain ⟨v0, e1, e2⟩ := hm _ hx
  obtain ⟨t, rfl⟩ := e2.int_inv
  refine wpAny_AugAssign_Name (wpAny_loadName_local wf.kind hk F.ns e1 (wpAny_mono (hv.run s ok) (fun v s₁ x1 => ?_) fun _ _ e => e))
  obtain ⟨u, rfl⟩ := x1.2.int_inv
  refine wpAny_mono (augI_ok (X := C.av σ) hc) (fun r s₂ x2 => ?_) fun _ _ e => e
  have x12 := x1.1.trans x2.1
  exact store_ wf hk (ok.ext x12) x2.2 hu fun s' ok' _ fr => ⟨_, h, rfl, ok', (Fram.ext x12).trans (ok.ext x12) fr⟩

theorem S1.ret {e : Expr} {d : PyData} {K : Res → Prop} (hv : EV W C σ e (.d d)) (h : K (.ret d)) : S1 W C σ (.Return (some e) pos) K := fun s ok =>
  wpAny_Return_some (wpAny_mono (hv.run s ok) (fun v s₁ x1 => by
    have ok1 := ok.ext x1.1
    obtain ⟨m, F, _⟩ := ok1.m
    exact ⟨_, h, v, rfl, x1.2.sub (fun a ha => by simp [Cx.av, ha]), F.keep, ok1.gens, ok1.os⟩) fun _ _ e => e)
theorem S1.brk {K : Res → Prop} (h : K (.brk σ)) : S1 W C σ (.Break pos) K := fun s ok => wpAny_Break ⟨_, h, rfl, ok, Fram.refl s⟩
theorem S1.if_ {test : Expr} {body orelse : List Stmt} {b : Bool} {K : Res → Prop} (ht : TV W C σ test b) (h1 : b = true → SX W C σ body K) (h2 : b = false → SX W C σ orelse K) : S1 W C σ (.If test body orelse pos) K := fun s ok =>
  wpAny_If (wpAny_mono (ht.run s ok) (fun c s₁ x => by
    obtain ⟨e1, rfl⟩ := x
    have ok1 := ok.ext e1
    cases c with
    | true => exact wpAny_mono (h1 rfl s₁ ok1) (fun f s' y => by obtain ⟨r, g1, g2⟩ := y; exact ⟨r, g1, g2.pre (Fram.ext e1) ok1⟩) fun _ _ e => e
    | false => exact wpAny_mono (h2 rfl s₁ ok1) (fun f s' y => by obtain ⟨r, g1, g2⟩ := y; exact ⟨r, g1, g2.pre (Fram.ext e1) ok1⟩) fun _ _ e => e) fun _ _ e => e)
end
end Mine
end
section
set_option Elab.async false
set_option maxRecDepth 100000
set_option linter.unusedVariables false
set_option linter.unusedSimpArgs false
open PySem PySem.Calls PySem.Spec PyProof.Rows

namespace Mine

section
variable {W : Wd} {C : Cx} {σ : Sto} {pos : Pos} {k : Nat}

/- while -/
theorem S1.while_ {α : Type} (S : α → Sto) (J : α → Prop) (m : α → Nat) (a₀ : α) {test : Expr} {body : List Stmt} {K : Res → Prop} (hs : Sub (S a₀) σ) (h0 : J a₀)
    (step : ∀ a, J a → ∃ b, TV W C (S a) test b ∧ (b = true → SX W C (S a) body (fun r => match r with | .next σ' => ∃ a', J a' ∧ m a' < m a ∧ Sub (S a') σ' | .brk σ' => K (.next σ') | .ret d => K (.ret d))) ∧ (b = false → K (.next (S a)))) :
    S1 W C σ (.While test body [] pos) K := fun s ok => by
  refine wpAny_While (codeAny_whileLoop (fun n s' => ∃ a, J a ∧ m a = n ∧ Ok C (S a) s' ∧ Fram C σ s (S a) s') ?_ (m a₀) ⟨a₀, h0, rfl, ok.sub hs, Fram.sub hs⟩)
  rintro n s' ⟨a, hJ, rfl, ok', fr⟩
  obtain ⟨b, ht, h1, h2⟩ := step a hJ
  refine wpAny_mono (ht.run s' ok') (fun c s₂ x => ?_) fun _ _ e => e.elim
  obtain ⟨e1, rfl⟩ := x
  have ok2 := ok'.ext e1
  have fr2 : Fram C σ s (S a) s₂ := fr.trans ok' (Fram.ext e1)
  cases c with
  | true =>
    refine wpAny_mono (h1 rfl s₂ ok2) (fun f s₃ y => ?_) fun _ _ e => e.elim
    obtain ⟨r, hr, hok⟩ := y
    cases r with
    | next σ' =>
      obtain ⟨rfl, ok3, fr3⟩ := hok
      obtain ⟨a', hJ', hm, hsub⟩ := hr
      exact ⟨m a', hm, a', hJ', rfl, ok3.sub hsub, (fr2.trans ok2 fr3).trans ok3 (Fram.sub hsub)⟩
    | brk σ' =>
      obtain ⟨rfl, ok3, fr3⟩ := hok
      exact ⟨_, hr, rfl, ok3, fr2.trans ok2 fr3⟩
    | ret d =>
      obtain ⟨v, rfl, hok⟩ := hok
      exact ⟨_, hr, v, rfl, hok⟩
  | false => exact wpAny_execs_nil ⟨_, h2 rfl, rfl, ok2, fr2⟩

/- iterators -/
def IT (W : Wd) (C : Cx) (σ : Sto) (iter : Expr) (n : Nat) (P : Nat → Bd) : Prop := ∀ s, Ok C σ s → wpAny W.M C.A (eval iter C.env) (fun xv s₁ => wpAny W.M C.A (pyIter xv) (fun it s₂ =>
  ∃ sm It fp wr Pv St, Ext s sm ∧ Ext sm s₂ ∧ it = .ref It ∧ Walks W.prog W.w C.A It fp wr n Pv St ∧ St 0 s₂.heap ∧ (∀ b ∈ wr, sm.heap.get? b = none) ∧ (∀ b ∈ fp, b ≠ C.env.locals ∧ b ∉ σ.X) ∧
    (∀ i h, St i h → ∀ b ∈ wr, ∃ o fs, h.get? b = some o ∧ o.data = .fields fs) ∧ (∀ i v, i < n → Pv i v → (P i).holds sm.heap (C.av σ) v)) Nev s₁) Nev s

theorem Ok.wr {s : Shared} {wr : List Addr} {h' : Heap} {tk : Nat} (ok : Ok C σ s) (hn : ∀ b ∈ wr, C.h₀.get? b = none) (hw : ∀ b ∈ wr, ∃ o fs, s.heap.get? b = some o ∧ o.data = .fields fs)
    (hk : ∀ b o, b ∉ wr → s.heap.get? b = some o → h'.get? b = some o) : Ok C σ { s with heap := h', toks := tk } := by
  obtain ⟨⟨m, F, hm⟩, ho, hc, hg, hos, nd⟩ := ok
  have out : ∀ b o, s.heap.get? b = some o → (∀ fs, o.data ≠ .fields fs) → b ∉ wr := fun b o e hd hb => by
    obtain ⟨o', fs, e', d'⟩ := hw b hb
    rw [e] at e'; cases e'; exact hd _ d'
  have sp : Spares (C.av σ) s.heap h' := fun b o e h => hk b o (out b o e (by rcases h with ⟨_, _, d, _⟩ | ⟨_, _, d, _⟩ <;> (rw [d]; intro fs q; cases q))) e
  have F' : Fr C.h₀ C.env.locals h' m := by
    obtain ⟨o, es, ep, e1, e2, e3⟩ := F.ns
    refine ⟨⟨o, es, ep, hk _ o (out _ o e1 (by rw [e2]; intro fs q; cases q)) e1, e2, e3⟩, fun b o e => hk b o (fun hb => by rw [hn b hb] at e; cases e) (F.keep b o e), F.above⟩
  refine ⟨⟨m, F', fun p hp => ?_⟩, fun l ds e => ?_, fun p hp => ?_, hg, hos, nd⟩
  · obtain ⟨v, e1, e2⟩ := hm p hp
    exact ⟨v, e1, e2.spare sp⟩
  · obtain ⟨g1, g2, ws, as, ⟨n, g3⟩, g4, g5⟩ := ho l ds e
    exact ⟨g1, g2, ws, as, ⟨n, hk _ _ (out _ _ g3 (by intro fs q; cases q)) g3⟩, readsAll_spare sp g4 g5, g5⟩
  · obtain ⟨g1, g2, g3, v, ⟨o, g4, g5⟩, g6⟩ := hc p hp
    exact ⟨g1, g2, g3, v, ⟨o, hk _ _ (out _ _ g4 (by rw [g5]; intro fs q; cases q)) g4, g5⟩, g6.spare sp⟩

theorem Fram.wr {s s' : Shared} {σ' : Sto} {wr : List Addr} {h' : Heap} {tk : Nat} (fr : Fram C σ s σ' s') (hn : ∀ b ∈ wr, s.heap.get? b = none) (hk : ∀ b o, b ∉ wr → s'.heap.get? b = some o → h'.get? b = some o) :
    Fram C σ s σ' { s' with heap := h', toks := tk } :=
  ⟨fun b o hb hx e => hk b o (fun h => by rw [hn b h] at e; cases e) (fr.keep b o hb hx e), fr.news⟩

theorem Fram.spares {s s' : Shared} {σ' : Sto} (fr : Fram C σ s σ' s') (ok : Ok C σ s) : Spares (C.av σ) s.heap s'.heap := fun b o e h => by
  have hL : b = C.env.locals → ∃ es ep, o.data = .dict es ep := fun hb => by
    subst hb
    obtain ⟨o', e', es, ep, d⟩ := ok.locals
    rw [e] at e'; cases e'; exact ⟨es, ep, d⟩
  have hX : b ∈ σ.X → o.cls = .type "list" := fun hb => by
    unfold Sto.X at hb
    cases ho : σ.own with
    | none => rw [ho] at hb; cases hb
    | some p =>
      rw [ho] at hb
      obtain ⟨_, _, ws, as, ⟨n, g⟩, _⟩ := ok.own p.1 p.2 ho
      rw [List.mem_singleton.mp hb] at e
      rw [e] at g; cases g; rfl
  rcases h with ⟨vs, n, d, hc⟩ | ⟨es, n, d, hc⟩
  · refine fr.keep b o (fun hb => ?_) (fun hb => ?_) e
    · obtain ⟨_, _, d'⟩ := hL hb
      rw [d] at d'; cases d'
    · rcases hc with hc | hc
      · rw [hX hb] at hc; simp at hc
      · exact hc (by simp [Cx.av, hb])
  · exact fr.keep b o (fun hb => hc (by simp [Cx.av, hb])) (fun hb => hc (by simp [Cx.av, hb])) e
theorem Fram.holds {s s' : Shared} {σ' : Sto} {v : Value} {d : Bd} (fr : Fram C σ s σ' s') (ok : Ok C σ s) (h : d.holds s.heap (C.av σ) v) : d.holds s'.heap (C.av σ) v := h.spare (fr.spares ok)

theorem S1.for_ {α : Type} (S : α → Sto) (J : Nat → α → Prop) (a₀ : α) {n : Nat} {P : Nat → Bd} {x : Str} {px : Pos} {iter : Expr} {body : List Stmt} {K : Res → Prop} (wf : Wf W C)
    (hk : C.env.kindOf x = some .local) (hit : IT W C σ iter n P) (hX : ∀ a, (S a).X = σ.X) (hs : Sub (S a₀) σ) (h0 : J 0 a₀)
    (step : ∀ i a, i < n → J i a → ∃ vs, Upd x (P i) (S a).vars vs ∧ SX W C ⟨(S a).own, vs⟩ body (fun r => match r with | .next σ' => ∃ a', J (i + 1) a' ∧ Sub (S a') σ' | .brk σ' => K (.next σ') | .ret d => K (.ret d)))
    (done : ∀ a, J n a → K (.next (S a)))
    (hfs : ∀ x, foldedSetIterable iter C.env x = pure x := by intro _; rfl)
    (ht : ∀ it v, letOwnedTupleGo (.Name x px) it v = pure () := by intro _ _; rfl) :
    S1 W C σ (.For (.Name x px) iter body [] pos) K := fun s ok => by
  refine wpAny_For (wpAny_mono (hit s ok) (fun xv s₁ h₁ => wpAny_mono h₁ (fun it s₂ h₂ => ?_) fun _ _ e => e.elim) fun _ _ e => e.elim) hfs
  obtain ⟨sm, It, fp, wr, Pv, St, e1, e2, rfl, Wk, hst, hwr, hfp, hfld, hP⟩ := h₂
  have ok0 := ok
  replace ok := ok.ext e1
  have ok2 := ok.ext e2
  have pre : ∀ r f s', ResOk C σ sm r f s' → ResOk C σ s r f s' := fun r f s' h => h.pre (Fram.ext e1) ok
  have hwr0 : ∀ b ∈ wr, C.h₀.get? b = none := fun b hb => by
    cases e : C.h₀.get? b with
    | none => rfl
    | some o =>
      obtain ⟨m, F, _⟩ := ok.m
      rw [← hwr b hb]; exact (F.keep b o e).symm
  refine codeAny_forLoop (fun q s' => ∃ i a, q = n + 1 - i ∧ i ≤ n ∧ J i a ∧ Ok C (S a) s' ∧ St i s'.heap ∧ Fram C σ sm (S a) s') ?_ (n + 1)
    ⟨0, a₀, rfl, Nat.zero_le _, h0, ok2.sub hs, hst, (Fram.ext e2).trans ok2 (Fram.sub hs)⟩ (ht _)
  rintro q s' ⟨i, a, rfl, hi, hJ, ok', hst', fr⟩
  have hav : C.av (S a) = C.av σ := by unfold Cx.av; rw [hX]
  by_cases hlt : i < n
  · refine Wk.item i s' _ _ hlt hst' fun v h₁ tk₁ hPv hst₁ hk₁ => ?_
    have ok1 : Ok C (S a) { s' with heap := h₁, toks := tk₁ } := ok'.wr hwr0 (hfld i _ hst') hk₁
    have fr1 : Fram C σ sm (S a) { s' with heap := h₁, toks := tk₁ } := fr.wr hwr hk₁
    obtain ⟨vs, hu, hb⟩ := step i a hlt hJ
    have hv : (P i).holds h₁ (C.av (S a)) v := hav ▸ fr1.holds ok (hP i v hlt hPv)
    refine wpAny_assign_Name (wpAny_mono (store_ (Q := fun _ s₂ => Ok C ⟨(S a).own, vs⟩ s₂ ∧ Fram C (S a) { s' with heap := h₁, toks := tk₁ } ⟨(S a).own, vs⟩ s₂) wf hk ok1 hv hu fun s₂ ok2 sp fr2 => ⟨ok2, fr2⟩) (fun _ s₂ h₂ => ?_) fun _ _ e => e.elim)
    obtain ⟨ok2, fr2⟩ := h₂
    have hst2 : St (i + 1) s₂.heap := Wk.frame _ _ _ hst₁ fun b hb o e => fr2.keep b o (hfp b hb).1 (by rw [hX]; exact (hfp b hb).2) e
    refine wpAny_mono (hb s₂ ok2) (fun f s₃ y => ?_) fun _ _ e => e.elim
    obtain ⟨r, hr, hok⟩ := y
    have fr02 := fr1.trans ok1 fr2
    cases r with
    | next σ' =>
      obtain ⟨rfl, ok3, fr3⟩ := hok
      obtain ⟨a', hJ', hsub⟩ := hr
      refine ⟨n + 1 - (i + 1), by omega, i + 1, a', rfl, hlt, hJ', ok3.sub hsub, ?_, (fr02.trans ok2 fr3).trans ok3 (Fram.sub hsub)⟩
      exact Wk.frame _ _ _ hst2 fun b hb o e => fr3.keep b o (hfp b hb).1 (by show b ∉ (S a).X; rw [hX]; exact (hfp b hb).2) e
    | brk σ' =>
      obtain ⟨rfl, ok3, fr3⟩ := hok
      exact ⟨.next σ', hr, pre _ _ _ ⟨rfl, ok3, fr02.trans ok2 fr3⟩⟩
    | ret d =>
      obtain ⟨v, rfl, hok⟩ := hok
      exact ⟨_, hr, v, rfl, hok⟩
  · have hin : i = n := by omega
    subst hin
    refine Wk.done s' _ _ hst' fun h₁ tk₁ hk₁ => wpAny_execs_nil ?_
    exact ⟨.next (S a), done a hJ, pre _ _ _ ⟨rfl, ok'.wr hwr0 (hfld i _ hst') hk₁, fr.wr hwr hk₁⟩⟩

/- what is walked: a list, a range -/
theorem new_none {s : Shared} : s.heap.get? s.heap.objs.size = none := Heap.get?_none_of_le (Nat.le_refl _)

theorem IT.list {iter : Expr} {ds : List PyData} (wf : Wf W C) (h : EV W C σ iter (L ds)) : IT W C σ iter ds.length (fun i => .d (ds.getD i .none)) := fun s ok => by
  refine wpAny_mono (h.run s ok) (fun v s₁ x1 => ?_) fun _ _ e => e
  have ok1 := ok.ext x1.1
  obtain ⟨p, l, bs, rfl, hl, hr, hp, hb⟩ := x1.2.list_inv
  have hlen := readsAll_len hr
  have hpl : p < s₁.heap.objs.size := by obtain ⟨o, ho, _⟩ := hl; exact Heap.lt_size ho
  have Wk := Walks.list (prog := W.prog) (w := W.w) wf.hh s₁.heap.objs.size p (Nat.ne_of_lt hpl) l.toArray
  have hsz : l.toArray.size = ds.length := by simp [hlen]
  rw [hsz] at Wk
  refine wpAny_pyIter_list hl ⟨s₁, _, _, _, _, _, x1.1, Ext.push s₁ _, rfl, Wk, ⟨⟨_, Heap.get?_push_size _ rfl, rfl, rfl⟩, hl.at fun o e => Heap.get?_push_of_some _ e⟩, ?_, ?_, ?_, ?_⟩
  · intro b hb; rw [List.mem_singleton.mp hb]; exact new_none
  · intro b hb'
    have hav := ok1.lt wf
    rcases List.mem_cons.mp hb' with hb1 | hb'
    · exact ⟨fun e => by have h := hav b (by simp [Cx.av, e]); rw [hb1] at h; exact Nat.lt_irrefl _ h, fun e => by have h := hav b (by simp [Cx.av, e]); rw [hb1] at h; exact Nat.lt_irrefl _ h⟩
    · rw [List.mem_singleton.mp hb']
      exact ⟨fun e => hp (by simp [Cx.av, e]), fun e => hp (by simp [Cx.av, e])⟩
  · rintro i h ⟨⟨o, h1, h2, h3⟩, _⟩ b hb
    rw [List.mem_singleton.mp hb]
    exact ⟨o, _, h1, h3⟩
  · intro i v hi hv
    have e : ds[i]? = some (ds.getD i .none) := by simp [hi]
    obtain ⟨u, h1, h2⟩ := readsAll_nth hr hb e
    have : v = u := by
      have hv' : l[i]? = some v := by simpa using hv
      rw [h1] at hv'; exact (Option.some.inj hv').symm
    subst this
    exact h2

theorem callType1 {f e : Expr} {Tn : String} {d1 : Bd} {s : Shared} {Q : Value → Shared → Prop} (ok : Ok C σ s) (h1 : EV W C σ f (.v (.type Tn))) (h2 : EV W C σ e d1)
    (h : ∀ s' a, Ext s s' → Ok C σ s' → d1.holds s'.heap (C.av σ) a → wpAny W.M C.A (call (.type Tn) [a]) Q Nev s')
    (he1 : starEach [e] C.env = (false, eval e C.env) :: starEach [] C.env := by rfl)
    (he : eval (.Call f [e] [] pos) C.env = (do callWith pos (← eval f C.env) [] (backTo pos (starEach [e] C.env)) (backToKw pos (keywordEach [] C.env))) := by rfl) :
    wpAny W.M C.A (eval (.Call f [e] [] pos) C.env) Q Nev s := by
  refine Call_ (wpAny_mono (h1.run s ok) (fun fv s₁ x1 => ?_) fun _ _ e => e) he
  have e1 : fv = .type Tn := x1.2
  subst e1
  refine Pv.callWith_type1 (args_cons (wpAny_mono (h2.run s₁ (ok.ext x1.1)) (fun a s₂ x2 => args_nil ?_) fun _ _ e => e) he1) he1 rfl
  exact h s₂ a (x1.1.trans x2.1) ((ok.ext x1.1).ext x2.1) x2.2
theorem callType2 {f e e' : Expr} {Tn : String} {d1 d2 : Bd} {s : Shared} {Q : Value → Shared → Prop} (ok : Ok C σ s) (h1 : EV W C σ f (.v (.type Tn))) (h2 : EV W C σ e d1) (h3 : EV W C σ e' d2)
    (h : ∀ s' a b, Ext s s' → Ok C σ s' → d1.holds s'.heap (C.av σ) a → d2.holds s'.heap (C.av σ) b → wpAny W.M C.A (call (.type Tn) [a, b]) Q Nev s')
    (he1 : starEach [e, e'] C.env = (false, eval e C.env) :: starEach [e'] C.env := by rfl)
    (he2 : starEach [e'] C.env = (false, eval e' C.env) :: starEach [] C.env := by rfl)
    (he : eval (.Call f [e, e'] [] pos) C.env = (do callWith pos (← eval f C.env) [] (backTo pos (starEach [e, e'] C.env)) (backToKw pos (keywordEach [] C.env))) := by rfl) :
    wpAny W.M C.A (eval (.Call f [e, e'] [] pos) C.env) Q Nev s := by
  refine Call_ (wpAny_mono (h1.run s ok) (fun fv s₁ x1 => ?_) fun _ _ e => e) he
  have e1 : fv = .type Tn := x1.2
  subst e1
  refine Pv.callWith_type1 (args_cons (wpAny_mono (h2.run s₁ (ok.ext x1.1)) (fun a s₂ x2 => args_cons (wpAny_mono (h3.run s₂ ((ok.ext x1.1).ext x2.1)) (fun b s₃ x3 => args_nil ?_) fun _ _ e => e) he2) fun _ _ e => e) he1) he1 (by rw [he2]; rfl)
  exact h s₃ a b ((x1.1.trans x2.1).trans x3.1) (((ok.ext x1.1).ext x2.1).ext x3.1) (x2.2.keeps x3.1.keep) x3.2
theorem callType3 {f e e' e'' : Expr} {Tn : String} {d1 d2 d3 : Bd} {s : Shared} {Q : Value → Shared → Prop} (ok : Ok C σ s) (h1 : EV W C σ f (.v (.type Tn))) (h2 : EV W C σ e d1) (h3 : EV W C σ e' d2) (h4 : EV W C σ e'' d3)
    (h : ∀ s' a b c, Ext s s' → Ok C σ s' → d1.holds s'.heap (C.av σ) a → d2.holds s'.heap (C.av σ) b → d3.holds s'.heap (C.av σ) c → wpAny W.M C.A (call (.type Tn) [a, b, c]) Q Nev s')
    (he1 : starEach [e, e', e''] C.env = (false, eval e C.env) :: starEach [e', e''] C.env := by rfl)
    (he2 : starEach [e', e''] C.env = (false, eval e' C.env) :: starEach [e''] C.env := by rfl)
    (he3 : starEach [e''] C.env = (false, eval e'' C.env) :: starEach [] C.env := by rfl)
    (he : eval (.Call f [e, e', e''] [] pos) C.env = (do callWith pos (← eval f C.env) [] (backTo pos (starEach [e, e', e''] C.env)) (backToKw pos (keywordEach [] C.env))) := by rfl) :
    wpAny W.M C.A (eval (.Call f [e, e', e''] [] pos) C.env) Q Nev s := by
  refine Call_ (wpAny_mono (h1.run s ok) (fun fv s₁ x1 => ?_) fun _ _ e => e) he
  have e1 : fv = .type Tn := x1.2
  subst e1
  refine Pv.callWith_type1 (args_cons (wpAny_mono (h2.run s₁ (ok.ext x1.1)) (fun a s₂ x2 => args_cons (wpAny_mono (h3.run s₂ ((ok.ext x1.1).ext x2.1)) (fun b s₃ x3 => args_cons (wpAny_mono (h4.run s₃ (((ok.ext x1.1).ext x2.1).ext x3.1)) (fun c s₄ x4 => args_nil ?_) fun _ _ e => e) he3) fun _ _ e => e) he2) fun _ _ e => e) he1) he1 (by rw [he2, he3]; rfl)
  exact h s₄ a b c (((x1.1.trans x2.1).trans x3.1).trans x4.1) ((((ok.ext x1.1).ext x2.1).ext x3.1).ext x4.1) ((x2.2.keeps x3.1.keep).keeps x4.1.keep) (x3.2.keeps x4.1.keep) x4.2

/- the range made: its walk -/
theorem rangeWalk {s s₁ : Shared} {r : Addr} {a b c : Int} {n : Nat} {t u v : Tok} (wf : Wf W C) (ok : Ok C σ s) (e : Ext s s₁) (hr : IsRange s₁.heap r a b c t u v) (hsm : Builtin.Range.small a b c = true) (hn : Builtin.Range.rangeSize a b c = n) :
    wpAny W.M C.A (pyIter (.ref r)) (fun it s₂ =>
      ∃ sm It fp wr Pv St, Ext s sm ∧ Ext sm s₂ ∧ it = .ref It ∧ Walks W.prog W.w C.A It fp wr n Pv St ∧ St 0 s₂.heap ∧ (∀ b ∈ wr, sm.heap.get? b = none) ∧ (∀ b ∈ fp, b ≠ C.env.locals ∧ b ∉ σ.X) ∧
      (∀ i h, St i h → ∀ b ∈ wr, ∃ o fs, h.get? b = some o ∧ o.data = .fields fs) ∧ (∀ i v, i < n → Pv i v → (I (a + i * c)).holds sm.heap (C.av σ) v)) Nev s₁ := by
  have ok1 := ok.ext e
  have Wk := Walks.range (prog := W.prog) (w := W.w) wf.hh s₁.heap.objs.size a c n
  refine wpAny_pyIter_range hr hsm ⟨s₁, _, _, _, _, _, e, Ext.push s₁ _, rfl, Wk, ?_, ?_, ?_, ?_, ?_⟩
  · show IsRangeIter _ _ _ _ _
    rw [hn]; simpa using Heap.get?_push_size _ rfl
  · intro b hb; rw [List.mem_singleton.mp hb]; exact new_none
  · intro b hb'
    have hav := ok1.lt wf
    have hb1 := List.mem_singleton.mp hb'
    exact ⟨fun e => by have h := hav b (by simp [Cx.av, e]); rw [hb1] at h; exact Nat.lt_irrefl _ h, fun e => by have h := hav b (by simp [Cx.av, e]); rw [hb1] at h; exact Nat.lt_irrefl _ h⟩
  · rintro i h st b hb
    rw [List.mem_singleton.mp hb]
    exact ⟨_, _, st, rfl⟩
  · rintro i v hi ⟨t, rfl⟩
    exact Rd.int _ _

theorem rangeWalk' {s s₁ : Shared} {r : Addr} {a b c : Int} {n : Nat} {t u v : Tok} {g : Nat → Int} (wf : Wf W C) (ok : Ok C σ s) (e : Ext s s₁) (hr : IsRange s₁.heap r a b c t u v) (hsm : Builtin.Range.small a b c = true) (hn : Builtin.Range.rangeSize a b c = n)
    (hg : ∀ i : Nat, a + i * c = g i) :
    wpAny W.M C.A (pyIter (.ref r)) (fun it s₂ =>
      ∃ sm It fp wr Pv St, Ext s sm ∧ Ext sm s₂ ∧ it = .ref It ∧ Walks W.prog W.w C.A It fp wr n Pv St ∧ St 0 s₂.heap ∧ (∀ b ∈ wr, sm.heap.get? b = none) ∧ (∀ b ∈ fp, b ≠ C.env.locals ∧ b ∉ σ.X) ∧
      (∀ i h, St i h → ∀ b ∈ wr, ∃ o fs, h.get? b = some o ∧ o.data = .fields fs) ∧ (∀ i v, i < n → Pv i v → (I (g i)).holds sm.heap (C.av σ) v)) Nev s₁ := by
  have h := rangeWalk wf ok e hr hsm hn
  simp only [hg] at h
  exact h

theorem IT.range1 {f e : Expr} {n : Nat} (wf : Wf W C) (h1 : EV W C σ f (.v (.type "range"))) (h2 : EV W C σ e (I (n : Int))) (hn : n < 1000000000)
    (he1 : starEach [e] C.env = (false, eval e C.env) :: starEach [] C.env := by rfl)
    (he : eval (.Call f [e] [] pos) C.env = (do callWith pos (← eval f C.env) [] (backTo pos (starEach [e] C.env)) (backToKw pos (keywordEach [] C.env))) := by rfl) :
    IT W C σ (.Call f [e] [] pos) n (fun i => I (i : Int)) := fun s ok => by
  refine callType1 ok h1 h2 (fun s' a x ok' ha => ?_) he1 he
  obtain ⟨t, rfl⟩ := ha.int_inv
  exact call_range_1 (rangeWalk' (n := n) wf ok (x.trans (Ext.heap fun _ _ e => Heap.get?_push_of_some _ e)) (IsRange.new ..) (small_one (by decide) (by decide) (by omega) (by omega)) (by rw [rangeSize_one]; split <;> omega) (fun i => by omega))
theorem IT.range2 {f e e' : Expr} {a b : Int} {n : Nat} (wf : Wf W C) (h1 : EV W C σ f (.v (.type "range"))) (h2 : EV W C σ e (I a)) (h3 : EV W C σ e' (I b)) (hn : -1000000000 < a ∧ a < 1000000000 ∧ -1000000000 < b ∧ b < 1000000000 ∧ n = (b - a).toNat)
    (he1 : starEach [e, e'] C.env = (false, eval e C.env) :: starEach [e'] C.env := by rfl)
    (he2 : starEach [e'] C.env = (false, eval e' C.env) :: starEach [] C.env := by rfl)
    (he : eval (.Call f [e, e'] [] pos) C.env = (do callWith pos (← eval f C.env) [] (backTo pos (starEach [e, e'] C.env)) (backToKw pos (keywordEach [] C.env))) := by rfl) :
    IT W C σ (.Call f [e, e'] [] pos) n (fun i => I (a + i)) := fun s ok => by
  refine callType2 ok h1 h2 h3 (fun s' p q x ok' hp hq => ?_) he1 he2 he
  obtain ⟨t, rfl⟩ := hp.int_inv
  obtain ⟨u, rfl⟩ := hq.int_inv
  exact call_range_2 (rangeWalk' (n := n) wf ok (x.trans (Ext.heap fun _ _ e => Heap.get?_push_of_some _ e)) (IsRange.new ..) (small_one (by omega) (by omega) (by omega) (by omega)) (by rw [rangeSize_one]; split <;> omega) (fun i => by omega))
theorem rangeSize_down {a : Int} (h : -1 ≤ a) : Builtin.Range.rangeSize a (-1) (-1) = a + 1 := by
  unfold Builtin.Range.rangeSize
  simp only [show ¬ (-1 : Int) > 0 by decide, if_false, Int.neg_neg, Int.ediv_one]
  split <;> omega
theorem small_down {a : Int} (h : -1 ≤ a) (h' : a < 2 ^ 62) : Builtin.Range.small a (-1) (-1) = true := by
  unfold Builtin.Range.small
  rw [rangeSize_down h]
  simp only [Builtin.Range.rangeFitsLong, Bool.and_eq_true, Bool.or_eq_true, decide_eq_true_eq, beq_iff_eq, show ¬ (-1 : Int) > 0 by decide, if_false]
  omega
theorem IT.down {f e e' e'' : Expr} {n : Nat} (wf : Wf W C) (h1 : EV W C σ f (.v (.type "range"))) (h2 : EV W C σ e (I ((n : Int) - 1))) (h3 : EV W C σ e' (I (-1))) (h4 : EV W C σ e'' (I (-1))) (hn : n < 1000000000)
    (he1 : starEach [e, e', e''] C.env = (false, eval e C.env) :: starEach [e', e''] C.env := by rfl)
    (he2 : starEach [e', e''] C.env = (false, eval e' C.env) :: starEach [e''] C.env := by rfl)
    (he3 : starEach [e''] C.env = (false, eval e'' C.env) :: starEach [] C.env := by rfl)
    (he : eval (.Call f [e, e', e''] [] pos) C.env = (do callWith pos (← eval f C.env) [] (backTo pos (starEach [e, e', e''] C.env)) (backToKw pos (keywordEach [] C.env))) := by rfl) :
    IT W C σ (.Call f [e, e', e''] [] pos) n (fun i => I ((n : Int) - 1 - i)) := fun s ok => by
  refine callType3 ok h1 h2 h3 h4 (fun s' p q r x ok' hp hq hr => ?_) he1 he2 he3 he
  obtain ⟨t, rfl⟩ := hp.int_inv
  obtain ⟨u, rfl⟩ := hq.int_inv
  obtain ⟨v, rfl⟩ := hr.int_inv
  exact call_range_3 (by decide) (rangeWalk' (n := n) wf ok (x.trans (Ext.heap fun _ _ e => Heap.get?_push_of_some _ e)) (IsRange.new ..) (small_down (by omega) (by omega)) (by rw [rangeSize_down (by omega)]; omega) (fun i => by omega)) (.inl (PyProof.noPylong_small (by decide)))
end
end Mine
end
section
set_option Elab.async false
set_option maxRecDepth 100000
set_option linter.unusedVariables false
set_option linter.unusedSimpArgs false
open PySem PySem.Calls PySem.Spec PyProof.Rows

namespace Mine

section
variable {W : Wd} {C : Cx} {σ : Sto} {pos : Pos} {k : Nat}

theorem Rd.alive {h : Heap} {X : List Addr} {v : Value} {d : PyData} (r : Rd h X v d) : ∃ as, Reads h v d as ∧ ∀ a ∈ as, a ∉ X ∧ ∃ o, h.get? a = some o := by
  obtain ⟨as, h1, h2⟩ := r
  exact ⟨as, h1, fun a ha => ⟨h2 a ha, PyProof.On.reads_mem_get h1 a ha⟩⟩
theorem readsAll_alive {h : Heap} : ∀ {vs : List Value} {ds : List PyData} {as : List Addr}, ReadsAll h vs ds as → ∀ a ∈ as, ∃ o, h.get? a = some o
  | _, _, _, .nil, a, ha => nomatch ha
  | _, _, _, .cons h1 h2, a, ha => (List.mem_append.mp ha).elim (PyProof.On.reads_mem_get h1 a) (readsAll_alive h2 a)
theorem Bd.holds.fresh {h : Heap} {X : List Addr} {v : Value} {d : Bd} {a : Addr} (ha : h.get? a = none) {Y : List Addr} (hY : ∀ b ∈ Y, b = a ∨ b ∈ X) (r : d.holds h X v) : d.holds h Y v := by
  cases d with
  | v x => exact r
  | d x =>
    obtain ⟨as, h1, h2⟩ := Rd.alive r
    refine ⟨as, h1, fun b hb hy => ?_⟩
    obtain ⟨h3, o, h4⟩ := h2 b hb
    rcases hY b hy with rfl | h5
    · rw [ha] at h4; cases h4
    · exact h3 h5

/- unpacking -/
def AllV : Nat → (List Value → Prop) → Prop
  | 0, P => P []
  | n + 1, P => ∀ v, AllV n fun l => P (v :: l)
theorem allV : ∀ {n : Nat} {P : List Value → Prop}, AllV n P → ∀ l, l.length = n → P l
  | 0, _, h, l, e => List.eq_nil_of_length_eq_zero e ▸ h
  | n + 1, P, h, l, e => by
    cases l with
    | nil => cases e
    | cons v l => exact allV (P := fun l => P (v :: l)) (h v) l (Nat.succ.inj e)
theorem len2 {l : List Value} (h : l.length = 2) : ∃ x y, l = [x, y] := allV (n := 2) (P := fun l => ∃ x y, l = [x, y]) (fun x y => ⟨x, y, rfl⟩) l h
theorem pair_inv {h : Heap} {X : List Addr} {v : Value} {d1 d2 : PyData} (r : Rd h X v (.tuple [d1, d2])) : ∃ t u1 u2, v = .ref t ∧ h.IsTuple t #[u1, u2] ∧ Rd h X u1 d1 ∧ Rd h X u2 d2 := by
  obtain ⟨t, l, bs, rfl, h1, h2, h3⟩ := r.tuple_inv
  have hl := readsAll_len h2
  obtain ⟨u1, e1, r1⟩ := readsAll_nth h2 h3 (i := 0) (d := d1) rfl
  obtain ⟨u2, e2, r2⟩ := readsAll_nth h2 h3 (i := 1) (d := d2) rfl
  obtain ⟨x, y, rfl⟩ := len2 hl
  simp only [List.getElem?_cons_zero, List.getElem?_cons_succ, Option.some.injEq] at e1 e2
  subst e1 e2
  exact ⟨t, x, y, rfl, h1, r1, r2⟩

theorem Ext.of_extBut {s : Shared} {h' : Heap} (hx : Heap.ExtBut s.heap.objs.size s.heap h') : Ext s { s with heap := h' } :=
  ⟨fun b o e => hx b o (Nat.ne_of_lt (Heap.lt_size e)) e, rfl, rfl⟩

theorem two_stores {x y : Str} {d1 d2 : Bd} {u1 u2 : Value} {v1 v2 : List (Str × Bd)} {s : Shared} {Q : Unit → Shared → Prop} (wf : Wf W C) (hx : C.env.kindOf x = some .local) (hy : C.env.kindOf y = some .local) (ok : Ok C σ s)
    (h1 : d1.holds s.heap (C.av σ) u1) (h2 : d2.holds s.heap (C.av σ) u2) (a1 : Upd x d1 σ.vars v1) (a2 : Upd y d2 v1 v2)
    (h : ∀ s', Ok C ⟨σ.own, v2⟩ s' → Fram C σ s ⟨σ.own, v2⟩ s' → Q () s') :
    wpAny W.M C.A (storeName C.env x u1) (fun _ s₁ => wpAny W.M C.A (storeName C.env y u2) Q Nev s₁) Nev s :=
  store_ wf hx ok h1 a1 fun s₁ ok1 sp1 fr1 => store_ (σ := ⟨σ.own, v1⟩) wf hy ok1 (h2.spare sp1) a2 fun s₂ ok2 _ fr2 => h s₂ ok2 (fr1.trans ok1 fr2)

theorem unpack2_ {A : Around} {s : Shared} {t : Addr} {u1 u2 : Value} {x y : Str} {Q : List Value → Shared → Prop} (hh : A.handled = none) (ht : s.heap.IsTuple t #[u1, u2])
    (h : ∀ h', Heap.ExtBut s.heap.objs.size s.heap h' → Q [u1, u2] { s with heap := h' }) : wpAny W.M A (unpackItems (.ref t) [x, y].length none) Q Nev s :=
  wpAny_unpackItems_tuple (items := #[u1, u2]) hh ht h
theorem ord2 {env : Env} {x y : Str} {u1 u2 : Value} : assignInOrder ([x, y].reverse.map fun n => bindName env n) [u1, u2].reverse = (do holding [u1] (bindName env y u2); do holding [] (bindName env x u1); pure ()) := rfl

theorem S1.unp2s {x y : Str} {elts : List Expr} {tpos : Pos} {value : Expr} {d1 d2 : PyData} {v1 v2 : List (Str × Bd)} {K : Res → Prop} (wf : Wf W C) (hv : EV W C σ value (T [d1, d2]))
    (hx : C.env.kindOf x = some .local) (hy : C.env.kindOf y = some .local) (a1 : Upd y (.d d2) σ.vars v1) (a2 : Upd x (.d d1) v1 v2) (h : K (.next ⟨σ.own, v2⟩))
    (hs : swapsWithSole [.Tuple elts k tpos] value pos.line C.env = pure false := by rfl)
    (hw : swappedStores [.Tuple elts k tpos] value C.env = pure (some [x, y]) := by rfl) :
    S1 W C σ (.Assign [.Tuple elts k tpos] value pos) K := fun s ok => by
  refine Assign_Tuple_swapped (wpAny_mono (hv.run s ok) (fun v s₁ x1 => ?_) fun _ _ e => e) hs hw
  obtain ⟨t, u1, u2, rfl, ht, r1, r2⟩ := pair_inv x1.2
  have ok1 := ok.ext x1.1
  refine unpack2_ wf.hh ht fun h' hx' => ?_
  have e2 := Ext.of_extBut hx'
  have ok2 := ok1.ext e2
  rw [ord2]
  refine wpAny_bind (wpAny_holding (wpAny_bindName (wpAny_mono (two_stores (d1 := .d d2) (d2 := .d d1) wf hy hx ok2 (Rd.keeps e2.keep r2) (Rd.keeps e2.keep r1) a1 a2 (Q := fun _ s' => Ok C ⟨σ.own, v2⟩ s' ∧ Fram C σ s ⟨σ.own, v2⟩ s')
    fun s' ok' fr => ⟨ok', ((Fram.ext x1.1).trans ok1 (Fram.ext e2)).trans ok2 fr⟩) (fun _ s₃ h₃ => ?_) fun _ _ e => e)))
  refine wpAny_bind (wpAny_holding (wpAny_bindName (wpAny_mono h₃ (fun _ s₄ h₄ => ?_) fun _ _ e => e)))
  exact wpAny_pure ⟨_, h, rfl, h₄.1, h₄.2⟩

theorem S1.unp2 {x y : Str} {p1 p2 : Pos} {tpos : Pos} {value : Expr} {d1 d2 : PyData} {v1 v2 : List (Str × Bd)} {K : Res → Prop} (wf : Wf W C) (hv : EV W C σ value (T [d1, d2]))
    (hx : C.env.kindOf x = some .local) (hy : C.env.kindOf y = some .local) (a1 : Upd x (.d d1) σ.vars v1) (a2 : Upd y (.d d2) v1 v2) (h : K (.next ⟨σ.own, v2⟩))
    (hs : swapsWithSole [.Tuple [.Name x p1, .Name y p2] k tpos] value pos.line C.env = pure false := by rfl)
    (hw : swappedStores [.Tuple [.Name x p1, .Name y p2] k tpos] value C.env = pure none := by rfl) :
    S1 W C σ (.Assign [.Tuple [.Name x p1, .Name y p2] k tpos] value pos) K := fun s ok => by
  refine Assign_Tuple (wpAny_mono (hv.run s ok) (fun v s₁ x1 => ?_) fun _ _ e => e) hs hw
  obtain ⟨t, u1, u2, rfl, ht, r1, r2⟩ := pair_inv x1.2
  have ok1 := ok.ext x1.1
  refine wpAny_assign_Tuple wf.hh ht rfl rfl fun h' hx' => ?_
  have e2 := Ext.of_extBut hx'
  have ok2 := ok1.ext e2
  show wpAny W.M C.A (do holding [u2] (PySem.assign (.Name x p1) C.env u1); do holding [] (PySem.assign (.Name y p2) C.env u2); pure ()) _ _ _
  refine wpAny_bind (wpAny_holding (wpAny_assign_Name (wpAny_mono (two_stores (d1 := .d d1) (d2 := .d d2) wf hx hy ok2 (Rd.keeps e2.keep r1) (Rd.keeps e2.keep r2) a1 a2 (Q := fun _ s' => Ok C ⟨σ.own, v2⟩ s' ∧ Fram C σ s ⟨σ.own, v2⟩ s')
    fun s' ok' fr => ⟨ok', ((Fram.ext x1.1).trans ok1 (Fram.ext e2)).trans ok2 fr⟩) (fun _ s₃ h₃ => ?_) fun _ _ e => e)))
  refine wpAny_bind (wpAny_holding (wpAny_assign_Name (wpAny_mono h₃ (fun _ s₄ h₄ => ?_) fun _ _ e => e)))
  exact wpAny_pure ⟨_, h, rfl, h₄.1, h₄.2⟩

/- an own list -/
def EN (W : Wd) (C : Cx) (σ : Sto) (e : Expr) (ds : List PyData) : Prop := ∀ s, Ok C σ s → wpAny W.M C.A (eval e C.env) (fun v s' => Ext s s' ∧
  ∃ a, v = .ref a ∧ s.heap.get? a = none ∧ ∃ vs as, s'.heap.PlainList a vs.toArray ∧ ReadsAll s'.heap vs ds as ∧ ∀ b ∈ as, b ∉ a :: C.av σ) Nev s

theorem Ok.own_new {vars : List (Str × Bd)} {s s' : Shared} {a : Addr} {ds : List PyData} {vs : List Value} {as : List Addr} (wf : Wf W C) (ok : Ok C ⟨none, vars⟩ s) (e : Ext s s') (ha : s.heap.get? a = none)
    (hp : s'.heap.PlainList a vs.toArray) (hr : ReadsAll s'.heap vs ds as) (hb : ∀ b ∈ as, b ∉ a :: C.av ⟨none, vars⟩) : Ok C ⟨some (a, ds), vars⟩ s' := by
  obtain ⟨⟨m, F, hv⟩, ho, hc, hg, hos, nd⟩ := ok
  have hY : ∀ b ∈ C.av ⟨some (a, ds), vars⟩, b = a ∨ b ∈ C.av ⟨none, vars⟩ := fun b hb => by
    simp only [Cx.av, Sto.X, List.nil_append, List.mem_cons, List.mem_append, List.cons_append] at hb ⊢
    rcases hb with h | h | h
    · exact .inr (.inl h)
    · exact .inl h
    · exact .inr (.inr h)
  refine ⟨⟨m, F.after e.keep, fun p hp => ?_⟩, fun l ds' q => ?_, fun p hp' => ?_, e.gens.trans hg, e.os.trans hos, nd⟩
  · obtain ⟨v, h1, h2⟩ := hv p hp
    exact ⟨v, h1, (h2.fresh ha hY).keeps e.keep⟩
  · cases q
    refine ⟨?_, ?_, vs, as, hp, hr, fun b hb' hy => ?_⟩
    · cases q : C.h₀.get? a with
      | none => rfl
      | some o => rw [F.keep _ _ q] at ha; cases ha
    · intro q; obtain ⟨o, _, _, h, _⟩ := F.ns; rw [q, h] at ha; cases ha
    · exact hb b hb' (by rcases hY b hy with h | h; exact h ▸ .head _; exact .tail _ h)
  · obtain ⟨g1, g2, g3, v, g4, g5⟩ := hc p hp'
    obtain ⟨oc, hoc, _⟩ := id g4
    refine ⟨g1, g2, ?_, v, (let ⟨o, a, b⟩ := g4; ⟨o, e.keep _ _ a, b⟩), (g5.fresh ha hY).keeps e.keep⟩
    intro hm
    rw [List.mem_singleton.mp hm, ha] at hoc
    cases hoc

theorem Fram.own_new {vars : List (Str × Bd)} {s s' : Shared} {a : Addr} {ds : List PyData} (e : Ext s s') (ha : s.heap.get? a = none) : Fram C ⟨none, vars⟩ s ⟨some (a, ds), vars⟩ s' :=
  ⟨fun b o _ _ h => e.keep b o h, fun b hb => .inr (by rw [List.mem_singleton.mp hb]; exact ha)⟩

theorem EN.list {elts : List Expr} {xs : List PyData} (wf : Wf W C) (h : EVs W C σ elts (xs.map .d)) (hsz : elts.length < 1000 := by decide) : EN W C σ (.List elts pos) xs := fun s ok =>
  wpAny_List (wpAny_mono (h.run pos s ok) (fun vs s₁ x => by
    obtain ⟨as, h1, h2⟩ := x.2.reads
    have hl := readsAll_len h1
    have hl2 := h.len
    simp only [List.length_map] at hl2
    have e3 := Ext.push s₁ { cls := .type "list", data := .seq vs.toArray }
    have hal : ∀ b ∈ as, b < s₁.heap.objs.size := fun b hb => by
      obtain ⟨o, e⟩ := readsAll_alive h1 b hb
      exact Heap.lt_size e
    have hsl : s.heap.get? s₁.heap.objs.size = none := by
      cases q : s.heap.get? s₁.heap.objs.size with
      | none => rfl
      | some o => exact absurd (Heap.lt_size (x.1.keep _ _ q)) (Nat.lt_irrefl _)
    refine ⟨by rw [sizeLine_eq]; omega, x.1.trans e3, _, rfl, hsl, vs, as, ⟨0, Heap.get?_push_size _ rfl⟩, ReadsAll.keeps e3.keep h1, fun b hb hm => ?_⟩
    rcases List.mem_cons.mp hm with rfl | hm
    · exact Nat.lt_irrefl _ (hal _ hb)
    · exact h2 b hb hm) fun _ _ e => e)

theorem mulList {A : Around} {s : Shared} {l : Addr} {items : Array Value} {q : Nat} {x : Int} {u : Tok} {Q : Value → Shared → Prop}
    (hl : s.heap.get? l = some { cls := .type "list", data := .seq items q }) (hlo : 0 ≤ x) (hhi : x < 1000000) (hsz : items.size * x.toNat ≤ 2 ^ 24)
    (h : Q (.ref s.heap.objs.size) { s with heap := s.heap.push { cls := .type "list", data := .seq (List.foldl (fun x1 x2 => x1 ++ x2) #[] (List.replicate (if items.isEmpty = true then 0 else x.toNat) items)) } }) :
    wpAny W.M A (binaryOp .Mult (.ref l) (.int x u)) Q Nev s :=
  wpAny_binaryOp_repeat_ref (T := "list") (U := "int") (by decide) ⟨_, hl, rfl⟩ (fun s' => typeIs_int s' x u) noFill_list_mul F.fills_int_mul F.slot_int_rmul repeat_list F.slot_int_index.lookup
    (call_meets F.slot_int_rmul (typeIs_int s x u) F.entry_int_rmul (F.args_int_rmul_2 _ _) (int___rmul___int_list x u l items q)
      ⟨hl, rfl, ⟨_, hl, rfl⟩, call_meets F.slot_list_mul ⟨_, hl, rfl⟩ F.entry_list_mul (F.args_list_mul_2 _ _)
        (AutoListH.list___mul___list_int_3 l items q x u (by simp [Builtin.List.listFitsIndex]; omega) (by omega) (by simp [Builtin.List.listTooLong, sizeLine]; omega)) ⟨hl, h⟩⟩)

theorem foldl_replicate (v : Value) (n : Nat) : ∀ acc : Array Value, List.foldl (fun x1 x2 => x1 ++ x2) acc (List.replicate n #[v]) = acc ++ (List.replicate n v).toArray := by
  induction n with
  | zero => intro acc; simp
  | succ n ih => intro acc; rw [List.replicate_succ, List.foldl_cons, ih]; apply Array.ext'; simp [List.replicate_succ]

theorem readsAll_zeros (h : Heap) (t : Tok) : ∀ n : Nat, ReadsAll h (List.replicate n (.int 0 t)) (List.replicate n (.int 0)) []
  | 0 => .nil
  | n + 1 => by
    have := ReadsAll.cons (Reads.int (h := h) 0 t) (readsAll_zeros h t n)
    simpa [List.replicate_succ] using this

theorem EN.zeros {p1 p2 : Pos} {k0 : Nat} {r : Expr} {n : Nat} (wf : Wf W C) (h2 : EV W C σ r (I (n : Int))) (hn : n < 1000000)
    (he : starEach [.Constant (.int 0) k0 p1] C.env = (false, eval (.Constant (.int 0) k0 p1) C.env) :: starEach [] C.env := by rfl) : EN W C σ (.BinOp (.List [.Constant (.int 0) k0 p1] p2) .Mult r pos) (List.replicate n (.int 0)) := fun s ok => by
  refine wpAny_BinOp (wpAny_List (wpAny_items_cons (wpAny_Constant_int (wpAny_items_nil ⟨by show 1 ≤ sizeLine; decide, ?_⟩)) he))
  have e1 : Ext s { s with heap := s.heap.push { cls := .type "list", data := .seq [Value.int 0 s.toks].toArray }, toks := s.toks + 1 } := Ext.heap fun _ _ e => Heap.get?_push_of_some _ e
  refine wpAny_mono (h2.run _ (ok.ext e1)) (fun b s₂ x2 => ?_) fun _ _ e => e
  obtain ⟨u, rfl⟩ := x2.2.int_inv
  have hl : s₂.heap.get? s.heap.objs.size = some { cls := .type "list", data := .seq #[Value.int 0 s.toks] } := x2.1.keep _ _ (Heap.get?_push_size _ rfl)
  refine mulList hl (by omega) (by omega) (by show 1 * _ ≤ _; omega) ?_
  have hrep : List.foldl (fun x1 x2 => x1 ++ x2) #[] (List.replicate (if (#[Value.int 0 s.toks] : Array Value).isEmpty = true then 0 else (n : Int).toNat) #[Value.int 0 s.toks]) = (List.replicate n (Value.int 0 s.toks)).toArray := by
    show List.foldl _ _ (List.replicate ((n : Int).toNat) _) = _
    rw [foldl_replicate]; simp
  rw [hrep]
  have e3 := Ext.push s₂ { cls := .type "list", data := .seq (List.replicate n (Value.int 0 s.toks)).toArray }
  refine ⟨(e1.trans x2.1).trans e3, _, rfl, ?_, _, [], ⟨0, Heap.get?_push_size _ rfl⟩, readsAll_zeros _ _ n, fun b hb => nomatch hb⟩
  cases q : s.heap.get? s₂.heap.objs.size with
  | none => rfl
  | some o => exact absurd (Heap.lt_size ((e1.trans x2.1).keep _ _ q)) (Nat.lt_irrefl _)
end
end Mine
end
section
set_option Elab.async false
set_option maxRecDepth 100000
set_option linter.unusedVariables false
set_option linter.unusedSimpArgs false
open PySem PySem.Calls PySem.Spec PyProof.Rows

namespace Mine

section
variable {W : Wd} {C : Cx} {pos : Pos} {k : Nat}

theorem S1.own1 {vars : List (Str × Bd)} {x : Str} {p : Pos} {value : Expr} {ds : List PyData} {K : Res → Prop} (wf : Wf W C) (hk : C.env.kindOf x = some .local) (hv : EN W C ⟨none, vars⟩ value ds)
    (h : ∀ a, ∃ vs', Upd x (.v (.ref a)) vars vs' ∧ K (.next ⟨some (a, ds), vs'⟩))
    (hs : swapsWith value (some (.Name x p)) pos.line C.env = pure false := by rfl) : S1 W C ⟨none, vars⟩ (.Assign [.Name x p] value pos) K := fun s ok =>
  wpAny_Assign_Name (wpAny_mono (hv s ok) (fun v s₁ x1 => by
    obtain ⟨e1, a, rfl, ha, vs, as, hp, hr, hb⟩ := x1
    obtain ⟨vs', hu, hK⟩ := h a
    have ok1 := ok.own_new wf e1 ha hp hr hb
    exact store_ (σ := ⟨some (a, ds), vars⟩) wf hk ok1 (d := .v (.ref a)) rfl hu fun s' ok' _ fr => ⟨_, hK, rfl, ok', (Fram.own_new e1 ha).trans ok1 fr⟩) fun _ _ e => e) hs

theorem S1.own2 {vars : List (Str × Bd)} {x y : Str} {elts : List Expr} {tpos vpos : Pos} {k' : Nat} {e1 e2 : Expr} {ds : List PyData} {d2 : PyData} {K : Res → Prop} (wf : Wf W C)
    (h1 : EN W C ⟨none, vars⟩ e1 ds) (h2 : ∀ a, EV W C ⟨some (a, ds), vars⟩ e2 (.d d2)) (hx : C.env.kindOf x = some .local) (hy : C.env.kindOf y = some .local)
    (h : ∀ a, ∃ v1 v2, Upd y (.d d2) vars v1 ∧ Upd x (.v (.ref a)) v1 v2 ∧ K (.next ⟨some (a, ds), v2⟩))
    (he1 : starEach [e1, e2] C.env = (false, eval e1 C.env) :: starEach [e2] C.env := by rfl)
    (he2 : starEach [e2] C.env = (false, eval e2 C.env) :: starEach [] C.env := by rfl)
    (hs : swapsWithSole [.Tuple elts k tpos] (.Tuple [e1, e2] k' vpos) pos.line C.env = pure false := by rfl)
    (hw : swappedStores [.Tuple elts k tpos] (.Tuple [e1, e2] k' vpos) C.env = pure (some [x, y]) := by rfl) :
    S1 W C ⟨none, vars⟩ (.Assign [.Tuple elts k tpos] (.Tuple [e1, e2] k' vpos) pos) K := fun s ok => by
  refine Assign_Tuple_swapped (wpAny_Tuple (wpAny_items_cons (wpAny_mono (h1 s ok) (fun v s₁ x1 => ?_) fun _ _ e => e) he1)) hs hw
  obtain ⟨e1, a, rfl, ha, vs, as, hp, hr, hb⟩ := x1
  have ok1 := ok.own_new wf e1 ha hp hr hb
  refine wpAny_items_cons (wpAny_mono ((h2 a).run s₁ ok1) (fun u s₂ x2 => wpAny_items_nil ⟨by show 2 ≤ sizeLine; decide, ?_⟩) fun _ _ e => e) he2
  have e3 := Ext.push s₂ { cls := .type "tuple", data := .seq #[.ref a, u] }
  refine unpack2_ wf.hh ⟨_, Heap.get?_push_size _ rfl, rfl, _, rfl⟩ fun h' hx' => ?_
  have e4 := Ext.of_extBut hx'
  have e24 := (x2.1.trans e3).trans e4
  have ok4 := ok1.ext e24
  obtain ⟨v1, v2, a1, a2, hK⟩ := h a
  rw [ord2]
  refine wpAny_bind (wpAny_holding (wpAny_bindName (wpAny_mono (two_stores (σ := ⟨some (a, ds), vars⟩) (d1 := .d d2) (d2 := .v (.ref a)) wf hy hx ok4 (x2.2.keeps (e3.trans e4).keep) rfl a1 a2 (Q := fun _ s' => Ok C ⟨some (a, ds), v2⟩ s' ∧ Fram C ⟨none, vars⟩ s ⟨some (a, ds), v2⟩ s')
    fun s' ok' fr => ⟨ok', ((Fram.own_new e1 ha).trans ok1 (Fram.ext e24)).trans ok4 fr⟩) (fun _ s₃ h₃ => ?_) fun _ _ e => e)))
  refine wpAny_bind (wpAny_holding (wpAny_bindName (wpAny_mono h₃ (fun _ s₄ h₄ => ?_) fun _ _ e => e)))
  exact wpAny_pure ⟨_, hK, rfl, h₄.1, h₄.2⟩

theorem unpack3_ {A : Around} {s : Shared} {t : Addr} {u1 u2 u3 : Value} {x y z : Str} {Q : List Value → Shared → Prop} (hh : A.handled = none) (ht : s.heap.IsTuple t #[u1, u2, u3])
    (h : ∀ h', Heap.ExtBut s.heap.objs.size s.heap h' → Q [u1, u2, u3] { s with heap := h' }) : wpAny W.M A (unpackItems (.ref t) [x, y, z].length none) Q Nev s :=
  wpAny_unpackItems_tuple (items := #[u1, u2, u3]) hh ht h
theorem ord3 {env : Env} {x y z : Str} {u1 u2 u3 : Value} : assignInOrder ([x, y, z].reverse.map fun n => bindName env n) [u1, u2, u3].reverse =
    (do holding [u2, u1] (bindName env z u3); do holding [u1] (bindName env y u2); do holding [] (bindName env x u1); pure ()) := rfl

theorem S1.own3 {vars : List (Str × Bd)} {x y z : Str} {elts : List Expr} {tpos vpos : Pos} {k' : Nat} {e1 e2 e3 : Expr} {ds : List PyData} {d2 d3 : PyData} {K : Res → Prop} (wf : Wf W C)
    (h1 : EN W C ⟨none, vars⟩ e1 ds) (h2 : ∀ a, EV W C ⟨some (a, ds), vars⟩ e2 (.d d2)) (h3 : ∀ a, EV W C ⟨some (a, ds), vars⟩ e3 (.d d3))
    (hx : C.env.kindOf x = some .local) (hy : C.env.kindOf y = some .local) (hz : C.env.kindOf z = some .local)
    (h : ∀ a, ∃ v1 v2 v3, Upd z (.d d3) vars v1 ∧ Upd y (.d d2) v1 v2 ∧ Upd x (.v (.ref a)) v2 v3 ∧ K (.next ⟨some (a, ds), v3⟩))
    (he1 : starEach [e1, e2, e3] C.env = (false, eval e1 C.env) :: starEach [e2, e3] C.env := by rfl)
    (he2 : starEach [e2, e3] C.env = (false, eval e2 C.env) :: starEach [e3] C.env := by rfl)
    (he3 : starEach [e3] C.env = (false, eval e3 C.env) :: starEach [] C.env := by rfl)
    (hs : swapsWithSole [.Tuple elts k tpos] (.Tuple [e1, e2, e3] k' vpos) pos.line C.env = pure false := by rfl)
    (hw : swappedStores [.Tuple elts k tpos] (.Tuple [e1, e2, e3] k' vpos) C.env = pure (some [x, y, z]) := by rfl) :
    S1 W C ⟨none, vars⟩ (.Assign [.Tuple elts k tpos] (.Tuple [e1, e2, e3] k' vpos) pos) K := fun s ok => by
  refine Assign_Tuple_swapped (wpAny_Tuple (wpAny_items_cons (wpAny_mono (h1 s ok) (fun v s₁ x1 => ?_) fun _ _ e => e) he1)) hs hw
  obtain ⟨e1, a, rfl, ha, vs, as, hp, hr, hb⟩ := x1
  have ok1 := ok.own_new wf e1 ha hp hr hb
  refine wpAny_items_cons (wpAny_mono ((h2 a).run s₁ ok1) (fun u s₂ x2 => wpAny_items_cons (wpAny_mono ((h3 a).run s₂ (ok1.ext x2.1)) (fun u' s₃ x3 => wpAny_items_nil ⟨by show 3 ≤ sizeLine; decide, ?_⟩) fun _ _ e => e) he3) fun _ _ e => e) he2
  have e3 := Ext.push s₃ { cls := .type "tuple", data := .seq #[.ref a, u, u'] }
  refine unpack3_ wf.hh ⟨_, Heap.get?_push_size _ rfl, rfl, _, rfl⟩ fun h' hx' => ?_
  have e4 := Ext.of_extBut hx'
  have e24 := ((x2.1.trans x3.1).trans e3).trans e4
  have ok4 := ok1.ext e24
  obtain ⟨v1, v2, v3, a1, a2, a3, hK⟩ := h a
  rw [ord3]
  have hu : Bd.holds h' (C.av ⟨some (a, ds), vars⟩) u (.d d2) := x2.2.keeps ((x3.1.trans e3).trans e4).keep
  have hu' : Bd.holds h' (C.av ⟨some (a, ds), vars⟩) u' (.d d3) := x3.2.keeps (e3.trans e4).keep
  refine wpAny_bind (wpAny_holding (wpAny_bindName (store_ (σ := ⟨some (a, ds), vars⟩) wf hz ok4 hu' a1 fun s5 ok5 sp5 fr5 => ?_)))
  refine wpAny_bind (wpAny_holding (wpAny_bindName (store_ (σ := ⟨some (a, ds), v1⟩) wf hy ok5 (hu.spare sp5) a2 fun s6 ok6 sp6 fr6 => ?_)))
  refine wpAny_bind (wpAny_holding (wpAny_bindName (store_ (σ := ⟨some (a, ds), v2⟩) wf hx ok6 (d := .v (.ref a)) rfl a3 fun s7 ok7 sp7 fr7 => ?_)))
  exact wpAny_pure ⟨_, hK, rfl, ok7, ((((Fram.own_new e1 ha).trans ok1 (Fram.ext e24)).trans ok4 fr5).trans ok5 fr6).trans ok6 fr7⟩

/- the own list changed -/
theorem Ok.own_set {vars : List (Str × Bd)} {a : Addr} {ds ds' : List PyData} {s : Shared} {h' : Heap} {vs' : List Value} {as' : List Addr} (ok : Ok C ⟨some (a, ds), vars⟩ s) (hp : h'.PlainList a vs'.toArray) (hs : Heap.SameBut a s.heap h')
    (hr : ReadsAll h' vs' ds' as') (hb : ∀ b ∈ as', b ∉ C.av ⟨some (a, ds), vars⟩) : Ok C ⟨some (a, ds'), vars⟩ { s with heap := h' } ∧ Fram C ⟨some (a, ds), vars⟩ s ⟨some (a, ds'), vars⟩ { s with heap := h' } := by
  obtain ⟨⟨m, F, hm⟩, ho, hc, hg, hos, nd⟩ := ok
  obtain ⟨g1, g2, ws, as, ⟨n, g3⟩, g4, g5⟩ := ho a ds rfl
  have sp : Spares (C.av ⟨some (a, ds), vars⟩) s.heap h' := spares_of_sameBut hs (by simp [Cx.av, Sto.X]) fun o e => .inl (by rw [g3] at e; cases e; simp)
  have F' : Fr C.h₀ C.env.locals h' m := by
    obtain ⟨o, es, ep, e1, e2⟩ := F.ns
    exact ⟨⟨o, es, ep, (hs.2 _ (Ne.symm g2)).trans e1, e2⟩, fun b o e => (hs.2 b (fun q => by rw [q, g1] at e; cases e)).trans (F.keep b o e), F.above⟩
  refine ⟨⟨⟨m, F', fun p hp' => ?_⟩, fun l d e => ?_, fun p hp' => ?_, hg, hos, nd⟩, fun b o _ hx e => (hs.2 b (fun q => hx (by simp [Sto.X, q]))).trans e, fun b hb => .inl hb⟩
  · obtain ⟨v, e1, e2⟩ := hm p hp'
    exact ⟨v, e1, e2.spare sp⟩
  · cases e
    exact ⟨g1, g2, vs', as', hp, hr, hb⟩
  · obtain ⟨k1, k2, k3, v, k4, k5⟩ := hc p hp'
    exact ⟨k1, k2, k3, v, k4.sameBut hs (fun q => k3 (by simp [Sto.X, q])), k5.spare sp⟩

theorem readsAll_snoc {h : Heap} : ∀ {vs : List Value} {ds : List PyData} {as bs : List Addr} {v : Value} {d : PyData}, ReadsAll h vs ds as → Reads h v d bs → ReadsAll h (vs ++ [v]) (ds ++ [d]) (as ++ bs)
  | _, _, _, bs, _, _, .nil, r => by simpa using ReadsAll.cons r .nil
  | _, _, _, _, _, _, .cons h1 h2, r => by
    have := ReadsAll.cons h1 (readsAll_snoc h2 r)
    simpa [List.append_assoc] using this

theorem S1.append {vars : List (Str × Bd)} {x : Str} {p apos cpos : Pos} {e : Expr} {a : Addr} {ds : List PyData} {d : PyData} {K : Res → Prop} (wf : Wf W C) (hk : C.env.kindOf x = some .local) (hm : (x, .v (.ref a)) ∈ vars)
    (he : EV W C ⟨some (a, ds), vars⟩ e (.d d)) (hsz : ds.length ≤ 1000000) (h : K (.next ⟨some (a, ds ++ [d]), vars⟩))
    (hbase : attributeBase (.Name x p) "append" C.env (eval (.Name x p) C.env) = eval (.Name x p) C.env := by rfl)
    (hfew : ((backTo cpos (starEach [e] C.env)).all (fun x => !x.1) && (backToKw cpos (keywordEach [] C.env)).all (fun x => x.1.isSome)
      && decide (([e] : List Expr).length + ([] : List Keyword).length + (if ([] : List Keyword).isEmpty then 0 else 1) < 30)) = true := by rfl)
    (hline : (apos.endLine == cpos.line) = true := by rfl)
    (htrees : backTo cpos (starEach [e] C.env) = [(false, eval e C.env)] := by rfl)
    (hi : interactive C.env = false := by rfl)
    (hs : swapsWith (.Call (.Attribute (.Name x p) "append" apos) [e] [] cpos) none pos.line C.env = pure false := by rfl)
    (hd : (x == ("__debug__" : Str)) = false := by decide) :
    S1 W C ⟨some (a, ds), vars⟩ (.Expr (.Call (.Attribute (.Name x p) "append" apos) [e] [] cpos) pos) K := fun s ok => by
  refine wpAny_Expr (wpAny_Call_append hbase hfew hline htrees (wpAny_mono ((EV.loc wf hk hm hd).run s ok) (fun ov s₁ x1 => ?_) fun _ _ e => e)) hi hs
  have e1 : ov = .ref a := x1.2
  subst e1
  have ok1 := ok.ext x1.1
  obtain ⟨_, _, vs, as, ⟨n, hp⟩, _, _⟩ := ok1.own a ds rfl
  refine ⟨a, vs.toArray, rfl, ⟨_, n, hp, rfl, rfl, rfl⟩, wpAny_mono (he.run s₁ ok1) (fun y s₂ x2 => ?_) fun _ _ e => e⟩
  have ok2 := ok1.ext x2.1
  obtain ⟨g1, g2, ws, bs, g3, g4, g5⟩ := ok2.own a ds rfl
  have hlen := readsAll_len g4
  refine wpAny_list_append_plain g3 (fun h' hp' hs' => ?_) (by rw [List.size_toArray, hlen, sizeLine_eq]; omega)
  obtain ⟨cs, r1, r2⟩ := x2.2
  have sp : Spares (C.av ⟨some (a, ds), vars⟩) s₂.heap h' := spares_of_sameBut hs' (by simp [Cx.av, Sto.X]) fun o e => .inl (by obtain ⟨n, g3⟩ := g3; rw [g3] at e; cases e; simp)
  have e5 : ws.toArray.push y = (ws ++ [y]).toArray := by simp
  rw [e5] at hp'
  obtain ⟨ok3, fr3⟩ := ok2.own_set hp' hs' (readsAll_snoc (readsAll_spare sp g4 g5) (reads_spare sp r1 r2)) (fun b hb => (List.mem_append.mp hb).elim (g5 b) (r2 b))
  exact ⟨_, h, rfl, ok3, (Fram.ext (x1.1.trans x2.1)).trans ok2 fr3⟩

theorem readsAll_set {h : Heap} : ∀ {vs : List Value} {ds : List PyData} {as bs : List Addr} {v : Value} {d : PyData}, ReadsAll h vs ds as → Reads h v d bs → ∀ i : Nat, ∃ cs, ReadsAll h (vs.set i v) (ds.set i d) cs ∧ ∀ c ∈ cs, c ∈ as ∨ c ∈ bs
  | _, _, _, _, _, _, .nil, r, i => ⟨[], by simpa using ReadsAll.nil, fun _ m => nomatch m⟩
  | _, _, _, bs, _, _, .cons (bs := as2) h1 h2, r, 0 => ⟨bs ++ as2, by simpa using ReadsAll.cons r h2, fun c hc => (List.mem_append.mp hc).elim .inr fun h => .inl (List.mem_append_right _ h)⟩
  | _, _, _, _, _, _, .cons (as := as1) h1 h2, r, i + 1 => by
    obtain ⟨cs, h3, h4⟩ := readsAll_set h2 r i
    exact ⟨as1 ++ cs, by simpa using ReadsAll.cons h1 h3, fun c hc => by
      rcases List.mem_append.mp hc with h | h
      · exact .inl (List.mem_append_left _ h)
      · rcases h4 c h with h | h
        · exact .inl (List.mem_append_right _ h)
        · exact .inr h⟩

theorem setPlain {A : Around} {s : Shared} {l : Addr} {items : Array Value} {k : Int} {t : Tok} {v : Value} {Q : Unit → Shared → Prop} (hl : s.heap.PlainList l items) (h0 : 0 ≤ k) (hfit : k < 2 ^ 63) (hn : k < items.size)
    (hQ : ∀ h', h'.PlainList l (items.setIfInBounds k.toNat v) → Heap.SameBut l s.heap h' → Q () { s with heap := h' }) :
    wpAny W.M A (PySem.setItem (.ref l) (.int k t) v) Q Nev s := by
  have hL := hl.isList
  obtain ⟨ne, ho⟩ := id hl
  unfold PySem.setItem
  try with_reducible refine wpAny_holding ?_
  first | refine wpAny_bind (wpAny_pure ?_) | skip
  refine wpAny_bind (wpAny_sequenceKey hL.typeIs (by decide) ?_)
  refine wpAny_bind (wpAny_callSpecial?_slot (name := Str.ofString "__setitem__") hL.typeIs slot_list_setitem
    (wpAny_call_entry slot_list_setitem hL.typeIs entry_list_setitem ?_ (args_list_setitem _ _ _)))
  show wpAny _ _ (Builtin.List.listSubscript? (.int k t) >>= _) _ _ s
  refine wpAny_bind (wpAny_listSubscript_int (fitsIndex_of h0 hfit) ?_)
  clear hfit
  obtain ⟨j, rfl⟩ := Int.eq_ofNat_of_zero_le h0
  have hj : j < items.size := by omega
  have hx' : items[j]? = some items[j] := Array.getElem?_eq_getElem hj
  show wpAny _ _ ((seqItemAt l j >>= fun r => pure (r.map (j, ·))) >>= _) _ _ s
  refine wpAny_bind (wpAny_bind (wpAny_seqItemAt ho rfl (wpAny_pure ?_)))
  rw [hx']
  show wpAny _ _ (setSeqItemAt l j v >>= _) _ _ s
  have hfin : (s.heap.update l (Obj.mapSeq (·.setIfInBounds j v))).PlainList l (items.setIfInBounds j v) :=
    ⟨ne, by rw [Heap.get?_update_self _ ho (by simp [Obj.mapSeq, Obj.isFreed])]; simp [Obj.mapSeq]⟩
  refine wpAny_bind (wpAny_setSeqItemAt ho rfl ?_)
  first
    | exact wpAny_bind (wpAny_pure (wpAny_pure ⟨.none, rfl, wpAny_pure (hQ _ hfin (Heap.SameBut.update ..))⟩))
    | exact wpAny_pure ⟨.none, rfl, wpAny_pure (hQ _ hfin (Heap.SameBut.update ..))⟩

theorem S1.setItem {vars : List (Str × Bd)} {x : Str} {p p2 : Pos} {e value : Expr} {a : Addr} {ds : List PyData} {d : PyData} {j : Nat} {K : Res → Prop} (wf : Wf W C) (hk : C.env.kindOf x = some .local) (hm : (x, .v (.ref a)) ∈ vars)
    (hv : EV W C ⟨some (a, ds), vars⟩ value (.d d)) (he : EV W C ⟨some (a, ds), vars⟩ e (I (j : Int))) (hj : j < ds.length ∧ j < 1000000) (h : K (.next ⟨some (a, ds.set j d), vars⟩))
    (hs : swapsWith value (some (.Subscript (.Name x p) e p2)) pos.line C.env = pure false := by rfl)
    (hd : (x == ("__debug__" : Str)) = false := by decide) :
    S1 W C ⟨some (a, ds), vars⟩ (.Assign [.Subscript (.Name x p) e p2] value pos) K := fun s ok => by
  refine wpAny_Assign_Subscript (wpAny_mono (hv.run s ok) (fun v s₁ x1 => wpAny_mono ((EV.loc wf hk hm hd).run s₁ (ok.ext x1.1)) (fun ov s₂ x2 => wpAny_mono (he.run s₂ ((ok.ext x1.1).ext x2.1)) (fun iv s₃ x3 => ?_) fun _ _ e => e) fun _ _ e => e) fun _ _ e => e) hs
  have e1 : ov = .ref a := x2.2
  subst e1
  obtain ⟨t, rfl⟩ := x3.2.int_inv
  have e13 := (x1.1.trans x2.1).trans x3.1
  have ok3 := ok.ext e13
  obtain ⟨g1, g2, ws, bs, g3, g4, g5⟩ := ok3.own a ds rfl
  have hlen := readsAll_len g4
  refine setPlain g3 (by omega) (by omega) (by rw [List.size_toArray, hlen]; omega) fun h' hp' hs' => ?_
  rw [Int.toNat_natCast] at hp'
  obtain ⟨cs, r1, r2⟩ := x1.2.keeps (x2.1.trans x3.1).keep
  have sp : Spares (C.av ⟨some (a, ds), vars⟩) s₃.heap h' := spares_of_sameBut hs' (by simp [Cx.av, Sto.X]) fun o e => .inl (by obtain ⟨n, g3⟩ := g3; rw [g3] at e; cases e; simp)
  have e5 : ws.toArray.setIfInBounds j v = (ws.set j v).toArray := by simp
  rw [e5] at hp'
  obtain ⟨ds2, q1, q2⟩ := readsAll_set (readsAll_spare sp g4 g5) (reads_spare sp r1 r2) j
  obtain ⟨ok4, fr4⟩ := ok3.own_set hp' hs' q1 (fun b hb => (q2 b hb).elim (g5 b) (r2 b))
  exact ⟨_, h, rfl, ok4, (Fram.ext e13).trans ok3 fr4⟩
end
end Mine
end
section
set_option Elab.async false
set_option maxRecDepth 100000
set_option linter.unusedVariables false
set_option linter.unusedSimpArgs false
open PySem PySem.Calls PySem.Spec PyProof.Rows

namespace Mine

section
variable {W : Wd} {C : Cx} {σ : Sto} {pos : Pos} {k : Nat}

theorem S1.enum {α : Type} (S : α → Sto) (J : Nat → α → Prop) (a₀ : α) {ds : List PyData} {xi xv : Str} {pi pv pt cpos : Pos} {f e : Expr} {body : List Stmt} {K : Res → Prop} (wf : Wf W C)
    (hki : C.env.kindOf xi = some .local) (hkv : C.env.kindOf xv = some .local) (hf : EV W C σ f (.v (.type "enumerate"))) (he : EV W C σ e (L ds)) (hX : ∀ a, (S a).X = σ.X) (hs : Sub (S a₀) σ) (h0 : J 0 a₀)
    (step : ∀ i a, i < ds.length → J i a → ∃ v1 v2, Upd xi (I (i : Int)) (S a).vars v1 ∧ Upd xv (.d (ds.getD i .none)) v1 v2 ∧ SX W C ⟨(S a).own, v2⟩ body (fun r => match r with | .next σ' => ∃ a', J (i + 1) a' ∧ Sub (S a') σ' | .brk σ' => K (.next σ') | .ret d => K (.ret d)))
    (done : ∀ a, J ds.length a → K (.next (S a)))
    (hfs : ∀ x, foldedSetIterable (.Call f [e] [] cpos) C.env x = pure x := by intro _; rfl)
    (he1 : starEach [e] C.env = (false, eval e C.env) :: starEach [] C.env := by rfl)
    (hev : eval (.Call f [e] [] cpos) C.env = (do callWith cpos (← eval f C.env) [] (backTo cpos (starEach [e] C.env)) (backToKw cpos (keywordEach [] C.env))) := by rfl) :
    S1 W C σ (.For (.Tuple [.Name xi pi, .Name xv pv] k pt) (.Call f [e] [] cpos) body [] pos) K := fun s ok => by
  refine wpAny_For (callType1 ok hf he (fun sm v e1 ok hv => ?_) he1 hev) hfs
  have pre : ∀ r f s', ResOk C σ sm r f s' → ResOk C σ s r f s' := fun r f s' h => h.pre (Fram.ext e1) ok
  obtain ⟨p, l, bs, rfl, hl, hr, hp, hb⟩ := hv.list_inv
  have hlen := readsAll_len hr
  have hpl : p < sm.heap.objs.size := by obtain ⟨o, ho, _⟩ := hl; exact Heap.lt_size ho
  refine call_enumerate_list hl fun h₂ hen hit hsz hk₂ => ?_
  refine wpAny_pyIter_enum hen ?_
  have e2 : Ext sm { sm with heap := h₂ } := ⟨hk₂, rfl, rfl⟩
  have ok2 := ok.ext e2
  have hn1 : sm.heap.get? sm.heap.objs.size = none := Heap.get?_none_of_le (Nat.le_refl _)
  have hn2 : sm.heap.get? (sm.heap.objs.size + 1) = none := Heap.get?_none_of_le (Nat.le_succ _)
  have Wk := WalksT.enumerate (prog := W.prog) (w := W.w) (A := C.A) wf.hh (sm.heap.objs.size + 1) sm.heap.objs.size p (Nat.succ_ne_self _) (Nat.ne_of_lt (Nat.lt_succ_of_lt hpl)) (Nat.ne_of_lt hpl) l.toArray
  have hsz' : l.toArray.size = ds.length := by simp [hlen]
  rw [hsz'] at Wk
  have hst0 : (∃ old, IsEnum h₂ (sm.heap.objs.size + 1) sm.heap.objs.size (0 : Nat) old) ∧ h₂.IsListIter sm.heap.objs.size p 0 ∧ h₂.IsList p l.toArray := ⟨⟨_, hen⟩, hit, hl.at fun o e => hk₂ _ _ e⟩
  generalize hWr : ([sm.heap.objs.size + 1, sm.heap.objs.size] : List Addr) = wr at Wk
  generalize hFp : ([sm.heap.objs.size + 1, sm.heap.objs.size, p] : List Addr) = fp at Wk
  have hwr : ∀ b ∈ wr, sm.heap.get? b = none := by
    rw [← hWr]; intro b hb'
    rcases List.mem_cons.mp hb' with rfl | hb'
    · exact hn2
    · rw [List.mem_singleton.mp hb']; exact hn1
  have hav := ok.alive wf
  have hfp : ∀ b ∈ fp, b ≠ C.env.locals ∧ b ∉ σ.X := by
    rw [← hFp]; intro b hb'
    have key : sm.heap.get? b = none → b ≠ C.env.locals ∧ b ∉ σ.X := fun hn => by
      refine ⟨fun q => ?_, fun q => ?_⟩
      · obtain ⟨o, ho⟩ := hav b (by simp [Cx.av, q]); rw [hn] at ho; cases ho
      · obtain ⟨o, ho⟩ := hav b (by simp [Cx.av, q]); rw [hn] at ho; cases ho
    rcases List.mem_cons.mp hb' with rfl | hb'
    · exact key hn2
    · rcases List.mem_cons.mp hb' with rfl | hb'
      · exact key hn1
      · rw [List.mem_singleton.mp hb']; exact ⟨fun q => hp (by simp [Cx.av, q]), fun q => hp (by simp [Cx.av, q])⟩
  have hwr0 : ∀ b ∈ wr, C.h₀.get? b = none := fun b hb => by
    cases e : C.h₀.get? b with
    | none => rfl
    | some o =>
      obtain ⟨m, F, _⟩ := ok.m
      rw [← hwr b hb]; exact (F.keep b o e).symm
  refine codeAny_forLoop_any (fun q s' => ∃ (i : Nat) (a : α), q = ds.length + 1 - i ∧ i ≤ ds.length ∧ J i a ∧ Ok C (S a) s' ∧
      ((∃ old, IsEnum s'.heap (sm.heap.objs.size + 1) sm.heap.objs.size i old) ∧ s'.heap.IsListIter sm.heap.objs.size p i ∧ s'.heap.IsList p l.toArray) ∧ Fram C σ sm (S a) s') ?_ (ds.length + 1)
    ⟨0, a₀, rfl, Nat.zero_le _, h0, ok2.sub hs, hst0, (Fram.ext e2).trans ok2 (Fram.sub hs)⟩
  rintro q s' ⟨i, a, rfl, hi, hJ, ok', hst', fr⟩
  have hfld : ∀ b ∈ wr, ∃ o fs, s'.heap.get? b = some o ∧ o.data = .fields fs := by
    obtain ⟨⟨old, he'⟩, ⟨o', h1, h2, h3⟩, _⟩ := hst'
    rw [← hWr]; intro b hb'
    rcases List.mem_cons.mp hb' with rfl | hb'
    · exact ⟨_, _, he', rfl⟩
    · rw [List.mem_singleton.mp hb']; exact ⟨_, _, h1, h3⟩
  by_cases hlt : i < ds.length
  · refine Wk.item i s' _ _ hlt hst' fun Tt vals h₁ tk₁ hPt _ hT hMid hk₁ => ?_
    obtain ⟨t, x, hx, rfl⟩ := hPt
    have ok1 : Ok C (S a) { s' with heap := h₁, toks := tk₁ } := ok'.wr hwr0 hfld hk₁
    have fr1 : Fram C σ sm (S a) { s' with heap := h₁, toks := tk₁ } := fr.wr hwr hk₁
    have hfld1 : ∀ b ∈ wr, ∃ o fs, h₁.get? b = some o ∧ o.data = .fields fs := by
      obtain ⟨⟨y, he'⟩, ⟨o', g1, g2, g3⟩, _⟩ := id hMid
      rw [← hWr]; intro b hb'
      rcases List.mem_cons.mp hb' with rfl | hb'
      · exact ⟨_, _, he', rfl⟩
      · rw [List.mem_singleton.mp hb']; exact ⟨_, _, g1, g3⟩
    refine Wk.go _ k pt i Tt _ _ _ hMid fun h₃ hst₃ hk₃ => ?_
    have ok3 : Ok C (S a) { s' with heap := h₃, toks := tk₁ } := ok1.wr (tk := tk₁) hwr0 hfld1 hk₃
    have fr3 : Fram C σ sm (S a) { s' with heap := h₃, toks := tk₁ } := fr1.wr (tk := tk₁) hwr hk₃
    have hT3 : h₃.IsTuple Tt #[.int i t, x] := hT.at fun o e => hk₃ _ o (Wk.apart i Tt h₁ hMid) e
    obtain ⟨v1, v2, a1, a2, hbody⟩ := step i a hlt hJ
    refine wpAny_assign_Tuple wf.hh hT3 rfl rfl fun h₄ hx₄ => ?_
    have e4 : Ext { s' with heap := h₃, toks := tk₁ } { s' with heap := h₄, toks := tk₁ } := Ext.of_extBut (s := { s' with heap := h₃, toks := tk₁ }) hx₄
    have ok4 := ok3.ext e4
    have fr4 := fr3.trans ok3 (Fram.ext e4)
    have hav' : C.av (S a) = C.av σ := by unfold Cx.av; rw [hX]
    have hd : ds[i]? = some (ds.getD i .none) := by simp [hlt]
    obtain ⟨u, h1, h2⟩ := readsAll_nth hr hb hd
    have hxu : x = u := by
      have hx' : l[i]? = some x := by simpa using hx
      rw [h1] at hx'; exact (Option.some.inj hx').symm
    subst hxu
    have hv1 : (Bd.d (ds.getD i .none)).holds h₄ (C.av (S a)) x := hav' ▸ fr4.holds (d := .d (ds.getD i .none)) ok h2
    show wpAny W.M C.A (do holding [x] (PySem.assign (.Name xi pi) C.env (.int i t)); do holding [] (PySem.assign (.Name xv pv) C.env x); pure ()) _ _ _
    refine wpAny_bind (wpAny_holding (wpAny_assign_Name (wpAny_mono (two_stores (d1 := I (i : Int)) (d2 := .d (ds.getD i .none)) wf hki hkv ok4 (Rd.int _ _) hv1 a1 a2 (Q := fun _ s₅ => Ok C ⟨(S a).own, v2⟩ s₅ ∧ Fram C (S a) { s' with heap := h₄, toks := tk₁ } ⟨(S a).own, v2⟩ s₅)
      fun s₅ ok5 fr5 => ⟨ok5, fr5⟩) (fun _ s₅ h₅ => ?_) fun _ _ e => e.elim)))
    refine wpAny_bind (wpAny_holding (wpAny_assign_Name (wpAny_mono h₅ (fun _ s₆ h₆ => ?_) fun _ _ e => e.elim)))
    obtain ⟨ok6, fr6⟩ := h₆
    refine wpAny_pure ?_
    have keep4 : ∀ b ∈ fp, ∀ o, h₃.get? b = some o → s₆.heap.get? b = some o := fun b hb o e => fr6.keep b o (hfp b hb).1 (by rw [hX]; exact (hfp b hb).2) (e4.keep _ _ e)
    have hst6 := Wk.frame _ _ _ hst₃ keep4
    refine wpAny_mono (hbody s₆ ok6) (fun f s₇ y => ?_) fun _ _ e => e.elim
    obtain ⟨r, hr', hok⟩ := y
    have fr06 := fr4.trans ok4 fr6
    cases r with
    | next σ' =>
      obtain ⟨rfl, ok7, fr7⟩ := hok
      obtain ⟨a', hJ', hsub⟩ := hr'
      refine ⟨ds.length + 1 - (i + 1), by omega, i + 1, a', rfl, hlt, hJ', ok7.sub hsub, ?_, (fr06.trans ok6 fr7).trans ok7 (Fram.sub hsub)⟩
      exact Wk.frame _ _ _ hst6 fun b hb o e => fr7.keep b o (hfp b hb).1 (by show b ∉ (S a).X; rw [hX]; exact (hfp b hb).2) e
    | brk σ' =>
      obtain ⟨rfl, ok7, fr7⟩ := hok
      exact ⟨.next σ', hr', pre _ _ _ ⟨rfl, ok7, fr06.trans ok6 fr7⟩⟩
    | ret d =>
      obtain ⟨v, rfl, hok⟩ := hok
      exact ⟨_, hr', v, rfl, hok⟩
  · have hin : i = ds.length := by omega
    subst hin
    refine Wk.done s' _ _ hst' fun h₁ tk₁ hk₁ => wpAny_execs_nil ?_
    exact ⟨.next (S a), done a hJ, pre _ _ _ ⟨rfl, ok'.wr hwr0 hfld hk₁, fr.wr hwr hk₁⟩⟩
end

/- a def's contract -/
theorem Wd.fn_at {W : Wd} {h : Heap} {d : DefItem} (G : W.At h) (hd : d ∈ W.defs) (hnd : d.params.defaults = []) :
    W.mg d.name = some (.ref (W.fa d.name)) ∧ ∃ c' o pm doc, h.get? (W.fa d.name) = some o ∧ o.data = .func (docDef d.name d.params d.body d.scope pm (.ref c') doc) ∧ h.CodeRec (.ref c') d.name := by
  obtain ⟨a, c', o, pm, doc, _, _, h1, h2, h3, h4⟩ := (G.made d hd).plain hnd
  have e : W.fa d.name = a := by unfold Wd.fa; rw [h1]
  rw [e]
  exact ⟨h1, c', o, pm, doc, h2, h3, h4⟩

def Cx.of (d : DefItem) (A : Around) (L a : Addr) (cd : Value) (h₀ : Heap) (X : List Addr) (n : Nat) (gens : Array GenState) (os : OsState) : Cx :=
  ⟨A, envOf d.name d.scope L a cd, h₀, X, [], n, gens, os⟩

def initVars : List Str → List Bd → List (Str × Bd)
  | x :: xs, d :: ds => (x, d) :: initVars xs ds
  | _, _ => []

theorem lookup_rev_zip : ∀ {names : List Str} {vals : List Value} {ds : List Bd} {h : Heap} {X : List Addr}, names.Nodup → HoldsAll h X vals ds →
    ∀ p ∈ initVars names ds, ∃ v, (names.zip vals).reverse.lookup p.1 = some v ∧ p.2.holds h X v
  | [], _, _, _, _, _, _, p, hp => by simp [initVars] at hp
  | x :: xs, [], [], _, _, _, _, p, hp => by simp [initVars] at hp
  | x :: xs, v :: vs, d :: ds, h, X, hn, ⟨h1, h2⟩, p, hp => by
    obtain ⟨hx, hn'⟩ := List.nodup_cons.mp hn
    rw [List.zip_cons_cons, List.reverse_cons, List.lookup_append]
    rcases List.mem_cons.mp hp with rfl | hp
    · refine ⟨v, ?_, h1⟩
      have : (xs.zip vs).reverse.lookup x = none := by
        rw [List.lookup_eq_none_iff]
        intro q hq
        have hq' := List.mem_reverse.mp hq
        have := (List.of_mem_zip (show (q.1, q.2) ∈ xs.zip vs from hq')).1
        simp only [bne_iff_ne, ne_eq, beq_eq_false_iff_ne, Bool.not_eq_true', Bool.not_eq_eq_eq_not, Bool.not_true]
        intro e; exact hx (e ▸ this)
      rw [this]; simp
    · obtain ⟨u, g1, g2⟩ := lookup_rev_zip hn' h2 p hp
      exact ⟨u, by rw [g1]; rfl, g2⟩
  | _ :: _, [], _ :: _, _, _, _, hh, _, _ => hh.elim
  | _ :: _, _ :: _, [], _, _, _, hh, _, _ => hh.elim

theorem initVars_names : ∀ {names : List Str} {ds : List Bd}, names.Nodup → ((initVars names ds).map (·.1)).Nodup ∧ ∀ y ∈ (initVars names ds).map (·.1), y ∈ names
  | [], _, _ => by simp [initVars]
  | x :: xs, [], _ => by simp [initVars]
  | x :: xs, d :: ds, hn => by
    obtain ⟨hx, hn'⟩ := List.nodup_cons.mp hn
    obtain ⟨h1, h2⟩ := initVars_names (ds := ds) hn'
    refine ⟨?_, ?_⟩
    · simp only [initVars, List.map_cons, List.nodup_cons]
      exact ⟨fun h => hx (h2 _ h), h1⟩
    · intro y hy
      simp only [initVars, List.map_cons] at hy
      rcases List.mem_cons.mp hy with rfl | hy
      · exact .head _
      · exact .tail _ (h2 y hy)

theorem Con.intro {W : Wd} {d : DefItem} {n : Nat} {ds : List Bd} {r : PyData} (names : List Str) (hd : d ∈ W.defs) (hnd : d.params.defaults = []) (hn : names.Nodup) (hlen : names.length = ds.length)
    (hbind : ∀ pm cd doc vals, vals.length = names.length → bindArgs (docDef d.name d.params d.body d.scope pm cd doc) ⟨vals, []⟩ = pure (names.zip vals))
    (hloc : ∀ x ∈ names, d.scope.names.lookup x = some .local)
    (hco : d.scope.isCoroutine = false) (hgen : d.scope.isGenerator = false) (hk : d.scope.kind = .function) (hcell : ∀ x ∈ d.scope.names, x.2 ≠ .cell)
    (body : ∀ A L a cd h₀ X gens os, Wf W (Cx.of d A L a cd h₀ X n gens os) → SX W (Cx.of d A L a cd h₀ X n gens os) ⟨none, initVars names ds⟩ d.body (fun x => x = .ret r)) :
    Con W (n + 1) d.name ds r := .mk fun A s vals X hh hdep hun G hX hv => by
  obtain ⟨_, c', o, pm, doc, ho, hdat, hcd⟩ := Wd.fn_at G hd hnd
  have hvl := hv.len
  have hz : ∀ x ∈ names.zip vals, d.scope.names.lookup x.1 = some .local := fun x hx => hloc _ (List.of_mem_zip (show (x.1, x.2) ∈ names.zip vals from hx)).1
  refine wpAny_call (call_plain_ret (binds := names.zip vals) (by show A.depth < 1000; omega) ho hdat G.nolimit hcd (hbind _ _ _ vals (by omega)) hz (fun h₁ F => ?_) hco hgen hk hcell)
  have wf : Wf W (Cx.of d (A.deeper (envOf d.name d.scope s.heap.objs.size (W.fa d.name) (.ref c'))) s.heap.objs.size (W.fa d.name) (.ref c') s.heap X n s.gens s.os) := by
    refine ⟨hk, rfl, rfl, hh, ?_, ?_, G, hX⟩
    · show A.depth + 1 + n < 1000; omega
    · show A.units + 3 + 8 * n + 200 < 9900; omega
  have hb := body (A.deeper (envOf d.name d.scope s.heap.objs.size (W.fa d.name) (.ref c'))) s.heap.objs.size (W.fa d.name) (.ref c') s.heap X s.gens s.os wf
  have ok : Ok (Cx.of d (A.deeper (envOf d.name d.scope s.heap.objs.size (W.fa d.name) (.ref c'))) s.heap.objs.size (W.fa d.name) (.ref c') s.heap X n s.gens s.os) ⟨none, initVars names ds⟩ { s with heap := h₁, toks := s.toks + (names.zip vals).length } := by
    refine ⟨⟨_, F, fun p hp => ?_⟩, (fun l ds e => nomatch e), (fun p hp => nomatch hp), rfl, rfl, (initVars_names hn).1⟩
    obtain ⟨v, g1, g2⟩ := lookup_rev_zip hn hv p hp
    refine ⟨v, g1, ?_⟩
    have hL : s.heap.get? s.heap.objs.size = none := Heap.get?_none_of_le (Nat.le_refl _)
    refine (g2.fresh (Y := s.heap.objs.size :: X) hL (fun b hb => ?_)).keeps F.keep
    rcases List.mem_cons.mp hb with h | h
    · exact .inl h
    · exact .inr h
  refine wpAny_mono (hb _ ok) (fun f s' x => ?_) fun _ _ e => e
  obtain ⟨_, rfl, v, rfl, h1, h2, h3, h4⟩ := x
  exact ⟨⟨h2, h3, h4⟩, h1⟩
end Mine
end
section
set_option Elab.async false
set_option maxRecDepth 100000
set_option linter.unusedVariables false
set_option linter.unusedSimpArgs false
open PySem PySem.Calls PySem.Spec PyProof.Rows

namespace Mine

theorem initVars_self : ∀ vars : List (Str × Bd), initVars (vars.map (·.1)) (vars.map (·.2)) = vars
  | [] => rfl
  | p :: r => by simp only [List.map_cons, initVars, initVars_self r]

theorem Con.of {W : Wd} {d : DefItem} {n : Nat} {r : PyData} (vars : List (Str × Bd)) (names : List Str) {nm : Str} {ds : List Bd} (hnm : d.name = nm) (hnms : vars.map (·.1) = names) (hds : vars.map (·.2) = ds) (hd : d ∈ W.defs) (hnd : d.params.defaults = []) (hn : names.Nodup)
    (hbind : ∀ pm cd doc vals, vals.length = names.length → bindArgs (docDef d.name d.params d.body d.scope pm cd doc) ⟨vals, []⟩ = pure (names.zip vals))
    (hloc : (names.all fun x => decide (d.scope.names.lookup x = some .local)) = true)
    (hco : d.scope.isCoroutine = false) (hgen : d.scope.isGenerator = false) (hk : d.scope.kind = .function) (hcell : (d.scope.names.all fun x => decide (x.2 ≠ .cell)) = true)
    (body : ∀ A L a cd h₀ X gens os, Wf W (Cx.of d A L a cd h₀ X n gens os) → SX W (Cx.of d A L a cd h₀ X n gens os) ⟨none, vars⟩ d.body (fun x => x = .ret r)) :
    Con W (n + 1) nm ds r := by
  subst hnm hds hnms
  refine Con.intro (vars.map (·.1)) hd hnd hn (by simp) hbind (fun x hx => of_decide_eq_true (List.all_eq_true.mp hloc x hx)) hco hgen hk (fun x hx => of_decide_eq_true (List.all_eq_true.mp hcell x hx)) fun A L a cd h₀ X gens os wf => ?_
  rw [initVars_self]; exact body A L a cd h₀ X gens os wf

theorem Upd.next {x : Str} {d : Bd} {y : Str} {e : Bd} {r r' : List (Str × Bd)} (h : y ≠ x) (h2 : Upd x d r r') : Upd x d ((y, e) :: r) ((y, e) :: r') := .there h h2

abbrev pw : Program := PySem.Challenge.pw_sa0344_01
def fnItem (i : Nat) : DefItem := match pw.main.body[i]? with
  | some (.FunctionDef name args body _ _ _ scope _ _ pos) => ⟨name, args, body, scope, pos⟩
  | _ => ⟨"", ⟨[], [], none, [], [], none, []⟩, [], ⟨.module, [], false, false, []⟩, ⟨0, 0, 0, 0⟩⟩

def nums (l : List Nat) : List PyData := l.map fun (n : Nat) => .int (n : Int)
theorem nums_len (l : List Nat) : (nums l).length = l.length := by simp [nums]

section
variable {W : Wd} {C : Cx} {σ : Sto} {pos : Pos} {k : Nat}
theorem EV.itemN {value slice : Expr} {l : List Nat} {i : Int} (h1 : EV W C σ value (L (nums l))) (h2 : EV W C σ slice (I i)) (h0 : 0 ≤ i ∧ i < l.length ∧ l.length ≤ 1000000)
    (hs : ∀ a u, subscripted slice false (.ref a) (.int i u) = operate [.ref a, .int i u] (getItem (.ref a) (.int i u)) := by intro _ _; with_unfolding_all rfl) :
    EV W C σ (.Subscript value slice pos) (I ((l.getD i.toNat 0 : Nat) : Int)) :=
  EV.item h1 h2 ⟨h0.1, by omega⟩ (by
    have hlt : i.toNat < l.length := by omega
    simp [nums, hlt]) hs
theorem EV.itemOwnN {x : Str} {p : Pos} {slice : Expr} {vars : List (Str × Bd)} {a : Addr} {l : List Nat} {i : Int} (h1 : EV W C ⟨some (a, nums l), vars⟩ (.Name x p) (.v (.ref a))) (h2 : EV W C ⟨some (a, nums l), vars⟩ slice (I i)) (h0 : 0 ≤ i ∧ i < l.length ∧ l.length ≤ 1000000)
    (hs : ∀ a u, subscripted slice false (.ref a) (.int i u) = operate [.ref a, .int i u] (getItem (.ref a) (.int i u)) := by intro _ _; with_unfolding_all rfl) :
    EV W C ⟨some (a, nums l), vars⟩ (.Subscript (.Name x p) slice pos) (I ((l.getD i.toNat 0 : Nat) : Int)) :=
  EV.itemOwn rfl h1 h2 ⟨h0.1, by omega⟩ (by
    have hlt : i.toNat < l.length := by omega
    simp [nums, hlt]) hs
theorem EV.lenN {f e : Expr} {l : List Nat} (h1 : EV W C σ f (.v (.builtin "len"))) (h2 : EV W C σ e (L (nums l))) (hsz : l.length ≤ 1000000)
    (he1 : starEach [e] C.env = (false, eval e C.env) :: starEach [] C.env := by rfl)
    (he : eval (.Call f [e] [] pos) C.env = (do callWith pos (← eval f C.env) [] (backTo pos (starEach [e] C.env)) (backToKw pos (keywordEach [] C.env))) := by rfl) :
    EV W C σ (.Call f [e] [] pos) (I ((l.length : Nat) : Int)) := by
  have := EV.len (pos := pos) h1 h2 (by rw [nums_len]; exact hsz) he1 he
  rwa [nums_len] at this
theorem EV.sliceN {value up : Expr} {p : Pos} {l : List Nat} {i : Int} (wf : Wf W C) (h1 : EV W C σ value (L (nums l))) (h2 : EV W C σ up (I i)) (h0 : 0 ≤ i ∧ l.length ≤ 1000000)
    (ht : ∀ o r, letTemporaryGo value o r = pure () := by intro _ _; rfl) :
    EV W C σ (.Subscript value (.Slice none (some up) none p) pos) (L (nums (l.take i.toNat))) := by
  obtain ⟨j, rfl⟩ := Int.eq_ofNat_of_zero_le h0.1
  have := EV.slice (pos := pos) (p := p) wf h1 h2 (by rw [nums_len]; exact h0.2) ht
  simpa [nums, List.map_take] using this
theorem EV.copyN {value : Expr} {p : Pos} {l : List Nat} (wf : Wf W C) (h1 : EV W C σ value (L (nums l))) (hsz : l.length ≤ 1000000)
    (ht : ∀ o r, letTemporaryGo value o r = pure () := by intro _ _; rfl) :
    EV W C σ (.Subscript value (.Slice none none none p) pos) (L (nums l)) := EV.copy wf h1 (by rw [nums_len]; exact hsz) ht
end

abbrev used : List Nat := [4, 5, 6, 7, 8, 9, 14, 15, 16, 17, 18, 19, 20, 21, 23, 24, 25, 26, 27, 28, 29, 30, 31, 32, 33, 34, 36, 37, 42, 44, 45, 46, 47, 48, 49]
def freeNames : List Str := ["len", "range", "abs", "enumerate", "int", "sum"]

abbrev fnNames : List Str := ([ "normal", "compare", "add", "sub", "add_limb", "divrem_limb", "signed", "s_neg", "s_compare", "s_add", "s_sub", "s_mul", "tdiv", "fdiv"] : List Str) ++
  ((["common", "cut_signed", "signed_of", "r_neg", "r_add", "r_sub", "r_compare", "r_abs", "continued", "convergents", "nearest", "nearer"] : List Str) ++
  (["mul_school", "divrem_small", "divrem_school", "_law_seed", "_law_limbs", "_law_fraction", "_law_least", "_law_walk", "_law_off"] : List Str))

/- what is known of the world -/
structure Wok (W : Wd) : Prop where
  defs : ∀ i ∈ used, fnItem i ∈ W.defs
  fn : ∀ x ∈ fnNames, HasFn W x
  alive : ∀ x ∈ fnNames, ∀ h, W.At h → ∃ o fd, h.get? (W.fa x) = some o ∧ o.data = .func fd
  free : ∀ x ∈ freeNames, x ∉ W.names
section
variable {W : Wd} {C : Cx} {σ : Sto} {pos : Pos}
theorem EV.nlen (H : Wok W) (wf : Wf W C) (hk : C.env.kindOf "len" = some .globalImplicit) : EV W C σ (.Name "len" pos) (.v (.builtin "len")) := EV.blt wf hk boot_len (H.free _ (by decide))
theorem EV.nrange (H : Wok W) (wf : Wf W C) (hk : C.env.kindOf "range" = some .globalImplicit) : EV W C σ (.Name "range" pos) (.v (.type "range")) := EV.blt wf hk boot_range (H.free _ (by decide))
theorem EV.nabs (H : Wok W) (wf : Wf W C) (hk : C.env.kindOf "abs" = some .globalImplicit) : EV W C σ (.Name "abs" pos) (.v (.builtin "abs")) := EV.blt wf hk boot_abs (H.free _ (by decide))
theorem EV.nenum (H : Wok W) (wf : Wf W C) (hk : C.env.kindOf "enumerate" = some .globalImplicit) : EV W C σ (.Name "enumerate" pos) (.v (.type "enumerate")) := EV.blt wf hk boot_enumerate (H.free _ (by decide))
end
end Mine
namespace Mine
abbrev NL (B n : Nat) : PyData := .list (nums (limbs B n))
abbrev SG (B : Nat) (z : Int) : PyData := .tuple [.bool (decide (z < 0)), NL B z.natAbs]
abbrev FQ (B : Nat) (p : Int) (q : Nat) : PyData := .tuple [SG B p, NL B q]
end Mine
namespace Mine
section
variable {W : Wd} {C : Cx} {σ : Sto} {pos : Pos} {k : Nat}

theorem two_le {w : Nat} (h : 1 ≤ w) : 2 ≤ 2 ^ w := Nat.pow_le_pow_right (n := 2) (by decide) h
theorem mask_eq (w : Nat) : ((1 : Int) * 2 ^ ((w : Int).toNat) - 1) = ((2 ^ w - 1 : Nat) : Int) := by
  have : 1 ≤ 2 ^ w := Nat.one_le_two_pow
  rw [Int.toNat_natCast, Int.one_mul, Int.natCast_sub this]; simp
theorem base_eq (w : Nat) : ((1 : Int) * 2 ^ ((w : Int).toNat)) = ((2 ^ w : Nat) : Int) := by
  rw [Int.toNat_natCast, Int.one_mul]; simp
theorem pow_eq (w : Nat) : ((2 : Int) ^ ((w : Int).toNat)) = ((2 ^ w : Nat) : Int) := by
  rw [Int.toNat_natCast]; simp
theorem shl_eq (x w : Nat) : ((x : Int) * 2 ^ ((w : Int).toNat)) = ((x * 2 ^ w : Nat) : Int) := by
  rw [Int.toNat_natCast]; simp
theorem shr_eq (c w : Nat) : augI .RShift (c : Int) (w : Int) = some ((c / 2 ^ w : Nat) : Int) := by
  simp [augI]
theorem bitAnd_mask (c w : Nat) : Builtin.bitAnd (c : Int) ((2 ^ w - 1 : Nat) : Int) = ((c % 2 ^ w : Nat) : Int) := by
  unfold Builtin.bitAnd
  rw [decide_eq_true (Int.natCast_nonneg c), decide_eq_true (Int.natCast_nonneg (2 ^ w - 1))]
  show (((c : Int).toNat &&& ((2 ^ w - 1 : Nat) : Int).toNat : Nat) : Int) = _
  rw [Int.toNat_natCast, Int.toNat_natCast, Nat.and_two_pow_sub_one_eq_mod]
theorem bitNot_nat (x : Nat) : Builtin.bitNot (x : Int) < 0 ∧ (Builtin.bitNot (Builtin.bitNot (x : Int))).toNat = x := by
  unfold Builtin.bitNot; omega
theorem bitOr_nat (x y : Nat) : Builtin.bitOr (x : Int) (y : Int) = ((x ||| y : Nat) : Int) := by
  unfold Builtin.bitOr Builtin.bitAnd
  obtain ⟨h1, h2⟩ := bitNot_nat x
  obtain ⟨h3, h4⟩ := bitNot_nat y
  rw [decide_eq_false (by omega), decide_eq_false (by omega)]
  show Builtin.bitNot (Builtin.bitNot (((Builtin.bitNot (Builtin.bitNot (x : Int))).toNat ||| (Builtin.bitNot (Builtin.bitNot (y : Int))).toNat : Nat) : Int)) = _
  rw [h2, h4]; unfold Builtin.bitNot; omega
theorem bitOr_shl (r d w : Nat) (h : d < 2 ^ w) : Builtin.bitOr ((r * 2 ^ w : Nat) : Int) (d : Int) = ((r * 2 ^ w + d : Nat) : Int) := by
  rw [bitOr_nat, Nat.mul_comm, Nat.two_pow_add_eq_or_of_lt h]

theorem EV.maskN {l r : Expr} {c w : Nat} (h1 : EV W C σ l (I (c : Int))) (h2 : EV W C σ r (I ((2 ^ w - 1 : Nat) : Int))) : EV W C σ (.BinOp l .BitAnd r pos) (I ((c % 2 ^ w : Nat) : Int)) := by
  have := EV.and_ (pos := pos) h1 h2
  rwa [bitAnd_mask] at this

theorem S1.appendN {vars : List (Str × Bd)} {x : Str} {p apos cpos : Pos} {e : Expr} {a : Addr} {l : List Nat} {d : Nat} {K : Res → Prop} (wf : Wf W C) (hk : C.env.kindOf x = some .local) (hm : (x, .v (.ref a)) ∈ vars)
    (he : EV W C ⟨some (a, nums l), vars⟩ e (I (d : Int))) (hsz : l.length ≤ 1000000) (h : K (.next ⟨some (a, nums (l ++ [d])), vars⟩))
    (hbase : attributeBase (.Name x p) "append" C.env (eval (.Name x p) C.env) = eval (.Name x p) C.env := by rfl)
    (hfew : ((backTo cpos (starEach [e] C.env)).all (fun x => !x.1) && (backToKw cpos (keywordEach [] C.env)).all (fun x => x.1.isSome)
      && decide (([e] : List Expr).length + ([] : List Keyword).length + (if ([] : List Keyword).isEmpty then 0 else 1) < 30)) = true := by rfl)
    (hline : (apos.endLine == cpos.line) = true := by rfl)
    (htrees : backTo cpos (starEach [e] C.env) = [(false, eval e C.env)] := by rfl)
    (hi : interactive C.env = false := by rfl)
    (hs : swapsWith (.Call (.Attribute (.Name x p) "append" apos) [e] [] cpos) none pos.line C.env = pure false := by rfl)
    (hd : (x == ("__debug__" : Str)) = false := by decide) :
    S1 W C ⟨some (a, nums l), vars⟩ (.Expr (.Call (.Attribute (.Name x p) "append" apos) [e] [] cpos) pos) K :=
  S1.append wf hk hm he (by rw [nums_len]; exact hsz) (by
    have : nums l ++ [.int (d : Int)] = nums (l ++ [d]) := by simp [nums]
    rw [this]; exact h) hbase hfew hline htrees hi hs hd

theorem S1.setItemN {vars : List (Str × Bd)} {x : Str} {p p2 : Pos} {e value : Expr} {a : Addr} {l : List Nat} {d : Nat} {j : Nat} {K : Res → Prop} (wf : Wf W C) (hk : C.env.kindOf x = some .local) (hm : (x, .v (.ref a)) ∈ vars)
    (hv : EV W C ⟨some (a, nums l), vars⟩ value (I (d : Int))) (he : EV W C ⟨some (a, nums l), vars⟩ e (I (j : Int))) (hj : j < l.length ∧ j < 1000000) (h : K (.next ⟨some (a, nums (l.set j d)), vars⟩))
    (hs : swapsWith value (some (.Subscript (.Name x p) e p2)) pos.line C.env = pure false := by rfl)
    (hd : (x == ("__debug__" : Str)) = false := by decide) :
    S1 W C ⟨some (a, nums l), vars⟩ (.Assign [.Subscript (.Name x p) e p2] value pos) K :=
  S1.setItem wf hk hm hv he (by rw [nums_len]; exact hj) (by
    have : (nums l).set j (.int (d : Int)) = nums (l.set j d) := by simp [nums, List.map_set]
    rw [this]; exact h) hs hd

theorem SX.thawTo (vars' : List (Str × Bd)) {a : Addr} {ds : List PyData} {vars : List (Str × Bd)} {sts : List Stmt} {K : Res → Prop} (wf : Wf W C)
    (h : ∀ p ∈ vars', p ∈ vars ∨ ∃ x, p = (x, .d (.list ds)) ∧ (x, Bd.v (.ref a)) ∈ vars) (nd : (vars'.map (·.1)).Nodup) (hs : SX W C ⟨none, vars'⟩ sts K) : SX W C ⟨some (a, ds), vars⟩ sts K := by
  intro s ok
  have ok' : Ok C ⟨none, vars'⟩ s := by
    obtain ⟨⟨m, F, hv⟩, ho, hc, hg, hos, nd0⟩ := ok
    obtain ⟨h1, h2, ws, as, ⟨n, h3⟩, h4, h5⟩ := ho a ds rfl
    have sub : ∀ b, b ∈ C.av ⟨none, vars'⟩ → b ∈ C.av ⟨some (a, ds), vars⟩ := fun b hb => by
      simp only [Cx.av, Sto.X, List.nil_append, List.mem_cons, List.cons_append] at hb ⊢
      rcases hb with h | h
      · exact .inl h
      · exact .inr (.inr h)
    have hna : a ∉ C.av ⟨none, vars'⟩ := fun hb => by
      simp only [Cx.av, Sto.X, List.nil_append, List.mem_cons] at hb
      rcases hb with h | h
      · exact h2 h
      · obtain ⟨o, e⟩ := wf.xs a h
        rw [h1] at e; cases e
    refine ⟨⟨m, F, fun p hp => ?_⟩, (fun l ds e => nomatch e), (fun p hp => ?_), hg, hos, nd⟩
    · rcases h p hp with h | ⟨x, rfl, hx⟩
      · obtain ⟨v, e1, e2⟩ := hv p h
        exact ⟨v, e1, e2.sub sub⟩
      · obtain ⟨v, e1, e2⟩ := hv _ hx
        have e3 : v = .ref a := e2
        subst e3
        refine ⟨_, e1, a :: as, reads_list_at h3 rfl rfl (by simpa using h4), fun c hc => ?_⟩
        rcases List.mem_cons.mp hc with rfl | hc
        · exact hna
        · exact fun hm => h5 c hc (sub c hm)
    · obtain ⟨g1, g2, g3, v, g4, g5⟩ := hc p hp
      exact ⟨g1, g2, by simp [Sto.X], v, g4, g5.sub sub⟩
  exact wpAny_mono (hs s ok') (fun f s' x => by
    obtain ⟨r, h1, h2⟩ := x
    exact ⟨r, h1, h2.pre ⟨fun _ _ _ _ e => e, fun a ha => by simp [Sto.X] at ha⟩ ok'⟩) fun _ _ e => e
end
end Mine
end
section
set_option Elab.async false
set_option maxRecDepth 100000
set_option linter.unusedVariables false
open PySem PySem.Calls PySem.Spec PyProof.Rows
namespace Mine
section
variable {W : Wd} {C : Cx} {σ : Sto} {pos : Pos} {k : Nat}
theorem EV.tuple2 {e1 e2 : Expr} {x y : PyData} (h1 : EV W C σ e1 (.d x)) (h2 : EV W C σ e2 (.d y))
    (he1 : starEach [e1, e2] C.env = (false, eval e1 C.env) :: starEach [e2] C.env := by rfl)
    (he2 : starEach [e2] C.env = (false, eval e2 C.env) :: starEach [] C.env := by rfl) : EV W C σ (.Tuple [e1, e2] k pos) (T [x, y]) :=
  EV.tuple (xs := [x, y]) (EVs.cons h1 (EVs.cons h2 EVs.nil he2) he1) (by show 2 < 1000; decide)
theorem EV.list0 (wf : Wf W C) : EV W C σ (.List [] pos) (L []) := EV.list (xs := []) wf EVs.nil
theorem EV.list1 {e1 : Expr} {x : PyData} (wf : Wf W C) (h1 : EV W C σ e1 (.d x))
    (he1 : starEach [e1] C.env = (false, eval e1 C.env) :: starEach [] C.env := by rfl) : EV W C σ (.List [e1] pos) (L [x]) :=
  EV.list (xs := [x]) wf (EVs.cons h1 EVs.nil he1) (by show 1 < 1000; decide)
theorem EV.list2 {e1 e2 : Expr} {x y : PyData} (wf : Wf W C) (h1 : EV W C σ e1 (.d x)) (h2 : EV W C σ e2 (.d y))
    (he1 : starEach [e1, e2] C.env = (false, eval e1 C.env) :: starEach [e2] C.env := by rfl)
    (he2 : starEach [e2] C.env = (false, eval e2 C.env) :: starEach [] C.env := by rfl) : EV W C σ (.List [e1, e2] pos) (L [x, y]) :=
  EV.list (xs := [x, y]) wf (EVs.cons h1 (EVs.cons h2 EVs.nil he2) he1) (by show 2 < 1000; decide)
end
end Mine
namespace Mine
theorem SG_nat (B y : Nat) : SG B (y : Int) = .tuple [.bool false, NL B y] := by
  have e : decide ((y : Int) < 0) = false := decide_eq_false (by omega)
  have e2 : (y : Int).natAbs = y := by omega
  show PyData.tuple [.bool (decide ((y : Int) < 0)), NL B (y : Int).natAbs] = _
  rw [e, e2]
end Mine
namespace Mine
theorem SG_mk {B n : Nat} {z : Int} {b : Bool} (h1 : decide (z < 0) = b) (h2 : z.natAbs = n) : SG B z = .tuple [.bool b, NL B n] := by
  subst h1 h2; rfl
end Mine
end
section
namespace Mine
theorem fdiv_pos_cases (x : Int) (y : Nat) (hy : 0 < y) :
    (x < 0 → x.natAbs % y = 0 → x / (y : Int) = -((x.natAbs / y : Nat) : Int) ∧ x % (y : Int) = 0) ∧
    (x < 0 → 0 < x.natAbs % y → x / (y : Int) = -((x.natAbs / y : Nat) : Int) - 1 ∧ x % (y : Int) = -((x.natAbs % y : Nat) : Int) + y) ∧
    (0 ≤ x → x / (y : Int) = ((x.natAbs / y : Nat) : Int) ∧ x % (y : Int) = ((x.natAbs % y : Nat) : Int)) := by
  have hm := Nat.div_add_mod x.natAbs y
  have hlt := Nat.mod_lt x.natAbs hy
  have hc : ((y * (x.natAbs / y) : Nat) : Int) = (y : Int) * ((x.natAbs / y : Nat) : Int) := Int.natCast_mul _ _
  generalize x.natAbs / y = q at *
  generalize x.natAbs % y = r at *
  have key : ∀ (Q R : Int), x = y * Q + R → 0 ≤ R → R < y → x / (y : Int) = Q ∧ x % (y : Int) = R := fun Q R e h1 h2 => by
    have e2 : x = R + y * Q := by omega
    constructor
    · rw [e2, Int.add_mul_ediv_left _ _ (by omega), Int.ediv_eq_zero_of_lt h1 h2, Int.zero_add]
    · rw [e2, Int.add_mul_emod_self_left, Int.emod_eq_of_lt h1 h2]
  refine ⟨fun h0 h1 => key _ _ ?_ (by omega) (by omega), fun h0 h1 => key _ _ ?_ (by omega) (by omega), fun h0 => key _ _ ?_ (by omega) (by omega)⟩
  · rw [Int.mul_neg]; omega
  · rw [Int.mul_sub, Int.mul_neg]; omega
  · omega
end Mine
end
section
namespace Mine
def raddP (p1 : Int) (q1 : Nat) (p2 : Int) (q2 : Nat) : Int :=
  if p1 * ((q2 / Nat.gcd q1 q2 : Nat) : Int) + p2 * ((q1 / Nat.gcd q1 q2 : Nat) : Int) = 0 then 0
  else (p1 * ((q2 / Nat.gcd q1 q2 : Nat) : Int) + p2 * ((q1 / Nat.gcd q1 q2 : Nat) : Int)) / ((Nat.gcd (p1 * ((q2 / Nat.gcd q1 q2 : Nat) : Int) + p2 * ((q1 / Nat.gcd q1 q2 : Nat) : Int)).natAbs (Nat.gcd q1 q2) : Nat) : Int)
def raddQ (p1 : Int) (q1 : Nat) (p2 : Int) (q2 : Nat) : Nat :=
  if p1 * ((q2 / Nat.gcd q1 q2 : Nat) : Int) + p2 * ((q1 / Nat.gcd q1 q2 : Nat) : Int) = 0 then 1
  else (q1 / Nat.gcd q1 q2) * (q2 / Nat.gcd (p1 * ((q2 / Nat.gcd q1 q2 : Nat) : Int) + p2 * ((q1 / Nat.gcd q1 q2 : Nat) : Int)).natAbs (Nat.gcd q1 q2))
end Mine
namespace Mine
def nearOrd (p : Int) (q : Nat) (p1 : Int) (q1 : Nat) (p2 : Int) (q2 : Nat) : Int :=
  cmpZ (((raddP p q (-p1) q1).natAbs : Int) * ((raddQ p q (-p2) q2 : Nat) : Int)) (((raddP p q (-p2) q2).natAbs : Int) * ((raddQ p q (-p1) q1 : Nat) : Int))
def nearerF (p : Int) (q : Nat) (p1 : Int) (q1 : Nat) (p2 : Int) (q2 : Nat) : Int × Nat :=
  if nearOrd p q p1 q1 p2 q2 = 0 then (if q1 ≤ q2 then (p1, q1) else (p2, q2))
  else if nearOrd p q p1 q1 p2 q2 < 0 then (p1, q1) else (p2, q2)
end Mine
end
section
namespace Mine
def cf (p : Int) (q : Nat) : List Int :=
  if h : q = 0 then [] else (p / (q : Int)) :: cf (q : Int) (p % (q : Int)).toNat
termination_by q
decreasing_by
  have := Int.emod_lt_of_pos p (show (0 : Int) < q by omega)
  have := Int.emod_nonneg p (show (q : Int) ≠ 0 by omega)
  omega
theorem cf_zero (p : Int) : cf p 0 = [] := by rw [cf]; simp
theorem cf_pos {p : Int} {q : Nat} (h : 0 < q) : cf p q = (p / (q : Int)) :: cf (q : Int) (p % (q : Int)).toNat := by
  rw [cf, dif_neg (by omega)]

def convs : List Int → Int → Int → Int → Int → List (Int × Int)
  | [], _, _, _, _ => []
  | a :: r, h0, k0, h1, k1 => (a * h1 + h0, a * k1 + k0) :: convs r h1 k1 (a * h1 + h0) (a * k1 + k0)

structure St4 where
  h0 : Int
  k0 : Int
  h1 : Int
  k1 : Int

def nrState (N : Nat) : List Int → St4 → St4
  | [], s => s
  | a :: r, s => if N < (a * s.k1 + s.k0).natAbs then s else nrState N r ⟨s.h1, s.k1, a * s.h1 + s.h0, a * s.k1 + s.k0⟩

structure Uo where
  a : Int
  b : Nat
  c : Int
  d : Nat
def walkLoop (p : Int) (q N : Nat) (u : Uo) : Uo :=
  if h : u.b + u.d ≤ N ∧ 0 < u.b ∧ 0 < u.d then
    if (u.a + u.c) * (q : Int) < p * ((u.b + u.d : Nat) : Int) then walkLoop p q N ⟨u.a + u.c, u.b + u.d, u.c, u.d⟩
    else walkLoop p q N ⟨u.a, u.b, u.a + u.c, u.b + u.d⟩
  else u
termination_by N + 1 - (u.b + u.d)
decreasing_by all_goals omega
theorem walkLoop_step {p : Int} {q N : Nat} {u : Uo} (h : u.b + u.d ≤ N) (hb : 0 < u.b) (hd : 0 < u.d) :
    walkLoop p q N u = if (u.a + u.c) * (q : Int) < p * ((u.b + u.d : Nat) : Int) then walkLoop p q N ⟨u.a + u.c, u.b + u.d, u.c, u.d⟩ else walkLoop p q N ⟨u.a, u.b, u.a + u.c, u.b + u.d⟩ := by
  rw [walkLoop, dif_pos ⟨h, hb, hd⟩]
theorem walkLoop_done {p : Int} {q N : Nat} {u : Uo} (h : ¬ u.b + u.d ≤ N) : walkLoop p q N u = u := by
  rw [walkLoop, dif_neg (fun x => h x.1)]

def walkEnd (p : Int) (q : Nat) (u : Uo) : Int × Nat :=
  if (p * (u.b : Int) - u.a * (q : Int)) * (u.d : Int) = (u.c * (q : Int) - p * (u.d : Int)) * (u.b : Int) then (if u.b ≤ u.d then (u.a, u.b) else (u.c, u.d))
  else if (p * (u.b : Int) - u.a * (q : Int)) * (u.d : Int) < (u.c * (q : Int) - p * (u.d : Int)) * (u.b : Int) then (u.a, u.b) else (u.c, u.d)
def walkF (p : Int) (q N : Nat) : Int × Nat :=
  if q ≤ N then (p, q) else walkEnd p q (walkLoop p q N ⟨p / (q : Int), 1, p / (q : Int) + 1, 1⟩)
end Mine
end
section
set_option Elab.async false
set_option maxRecDepth 100000
set_option linter.unusedVariables false
open PySem PySem.Calls PySem.Spec PyProof.Rows
namespace Mine
def sgs (B : Nat) (l : List Int) : List PyData := l.map fun z => SG B z
theorem sgs_len (B : Nat) (l : List Int) : (sgs B l).length = l.length := by simp [sgs]
theorem sgs_snoc (B : Nat) (l : List Int) (z : Int) : sgs B l ++ [SG B z] = sgs B (l ++ [z]) := by simp [sgs]
theorem sgs_getD {B : Nat} {l : List Int} {i : Nat} (h : i < l.length) : (sgs B l).getD i .none = SG B (l.getD i 0) := by
  simp [sgs, h]
abbrev CV (B : Nat) (c : Int × Int) : PyData := .tuple [SG B c.1, NL B c.2.natAbs]
def cvs (B : Nat) (l : List (Int × Int)) : List PyData := l.map fun c => CV B c
theorem cvs_len (B : Nat) (l : List (Int × Int)) : (cvs B l).length = l.length := by simp [cvs]
theorem cvs_snoc (B : Nat) (l : List (Int × Int)) (c : Int × Int) : cvs B l ++ [CV B c] = cvs B (l ++ [c]) := by simp [cvs]
theorem SG_zero (B : Nat) : SG B 0 = .tuple [.bool false, .list []] := by
  show PyData.tuple [.bool (decide ((0 : Int) < 0)), .list (nums (limbs B 0))] = _
  rw [limbs_zero]; rfl
theorem SG_one {B : Nat} (hB : 2 ≤ B) : SG B 1 = .tuple [.bool false, .list [.int 1]] := by
  show PyData.tuple [.bool (decide ((1 : Int) < 0)), .list (nums (limbs B 1))] = _
  rw [one_limb hB (by decide) (by omega)]; rfl
def isStar : Expr → Bool | .Starred .. => true | _ => false
theorem swaps2 {x y : Str} {p1 p2 tp p' : Pos} {k k' : Nat} {e1 e2 : Expr} {env : Env} (hb : env.blockKind = .function) (hx : env.kindOf x = some .local) (hy : env.kindOf y = some .local)
    (hl : p2.line = p1.line) (hxy : x ≠ y) (hs1 : isStar e1 = false) (hs2 : isStar e2 = false) (hf : [e1, e2].all (foldedForSure 8) = false) (hc : [e1, e2].all (constantsAlone 8) = false) :
    swappedStores [.Tuple [.Name x p1, .Name y p2] k tp] (.Tuple [e1, e2] k' p') env = pure (some [x, y]) := by
  unfold swappedStores
  simp only [hf, hc]
  simp [hb, hx, hy, hl, hxy, List.eraseDups_cons, Ne.symm hxy, List.filterMap_cons, PySem.Expr.pos]
  intro h; exfalso
  rcases h with h | h
  · cases e1 <;> simp_all [isStar]
  · cases e2 <;> simp_all [isStar]
section
variable {W : Wd} {C : Cx} {σ : Sto} {pos : Pos}
structure S1w (W : Wd) (C : Cx) (σ : Sto) (st : Stmt) (K : Res → Prop) : Prop where
  ok : S1 W C σ st K
structure SXw (W : Wd) (C : Cx) (σ : Sto) (st : List Stmt) (K : Res → Prop) : Prop where
  ok : SX W C σ st K
theorem SXw.cons {st : Stmt} {rest : List Stmt} {K : Res → Prop} (h : S1w W C σ st (fun r => match r with | .next σ' => SX W C σ' rest K | r => K r)) : SXw W C σ (st :: rest) K := ⟨SX.cons h.ok⟩
theorem S1.unp2c {x y : Str} {p1 p2 tpos p' : Pos} {k k' : Nat} {e1 e2 : Expr} {d1 d2 : PyData} {v1 v2 : List (Str × Bd)} {K : Res → Prop} (wf : Wf W C) (hv : EV W C σ (.Tuple [e1, e2] k' p') (T [d1, d2]))
    (hx : C.env.kindOf x = some .local) (hy : C.env.kindOf y = some .local) (a1 : Upd y (.d d2) σ.vars v1) (a2 : Upd x (.d d1) v1 v2) (h : K (.next ⟨σ.own, v2⟩))
    (hb : C.env.blockKind = .function) (hl : p2.line = p1.line) (hxy : x ≠ y) (hs1 : isStar e1 = false) (hs2 : isStar e2 = false) (hf : [e1, e2].all (foldedForSure 8) = false) (hc : [e1, e2].all (constantsAlone 8) = false)
    (hs : swapsWithSole [.Tuple [.Name x p1, .Name y p2] k tpos] (.Tuple [e1, e2] k' p') pos.line C.env = pure false) :
    S1w W C σ (.Assign [.Tuple [.Name x p1, .Name y p2] k tpos] (.Tuple [e1, e2] k' p') pos) K :=
  ⟨S1.unp2s (x := x) (y := y) wf hv hx hy a1 a2 h hs (swaps2 hb hx hy hl hxy hs1 hs2 hf hc)⟩
end
theorem start_eq1 {B : Nat} (hB : 2 ≤ B) : PyData.tuple [.tuple [.bool false, .list []], .tuple [.bool false, .list [.int 1]]] = .tuple [SG B 0, SG B 1] := by
  rw [SG_zero, SG_one hB]
theorem start_eq2 {B : Nat} (hB : 2 ≤ B) : PyData.tuple [.tuple [.bool false, .list [.int 1]], .tuple [.bool false, .list []]] = .tuple [SG B 1, SG B 0] := by
  rw [SG_zero, SG_one hB]
end Mine
namespace Mine
structure NrOk (w : Nat) (p : Int) (q N : Nat) (r : Int × Nat) : Prop where
  lt : N < q
  hp : p.natAbs < 2 ^ 20
  hq : 0 < q ∧ q < 2 ^ w ∧ q < 1000000
  ts : ∀ a ∈ cf p q, a.natAbs < 2 ^ 20
  cs : ∀ c ∈ convs (cf p q) 0 1 1 0, c.1.natAbs < 2 ^ 20 ∧ c.2.natAbs < 2 ^ 20
  ln : (cf p q).length ≤ 100000
  ex : ∃ (h0 k0 h1 : Int) (k1 : Nat) (m h2 : Int) (k2 : Nat), nrState N (cf p q) ⟨0, 1, 1, 0⟩ = ⟨h0, k0, h1, (k1 : Int)⟩ ∧ h0.natAbs < 2 ^ 20 ∧ k0.natAbs < 2 ^ 20 ∧ h1.natAbs < 2 ^ 20 ∧
    (0 < k1 ∧ k1 < 2 ^ w ∧ k1 < 2 ^ 20) ∧ m = ((N : Int) - k0) / (k1 : Int) ∧ m.natAbs < 2 ^ 20 ∧ h2 = m * h1 + h0 ∧ h2.natAbs < 2 ^ 20 ∧ k2 = (m * (k1 : Int) + k0).natAbs ∧ (0 < k2 ∧ k2 < 2 ^ w ∧ k2 < 2 ^ 20) ∧
    ((raddP p q (-h1) k1).natAbs < 2 ^ 27 ∧ (raddP p q (-h2) k2).natAbs < 2 ^ 27 ∧ raddQ p q (-h1) k1 < 2 ^ 27 ∧ raddQ p q (-h2) k2 < 2 ^ 27) ∧ r = nearerF p q h1 k1 h2 k2
theorem cmp_le {x y : Nat} : cmp x y ≤ 0 ↔ x ≤ y := by
  unfold cmp; split
  · omega
  · split <;> omega
theorem cmp_gt {x y : Nat} : cmp x y > 0 ↔ y < x := by
  unfold cmp; split
  · omega
  · split <;> omega
end Mine
namespace Mine
theorem div_le_abs (p : Int) {q : Nat} (hq : 0 < q) : (p / (q : Int)).natAbs ≤ p.natAbs ∧ (p / (q : Int) + 1).natAbs ≤ p.natAbs + 1 := by
  have h1 := Int.mul_ediv_add_emod p q
  have h2 := Int.emod_nonneg p (show (q : Int) ≠ 0 by omega)
  have h3 := Int.emod_lt_of_pos p (show (0 : Int) < q by omega)
  generalize p / (q : Int) = e at *
  generalize p % (q : Int) = m at *
  have h4 : (1 : Int) ≤ q := by omega
  by_cases h : 0 ≤ e
  · have := Int.mul_le_mul_of_nonneg_right h4 h
    omega
  · have : (q : Int) * e ≤ 1 * e := Int.mul_le_mul_of_nonpos_right h4 (by omega)
    have h5 : (q : Int) * (e + 1) ≤ 1 * (e + 1) := Int.mul_le_mul_of_nonpos_right h4 (by omega)
    rw [Int.mul_add] at h5
    omega
end Mine
end
section
set_option Elab.async false
namespace Mine
/- two neighbours around p/q, with bottoms at most N -/
structure Far (p : Int) (q N : Nat) (a : Int) (b : Nat) (c : Int) (d : Nat) : Prop where
  hb : 0 < b
  hd : 0 < d
  bN : b ≤ N
  dN : d ≤ N
  sum : N < b + d
  det : c * (b : Int) - a * (d : Int) = 1
  lo : a * (q : Int) < p * (b : Int)
  hi : p * (d : Int) < c * (q : Int)

theorem mulp {x y : Int} (h1 : 1 ≤ x) (h2 : 1 ≤ y) : y ≤ x * y := by
  have := Int.mul_le_mul_of_nonneg_right h1 (show 0 ≤ y by omega)
  omega
/- a fraction strictly inside has a bottom at least the sum -/
theorem between_sum {a c r : Int} {b d t : Int} (hb : 0 < b) (hd : 0 < d) (det : c * b - a * d = 1) (h1 : a * t < r * b) (h2 : r * d < c * t) : b + d ≤ t := by
  have e : t = b * (c * t - r * d) + d * (r * b - a * t) := by
    have : b * (c * t - r * d) + d * (r * b - a * t) = (c * b - a * d) * t := by grind
    rw [this, det, Int.one_mul]
  have k1 := mulp (x := c * t - r * d) (y := b) (by omega) (by omega)
  have k2 := mulp (x := r * b - a * t) (y := d) (by omega) (by omega)
  have c1 := Int.mul_comm b (c * t - r * d)
  have c2 := Int.mul_comm d (r * b - a * t)
  omega
/- the lower neighbours of two pairs -/
theorem lt_trans_frac {a p c : Int} {b q d : Int} (hb : 0 < b) (hd : 0 < d) (hq : 0 < q) (h1 : a * q < p * b) (h2 : p * d < c * q) : a * d < c * b := by
  have k1 : a * q * d < p * b * d := Int.mul_lt_mul_of_pos_right h1 hd
  have k2 : p * d * b < c * q * b := Int.mul_lt_mul_of_pos_right h2 hb
  have e1 : a * q * d = a * d * q := by grind
  have e2 : p * b * d = p * d * b := by grind
  have e3 : c * q * b = c * b * q := by grind
  exact Int.lt_of_mul_lt_mul_right (by omega) (Int.le_of_lt hq)
theorem Far.le {p : Int} {q N : Nat} {a a' : Int} {b b' : Nat} {c c' : Int} {d d' : Nat} (hq : 0 < q) (u : Far p q N a b c d) (v : Far p q N a' b' c' d') : a' * (b : Int) ≤ a * (b' : Int) := by
  by_cases h : a' * (b : Int) ≤ a * (b' : Int)
  · exact h
  · exfalso
    obtain ⟨u1, u2, u3, u4, u5, u6, u7, u8⟩ := u
    obtain ⟨v1, v2, v3, v4, v5, v6, v7, v8⟩ := v
    have h2 : a' * (d : Int) < c * (b' : Int) := lt_trans_frac (q := q) (by omega) (by omega) (by omega) v7 u8
    have := between_sum (r := a') (t := b') (by omega) (by omega) u6 (by omega) h2
    omega
theorem Far.ge {p : Int} {q N : Nat} {a a' : Int} {b b' : Nat} {c c' : Int} {d d' : Nat} (hq : 0 < q) (u : Far p q N a b c d) (v : Far p q N a' b' c' d') : c * (d' : Int) ≤ c' * (d : Int) := by
  by_cases h : c * (d' : Int) ≤ c' * (d : Int)
  · exact h
  · exfalso
    obtain ⟨u1, u2, u3, u4, u5, u6, u7, u8⟩ := u
    obtain ⟨v1, v2, v3, v4, v5, v6, v7, v8⟩ := v
    have h2 : a * (d' : Int) < c' * (b : Int) := lt_trans_frac (q := q) (by omega) (by omega) (by omega) u7 v8
    have := between_sum (r := c') (t := d') (by omega) (by omega) u6 h2 (by omega)
    omega
theorem same_frac {a a' : Int} {b b' : Nat} {c c' : Int} {d d' : Nat} (hb : 0 < b) (hb' : 0 < b') (det : c * (b : Int) - a * (d : Int) = 1 ∨ a * (d : Int) - c * (b : Int) = 1) (det' : c' * (b' : Int) - a' * (d' : Int) = 1 ∨ a' * (d' : Int) - c' * (b' : Int) = 1) (h : a * (b' : Int) = a' * (b : Int)) : a = a' ∧ b = b' := by
  have key : ∀ {a a' c : Int} {b b' d : Nat}, 0 < b → 0 < b' → (c * (b : Int) - a * (d : Int) = 1 ∨ a * (d : Int) - c * (b : Int) = 1) → a * (b' : Int) = a' * (b : Int) → b ∣ b' := by
    intro a a' c b b' d hb hb' det h
    have e : (b : Int) ∣ (b' : Int) := by
      rcases det with det | det
      · refine ⟨c * b' - d * a', ?_⟩
        have : (b' : Int) = (c * b - a * d) * b' := by rw [det, Int.one_mul]
        grind
      · refine ⟨d * a' - c * b', ?_⟩
        have : (b' : Int) = (a * d - c * b) * b' := by rw [det, Int.one_mul]
        grind
    exact Int.natCast_dvd_natCast.mp e
  have e : b = b' := Nat.dvd_antisymm (key hb hb' det h) (key hb' hb det' h.symm)
  subst e
  exact ⟨Int.eq_of_mul_eq_mul_right (by omega) h, rfl⟩
theorem Far.uniq {p : Int} {q N : Nat} {a a' : Int} {b b' : Nat} {c c' : Int} {d d' : Nat} (hq : 0 < q) (u : Far p q N a b c d) (v : Far p q N a' b' c' d') : a = a' ∧ b = b' ∧ c = c' ∧ d = d' := by
  have l1 := u.le hq v
  have l2 := v.le hq u
  have g1 := u.ge hq v
  have g2 := v.ge hq u
  obtain ⟨e1, e2⟩ := same_frac (c := c) (c' := c') (d := d) (d' := d') u.hb v.hb (.inl u.det) (.inl v.det) (by omega)
  obtain ⟨e3, e4⟩ := same_frac (c := a) (c' := a') (d := b) (d' := b') u.hd v.hd (.inr (by have := u.det; omega)) (.inr (by have := v.det; omega)) (show c * (d' : Int) = c' * (d : Int) by omega)
  exact ⟨e1, e2, e3, e4⟩

/- what the walk ends in -/
theorem no_mid {p : Int} {q n : Nat} {z : Int} (hg : Nat.gcd p.natAbs q = 1) (hn : 0 < n) (hnq : n < q) : z * (q : Int) ≠ p * (n : Int) := by
  intro h
  have h1 : (q : Int) ∣ p * (n : Int) := ⟨z, by rw [← h, Int.mul_comm]⟩
  have h2 : q ∣ p.natAbs * n := by
    have := Int.natAbs_dvd_natAbs.mpr h1
    rwa [Int.natAbs_mul, Int.natAbs_natCast, Int.natAbs_natCast] at this
  have h3 : q ∣ n := (Nat.Coprime.symm hg).dvd_of_dvd_mul_left h2
  have := Nat.le_of_dvd hn h3
  omega
theorem walk_far {p : Int} {q N : Nat} (hg : Nat.gcd p.natAbs q = 1) (hN : 0 < N) (hNq : N < q) : ∀ (k : Nat) (u : Uo), N + 1 - (u.b + u.d) = k → 0 < u.b → 0 < u.d → u.b ≤ N → u.d ≤ N → u.c * (u.b : Int) - u.a * (u.d : Int) = 1 → u.a * (q : Int) < p * (u.b : Int) → p * (u.d : Int) < u.c * (q : Int) →
    Far p q N (walkLoop p q N u).a (walkLoop p q N u).b (walkLoop p q N u).c (walkLoop p q N u).d := by
  intro k
  induction k using Nat.strongRecOn with
  | _ k ih =>
    rintro ⟨a, b, c, d⟩ hk hb hd hbN hdN det lo hi
    dsimp only at *
    by_cases hle : b + d ≤ N
    · rw [walkLoop_step (u := ⟨a, b, c, d⟩) hle hb hd]
      dsimp only
      split
      · next h =>
        refine ih (N + 1 - (b + d + d)) (by omega) ⟨a + c, b + d, c, d⟩ rfl ?_ hd hle hdN ?_ h hi
        · show 0 < b + d; omega
        · show c * ((b + d : Nat) : Int) - (a + c) * (d : Int) = 1
          rw [← det, Int.natCast_add]; grind
      · next h =>
        have hne := no_mid (z := a + c) (n := b + d) hg (by omega) (by omega)
        refine ih (N + 1 - (b + (b + d))) (by omega) ⟨a, b, a + c, b + d⟩ rfl hb ?_ hbN hle ?_ lo ?_
        · show 0 < b + d; omega
        · show (a + c) * (b : Int) - a * ((b + d : Nat) : Int) = 1
          rw [← det, Int.natCast_add]; grind
        · show p * ((b + d : Nat) : Int) < (a + c) * (q : Int)
          omega
    · rw [walkLoop_done (u := ⟨a, b, c, d⟩) hle]
      exact ⟨hb, hd, hbN, hdN, (by show N < b + d; omega), det, lo, hi⟩
theorem walk_start {p : Int} {q N : Nat} (hg : Nat.gcd p.natAbs q = 1) (hN : 0 < N) (hNq : N < q) :
    Far p q N (walkLoop p q N ⟨p / (q : Int), 1, p / (q : Int) + 1, 1⟩).a (walkLoop p q N ⟨p / (q : Int), 1, p / (q : Int) + 1, 1⟩).b (walkLoop p q N ⟨p / (q : Int), 1, p / (q : Int) + 1, 1⟩).c (walkLoop p q N ⟨p / (q : Int), 1, p / (q : Int) + 1, 1⟩).d := by
  have h1 := Int.mul_ediv_add_emod p q
  have h2 := Int.emod_nonneg p (show (q : Int) ≠ 0 by omega)
  have h3 := Int.emod_lt_of_pos p (show (0 : Int) < q by omega)
  have h4 := no_mid (z := p / (q : Int)) (n := 1) hg (by omega) (by omega)
  have h5 := Int.mul_comm (q : Int) (p / (q : Int))
  have h6 : (p / (q : Int) + 1) * (q : Int) = p / (q : Int) * (q : Int) + q := by rw [Int.add_mul, Int.one_mul]
  refine walk_far hg hN hNq _ _ rfl (by show 0 < 1; decide) (by show 0 < 1; decide) hN hN ?_ ?_ ?_
  · show (p / (q : Int) + 1) * ((1 : Nat) : Int) - p / (q : Int) * ((1 : Nat) : Int) = 1
    omega
  · show p / (q : Int) * (q : Int) < p * ((1 : Nat) : Int)
    omega
  · show p * ((1 : Nat) : Int) < (p / (q : Int) + 1) * (q : Int)
    omega
end Mine
end
section
set_option Elab.async false
namespace Mine
theorem walkF_big {p : Int} {q N : Nat} (hg : Nat.gcd p.natAbs q = 1) (hN : 0 < N) (hNq : N < q) : ∃ (a c : Int) (b d : Nat), Far p q N a b c d ∧ walkF p q N = walkEnd p q ⟨a, b, c, d⟩ := by
  refine ⟨_, _, _, _, walk_start hg hN hNq, ?_⟩
  unfold walkF
  rw [if_neg (by omega)]
theorem walkF_of {p : Int} {q N : Nat} {a c : Int} {b d : Nat} (hg : Nat.gcd p.natAbs q = 1) (hN : 0 < N) (hNq : N < q) (u : Far p q N a b c d) : walkF p q N = walkEnd p q ⟨a, b, c, d⟩ := by
  obtain ⟨a', c', b', d', v, e⟩ := walkF_big hg hN hNq
  obtain ⟨rfl, rfl, rfl, rfl⟩ := u.uniq (by omega) v
  exact e
theorem Far.neg {p : Int} {q N : Nat} {a c : Int} {b d : Nat} (u : Far p q N a b c d) : Far (-p) q N (-c) d (-a) b := by
  obtain ⟨h1, h2, h3, h4, h5, h6, h7, h8⟩ := u
  refine ⟨h2, h1, h4, h3, by omega, ?_, ?_, ?_⟩
  · rw [Int.neg_mul, Int.neg_mul]; omega
  · rw [Int.neg_mul, Int.neg_mul]; omega
  · rw [Int.neg_mul, Int.neg_mul]; omega
theorem tie_small {p : Int} {q N : Nat} {a c : Int} {b : Nat} (hg : Nat.gcd p.natAbs q = 1) (hNq : N < q) (u : Far p q N a b c b) (h : (p * (b : Int) - a * (q : Int)) * (b : Int) = (c * (q : Int) - p * (b : Int)) * (b : Int)) : N = 1 ∧ q = 2 ∧ b = 1 ∧ c = a + 1 ∧ 2 * p = (2 * a + 1) * 2 / 1 - 0 * p ∨ N = 1 ∧ q = 2 := by
  right
  obtain ⟨h1, h2, h3, h4, h5, h6, h7, h8⟩ := u
  have e1 : (c - a) * (b : Int) = 1 := by rw [Int.sub_mul]; exact h6
  have hca : 1 ≤ c - a := by
    by_cases hx : 1 ≤ c - a
    · exact hx
    · have := Int.mul_le_mul_of_nonneg_right (show c - a ≤ 0 by omega) (show (0 : Int) ≤ b by omega)
      omega
  have hb1 : (b : Int) ≤ 1 := e1 ▸ mulp hca (by omega)
  have hb : b = 1 := by omega
  subst hb
  have hc : c = a + 1 := by omega
  subst hc
  have hN : N = 1 := by omega
  refine ⟨hN, ?_⟩
  have h9 : (a + 1) * (q : Int) = a * q + q := by rw [Int.add_mul, Int.one_mul]
  have h10 : 2 * p = (2 * a + 1) * (q : Int) := by
    have : (2 * a + 1) * (q : Int) = 2 * (a * q) + q := by rw [Int.add_mul, Int.one_mul, Int.mul_assoc]
    omega
  have hd : q ∣ 2 * p.natAbs := by
    have : (q : Int) ∣ 2 * p := ⟨2 * a + 1, by rw [h10, Int.mul_comm]⟩
    have := Int.natAbs_dvd_natAbs.mpr this
    rwa [Int.natAbs_mul, Int.natAbs_natCast] at this
  have h3 : q ∣ 2 := (Nat.Coprime.symm hg).dvd_of_dvd_mul_right hd
  have := Nat.le_of_dvd (by decide) h3
  omega
theorem walkF_neg {p : Int} {q N : Nat} (hg : Nat.gcd p.natAbs q = 1) (hN : 0 < N) (h : 1 < N ∨ q ≠ 2) : walkF (-p) q N = (-(walkF p q N).1, (walkF p q N).2) := by
  by_cases hNq : N < q
  · obtain ⟨a, c, b, d, u, e⟩ := walkF_big hg hN hNq
    rw [e, walkF_of (by rw [Int.natAbs_neg]; exact hg) hN hNq u.neg]
    unfold walkEnd
    dsimp only
    have e1 : (-p * (d : Int) - -c * (q : Int)) * (b : Int) = (c * (q : Int) - p * (d : Int)) * (b : Int) := by congr 1; rw [Int.neg_mul, Int.neg_mul]; omega
    have e2 : (-a * (q : Int) - -p * (b : Int)) * (d : Int) = (p * (b : Int) - a * (q : Int)) * (d : Int) := by congr 1; rw [Int.neg_mul, Int.neg_mul]; omega
    rw [e1, e2]
    by_cases ht : (p * (b : Int) - a * (q : Int)) * (d : Int) = (c * (q : Int) - p * (d : Int)) * (b : Int)
    · rw [if_pos ht, if_pos ht.symm]
      by_cases hbd : b = d
      · subst hbd
        rcases tie_small hg hNq u ht with ⟨x1, x2, _⟩ | ⟨x1, x2⟩ <;> omega
      · by_cases hlt : b ≤ d
        · rw [if_pos hlt, if_neg (by omega)]
        · rw [if_neg hlt, if_pos (by omega)]
    · rw [if_neg ht, if_neg (fun z => ht z.symm)]
      by_cases hlt : (p * (b : Int) - a * (q : Int)) * (d : Int) < (c * (q : Int) - p * (d : Int)) * (b : Int)
      · rw [if_pos hlt, if_neg (by omega)]
      · rw [if_neg hlt, if_pos (by omega)]
  · unfold walkF
    rw [if_pos (by omega), if_pos (by omega)]

/- the walk's answer is no farther than any fraction of so small a bottom -/
theorem walk_best {p : Int} {q N : Nat} (hg : Nat.gcd p.natAbs q = 1) (hN : 0 < N) {r : Int} {t : Nat} (ht : 0 < t) (htN : t ≤ N) :
    (p * ((walkF p q N).2 : Int) - (walkF p q N).1 * (q : Int)).natAbs * t ≤ (p * (t : Int) - r * (q : Int)).natAbs * (walkF p q N).2 := by
  by_cases hNq : N < q
  · obtain ⟨a, c, b, d, u, e⟩ := walkF_big hg hN hNq
    have hb := u.hb; have hd := u.hd; have lo := u.lo; have hi := u.hi; have det := u.det; have sm := u.sum
    have out : r * (b : Int) ≤ a * (t : Int) ∨ c * (t : Int) ≤ r * (d : Int) := by
      by_cases h1 : r * (b : Int) ≤ a * (t : Int)
      · exact .inl h1
      · by_cases h2 : c * (t : Int) ≤ r * (d : Int)
        · exact .inr h2
        · have := between_sum (r := r) (t := t) (by omega) (by omega) det (by omega) (by omega)
          omega
    have hq0 : (0 : Int) < q := by omega
    /- the distances of the neighbours -/
    have low : (p * (b : Int) - a * (q : Int)) * (d : Int) ≤ (c * (q : Int) - p * (d : Int)) * (b : Int) → (p * (b : Int) - a * (q : Int)) * (t : Int) ≤ ((p * (t : Int) - r * (q : Int)).natAbs : Int) * (b : Int) := by
      intro hle
      rcases out with h | h
      · have k := Int.mul_le_mul_of_nonneg_right h (Int.le_of_lt hq0)
        have k2 : (p * (b : Int) - a * (q : Int)) * (t : Int) ≤ (p * (t : Int) - r * (q : Int)) * (b : Int) := by grind
        exact Int.le_trans k2 (Int.mul_le_mul_of_nonneg_right Int.le_natAbs (by omega))
      · have k := Int.mul_le_mul_of_nonneg_right h (Int.le_of_lt hq0)
        have k2 : (c * (q : Int) - p * (d : Int)) * (t : Int) ≤ (r * (q : Int) - p * (t : Int)) * (d : Int) := by grind
        have k3 := Int.mul_le_mul_of_nonneg_right hle (show (0 : Int) ≤ t by omega)
        have k4 := Int.mul_le_mul_of_nonneg_right k2 (show (0 : Int) ≤ b by omega)
        have k5 : (p * (b : Int) - a * (q : Int)) * (t : Int) * (d : Int) ≤ (r * (q : Int) - p * (t : Int)) * (b : Int) * (d : Int) := by grind
        have k6 := Int.le_of_mul_le_mul_right k5 (show (0 : Int) < d by omega)
        refine Int.le_trans k6 (Int.mul_le_mul_of_nonneg_right ?_ (by omega))
        omega
    have high : (c * (q : Int) - p * (d : Int)) * (b : Int) ≤ (p * (b : Int) - a * (q : Int)) * (d : Int) → (c * (q : Int) - p * (d : Int)) * (t : Int) ≤ ((p * (t : Int) - r * (q : Int)).natAbs : Int) * (d : Int) := by
      intro hle
      rcases out with h | h
      · have k := Int.mul_le_mul_of_nonneg_right h (Int.le_of_lt hq0)
        have k2 : (p * (b : Int) - a * (q : Int)) * (t : Int) ≤ (p * (t : Int) - r * (q : Int)) * (b : Int) := by grind
        have k3 := Int.mul_le_mul_of_nonneg_right hle (show (0 : Int) ≤ t by omega)
        have k4 := Int.mul_le_mul_of_nonneg_right k2 (show (0 : Int) ≤ d by omega)
        have k5 : (c * (q : Int) - p * (d : Int)) * (t : Int) * (b : Int) ≤ (p * (t : Int) - r * (q : Int)) * (d : Int) * (b : Int) := by grind
        have k6 := Int.le_of_mul_le_mul_right k5 (show (0 : Int) < b by omega)
        exact Int.le_trans k6 (Int.mul_le_mul_of_nonneg_right Int.le_natAbs (by omega))
      · have k := Int.mul_le_mul_of_nonneg_right h (Int.le_of_lt hq0)
        have k2 : (c * (q : Int) - p * (d : Int)) * (t : Int) ≤ (r * (q : Int) - p * (t : Int)) * (d : Int) := by grind
        refine Int.le_trans k2 (Int.mul_le_mul_of_nonneg_right ?_ (by omega))
        omega
    have fin : ∀ (z : Int) (y : Nat), ((z.natAbs : Nat) : Int) * (t : Int) ≤ ((p * (t : Int) - r * (q : Int)).natAbs : Int) * (y : Int) → z.natAbs * t ≤ (p * (t : Int) - r * (q : Int)).natAbs * y := fun z y h => by
      rw [← Int.natCast_mul, ← Int.natCast_mul] at h
      exact Int.ofNat_le.mp h
    rw [e]
    unfold walkEnd
    dsimp only
    have a1 : ((p * (b : Int) - a * (q : Int)).natAbs : Int) = p * (b : Int) - a * (q : Int) := Int.natAbs_of_nonneg (by omega)
    have a2 : ((p * (d : Int) - c * (q : Int)).natAbs : Int) = c * (q : Int) - p * (d : Int) := by rw [Int.ofNat_natAbs_of_nonpos (by omega)]; omega
    by_cases h1 : (p * (b : Int) - a * (q : Int)) * (d : Int) = (c * (q : Int) - p * (d : Int)) * (b : Int)
    · rw [if_pos h1]
      by_cases h2 : b ≤ d
      · rw [if_pos h2]; exact fin _ _ (by rw [a1]; exact low (by omega))
      · rw [if_neg h2]; exact fin _ _ (by rw [a2]; exact high (by omega))
    · rw [if_neg h1]
      by_cases h2 : (p * (b : Int) - a * (q : Int)) * (d : Int) < (c * (q : Int) - p * (d : Int)) * (b : Int)
      · rw [if_pos h2]; exact fin _ _ (by rw [a1]; exact low (by omega))
      · rw [if_neg h2]; exact fin _ _ (by rw [a2]; exact high (by omega))
  · unfold walkF
    rw [if_pos (by omega)]
    simp
theorem walk_bound {p : Int} {q N : Nat} (hg : Nat.gcd p.natAbs q = 1) (hN : 0 < N) : 0 < (walkF p q N).2 ∧ (walkF p q N).2 ≤ N ∨ q ≤ N ∧ walkF p q N = (p, q) := by
  by_cases hNq : N < q
  · left
    obtain ⟨a, c, b, d, u, e⟩ := walkF_big hg hN hNq
    have := u.hb; have := u.hd; have := u.bN; have := u.dN
    rw [e]; unfold walkEnd; dsimp only
    split
    · split <;> (dsimp only; omega)
    · split <;> (dsimp only; omega)
  · right
    refine ⟨by omega, ?_⟩
    unfold walkF; rw [if_pos (by omega)]
end Mine
end
section
set_option Elab.async false
namespace Mine
theorem cmpZ_scale {x y x' y' M K : Int} (hM : 0 < M) (hK : 0 < K) (h1 : x * M = x' * K) (h2 : y * M = y' * K) : cmpZ x y = cmpZ x' y' := by
  have l : x < y ↔ x' < y' := by
    rw [← Int.mul_lt_mul_right hM, h1, h2, Int.mul_lt_mul_right hK]
  have e : x = y ↔ x' = y' := by
    constructor
    · intro h; subst h; exact Int.eq_of_mul_eq_mul_right (by omega) (h1.symm.trans h2)
    · intro h; subst h; exact Int.eq_of_mul_eq_mul_right (by omega) (h1.trans h2.symm)
  unfold cmpZ
  by_cases a : x < y
  · rw [if_pos a, if_pos (l.mp a)]
  · rw [if_neg a, if_neg (fun h => a (l.mpr h))]
    by_cases b : x = y
    · rw [if_pos b, if_pos (e.mp b)]
    · rw [if_neg b, if_neg (fun h => b (e.mpr h))]
theorem radd_eq {p1 p2 : Int} {q1 q2 : Nat} (h1 : 0 < q1) (h2 : 0 < q2) :
    raddP p1 q1 p2 q2 * ((q1 : Int) * (q2 : Int)) = (raddQ p1 q1 p2 q2 : Int) * (p1 * (q2 : Int) + p2 * (q1 : Int)) ∧ 0 < raddQ p1 q1 p2 q2 ∧
    (raddP p1 q1 p2 q2).natAbs ≤ p1.natAbs * q2 + p2.natAbs * q1 ∧ raddQ p1 q1 p2 q2 ≤ q1 * q2 := by
  unfold raddP raddQ
  have hg : 0 < Nat.gcd q1 q2 := Nat.gcd_pos_of_pos_left _ h1
  obtain ⟨u, hu⟩ := Nat.gcd_dvd_left q1 q2
  obtain ⟨v, hv⟩ := Nat.gcd_dvd_right q1 q2
  generalize Nat.gcd q1 q2 = g at *
  have eu : q1 / g = u := by rw [hu, Nat.mul_div_cancel_left _ hg]
  have ev : q2 / g = v := by rw [hv, Nat.mul_div_cancel_left _ hg]
  rw [eu, ev]
  have u0 : 0 < u := by rcases Nat.eq_zero_or_pos u with h | h; · subst h; omega
                        · exact h
  have v0 : 0 < v := by rcases Nat.eq_zero_or_pos v with h | h; · subst h; omega
                        · exact h
  have hT : (p1 * (v : Int) + p2 * (u : Int)).natAbs ≤ p1.natAbs * q2 + p2.natAbs * q1 := by
    have a1 : (p1 * (v : Int)).natAbs ≤ p1.natAbs * q2 := by
      rw [Int.natAbs_mul, Int.natAbs_natCast]; exact Nat.mul_le_mul_left _ (by rw [hv]; exact Nat.le_mul_of_pos_left _ hg)
    have a2 : (p2 * (u : Int)).natAbs ≤ p2.natAbs * q1 := by
      rw [Int.natAbs_mul, Int.natAbs_natCast]; exact Nat.mul_le_mul_left _ (by rw [hu]; exact Nat.le_mul_of_pos_left _ hg)
    omega
  have eT : p1 * (q2 : Int) + p2 * (q1 : Int) = (g : Int) * (p1 * (v : Int) + p2 * (u : Int)) := by
    rw [hu, hv, Int.natCast_mul, Int.natCast_mul]; grind
  rw [eT]
  generalize hTT : p1 * (v : Int) + p2 * (u : Int) = T at *
  by_cases h0 : T = 0
  · rw [if_pos h0, if_pos h0, h0]
    refine ⟨by simp, by decide, by simp, ?_⟩
    exact Nat.mul_pos h1 h2
  · rw [if_neg h0, if_neg h0]
    have ho : 0 < Nat.gcd T.natAbs g := Nat.gcd_pos_of_pos_right _ hg
    have d1 : Nat.gcd T.natAbs g ∣ T.natAbs := Nat.gcd_dvd_left _ _
    have d2 : Nat.gcd T.natAbs g ∣ g := Nat.gcd_dvd_right _ _
    generalize Nat.gcd T.natAbs g = o at *
    have d3 : (o : Int) ∣ T := Int.ofNat_dvd_left.mpr d1
    obtain ⟨T', hT'⟩ := d3
    obtain ⟨g', hg'⟩ := d2
    have e1 : T / (o : Int) = T' := by rw [hT', Int.mul_ediv_cancel_left _ (by omega)]
    have e2 : q2 / o = g' * v := by rw [hv, hg', Nat.mul_assoc, Nat.mul_div_cancel_left _ ho]
    rw [e1, e2]
    have g0 : 0 < g' := by rcases Nat.eq_zero_or_pos g' with h | h; · subst h; omega
                           · exact h
    refine ⟨?_, Nat.mul_pos u0 (Nat.mul_pos g0 v0), ?_, ?_⟩
    · rw [hT', hu, hv, hg']
      simp only [Int.natCast_mul]
      grind
    · refine Nat.le_trans ?_ hT
      rw [hT', Int.natAbs_mul, Int.natAbs_natCast]
      exact Nat.le_mul_of_pos_left _ ho
    · rw [hu]
      have : g' * v ≤ q2 := by rw [hv, hg', Nat.mul_assoc]; exact Nat.le_mul_of_pos_left _ ho
      exact Nat.mul_le_mul (Nat.le_mul_of_pos_left _ hg) this
theorem near_cmp {p p1 p2 : Int} {q q1 q2 : Nat} (h : 0 < q) (h1 : 0 < q1) (h2 : 0 < q2) :
    nearOrd p q p1 q1 p2 q2 = cmpZ (((p * (q1 : Int) - p1 * (q : Int)).natAbs : Int) * (q2 : Int)) (((p * (q2 : Int) - p2 * (q : Int)).natAbs : Int) * (q1 : Int)) := by
  unfold nearOrd
  obtain ⟨a1, a2, _, _⟩ := radd_eq (p1 := p) (q1 := q) (p2 := -p1) (q2 := q1) h h1
  obtain ⟨b1, b2, _, _⟩ := radd_eq (p1 := p) (q1 := q) (p2 := -p2) (q2 := q2) h h2
  have abs : ∀ {P : Int} {k : Nat} {x y : Nat} {Q : Nat} {D : Int}, P * ((x : Int) * (y : Int)) = (Q : Int) * D → ((P.natAbs : Nat) : Int) * ((x : Int) * (y : Int)) = (Q : Int) * ((D.natAbs : Nat) : Int) := by
    intro P k x y Q D e
    have := congrArg Int.natAbs e
    rw [Int.natAbs_mul, Int.natAbs_mul, Int.natAbs_mul, Int.natAbs_natCast, Int.natAbs_natCast, Int.natAbs_natCast] at this
    rw [← Int.natCast_mul, ← Int.natCast_mul, ← Int.natCast_mul, this]
  have a3 := abs (k := 0) a1
  have b3 := abs (k := 0) b1
  have ed1 : p * (q1 : Int) + -p1 * (q : Int) = p * (q1 : Int) - p1 * (q : Int) := by rw [Int.neg_mul]; omega
  have ed2 : p * (q2 : Int) + -p2 * (q : Int) = p * (q2 : Int) - p2 * (q : Int) := by rw [Int.neg_mul]; omega
  rw [ed1] at a3; rw [ed2] at b3
  have q0 : (0 : Int) < q := by omega
  have q10 : (0 : Int) < q1 := by omega
  have q20 : (0 : Int) < q2 := by omega
  refine cmpZ_scale (M := (q : Int) * (q1 : Int) * (q2 : Int)) (K := (raddQ p q (-p1) q1 : Int) * (raddQ p q (-p2) q2 : Int)) (Int.mul_pos (Int.mul_pos q0 q10) q20) (Int.mul_pos (by omega) (by omega)) ?_ ?_ <;> grind
/- which of two neighbours the code takes -/
theorem nearer_far {p a c : Int} {q N b d : Nat} (hq : 0 < q) (u : Far p q N a b c d) : nearerF p q a b c d = walkEnd p q ⟨a, b, c, d⟩ := by
  unfold nearerF walkEnd
  rw [near_cmp hq u.hb u.hd]
  have lo := u.lo; have hi := u.hi
  have a1 : ((p * (b : Int) - a * (q : Int)).natAbs : Int) = p * (b : Int) - a * (q : Int) := Int.natAbs_of_nonneg (by omega)
  have a2 : ((p * (d : Int) - c * (q : Int)).natAbs : Int) = c * (q : Int) - p * (d : Int) := by rw [Int.ofNat_natAbs_of_nonpos (by omega)]; omega
  rw [a1, a2]
  generalize (p * (b : Int) - a * (q : Int)) * (d : Int) = x
  generalize (c * (q : Int) - p * (d : Int)) * (b : Int) = y
  unfold cmpZ
  by_cases h1 : x < y
  · simp only [h1, if_true, if_pos]
    rw [if_neg (by decide), if_pos (by decide), if_neg (by omega)]
  · simp only [h1, if_false]
    by_cases h2 : x = y
    · simp [h2]
    · simp [h2]
theorem nearer_far2 {p a c : Int} {q N b d : Nat} (hq : 0 < q) (u : Far p q N a b c d) (ht : (p * (b : Int) - a * (q : Int)) * (d : Int) = (c * (q : Int) - p * (d : Int)) * (b : Int) → b ≠ d) : nearerF p q c d a b = walkEnd p q ⟨a, b, c, d⟩ := by
  unfold nearerF walkEnd
  rw [near_cmp hq u.hd u.hb]
  have lo := u.lo; have hi := u.hi
  have a1 : ((p * (b : Int) - a * (q : Int)).natAbs : Int) = p * (b : Int) - a * (q : Int) := Int.natAbs_of_nonneg (by omega)
  have a2 : ((p * (d : Int) - c * (q : Int)).natAbs : Int) = c * (q : Int) - p * (d : Int) := by rw [Int.ofNat_natAbs_of_nonpos (by omega)]; omega
  rw [a1, a2]
  dsimp only
  generalize (p * (b : Int) - a * (q : Int)) * (d : Int) = x at *
  generalize (c * (q : Int) - p * (d : Int)) * (b : Int) = y at *
  unfold cmpZ
  by_cases h1 : y < x
  · simp only [h1, if_true, if_pos]
    rw [if_neg (by decide), if_pos (by decide), if_neg (by omega), if_neg (by omega)]
  · simp only [h1, if_false]
    by_cases h2 : y = x
    · have := ht h2.symm
      simp only [h2, if_true]
      by_cases h3 : d ≤ b
      · rw [if_pos h3, if_neg (by omega)]
      · rw [if_neg h3, if_pos (by omega)]
    · rw [if_neg (by omega : ¬ x = y), if_pos (by omega : x < y), if_neg h2]
      rw [if_neg (by decide), if_neg (by decide)]
end Mine
end
section
set_option Elab.async false
namespace Mine
theorem cf_step {P Q : Nat} (h : 0 < Q) : cf (P : Int) Q = ((P / Q : Nat) : Int) :: cf (Q : Int) (P % Q) := by
  rw [cf_pos h, ← Int.natCast_ediv, ← Int.natCast_emod, Int.toNat_natCast]

/- the state of the loop over the terms, from its second turn on -/
structure Mid (p : Int) (q : Nat) (s : St4) (P Q : Nat) : Prop where
  det : s.h1 * s.k0 - s.h0 * s.k1 = 1 ∨ s.h1 * s.k0 - s.h0 * s.k1 = -1
  rp : p = s.h1 * (P : Int) + s.h0 * (Q : Int)
  rq : (q : Int) = s.k1 * (P : Int) + s.k0 * (Q : Int)
  k0 : 0 ≤ s.k0
  k01 : s.k0 ≤ s.k1
  k1 : 1 ≤ s.k1
  lt : Q < P
  cop : Nat.gcd P Q = 1

def stp (s : St4) (a : Int) : St4 := ⟨s.h1, s.k1, a * s.h1 + s.h0, a * s.k1 + s.k0⟩
theorem Mid.step {p : Int} {q : Nat} {s : St4} {P Q : Nat} (m : Mid p q s P Q) (hQ : 0 < Q) : Mid p q (stp s ((P / Q : Nat) : Int)) Q (P % Q) := by
  obtain ⟨h1, h2, h3, h4, h5, h6, h7, h8⟩ := m
  have e := Nat.div_add_mod P Q
  have l := Nat.mod_lt P hQ
  have a1 : 1 ≤ P / Q := (Nat.le_div_iff_mul_le hQ).mpr (by omega)
  have eI : (P : Int) = (Q : Int) * ((P / Q : Nat) : Int) + ((P % Q : Nat) : Int) := by rw [← Int.natCast_mul]; omega
  have hgcd : Nat.gcd Q (P % Q) = 1 := by rw [Nat.gcd_comm, ← Nat.gcd_rec, Nat.gcd_comm]; exact h8
  generalize hA : ((P / Q : Nat) : Int) = A at *
  have hA1 : 1 ≤ A := by omega
  generalize hR : P % Q = R at *
  have k2 := mulp hA1 h6
  refine ⟨?_, ?_, ?_, ?_, ?_, ?_, l, hgcd⟩
  · show (A * s.h1 + s.h0) * s.k1 - s.h1 * (A * s.k1 + s.k0) = 1 ∨ (A * s.h1 + s.h0) * s.k1 - s.h1 * (A * s.k1 + s.k0) = -1
    have : (A * s.h1 + s.h0) * s.k1 - s.h1 * (A * s.k1 + s.k0) = -(s.h1 * s.k0 - s.h0 * s.k1) := by grind
    omega
  · show p = (A * s.h1 + s.h0) * (Q : Int) + s.h1 * (R : Int)
    rw [h2, eI]; grind
  · show (q : Int) = (A * s.k1 + s.k0) * (Q : Int) + s.k1 * (R : Int)
    rw [h3, eI]; grind
  · show 0 ≤ s.k1; omega
  · show s.k1 ≤ A * s.k1 + s.k0; omega
  · show 1 ≤ A * s.k1 + s.k0; omega
/- the first turn -/
theorem Mid.first {p : Int} {q : Nat} (hq : 0 < q) (hg : Nat.gcd p.natAbs q = 1) : Mid p q ⟨1, 0, p / (q : Int), 1⟩ q (p % (q : Int)).toNat := by
  have h1 := Int.mul_ediv_add_emod p q
  have h2 := Int.emod_nonneg p (show (q : Int) ≠ 0 by omega)
  have h3 := Int.emod_lt_of_pos p (show (0 : Int) < q by omega)
  have e : ((p % (q : Int)).toNat : Int) = p % (q : Int) := by omega
  refine ⟨.inr (by simp), ?_, ?_, by show (0 : Int) ≤ 0; decide, by show (0 : Int) ≤ 1; decide, by show (1 : Int) ≤ 1; decide, by omega, ?_⟩
  · show p = p / (q : Int) * (q : Int) + 1 * _
    rw [e, Int.mul_comm]; omega
  · show (q : Int) = 1 * (q : Int) + 0 * _
    omega
  · have : ((Nat.gcd q (p % (q : Int)).toNat : Nat) : Int) ∣ p := by
      have d1 : ((Nat.gcd q (p % (q : Int)).toNat : Nat) : Int) ∣ (q : Int) := Int.natCast_dvd_natCast.mpr (Nat.gcd_dvd_left _ _)
      have d2 : ((Nat.gcd q (p % (q : Int)).toNat : Nat) : Int) ∣ p % (q : Int) := by rw [← e]; exact Int.natCast_dvd_natCast.mpr (Nat.gcd_dvd_right _ _)
      have d3 := Int.dvd_add (Int.dvd_mul_of_dvd_left (c := p / (q : Int)) d1) d2
      rwa [h1] at d3
    have d3 : Nat.gcd q (p % (q : Int)).toNat ∣ p.natAbs := Int.ofNat_dvd_left.mp this
    have d4 : Nat.gcd q (p % (q : Int)).toNat ∣ Nat.gcd p.natAbs q := Nat.dvd_gcd d3 (Nat.gcd_dvd_left _ _)
    rw [hg] at d4
    exact Nat.dvd_one.mp d4
/- the distances of the two last convergents -/
theorem Mid.d1 {p : Int} {q : Nat} {s : St4} {P Q : Nat} (m : Mid p q s P Q) : p * s.k1 - s.h1 * (q : Int) = -((s.h1 * s.k0 - s.h0 * s.k1) * (Q : Int)) := by
  rw [m.rq]; conv => lhs; rw [m.rp]
  grind
theorem Mid.d0 {p : Int} {q : Nat} {s : St4} {P Q : Nat} (m : Mid p q s P Q) : p * s.k0 - s.h0 * (q : Int) = (s.h1 * s.k0 - s.h0 * s.k1) * (P : Int) := by
  rw [m.rq]; conv => lhs; rw [m.rp]
  grind
theorem Mid.kq {p : Int} {q : Nat} {s : St4} {P Q : Nat} (m : Mid p q s P Q) : s.k1 ≤ q ∧ (0 < Q → 2 * s.k1 ≤ q) := by
  have h3 := m.rq
  have h4 := Int.mul_nonneg m.k0 (show (0 : Int) ≤ Q by omega)
  have hlt := m.lt
  have hk := m.k1
  refine ⟨?_, fun hQ => ?_⟩
  · have := mulp (x := (P : Int)) (y := s.k1) (by omega) hk
    have := Int.mul_comm s.k1 (P : Int)
    omega
  · have h5 : 2 * s.k1 ≤ (P : Int) * s.k1 := Int.mul_le_mul_of_nonneg_right (by omega) (by omega)
    have := Int.mul_comm s.k1 (P : Int)
    omega
theorem Mid.abs1 {p : Int} {q : Nat} {s : St4} {P Q : Nat} (m : Mid p q s P Q) (hq : 0 < q) (hPq : P ≤ q) : s.h1.natAbs ≤ p.natAbs + 1 := by
  have h1 := m.d1
  have h2 := m.det
  have hk := m.kq.1
  have hlt := m.lt
  have hk1 := m.k1
  have e1 : (p * s.k1).natAbs ≤ p.natAbs * q := by rw [Int.natAbs_mul]; exact Nat.mul_le_mul_left _ (by omega)
  have e2 : ((s.h1 * s.k0 - s.h0 * s.k1) * (Q : Int)).natAbs ≤ q := by
    rcases h2 with h | h <;> rw [h] <;> omega
  have e3 : (s.h1 * (q : Int)).natAbs = s.h1.natAbs * q := by rw [Int.natAbs_mul, Int.natAbs_natCast]
  have e4 : s.h1.natAbs * q ≤ (p.natAbs + 1) * q := by
    rw [Nat.add_mul, Nat.one_mul, ← e3]; omega
  exact Nat.le_of_mul_le_mul_right e4 hq
end Mine
end
section
set_option Elab.async false
namespace Mine
theorem cf_zero' (P : Int) : cf P 0 = [] := cf_zero P
theorem Mid.far {p : Int} {q N : Nat} {s : St4} {P Q : Nat} (m : Mid p q s P Q) {mm : Int} {k1 k2 : Nat} (ek : s.k1 = (k1 : Int)) (h0 : 0 ≤ mm) (h1 : mm < ((P / Q : Nat) : Int)) (ek2 : mm * s.k1 + s.k0 = (k2 : Int)) (hk2 : 0 < k2) (hN1 : k1 ≤ N) (hN2 : k2 ≤ N) (hN : N < k1 + k2) (hQ : 0 < Q) :
    (s.h1 * s.k0 - s.h0 * s.k1 = -1 ∧ Far p q N s.h1 k1 (mm * s.h1 + s.h0) k2) ∨ (s.h1 * s.k0 - s.h0 * s.k1 = 1 ∧ Far p q N (mm * s.h1 + s.h0) k2 s.h1 k1) := by
  have d1 := m.d1
  have d0 := m.d0
  have hk := m.k1
  have e := Nat.div_add_mod P Q
  have hpos : 0 < (P : Int) - mm * (Q : Int) := by
    have h2 : (mm + 1) * (Q : Int) ≤ ((P / Q : Nat) : Int) * (Q : Int) := Int.mul_le_mul_of_nonneg_right (by omega) (by omega)
    have h3 : ((P / Q : Nat) : Int) * (Q : Int) ≤ P := by
      rw [← Int.natCast_mul, Nat.mul_comm]; omega
    rw [Int.add_mul] at h2
    omega
  have d2 : p * (k2 : Int) - (mm * s.h1 + s.h0) * (q : Int) = (s.h1 * s.k0 - s.h0 * s.k1) * ((P : Int) - mm * (Q : Int)) := by
    rw [← ek2]; grind
  have dt : s.h1 * (k2 : Int) - (mm * s.h1 + s.h0) * (k1 : Int) = s.h1 * s.k0 - s.h0 * s.k1 := by
    rw [← ek2, ← ek]; grind
  rw [ek] at d1
  rcases m.det with h | h
  · right
    refine ⟨h, hk2, by omega, hN2, hN1, by omega, by rw [dt, h], ?_, ?_⟩
    · rw [h, Int.one_mul] at d2; omega
    · rw [show s.h1 * s.k0 - s.h0 * (k1 : Int) = 1 by rw [← ek]; exact h] at d1; omega
  · left
    refine ⟨h, by omega, hk2, hN1, hN2, by omega, by omega, ?_, ?_⟩
    · rw [show s.h1 * s.k0 - s.h0 * (k1 : Int) = -1 by rw [← ek]; exact h] at d1; omega
    · rw [h] at d2; omega
theorem nr_end {p : Int} {q N : Nat} (hNq : N < q) : ∀ (Q P : Nat) (s : St4), Mid p q s P Q → s.k1 ≤ N → ∃ P' Q', Mid p q (nrState N (cf (P : Int) Q) s) P' Q' ∧ 0 < Q' ∧ (nrState N (cf (P : Int) Q) s).k1 ≤ N ∧
    (N : Int) < ((P' / Q' : Nat) : Int) * (nrState N (cf (P : Int) Q) s).k1 + (nrState N (cf (P : Int) Q) s).k0 ∧ P' ≤ P := by
  intro Q
  induction Q using Nat.strongRecOn with
  | _ Q ih =>
    intro P s m hk
    rcases Nat.eq_zero_or_pos Q with h0 | hQ
    · exfalso
      subst h0
      have h1 := m.cop
      rw [Nat.gcd_zero_right] at h1
      have h2 := m.rq
      subst h1
      omega
    · rw [cf_step hQ, nrState]
      have hA : (((P / Q : Nat) : Int) * s.k1 + s.k0).natAbs = ((P / Q : Nat) : Int) * s.k1 + s.k0 := by
        have := Int.mul_nonneg (Int.natCast_nonneg (P / Q)) (show 0 ≤ s.k1 by have := m.k1; omega)
        have := m.k0
        omega
      by_cases hlt : N < (((P / Q : Nat) : Int) * s.k1 + s.k0).natAbs
      · rw [if_pos hlt]
        exact ⟨P, Q, m, hQ, hk, by omega, Nat.le_refl _⟩
      · rw [if_neg hlt]
        have m' := m.step hQ
        obtain ⟨P', Q', h1, h2, h3, h4, h5⟩ := ih (P % Q) (Nat.mod_lt P hQ) Q (stp s ((P / Q : Nat) : Int)) m' (by show ((P / Q : Nat) : Int) * s.k1 + s.k0 ≤ N; omega)
        have := m.lt
        exact ⟨P', Q', h1, h2, h3, h4, by omega⟩
theorem nr_first {p : Int} {q N : Nat} (hq : 0 < q) (hN : 0 < N) : nrState N (cf p q) ⟨0, 1, 1, 0⟩ = nrState N (cf (q : Int) (p % (q : Int)).toNat) ⟨1, 0, p / (q : Int), 1⟩ := by
  rw [cf_pos hq, nrState]
  rw [if_neg (by simp; omega)]
  simp
/- the two that the code weighs -/
theorem nr_ok {w : Nat} {p : Int} {q N : Nat} (hg : Nat.gcd p.natAbs q = 1) (hN : 0 < N) (hNq : N < q) (hp : p.natAbs ≤ 200) (hq : q ≤ 120) (hw : 2 ^ 9 ≤ 2 ^ w)
    (hts : ∀ a ∈ cf p q, a.natAbs < 2 ^ 20) (hcs : ∀ c ∈ convs (cf p q) 0 1 1 0, c.1.natAbs < 2 ^ 20 ∧ c.2.natAbs < 2 ^ 20) (hln : (cf p q).length ≤ 100000) : NrOk w p q N (walkF p q N) := by
  have hq0 : 0 < q := by omega
  refine ⟨hNq, by omega, ⟨hq0, by omega, by omega⟩, hts, hcs, hln, ?_⟩
  rw [nr_first hq0 hN]
  obtain ⟨P, Q, m, hQ, hk, hbig, hPq⟩ := nr_end hNq _ _ _ (Mid.first hq0 hg) (by show (1 : Int) ≤ N; omega)
  have hfin : nrState N (cf (q : Int) (p % (q : Int)).toNat) ⟨1, 0, p / (q : Int), 1⟩ = nrState N (cf (q : Int) (p % (q : Int)).toNat) ⟨1, 0, p / (q : Int), 1⟩ := rfl
  generalize hs : nrState N (cf (q : Int) (p % (q : Int)).toNat) ⟨1, 0, p / (q : Int), 1⟩ = s at m hk hbig
  obtain ⟨k1, ek⟩ := Int.eq_ofNat_of_zero_le (show 0 ≤ s.k1 by have := m.k1; omega)
  have hk1 := m.k1
  have hk0 := m.k0
  have hk01 := m.k01
  have k1pos : (0 : Int) < (k1 : Int) := by omega
  have mlo : ((N : Int) - s.k0) / (k1 : Int) * (k1 : Int) ≤ (N : Int) - s.k0 := Int.ediv_mul_le _ (by omega)
  have mhi := Int.lt_ediv_add_one_mul_self ((N : Int) - s.k0) k1pos
  have m0 : 0 ≤ ((N : Int) - s.k0) / (k1 : Int) := Int.ediv_nonneg (by omega) (by omega)
  generalize hmm : ((N : Int) - s.k0) / (k1 : Int) = mm at *
  have mN : mm ≤ N := by
    have := Int.mul_le_mul_of_nonneg_left (show (1 : Int) ≤ k1 by omega) m0
    omega
  have mlt : mm < ((P / Q : Nat) : Int) := by
    by_cases h : mm < ((P / Q : Nat) : Int)
    · exact h
    · have := Int.mul_le_mul_of_nonneg_right (show ((P / Q : Nat) : Int) ≤ mm by omega) (show 0 ≤ s.k1 by omega)
      rw [ek] at this hbig
      omega
  have hm1 : (mm + 1) * (k1 : Int) = mm * (k1 : Int) + k1 := by rw [Int.add_mul, Int.one_mul]
  have mk0 : 0 ≤ mm * (k1 : Int) := Int.mul_nonneg m0 (by omega)
  obtain ⟨k2, ek2⟩ := Int.eq_ofNat_of_zero_le (show 0 ≤ mm * s.k1 + s.k0 by rw [ek]; omega)
  have k2pos : 0 < k2 := by
    rw [ek] at ek2
    by_cases h : s.k0 = 0
    · have : 1 ≤ mm := by
        by_cases h1 : 1 ≤ mm
        · exact h1
        · have : mm = 0 := by omega
          subst this
          omega
      have := mulp this (show (1 : Int) ≤ k1 by omega)
      omega
    · omega
  have ek2' := ek2
  rw [ek] at ek2'
  have far := m.far ek m0 mlt ek2 k2pos (N := N) (by omega) (by omega) (by omega) hQ
  have b1 := m.abs1 hq0 hPq
  /- the bound of the other top -/
  have bh2 : (mm * s.h1 + s.h0).natAbs ≤ p.natAbs + 1 := by
    have hpos : (p * (k2 : Int) - (mm * s.h1 + s.h0) * (q : Int)).natAbs ≤ q := by
      have d2 : p * (k2 : Int) - (mm * s.h1 + s.h0) * (q : Int) = (s.h1 * s.k0 - s.h0 * s.k1) * ((P : Int) - mm * (Q : Int)) := by
        have d1 := m.d1
        have d0 := m.d0
        rw [← ek2]; grind
      have x1 := Int.mul_nonneg m0 (show (0 : Int) ≤ Q by omega)
      have x2 : mm * (Q : Int) ≤ ((P / Q : Nat) : Int) * (Q : Int) := Int.mul_le_mul_of_nonneg_right (by omega) (by omega)
      have x3 : ((P / Q : Nat) : Int) * (Q : Int) ≤ P := by
        have e := Nat.div_add_mod P Q
        rw [← Int.natCast_mul, Nat.mul_comm]; omega
      rw [d2]
      rcases m.det with h | h <;> rw [h] <;> omega
    have e1 : (p * (k2 : Int)).natAbs ≤ p.natAbs * q := by rw [Int.natAbs_mul]; exact Nat.mul_le_mul_left _ (by omega)
    have e3 : ((mm * s.h1 + s.h0) * (q : Int)).natAbs = (mm * s.h1 + s.h0).natAbs * q := by rw [Int.natAbs_mul, Int.natAbs_natCast]
    have e4 : (mm * s.h1 + s.h0).natAbs * q ≤ (p.natAbs + 1) * q := by
      rw [Nat.add_mul, Nat.one_mul, ← e3]; omega
    exact Nat.le_of_mul_le_mul_right e4 hq0
  have bd : ∀ (h : Int) (k : Nat), h.natAbs ≤ p.natAbs + 1 → 0 < k → k ≤ 120 → (raddP p q (-h) k).natAbs < 2 ^ 27 ∧ raddQ p q (-h) k < 2 ^ 27 := by
    intro h k z1 z2 z3
    obtain ⟨_, _, r3, r4⟩ := radd_eq (p1 := p) (q1 := q) (p2 := -h) (q2 := k) hq0 z2
    rw [Int.natAbs_neg] at r3
    have y1 : p.natAbs * k ≤ 200 * 120 := Nat.mul_le_mul hp z3
    have y2 : h.natAbs * q ≤ 201 * 120 := Nat.mul_le_mul (by omega) hq
    have y3 : q * k ≤ 120 * 120 := Nat.mul_le_mul hq z3
    constructor <;> omega
  obtain ⟨c1, c2⟩ := bd s.h1 k1 b1 (by omega) (by omega)
  obtain ⟨c3, c4⟩ := bd (mm * s.h1 + s.h0) k2 bh2 k2pos (by omega)
  have h0b : s.h0.natAbs ≤ p.natAbs + 1 := by
    have hx : (p * s.k0 - s.h0 * (q : Int)).natAbs ≤ q := by
      rw [m.d0]
      rcases m.det with h | h <;> rw [h] <;> omega
    have e1 : (p * s.k0).natAbs ≤ p.natAbs * q := by rw [Int.natAbs_mul]; exact Nat.mul_le_mul_left _ (by omega)
    have e3 : (s.h0 * (q : Int)).natAbs = s.h0.natAbs * q := by rw [Int.natAbs_mul, Int.natAbs_natCast]
    have e4 : s.h0.natAbs * q ≤ (p.natAbs + 1) * q := by
      rw [Nat.add_mul, Nat.one_mul, ← e3]; omega
    exact Nat.le_of_mul_le_mul_right e4 hq0
  refine ⟨s.h0, s.k0, s.h1, k1, mm, mm * s.h1 + s.h0, k2, ?_, by omega, by omega, by omega, ⟨by omega, by omega, by omega⟩, ?_, by omega, rfl, by omega, by rw [ek2']; rfl, ⟨k2pos, by omega, by omega⟩, ⟨c1, c3, c2, c4⟩, ?_⟩
  · rw [← ek]
  · rw [hmm]
  · rcases far with ⟨hd, far⟩ | ⟨hd, far⟩
    · rw [walkF_of hg hN hNq far, nearer_far hq0 far]
    · rw [walkF_of hg hN hNq far, nearer_far2 hq0 far]
      intro ht hbd
      subst hbd
      have hsm : N = 1 ∧ q = 2 := by
        rcases tie_small hg hNq far ht with ⟨x1, x2, _⟩ | ⟨x1, x2⟩ <;> exact ⟨x1, x2⟩
      obtain ⟨rfl, rfl⟩ := hsm
      have hR : (p % ((2 : Nat) : Int)).toNat = 1 := by
        have hc := (Mid.first hq0 hg).cop
        have h2 := Int.emod_nonneg p (show ((2 : Nat) : Int) ≠ 0 by decide)
        have h3 := Int.emod_lt_of_pos p (show (0 : Int) < ((2 : Nat) : Int) by decide)
        rcases Nat.eq_zero_or_pos (p % ((2 : Nat) : Int)).toNat with h | h
        · rw [h] at hc; exact absurd hc (by decide)
        · omega
      rw [hR, cf_step (by decide), nrState, if_pos (by simp)] at hs
      rw [← hs] at hd
      simp at hd
end Mine
end
section
set_option Elab.async false
namespace Mine
def GoodC (p : Int) (q : Nat) (c : Int × Int) : Prop := c.1.natAbs ≤ p.natAbs + 1 ∧ 1 ≤ c.2 ∧ c.2 ≤ q ∧ walkF p q c.2.natAbs = (c.1, c.2.natAbs)
theorem good_of {p : Int} {q : Nat} (hq : 0 < q) (hg : Nat.gcd p.natAbs q = 1) {s : St4} {P Q : Nat} (m : Mid p q s P Q) (hk0 : 1 ≤ s.k0) (hP : P ≤ q) : GoodC p q (s.h1, s.k1) := by
  have hk1 := m.k1
  have hk01 := m.k01
  obtain ⟨hkq, hkq2⟩ := m.kq
  refine ⟨m.abs1 hq hP, hk1, hkq, ?_⟩
  obtain ⟨k1, ek⟩ := Int.eq_ofNat_of_zero_le (show 0 ≤ s.k1 by omega)
  obtain ⟨k0, ek0⟩ := Int.eq_ofNat_of_zero_le (show 0 ≤ s.k0 by omega)
  have e1 : s.k1.natAbs = k1 := by omega
  show walkF p q s.k1.natAbs = (s.h1, s.k1.natAbs)
  rw [e1]
  rcases Nat.eq_zero_or_pos Q with h0 | hQ
  · subst h0
    have h1 := m.cop
    rw [Nat.gcd_zero_right] at h1
    subst h1
    have h2 := m.rq
    have h3 := m.rp
    have : k1 = q := by omega
    have : s.h1 = p := by omega
    unfold walkF
    rw [if_pos (by omega)]
    congr 1 <;> omega
  · have hlt := m.lt
    have := hkq2 hQ
    have hPQ : 1 ≤ P / Q := (Nat.le_div_iff_mul_le hQ).mpr (by omega)
    have far := m.far (N := k1) (mm := 0) ek (by omega) (Int.ofNat_lt.mpr hPQ) (k2 := k0) (by rw [ek0]; omega) (by omega) (Nat.le_refl _) (by omega) (by omega) hQ
    have d1 := m.d1
    have d0 := m.d0
    have cmp1 : (Q : Int) * (k0 : Int) < (P : Int) * (k1 : Int) := by
      have x1 : (Q : Int) * (k0 : Int) ≤ (Q : Int) * (k1 : Int) := Int.mul_le_mul_of_nonneg_left (by omega) (by omega)
      have x2 : (Q : Int) * (k1 : Int) < (P : Int) * (k1 : Int) := Int.mul_lt_mul_of_pos_right (by omega) (by omega)
      omega
    have eh : 0 * s.h1 + s.h0 = s.h0 := by omega
    rw [eh] at far
    rw [ek] at d1
    rw [ek0] at d0
    rcases far with ⟨hd, far⟩ | ⟨hd, far⟩
    · rw [walkF_of hg (by omega) (by omega) far]
      unfold walkEnd
      dsimp only
      rw [ek, ek0] at hd
      rw [ek0] at d1
      rw [ek] at d0
      rw [hd] at d1 d0
      have y1 : p * (k1 : Int) - s.h1 * (q : Int) = Q := by omega
      have y2 : s.h0 * (q : Int) - p * (k0 : Int) = P := by omega
      rw [y1, y2, if_neg (by omega), if_pos cmp1]
    · rw [walkF_of hg (by omega) (by omega) far]
      unfold walkEnd
      dsimp only
      rw [ek, ek0] at hd
      rw [ek0] at d1
      rw [ek] at d0
      rw [hd] at d1 d0
      have y1 : p * (k0 : Int) - s.h0 * (q : Int) = P := by omega
      have y2 : s.h1 * (q : Int) - p * (k1 : Int) = Q := by omega
      rw [y1, y2, if_neg (by omega), if_neg (by omega)]
theorem convs_mid {p : Int} {q : Nat} (hq : 0 < q) (hg : Nat.gcd p.natAbs q = 1) : ∀ (Q P : Nat) (s : St4), Mid p q s P Q → P ≤ q →
    (∀ c ∈ convs (cf (P : Int) Q) s.h0 s.k0 s.h1 s.k1, GoodC p q c) ∧ (0 < Q → (convs (cf (P : Int) Q) s.h0 s.k0 s.h1 s.k1).getLast? = some (p, (q : Int))) ∧ (∀ a ∈ cf (P : Int) Q, a.natAbs ≤ q) ∧ (cf (P : Int) Q).length ≤ Q := by
  intro Q
  induction Q using Nat.strongRecOn with
  | _ Q ih =>
    intro P s m hP
    rcases Nat.eq_zero_or_pos Q with h0 | hQ
    · subst h0
      rw [cf_zero', convs]
      exact ⟨fun c hc => (nomatch hc), fun h => absurd h (by decide), fun c hc => (nomatch hc), Nat.le_refl _⟩
    · have m' := m.step hQ
      have hlt := Nat.mod_lt P hQ
      have hmlt := m.lt
      obtain ⟨i1, i2, i3, i4⟩ := ih (P % Q) hlt Q (stp s ((P / Q : Nat) : Int)) m' (by omega)
      have good := good_of hq hg m' m.k1 (by omega)
      rw [cf_step hQ, convs]
      refine ⟨?_, fun _ => ?_, ?_, ?_⟩
      · intro c hc
        rcases List.mem_cons.mp hc with rfl | hc
        · exact good
        · exact i1 c hc
      · rcases Nat.eq_zero_or_pos (P % Q) with h | h
        · have h1 := m'.cop
          have h2 := m'.rq
          have h3 := m'.rp
          rw [h, Nat.gcd_zero_right] at h1
          rw [h] at h2 h3 ⊢
          rw [cf_zero', convs]
          have h2 : (q : Int) = (((P / Q : Nat) : Int) * s.k1 + s.k0) * (Q : Int) + s.k1 * ((0 : Nat) : Int) := h2
          have h3 : p = (((P / Q : Nat) : Int) * s.h1 + s.h0) * (Q : Int) + s.h1 * ((0 : Nat) : Int) := h3
          have hQ1 : (Q : Int) = 1 := by omega
          rw [hQ1] at h2 h3
          simp only [List.getLast?_singleton, Option.some.injEq, Prod.mk.injEq]
          constructor <;> omega
        · have := i2 h
          rw [List.getLast?_cons]
          have this : (convs (cf (Q : Int) (P % Q)) s.h1 s.k1 (((P / Q : Nat) : Int) * s.h1 + s.h0) (((P / Q : Nat) : Int) * s.k1 + s.k0)).getLast? = some (p, (q : Int)) := this
          rw [this]; rfl
      · intro a ha
        rcases List.mem_cons.mp ha with rfl | ha
        · rw [Int.natAbs_natCast]; exact Nat.le_trans (Nat.div_le_self P Q) hP
        · exact i3 a ha
      · rw [List.length_cons]; omega
theorem convs_len : ∀ (l : List Int) (a b c d : Int), (convs l a b c d).length = l.length
  | [], _, _, _, _ => rfl
  | x :: l, a, b, c, d => by rw [convs, List.length_cons, List.length_cons, convs_len l]
/- all that is needed of the terms and the convergents -/
structure CvFacts (p : Int) (q : Nat) : Prop where
  ts : ∀ a ∈ cf p q, a.natAbs < 2 ^ 20
  cs : ∀ c ∈ convs (cf p q) 0 1 1 0, c.1.natAbs < 2 ^ 20 ∧ c.2.natAbs < 2 ^ 20
  ln : (cf p q).length ≤ 200
  last : (convs (cf p q) 0 1 1 0).getLast? = some (p, (q : Int))
  good : ∀ i c, (convs (cf p q) 0 1 1 0)[i]? = some c → 1 ≤ i ∨ (convs (cf p q) 0 1 1 0).length = 1 → GoodC p q c
theorem cv_facts {p : Int} {q : Nat} (hq : 0 < q) (hg : Nat.gcd p.natAbs q = 1) (hp : p.natAbs ≤ 200) (hq2 : q ≤ 120) : CvFacts p q := by
  have m := Mid.first hq hg
  obtain ⟨i1, i2, i3, i4⟩ := convs_mid hq hg _ _ _ m (Nat.le_refl _)
  have hd := div_le_abs p hq
  have e0 : convs (cf p q) 0 1 1 0 = (p / (q : Int), 1) :: convs (cf (q : Int) (p % (q : Int)).toNat) 1 0 (p / (q : Int)) 1 := by
    rw [cf_pos hq, convs]
    simp
  have i1 : ∀ c ∈ convs (cf (q : Int) (p % (q : Int)).toNat) 1 0 (p / (q : Int)) 1, GoodC p q c := i1
  have i2 : 0 < (p % (q : Int)).toNat → (convs (cf (q : Int) (p % (q : Int)).toNat) 1 0 (p / (q : Int)) 1).getLast? = some (p, (q : Int)) := i2
  have h3 := Int.emod_lt_of_pos p (show (0 : Int) < q by omega)
  have hlast : (convs (cf p q) 0 1 1 0).getLast? = some (p, (q : Int)) := by
    rw [e0]
    rcases Nat.eq_zero_or_pos (p % (q : Int)).toNat with h | h
    · have hc := m.cop
      have h2 := m.rq
      have h3 := m.rp
      rw [h, Nat.gcd_zero_right] at hc
      rw [h] at h3 ⊢
      subst hc
      have h3 : p = p / ((1 : Nat) : Int) * ((1 : Nat) : Int) + 1 * ((0 : Nat) : Int) := h3
      rw [cf_zero', convs]
      simp
    · rw [List.getLast?_cons, i2 h]; rfl
  refine ⟨?_, ?_, ?_, hlast, ?_⟩
  · intro a ha
    rw [cf_pos hq] at ha
    rcases List.mem_cons.mp ha with rfl | ha
    · omega
    · have := i3 a ha; omega
  · intro c hc
    rw [e0] at hc
    rcases List.mem_cons.mp hc with rfl | hc
    · exact ⟨by show (p / (q : Int)).natAbs < 2 ^ 20; omega, by show (1 : Int).natAbs < 2 ^ 20; decide⟩
    · obtain ⟨g1, g2, g3, _⟩ := i1 c hc
      constructor <;> omega
  · rw [cf_pos hq, List.length_cons]; omega
  · intro i c hi hor
    rcases hor with h | h
    · rw [e0] at hi
      obtain ⟨j, rfl⟩ : ∃ j, i = j + 1 := ⟨i - 1, by omega⟩
      rw [List.getElem?_cons_succ] at hi
      exact i1 c (List.mem_of_getElem? hi)
    · have hi0 : i = 0 := by
        have := (List.getElem?_eq_some_iff.mp hi).1
        omega
      subst hi0
      rw [List.getLast?_eq_getElem?, h] at hlast
      have : some c = some (p, (q : Int)) := hi.symm.trans hlast
      obtain rfl := Option.some.inj this
      refine ⟨by show p.natAbs ≤ _; omega, by show (1 : Int) ≤ q; omega, Int.le_refl _, ?_⟩
      show walkF p q (q : Int).natAbs = (p, (q : Int).natAbs)
      unfold walkF
      rw [if_pos (by omega), Int.natAbs_natCast]
end Mine
end
section
set_option Elab.async false
namespace Mine
theorem walk_top {p : Int} {q N : Nat} (hg : Nat.gcd p.natAbs q = 1) (hN : 0 < N) : (walkF p q N).1.natAbs ≤ p.natAbs + 1 := by
  by_cases hNq : N < q
  · obtain ⟨a, c, b, d, u, e⟩ := walkF_big hg hN hNq
    have hb := u.hb; have hd := u.hd; have lo := u.lo; have hi := u.hi; have det := u.det; have bN := u.bN; have dN := u.dN
    have e1 : (p * (b : Int) - a * (q : Int)) * (d : Int) + (c * (q : Int) - p * (d : Int)) * (b : Int) = q := by
      have : (p * (b : Int) - a * (q : Int)) * (d : Int) + (c * (q : Int) - p * (d : Int)) * (b : Int) = (c * (b : Int) - a * (d : Int)) * q := by grind
      rw [this, det, Int.one_mul]
    have x1 := mulp (x := (d : Int)) (y := p * (b : Int) - a * (q : Int)) (by omega) (by omega)
    have x2 := mulp (x := (b : Int)) (y := c * (q : Int) - p * (d : Int)) (by omega) (by omega)
    have y1 := Int.mul_comm (d : Int) (p * (b : Int) - a * (q : Int))
    have y2 := Int.mul_comm (b : Int) (c * (q : Int) - p * (d : Int))
    have key : ∀ (h : Int) (k : Nat), k ≤ q → (p * (k : Int) - h * (q : Int)).natAbs ≤ q → h.natAbs ≤ p.natAbs + 1 := by
      intro h k hk hx
      have e1 : (p * (k : Int)).natAbs ≤ p.natAbs * q := by rw [Int.natAbs_mul]; exact Nat.mul_le_mul_left _ (by omega)
      have e3 : (h * (q : Int)).natAbs = h.natAbs * q := by rw [Int.natAbs_mul, Int.natAbs_natCast]
      have e4 : h.natAbs * q ≤ (p.natAbs + 1) * q := by
        rw [Nat.add_mul, Nat.one_mul, ← e3]; omega
      exact Nat.le_of_mul_le_mul_right e4 (by omega)
    have k1 := key a b (by omega) (by omega)
    have k2 := key c d (by omega) (by omega)
    rw [e]; unfold walkEnd; dsimp only
    split
    · split <;> (dsimp only; omega)
    · split <;> (dsimp only; omega)
  · unfold walkF; rw [if_pos (by omega)]; show p.natAbs ≤ _; omega
theorem least_facts {t : Int} {b : Nat} (hb : 0 < b ∧ b ≤ 120) (ht : t.natAbs ≤ 200) :
    Nat.gcd (t / ((Nat.gcd t.natAbs b : Nat) : Int)).natAbs (b / Nat.gcd t.natAbs b) = 1 ∧ 0 < b / Nat.gcd t.natAbs b ∧ b / Nat.gcd t.natAbs b ≤ 120 ∧ (t / ((Nat.gcd t.natAbs b : Nat) : Int)).natAbs ≤ 200 := by
  have hg : 0 < Nat.gcd t.natAbs b := Nat.gcd_pos_of_pos_right _ hb.1
  have hle : Nat.gcd t.natAbs b ≤ b := Nat.gcd_le_right _ hb.1
  have e : (t / ((Nat.gcd t.natAbs b : Nat) : Int)).natAbs = t.natAbs / Nat.gcd t.natAbs b := by
    obtain ⟨z, hz⟩ : ((Nat.gcd t.natAbs b : Nat) : Int) ∣ t := Int.ofNat_dvd_left.mpr (Nat.gcd_dvd_left _ _)
    have e2 : t / ((Nat.gcd t.natAbs b : Nat) : Int) = z := by
      have e0 : ∀ g : Nat, 0 < g → t = (g : Int) * z → t / (g : Int) = z := fun g h0 h1 => by
        rw [h1]; exact Int.mul_ediv_cancel_left _ (by omega)
      exact e0 _ hg hz
    have e3 : t.natAbs = Nat.gcd t.natAbs b * z.natAbs := by
      have := congrArg Int.natAbs hz
      rwa [Int.natAbs_mul, Int.natAbs_natCast] at this
    rw [e2]
    exact (Nat.div_eq_of_eq_mul_right hg e3).symm
  rw [e]
  refine ⟨Nat.coprime_div_gcd_div_gcd hg, Nat.div_pos hle hg, Nat.le_trans (Nat.div_le_self _ _) hb.2, Nat.le_trans (Nat.div_le_self _ _) ht⟩
theorem sum_map_mul (l : List Nat) (k : Nat) : (l.map fun x => k * x).sum = k * l.sum := by
  induction l with
  | nil => rfl
  | cons a l ih => simp only [List.map_cons, List.sum_cons, ih, Nat.mul_add]
theorem sum_val {B : Nat} : ∀ l : List Nat, ((List.range l.length).map fun i => l.getD i 0 * B ^ i).sum = val B l
  | [] => rfl
  | a :: l => by
    rw [List.length_cons, List.range_succ_eq_map, List.map_cons, List.sum_cons, List.map_map]
    have : ((fun i => (a :: l).getD i 0 * B ^ i) ∘ Nat.succ) = fun i => B * (l.getD i 0 * B ^ i) := by
      funext i
      show (a :: l).getD (i + 1) 0 * B ^ (i + 1) = _
      rw [List.getD_cons_succ, Nat.pow_succ]
      rw [Nat.mul_comm (B ^ i) B, ← Nat.mul_assoc, ← Nat.mul_assoc, Nat.mul_comm (l.getD i 0) B]
    rw [this]
    have h2 : (List.range l.length).map (fun i => B * (l.getD i 0 * B ^ i)) = ((List.range l.length).map fun i => l.getD i 0 * B ^ i).map fun x => B * x := by
      rw [List.map_map]; rfl
    rw [h2, sum_map_mul, sum_val l]
    simp [val]
end Mine
end
section
open PySem PySem.Calls PySem.Spec PyProof.Rows
namespace Mine
local macro_rules | `(tactic| walk_at "mem") => `(tactic| first | with_reducible exact List.mem_cons_self | ((with_reducible refine List.mem_cons_of_mem _ ?_); walk_at "mem"))
local macro_rules | `(tactic| walk_at "upd") => `(tactic| first | with_reducible exact Upd.here | ((with_reducible apply Upd.next); decide; walk_at "upd") | with_reducible exact Upd.new)
local macro_rules | `(tactic| walk_at "mems") => `(tactic| first | exact List.forall_mem_nil _ | (refine List.forall_mem_cons.mpr ⟨by walk_at "mem", ?_⟩; walk_at "mems"))
local macro_rules | `(tactic| walk_at "sub") => `(tactic| exact ⟨rfl, by walk_at "mems", by (dsimp only [List.map]; decide)⟩)
local macro_rules | `(tactic| walk_at "con") => `(tactic| fail "no contract")
local macro_rules | `(tactic| walk_at "side") => `(tactic| first | assumption | omega | (simp only [decide_eq_true_eq, decide_eq_false_iff_not, gt_iff_lt, ge_iff_le, bne_iff_ne, ne_eq, beq_iff_eq] at *; omega) | (simp <;> omega))
local macro_rules | `(tactic| walk_at "evs") => `(tactic| first | ((with_reducible show EVs _ _ _ (List.cons _ _) _); exact EVs.cons (by walk_at "ev") (by walk_at "evs")) | exact EVs.nil)
local macro_rules | `(tactic| walk_at "evname") => `(tactic| first
  | exact EV.loc (by assumption) (by rfl) (by walk_at "mem")
  | ((with_reducible show EV _ _ _ (PySem.Expr.Name (Str.ofString "len") _) _); exact EV.nlen (by assumption) (by assumption) (by rfl))
  | ((with_reducible show EV _ _ _ (PySem.Expr.Name (Str.ofString "range") _) _); exact EV.nrange (by assumption) (by assumption) (by rfl))
  | ((with_reducible show EV _ _ _ (PySem.Expr.Name (Str.ofString "abs") _) _); exact EV.nabs (by assumption) (by assumption) (by rfl))
  | ((with_reducible show EV _ _ _ (PySem.Expr.Name (Str.ofString "enumerate") _) _); exact EV.nenum (by assumption) (by assumption) (by rfl))
  | exact EV.fn (by assumption) (by rfl) (Wok.fn (by assumption) _ (by decide)))
local macro_rules | `(tactic| walk_at "tv") => `(tactic| first
  | ((with_reducible show TV _ _ _ (PySem.Expr.Compare _ [PySem.CmpOp.Eq] _ _) _); first | exact TV.eqBool (by walk_at "ev") (by walk_at "ev") | exact TV.cmpInt (by walk_at "ev") (by walk_at "ev"))
  | ((with_reducible show TV _ _ _ (PySem.Expr.Compare _ [PySem.CmpOp.NotEq] _ _) _); first | exact TV.neBool (by walk_at "ev") (by walk_at "ev") | exact TV.cmpInt (by walk_at "ev") (by walk_at "ev"))
  | ((with_reducible show TV _ _ _ (PySem.Expr.Compare _ _ _ _) _); exact TV.cmpInt (by walk_at "ev") (by walk_at "ev"))
  | ((with_reducible show TV _ _ _ (PySem.Expr.BoolOp PySem.BoolOp.And _ _) _); exact TV.and_ (by walk_at "tv") (fun hc => by walk_at "tv"))
  | ((with_reducible show TV _ _ _ (PySem.Expr.BoolOp PySem.BoolOp.Or _ _) _); exact TV.or_ (by walk_at "tv") (fun hc => by walk_at "tv"))
  | ((with_reducible show TV _ _ _ (PySem.Expr.UnaryOp PySem.UnaryOp.Not _ _) _); exact TV.not (by walk_at "tv"))
  | ((with_reducible show TV _ _ _ (_) _); exact TV.ofBool (by walk_at "ev")))
local macro_rules | `(tactic| walk_at "ev") => `(tactic| first
  | ((with_reducible show EV _ _ _ (PySem.Expr.Name _ _) _); walk_at "evname")
  | ((with_reducible show EV _ _ _ (PySem.Expr.Constant (PySem.Const.int _) _ _) _); exact EV.int)
  | ((with_reducible show EV _ _ _ (PySem.Expr.Constant (PySem.Const.bool _) _ _) _); exact EV.bool)
  | ((with_reducible show EV _ _ _ (PySem.Expr.BinOp _ PySem.Operator.Add _ _) _); exact EV.add (by walk_at "ev") (by walk_at "ev") )
  | ((with_reducible show EV _ _ _ (PySem.Expr.BinOp _ PySem.Operator.Sub _ _) _); exact EV.sub (by walk_at "ev") (by walk_at "ev") )
  | ((with_reducible show EV _ _ _ (PySem.Expr.BinOp _ PySem.Operator.Mult _ _) _); exact EV.mul (by walk_at "ev") (by walk_at "ev") (by walk_at "side"))
  | ((with_reducible show EV _ _ _ (PySem.Expr.BinOp _ PySem.Operator.FloorDiv _ _) _); exact EV.fdiv (by walk_at "ev") (by walk_at "ev") (by walk_at "side"))
  | ((with_reducible show EV _ _ _ (PySem.Expr.BinOp _ PySem.Operator.Mod _ _) _); exact EV.mod (by walk_at "ev") (by walk_at "ev") (by walk_at "side"))
  | ((with_reducible show EV _ _ _ (PySem.Expr.BinOp _ PySem.Operator.LShift _ _) _); exact EV.shl (by walk_at "ev") (by walk_at "ev") (by walk_at "side"))
  | ((with_reducible show EV _ _ _ (PySem.Expr.BinOp _ PySem.Operator.Pow _ _) _); exact EV.pow (by walk_at "ev") (by walk_at "ev") (by walk_at "side"))
  | ((with_reducible show EV _ _ _ (PySem.Expr.BinOp _ PySem.Operator.BitAnd _ _) _); exact EV.and_ (by walk_at "ev") (by walk_at "ev") )
  | ((with_reducible show EV _ _ _ (PySem.Expr.BinOp _ PySem.Operator.BitOr _ _) _); exact EV.or_ (by walk_at "ev") (by walk_at "ev") )
  | ((with_reducible show EV _ _ _ (PySem.Expr.UnaryOp PySem.UnaryOp.USub _ _) _); exact EV.neg (by walk_at "ev"))
  | ((with_reducible show EV _ _ _ (PySem.Expr.UnaryOp PySem.UnaryOp.Not _ _) _); exact EV.not (by walk_at "ev"))
  | ((with_reducible show EV _ _ _ (PySem.Expr.Compare _ [PySem.CmpOp.Eq] _ _) _); first | exact EV.eqBool (by walk_at "ev") (by walk_at "ev") | exact EV.cmpInt (by walk_at "ev") (by walk_at "ev"))
  | ((with_reducible show EV _ _ _ (PySem.Expr.Compare _ [PySem.CmpOp.NotEq] _ _) _); first | exact EV.neBool (by walk_at "ev") (by walk_at "ev") | exact EV.cmpInt (by walk_at "ev") (by walk_at "ev"))
  | ((with_reducible show EV _ _ _ (PySem.Expr.Compare _ _ _ _) _); exact EV.cmpInt (by walk_at "ev") (by walk_at "ev"))
  | ((with_reducible show EV _ _ _ (PySem.Expr.BoolOp PySem.BoolOp.And _ _) _); exact EV.and_b (by walk_at "ev") (fun hc => by walk_at "ev"))
  | ((with_reducible show EV _ _ _ (PySem.Expr.Call (PySem.Expr.Name (Str.ofString "len") _) _ _ _) _); first | exact EV.lenN (by walk_at "ev") (by walk_at "ev") (by walk_at "side") | exact EV.len (by walk_at "ev") (by walk_at "ev") (by walk_at "side"))
  | ((with_reducible show EV _ _ _ (PySem.Expr.Call (PySem.Expr.Name (Str.ofString "abs") _) _ _ _) _); exact EV.abs (by walk_at "ev") (by walk_at "ev"))
  | ((with_reducible show EV _ _ _ (PySem.Expr.Call _ _ _ _) _); exact EV.call (by assumption) (by walk_at "ev") (by walk_at "evs") (by walk_at "con") (by exact Nat.le_of_ble_eq_true rfl) (Wok.alive (by assumption) _ (by decide)))
  | ((with_reducible show EV _ _ _ (PySem.Expr.Subscript _ (PySem.Expr.Slice none none none _) _) _); exact EV.copyN (by assumption) (by walk_at "ev") (by walk_at "side"))
  | ((with_reducible show EV _ _ _ (PySem.Expr.Subscript _ (PySem.Expr.Slice none _ none _) _) _); exact EV.sliceN (by assumption) (by walk_at "ev") (by walk_at "ev") (by walk_at "side"))
  | ((with_reducible show EV _ _ _ (PySem.Expr.Subscript _ (PySem.Expr.Constant _ _ _) _) _); first | exact EV.itemT (by walk_at "ev") (by walk_at "ev") (by decide) rfl | exact EV.itemN (by walk_at "ev") (by walk_at "ev") (by walk_at "side"))
  | ((with_reducible show EV _ _ _ (PySem.Expr.Subscript _ _ _) _); first | exact EV.itemN (by walk_at "ev") (by walk_at "ev") (by walk_at "side") | exact EV.itemOwnN (by walk_at "ev") (by walk_at "ev") (by walk_at "side"))
  | ((with_reducible show EV _ _ _ (PySem.Expr.Tuple _ _ _) _); exact EV.tuple2 (by walk_at "ev") (by walk_at "ev"))
  | ((with_reducible show EV _ _ _ (PySem.Expr.List [] _) _); exact EV.list0 (by assumption))
  | ((with_reducible show EV _ _ _ (PySem.Expr.List [_] _) _); exact EV.list1 (by assumption) (by walk_at "ev"))
  | ((with_reducible show EV _ _ _ (PySem.Expr.List [_, _] _) _); exact EV.list2 (by assumption) (by walk_at "ev") (by walk_at "ev")))
local macro_rules | `(tactic| walk_at "thaws") => `(tactic| first | exact List.forall_mem_nil _ | (refine List.forall_mem_cons.mpr ⟨by (first | exact Or.inl (by walk_at "mem") | exact Or.inr ⟨_, rfl, by walk_at "mem"⟩), ?_⟩; walk_at "thaws"))
local macro_rules | `(tactic| walk_at "nodup") => `(tactic| ((dsimp only [List.map]); decide))
section
theorem c_normal {W : Wd} (H : Wok W) {B : Nat} (hB : 2 ≤ B) (l : List Nat) (hd : Dig B l) (hl : l.length ≤ 1000) : Con W 1 "normal" [L (nums l)] (.list (nums (limbs B (val B l)))) := by
  refine Con.of (d := fnItem 4) [("a", L (nums l))] ["a"] rfl rfl rfl (H.defs 4 (by decide)) rfl (by decide) ?_ (by decide +kernel) rfl rfl rfl (by decide +kernel) ?_
  · exact fun pm cd doc => allV (n := 1) (fun _ => rfl)
  · intro A La fa cd h₀ X gens os
    conv in (occs := *) fnItem 4 => all_goals whnf
    intro wf
    refine SX.cons (S1.assign wf rfl (by walk_at "ev") (by walk_at "upd") ?_)
    refine SX.cons (S1.while_ (α := Nat) (fun e => ⟨none, [("a", L (nums l)), ("end", I (e : Int))]⟩) (fun e => e ≤ l.length ∧ val B (l.take e) = val B l) id l.length (by walk_at "sub") (by simp) ?_)
    rintro e ⟨he, hv⟩
    refine ⟨_, TV.and_ (b := ((l.getD (e - 1) 0 : Nat) : Int) == 0) (by walk_at "tv") (fun hc => ?_), ?_, ?_⟩
    · have h0 : 0 < e := by simpa using hc
      have ee : ((e : Int) - 1).toNat = e - 1 := by omega
      exact TV.conv (TV.cmpInt (EV.itemN (by walk_at "ev") (by walk_at "ev") (by omega)) (by walk_at "ev")) (by rw [ee])
    · intro hb
      simp only [gt_iff_lt, Bool.and_eq_true, decide_eq_true_eq, beq_iff_eq] at hb
      refine SX.cons (S1.aug wf rfl (by walk_at "mem") (by walk_at "ev") rfl (by walk_at "upd") ?_)
      refine SX.nil ⟨e - 1, ⟨by omega, ?_⟩, by show e - 1 < e; omega, ?_⟩
      · rw [take_step (by omega) he (by omega)]; exact hv
      · have ee : ((e : Int) - 1) = ((e - 1 : Nat) : Int) := by omega
        rw [ee]; walk_at "sub"
    · intro hb
      refine SX.cons (S1.ret (d := .list (nums (limbs B (val B l)))) (EV.conv (EV.sliceN wf (by walk_at "ev") (by walk_at "ev") (by omega)) ?_) rfl)
      rw [← hv, take_done hB hd he ?_, Int.toNat_natCast]
      simp only [gt_iff_lt, Bool.and_eq_false_iff, decide_eq_false_iff_not, beq_eq_false_iff_ne] at hb
      omega
end
local macro_rules | `(tactic| walk_at "con") => `(tactic| ((with_reducible show ConA _ _ (Wd.fa _ (Str.ofString "normal")) _ _); exact c_normal (by assumption) (by assumption) _ (by assumption) (by walk_at "side")))
section
theorem c_compare {W : Wd} (H : Wok W) {B : Nat} (hB : 2 ≤ B) {x y : Nat} (hx : x < 2 ^ 60) (hy : y < 2 ^ 60) : Con W 1 "compare" [L (nums (limbs B x)), L (nums (limbs B y))] (.int (cmp x y)) := by
  refine Con.of (d := fnItem 5) [("a", L (nums (limbs B x))), ("b", L (nums (limbs B y)))] ["a", "b"] rfl rfl rfl (H.defs 5 (by decide)) rfl (by decide) ?_ (by decide +kernel) rfl rfl rfl (by decide +kernel) ?_
  · exact fun pm cd doc => allV (n := 2) (fun _ _ => rfl)
  · intro A La fa cd h₀ X gens os
    conv in (occs := *) fnItem 5 => all_goals whnf
    intro wf
    have hlx := len_limbs_le hB hx
    have hly := len_limbs_le hB hy
    refine SX.cons (S1.if_ (by walk_at "tv") (fun hb => ?_) (fun hb => SX.nil ?_))
    · refine SX.cons (S1.ret (EV.ite (d := I (cmp x y)) (by walk_at "tv") (fun hc => EV.conv (by walk_at "ev") ?_) (fun hc => EV.conv (by walk_at "ev") ?_)) rfl)
      · have hlt : (limbs B x).length < (limbs B y).length := by simpa using hc
        have := lt_of_len hB hlt
        simp [cmp, this]
      · have hlt : ¬ (limbs B x).length < (limbs B y).length := by simpa using hc
        have hne : (limbs B x).length ≠ (limbs B y).length := by simp at hb; omega
        have := lt_of_len hB (x := y) (y := x) (by omega)
        have h1 : ¬ x < y := by omega
        have h2 : ¬ x = y := by omega
        simp [cmp, h1, h2]
    · have heq : (limbs B x).length = (limbs B y).length := by simp at hb; omega
      refine SX.cons (S1.for_ (α := Unit) (fun _ => ⟨none, [("a", L (nums (limbs B x))), ("b", L (nums (limbs B y)))]⟩) (fun i _ => x / B ^ ((limbs B x).length - i) = y / B ^ ((limbs B x).length - i)) () wf rfl
        (IT.down (n := (limbs B x).length) wf (by walk_at "ev") (by walk_at "ev") (by walk_at "ev") (by walk_at "ev") (by omega)) (fun _ => rfl) (by walk_at "sub") ?_ ?_ ?_)
      · rw [Nat.sub_zero, div_len hB x (Nat.le_refl _), div_len hB y (by omega)]
      · rintro i _ hi hJ
        have ei : (((limbs B x).length : Int) - 1 - (i : Int)).toNat = (limbs B x).length - (i + 1) := by omega
        have dx := div_succ hB x ((limbs B x).length - (i + 1))
        have dy := div_succ hB y ((limbs B x).length - (i + 1))
        have e2 : (limbs B x).length - (i + 1) + 1 = (limbs B x).length - i := by omega
        rw [e2] at dx dy
        have gx := digit hB ((limbs B x).length - (i + 1)) x
        have gy := digit hB ((limbs B x).length - (i + 1)) y
        refine ⟨_, by walk_at "upd", SX.cons (S1.if_ (by walk_at "tv") (fun hb2 => ?_) (fun hb2 => SX.nil ?_))⟩
        · rw [ei] at hb2
          refine SX.cons (S1.ret (EV.ite (d := I (cmp x y)) (by walk_at "tv") (fun hc => EV.conv (by walk_at "ev") ?_) (fun hc => EV.conv (by walk_at "ev") ?_)) rfl)
          · rw [ei] at hc
            have hlt : (limbs B x).getD ((limbs B x).length - (i + 1)) 0 < (limbs B y).getD ((limbs B x).length - (i + 1)) 0 := by simpa using hc
            have := lt_of_div (x := x) (y := y) (k := B ^ ((limbs B x).length - (i + 1))) (by rw [dx, dy, hJ]; omega)
            simp [cmp, this]
          · rw [ei] at hc
            have hlt : ¬ (limbs B x).getD ((limbs B x).length - (i + 1)) 0 < (limbs B y).getD ((limbs B x).length - (i + 1)) 0 := by simpa using hc
            have hne : (limbs B x).getD ((limbs B x).length - (i + 1)) 0 ≠ (limbs B y).getD ((limbs B x).length - (i + 1)) 0 := by
              intro e; rw [e] at hb2; simp at hb2
            have := lt_of_div (x := y) (y := x) (k := B ^ ((limbs B x).length - (i + 1))) (by rw [dx, dy, hJ]; omega)
            have h1 : ¬ x < y := by omega
            have h2 : ¬ x = y := by omega
            simp [cmp, h1, h2]
        · rw [ei] at hb2
          refine SX.nil ⟨(), ?_, by walk_at "sub"⟩
          have he : (limbs B x).getD ((limbs B x).length - (i + 1)) 0 = (limbs B y).getD ((limbs B x).length - (i + 1)) 0 := by
            have h := hb2; rw [bne_eq_false_iff_eq] at h; omega
          show x / B ^ ((limbs B x).length - (i + 1)) = y / B ^ ((limbs B x).length - (i + 1))
          rw [dx, dy, hJ, ← gx, ← gy, he]
      · rintro _ hJ
        rw [Nat.sub_self, Nat.pow_zero, Nat.div_one, Nat.div_one] at hJ
        subst hJ
        refine SX.cons (S1.ret (EV.conv (d := I 0) (by walk_at "ev") (by simp [cmp])) rfl)
end
local macro_rules | `(tactic| walk_at "con") => `(tactic| ((with_reducible show ConA _ _ (Wd.fa _ (Str.ofString "compare")) _ _); exact c_compare (by assumption) (by assumption) (by walk_at "side") (by walk_at "side")))
section
theorem c_add {W : Wd} (H : Wok W) {w : Nat} (hw : 1 ≤ w ∧ w ≤ 20) {x y : Nat} (hx : x < 2 ^ 60) (hy : y < 2 ^ 60) : Con W 1 "add" [L (nums (limbs (2 ^ w) x)), L (nums (limbs (2 ^ w) y)), I (w : Int)] (NL (2 ^ w) (x + y)) := by
  refine Con.of (d := fnItem 6) [("a", L (nums (limbs (2 ^ w) x))), ("b", L (nums (limbs (2 ^ w) y))), ("w", I (w : Int))] ["a", "b", "w"] rfl rfl rfl (H.defs 6 (by decide)) rfl (by decide) ?_ (by decide +kernel) rfl rfl rfl (by decide +kernel) ?_
  · exact fun pm cd doc => allV (n := 3) (fun _ _ _ => rfl)
  · intro A La fa cd h₀ X gens os
    conv in (occs := *) fnItem 6 => all_goals whnf
    intro wf
    have hB : 2 ≤ 2 ^ w := two_le hw.1
    have hlx := len_limbs_le hB hx
    have hly := len_limbs_le hB hy
    refine SX.cons (S1.mono (K := fun r => ∃ x' y', (x' < 2 ^ 60 ∧ y' < 2 ^ 60 ∧ x' + y' = x + y ∧ (limbs (2 ^ w) y').length ≤ (limbs (2 ^ w) x').length) ∧
      r = .next ⟨none, [("a", L (nums (limbs (2 ^ w) x'))), ("b", L (nums (limbs (2 ^ w) y'))), ("w", I (w : Int))]⟩) ?_ ?_)
    · refine S1.if_ (by walk_at "tv") (fun hb => ?_) (fun hb => SX.nil ⟨x, y, ⟨hx, hy, rfl, ?_⟩, rfl⟩)
      · refine SX.cons (S1.unp2s (x := "a") (y := "b") wf (by walk_at "ev") rfl rfl (by walk_at "upd") (by walk_at "upd") (SX.nil ⟨y, x, ⟨hy, hx, by omega, ?_⟩, rfl⟩))
        have : (limbs (2 ^ w) x).length < (limbs (2 ^ w) y).length := by simpa using hb
        omega
      · have : ¬ (limbs (2 ^ w) x).length < (limbs (2 ^ w) y).length := by simpa using hb
        omega
    rintro _ ⟨x', y', ⟨hx', hy', hsum, hle⟩, rfl⟩
    have hlx' := len_limbs_le hB hx'
    have hly' := len_limbs_le hB hy'
    refine SX.cons (S1.own3 (x := "found") (y := "carry") (z := "mask") (d2 := .int ((0 : Nat) : Int)) (d3 := .int ((2 ^ w - 1 : Nat) : Int)) wf (EN.list (xs := []) wf EVs.nil) (fun _ => by walk_at "ev") (fun _ => EV.conv (by walk_at "ev") (by rw [mask_eq])) rfl rfl rfl
      (fun fa => ⟨_, _, _, by walk_at "upd", by walk_at "upd", by walk_at "upd", ?_⟩))
    refine SX.cons (S1.for_ (α := List Nat × Nat) (fun q => ⟨some (fa, nums q.1), [("a", L (nums (limbs (2 ^ w) x'))), ("b", L (nums (limbs (2 ^ w) y'))), ("w", I (w : Int)), ("mask", I ((2 ^ w - 1 : Nat) : Int)), ("carry", I (q.2 : Int)), ("found", .v (.ref fa))]⟩)
      (fun i q => Dig (2 ^ w) q.1 ∧ q.1.length = i ∧ val (2 ^ w) q.1 + (2 ^ w) ^ i * q.2 = x' % (2 ^ w) ^ i + y' % (2 ^ w) ^ i) ([], 0) wf rfl
      (IT.range1 (n := (limbs (2 ^ w) y').length) wf (by walk_at "ev") (by walk_at "ev") (by omega)) (fun _ => rfl) (by walk_at "sub") ⟨(fun _ h => nomatch h), rfl, by simp [val, Nat.mod_one]⟩ ?_ ?_)
    · rintro i ⟨l, c⟩ hi ⟨hd, hlen, hv⟩
      refine ⟨_, by walk_at "upd", ?_⟩
      refine SX.cons (S1.aug (c := ((c + (x' / (2 ^ w) ^ i % 2 ^ w + y' / (2 ^ w) ^ i % 2 ^ w) : Nat) : Int)) wf rfl (by walk_at "mem") (by walk_at "ev") (by simp only [augI, Int.toNat_natCast, digit hB]; simp) (by walk_at "upd") ?_)
      refine SX.cons (S1.appendN wf rfl (by walk_at "mem") (EV.maskN (w := w) (by walk_at "ev") (by walk_at "ev")) (by have h : l.length = _ := hlen; show l.length ≤ 1000000; omega) ?_)
      refine SX.cons (S1.aug wf rfl (by walk_at "mem") (by walk_at "ev") (shr_eq _ w) (by walk_at "upd") ?_)
      refine SX.nil ⟨(l ++ [(c + (x' / (2 ^ w) ^ i % 2 ^ w + y' / (2 ^ w) ^ i % 2 ^ w)) % 2 ^ w], (c + (x' / (2 ^ w) ^ i % 2 ^ w + y' / (2 ^ w) ^ i % 2 ^ w)) / 2 ^ w), ⟨hd.snoc (Nat.mod_lt _ (by omega)), by simp at hlen ⊢; exact hlen, ?_⟩, by walk_at "sub"⟩
      exact add_step hlen hv
    rintro ⟨l, c⟩ ⟨hd, hlen, hv⟩
    refine SX.cons (S1.for_ (α := List Nat × Nat) (fun q => ⟨some (fa, nums q.1), [("a", L (nums (limbs (2 ^ w) x'))), ("b", L (nums (limbs (2 ^ w) y'))), ("w", I (w : Int)), ("mask", I ((2 ^ w - 1 : Nat) : Int)), ("carry", I (q.2 : Int)), ("found", .v (.ref fa))]⟩)
      (fun i q => Dig (2 ^ w) q.1 ∧ q.1.length = (limbs (2 ^ w) y').length + i ∧ val (2 ^ w) q.1 + (2 ^ w) ^ ((limbs (2 ^ w) y').length + i) * q.2 = x' % (2 ^ w) ^ ((limbs (2 ^ w) y').length + i) + y' % (2 ^ w) ^ ((limbs (2 ^ w) y').length + i)) (l, c) wf rfl
      (IT.range2 (n := (limbs (2 ^ w) x').length - (limbs (2 ^ w) y').length) wf (by walk_at "ev") (by walk_at "ev") (by walk_at "ev") (by omega)) (fun _ => rfl) (by walk_at "sub") ⟨hd, by simpa using hlen, by simpa using hv⟩ ?_ ?_)
    · rintro i ⟨l, c⟩ hi ⟨hd, hlen, hv⟩
      have ei : (((limbs (2 ^ w) y').length : Int) + (i : Int)).toNat = (limbs (2 ^ w) y').length + i := by omega
      have ydig : y' / (2 ^ w) ^ ((limbs (2 ^ w) y').length + i) % 2 ^ w = 0 := by rw [div_len hB y' (by omega), Nat.zero_mod]
      refine ⟨_, by walk_at "upd", ?_⟩
      refine SX.cons (S1.aug (c := ((c + (x' / (2 ^ w) ^ ((limbs (2 ^ w) y').length + i) % 2 ^ w + y' / (2 ^ w) ^ ((limbs (2 ^ w) y').length + i) % 2 ^ w) : Nat) : Int)) wf rfl (by walk_at "mem") (by walk_at "ev") (by simp only [augI, ei, digit hB, ydig]; simp) (by walk_at "upd") ?_)
      refine SX.cons (S1.appendN wf rfl (by walk_at "mem") (EV.maskN (w := w) (by walk_at "ev") (by walk_at "ev")) (by have h : l.length = _ := hlen; show l.length ≤ 1000000; omega) ?_)
      refine SX.cons (S1.aug wf rfl (by walk_at "mem") (by walk_at "ev") (shr_eq _ w) (by walk_at "upd") ?_)
      refine SX.nil ⟨(l ++ [_], _), ⟨hd.snoc (Nat.mod_lt _ (by omega)), by simp at hlen ⊢; omega, ?_⟩, by walk_at "sub"⟩
      exact add_step hlen hv
    rintro ⟨l, c⟩ ⟨hd, hlen, hv⟩
    have el : (limbs (2 ^ w) y').length + ((limbs (2 ^ w) x').length - (limbs (2 ^ w) y').length) = (limbs (2 ^ w) x').length := by omega
    rw [el] at hlen hv
    rw [mod_len hB x' (Nat.le_refl _), mod_len hB y' hle, hsum, ← hlen] at hv
    refine SX.cons (S1.if_ (by walk_at "tv") (fun hb => ?_) (fun hb => SX.nil ?_))
    · have hc : 0 < c := by simpa using hb
      have hc1 : c < 2 ^ w := add_carry hB hv hx' hy' hsum hlen.symm hle
      refine SX.cons (S1.appendN wf rfl (by walk_at "mem") (by walk_at "ev") (by have h : l.length = _ := hlen; show l.length ≤ 1000000; omega) (SX.nil ?_))
      refine SX.thawTo [("found", L (nums (l ++ [c])))] wf (by walk_at "thaws") (by walk_at "nodup") ?_
      refine SX.cons (S1.ret (EV.conv (by walk_at "ev") ?_) rfl)
      have e : limbs (2 ^ w) (x + y) = l ++ [c] := by rw [← hv]; exact canon_snoc hB hd hc1 hc
      show L (nums (l ++ [c])) = L (nums (limbs (2 ^ w) (x + y)))
      rw [e]
    · have hc : c = 0 := by have h : ¬ (0 < c) := by simpa using hb
                            omega
      subst hc
      rw [Nat.mul_zero, Nat.add_zero] at hv
      refine SX.thawTo [("found", L (nums l))] wf (by walk_at "thaws") (by walk_at "nodup") ?_
      refine SX.cons (S1.ret (EV.conv (by walk_at "ev") ?_) rfl)
      have hc : l = [] ∨ (2 ^ w) ^ (l.length - 1) ≤ val (2 ^ w) l := by
        by_cases h0 : x' = 0
        · left; subst h0; rw [limbs_zero] at hlen; exact List.length_eq_zero_iff.mp hlen
        · right
          have h1 := pow_le hB h0
          have h2 : l.length = _ := hlen
          have h3 : val (2 ^ w) l = x + y := hv
          rw [h2, h3, ← hsum]; omega
      have e : limbs (2 ^ w) (x + y) = l := by rw [← hv]; exact canon hB hd hc
      show L (nums l) = L (nums (limbs (2 ^ w) (x + y)))
      rw [e]
end
local macro_rules | `(tactic| walk_at "con") => `(tactic| ((with_reducible show ConA _ _ (Wd.fa _ (Str.ofString "add")) _ _); exact c_add (by assumption) (by assumption) (by walk_at "side") (by walk_at "side")))
section
theorem c_sub {W : Wd} (H : Wok W) {w : Nat} (hw : 1 ≤ w ∧ w ≤ 20) {x y : Nat} (hx : x < 2 ^ 60) (hy : y ≤ x) : Con W 2 "sub" [L (nums (limbs (2 ^ w) x)), L (nums (limbs (2 ^ w) y)), I (w : Int)] (NL (2 ^ w) (x - y)) := by
  refine Con.of (d := fnItem 7) [("a", L (nums (limbs (2 ^ w) x))), ("b", L (nums (limbs (2 ^ w) y))), ("w", I (w : Int))] ["a", "b", "w"] rfl rfl rfl (H.defs 7 (by decide)) rfl (by decide) ?_ (by decide +kernel) rfl rfl rfl (by decide +kernel) ?_
  · exact fun pm cd doc => allV (n := 3) (fun _ _ _ => rfl)
  · intro A La fa cd h₀ X gens os
    conv in (occs := *) fnItem 7 => all_goals whnf
    intro wf
    have hB : 2 ≤ 2 ^ w := two_le hw.1
    have hy' : y < 2 ^ 60 := by omega
    have hlx := len_limbs_le hB hx
    have hly := len_limbs_le hB hy'
    have hcmp : ¬ cmp x y < 0 := by unfold cmp; split <;> (try split) <;> omega
    refine SX.cons (S1.if_ (by walk_at "tv") (fun hb => absurd (of_decide_eq_true hb) hcmp) (fun hb => SX.nil ?_))
    refine SX.cons (S1.own3 (x := "found") (y := "borrow") (z := "base") (d2 := .int ((0 : Nat) : Int)) (d3 := .int ((2 ^ w : Nat) : Int)) wf (EN.list (xs := []) wf EVs.nil) (fun _ => by walk_at "ev") (fun _ => EV.conv (by walk_at "ev") (by rw [base_eq])) rfl rfl rfl
      (fun fa => ⟨_, _, _, by walk_at "upd", by walk_at "upd", by walk_at "upd", ?_⟩))
    refine SX.cons (S1.for_ (α := List Nat × Nat) (fun q => ⟨some (fa, nums q.1), [("a", L (nums (limbs (2 ^ w) x))), ("b", L (nums (limbs (2 ^ w) y))), ("w", I (w : Int)), ("base", I ((2 ^ w : Nat) : Int)), ("borrow", I (q.2 : Int)), ("found", .v (.ref fa))]⟩)
      (fun i q => Dig (2 ^ w) q.1 ∧ q.1.length = i ∧ q.2 ≤ 1 ∧ val (2 ^ w) q.1 + y % (2 ^ w) ^ i = x % (2 ^ w) ^ i + (2 ^ w) ^ i * q.2) ([], 0) wf rfl
      (IT.range1 (n := (limbs (2 ^ w) x).length) wf (by walk_at "ev") (by walk_at "ev") (by omega)) (fun _ => rfl) (by walk_at "sub") ⟨(fun _ h => nomatch h), rfl, by omega, by simp [val, Nat.mod_one]⟩ ?_ ?_)
    · rintro i ⟨l, c⟩ hi ⟨hd, hlen, hc1, hv⟩
      have hc1 : c ≤ 1 := hc1
      have hlen : l.length = i := hlen
      generalize hgx : x / (2 ^ w) ^ i % 2 ^ w = gx at *
      generalize hgy : y / (2 ^ w) ^ i % 2 ^ w = gy at *
      have hgx2 : gx < 2 ^ w := hgx ▸ Nat.mod_lt _ (by omega)
      have hgy2 : gy < 2 ^ w := hgy ▸ Nat.mod_lt _ (by omega)
      refine ⟨_, by walk_at "upd", ?_⟩
      refine SX.cons (S1.assign (d := I ((gx : Int) - c - gy)) wf rfl (EV.conv (EV.sub (a := (gx : Int) - c) (b := gy) (EV.conv (by walk_at "ev") ?_) (EV.ite (d := I (gy : Int)) (by walk_at "tv") (fun hq => EV.conv (by walk_at "ev") ?_) (fun hq => EV.conv (by walk_at "ev") ?_))) rfl) (by walk_at "upd") ?_)
      · simp only [Int.toNat_natCast, digit hB, hgx]
      · simp only [Int.toNat_natCast, digit hB, hgy]
      · have : ¬ ((i : Int) < ((limbs (2 ^ w) y).length : Int)) := of_decide_eq_false hq
        rw [← hgy, div_len hB y (by omega), Nat.zero_mod]; rfl
      refine SX.cons (S1.assign (d := I (((if gx < c + gy then 1 else 0 : Nat) : Int))) wf rfl (EV.ite (by walk_at "tv") (fun hq => EV.conv (by walk_at "ev") ?_) (fun hq => EV.conv (by walk_at "ev") ?_)) (by walk_at "upd") ?_)
      · have h : ((gx : Int) - c - gy < 0) := of_decide_eq_true hq
        rw [if_pos (by omega)]; rfl
      · have h : ¬ ((gx : Int) - c - gy < 0) := of_decide_eq_false hq
        rw [if_neg (by omega)]; rfl
      refine SX.cons (S1.appendN (d := if gx < c + gy then gx + 2 ^ w - (c + gy) else gx - (c + gy)) wf rfl (by walk_at "mem") (EV.ite (by walk_at "tv") (fun hq => EV.conv (by walk_at "ev") ?_) (fun hq => EV.conv (by walk_at "ev") ?_)) (by show l.length ≤ 1000000; omega) ?_)
      · have h : ((gx : Int) - c - gy < 0) := of_decide_eq_true hq
        rw [if_pos (by omega)]; congr 2; omega
      · have h : ¬ ((gx : Int) - c - gy < 0) := of_decide_eq_false hq
        rw [if_neg (by omega)]; congr 2; omega
      refine SX.nil ⟨(l ++ [if gx < c + gy then gx + 2 ^ w - (c + gy) else gx - (c + gy)], if gx < c + gy then 1 else 0), ⟨hd.snoc (by split <;> omega), by simp; exact hlen, by show (if gx < c + gy then 1 else 0) ≤ 1; split <;> omega, ?_⟩, by walk_at "sub"⟩
      exact sub_step hlen hgx hgy hv hgy2 hc1
    rintro ⟨l, c⟩ ⟨hd, hlen, hc1, hv⟩
    have hlen : l.length = (limbs (2 ^ w) x).length := hlen
    have hv : val (2 ^ w) l + y % (2 ^ w) ^ (limbs (2 ^ w) x).length = x % (2 ^ w) ^ (limbs (2 ^ w) x).length + (2 ^ w) ^ (limbs (2 ^ w) x).length * c := hv
    have hylt : y < (2 ^ w) ^ (limbs (2 ^ w) x).length := Nat.lt_of_le_of_lt hy (limbs_lt hB x)
    rw [mod_len hB x (Nat.le_refl _), Nat.mod_eq_of_lt hylt] at hv
    have hvl := val_lt hB hd
    rw [show (l, c).fst = l from rfl, hlen] at hvl
    have hc0 : c = 0 := by
      have hc1 : c ≤ 1 := hc1
      rcases Nat.eq_zero_or_pos c with h | h
      · exact h
      · have : c = 1 := by omega
        subst this; rw [Nat.mul_one] at hv; omega
    subst hc0
    have hval : val (2 ^ w) l = x - y := by rw [Nat.mul_zero] at hv; omega
    refine SX.thawTo [("found", L (nums l))] wf (by walk_at "thaws") (by walk_at "nodup") ?_
    refine SX.cons (S1.ret (d := NL (2 ^ w) (x - y)) (EV.conv (EV.call wf (by walk_at "ev") (by walk_at "evs") (c_normal (by assumption) hB l hd (by omega)) (by exact Nat.le_of_ble_eq_true rfl) (Wok.alive (by assumption) _ (by decide))) ?_) rfl)
    rw [hval]
end
local macro_rules | `(tactic| walk_at "con") => `(tactic| ((with_reducible show ConA _ _ (Wd.fa _ (Str.ofString "sub")) _ _); exact c_sub (by assumption) (by assumption) (by walk_at "side") (by walk_at "side")))
section
theorem c_add_limb {W : Wd} (H : Wok W) {w : Nat} (hw : 1 ≤ w ∧ w ≤ 20) {x c : Nat} (hx : x < 2 ^ 60) (hc : c ≤ 1) : Con W 1 "add_limb" [L (nums (limbs (2 ^ w) x)), I (c : Int), I (w : Int)] (NL (2 ^ w) (x + c)) := by
  refine Con.of (d := fnItem 8) [("a", L (nums (limbs (2 ^ w) x))), ("limb", I (c : Int)), ("w", I (w : Int))] ["a", "limb", "w"] rfl rfl rfl (H.defs 8 (by decide)) rfl (by decide) ?_ (by decide +kernel) rfl rfl rfl (by decide +kernel) ?_
  · exact fun pm cd doc => allV (n := 3) (fun _ _ _ => rfl)
  · intro A La fa cd h₀ X gens os
    conv in (occs := *) fnItem 8 => all_goals whnf
    intro wf
    have hB : 2 ≤ 2 ^ w := two_le hw.1
    have hlx := len_limbs_le hB hx
    refine SX.cons (S1.own2 (x := "found") (y := "mask") (d2 := .int ((2 ^ w - 1 : Nat) : Int)) wf (EN.list (xs := []) wf EVs.nil) (fun _ => EV.conv (by walk_at "ev") (by rw [mask_eq])) rfl rfl
      (fun fa => ⟨_, _, by walk_at "upd", by walk_at "upd", ?_⟩))
    refine SX.cons (S1.for_ (α := List Nat × Nat) (fun q => ⟨some (fa, nums q.1), [("a", L (nums (limbs (2 ^ w) x))), ("limb", I (q.2 : Int)), ("w", I (w : Int)), ("mask", I ((2 ^ w - 1 : Nat) : Int)), ("found", .v (.ref fa))]⟩)
      (fun i q => Dig (2 ^ w) q.1 ∧ q.1.length = i ∧ q.2 ≤ 1 ∧ val (2 ^ w) q.1 + (2 ^ w) ^ i * q.2 = x % (2 ^ w) ^ i + c) ([], c) wf rfl
      (IT.list wf (ds := nums (limbs (2 ^ w) x)) (by walk_at "ev")) (fun _ => rfl) (by walk_at "sub") ⟨(fun _ h => nomatch h), rfl, hc, by simp [val, Nat.mod_one]⟩ ?_ ?_)
    · rintro i ⟨l, c'⟩ hi ⟨hd, hlen, hc1, hv⟩
      have hc1 : c' ≤ 1 := hc1
      have hlen : l.length = i := hlen
      rw [nums_len] at hi
      generalize hgx : x / (2 ^ w) ^ i % 2 ^ w = gx at *
      have hgx2 : gx < 2 ^ w := hgx ▸ Nat.mod_lt _ (by omega)
      have hP : (nums (limbs (2 ^ w) x)).getD i .none = .int (gx : Int) := by rw [← hgx, ← digit hB]; simp [nums, hi]
      rw [hP]
      refine ⟨_, by walk_at "upd", ?_⟩
      refine SX.cons (S1.aug (c := ((c' + gx : Nat) : Int)) wf rfl (by walk_at "mem") (by walk_at "ev") (by simp [augI]) (by walk_at "upd") ?_)
      refine SX.cons (S1.appendN wf rfl (by walk_at "mem") (EV.maskN (w := w) (by walk_at "ev") (by walk_at "ev")) (by show l.length ≤ 1000000; omega) ?_)
      refine SX.cons (S1.aug wf rfl (by walk_at "mem") (by walk_at "ev") (shr_eq _ w) (by walk_at "upd") ?_)
      refine SX.nil ⟨(l ++ [(c' + gx) % 2 ^ w], (c' + gx) / 2 ^ w), ⟨hd.snoc (Nat.mod_lt _ (by omega)), by simp; exact hlen, ?_, ?_⟩, by walk_at "sub"⟩
      · show (c' + gx) / 2 ^ w ≤ 1
        have : (c' + gx) / 2 ^ w < 2 := (Nat.div_lt_iff_lt_mul (by omega)).mpr (by omega)
        omega
      · exact addl_step hlen hgx hv
    rw [nums_len]
    rintro ⟨l, c'⟩ ⟨hd, hlen, hc1, hv⟩
    have hlen : l.length = (limbs (2 ^ w) x).length := hlen
    have hc1 : c' ≤ 1 := hc1
    have hv : val (2 ^ w) l + (2 ^ w) ^ (limbs (2 ^ w) x).length * c' = x % (2 ^ w) ^ (limbs (2 ^ w) x).length + c := hv
    rw [mod_len hB x (Nat.le_refl _), ← hlen] at hv
    refine SX.cons (S1.if_ (by walk_at "tv") (fun hb => ?_) (fun hb => SX.nil ?_))
    · have hc : 0 < c' := by simpa using hb
      refine SX.cons (S1.appendN wf rfl (by walk_at "mem") (by walk_at "ev") (by show l.length ≤ 1000000; omega) (SX.nil ?_))
      refine SX.thawTo [("found", L (nums (l ++ [c'])))] wf (by walk_at "thaws") (by walk_at "nodup") ?_
      refine SX.cons (S1.ret (EV.conv (by walk_at "ev") ?_) rfl)
      have e : limbs (2 ^ w) (x + c) = l ++ [c'] := by rw [← hv]; exact canon_snoc hB hd (by omega) hc
      show L (nums (l ++ [c'])) = L (nums (limbs (2 ^ w) (x + c)))
      rw [e]
    · have hc : c' = 0 := by have h : ¬ (0 < c') := by simpa using hb
                             omega
      subst hc
      rw [Nat.mul_zero, Nat.add_zero] at hv
      refine SX.thawTo [("found", L (nums l))] wf (by walk_at "thaws") (by walk_at "nodup") ?_
      refine SX.cons (S1.ret (EV.conv (by walk_at "ev") ?_) rfl)
      have hc : l = [] ∨ (2 ^ w) ^ (l.length - 1) ≤ val (2 ^ w) l := by
        by_cases h0 : x = 0
        · left; subst h0; rw [limbs_zero] at hlen; exact List.length_eq_zero_iff.mp hlen
        · right
          have h1 := pow_le hB h0
          rw [hlen, hv]; omega
      have e : limbs (2 ^ w) (x + c) = l := by rw [← hv]; exact canon hB hd hc
      show L (nums l) = L (nums (limbs (2 ^ w) (x + c)))
      rw [e]
end
local macro_rules | `(tactic| walk_at "con") => `(tactic| ((with_reducible show ConA _ _ (Wd.fa _ (Str.ofString "add_limb")) _ _); exact c_add_limb (by assumption) (by assumption) (by walk_at "side") (by walk_at "side")))
section
theorem c_divrem_limb {W : Wd} (H : Wok W) {w : Nat} (hw : 1 ≤ w ∧ w ≤ 20) {x d : Nat} (hx : x < 2 ^ 60) (hd0 : 0 < d) (hdB : d < 2 ^ w) : Con W 2 "divrem_limb" [L (nums (limbs (2 ^ w) x)), I (d : Int), I (w : Int)] (.tuple [NL (2 ^ w) (x / d), .int ((x % d : Nat) : Int)]) := by
  refine Con.of (d := fnItem 9) [("a", L (nums (limbs (2 ^ w) x))), ("limb", I (d : Int)), ("w", I (w : Int))] ["a", "limb", "w"] rfl rfl rfl (H.defs 9 (by decide)) rfl (by decide) ?_ (by decide +kernel) rfl rfl rfl (by decide +kernel) ?_
  · exact fun pm cd doc => allV (n := 3) (fun _ _ _ => rfl)
  · intro A La fa cd h₀ X gens os
    conv in (occs := *) fnItem 9 => all_goals whnf
    intro wf
    have hB : 2 ≤ 2 ^ w := two_le hw.1
    have hB2 : 2 ^ w ≤ 2 ^ 20 := Nat.pow_le_pow_right (n := 2) (by decide) hw.2
    have hlx := len_limbs_le hB hx
    refine SX.cons (S1.if_ (by walk_at "tv") (fun hb => ?_) (fun hb => SX.nil ?_))
    · exfalso; have : (d : Int) = 0 := by simpa using hb
      omega
    refine SX.cons (S1.own2 (x := "found") (y := "rest") (ds := nums (List.replicate (limbs (2 ^ w) x).length 0)) (d2 := .int ((0 : Nat) : Int)) wf ?zz (fun _ => by walk_at "ev") rfl rfl
      (fun fa => ⟨_, _, by walk_at "upd", by walk_at "upd", ?_⟩))
    case zz =>
      have e : nums (List.replicate (limbs (2 ^ w) x).length 0) = List.replicate (limbs (2 ^ w) x).length (.int 0) := by simp [nums]
      rw [e]; exact EN.zeros wf (by walk_at "ev") (by omega)
    refine SX.cons (S1.for_ (α := List Nat × Nat) (fun q => ⟨some (fa, nums q.1), [("a", L (nums (limbs (2 ^ w) x))), ("limb", I (d : Int)), ("w", I (w : Int)), ("rest", I (q.2 : Int)), ("found", .v (.ref fa))]⟩)
      (fun i q => Dig (2 ^ w) q.1 ∧ q.1.length = (limbs (2 ^ w) x).length ∧ val (2 ^ w) q.1 = (2 ^ w) ^ ((limbs (2 ^ w) x).length - i) * (x / (2 ^ w) ^ ((limbs (2 ^ w) x).length - i) / d) ∧ q.2 = x / (2 ^ w) ^ ((limbs (2 ^ w) x).length - i) % d ∧
        ∀ j, j < (limbs (2 ^ w) x).length - i → q.1.getD j 0 = 0) (List.replicate (limbs (2 ^ w) x).length 0, 0) wf rfl
      (IT.down (n := (limbs (2 ^ w) x).length) wf (by walk_at "ev") (by walk_at "ev") (by walk_at "ev") (by walk_at "ev") (by omega)) (fun _ => rfl) (by walk_at "sub")
      ⟨Dig.zeros (by omega) _, by simp, by simp [val_zeros, div_len hB x], by simp [div_len hB x], fun j _ => getD_zeros _ j⟩ ?_ ?_)
    · rintro i ⟨l, r⟩ hi ⟨hdg, hlen, hv, hr, hz⟩
      have hlen : l.length = (limbs (2 ^ w) x).length := hlen
      have hz : ∀ j, j < (limbs (2 ^ w) x).length - i → l.getD j 0 = 0 := hz
      have hr : r = x / (2 ^ w) ^ ((limbs (2 ^ w) x).length - i) % d := hr
      have hv : val (2 ^ w) l = (2 ^ w) ^ ((limbs (2 ^ w) x).length - i) * (x / (2 ^ w) ^ ((limbs (2 ^ w) x).length - i) / d) := hv
      obtain ⟨m, hm⟩ : ∃ m, (limbs (2 ^ w) x).length - i = m + 1 := ⟨(limbs (2 ^ w) x).length - i - 1, by omega⟩
      have ei : (((limbs (2 ^ w) x).length : Int) - 1 - (i : Int)) = (m : Int) := by omega
      have e2 : (limbs (2 ^ w) x).length - (i + 1) = m := by omega
      rw [ei]
      rw [hm] at hv hr hz
      have hrd : r < d := hr ▸ Nat.mod_lt _ hd0
      have hst := divl_step hB hd0 hdB (by omega) hv hr (hz m (by omega))
      have hg : x / (2 ^ w) ^ m % 2 ^ w < 2 ^ w := Nat.mod_lt _ (by omega)
      generalize hgg : x / (2 ^ w) ^ m % 2 ^ w = g at *
      refine ⟨_, by walk_at "upd", ?_⟩
      refine SX.cons (S1.assign (d := I ((r * 2 ^ w + g : Nat) : Int)) wf rfl (EV.conv (by walk_at "ev") ?_) (by walk_at "upd") ?_)
      · rw [shl_eq, Int.toNat_natCast, digit hB, hgg, bitOr_shl _ _ _ hg]
      refine SX.cons (S1.setItemN (d := (r * 2 ^ w + g) / d) (j := m) wf rfl (by walk_at "mem") (EV.conv (by walk_at "ev") (by rw [div_cast])) (by walk_at "ev") (by omega) ?_)
      refine SX.cons (S1.aug (c := (((r * 2 ^ w + g) % d : Nat) : Int)) wf rfl (by walk_at "mem") (by walk_at "ev") (by simp only [augI]; rw [if_pos (by omega), mod_cast_]) (by walk_at "upd") ?_)
      refine SX.nil ⟨(l.set m ((r * 2 ^ w + g) / d), (r * 2 ^ w + g) % d), ⟨hdg.set hst.2.2, by simp; exact hlen, ?_, ?_, ?_⟩, by walk_at "sub"⟩
      · rw [e2]; exact hst.1
      · rw [e2]; exact hst.2.1
      · rw [e2]; intro j hj
        show (l.set m ((r * 2 ^ w + g) / d)).getD j 0 = 0
        rw [getD_set_ne (by omega)]; exact hz j (by omega)
    rintro ⟨l, r⟩ ⟨hdg, hlen, hv, hr, hz⟩
    rw [Nat.sub_self, Nat.pow_zero, Nat.div_one] at hv hr
    rw [Nat.one_mul] at hv
    have hlen : l.length = (limbs (2 ^ w) x).length := hlen
    have hv : val (2 ^ w) l = x / d := hv
    have hr : r = x % d := hr
    refine SX.thawTo [("found", L (nums l)), ("rest", I (r : Int))] wf (by walk_at "thaws") (by walk_at "nodup") ?_
    refine SX.cons (S1.ret (EV.tuple (xs := [NL (2 ^ w) (x / d), .int ((x % d : Nat) : Int)]) (EVs.cons (EV.conv (EV.call wf (by walk_at "ev") (by walk_at "evs") (c_normal (by assumption) hB l hdg (by omega)) (by exact Nat.le_of_ble_eq_true rfl) (Wok.alive (by assumption) _ (by decide))) ?_) (EVs.cons (EV.conv (by walk_at "ev") ?_) EVs.nil))) rfl)
    · rw [hv]
    · rw [hr]
end
local macro_rules | `(tactic| walk_at "con") => `(tactic| ((with_reducible show ConA _ _ (Wd.fa _ (Str.ofString "divrem_limb")) _ _); exact c_divrem_limb (by assumption) (by assumption) (by walk_at "side") (by walk_at "side") (by walk_at "side")))
section
theorem c_mul_school {W : Wd} (H : Wok W) {w : Nat} (hw : 1 ≤ w ∧ w ≤ 20) {x y : Nat} (hx : x < 2 ^ 60) (hy : y < 2 ^ 60) : Con W 2 "mul_school" [L (nums (limbs (2 ^ w) x)), L (nums (limbs (2 ^ w) y)), I (w : Int)] (NL (2 ^ w) (x * y)) := by
  refine Con.of (d := fnItem 36) [("a", L (nums (limbs (2 ^ w) x))), ("b", L (nums (limbs (2 ^ w) y))), ("w", I (w : Int))] ["a", "b", "w"] rfl rfl rfl (H.defs 36 (by decide)) rfl (by decide) ?_ (by decide +kernel) rfl rfl rfl (by decide +kernel) ?_
  · exact fun pm cd doc => allV (n := 3) (fun _ _ _ => rfl)
  · intro A La fa cd h₀ X gens os
    conv in (occs := *) fnItem 36 => all_goals whnf
    intro wf
    have hB : 2 ≤ 2 ^ w := two_le hw.1
    have hB2 : 2 ^ w ≤ 2 ^ 20 := Nat.pow_le_pow_right (n := 2) (by decide) hw.2
    have hlx := len_limbs_le hB hx
    have hly := len_limbs_le hB hy
    refine SX.cons (S1.own2 (x := "found") (y := "mask") (ds := nums (List.replicate ((limbs (2 ^ w) x).length + (limbs (2 ^ w) y).length) 0)) (d2 := .int ((2 ^ w - 1 : Nat) : Int)) wf ?zz (fun _ => EV.conv (by walk_at "ev") (by rw [mask_eq])) rfl rfl
      (fun fa => ⟨_, _, by walk_at "upd", by walk_at "upd", ?_⟩))
    case zz =>
      have e : nums (List.replicate ((limbs (2 ^ w) x).length + (limbs (2 ^ w) y).length) 0) = List.replicate ((limbs (2 ^ w) x).length + (limbs (2 ^ w) y).length) (.int 0) := by simp [nums]
      rw [e]; exact EN.zeros wf (EV.conv (by walk_at "ev") (by rw [Int.natCast_add])) (by omega)
    refine SX.cons (S1.enum (α := List Nat) (ds := nums (limbs (2 ^ w) x)) (fun f => ⟨some (fa, nums f), [("a", L (nums (limbs (2 ^ w) x))), ("b", L (nums (limbs (2 ^ w) y))), ("w", I (w : Int)), ("mask", I ((2 ^ w - 1 : Nat) : Int)), ("found", .v (.ref fa))]⟩)
      (fun i f => Dig (2 ^ w) f ∧ f.length = (limbs (2 ^ w) x).length + (limbs (2 ^ w) y).length ∧ val (2 ^ w) f = (x % (2 ^ w) ^ i) * y ∧ ∀ j, i + (limbs (2 ^ w) y).length ≤ j → f.getD j 0 = 0)
      (List.replicate ((limbs (2 ^ w) x).length + (limbs (2 ^ w) y).length) 0) wf rfl rfl (by walk_at "ev") (by walk_at "ev") (fun _ => rfl) (by walk_at "sub")
      ⟨Dig.zeros (by omega) _, by simp, by simp [val_zeros, Nat.mod_one], fun j _ => getD_zeros _ j⟩ ?_ ?_)
    · rintro i f hi ⟨hdg, hlen, hv, hz⟩
      rw [nums_len] at hi
      generalize hgx : x / (2 ^ w) ^ i % 2 ^ w = gx at *
      have hgx2 : gx < 2 ^ w := hgx ▸ Nat.mod_lt _ (by omega)
      have hP : (nums (limbs (2 ^ w) x)).getD i .none = .int (gx : Int) := by rw [← hgx, ← digit hB]; simp [nums, hi]
      rw [hP]
      refine ⟨_, _, by walk_at "upd", by walk_at "upd", ?_⟩
      refine SX.cons (S1.assign (d := I ((0 : Nat) : Int)) wf rfl (by walk_at "ev") (by walk_at "upd") ?_)
      refine SX.cons (S1.enum (α := List Nat × Nat) (ds := nums (limbs (2 ^ w) y)) (fun q => ⟨some (fa, nums q.1), [("a", L (nums (limbs (2 ^ w) x))), ("b", L (nums (limbs (2 ^ w) y))), ("w", I (w : Int)), ("mask", I ((2 ^ w - 1 : Nat) : Int)), ("found", .v (.ref fa)), ("at", I (i : Int)), ("limb", I (gx : Int)), ("carry", I (q.2 : Int))]⟩)
        (fun j q => Dig (2 ^ w) q.1 ∧ q.1.length = (limbs (2 ^ w) x).length + (limbs (2 ^ w) y).length ∧ q.2 < 2 ^ w ∧ val (2 ^ w) q.1 + (2 ^ w) ^ (i + j) * q.2 = val (2 ^ w) f + (2 ^ w) ^ i * gx * (y % (2 ^ w) ^ j) ∧ ∀ m, i + j ≤ m → q.1.getD m 0 = f.getD m 0)
        (f, 0) wf rfl rfl (by walk_at "ev") (by walk_at "ev") (fun _ => rfl) (by walk_at "sub") ⟨hdg, hlen, by show 0 < 2 ^ w; omega, by simp [Nat.mod_one], fun _ _ => rfl⟩ ?_ ?_)
      · rintro j ⟨l, c⟩ hj ⟨hdl, hll, hc, hvl, hzl⟩
        rw [nums_len] at hj
        have hll : l.length = (limbs (2 ^ w) x).length + (limbs (2 ^ w) y).length := hll
        have hc : c < 2 ^ w := hc
        generalize hgy : y / (2 ^ w) ^ j % 2 ^ w = gy at *
        have hP : (nums (limbs (2 ^ w) y)).getD j .none = .int (gy : Int) := by rw [← hgy, ← digit hB]; simp [nums, hj]
        rw [hP]
        have hst := mul_step hB (v0 := val (2 ^ w) f) hdl (by omega) hc hgx2 hgy hvl
        refine ⟨_, _, by walk_at "upd", by walk_at "upd", ?_⟩
        refine SX.cons (S1.aug (c := ((c + (l.getD (i + j) 0 + gx * gy) : Nat) : Int)) wf rfl (by walk_at "mem") (by walk_at "ev") ?_ (by walk_at "upd") ?_)
        · have e : ((i : Int) + (j : Int)).toNat = i + j := by omega
          simp only [augI, e]; simp
        refine SX.cons (S1.setItemN (d := (c + (l.getD (i + j) 0 + gx * gy)) % 2 ^ w) (j := i + j) wf rfl (by walk_at "mem") (EV.maskN (w := w) (by walk_at "ev") (by walk_at "ev")) (EV.conv (by walk_at "ev") (by rw [Int.natCast_add])) (by show i + j < l.length ∧ i + j < 1000000; omega) ?_)
        refine SX.cons (S1.aug wf rfl (by walk_at "mem") (by walk_at "ev") (shr_eq _ w) (by walk_at "upd") ?_)
        refine SX.nil ⟨(l.set (i + j) ((c + (l.getD (i + j) 0 + gx * gy)) % 2 ^ w), (c + (l.getD (i + j) 0 + gx * gy)) / 2 ^ w), ⟨hdl.set (Nat.mod_lt _ (by omega)), by simp; exact hll, hst.2, hst.1, ?_⟩, by walk_at "sub"⟩
        intro m hm
        show (l.set (i + j) _).getD m 0 = f.getD m 0
        rw [getD_set_ne (by omega)]; exact hzl m (by omega)
      rw [nums_len]
      rintro ⟨l, c⟩ ⟨hdl, hll, hc, hvl, hzl⟩
      have hll : l.length = (limbs (2 ^ w) x).length + (limbs (2 ^ w) y).length := hll
      have hc : c < 2 ^ w := hc
      have hvl : val (2 ^ w) l + (2 ^ w) ^ (i + (limbs (2 ^ w) y).length) * c = val (2 ^ w) f + (2 ^ w) ^ i * gx * (y % (2 ^ w) ^ (limbs (2 ^ w) y).length) := hvl
      rw [mod_len hB y (Nat.le_refl _)] at hvl
      have hzero : l.getD (i + (limbs (2 ^ w) y).length) 0 = 0 := (hzl _ (Nat.le_refl _)).trans (hz _ (Nat.le_refl _))
      have hs := val_set (B := 2 ^ w) (v := c) (show i + (limbs (2 ^ w) y).length < l.length by omega)
      rw [hzero, Nat.mul_zero, Nat.add_zero] at hs
      refine SX.cons (S1.setItemN (d := c) (j := i + (limbs (2 ^ w) y).length) wf rfl (by walk_at "mem") (by walk_at "ev") (EV.conv (by walk_at "ev") (by rw [Int.natCast_add])) (by show i + (limbs (2 ^ w) y).length < l.length ∧ i + (limbs (2 ^ w) y).length < 1000000; omega) ?_)
      refine SX.nil ⟨l.set (i + (limbs (2 ^ w) y).length) c, ⟨hdl.set hc, by simp; exact hll, ?_, ?_⟩, by walk_at "sub"⟩
      · rw [hs, hvl, hv, mod_succ x, hgx, Nat.add_mul]
      · intro j hj
        rw [getD_set_ne (by omega), hzl j (by omega)]; exact hz j (by omega)
    rw [nums_len]
    rintro l ⟨hdg, hlen, hv, hz⟩
    rw [mod_len hB x (Nat.le_refl _)] at hv
    refine SX.thawTo [("found", L (nums l))] wf (by walk_at "thaws") (by walk_at "nodup") ?_
    refine SX.cons (S1.ret (d := NL (2 ^ w) (x * y)) (EV.conv (EV.call wf (by walk_at "ev") (by walk_at "evs") (c_normal (by assumption) hB l hdg (by omega)) (by exact Nat.le_of_ble_eq_true rfl) (Wok.alive (by assumption) _ (by decide))) ?_) rfl)
    rw [hv]
end
local macro_rules | `(tactic| walk_at "con") => `(tactic| ((with_reducible show ConA _ _ (Wd.fa _ (Str.ofString "mul_school")) _ _); exact c_mul_school (by assumption) (by assumption) (by walk_at "side") (by walk_at "side")))
section
theorem c_signed {W : Wd} (H : Wok W) {B : Nat} (hB : 2 ≤ B) (b : Bool) {x : Nat} (hx : x < 2 ^ 60) : Con W 1 "signed" [Mine.B b, L (nums (limbs B x))] (SG B (sgn b x)) := by
  refine Con.of (d := fnItem 14) [("is_below", Mine.B b), ("nat", L (nums (limbs B x)))] ["is_below", "nat"] rfl rfl rfl (H.defs 14 (by decide)) rfl (by decide) ?_ (by decide +kernel) rfl rfl rfl (by decide +kernel) ?_
  · exact fun pm cd doc => allV (n := 2) (fun _ _ => rfl)
  · intro A La fa cd h₀ X gens os
    conv in (occs := *) fnItem 14 => all_goals whnf
    intro wf
    have hlx := len_limbs_le hB hx
    refine SX.cons (S1.ret (EV.tuple (xs := [.bool (decide (sgn b x < 0)), NL B (sgn b x).natAbs]) (EVs.cons (EV.conv (by walk_at "ev") ?_) (EVs.cons (EV.conv (by walk_at "ev") ?_) EVs.nil))) rfl)
    · rw [sgn_lt]
      have e : decide (((limbs B x).length : Int) > 0) = decide (0 < x) := by
        have := len_pos hB (n := x)
        exact decide_eq_decide.mpr (by omega)
      rw [e]
    · rw [sgn_abs]
end
local macro_rules | `(tactic| walk_at "con") => `(tactic| ((with_reducible show ConA _ _ (Wd.fa _ (Str.ofString "signed")) _ _); exact c_signed (by assumption) (by assumption) _ (by walk_at "side")))
section
theorem c_s_neg {W : Wd} (H : Wok W) {B : Nat} (hB : 2 ≤ B) {z : Int} (hz : z.natAbs < 2 ^ 60) : Con W 2 "s_neg" [.d (SG B z)] (SG B (-z)) := by
  refine Con.of (d := fnItem 15) [("x", .d (SG B z))] ["x"] rfl rfl rfl (H.defs 15 (by decide)) rfl (by decide) ?_ (by decide +kernel) rfl rfl rfl (by decide +kernel) ?_
  · exact fun pm cd doc => allV (n := 1) (fun _ => rfl)
  · intro A La fa cd h₀ X gens os
    conv in (occs := *) fnItem 15 => all_goals whnf
    intro wf
    refine SX.cons (S1.ret (d := SG B (-z)) (EV.conv (by walk_at "ev") ?_) rfl)
    have e : sgn (!decide (z < 0)) z.natAbs = -z := by
      by_cases h : z < 0 <;> simp [sgn, h] <;> omega
    rw [e]
end
local macro_rules | `(tactic| walk_at "con") => `(tactic| ((with_reducible show ConA _ _ (Wd.fa _ (Str.ofString "s_neg")) _ _); exact c_s_neg (by assumption) (by assumption) (by walk_at "side")))
section
theorem c_s_compare {W : Wd} (H : Wok W) {B : Nat} (hB : 2 ≤ B) {x y : Int} (hx : x.natAbs < 2 ^ 60) (hy : y.natAbs < 2 ^ 60) : Con W 2 "s_compare" [.d (SG B x), .d (SG B y)] (.int (cmpZ x y)) := by
  refine Con.of (d := fnItem 16) [("x", .d (SG B x)), ("y", .d (SG B y))] ["x", "y"] rfl rfl rfl (H.defs 16 (by decide)) rfl (by decide) ?_ (by decide +kernel) rfl rfl rfl (by decide +kernel) ?_
  · exact fun pm cd doc => allV (n := 2) (fun _ _ => rfl)
  · intro A La fa cd h₀ X gens os
    conv in (occs := *) fnItem 16 => all_goals whnf
    intro wf
    refine SX.cons (S1.if_ (by walk_at "tv") (fun hb => ?_) (fun hb => SX.nil ?_))
    · refine SX.cons (S1.ret (EV.ite (d := I (cmpZ x y)) (by walk_at "tv") (fun hc => EV.conv (by walk_at "ev") ?_) (fun hc => EV.conv (by walk_at "ev") ?_)) rfl)
      · have h1 : x < 0 := of_decide_eq_true hc
        have h2 : ¬ y < 0 := by intro h; simp [h1, h] at hb
        rw [cmpZ, if_pos (by omega)]
      · have h1 : ¬ x < 0 := of_decide_eq_false hc
        have h2 : y < 0 := by
          apply Classical.byContradiction; intro h; simp [h1, h] at hb
        rw [cmpZ, if_neg (by omega), if_neg (by omega)]
    · have hb' : decide (x < 0) = decide (y < 0) := by rw [bne_eq_false_iff_eq] at hb; exact hb
      refine SX.cons (S1.ret (EV.ite (d := I (cmpZ x y)) (by walk_at "tv") (fun hc => EV.conv (by walk_at "ev") ?_) (fun hc => EV.conv (by walk_at "ev") ?_)) rfl)
      · have h1 : x < 0 := of_decide_eq_true hc
        have h2 : y < 0 := of_decide_eq_true (hb' ▸ hc)
        congr 2; unfold cmp cmpZ
        split <;> split <;> (try split) <;> (try split) <;> omega
      · have h1 : ¬ x < 0 := of_decide_eq_false hc
        have h2 : ¬ y < 0 := of_decide_eq_false (hb' ▸ hc)
        congr 2; unfold cmp cmpZ
        split <;> split <;> (try split) <;> (try split) <;> omega
end
local macro_rules | `(tactic| walk_at "con") => `(tactic| ((with_reducible show ConA _ _ (Wd.fa _ (Str.ofString "s_compare")) _ _); exact c_s_compare (by assumption) (by assumption) (by walk_at "side") (by walk_at "side")))
section
theorem c_s_add {W : Wd} (H : Wok W) {w : Nat} (hw : 1 ≤ w ∧ w ≤ 20) {x y : Int} (hx : x.natAbs < 2 ^ 58) (hy : y.natAbs < 2 ^ 58) : Con W 3 "s_add" [.d (SG (2 ^ w) x), .d (SG (2 ^ w) y), I (w : Int)] (SG (2 ^ w) (x + y)) := by
  refine Con.of (d := fnItem 17) [("x", .d (SG (2 ^ w) x)), ("y", .d (SG (2 ^ w) y)), ("w", I (w : Int))] ["x", "y", "w"] rfl rfl rfl (H.defs 17 (by decide)) rfl (by decide) ?_ (by decide +kernel) rfl rfl rfl (by decide +kernel) ?_
  · exact fun pm cd doc => allV (n := 3) (fun _ _ _ => rfl)
  · intro A La fa cd h₀ X gens os
    conv in (occs := *) fnItem 17 => all_goals whnf
    intro wf
    have hB : 2 ≤ 2 ^ w := two_le hw.1
    refine SX.cons (S1.if_ (by walk_at "tv") (fun hb => ?_) (fun hb => SX.nil ?_))
    · have hb' : decide (x < 0) = decide (y < 0) := by simpa using hb
      refine SX.cons (S1.ret (d := SG (2 ^ w) (x + y)) (EV.conv (by walk_at "ev") ?_) rfl)
      have e : sgn (decide (x < 0)) (x.natAbs + y.natAbs) = x + y := by
        by_cases h1 : x < 0 <;> by_cases h2 : y < 0 <;> simp [h1, h2] at hb' <;> simp [sgn, h1] <;> omega
      rw [e]
    · have hb' : decide (x < 0) ≠ decide (y < 0) := by simpa using hb
      refine SX.cons (S1.if_ (by walk_at "tv") (fun hc => ?_) (fun hc => SX.nil ?_))
      · have hlt : x.natAbs < y.natAbs := by
          have h : cmp x.natAbs y.natAbs < 0 := of_decide_eq_true hc
          unfold cmp at h; split at h
          · assumption
          · split at h <;> omega
        have hle : x.natAbs ≤ y.natAbs := by omega
        refine SX.cons (S1.ret (d := SG (2 ^ w) (x + y)) (EV.conv (by walk_at "ev") ?_) rfl)
        have e : sgn (decide (y < 0)) (y.natAbs - x.natAbs) = x + y := by
          by_cases h1 : x < 0 <;> by_cases h2 : y < 0 <;> simp [h1, h2] at hb' <;> simp [sgn, h2] <;> omega
        rw [e]
      · have hle : y.natAbs ≤ x.natAbs := by
          have h : ¬ cmp x.natAbs y.natAbs < 0 := of_decide_eq_false hc
          unfold cmp at h; split at h <;> omega
        refine SX.cons (S1.ret (d := SG (2 ^ w) (x + y)) (EV.conv (by walk_at "ev") ?_) rfl)
        have e : sgn (decide (x < 0)) (x.natAbs - y.natAbs) = x + y := by
          by_cases h1 : x < 0 <;> by_cases h2 : y < 0 <;> simp [h1, h2] at hb' <;> simp [sgn, h1] <;> omega
        rw [e]
end
local macro_rules | `(tactic| walk_at "con") => `(tactic| ((with_reducible show ConA _ _ (Wd.fa _ (Str.ofString "s_add")) _ _); exact c_s_add (by assumption) (by assumption) (by walk_at "side") (by walk_at "side")))
section
theorem c_s_sub {W : Wd} (H : Wok W) {w : Nat} (hw : 1 ≤ w ∧ w ≤ 20) {x y : Int} (hx : x.natAbs < 2 ^ 58) (hy : y.natAbs < 2 ^ 58) : Con W 4 "s_sub" [.d (SG (2 ^ w) x), .d (SG (2 ^ w) y), I (w : Int)] (SG (2 ^ w) (x - y)) := by
  refine Con.of (d := fnItem 18) [("x", .d (SG (2 ^ w) x)), ("y", .d (SG (2 ^ w) y)), ("w", I (w : Int))] ["x", "y", "w"] rfl rfl rfl (H.defs 18 (by decide)) rfl (by decide) ?_ (by decide +kernel) rfl rfl rfl (by decide +kernel) ?_
  · exact fun pm cd doc => allV (n := 3) (fun _ _ _ => rfl)
  · intro A La fa cd h₀ X gens os
    conv in (occs := *) fnItem 18 => all_goals whnf
    intro wf
    have hB : 2 ≤ 2 ^ w := two_le hw.1
    refine SX.cons (S1.ret (d := SG (2 ^ w) (x - y)) (EV.conv (by walk_at "ev") ?_) rfl)
    rw [Int.sub_eq_add_neg]
end
local macro_rules | `(tactic| walk_at "con") => `(tactic| ((with_reducible show ConA _ _ (Wd.fa _ (Str.ofString "s_sub")) _ _); exact c_s_sub (by assumption) (by assumption) (by walk_at "side") (by walk_at "side")))
section
theorem c_s_mul {W : Wd} (H : Wok W) {w : Nat} (hw : 1 ≤ w ∧ w ≤ 20) {x y : Int} (hx : x.natAbs < 2 ^ 28) (hy : y.natAbs < 2 ^ 28) : Con W 3 "s_mul" [.d (SG (2 ^ w) x), .d (SG (2 ^ w) y), I (w : Int), .v (.ref (W.fa "mul_school"))] (SG (2 ^ w) (x * y)) := by
  refine Con.of (d := fnItem 19) [("x", .d (SG (2 ^ w) x)), ("y", .d (SG (2 ^ w) y)), ("w", I (w : Int)), ("mul", .v (.ref (W.fa "mul_school")))] ["x", "y", "w", "mul"] rfl rfl rfl (H.defs 19 (by decide)) rfl (by decide) ?_ (by decide +kernel) rfl rfl rfl (by decide +kernel) ?_
  · exact fun pm cd doc => allV (n := 4) (fun _ _ _ _ => rfl)
  · intro A La fa cd h₀ X gens os
    conv in (occs := *) fnItem 19 => all_goals whnf
    intro wf
    have hB : 2 ≤ 2 ^ w := two_le hw.1
    have hxy : x.natAbs * y.natAbs < 2 ^ 60 := Nat.lt_of_lt_of_le (Nat.mul_lt_mul'' hx hy) (by decide)
    refine SX.cons (S1.ret (d := SG (2 ^ w) (x * y)) (EV.conv (by walk_at "ev") ?_) rfl)
    rw [sgn_mul]
end
local macro_rules | `(tactic| walk_at "con") => `(tactic| ((with_reducible show ConA _ _ (Wd.fa _ (Str.ofString "s_mul")) _ _); exact c_s_mul (by assumption) (by assumption) (by walk_at "side") (by walk_at "side")))
section
theorem c_divrem_small {W : Wd} (H : Wok W) {w : Nat} (hw : 1 ≤ w ∧ w ≤ 20) {x d : Nat} (hx : x < 2 ^ 60) (hd0 : 0 < d) (hdB : d < 2 ^ w) : Con W 3 "divrem_small" [L (nums (limbs (2 ^ w) x)), L (nums (limbs (2 ^ w) d)), I (w : Int)] (.tuple [NL (2 ^ w) (x / d), NL (2 ^ w) (x % d)]) := by
  refine Con.of (d := fnItem 37) [("a", L (nums (limbs (2 ^ w) x))), ("b", L (nums (limbs (2 ^ w) d))), ("w", I (w : Int))] ["a", "b", "w"] rfl rfl rfl (H.defs 37 (by decide)) rfl (by decide) ?_ (by decide +kernel) rfl rfl rfl (by decide +kernel) ?_
  · exact fun pm cd doc => allV (n := 3) (fun _ _ _ => rfl)
  · intro A La fa cd h₀ X gens os
    conv in (occs := *) fnItem 37 => all_goals whnf
    intro wf
    have hB : 2 ≤ 2 ^ w := two_le hw.1
    have h1 := one_limb hB hd0 hdB
    have hr : x % d < 2 ^ w := Nat.lt_trans (Nat.mod_lt _ hd0) hdB
    rw [h1]
    refine SX.cons (S1.unp2 wf (EV.call wf (by walk_at "ev") (EVs.cons (by walk_at "ev") (EVs.cons (EV.conv (d' := I (d : Int)) (by walk_at "ev") (by rfl)) (EVs.cons (by walk_at "ev") EVs.nil))) (c_divrem_limb (by assumption) (by assumption) hx hd0 hdB) (by exact Nat.le_of_ble_eq_true rfl) (Wok.alive (by assumption) _ (by decide))) rfl rfl (by walk_at "upd") (by walk_at "upd") ?_)
    refine SX.cons (S1.ret (EV.tuple2 (by walk_at "ev") (EV.ite (d := L (nums (limbs (2 ^ w) (x % d)))) (by walk_at "tv") (fun hc => EV.conv (by walk_at "ev") ?_) (fun hc => EV.conv (by walk_at "ev") ?_))) rfl)
    · have h : ((x % d : Nat) : Int) > 0 := of_decide_eq_true hc
      rw [one_limb hB (by omega) hr]; rfl
    · have h : ¬ ((x % d : Nat) : Int) > 0 := of_decide_eq_false hc
      have : x % d = 0 := by omega
      rw [this, limbs_zero]; rfl
end
local macro_rules | `(tactic| walk_at "con") => `(tactic| ((with_reducible show ConA _ _ (Wd.fa _ (Str.ofString "divrem_small")) _ _); exact c_divrem_small (by assumption) (by assumption) (by walk_at "side") (by walk_at "side") (by walk_at "side")))
section
theorem c_divrem_school {W : Wd} (H : Wok W) {w : Nat} (hw : 1 ≤ w ∧ w ≤ 20) {x d : Nat} (hx : x < 2 ^ 60) (hd0 : 0 < d) (hdB : d < 2 ^ w) : Con W 4 "divrem_school" [L (nums (limbs (2 ^ w) x)), L (nums (limbs (2 ^ w) d)), I (w : Int)] (.tuple [NL (2 ^ w) (x / d), NL (2 ^ w) (x % d)]) := by
  refine Con.of (d := fnItem 42) [("a", L (nums (limbs (2 ^ w) x))), ("b", L (nums (limbs (2 ^ w) d))), ("w", I (w : Int))] ["a", "b", "w"] rfl rfl rfl (H.defs 42 (by decide)) rfl (by decide) ?_ (by decide +kernel) rfl rfl rfl (by decide +kernel) ?_
  · exact fun pm cd doc => allV (n := 3) (fun _ _ _ => rfl)
  · intro A La fa cd h₀ X gens os
    conv in (occs := *) fnItem 42 => all_goals whnf
    intro wf
    have hB : 2 ≤ 2 ^ w := two_le hw.1
    have hB2 : 2 ^ w ≤ 2 ^ 20 := Nat.pow_le_pow_right (n := 2) (by decide) hw.2
    have h1 := one_limb hB hd0 hdB
    have hlx := len_limbs_le hB hx
    have hl1 : (limbs (2 ^ w) d).length = 1 := by rw [h1]; rfl
    refine SX.cons (S1.if_ (by walk_at "tv") (fun hb => ?_) (fun hb => SX.nil ?_))
    · exfalso; rw [hl1] at hb; revert hb; decide
    refine SX.cons (S1.if_ (by walk_at "tv") (fun hb => ?_) (fun hb => SX.nil ?_))
    · have hlt : x < d := by
        have h : cmp x d < 0 := of_decide_eq_true hb
        unfold cmp at h; split at h
        · assumption
        · split at h <;> omega
      refine SX.cons (S1.ret (d := .tuple [NL (2 ^ w) (x / d), NL (2 ^ w) (x % d)]) (EV.conv (by walk_at "ev") ?_) rfl)
      have e0 : NL (2 ^ w) 0 = .list [] := by show PyData.list (nums (limbs (2 ^ w) 0)) = _; rw [limbs_zero]; rfl
      rw [Nat.div_eq_of_lt hlt, Nat.mod_eq_of_lt hlt, e0]
    refine SX.cons (S1.if_ (by walk_at "tv") (fun hb => ?_) (fun hb => ?_))
    · refine SX.cons (S1.ret (by walk_at "ev") rfl)
    · exfalso; rw [hl1] at hb; revert hb; decide
end
local macro_rules | `(tactic| walk_at "con") => `(tactic| ((with_reducible show ConA _ _ (Wd.fa _ (Str.ofString "divrem_school")) _ _); exact c_divrem_school (by assumption) (by assumption) (by walk_at "side") (by walk_at "side") (by walk_at "side")))
section
theorem c_tdiv {W : Wd} (H : Wok W) {w : Nat} (hw : 1 ≤ w ∧ w ≤ 20) {x : Int} {y : Nat} (hx : x.natAbs < 2 ^ 58) (hy0 : 0 < y) (hyB : y < 2 ^ w) : Con W 5 "tdiv" [.d (SG (2 ^ w) x), .d (SG (2 ^ w) (y : Int)), I (w : Int), .v (.ref (W.fa "divrem_school"))] (.tuple [SG (2 ^ w) (sgn (decide (x < 0)) (x.natAbs / y)), SG (2 ^ w) (sgn (decide (x < 0)) (x.natAbs % y))]) := by
  refine Con.of (d := fnItem 20) [("x", .d (SG (2 ^ w) x)), ("y", .d (SG (2 ^ w) (y : Int))), ("w", I (w : Int)), ("divrem", .v (.ref (W.fa "divrem_school")))] ["x", "y", "w", "divrem"] rfl rfl rfl (H.defs 20 (by decide)) rfl (by decide) ?_ (by decide +kernel) rfl rfl rfl (by decide +kernel) ?_
  · exact fun pm cd doc => allV (n := 4) (fun _ _ _ _ => rfl)
  · intro A La fa cd h₀ X gens os
    conv in (occs := *) fnItem 20 => all_goals whnf
    intro wf
    have hB : 2 ≤ 2 ^ w := two_le hw.1
    have hB2 : 2 ^ w ≤ 2 ^ 20 := Nat.pow_le_pow_right (n := 2) (by decide) hw.2
    have h1 := one_limb hB hy0 hyB
    have hl1 : (limbs (2 ^ w) y).length = 1 := by rw [h1]; rfl
    have ey : ((y : Int)).natAbs = y := by omega
    have hdv : x.natAbs / y ≤ x.natAbs := Nat.div_le_self _ _
    have hmd : x.natAbs % y ≤ x.natAbs := Nat.mod_le _ _
    have hs : decide ((y : Int) < 0) = false := decide_eq_false (by omega)
    rw [SG_nat]
    refine SX.cons (S1.if_ (by walk_at "tv") (fun hb => ?_) (fun hb => SX.nil ?_))
    · exfalso; rw [hl1] at hb; revert hb; decide
    refine SX.cons (S1.unp2 wf (by walk_at "ev") rfl rfl (by walk_at "upd") (by walk_at "upd") ?_)
    refine SX.cons (S1.ret (EV.conv (by walk_at "ev") ?_) rfl)
    rw [Bool.bne_false]
end
local macro_rules | `(tactic| walk_at "con") => `(tactic| ((with_reducible show ConA _ _ (Wd.fa _ (Str.ofString "tdiv")) _ _); exact c_tdiv (by assumption) (by assumption) (by walk_at "side") (by walk_at "side") (by walk_at "side")))
section
theorem c_fdiv {W : Wd} (H : Wok W) {w : Nat} (hw : 1 ≤ w ∧ w ≤ 20) {x : Int} {y : Nat} (hx : x.natAbs < 2 ^ 57) (hy0 : 0 < y) (hyB : y < 2 ^ w) : Con W 6 "fdiv" [.d (SG (2 ^ w) x), .d (SG (2 ^ w) (y : Int)), I (w : Int), .v (.ref (W.fa "divrem_school"))] (.tuple [SG (2 ^ w) (x / (y : Int)), SG (2 ^ w) (x % (y : Int))]) := by
  refine Con.of (d := fnItem 21) [("x", .d (SG (2 ^ w) x)), ("y", .d (SG (2 ^ w) (y : Int))), ("w", I (w : Int)), ("divrem", .v (.ref (W.fa "divrem_school")))] ["x", "y", "w", "divrem"] rfl rfl rfl (H.defs 21 (by decide)) rfl (by decide) ?_ (by decide +kernel) rfl rfl rfl (by decide +kernel) ?_
  · exact fun pm cd doc => allV (n := 4) (fun _ _ _ _ => rfl)
  · intro A La fa cd h₀ X gens os
    conv in (occs := *) fnItem 21 => all_goals whnf
    intro wf
    have hB : 2 ≤ 2 ^ w := two_le hw.1
    have hB2 : 2 ^ w ≤ 2 ^ 20 := Nat.pow_le_pow_right (n := 2) (by decide) hw.2
    have hdv : x.natAbs / y ≤ x.natAbs := Nat.div_le_self _ _
    have hmd : x.natAbs % y ≤ x.natAbs := Nat.mod_le _ _
    have hml := Nat.mod_lt x.natAbs hy0
    obtain ⟨k1, k2, k3⟩ := fdiv_pos_cases x y hy0
    have hs : decide ((y : Int) < 0) = false := decide_eq_false (by omega)
    have hlr := len_limbs_le hB (n := (sgn (decide (x < 0)) (x.natAbs % y)).natAbs) (k := 60) (by rw [sgn_abs]; omega)
    refine SX.cons (S1.unp2 wf (by walk_at "ev") rfl rfl (by walk_at "upd") (by walk_at "upd") ?_)
    refine SX.cons (S1.if_ (TV.and_ (b := (decide (x < 0) != decide ((y : Int) < 0))) (by walk_at "tv") (fun hc => by walk_at "tv")) (fun hb => ?_) (fun hb => SX.nil ?_))
    · rw [hs, Bool.bne_false, Bool.and_eq_true] at hb
      have hx0 : x < 0 := of_decide_eq_true hb.2
      have hr0 : 0 < x.natAbs % y := by
        have h : ((limbs (2 ^ w) (sgn (decide (x < 0)) (x.natAbs % y)).natAbs).length : Int) > 0 := of_decide_eq_true hb.1
        have := (len_pos hB).mp (show 0 < (limbs (2 ^ w) (sgn (decide (x < 0)) (x.natAbs % y)).natAbs).length by omega)
        rwa [sgn_abs] at this
      obtain ⟨e1, e2⟩ := k2 hx0 hr0
      have eq1 : (sgn (decide (x < 0)) (x.natAbs / y)).natAbs = x.natAbs / y := sgn_abs _ _
      have eq2 : sgn (decide (x < 0)) (x.natAbs % y) = -((x.natAbs % y : Nat) : Int) := by simp [sgn, hx0]
      refine SX.cons (S1.ret (d := .tuple [SG (2 ^ w) (x / (y : Int)), SG (2 ^ w) (x % (y : Int))]) (EV.conv (by walk_at "ev") ?_) rfl)
      have e3 : decide (x / (y : Int) < 0) = true := decide_eq_true (by omega)
      have e4 : (x / (y : Int)).natAbs = x.natAbs / y + 1 := by omega
      have e5 : SG (2 ^ w) (x / (y : Int)) = .tuple [.bool true, NL (2 ^ w) (x.natAbs / y + 1)] := by
        show PyData.tuple [.bool (decide (x / (y : Int) < 0)), NL (2 ^ w) (x / (y : Int)).natAbs] = _
        rw [e3, e4]
      rw [e2, e5, eq1, eq2]
    · refine SX.cons (S1.ret (EV.conv (by walk_at "ev") ?_) rfl)
      have e : sgn (decide (x < 0)) (x.natAbs / y) = x / (y : Int) ∧ sgn (decide (x < 0)) (x.natAbs % y) = x % (y : Int) := by
        by_cases hx0 : x < 0
        · have hr0 : x.natAbs % y = 0 := by
            apply Classical.byContradiction; intro hne
            rw [hs, Bool.bne_false, decide_eq_true hx0, Bool.and_true] at hb
            have h : ¬ ((limbs (2 ^ w) (sgn true (x.natAbs % y)).natAbs).length : Int) > 0 := of_decide_eq_false hb
            have := (len_pos hB (n := (sgn true (x.natAbs % y)).natAbs)).mpr (by rw [sgn_abs]; omega)
            omega
          obtain ⟨e1, e2⟩ := k1 hx0 hr0
          rw [e1, e2, hr0]; simp [sgn, hx0]
        · obtain ⟨e1, e2⟩ := k3 (by omega)
          rw [e1, e2]; simp [sgn, hx0]
      rw [e.1, e.2]
end
local macro_rules | `(tactic| walk_at "con") => `(tactic| ((with_reducible show ConA _ _ (Wd.fa _ (Str.ofString "fdiv")) _ _); exact c_fdiv (by assumption) (by assumption) (by walk_at "side") (by walk_at "side") (by walk_at "side")))
section
theorem c_common {W : Wd} (H : Wok W) {w : Nat} (hw : 1 ≤ w ∧ w ≤ 20) {x y : Nat} (hx : x < 2 ^ 60) (hyB : y < 2 ^ w) : Con W 5 "common" [L (nums (limbs (2 ^ w) x)), L (nums (limbs (2 ^ w) y)), I (w : Int), .v (.ref (W.fa "divrem_school"))] (NL (2 ^ w) (Nat.gcd x y)) := by
  refine Con.of (d := fnItem 23) [("a", L (nums (limbs (2 ^ w) x))), ("b", L (nums (limbs (2 ^ w) y))), ("w", I (w : Int)), ("divrem", .v (.ref (W.fa "divrem_school")))] ["a", "b", "w", "divrem"] rfl rfl rfl (H.defs 23 (by decide)) rfl (by decide) ?_ (by decide +kernel) rfl rfl rfl (by decide +kernel) ?_
  · exact fun pm cd doc => allV (n := 4) (fun _ _ _ _ => rfl)
  · intro A La fa cd h₀ X gens os
    conv in (occs := *) fnItem 23 => all_goals whnf
    intro wf
    have hB : 2 ≤ 2 ^ w := two_le hw.1
    have hB2 : 2 ^ w ≤ 2 ^ 20 := Nat.pow_le_pow_right (n := 2) (by decide) hw.2
    refine SX.cons (S1.while_ (α := Nat × Nat) (fun q => ⟨none, [("a", L (nums (limbs (2 ^ w) q.1))), ("b", L (nums (limbs (2 ^ w) q.2))), ("w", I (w : Int)), ("divrem", .v (.ref (W.fa "divrem_school")))]⟩)
      (fun q => q.1 < 2 ^ 60 ∧ q.2 < 2 ^ w ∧ Nat.gcd q.1 q.2 = Nat.gcd x y) (fun q => q.2) (x, y) (by walk_at "sub") ⟨hx, hyB, rfl⟩ ?_)
    rintro ⟨u, v⟩ ⟨hu, hv, hg⟩
    have hu : u < 2 ^ 60 := hu
    have hv : v < 2 ^ w := hv
    have hg : Nat.gcd u v = Nat.gcd x y := hg
    have hlu := len_limbs_le hB hu
    have hlv := len_limbs_le hB (n := v) (k := 60) (by omega)
    refine ⟨_, (by walk_at "tv"), fun hb => ?_, fun hb => ?_⟩
    · have hv0 : 0 < v := by
        have h : ((limbs (2 ^ w) v).length : Int) > 0 := of_decide_eq_true hb
        exact (len_pos hB).mp (by omega)
      have hm := Nat.mod_lt u hv0
      refine SX.cons (S1.unp2s (x := "a") (y := "b") wf (by walk_at "ev") rfl rfl (by walk_at "upd") (by walk_at "upd") ?_)
      refine SX.nil ⟨(v, u % v), ⟨by show v < 2 ^ 60; omega, by show u % v < 2 ^ w; omega, ?_⟩, hm, by walk_at "sub"⟩
      show Nat.gcd v (u % v) = Nat.gcd x y
      rw [← hg, Nat.gcd_comm v, ← Nat.gcd_rec, Nat.gcd_comm]
    · have hv0 : v = 0 := by
        have h : ¬ ((limbs (2 ^ w) v).length : Int) > 0 := of_decide_eq_false hb
        have := (len_pos hB (n := v))
        omega
      refine SX.cons (S1.ret (d := NL (2 ^ w) (Nat.gcd x y)) (EV.conv (EV.call wf (by walk_at "ev") (by walk_at "evs") (c_normal (by assumption) hB (limbs (2 ^ w) u) (limbs_dig hB u) (by omega)) (by exact Nat.le_of_ble_eq_true rfl) (Wok.alive (by assumption) _ (by decide))) ?_) rfl)
      rw [val_limbs hB, ← hg, hv0, Nat.gcd_zero_right]
end
local macro_rules | `(tactic| walk_at "con") => `(tactic| ((with_reducible show ConA _ _ (Wd.fa _ (Str.ofString "common")) _ _); exact c_common (by assumption) (by assumption) (by walk_at "side") (by walk_at "side")))
section
theorem c_cut_signed {W : Wd} (H : Wok W) {w : Nat} (hw : 1 ≤ w ∧ w ≤ 20) {z : Int} {d : Nat} (hz : z.natAbs < 2 ^ 60) (hd0 : 0 < d) (hdB : d < 2 ^ w) (hdvd : d ∣ z.natAbs) : Con W 5 "cut_signed" [.d (SG (2 ^ w) z), L (nums (limbs (2 ^ w) d)), I (w : Int), .v (.ref (W.fa "divrem_school"))] (SG (2 ^ w) (z / (d : Int))) := by
  refine Con.of (d := fnItem 24) [("x", .d (SG (2 ^ w) z)), ("d", L (nums (limbs (2 ^ w) d))), ("w", I (w : Int)), ("divrem", .v (.ref (W.fa "divrem_school")))] ["x", "d", "w", "divrem"] rfl rfl rfl (H.defs 24 (by decide)) rfl (by decide) ?_ (by decide +kernel) rfl rfl rfl (by decide +kernel) ?_
  · exact fun pm cd doc => allV (n := 4) (fun _ _ _ _ => rfl)
  · intro A La fa cd h₀ X gens os
    conv in (occs := *) fnItem 24 => all_goals whnf
    intro wf
    have hB : 2 ≤ 2 ^ w := two_le hw.1
    have hB2 : 2 ^ w ≤ 2 ^ 20 := Nat.pow_le_pow_right (n := 2) (by decide) hw.2
    obtain ⟨k1, k2, k3⟩ := fdiv_pos_cases z d hd0
    have hm : z.natAbs % d = 0 := Nat.mod_eq_zero_of_dvd hdvd
    have hq := Nat.div_add_mod z.natAbs d
    refine SX.cons (S1.ret (d := SG (2 ^ w) (z / (d : Int))) (EV.conv (by walk_at "ev") ?_) rfl)
    by_cases hz0 : z < 0
    · obtain ⟨e1, _⟩ := k1 hz0 hm
      have hpos : 0 < z.natAbs / d := by
        apply Nat.pos_of_ne_zero; intro h; rw [h, hm] at hq; omega
      have e3 : decide (z / (d : Int) < 0) = decide (z < 0) := by rw [decide_eq_true hz0, decide_eq_true (by omega)]
      have e4 : (z / (d : Int)).natAbs = z.natAbs / d := by omega
      rw [SG_mk e3 e4]
    · obtain ⟨e1, _⟩ := k3 (by omega)
      have e3 : decide (z / (d : Int) < 0) = decide (z < 0) := by rw [decide_eq_false hz0, e1]; exact decide_eq_false (Int.not_lt.mpr (Int.natCast_nonneg _))
      have e4 : (z / (d : Int)).natAbs = z.natAbs / d := by rw [e1]; exact Int.natAbs_natCast _
      rw [SG_mk e3 e4]
end
local macro_rules | `(tactic| walk_at "con") => `(tactic| ((with_reducible show ConA _ _ (Wd.fa _ (Str.ofString "cut_signed")) _ _); exact c_cut_signed (by assumption) (by assumption) (by walk_at "side") (by walk_at "side") (by walk_at "side") (by walk_at "side")))
section
theorem c_signed_of {W : Wd} (H : Wok W) {B : Nat} (x : Nat) : Con W 1 "signed_of" [L (nums (limbs B x))] (SG B (x : Int)) := by
  refine Con.of (d := fnItem 25) [("nat", L (nums (limbs B x)))] ["nat"] rfl rfl rfl (H.defs 25 (by decide)) rfl (by decide) ?_ (by decide +kernel) rfl rfl rfl (by decide +kernel) ?_
  · exact fun pm cd doc => allV (n := 1) (fun _ => rfl)
  · intro A La fa cd h₀ X gens os
    conv in (occs := *) fnItem 25 => all_goals whnf
    intro wf
    refine SX.cons (S1.ret (d := SG B (x : Int)) (EV.conv (by walk_at "ev") ?_) rfl)
    rw [SG_nat]
end
local macro_rules | `(tactic| walk_at "con") => `(tactic| ((with_reducible show ConA _ _ (Wd.fa _ (Str.ofString "signed_of")) _ _); exact c_signed_of (by assumption) _))
section
theorem c_r_neg {W : Wd} (H : Wok W) {B : Nat} (hB : 2 ≤ B) {p : Int} {q : Nat} (hp : p.natAbs < 2 ^ 60) : Con W 3 "r_neg" [.d (FQ B p q)] (FQ B (-p) q) := by
  refine Con.of (d := fnItem 26) [("x", .d (FQ B p q))] ["x"] rfl rfl rfl (H.defs 26 (by decide)) rfl (by decide) ?_ (by decide +kernel) rfl rfl rfl (by decide +kernel) ?_
  · exact fun pm cd doc => allV (n := 1) (fun _ => rfl)
  · intro A La fa cd h₀ X gens os
    conv in (occs := *) fnItem 26 => all_goals whnf
    intro wf
    refine SX.cons (S1.ret (by walk_at "ev") rfl)
end
local macro_rules | `(tactic| walk_at "con") => `(tactic| ((with_reducible show ConA _ _ (Wd.fa _ (Str.ofString "r_neg")) _ _); exact c_r_neg (by assumption) (by assumption) (by walk_at "side")))
section
theorem c_r_add {W : Wd} (H : Wok W) {w : Nat} (hw : 1 ≤ w ∧ w ≤ 20) {p1 p2 : Int} {q1 q2 : Nat} (hp1 : p1.natAbs < 2 ^ 20) (hp2 : p2.natAbs < 2 ^ 20) (hq1 : 0 < q1 ∧ q1 < 2 ^ w ∧ q1 < 2 ^ 20) (hq2 : 0 < q2 ∧ q2 < 2 ^ w ∧ q2 < 2 ^ 20) : Con W 6 "r_add" [.d (FQ (2 ^ w) p1 q1), .d (FQ (2 ^ w) p2 q2), I (w : Int), .v (.ref (W.fa "mul_school")), .v (.ref (W.fa "divrem_school"))] (FQ (2 ^ w) (raddP p1 q1 p2 q2) (raddQ p1 q1 p2 q2)) := by
  refine Con.of (d := fnItem 27) [("x", .d (FQ (2 ^ w) p1 q1)), ("y", .d (FQ (2 ^ w) p2 q2)), ("w", I (w : Int)), ("mul", .v (.ref (W.fa "mul_school"))), ("divrem", .v (.ref (W.fa "divrem_school")))] ["x", "y", "w", "mul", "divrem"] rfl rfl rfl (H.defs 27 (by decide)) rfl (by decide) ?_ (by decide +kernel) rfl rfl rfl (by decide +kernel) ?_
  · exact fun pm cd doc => allV (n := 5) (fun _ _ _ _ _ => rfl)
  · intro A La fa cd h₀ X gens os
    conv in (occs := *) fnItem 27 => all_goals whnf
    intro wf
    have hB : 2 ≤ 2 ^ w := two_le hw.1
    have hB2 : 2 ^ w ≤ 2 ^ 20 := Nat.pow_le_pow_right (n := 2) (by decide) hw.2
    have hg : Nat.gcd q1 q2 ≤ q1 := Nat.gcd_le_left _ hq1.1
    have hg0 : 0 < Nat.gcd q1 q2 := Nat.gcd_pos_of_pos_left _ hq1.1
    have hgw : Nat.gcd q1 q2 < 2 ^ w := by omega
    have hh : q1 / Nat.gcd q1 q2 ≤ q1 := Nat.div_le_self _ _
    have ht : q2 / Nat.gcd q1 q2 ≤ q2 := Nat.div_le_self _ _
    generalize hgd : Nat.gcd q1 q2 = g at *
    generalize hhd : q1 / g = h at *
    generalize htd : q2 / g = t at *
    have m1 : (p1 * (t : Int)).natAbs < 2 ^ 40 := by
      rw [Int.natAbs_mul, Int.natAbs_natCast]
      exact Nat.lt_of_lt_of_le (Nat.mul_lt_mul'' hp1 (show t < 2 ^ 20 by omega)) (by decide)
    have m2 : (p2 * (h : Int)).natAbs < 2 ^ 40 := by
      rw [Int.natAbs_mul, Int.natAbs_natCast]
      exact Nat.lt_of_lt_of_le (Nat.mul_lt_mul'' hp2 (show h < 2 ^ 20 by omega)) (by decide)
    refine SX.cons (S1.assign (d := .d (NL (2 ^ w) g)) wf rfl (EV.conv (by walk_at "ev") (by rw [hgd])) (by walk_at "upd") ?_)
    refine SX.cons (S1.unp2s (x := "here") (y := "there") (d1 := NL (2 ^ w) h) (d2 := NL (2 ^ w) t) wf (EV.conv (by walk_at "ev") (by rw [hhd, htd])) rfl rfl (by walk_at "upd") (by walk_at "upd") ?_)
    refine SX.cons (S1.assign (d := .d (SG (2 ^ w) (p1 * (t : Int) + p2 * (h : Int)))) wf rfl (by walk_at "ev") (by walk_at "upd") ?_)
    have hR : raddP p1 q1 p2 q2 = (if p1 * (t : Int) + p2 * (h : Int) = 0 then 0 else (p1 * (t : Int) + p2 * (h : Int)) / ((Nat.gcd (p1 * (t : Int) + p2 * (h : Int)).natAbs g : Nat) : Int)) ∧ raddQ p1 q1 p2 q2 = (if p1 * (t : Int) + p2 * (h : Int) = 0 then 1 else h * (q2 / Nat.gcd (p1 * (t : Int) + p2 * (h : Int)).natAbs g)) := by
      unfold raddP raddQ; rw [hgd, hhd, htd]; exact ⟨rfl, rfl⟩
    rw [hR.1, hR.2]
    generalize htop : p1 * (t : Int) + p2 * (h : Int) = top at *
    have htl : top.natAbs < 2 ^ 41 := by omega
    have hlt := len_limbs_le hB (n := top.natAbs) (k := 60) (by omega)
    refine SX.cons (S1.if_ (by walk_at "tv") (fun hb => ?_) (fun hb => SX.nil ?_))
    · have h0 : top = 0 := by
        have h : ((limbs (2 ^ w) top.natAbs).length : Int) = 0 := by simpa using hb
        have := len_pos hB (n := top.natAbs)
        omega
      subst h0
      refine SX.cons (S1.ret (EV.conv (by walk_at "ev") ?_) rfl)
      have e1 : NL (2 ^ w) 1 = .list [.int 1] := by
        show PyData.list (nums (limbs (2 ^ w) 1)) = _
        rw [one_limb hB (by decide) (by omega)]; rfl
      rw [if_pos rfl, if_pos rfl]
      show _ = T [SG (2 ^ w) 0, NL (2 ^ w) 1]
      rw [e1]
    · have h0 : top ≠ 0 := by
        intro h0; subst h0
        have h : ((limbs (2 ^ w) (0 : Int).natAbs).length : Int) ≠ 0 := by simpa using hb
        exact h (by rw [show (0 : Int).natAbs = 0 from rfl, limbs_zero]; rfl)
      have ho0 : 0 < Nat.gcd top.natAbs g := Nat.gcd_pos_of_pos_right _ hg0
      have hol : Nat.gcd top.natAbs g ≤ g := Nat.gcd_le_right _ hg0
      have hod : Nat.gcd top.natAbs g ∣ top.natAbs := Nat.gcd_dvd_left _ _
      rw [if_neg h0, if_neg h0]
      refine SX.cons (S1.assign (d := .d (NL (2 ^ w) (Nat.gcd top.natAbs g))) wf rfl (by walk_at "ev") (by walk_at "upd") ?_)
      generalize Nat.gcd top.natAbs g = o at *
      have hqo : q2 / o ≤ q2 := Nat.div_le_self _ _
      refine SX.cons (S1.ret (by walk_at "ev") rfl)
end
local macro_rules | `(tactic| walk_at "con") => `(tactic| ((with_reducible show ConA _ _ (Wd.fa _ (Str.ofString "r_add")) _ _); exact c_r_add (by assumption) (by assumption) (by walk_at "side") (by walk_at "side") (by walk_at "side") (by walk_at "side")))
section
theorem c_r_sub {W : Wd} (H : Wok W) {w : Nat} (hw : 1 ≤ w ∧ w ≤ 20) {p1 p2 : Int} {q1 q2 : Nat} (hp1 : p1.natAbs < 2 ^ 20) (hp2 : p2.natAbs < 2 ^ 20) (hq1 : 0 < q1 ∧ q1 < 2 ^ w ∧ q1 < 2 ^ 20) (hq2 : 0 < q2 ∧ q2 < 2 ^ w ∧ q2 < 2 ^ 20) : Con W 7 "r_sub" [.d (FQ (2 ^ w) p1 q1), .d (FQ (2 ^ w) p2 q2), I (w : Int), .v (.ref (W.fa "mul_school")), .v (.ref (W.fa "divrem_school"))] (FQ (2 ^ w) (raddP p1 q1 (-p2) q2) (raddQ p1 q1 (-p2) q2)) := by
  refine Con.of (d := fnItem 28) [("x", .d (FQ (2 ^ w) p1 q1)), ("y", .d (FQ (2 ^ w) p2 q2)), ("w", I (w : Int)), ("mul", .v (.ref (W.fa "mul_school"))), ("divrem", .v (.ref (W.fa "divrem_school")))] ["x", "y", "w", "mul", "divrem"] rfl rfl rfl (H.defs 28 (by decide)) rfl (by decide) ?_ (by decide +kernel) rfl rfl rfl (by decide +kernel) ?_
  · exact fun pm cd doc => allV (n := 5) (fun _ _ _ _ _ => rfl)
  · intro A La fa cd h₀ X gens os
    conv in (occs := *) fnItem 28 => all_goals whnf
    intro wf
    have hB : 2 ≤ 2 ^ w := two_le hw.1
    have hB2 : 2 ^ w ≤ 2 ^ 20 := Nat.pow_le_pow_right (n := 2) (by decide) hw.2
    refine SX.cons (S1.ret (by walk_at "ev") rfl)
end
local macro_rules | `(tactic| walk_at "con") => `(tactic| ((with_reducible show ConA _ _ (Wd.fa _ (Str.ofString "r_sub")) _ _); exact c_r_sub (by assumption) (by assumption) (by walk_at "side") (by walk_at "side") (by walk_at "side") (by walk_at "side")))
section
theorem c_r_compare {W : Wd} (H : Wok W) {w : Nat} (hw : 1 ≤ w ∧ w ≤ 20) {p1 p2 : Int} {q1 q2 : Nat} (hp1 : p1.natAbs < 2 ^ 27) (hp2 : p2.natAbs < 2 ^ 27) (hq1 : q1 < 2 ^ 27) (hq2 : q2 < 2 ^ 27) : Con W 4 "r_compare" [.d (FQ (2 ^ w) p1 q1), .d (FQ (2 ^ w) p2 q2), I (w : Int), .v (.ref (W.fa "mul_school"))] (.int (cmpZ (p1 * (q2 : Int)) (p2 * (q1 : Int)))) := by
  refine Con.of (d := fnItem 29) [("x", .d (FQ (2 ^ w) p1 q1)), ("y", .d (FQ (2 ^ w) p2 q2)), ("w", I (w : Int)), ("mul", .v (.ref (W.fa "mul_school")))] ["x", "y", "w", "mul"] rfl rfl rfl (H.defs 29 (by decide)) rfl (by decide) ?_ (by decide +kernel) rfl rfl rfl (by decide +kernel) ?_
  · exact fun pm cd doc => allV (n := 4) (fun _ _ _ _ => rfl)
  · intro A La fa cd h₀ X gens os
    conv in (occs := *) fnItem 29 => all_goals whnf
    intro wf
    have hB : 2 ≤ 2 ^ w := two_le hw.1
    have hB2 : 2 ^ w ≤ 2 ^ 20 := Nat.pow_le_pow_right (n := 2) (by decide) hw.2
    have m1 : (p1 * (q2 : Int)).natAbs < 2 ^ 54 := by
      rw [Int.natAbs_mul, Int.natAbs_natCast]
      exact Nat.lt_of_lt_of_le (Nat.mul_lt_mul'' hp1 hq2) (by decide)
    have m2 : (p2 * (q1 : Int)).natAbs < 2 ^ 54 := by
      rw [Int.natAbs_mul, Int.natAbs_natCast]
      exact Nat.lt_of_lt_of_le (Nat.mul_lt_mul'' hp2 hq1) (by decide)
    refine SX.cons (S1.ret (by walk_at "ev") rfl)
end
local macro_rules | `(tactic| walk_at "con") => `(tactic| ((with_reducible show ConA _ _ (Wd.fa _ (Str.ofString "r_compare")) _ _); exact c_r_compare (by assumption) (by assumption) (by walk_at "side") (by walk_at "side") (by walk_at "side") (by walk_at "side")))
section
theorem c_r_abs {W : Wd} (H : Wok W) {B : Nat} {p1 : Int} {q1 : Nat} : Con W 1 "r_abs" [.d (FQ B p1 q1)] (FQ B ((p1.natAbs : Nat) : Int) q1) := by
  refine Con.of (d := fnItem 30) [("x", .d (FQ B p1 q1))] ["x"] rfl rfl rfl (H.defs 30 (by decide)) rfl (by decide) ?_ (by decide +kernel) rfl rfl rfl (by decide +kernel) ?_
  · exact fun pm cd doc => allV (n := 1) (fun _ => rfl)
  · intro A La fa cd h₀ X gens os
    conv in (occs := *) fnItem 30 => all_goals whnf
    intro wf
    refine SX.cons (S1.ret (EV.conv (by walk_at "ev") ?_) rfl)
    show _ = T [SG B ((p1.natAbs : Nat) : Int), NL B q1]
    rw [SG_nat]
end
local macro_rules | `(tactic| walk_at "con") => `(tactic| ((with_reducible show ConA _ _ (Wd.fa _ (Str.ofString "r_abs")) _ _); exact c_r_abs (by assumption)))
section
theorem c_nearer {W : Wd} (H : Wok W) {w : Nat} (hw : 1 ≤ w ∧ w ≤ 20) {p p1 p2 : Int} {q q1 q2 : Nat} (hp : p.natAbs < 2 ^ 20) (hp1 : p1.natAbs < 2 ^ 20) (hp2 : p2.natAbs < 2 ^ 20) (hq : 0 < q ∧ q < 2 ^ w ∧ q < 2 ^ 20) (hq1 : 0 < q1 ∧ q1 < 2 ^ w ∧ q1 < 2 ^ 20) (hq2 : 0 < q2 ∧ q2 < 2 ^ w ∧ q2 < 2 ^ 20) (hb : (raddP p q (-p1) q1).natAbs < 2 ^ 27 ∧ (raddP p q (-p2) q2).natAbs < 2 ^ 27 ∧ raddQ p q (-p1) q1 < 2 ^ 27 ∧ raddQ p q (-p2) q2 < 2 ^ 27) : Con W 8 "nearer" [.d (FQ (2 ^ w) p q), .d (FQ (2 ^ w) p1 q1), .d (FQ (2 ^ w) p2 q2), I (w : Int), .v (.ref (W.fa "mul_school")), .v (.ref (W.fa "divrem_school"))] (FQ (2 ^ w) (nearerF p q p1 q1 p2 q2).1 (nearerF p q p1 q1 p2 q2).2) := by
  refine Con.of (d := fnItem 34) [("x", .d (FQ (2 ^ w) p q)), ("one", .d (FQ (2 ^ w) p1 q1)), ("other", .d (FQ (2 ^ w) p2 q2)), ("w", I (w : Int)), ("mul", .v (.ref (W.fa "mul_school"))), ("divrem", .v (.ref (W.fa "divrem_school")))] ["x", "one", "other", "w", "mul", "divrem"] rfl rfl rfl (H.defs 34 (by decide)) rfl (by decide) ?_ (by decide +kernel) rfl rfl rfl (by decide +kernel) ?_
  · exact fun pm cd doc => allV (n := 6) (fun _ _ _ _ _ _ => rfl)
  · intro A La fa cd h₀ X gens os
    conv in (occs := *) fnItem 34 => all_goals whnf
    intro wf
    have hB : 2 ≤ 2 ^ w := two_le hw.1
    have hB2 : 2 ^ w ≤ 2 ^ 20 := Nat.pow_le_pow_right (n := 2) (by decide) hw.2
    obtain ⟨hb1, hb2, hb3, hb4⟩ := hb
    refine SX.cons (S1.assign wf rfl (by walk_at "ev") (by walk_at "upd") ?_)
    refine SX.cons (S1.assign wf rfl (by walk_at "ev") (by walk_at "upd") ?_)
    refine SX.cons (S1.assign (d := I (nearOrd p q p1 q1 p2 q2)) wf rfl (EV.conv (by walk_at "ev") rfl) (by walk_at "upd") ?_)
    unfold nearerF
    generalize nearOrd p q p1 q1 p2 q2 = o at *
    refine SX.cons (S1.if_ (by walk_at "tv") (fun hb => ?_) (fun hb => SX.nil ?_))
    · have h0 : o = 0 := by simpa using hb
      subst h0
      rw [if_pos rfl]
      refine SX.cons (S1.ret (EV.ite (d := .d (if q1 ≤ q2 then FQ (2 ^ w) p1 q1 else FQ (2 ^ w) p2 q2)) (by walk_at "tv") (fun hc => EV.conv (by walk_at "ev") ?_) (fun hc => EV.conv (by walk_at "ev") ?_)) ?_)
      · have h : cmp q1 q2 ≤ 0 := of_decide_eq_true hc
        rw [if_pos]; unfold cmp at h; split at h
        · omega
        · split at h <;> omega
      · have h : ¬ cmp q1 q2 ≤ 0 := of_decide_eq_false hc
        rw [if_neg]; unfold cmp at h; split at h
        · omega
        · split at h <;> omega
      · show Res.ret _ = Res.ret _
        split <;> rfl
    · have h0 : o ≠ 0 := by simpa using hb
      rw [if_neg h0]
      refine SX.cons (S1.ret (EV.ite (d := .d (if o < 0 then FQ (2 ^ w) p1 q1 else FQ (2 ^ w) p2 q2)) (by walk_at "tv") (fun hc => EV.conv (by walk_at "ev") ?_) (fun hc => EV.conv (by walk_at "ev") ?_)) ?_)
      · rw [if_pos (of_decide_eq_true hc)]
      · rw [if_neg (of_decide_eq_false hc)]
      · show Res.ret _ = Res.ret _
        split <;> rfl
end
local macro_rules | `(tactic| walk_at "con") => `(tactic| ((with_reducible show ConA _ _ (Wd.fa _ (Str.ofString "nearer")) _ _); exact c_nearer (by assumption) (by assumption) (by walk_at "side") (by walk_at "side") (by walk_at "side") (by walk_at "side") (by walk_at "side") (by walk_at "side") (by walk_at "side")))
section
theorem c__law_limbs {W : Wd} (H : Wok W) {w : Nat} (hw : 1 ≤ w ∧ w ≤ 20) {x : Nat} (hx : x < 2 ^ 60) : Con W 1 "_law_limbs" [I (x : Int), I (w : Int)] (NL (2 ^ w) x) := by
  refine Con.of (d := fnItem 45) [("number", I (x : Int)), ("w", I (w : Int))] ["number", "w"] rfl rfl rfl (H.defs 45 (by decide)) rfl (by decide) ?_ (by decide +kernel) rfl rfl rfl (by decide +kernel) ?_
  · exact fun pm cd doc => allV (n := 2) (fun _ _ => rfl)
  · intro A La fa cd h₀ X gens os
    conv in (occs := *) fnItem 45 => all_goals whnf
    intro wf
    have hB : 2 ≤ 2 ^ w := two_le hw.1
    have hB2 : 2 ^ w ≤ 2 ^ 20 := Nat.pow_le_pow_right (n := 2) (by decide) hw.2
    refine SX.cons (S1.own1 (ds := nums []) wf rfl (EN.list (xs := []) wf EVs.nil) (fun fa => ⟨_, by walk_at "upd", ?_⟩))
    refine SX.cons (S1.while_ (α := List Nat × Nat) (fun q => ⟨some (fa, nums q.1), [("number", I (q.2 : Int)), ("w", I (w : Int)), ("found", .v (.ref fa))]⟩)
      (fun q => q.2 < 2 ^ 60 ∧ q.1.length + (limbs (2 ^ w) q.2).length ≤ 60 ∧ q.1 ++ limbs (2 ^ w) q.2 = limbs (2 ^ w) x) (fun q => q.2) ([], x) (by walk_at "sub") ⟨hx, by simpa using len_limbs_le hB hx, by simp⟩ ?_)
    rintro ⟨l, n⟩ ⟨hn, hlen, hl⟩
    have hn : n < 2 ^ 60 := hn
    have hlen : l.length + (limbs (2 ^ w) n).length ≤ 60 := hlen
    have hl : l ++ limbs (2 ^ w) n = limbs (2 ^ w) x := hl
    have e1 : ((2 : Int) ^ ((w : Int).toNat)) = ((2 ^ w : Nat) : Int) := pow_eq w
    refine ⟨_, (by walk_at "tv"), fun hb => ?_, fun hb => ?_⟩
    · have hn0 : 0 < n := by have h : (n : Int) > 0 := of_decide_eq_true hb
                             omega
      rw [limbs_pos hB (by omega)] at hl hlen
      have hmn : n / 2 ^ w < n := Nat.div_lt_self hn0 (by omega)
      have hside : 0 < ((2 : Int) ^ ((w : Int).toNat)) ∧ ((2 : Int) ^ ((w : Int).toNat)) < 1000000000 := by rw [e1]; omega
      have hside1 := hside.1
      refine SX.cons (S1.appendN (d := n % 2 ^ w) wf rfl (by walk_at "mem") (EV.conv (by walk_at "ev") (by rw [e1, mod_cast_])) (by show l.length ≤ 1000000; omega) ?_)
      refine SX.cons (S1.assign (d := I ((n / 2 ^ w : Nat) : Int)) wf rfl (EV.conv (by walk_at "ev") (by rw [e1, div_cast])) (by walk_at "upd") ?_)
      refine SX.nil ⟨(l ++ [n % 2 ^ w], n / 2 ^ w), ⟨by show n / 2 ^ w < 2 ^ 60; omega, ?_, ?_⟩, hmn, by walk_at "sub"⟩
      · show (l ++ [n % 2 ^ w]).length + (limbs (2 ^ w) (n / 2 ^ w)).length ≤ 60
        simp at hlen ⊢; omega
      · show (l ++ [n % 2 ^ w]) ++ limbs (2 ^ w) (n / 2 ^ w) = _
        rw [List.append_assoc]; exact hl
    · have hn0 : n = 0 := by have h : ¬ (n : Int) > 0 := of_decide_eq_false hb
                             omega
      subst hn0
      rw [limbs_zero, List.append_nil] at hl
      refine SX.thawTo [("found", L (nums l))] wf (by walk_at "thaws") (by walk_at "nodup") ?_
      refine SX.cons (S1.ret (EV.conv (by walk_at "ev") (by rw [hl])) rfl)
end
local macro_rules | `(tactic| walk_at "con") => `(tactic| ((with_reducible show ConA _ _ (Wd.fa _ (Str.ofString "_law_limbs")) _ _); exact c__law_limbs (by assumption) (by assumption) (by walk_at "side")))
section
theorem c__law_fraction {W : Wd} (H : Wok W) {w : Nat} (hw : 1 ≤ w ∧ w ≤ 20) {p : Int} {q : Nat} (hp : p.natAbs < 2 ^ 60) (hq : q < 2 ^ 60) : Con W 2 "_law_fraction" [T [.int p, .int (q : Int)], I (w : Int)] (FQ (2 ^ w) p q) := by
  refine Con.of (d := fnItem 46) [("pair", T [.int p, .int (q : Int)]), ("w", I (w : Int))] ["pair", "w"] rfl rfl rfl (H.defs 46 (by decide)) rfl (by decide) ?_ (by decide +kernel) rfl rfl rfl (by decide +kernel) ?_
  · exact fun pm cd doc => allV (n := 2) (fun _ _ => rfl)
  · intro A La fa cd h₀ X gens os
    conv in (occs := *) fnItem 46 => all_goals whnf
    intro wf
    have hB : 2 ≤ 2 ^ w := two_le hw.1
    have hB2 : 2 ^ w ≤ 2 ^ 20 := Nat.pow_le_pow_right (n := 2) (by decide) hw.2
    refine SX.cons (S1.ret (by walk_at "ev") rfl)
end
local macro_rules | `(tactic| walk_at "con") => `(tactic| ((with_reducible show ConA _ _ (Wd.fa _ (Str.ofString "_law_fraction")) _ _); exact c__law_fraction (by assumption) (by assumption) (by walk_at "side") (by walk_at "side")))
section
theorem c_continued {W : Wd} (H : Wok W) {w : Nat} (hw : 1 ≤ w ∧ w ≤ 20) {p : Int} {q : Nat} (hp : p.natAbs < 2 ^ 20) (hq : q < 2 ^ w ∧ q < 1000000) : Con W 7 "continued" [.d (FQ (2 ^ w) p q), I (w : Int), .v (.ref (W.fa "divrem_school"))] (.list (sgs (2 ^ w) (cf p q))) := by
  refine Con.of (d := fnItem 31) [("x", .d (FQ (2 ^ w) p q)), ("w", I (w : Int)), ("divrem", .v (.ref (W.fa "divrem_school")))] ["x", "w", "divrem"] rfl rfl rfl (H.defs 31 (by decide)) rfl (by decide) ?_ (by decide +kernel) rfl rfl rfl (by decide +kernel) ?_
  · exact fun pm cd doc => allV (n := 3) (fun _ _ _ => rfl)
  · intro A La fa cd h₀ X gens os
    conv in (occs := *) fnItem 31 => all_goals whnf
    intro wf
    have hB : 2 ≤ 2 ^ w := two_le hw.1
    have hB2 : 2 ^ w ≤ 2 ^ 20 := Nat.pow_le_pow_right (n := 2) (by decide) hw.2
    refine SX.cons (S1.own3 (x := "found") (y := "top") (z := "bottom") (ds := sgs (2 ^ w) []) (d2 := SG (2 ^ w) p) (d3 := SG (2 ^ w) (q : Int)) wf (EN.list (xs := []) wf EVs.nil) (fun _ => by walk_at "ev") (fun _ => by walk_at "ev") rfl rfl rfl
      (fun fa => ⟨_, _, _, by walk_at "upd", by walk_at "upd", by walk_at "upd", ?_⟩))
    refine SX.cons (S1.while_ (α := List Int × Int × Nat) (fun s => ⟨some (fa, sgs (2 ^ w) s.1), [("x", .d (FQ (2 ^ w) p q)), ("w", I (w : Int)), ("divrem", .v (.ref (W.fa "divrem_school"))), ("bottom", .d (SG (2 ^ w) (s.2.2 : Int))), ("top", .d (SG (2 ^ w) s.2.1)), ("found", .v (.ref fa))]⟩)
      (fun s => s.2.1.natAbs < 2 ^ 20 ∧ s.2.2 < 2 ^ w ∧ s.2.2 < 2 ^ 20 ∧ s.1.length + s.2.2 ≤ q ∧ s.1 ++ cf s.2.1 s.2.2 = cf p q) (fun s => s.2.2) ([], p, q) (by walk_at "sub") ⟨hp, hq.1, by show q < 2 ^ 20; omega, by simp, by simp⟩ ?_)
    rintro ⟨l, t, b⟩ ⟨ht, hb, hb2, hlen, hl⟩
    have ht : t.natAbs < 2 ^ 20 := ht
    have hb : b < 2 ^ w := hb
    have hb2 : b < 2 ^ 20 := hb2
    have hlen : l.length + b ≤ q := hlen
    have hl : l ++ cf t b = cf p q := hl
    have eb : (b : Int).natAbs = b := Int.natAbs_natCast b
    have hlb := len_limbs_le hB (n := (b : Int).natAbs) (k := 60) (by omega)
    refine ⟨_, (by walk_at "tv"), fun hc => ?_, fun hc => ?_⟩
    · have hb0 : 0 < b := by
        have h : ((limbs (2 ^ w) (b : Int).natAbs).length : Int) > 0 := of_decide_eq_true hc
        rw [eb] at h
        exact (len_pos hB).mp (by omega)
      have hm1 := Int.emod_lt_of_pos t (show (0 : Int) < b by omega)
      have hm0 := Int.emod_nonneg t (show (b : Int) ≠ 0 by omega)
      have hmt : t % (b : Int) = ((t % (b : Int)).toNat : Int) := by omega
      rw [cf_pos hb0] at hl
      refine SX.cons (S1.unp2 (d1 := SG (2 ^ w) (t / (b : Int))) (d2 := SG (2 ^ w) ((t % (b : Int)).toNat : Int)) wf (EV.conv (by walk_at "ev") (by rw [← hmt])) rfl rfl (by walk_at "upd") (by walk_at "upd") ?_)
      refine SX.cons (S1.append wf rfl (by walk_at "mem") (by walk_at "ev") (by rw [sgs_len]; show l.length ≤ 1000000; omega) ?_)
      rw [sgs_snoc]
      refine SX.cons (S1.unp2s (x := "top") (y := "bottom") wf (by walk_at "ev") rfl rfl (by walk_at "upd") (by walk_at "upd") ?_)
      refine SX.nil ⟨(l ++ [t / (b : Int)], (b : Int), (t % (b : Int)).toNat), ⟨by show (b : Int).natAbs < 2 ^ 20; omega, by show (t % (b : Int)).toNat < 2 ^ w; omega, by show (t % (b : Int)).toNat < 2 ^ 20; omega, ?_, ?_⟩, by show (t % (b : Int)).toNat < b; omega, by walk_at "sub"⟩
      · show (l ++ [t / (b : Int)]).length + (t % (b : Int)).toNat ≤ q
        simp; omega
      · show (l ++ [t / (b : Int)]) ++ cf (b : Int) (t % (b : Int)).toNat = _
        rw [List.append_assoc]; exact hl
    · have hb0 : b = 0 := by
        have h : ¬ ((limbs (2 ^ w) (b : Int).natAbs).length : Int) > 0 := of_decide_eq_false hc
        rw [eb] at h
        have := len_pos hB (n := b)
        omega
      subst hb0
      rw [cf_zero, List.append_nil] at hl
      refine SX.thawTo [("found", L (sgs (2 ^ w) l))] wf (by walk_at "thaws") (by walk_at "nodup") ?_
      refine SX.cons (S1.ret (EV.conv (by walk_at "ev") (by rw [hl])) rfl)
end
local macro_rules | `(tactic| walk_at "con") => `(tactic| ((with_reducible show ConA _ _ (Wd.fa _ (Str.ofString "continued")) _ _); exact c_continued (by assumption) (by assumption) (by walk_at "side") (by walk_at "side")))
section
theorem c_convergents {W : Wd} (H : Wok W) {w : Nat} (hw : 1 ≤ w ∧ w ≤ 20) {ts : List Int} (hts : ∀ a ∈ ts, a.natAbs < 2 ^ 20) (hcs : ∀ c ∈ convs ts 0 1 1 0, c.1.natAbs < 2 ^ 20 ∧ c.2.natAbs < 2 ^ 20) (hl : ts.length ≤ 100000) : Con W 4 "convergents" [L (sgs (2 ^ w) ts), I (w : Int), .v (.ref (W.fa "mul_school"))] (.list (cvs (2 ^ w) (convs ts 0 1 1 0))) := by
  refine Con.of (d := fnItem 32) [("terms", L (sgs (2 ^ w) ts)), ("w", I (w : Int)), ("mul", .v (.ref (W.fa "mul_school")))] ["terms", "w", "mul"] rfl rfl rfl (H.defs 32 (by decide)) rfl (by decide) ?_ (by decide +kernel) rfl rfl rfl (by decide +kernel) ?_
  · exact fun pm cd doc => allV (n := 3) (fun _ _ _ => rfl)
  · intro A La fa cd h₀ X gens os
    conv in (occs := *) fnItem 32 => all_goals whnf
    intro wf
    have hB : 2 ≤ 2 ^ w := two_le hw.1
    have hB2 : 2 ^ w ≤ 2 ^ 20 := Nat.pow_le_pow_right (n := 2) (by decide) hw.2
    refine SX.cons (S1.own1 (ds := cvs (2 ^ w) []) wf rfl (EN.list (xs := []) wf EVs.nil) (fun fa => ⟨_, by walk_at "upd", ?_⟩))
    refine SXw.ok ?zz
    refine SXw.cons (S1.unp2c (d1 := .tuple [.tuple [.bool false, .list []], .tuple [.bool false, .list [.int 1]]]) (d2 := .tuple [.tuple [.bool false, .list [.int 1]], .tuple [.bool false, .list []]]) wf (by walk_at "ev") (by rfl) (by rfl) (by walk_at "upd") (by walk_at "upd") ?_ (by rfl) (by rfl) (by decide) (by rfl) (by rfl) (by decide +kernel) (by decide +kernel) (by rfl))
    rw [start_eq1 hB, start_eq2 hB]
    refine SX.cons (S1.for_ (α := List (Int × Int) × St4) (fun s => ⟨some (fa, cvs (2 ^ w) s.1), [("terms", L (sgs (2 ^ w) ts)), ("w", I (w : Int)), ("mul", .v (.ref (W.fa "mul_school"))), ("found", .v (.ref fa)), ("here", T [SG (2 ^ w) s.2.h1, SG (2 ^ w) s.2.k1]), ("before", T [SG (2 ^ w) s.2.h0, SG (2 ^ w) s.2.k0])]⟩)
      (fun i s => s.2.h0.natAbs < 2 ^ 20 ∧ s.2.k0.natAbs < 2 ^ 20 ∧ s.2.h1.natAbs < 2 ^ 20 ∧ s.2.k1.natAbs < 2 ^ 20 ∧ s.1.length = i ∧ s.1 ++ convs (ts.drop i) s.2.h0 s.2.k0 s.2.h1 s.2.k1 = convs ts 0 1 1 0) ([], ⟨0, 1, 1, 0⟩) wf rfl
      (IT.list wf (ds := sgs (2 ^ w) ts) (by walk_at "ev")) (fun _ => rfl) (by walk_at "sub") ⟨by decide, by decide, by decide, by decide, rfl, by simp⟩ ?_ ?_)
    · rintro i ⟨l, h0, k0, h1, k1⟩ hi ⟨b1, b2, b3, b4, hlen, hc⟩
      have b1 : h0.natAbs < 2 ^ 20 := b1
      have b2 : k0.natAbs < 2 ^ 20 := b2
      have b3 : h1.natAbs < 2 ^ 20 := b3
      have b4 : k1.natAbs < 2 ^ 20 := b4
      have hlen : l.length = i := hlen
      have hc : l ++ convs (ts.drop i) h0 k0 h1 k1 = convs ts 0 1 1 0 := hc
      rw [sgs_len] at hi
      rw [sgs_getD hi]
      have ha : (ts.getD i 0).natAbs < 2 ^ 20 := by
        have : ts[i].natAbs < 2 ^ 20 := hts _ (List.getElem_mem hi)
        simpa [hi] using this
      have hdrop : ts.drop i = ts.getD i 0 :: ts.drop (i + 1) := by
        rw [List.drop_eq_getElem_cons hi]; simp [hi]
      generalize ts.getD i 0 = a at *
      rw [hdrop, convs] at hc
      have hnew := hcs (a * h1 + h0, a * k1 + k0) (by rw [← hc]; simp)
      obtain ⟨n1, n2⟩ := hnew
      simp only at n1 n2
      have m1 : (a * h1).natAbs < 2 ^ 40 := by
        rw [Int.natAbs_mul]; exact Nat.lt_of_lt_of_le (Nat.mul_lt_mul'' (by assumption) (by assumption)) (by decide)
      have m2 : (a * k1).natAbs < 2 ^ 40 := by
        rw [Int.natAbs_mul]; exact Nat.lt_of_lt_of_le (Nat.mul_lt_mul'' (by assumption) (by assumption)) (by decide)
      refine ⟨_, by walk_at "upd", ?_⟩
      refine SX.cons (S1.assign wf rfl (by walk_at "ev") (by walk_at "upd") ?_)
      refine SX.cons (S1.assign wf rfl (by walk_at "ev") (by walk_at "upd") ?_)
      refine SX.cons (S1.unp2s (x := "before") (y := "here") wf (by walk_at "ev") rfl rfl (by walk_at "upd") (by walk_at "upd") ?_)
      refine SX.cons (S1.append (d := CV (2 ^ w) (a * h1 + h0, a * k1 + k0)) wf rfl (by walk_at "mem") (by walk_at "ev") (by rw [cvs_len]; show l.length ≤ 1000000; omega) ?_)
      rw [cvs_snoc]
      refine SX.nil ⟨(l ++ [(a * h1 + h0, a * k1 + k0)], ⟨h1, k1, a * h1 + h0, a * k1 + k0⟩), ⟨b3, b4, n1, n2, by simp; exact hlen, ?_⟩, by walk_at "sub"⟩
      show (l ++ [(a * h1 + h0, a * k1 + k0)]) ++ convs (ts.drop (i + 1)) h1 k1 (a * h1 + h0) (a * k1 + k0) = _
      rw [List.append_assoc]; exact hc
    rw [sgs_len]
    rintro ⟨l, h0, k0, h1, k1⟩ ⟨b1, b2, b3, b4, hlen, hc⟩
    have hc : l ++ convs (ts.drop ts.length) h0 k0 h1 k1 = convs ts 0 1 1 0 := hc
    rw [List.drop_length, convs, List.append_nil] at hc
    refine SX.thawTo [("found", L (cvs (2 ^ w) l))] wf (by walk_at "thaws") (by walk_at "nodup") ?_
    refine SX.cons (S1.ret (EV.conv (by walk_at "ev") (by rw [hc])) rfl)
end
local macro_rules | `(tactic| walk_at "con") => `(tactic| ((with_reducible show ConA _ _ (Wd.fa _ (Str.ofString "convergents")) _ _); exact c_convergents (by assumption) (by assumption) (by assumption) (by assumption) (by walk_at "side")))
section
theorem c_nearest {W : Wd} (H : Wok W) {w : Nat} (hw : 1 ≤ w ∧ w ≤ 20) {p : Int} {q N : Nat} {r : Int × Nat} (hN : N < 2 ^ 20) (hq60 : q < 2 ^ 20) (hr : (q ≤ N ∧ r = (p, q)) ∨ NrOk w p q N r) : Con W 9 "nearest" [.d (FQ (2 ^ w) p q), L (nums (limbs (2 ^ w) N)), I (w : Int), .v (.ref (W.fa "mul_school")), .v (.ref (W.fa "divrem_school"))] (FQ (2 ^ w) r.1 r.2) := by
  refine Con.of (d := fnItem 33) [("x", .d (FQ (2 ^ w) p q)), ("bound", L (nums (limbs (2 ^ w) N))), ("w", I (w : Int)), ("mul", .v (.ref (W.fa "mul_school"))), ("divrem", .v (.ref (W.fa "divrem_school")))] ["x", "bound", "w", "mul", "divrem"] rfl rfl rfl (H.defs 33 (by decide)) rfl (by decide) ?_ (by decide +kernel) rfl rfl rfl (by decide +kernel) ?_
  · exact fun pm cd doc => allV (n := 5) (fun _ _ _ _ _ => rfl)
  · intro A La fa cd h₀ X gens os
    conv in (occs := *) fnItem 33 => all_goals whnf
    intro wf
    have hB : 2 ≤ 2 ^ w := two_le hw.1
    have hB2 : 2 ^ w ≤ 2 ^ 20 := Nat.pow_le_pow_right (n := 2) (by decide) hw.2
    refine SX.cons (S1.if_ (by walk_at "tv") (fun hb => ?_) (fun hb => SX.nil ?_))
    · have h : q ≤ N := cmp_le.mp (of_decide_eq_true hb)
      rcases hr with ⟨_, rfl⟩ | hr
      · refine SX.cons (S1.ret (by walk_at "ev") rfl)
      · exfalso; exact absurd hr.lt (by omega)
    have h : ¬ q ≤ N := fun h => of_decide_eq_false hb (cmp_le.mpr h)
    rcases hr with ⟨h1, _⟩ | hr
    · exfalso; exact absurd h1 h
    obtain ⟨hlt, hp, hq, hts, hcs, hln, g0, l0, g1, l1, m, g2, l2, hfin, gb0, lb0, gb1, lb1, hm, mb, hg2, gb2, hl2, lb2, hrad, rfl⟩ := hr
    obtain ⟨lb1a, lb1b, lb1c⟩ := lb1
    obtain ⟨lb2a, lb2b, lb2c⟩ := lb2
    refine SXw.ok ?zz
    refine SXw.cons (S1.unp2c (d1 := .tuple [.tuple [.bool false, .list []], .tuple [.bool false, .list [.int 1]]]) (d2 := .tuple [.tuple [.bool false, .list [.int 1]], .tuple [.bool false, .list []]]) wf (by walk_at "ev") (by rfl) (by rfl) (by walk_at "upd") (by walk_at "upd") ?_ (by rfl) (by rfl) (by decide) (by rfl) (by rfl) (by decide +kernel) (by decide +kernel) (by rfl))
    rw [start_eq1 hB, start_eq2 hB]
    refine SX.cons (S1.mono (K := fun rr => ∃ σ', rr = .next σ' ∧ Sub ⟨none, [("x", .d (FQ (2 ^ w) p q)), ("bound", Mine.L (nums (limbs (2 ^ w) N))), ("w", I (w : Int)), ("mul", .v (.ref (W.fa "mul_school"))), ("divrem", .v (.ref (W.fa "divrem_school"))), ("here", T [SG (2 ^ w) g1, SG (2 ^ w) (l1 : Int)]), ("before", T [SG (2 ^ w) g0, SG (2 ^ w) l0])]⟩ σ')
      (S1.for_ (α := St4) (fun s => ⟨none, [("x", .d (FQ (2 ^ w) p q)), ("bound", Mine.L (nums (limbs (2 ^ w) N))), ("w", I (w : Int)), ("mul", .v (.ref (W.fa "mul_school"))), ("divrem", .v (.ref (W.fa "divrem_school"))), ("here", T [SG (2 ^ w) s.h1, SG (2 ^ w) s.k1]), ("before", T [SG (2 ^ w) s.h0, SG (2 ^ w) s.k0])]⟩)
      (fun i s => s.h0.natAbs < 2 ^ 20 ∧ s.k0.natAbs < 2 ^ 20 ∧ s.h1.natAbs < 2 ^ 20 ∧ s.k1.natAbs < 2 ^ 20 ∧ nrState N ((cf p q).drop i) s = ⟨g0, l0, g1, (l1 : Int)⟩ ∧ ∀ c ∈ convs ((cf p q).drop i) s.h0 s.k0 s.h1 s.k1, c.1.natAbs < 2 ^ 20 ∧ c.2.natAbs < 2 ^ 20) ⟨0, 1, 1, 0⟩ wf rfl
      (IT.list wf (ds := sgs (2 ^ w) (cf p q)) (by walk_at "ev")) (fun _ => rfl) (by walk_at "sub") ⟨by decide, by decide, by decide, by decide, by rw [List.drop_zero]; exact hfin, by rw [List.drop_zero]; exact hcs⟩ ?_ ?_) ?_)
    · rintro i ⟨h0, k0, h1, k1⟩ hi ⟨b1, b2, b3, b4, hst, hc⟩
      have b1 : h0.natAbs < 2 ^ 20 := b1
      have b2 : k0.natAbs < 2 ^ 20 := b2
      have b3 : h1.natAbs < 2 ^ 20 := b3
      have b4 : k1.natAbs < 2 ^ 20 := b4
      have hst : nrState N ((cf p q).drop i) ⟨h0, k0, h1, k1⟩ = ⟨g0, l0, g1, (l1 : Int)⟩ := hst
      have hc : ∀ c ∈ convs ((cf p q).drop i) h0 k0 h1 k1, c.1.natAbs < 2 ^ 20 ∧ c.2.natAbs < 2 ^ 20 := hc
      rw [sgs_len] at hi
      rw [sgs_getD hi]
      have ha : ((cf p q).getD i 0).natAbs < 2 ^ 20 := by
        have : (cf p q)[i].natAbs < 2 ^ 20 := hts _ (List.getElem_mem hi)
        simpa [hi] using this
      have hdrop : (cf p q).drop i = (cf p q).getD i 0 :: (cf p q).drop (i + 1) := by
        rw [List.drop_eq_getElem_cons hi]; simp [hi]
      generalize (cf p q).getD i 0 = a at *
      rw [hdrop, convs] at hc
      rw [hdrop, nrState] at hst
      dsimp only at hst
      have hnew := hc (a * h1 + h0, a * k1 + k0) (by simp)
      obtain ⟨n1, n2⟩ := hnew
      simp only at n1 n2
      have m1 : (a * h1).natAbs < 2 ^ 40 := by
        rw [Int.natAbs_mul]; exact Nat.lt_of_lt_of_le (Nat.mul_lt_mul'' (by assumption) (by assumption)) (by decide)
      have m2 : (a * k1).natAbs < 2 ^ 40 := by
        rw [Int.natAbs_mul]; exact Nat.lt_of_lt_of_le (Nat.mul_lt_mul'' (by assumption) (by assumption)) (by decide)
      refine ⟨_, by walk_at "upd", ?_⟩
      refine SX.cons (S1.assign wf rfl (by walk_at "ev") (by walk_at "upd") ?_)
      refine SX.cons (S1.if_ (by walk_at "tv") (fun hb => ?_) (fun hb => SX.nil ?_))
      · have hlt2 : N < (a * k1 + k0).natAbs := cmp_gt.mp (of_decide_eq_true hb)
        rw [if_pos hlt2] at hst
        injection hst with e1 e2 e3 e4
        subst e1 e2 e3 e4
        refine SX.cons (S1.brk ?_)
        refine ⟨_, rfl, by walk_at "sub"⟩
      · have hlt2 : ¬ N < (a * k1 + k0).natAbs := fun h => of_decide_eq_false hb (cmp_gt.mpr h)
        rw [if_neg hlt2] at hst
        refine SX.cons (S1.assign wf rfl (by walk_at "ev") (by walk_at "upd") ?_)
        refine SX.cons (S1.unp2s (x := "before") (y := "here") wf (by walk_at "ev") rfl rfl (by walk_at "upd") (by walk_at "upd") ?_)
        refine SX.nil ⟨⟨h1, k1, a * h1 + h0, a * k1 + k0⟩, ⟨b3, b4, n1, n2, hst, fun c hcc => hc c (List.mem_cons_of_mem _ hcc)⟩, by walk_at "sub"⟩
    · rw [sgs_len]
      rintro ⟨h0, k0, h1, k1⟩ ⟨b1, b2, b3, b4, hst, hc⟩
      have hst : nrState N ((cf p q).drop (cf p q).length) ⟨h0, k0, h1, k1⟩ = ⟨g0, l0, g1, (l1 : Int)⟩ := hst
      rw [List.drop_length, nrState] at hst
      injection hst with e1 e2 e3 e4
      subst e1 e2 e3 e4
      refine ⟨_, rfl, by walk_at "sub"⟩
    rintro rr ⟨σ', rfl, hsub⟩
    refine SX.sub hsub ?_
    have m1 : (m * g1).natAbs < 2 ^ 40 := by
      rw [Int.natAbs_mul]; exact Nat.lt_of_lt_of_le (Nat.mul_lt_mul'' (by assumption) (by assumption)) (by decide)
    have hl1 : (l1 : Int).natAbs < 2 ^ 20 := by omega
    have m2 : (m * (l1 : Int)).natAbs < 2 ^ 40 := by
      rw [Int.natAbs_mul]; exact Nat.lt_of_lt_of_le (Nat.mul_lt_mul'' (by assumption) (by assumption)) (by decide)
    refine SX.cons (S1.assign (d := .d (SG (2 ^ w) m)) wf rfl (EV.conv (by walk_at "ev") (by rw [hm])) (by walk_at "upd") ?_)
    refine SX.cons (S1.assign (d := .d (SG (2 ^ w) g2)) wf rfl (EV.conv (by walk_at "ev") (by rw [hg2])) (by walk_at "upd") ?_)
    refine SX.cons (S1.assign wf rfl (by walk_at "ev") (by walk_at "upd") ?_)
    refine SX.cons (S1.ret (EV.call (ds := [.d (FQ (2 ^ w) p q), .d (FQ (2 ^ w) g1 l1), .d (FQ (2 ^ w) g2 l2), I (w : Int), .v (.ref (W.fa "mul_school")), .v (.ref (W.fa "divrem_school"))]) wf (by walk_at "ev") ?_ (by walk_at "con") (by exact Nat.le_of_ble_eq_true rfl) (Wok.alive H _ (by decide))) rfl)
    have e1 : (T [SG (2 ^ w) g1, NL (2 ^ w) (l1 : Int).natAbs]) = .d (FQ (2 ^ w) g1 l1) := by rw [Int.natAbs_natCast]
    have e2 : (T [SG (2 ^ w) g2, NL (2 ^ w) (m * (l1 : Int) + l0).natAbs]) = .d (FQ (2 ^ w) g2 l2) := by rw [hl2]
    rw [← e1, ← e2]
    walk_at "evs"
end
local macro_rules | `(tactic| walk_at "con") => `(tactic| ((with_reducible show ConA _ _ (Wd.fa _ (Str.ofString "nearest")) _ _); exact c_nearest (by assumption) (by assumption) (by walk_at "side") (by walk_at "side") (by assumption)))
section
theorem c__law_least {W : Wd} (H : Wok W) {t : Int} {b : Nat} (hb : 0 < b ∧ b < 2 ^ 20) : Con W 1 "_law_least" [I t, I (b : Int)] (.tuple [.int (t / ((Nat.gcd t.natAbs b : Nat) : Int)), .int ((b / Nat.gcd t.natAbs b : Nat) : Int)]) := by
  refine Con.of (d := fnItem 47) [("top", I t), ("bottom", I (b : Int))] ["top", "bottom"] rfl rfl rfl (H.defs 47 (by decide)) rfl (by decide) ?_ (by decide +kernel) rfl rfl rfl (by decide +kernel) ?_
  · exact fun pm cd doc => allV (n := 2) (fun _ _ => rfl)
  · intro A La fa cd h₀ X gens os
    conv in (occs := *) fnItem 47 => all_goals whnf
    intro wf
    refine SX.cons (S1.unp2s (x := "one") (y := "other") (d1 := .int ((t.natAbs : Nat) : Int)) (d2 := .int (b : Int)) wf (by walk_at "ev") rfl rfl (by walk_at "upd") (by walk_at "upd") ?_)
    refine SX.cons (S1.while_ (α := Nat × Nat) (fun q => ⟨none, [("top", I t), ("bottom", I (b : Int)), ("other", I (q.2 : Int)), ("one", I (q.1 : Int))]⟩)
      (fun q => Nat.gcd q.1 q.2 = Nat.gcd t.natAbs b) (fun q => q.2) (t.natAbs, b) (by walk_at "sub") rfl ?_)
    rintro ⟨u, v⟩ hg
    have hg : Nat.gcd u v = Nat.gcd t.natAbs b := hg
    refine ⟨_, (by walk_at "tv"), fun hb => ?_, fun hb => ?_⟩
    · have hv0 : 0 < v := by
        have h : (v : Int) > 0 := of_decide_eq_true hb
        omega
      have hm := Nat.mod_lt u hv0
      refine SX.cons (S1.unp2s (x := "one") (y := "other") (d1 := .int (v : Int)) (d2 := .int ((u % v : Nat) : Int)) wf (EV.conv (by walk_at "ev") (by rw [mod_cast_])) rfl rfl (by walk_at "upd") (by walk_at "upd") ?_)
      refine SX.nil ⟨(v, u % v), ?_, hm, by walk_at "sub"⟩
      show Nat.gcd v (u % v) = Nat.gcd t.natAbs b
      rw [← hg, Nat.gcd_comm v, ← Nat.gcd_rec, Nat.gcd_comm]
    · have hv0 : v = 0 := by
        have h : ¬ (v : Int) > 0 := of_decide_eq_false hb
        omega
      subst hv0
      rw [Nat.gcd_zero_right] at hg
      have h1 : 0 < Nat.gcd t.natAbs b := Nat.gcd_pos_of_pos_right _ (by omega)
      have h2 : Nat.gcd t.natAbs b ≤ b := Nat.gcd_le_right _ (by omega)
      rw [← hg] at h1 h2 ⊢
      refine SX.cons (S1.ret (EV.conv (by walk_at "ev") (by rw [div_cast])) rfl)
end
local macro_rules | `(tactic| walk_at "con") => `(tactic| ((with_reducible show ConA _ _ (Wd.fa _ (Str.ofString "_law_least")) _ _); exact c__law_least (by assumption) (by walk_at "side")))
section
theorem c__law_off {W : Wd} (H : Wok W) {p p2 : Int} {q q2 : Nat} (hp : p.natAbs < 2 ^ 40) (hp2 : p2.natAbs < 2 ^ 40) : Con W 1 "_law_off" [T [.int p, .int (q : Int)], T [.int p2, .int (q2 : Int)]] (.int (((p * (q2 : Int) - p2 * (q : Int)).natAbs : Nat) : Int)) := by
  refine Con.of (d := fnItem 49) [("x", T [.int p, .int (q : Int)]), ("other", T [.int p2, .int (q2 : Int)])] ["x", "other"] rfl rfl rfl (H.defs 49 (by decide)) rfl (by decide) ?_ (by decide +kernel) rfl rfl rfl (by decide +kernel) ?_
  · exact fun pm cd doc => allV (n := 2) (fun _ _ => rfl)
  · intro A La fa cd h₀ X gens os
    conv in (occs := *) fnItem 49 => all_goals whnf
    intro wf
    refine SX.cons (S1.ret (by walk_at "ev") rfl)
end
local macro_rules | `(tactic| walk_at "con") => `(tactic| ((with_reducible show ConA _ _ (Wd.fa _ (Str.ofString "_law_off")) _ _); exact c__law_off (by assumption) (by walk_at "side") (by walk_at "side")))
section
theorem c__law_walk {W : Wd} (H : Wok W) {p : Int} {q N : Nat} (hp : p.natAbs < 2 ^ 18) (hq : 0 < q ∧ q < 2 ^ 18) (hN : 0 < N ∧ N < 2 ^ 18) : Con W 1 "_law_walk" [T [.int p, .int (q : Int)], I (N : Int)] (.tuple [.int (walkF p q N).1, .int (((walkF p q N).2 : Nat) : Int)]) := by
  refine Con.of (d := fnItem 48) [("x", T [.int p, .int (q : Int)]), ("bound", I (N : Int))] ["x", "bound"] rfl rfl rfl (H.defs 48 (by decide)) rfl (by decide) ?_ (by decide +kernel) rfl rfl rfl (by decide +kernel) ?_
  · exact fun pm cd doc => allV (n := 2) (fun _ _ => rfl)
  · intro A La fa cd h₀ X gens os
    conv in (occs := *) fnItem 48 => all_goals whnf
    intro wf
    refine SX.cons (S1.unp2 (d1 := .int p) (d2 := .int (q : Int)) wf (by walk_at "ev") rfl rfl (by walk_at "upd") (by walk_at "upd") ?_)
    refine SX.cons (S1.if_ (by walk_at "tv") (fun hb => ?_) (fun hb => SX.nil ?_))
    · have h : q ≤ N := by
        have h : (q : Int) ≤ (N : Int) := of_decide_eq_true hb
        omega
      unfold walkF
      rw [if_pos h]
      refine SX.cons (S1.ret (by walk_at "ev") rfl)
    have h : ¬ q ≤ N := by
      have h : ¬ (q : Int) ≤ (N : Int) := of_decide_eq_false hb
      omega
    unfold walkF
    rw [if_neg h]
    have hd := div_le_abs p hq.1
    refine SX.cons (S1.unp2s (x := "under") (y := "over") (d1 := .tuple [.int (p / (q : Int)), .int ((1 : Nat) : Int)]) (d2 := .tuple [.int (p / (q : Int) + 1), .int ((1 : Nat) : Int)]) wf (EV.conv (by walk_at "ev") rfl) rfl rfl (by walk_at "upd") (by walk_at "upd") ?_)
    refine SX.cons (S1.while_ (α := Uo) (fun u => ⟨none, [("x", T [.int p, .int (q : Int)]), ("bound", I (N : Int)), ("top", I p), ("bottom", I (q : Int)), ("over", T [.int u.c, .int (u.d : Int)]), ("under", T [.int u.a, .int (u.b : Int)])]⟩)
      (fun u => 0 < u.b ∧ 0 < u.d ∧ u.b ≤ N ∧ u.d ≤ N ∧ u.a.natAbs ≤ (p.natAbs + 1) * u.b ∧ u.c.natAbs ≤ (p.natAbs + 1) * u.d ∧ walkLoop p q N u = walkLoop p q N ⟨p / (q : Int), 1, p / (q : Int) + 1, 1⟩) (fun u => N + 1 - (u.b + u.d)) ⟨p / (q : Int), 1, p / (q : Int) + 1, 1⟩ (by walk_at "sub")
      ⟨by show 0 < 1; decide, by show 0 < 1; decide, by show 1 ≤ N; omega, by show 1 ≤ N; omega, by show (p / (q : Int)).natAbs ≤ (p.natAbs + 1) * 1; omega, by show (p / (q : Int) + 1).natAbs ≤ (p.natAbs + 1) * 1; omega, rfl⟩ ?_)
    rintro ⟨a, b, c, d⟩ ⟨h1, h2, h3, h4, h5, h6, h7⟩
    have h1 : 0 < b := h1
    have h2 : 0 < d := h2
    have h3 : b ≤ N := h3
    have h4 : d ≤ N := h4
    have h5 : a.natAbs ≤ (p.natAbs + 1) * b := h5
    have h6 : c.natAbs ≤ (p.natAbs + 1) * d := h6
    have h5b : (p.natAbs + 1) * b ≤ 2 ^ 18 * 2 ^ 18 := Nat.mul_le_mul (by omega) (by omega)
    have h6b : (p.natAbs + 1) * d ≤ 2 ^ 18 * 2 ^ 18 := Nat.mul_le_mul (by omega) (by omega)
    refine ⟨_, (by walk_at "tv"), fun hb => ?_, fun hb => ?_⟩
    · have hle : b + d ≤ N := by
        have h : (b : Int) + (d : Int) ≤ (N : Int) := of_decide_eq_true hb
        omega
      rw [walkLoop_step (u := ⟨a, b, c, d⟩) hle h1 h2] at h7
      dsimp only at h7
      have h8 : (a + c).natAbs ≤ (p.natAbs + 1) * (b + d) := by rw [Nat.mul_add]; omega
      refine SX.cons (S1.assign (d := T [.int (a + c), .int ((b + d : Nat) : Int)]) wf rfl (EV.conv (by walk_at "ev") (by rw [Int.natCast_add])) (by walk_at "upd") ?_)
      refine SX.cons (S1.if_ (by walk_at "tv") (fun hb => ?_) (fun hb => ?_))
      · have hc : (a + c) * (q : Int) < p * ((b + d : Nat) : Int) := of_decide_eq_true hb
        rw [if_pos hc] at h7
        refine SX.cons (S1.assign wf rfl (by walk_at "ev") (by walk_at "upd") ?_)
        refine SX.nil (SX.nil ⟨⟨a + c, b + d, c, d⟩, ⟨by show 0 < b + d; omega, h2, hle, h4, h8, h6, h7⟩, by show N + 1 - (b + d + d) < N + 1 - (b + d); omega, by walk_at "sub"⟩)
      · have hc : ¬ (a + c) * (q : Int) < p * ((b + d : Nat) : Int) := of_decide_eq_false hb
        rw [if_neg hc] at h7
        refine SX.cons (S1.assign wf rfl (by walk_at "ev") (by walk_at "upd") ?_)
        refine SX.nil (SX.nil ⟨⟨a, b, a + c, b + d⟩, ⟨h1, by show 0 < b + d; omega, h3, hle, h5, h8, h7⟩, by show N + 1 - (b + (b + d)) < N + 1 - (b + d); omega, by walk_at "sub"⟩)
    · have hle : ¬ b + d ≤ N := by
        have h : ¬ (b : Int) + (d : Int) ≤ (N : Int) := of_decide_eq_false hb
        omega
      rw [walkLoop_done (u := ⟨a, b, c, d⟩) hle] at h7
      rw [← h7]
      have m1 : (p * (b : Int)).natAbs < 2 ^ 50 := by
        rw [Int.natAbs_mul]; exact Nat.lt_of_le_of_lt (Nat.mul_le_mul (Nat.le_of_lt hp) (show (b : Int).natAbs ≤ 2 ^ 18 by omega)) (by decide)
      have m2 : (a * (q : Int)).natAbs < 2 ^ 60 := by
        rw [Int.natAbs_mul]; exact Nat.lt_of_le_of_lt (Nat.mul_le_mul (show a.natAbs ≤ 2 ^ 36 by omega) (show (q : Int).natAbs ≤ 2 ^ 18 by omega)) (by decide)
      have m3 : (p * (d : Int)).natAbs < 2 ^ 50 := by
        rw [Int.natAbs_mul]; exact Nat.lt_of_le_of_lt (Nat.mul_le_mul (Nat.le_of_lt hp) (show (d : Int).natAbs ≤ 2 ^ 18 by omega)) (by decide)
      have m4 : (c * (q : Int)).natAbs < 2 ^ 60 := by
        rw [Int.natAbs_mul]; exact Nat.lt_of_le_of_lt (Nat.mul_le_mul (show c.natAbs ≤ 2 ^ 36 by omega) (show (q : Int).natAbs ≤ 2 ^ 18 by omega)) (by decide)
      refine SX.cons (S1.unp2s (x := "here") (y := "there") wf (by walk_at "ev") rfl rfl (by walk_at "upd") (by walk_at "upd") ?_)
      unfold walkEnd
      dsimp only
      generalize hH : (p * (b : Int) - a * (q : Int)) * (d : Int) = H1
      generalize hT : (c * (q : Int) - p * (d : Int)) * (b : Int) = H2
      refine SX.cons (S1.if_ (by walk_at "tv") (fun hb => ?_) (fun hb => SX.nil ?_))
      · have h0 : H1 = H2 := by simpa using hb
        rw [if_pos h0]
        refine SX.cons (S1.ret (EV.ite (d := .d (if b ≤ d then .tuple [.int a, .int (b : Int)] else .tuple [.int c, .int (d : Int)])) (by walk_at "tv") (fun hc => EV.conv (by walk_at "ev") ?_) (fun hc => EV.conv (by walk_at "ev") ?_)) ?_)
        · have h : (b : Int) ≤ (d : Int) := of_decide_eq_true hc
          rw [if_pos (by omega)]
        · have h : ¬ (b : Int) ≤ (d : Int) := of_decide_eq_false hc
          rw [if_neg (by omega)]
        · show Res.ret _ = Res.ret _
          split <;> rfl
      · have h0 : H1 ≠ H2 := by simpa using hb
        rw [if_neg h0]
        refine SX.cons (S1.ret (EV.ite (d := .d (if H1 < H2 then .tuple [.int a, .int (b : Int)] else .tuple [.int c, .int (d : Int)])) (by walk_at "tv") (fun hc => EV.conv (by walk_at "ev") ?_) (fun hc => EV.conv (by walk_at "ev") ?_)) ?_)
        · rw [if_pos (of_decide_eq_true hc)]
        · rw [if_neg (of_decide_eq_false hc)]
        · show Res.ret _ = Res.ret _
          split <;> rfl
end
local macro_rules | `(tactic| walk_at "con") => `(tactic| ((with_reducible show ConA _ _ (Wd.fa _ (Str.ofString "_law_walk")) _ _); exact c__law_walk (by assumption) (by walk_at "side") (by walk_at "side") (by walk_at "side")))
section
def seedF (l : List Nat) (k many : Nat) : Nat := if k + 1 ≤ l.length then l.getD k 0 % many else (6 * (k + 1) + (k + 1) / 4 + 9) % many
theorem Heap.kill_size (h : Heap) (a : Addr) (f : Obj → Obj) : (h.update a f).objs.size = h.objs.size := by
  cases h; simp [Heap.update]
theorem Heap.kill_none (h : Heap) (a : Addr) : (h.update a (fun o => { o with data := .freed })).get? a = none := by
  rcases h with ⟨objs, l⟩
  simp only [Heap.update, Heap.get?]
  rw [Array.getElem?_modify]
  simp only [if_true]
  cases objs[a]? <;> rfl

theorem mem_av {C : Cx} {a b : Addr} {ds : List PyData} {vs : List (Str × Bd)} : b ∈ C.av ⟨some (a, ds), vs⟩ ↔ b = C.env.locals ∨ b = a ∨ b ∈ C.X := by
  simp [Cx.av, Sto.X]

section
variable {W : Wd} {C : Cx} {σ σ' : Sto} {s : Shared} {Q : Flow → Shared → Prop} {pos pos2 : Pos}
theorem step_next {st : Stmt} {rest : List Stmt} (ok : Ok C σ s) (h : S1 W C σ st (fun r => r = .next σ')) (k : ∀ s₁, Ok C σ' s₁ → Fram C σ s σ' s₁ → wpAny W.M C.A (execs rest C.env) Q Nev s₁) :
    wpAny W.M C.A (execs (st :: rest) C.env) Q Nev s := by
  refine wpAny_execs_cons (wpAny_mono (h s ok) (fun f s₁ x => ?_) fun _ _ e => e)
  obtain ⟨_, rfl, rfl, ok1, fr⟩ := x
  exact k s₁ ok1 fr
theorem step_ret {e : Expr} {d : Bd} {rest : List Stmt} (ok : Ok C σ s) (h : EV W C σ e d) (k : ∀ v s₂, Ext s s₂ → d.holds s₂.heap (C.av σ) v → Q (.ret v) s₂) :
    wpAny W.M C.A (execs (.Return (some e) pos :: rest) C.env) Q Nev s :=
  wpAny_execs_cons (wpAny_Return_some (wpAny_mono (h.run s ok) (fun v s₂ x => k v s₂ x.1 x.2) fun _ _ e => e))
theorem step_ifT {e test : Expr} {d : Bd} {rest orelse : List Stmt} (ok : Ok C σ s) (ht : TV W C σ test true) (h : EV W C σ e d) (k : ∀ v s₂, Ext s s₂ → d.holds s₂.heap (C.av σ) v → Q (.ret v) s₂) :
    wpAny W.M C.A (execs (.If test [.Return (some e) pos] orelse pos2 :: rest) C.env) Q Nev s :=
  wpAny_execs_cons (wpAny_If (wpAny_mono (ht.run s ok) (fun c s₁ x => by
    obtain ⟨e1, rfl⟩ := x
    exact step_ret (W := W) (C := C) (ok.ext e1) h (fun v s₂ e2 hv => k v s₂ (e1.trans e2) hv)) fun _ _ e => e))
theorem step_ifF {body : List Stmt} {test : Expr} {rest : List Stmt} (ok : Ok C σ s) (ht : TV W C σ test false) (k : ∀ s₂, Ext s s₂ → wpAny W.M C.A (execs rest C.env) Q Nev s₂) :
    wpAny W.M C.A (execs (.If test body [] pos2 :: rest) C.env) Q Nev s :=
  wpAny_execs_cons (wpAny_If (wpAny_mono (ht.run s ok) (fun c s₁ x => by
    obtain ⟨e1, rfl⟩ := x
    exact wpAny_execs_nil (k s₁ e1)) fun _ _ e => e))
end
theorem c_seed {W : Wd} (H : Wok W) {C : Cx} (wf : Wf W C) (hroom : 1 ≤ C.room) {a : Addr} {k many : Nat} {l : List Nat} {vars : List (Str × Bd)} (hm : 0 < many) (hl : l.length ≤ 1000) {s : Shared} {t : Tok}
    (ok : Ok C ⟨some (a, [.int (k : Int), .list (nums l)]), vars⟩ s) :
    wpAny W.M C.A (call (.ref (W.fa "_law_seed")) [.ref a, .int (many : Int) t])
      (fun v s' => Ok C ⟨some (a, [.int ((k + 1 : Nat) : Int), .list (nums l)]), vars⟩ s' ∧ Fram C ⟨some (a, [.int (k : Int), .list (nums l)]), vars⟩ s ⟨some (a, [.int ((k + 1 : Nat) : Int), .list (nums l)]), vars⟩ s' ∧ ∃ u, v = .int (seedF l k many : Int) u) Nev s := by
  obtain ⟨_, c', o, pm, doc, ho, hdat, hcd⟩ := Wd.fn_at (d := fnItem 44) (ok.at_ wf) (H.defs 44 (by decide)) rfl
  have hb : ∀ vals : List Value, vals.length = 2 → bindArgs (docDef (fnItem 44).name (fnItem 44).params (fnItem 44).body (fnItem 44).scope pm (.ref c') doc) ⟨vals, []⟩ = pure ((["pod", "many"] : List Str).zip vals) := allV (n := 2) fun _ _ => rfl
  have hlc : ∀ x ∈ (["pod", "many"] : List Str).zip [Value.ref a, Value.int (many : Int) t], (fnItem 44).scope.names.lookup x.1 = some .local := by
    intro x hx
    have h2 : (["pod", "many"] : List Str).all (fun x => decide ((fnItem 44).scope.names.lookup x = some .local)) = true := by decide +kernel
    exact of_decide_eq_true (List.all_eq_true.mp h2 x.1 (List.of_mem_zip (show (x.1, x.2) ∈ _ from hx)).1)
  obtain ⟨hd1, hd2⟩ : C.A.depth < 1000 ∧ C.A.units + 208 < 9900 := by
    have := wf.dep; have := wf.unit; omega
  refine wpAny_call (call_plain_ret (binds := (["pod", "many"] : List Str).zip [.ref a, .int (many : Int) t]) hd1 ho hdat (ok.at_ wf).nolimit hcd (hb _ rfl) hlc (fun h₁ F => ?_) rfl rfl rfl (by decide +kernel))
  obtain ⟨g1, g2, ws, as, g3, g4, g5⟩ := ok.own a _ rfl
  obtain ⟨oa, hoa⟩ : ∃ o, s.heap.get? a = some o := by obtain ⟨n, h⟩ := g3; exact ⟨_, h⟩
  generalize hh0 : s.heap.update a (fun o => { o with data := .freed }) = h0
  have hsb : Heap.SameBut a s.heap h0 := hh0 ▸ Heap.SameBut.update ..
  have hsz : h0.objs.size = s.heap.objs.size := hh0 ▸ Heap.kill_size _ _ _
  have hnone : h0.get? a = none := hh0 ▸ Heap.kill_none _ _
  have hback : ∀ b o, h0.get? b = some o → s.heap.get? b = some o := fun b o e => by
    by_cases hba : b = a
    · subst hba; rw [hnone] at e; cases e
    · rw [← hsb.2 b hba]; exact e
  obtain ⟨m0, F0, hv0⟩ := ok.m
  have hup : ∀ b o, C.h₀.get? b = some o → h0.get? b = some o := fun b o e => by
    by_cases hba : b = a
    · subst hba; rw [g1] at e; cases e
    · rw [hsb.2 b hba]; exact F0.keep _ _ e
  have hal := ok.alive wf
  have haL : a ≠ s.heap.objs.size := fun e => Nat.lt_irrefl _ (show a < a from Nat.lt_of_lt_of_le (Heap.lt_size hoa) (Nat.le_of_eq e.symm))
  have hXa : ∀ b ∈ C.env.locals :: C.X, ∃ o, h0.get? b = some o := fun b hb => by
    obtain ⟨o, e⟩ := hal b (by
      simp only [Cx.av, List.mem_cons, List.mem_append] at hb ⊢
      rcases hb with h | h
      · exact .inl h
      · exact .inr (.inr h))
    have hba : b ≠ a := by
      rintro rfl
      rcases List.mem_cons.mp hb with h | h
      · exact g2 h
      · obtain ⟨o', e'⟩ := wf.xs b h
        rw [g1] at e'; cases e'
    exact ⟨o, by rw [hsb.2 b hba]; exact e⟩
  have wf' : Wf W (Cx.of (fnItem 44) (C.A.deeper (envOf (fnItem 44).name (fnItem 44).scope s.heap.objs.size (W.fa (fnItem 44).name) (.ref c'))) s.heap.objs.size (W.fa (fnItem 44).name) (.ref c') h0 (C.env.locals :: C.X) 0 s.gens s.os) := by
    refine ⟨rfl, rfl, rfl, wf.hh, ?_, ?_, wf.at_.keeps hup, hXa⟩
    · have := wf.dep
      show C.A.depth + 1 + 0 < 1000; omega
    · show C.A.units + 3 + 8 * 0 + 200 < 9900; omega
  have F' : Fr h0 s.heap.objs.size h₁ (fun x => ((["pod", "many"] : List Str).zip [.ref a, .int (many : Int) t]).reverse.lookup x) := ⟨F.ns, fun b o e => F.keep b o (hback b o e), by omega⟩
  have hL0 : s.heap.get? s.heap.objs.size = none := Heap.get?_none_of_le (Nat.le_refl _)
  have asOk : ∀ b ∈ as, b ≠ s.heap.objs.size := fun b hb e => by
    obtain ⟨ob, e1⟩ := readsAll_alive g4 b hb
    exact Nat.lt_irrefl b (Nat.lt_of_lt_of_le (Heap.lt_size e1) (Nat.le_of_eq e.symm))
  have ok' : Ok (Cx.of (fnItem 44) (C.A.deeper (envOf (fnItem 44).name (fnItem 44).scope s.heap.objs.size (W.fa (fnItem 44).name) (.ref c'))) s.heap.objs.size (W.fa (fnItem 44).name) (.ref c') h0 (C.env.locals :: C.X) 0 s.gens s.os)
      ⟨some (a, [.int (k : Int), .list (nums l)]), [("pod", .v (.ref a)), ("many", I (many : Int))]⟩ { s with heap := h₁, toks := s.toks + 2 } := by
    refine ⟨⟨_, F', ?_⟩, ?_, (fun p hp => nomatch hp), rfl, rfl, (by dsimp only [List.map]; decide)⟩
    · intro p hp
      rcases List.mem_cons.mp hp with rfl | hp
      · exact ⟨_, rfl, rfl⟩
      · rw [List.mem_singleton.mp hp]; exact ⟨_, rfl, Rd.int _ _⟩
    · intro l' ds e
      cases e
      refine ⟨hnone, haL, ws, as, g3.at (fun o e => F.keep _ _ e), ReadsAll.keeps F.keep g4, fun b hb hx => ?_⟩
      have hx2 : b = s.heap.objs.size ∨ b = a ∨ b ∈ C.env.locals :: C.X := mem_av.mp hx
      refine hx2.elim (fun h => asOk b hb h) (fun h => h.elim (fun h => g5 b hb (mem_av.mpr (.inr (.inl h)))) (fun h => ?_))
      exact (List.mem_cons.mp h).elim (fun h => g5 b hb (mem_av.mpr (.inl h))) (fun h => g5 b hb (mem_av.mpr (.inr (.inr h))))
  have fin : ∀ (vars2 : List (Str × Bd)) (s₁ s₂ : Shared), Ok (Cx.of (fnItem 44) (C.A.deeper (envOf (fnItem 44).name (fnItem 44).scope s.heap.objs.size (W.fa (fnItem 44).name) (.ref c'))) s.heap.objs.size (W.fa (fnItem 44).name) (.ref c') h0 (C.env.locals :: C.X) 0 s.gens s.os)
      ⟨some (a, [.int ((k + 1 : Nat) : Int), .list (nums l)]), vars2⟩ s₁ → Ext s₁ s₂ →
      Ok C ⟨some (a, [.int ((k + 1 : Nat) : Int), .list (nums l)]), vars⟩ s₂ ∧ Fram C ⟨some (a, [.int (k : Int), .list (nums l)]), vars⟩ s ⟨some (a, [.int ((k + 1 : Nat) : Int), .list (nums l)]), vars⟩ s₂ := by
    intro vars2 s₁ s₂ ok1 e12
    have ok2 := ok1.ext e12
    obtain ⟨m2, F2, _⟩ := ok2.m
    have keep : ∀ b o, b ≠ a → s.heap.get? b = some o → s₂.heap.get? b = some o := fun b o hba e => F2.keep b o (by show h0.get? b = some o; rw [hsb.2 b hba]; exact e)
    have keepL := fun o (e : s.heap.get? C.env.locals = some o) => keep _ o (fun h => g2 h.symm) e
    obtain ⟨_, _, ws2, bs, q3, q4, q5⟩ := ok2.own a _ rfl
    have hsp : Spares (C.av ⟨some (a, [.int (k : Int), .list (nums l)]), vars⟩) s.heap s₂.heap := fun b o e hsh => by
      by_cases hba : b = a
      · subst hba
        obtain ⟨n, h3⟩ := g3
        rw [h3] at e
        obtain rfl := Option.some.inj e
        rcases hsh with ⟨vs, n', hd', hx⟩ | ⟨es, n', hd', hx⟩
        · rcases hx with hx | hx
          · exact absurd hx (by simp)
          · exact absurd (by simp [Cx.av, Sto.X]) hx
        · cases hd'
      · exact keep b o hba e
    refine ⟨⟨⟨m0, ⟨F0.ns.at keepL, fun b o e => keep b o (fun hh => by rw [hh, g1] at e; cases e) (F0.keep b o e), F0.above⟩, fun p hp => ?_⟩, ?_, fun p hp => ?_, ok2.gens.trans ok.gens, ok2.os.trans ok.os, ok.nd⟩, ⟨fun b o h1 h2 e => keep b o (fun hh => h2 (by simp [Sto.X, hh])) e, fun b hb => .inl hb⟩⟩
    · obtain ⟨v, e1, e2⟩ := hv0 p hp
      exact ⟨v, e1, e2.spare hsp⟩
    · intro l' ds e
      cases e
      refine ⟨g1, g2, ws2, bs, q3, q4, fun b hb hx => q5 b hb ?_⟩
      refine mem_av.mpr ?_
      exact (mem_av.mp hx).elim (fun h => .inr (.inr (List.mem_cons.mpr (.inl h)))) (fun h => h.elim (fun h => .inr (.inl h)) (fun h => .inr (.inr (List.mem_cons.mpr (.inr h)))))
    · obtain ⟨r1, r2, r3, v, r4, r5⟩ := ok.cells p hp
      refine ⟨r1, r2, r3, v, ?_, r5.spare hsp⟩
      obtain ⟨oc, e1, e2⟩ := r4
      exact ⟨oc, keep _ _ (fun h => r3 (by simp [Sto.X, h])) e1, e2⟩
  have fin2 : ∀ (vars2 : List (Str × Bd)) (s₁ s₂ : Shared) (v : Value) (X : List Addr), Ok (Cx.of (fnItem 44) (C.A.deeper (envOf (fnItem 44).name (fnItem 44).scope s.heap.objs.size (W.fa (fnItem 44).name) (.ref c'))) s.heap.objs.size (W.fa (fnItem 44).name) (.ref c') h0 (C.env.locals :: C.X) 0 s.gens s.os)
      ⟨some (a, [.int ((k + 1 : Nat) : Int), .list (nums l)]), vars2⟩ s₁ → Ext s₁ s₂ → (I (seedF l k many : Int)).holds s₂.heap X v →
      Ok C ⟨some (a, [.int ((k + 1 : Nat) : Int), .list (nums l)]), vars⟩ s₂ ∧ Fram C ⟨some (a, [.int (k : Int), .list (nums l)]), vars⟩ s ⟨some (a, [.int ((k + 1 : Nat) : Int), .list (nums l)]), vars⟩ s₂ ∧ ∃ u, v = .int (seedF l k many : Int) u := fun vars2 s₁ s₂ v X ok1 e12 hv => by
    obtain ⟨f1, f2⟩ := fin vars2 s₁ s₂ ok1 e12
    exact ⟨f1, f2, hv.int_inv⟩
  clear fin F0 hv0 hlc hb ho hdat hcd F'
  revert wf' ok' fin2
  conv in (occs := *) fnItem 44 => all_goals whnf
  intro wf' ok' fin2
  have n0 : (nums l).length ≤ 1000000 := by rw [nums_len]; omega
  refine step_next (σ' := ⟨some (a, [.int ((k + 1 : Nat) : Int), .list (nums l)]), [("pod", .v (.ref a)), ("many", I (many : Int))]⟩) ok' (S1.setItem (j := 0) (d := .int ((k + 1 : Nat) : Int)) wf' rfl (by walk_at "mem")
    (EV.conv (EV.add (EV.itemOwn (d := .int (k : Int)) rfl (by walk_at "ev") EV.int (by decide) rfl) EV.int) (by rw [Int.natCast_add]; rfl)) EV.int ⟨by show 0 < 2; decide, by decide⟩ rfl) (fun s₁ ok1 fr1 => ?_)
  have ek : ((k + 1 : Nat) : Int) = (k : Int) + 1 := by omega
  by_cases hk : k + 1 ≤ l.length
  · refine step_ifT ok1 (TV.conv (TV.cmpInt (EV.itemOwn (d := .int ((k + 1 : Nat) : Int)) rfl (by walk_at "ev") EV.int (by decide) rfl) (EV.lenN (l := l) (by walk_at "ev") (EV.itemOwn (d := .list (nums l)) rfl (by walk_at "ev") EV.int (by decide) rfl) (by omega))) (by show decide _ = true; rw [decide_eq_true_eq]; omega))
      (d := I ((seedF l k many : Nat) : Int)) (EV.conv (EV.mod (EV.itemN (l := l) (EV.itemOwn (d := .list (nums l)) rfl (by walk_at "ev") EV.int (by decide) rfl) (EV.sub (EV.itemOwn (d := .int ((k + 1 : Nat) : Int)) rfl (by walk_at "ev") EV.int (by decide) rfl) EV.int) (by omega)) (by walk_at "ev") (by omega)) ?_)
      (fun v s₂ e2 hv => fin2 _ s₁ s₂ v _ ok1 e2 hv)
    have e1 : (((k + 1 : Nat) : Int) - 1).toNat = k := by omega
    unfold seedF
    rw [if_pos hk, e1, Int.natCast_emod]
  · refine step_ifF ok1 (TV.conv (TV.cmpInt (EV.itemOwn (d := .int ((k + 1 : Nat) : Int)) rfl (by walk_at "ev") EV.int (by decide) rfl) (EV.lenN (l := l) (by walk_at "ev") (EV.itemOwn (d := .list (nums l)) rfl (by walk_at "ev") EV.int (by decide) rfl) (by omega))) (by show decide _ = false; rw [decide_eq_false_iff_not]; omega)) (fun s₂ e2 => ?_)
    refine step_ret (ok1.ext e2) (d := I ((seedF l k many : Nat) : Int)) (EV.conv (EV.mod (EV.add (EV.add (EV.mul EV.int (EV.itemOwn (d := .int ((k + 1 : Nat) : Int)) rfl (by walk_at "ev") EV.int (by decide) rfl) (by decide)) (EV.fdiv (EV.itemOwn (d := .int ((k + 1 : Nat) : Int)) rfl (by walk_at "ev") EV.int (by decide) rfl) EV.int (by decide))) EV.int) (by walk_at "ev") (by omega)) ?_) (fun v s₃ e3 hv => fin2 _ s₁ s₃ v _ ok1 (e2.trans e3) hv)
    unfold seedF
    rw [if_neg hk, Int.natCast_emod]
    congr 3
end
section
structure EP (W : Wd) (C : Cx) (σ : Sto) (e : Expr) (a : Int) (σ' : Sto) : Prop where
  run : ∀ s, Ok C σ s → wpAny W.M C.A (eval e C.env) (fun v s' => Ok C σ' s' ∧ Fram C σ s σ' s' ∧ ∃ u, v = .int a u) Nev s
section
variable {W : Wd} {C : Cx} {σ σ' σ'' : Sto} {pos : Pos}
theorem EP.seed {a : Addr} {k many : Nat} {l : List Nat} {vars : List (Str × Bd)} {f e1 e2 : Expr} (H : Wok W) (wf : Wf W C) (hroom : 1 ≤ C.room) (hm : 0 < many) (hl : l.length ≤ 1000)
    (hf : EV W C ⟨some (a, [.int (k : Int), .list (nums l)]), vars⟩ f (.v (.ref (W.fa "_law_seed"))))
    (h2 : EVs W C ⟨some (a, [.int (k : Int), .list (nums l)]), vars⟩ [e1, e2] [.v (.ref a), I (many : Int)])
    (he1 : starEach [e1, e2] C.env = (false, eval e1 C.env) :: starEach [e2] C.env := by rfl)
    (he : eval (.Call f [e1, e2] [] pos) C.env = (do callWith pos (← eval f C.env) [] (backTo pos (starEach [e1, e2] C.env)) (backToKw pos (keywordEach [] C.env))) := by rfl) :
    EP W C ⟨some (a, [.int (k : Int), .list (nums l)]), vars⟩ (.Call f [e1, e2] [] pos) (seedF l k many : Int) ⟨some (a, [.int ((k + 1 : Nat) : Int), .list (nums l)]), vars⟩ := .mk fun s ok => by
  refine Call_ (wpAny_mono (hf.run s ok) (fun fv s₁ x1 => ?_) fun _ _ e => e) he
  have e1' : fv = .ref (W.fa "_law_seed") := x1.2
  subst e1'
  have ok1 := ok.ext x1.1
  obtain ⟨o, fd, ho, hd⟩ := H.alive "_law_seed" (by decide) _ (ok1.at_ wf)
  refine callWith_def (o := o) (fd := fd) hd (wpAny_mono (h2.run pos s₁ ok1) (fun vs s₂ x2 => ⟨x2.1.keep _ _ ho, ?_⟩) fun _ _ e => e) he1
  have ok2 := ok1.ext x2.1
  have hv := x2.2
  cases vs with
  | nil => cases hv
  | cons v1 vs =>
  cases vs with
  | nil => cases hv.2
  | cons v2 vs =>
  cases vs with
  | cons v3 vs => cases hv.2.2
  | nil =>
    obtain ⟨g1, g2, _⟩ := hv
    have g1 : v1 = .ref a := g1
    subst g1
    obtain ⟨t, rfl⟩ := g2.int_inv
    exact wpAny_mono (c_seed H wf hroom hm hl ok2) (fun v s' x3 => ⟨x3.1, (Fram.ext (x1.1.trans x2.1)).trans ok2 x3.2.1, x3.2.2⟩) fun _ _ e => e
theorem EP.addL {l r : Expr} {a b : Int} (h1 : EV W C σ l (I a)) (h2 : EP W C σ r b σ') : EP W C σ (.BinOp l .Add r pos) (a + b) σ' := .mk fun s ok => by
  refine wpAny_BinOp (wpAny_mono (h1.run s ok) (fun x s₁ x1 => wpAny_mono (h2.run s₁ (ok.ext x1.1)) (fun y s₂ x2 => ?_) fun _ _ e => e) fun _ _ e => e)
  obtain ⟨t, rfl⟩ := x1.2.int_inv
  obtain ⟨ok2, fr2, u, rfl⟩ := x2
  exact add_int ⟨ok2.ext (Ext.toks s₂ _), ((Fram.ext x1.1).trans (ok.ext x1.1) fr2).trans ok2 (Fram.ext (Ext.toks s₂ _)), _, rfl⟩
theorem EP.subR {l r : Expr} {a b : Int} (h1 : EP W C σ l a σ') (h2 : EV W C σ' r (I b)) : EP W C σ (.BinOp l .Sub r pos) (a - b) σ' := .mk fun s ok => by
  refine wpAny_BinOp (wpAny_mono (h1.run s ok) (fun x s₁ x1 => ?_) fun _ _ e => e)
  obtain ⟨ok1, fr1, t, rfl⟩ := x1
  refine wpAny_mono (h2.run s₁ ok1) (fun y s₂ x2 => ?_) fun _ _ e => e
  obtain ⟨u, rfl⟩ := x2.2.int_inv
  have ok2 := ok1.ext x2.1
  exact sub_int ⟨ok2.ext (Ext.toks s₂ _), (fr1.trans ok1 (Fram.ext x2.1)).trans ok2 (Fram.ext (Ext.toks s₂ _)), _, rfl⟩
theorem EP.iteT {t x y : Expr} {a : Int} (h1 : TV W C σ t true) (h2 : EP W C σ x a σ') : EP W C σ (.IfExp t x y pos) a σ' := .mk fun s ok =>
  wpAny_IfExp (wpAny_mono (h1.run s ok) (fun b s₁ x1 => by
    obtain ⟨e1, rfl⟩ := x1
    exact wpAny_mono (h2.run s₁ (ok.ext e1)) (fun v s₂ x2 => ⟨x2.1, (Fram.ext e1).trans (ok.ext e1) x2.2.1, x2.2.2⟩) fun _ _ e => e) fun _ _ e => e)
theorem EP.conv {e : Expr} {a b : Int} (h : EP W C σ e a σ') (hd : a = b) : EP W C σ e b σ' := hd ▸ h
theorem S1.assignP {x : Str} {p : Pos} {value : Expr} {a : Int} {vs' : List (Str × Bd)} {K : Res → Prop} (wf : Wf W C) (hk : C.env.kindOf x = some .local) (hv : EP W C σ value a σ') (hu : Upd x (I a) σ'.vars vs') (h : K (.next ⟨σ'.own, vs'⟩))
    (hs : swapsWith value (some (.Name x p)) pos.line C.env = pure false := by rfl) : S1 W C σ (.Assign [.Name x p] value pos) K := fun s ok =>
  wpAny_Assign_Name (wpAny_mono (hv.run s ok) (fun v s₁ x1 => by
    obtain ⟨ok1, fr1, u, rfl⟩ := x1
    exact store_ (d := I a) wf hk ok1 (Rd.int _ _) hu fun s' ok' _ fr => ⟨_, h, rfl, ok', fr1.trans ok1 fr⟩) fun _ _ e => e) hs
theorem S1.assignP2 {x : Str} {p : Pos} {f e1 e2 : Expr} {a b : Int} {d : PyData} {fa : Addr} {n : Nat} {p2 : Pos} {vs' : List (Str × Bd)} {K : Res → Prop} (wf : Wf W C) (hk : C.env.kindOf x = some .local)
    (hf : EV W C σ f (.v (.ref fa))) (h1 : EP W C σ e1 a σ') (h2 : EP W C σ' e2 b σ'') (hc : ConA W n fa [I a, I b] d) (hn : n ≤ C.room)
    (hfn : ∀ h, W.At h → ∃ o fd, h.get? fa = some o ∧ o.data = .func fd) (hfa : ∃ o, C.h₀.get? fa = some o)
    (hX1 : σ'.X = σ.X) (hX2 : σ''.X = σ.X)
    (hu : Upd x (.d d) σ''.vars vs') (h : K (.next ⟨σ''.own, vs'⟩))
    (he1 : starEach [e1, e2] C.env = (false, eval e1 C.env) :: starEach [e2] C.env := by rfl)
    (he2 : starEach [e2] C.env = (false, eval e2 C.env) :: starEach [] C.env := by rfl)
    (he : eval (.Call f [e1, e2] [] p2) C.env = (do callWith p2 (← eval f C.env) [] (backTo p2 (starEach [e1, e2] C.env)) (backToKw p2 (keywordEach [] C.env))) := by rfl)
    (hs : swapsWith (.Call f [e1, e2] [] p2) (some (.Name x p)) pos.line C.env = pure false := by rfl) : S1 W C σ (.Assign [.Name x p] (.Call f [e1, e2] [] p2) pos) K := fun s ok =>
  wpAny_Assign_Name (Q := fun f s' => ∃ r, K r ∧ ResOk C σ s r f s') (by
    refine Call_ (wpAny_mono (hf.run s ok) (fun fv s₁ x1 => ?_) fun _ _ e => e) he
    have e1' : fv = .ref fa := x1.2
    subst e1'
    have ok1 := ok.ext x1.1
    obtain ⟨o, fd, ho, hd⟩ := hfn _ (wf.at_)
    refine callWith_def (o := o) (fd := fd) hd ?_ he1
    refine wpAny_items_cons (wpAny_mono (h1.run s₁ ok1) (fun v1 s₂ y1 => ?_) fun _ _ e => e) he1
    obtain ⟨ok2, fr2, u1, rfl⟩ := y1
    refine wpAny_items_cons (wpAny_mono (h2.run s₂ ok2) (fun v2 s₃ y2 => wpAny_items_nil ?_) fun _ _ e => e) he2
    obtain ⟨ok3, fr3, u2, rfl⟩ := y2
    obtain ⟨m3, F3, _⟩ := ok3.m
    refine ⟨F3.keep _ _ ho, ?_⟩
    have fr13 := ((Fram.ext x1.1).trans ok1 fr2).trans ok2 fr3
    have := wf.dep; have := wf.unit
    refine wpAny_mono (hc.run C.A s₃ [.int a u1, .int b u2] (C.av σ'') wf.hh (by omega) (by omega) (ok3.at_ wf) (ok3.alive wf) ⟨Rd.int _ _, Rd.int _ _, trivial⟩) (fun v s' x3 => ?_) fun _ _ e => e
    exact store_ (d := .d d) wf hk (ok3.ext x3.1) x3.2 hu fun s' ok' _ fr => ⟨_, h, rfl, ok', (fr13.trans ok3 (Fram.ext x3.1)).trans (ok3.ext x3.1) fr⟩) hs
end
end
section
def Cx.comp (C : Cx) (scope : Scope) (cl : List (Str × Addr)) (cc : Addr) (h₀ : Heap) (s : Shared) : Cx := ⟨C.A, compEnvC scope cl cc C.env, h₀, [], C.cells, C.room, s.gens, s.os⟩
abbrev own_ (D : Addr) (g : Nat → Nat) (i : Nat) : Option (Addr × List PyData) := some (D, nums ((List.range i).map g))
theorem readsAll_nums {h h' : Heap} : ∀ {l : List Nat} {ws : List Value} {bs : List Addr}, ReadsAll h ws (nums l) bs → ReadsAll h' ws (nums l) []
  | [], _, _, .nil => .nil
  | a :: l, _, _, .cons h1 h2 => by
    obtain ⟨t, rfl, _⟩ := reads_int_inv h1
    exact ReadsAll.cons (as := []) (bs := []) (.int _ _) (readsAll_nums h2)
section
variable {W : Wd} {C : Cx} {σ : Sto}
theorem comp_mid (wf : Wf W C) {s₀ s₁ s₂ : Shared} (e01 : Ext s₀ s₁) (ok1 : Ok C σ s₁) (e12 : Ext s₁ s₂) (hs12 : s₁.heap.objs.size ≤ s₂.heap.objs.size) {elt target iter : Expr} {pos : Pos} {scope : Scope} {cl : List (Str × Addr)} {It : Addr} {n : Nat} (hsz : n ≤ 1000) {St : Nat → Heap → Prop} {vars : Nat → List (Str × Bd)} {g : Nat → Nat}
    (hcell : ∀ y ∈ scope.names, y.2 ≠ .cell) (hkind : scope.kind = .function)
    (hself : ∀ (s : Shared) (Q : Value → Shared → Prop) (E : Value → Shared → Prop), St 0 s.heap → Q (.ref It) s → wpAny W.M C.A (pyIter (.ref It)) Q E s)
    (hst : St 0 s₂.heap) (hfr : ∀ i h h', St i h → (∀ b o, b < s₂.heap.objs.size → h.get? b = some o → h'.get? b = some o) → St i h')
    (hv0 : vars 0 = []) (hcl : ∀ p ∈ C.cells, cl.lookup p.1 = some p.2.1 ∧ ∃ z, p.2.2 = I z)
    (turn : ∀ D cc i s', i < n → Wf W (C.comp scope cl cc s₁.heap s₂) → Ok (C.comp scope cl cc s₁.heap s₂) ⟨own_ D g i, vars i⟩ s' → St i s'.heap → cc ≥ s₂.heap.objs.size → D ≥ s₂.heap.objs.size →
      wpAny W.M C.A (pyNext (.ref It)) (fun r s₃ => ∃ v, r = some v ∧ wpAny W.M C.A (letOwnedTupleGo target (.ref It) v) (fun _ s₄ => wpAny W.M C.A (PySem.assign target (compEnvC scope cl cc C.env) v) (fun _ s₅ => Ok (C.comp scope cl cc s₁.heap s₂) ⟨own_ D g i, vars (i + 1)⟩ s₅ ∧ St (i + 1) s₅.heap) Nev s₄) Nev s₃) Nev s')
    (helt : ∀ D cc i, i < n → Wf W (C.comp scope cl cc s₁.heap s₂) → EV W (C.comp scope cl cc s₁.heap s₂) ⟨own_ D g i, vars (i + 1)⟩ elt (I ((g i : Nat) : Int)))
    (done : ∀ D cc s', Ok (C.comp scope cl cc s₁.heap s₂) ⟨own_ D g n, vars n⟩ s' → St n s'.heap → wpAny W.M C.A (pyNext (.ref It)) (fun r s₃ => r = none ∧ Ok (C.comp scope cl cc s₁.heap s₂) ⟨own_ D g n, vars n⟩ s₃) Nev s') :
    wpAny W.M C.A (newList []) (fun acc s₃ => wpAny W.M C.A (newFunctionEnv scope C.env.globals cl [] C.env.qual none .none (some C.env)) (fun cenv s₄ =>
      codeAny W.M C.A (.compStart (.ListComp elt [⟨target, iter, [], 0⟩] scope pos) 0 (.ref It) acc { cenv with scope := relabel scope C.env })
        (compPost W.M C.A Nev none (fun v s' => Ext s₀ s' ∧ (L (nums ((List.range n).map g))).holds s'.heap (C.av σ) v) acc cenv.locals) s₄) Nev s₃) Nev s₂ := by
  have ok2 := ok1.ext e12
  refine wpAny_newObj_type (wpAny_newFunctionEnv hcell (by intro y hy; simp at hy) (fun h₁ hns₁ hsb₁ => ?_) hkind)
  dsimp only at hns₁ hsb₁ ⊢
  generalize hH2 : s₂.heap.push { cls := .type "list", dict := none, data := .seq ([] : List Value).toArray } = H2 at hns₁ hsb₁ ⊢
  have hC : H2.objs.size = s₂.heap.objs.size + 1 := by rw [← hH2, Heap.size_push]
  generalize hcc : H2.objs.size = cc at hns₁ hsb₁ hC ⊢
  generalize hD : s₂.heap.objs.size = D at *
  have hDC : D ≠ cc := by rw [hC]; exact Nat.ne_of_lt (Nat.lt_succ_self _)
  have below : ∀ b, b < D → b ≠ cc ∧ b ≠ D := fun b hb => ⟨by rw [hC]; exact Nat.ne_of_lt (Nat.lt_succ_of_lt hb), Nat.ne_of_lt hb⟩
  have old : ∀ b o, s₂.heap.get? b = some o → h₁.get? b = some o := fun b o e => hsb₁.extBut b o (below b (hD ▸ Heap.lt_size e)).1 (Heap.get?_push_of_some _ (hH2 ▸ Heap.get?_push_of_some _ e))
  have fresh : ∀ a, D ≤ a → s₂.heap.get? a = none := fun a ha => Heap.get?_none_of_le (by rw [hD]; exact ha)
  have fresh1 : ∀ a, D ≤ a → s₁.heap.get? a = none := fun a ha => by
    cases e : s₁.heap.get? a with
    | none => rfl
    | some o => rw [← fresh a ha]; exact (e12.keep a o e).symm
  have hacc : h₁.PlainList D #[] := ⟨_, hsb₁.extBut _ _ hDC (Heap.get?_push_of_some _ (hH2 ▸ hD ▸ Heap.get?_push_size _ rfl))⟩
  have wf' : Wf W (C.comp scope cl cc s₁.heap s₂) := ⟨hkind, wf.glob, wf.blt, wf.hh, wf.dep, wf.unit, ok1.at_ wf, fun a ha => nomatch ha⟩
  have h1D : s₁.heap.objs.size ≤ D := hs12
  have ok' : Ok (C.comp scope cl cc s₁.heap s₂) ⟨own_ D g 0, vars 0⟩ { s₂ with heap := h₁, toks := s₂.toks + ([] : List (Str × Value)).length } := by
    rw [hv0]
    refine ⟨⟨_, ⟨hns₁, fun b o e => old b o (e12.keep b o e), Nat.le_trans h1D (by rw [hC]; exact Nat.le_succ _)⟩, fun p hp => nomatch hp⟩, fun l ds e => ?_, fun p hp => ?_, rfl, rfl, List.nodup_nil⟩
    · cases e
      exact ⟨fresh1 _ (Nat.le_refl _), hDC, [], [], hacc, .nil, fun _ m => nomatch m⟩
    · obtain ⟨z1, z, hz⟩ := hcl p hp
      obtain ⟨r1, r2, r3, v, ⟨oc, r4, r4'⟩, r5⟩ := ok2.cells p hp
      have hlt : p.2.1 < D := hD ▸ Heap.lt_size r4
      refine ⟨z1, (below _ hlt).1, fun hm => (below _ hlt).2 (by simpa [Sto.X] using hm), v, ⟨oc, old _ _ r4, r4'⟩, ?_⟩
      rw [hz] at r5 ⊢
      obtain ⟨t, rfl⟩ := r5.int_inv
      exact Rd.int _ _
  have hst' : St 0 h₁ := hfr _ _ _ hst fun b o hb e => old b o e
  have hfr2 : ∀ i (s s' : Shared) (σ σ' : Sto), σ.X = [D] → St i s.heap → Fram (C.comp scope cl cc s₁.heap s₂) σ s σ' s' → St i s'.heap := fun i s s' σ σ' hX h fr => hfr _ _ _ h fun b o hb e => fr.keep b o (below b hb).1 (by rw [hX]; simpa using (below b hb).2) e
  have loop : ∀ s₃ : Shared, s₃ = { s₂ with heap := h₁, toks := s₂.toks + ([] : List (Str × Value)).length } →
      codeAny W.M C.A (.compLoop (.ListComp elt [⟨target, iter, [], 0⟩] scope pos) 0 (.ref It) (.ref D) (compEnvC scope cl cc C.env))
        (compPost W.M C.A Nev none (fun v s' => Ext s₀ s' ∧ (L (nums ((List.range n).map g))).holds s'.heap (C.av σ) v) (.ref D) cc) s₃ := by
    rintro s₃ rfl
    refine PySem.W.kcp_loop (fun k s' => ∃ i, i ≤ n ∧ k = n + 1 - i ∧ Ok (C.comp scope cl cc s₁.heap s₂) ⟨own_ D g i, vars i⟩ s' ∧ St i s'.heap) ?_ (n + 1) ⟨0, Nat.zero_le _, rfl, ok', hst'⟩
    rintro k s' ⟨i, hi, rfl, oki, hsti⟩
    by_cases hlt : i < n
    · refine wpAny_mono (turn D cc i s' hlt wf' oki hsti (by rw [hC]; exact Nat.le_succ _) (Nat.le_refl _)) (fun r s₃ h₃ => ?_) fun _ _ e => e.elim
      obtain ⟨v, rfl, h₃⟩ := h₃
      refine wpAny_mono h₃ (fun _ s₄ h₄ => wpAny_mono h₄ (fun _ s₅ h₅ => ?_) fun _ _ e => e.elim) fun _ _ e => e.elim
      obtain ⟨ok5, hst5⟩ := h₅
      refine wpAny_mono ((helt D cc i hlt wf').run s₅ ok5) (fun y s₆ h₆ => ?_) fun _ _ e => e.elim
      obtain ⟨e56, hy⟩ := h₆
      obtain ⟨t, rfl⟩ := hy.int_inv
      have ok6 := ok5.ext e56
      obtain ⟨g1, g2, ws, bs, g3, g4, g5⟩ := ok6.own D _ rfl
      have hlen := readsAll_len g4
      rw [nums_len, List.length_map, List.length_range] at hlen
      refine wpAny_list_append_plain g3 (fun h' hp' hs' => ?_) (by rw [List.size_toArray, hlen, sizeLine_eq]; omega)
      have sp : Spares ((C.comp scope cl cc s₁.heap s₂).av ⟨own_ D g i, vars (i + 1)⟩) s₆.heap h' := spares_of_sameBut hs' (by simp [Cx.av, Sto.X]) fun o e => .inl (by obtain ⟨n, g3⟩ := g3; rw [g3] at e; cases e; simp)
      have e5 : ws.toArray.push (Value.int ((g i : Nat) : Int) t) = (ws ++ [Value.int ((g i : Nat) : Int) t]).toArray := by simp
      rw [e5] at hp'
      obtain ⟨ok7, fr7⟩ := ok6.own_set hp' hs' (readsAll_snoc (readsAll_spare sp g4 g5) (Reads.int ((g i : Nat) : Int) t)) (fun b hb => (List.mem_append.mp hb).elim (g5 b) (fun h => nomatch h))
      have ed : nums ((List.range i).map g) ++ [PyData.int ((g i : Nat) : Int)] = nums ((List.range (i + 1)).map g) := by
        simp [nums, List.range_succ]
      rw [ed] at ok7 fr7
      refine ⟨n + 1 - (i + 1), by omega, i + 1, hlt, rfl, ok7, ?_⟩
      exact hfr2 _ _ _ _ _ rfl (hfr2 _ _ _ ⟨own_ D g i, vars (i + 1)⟩ _ rfl hst5 (Fram.ext e56)) fr7
    · obtain rfl : i = n := by omega
      refine wpAny_mono (done D cc s' oki hsti) (fun r s₃ h₃ => ?_) fun _ _ e => e.elim
      obtain ⟨rfl, ok3⟩ := h₃
      obtain ⟨m3, F3, _⟩ := ok3.m
      refine ⟨m3, F3.ns, fun h' hs' => ?_⟩
      obtain ⟨g1, g2, ws, bs, g3, g4, g5⟩ := ok3.own D _ rfl
      have kp : ∀ b o, s₁.heap.get? b = some o → h'.get? b = some o := fun b o e => (hs'.2 b (fun q => by rw [q, fresh1 cc (by omega)] at e; cases e)).trans (F3.keep b o e)
      have rd := readsAll_nums (h' := h') g4
      obtain ⟨nn, g3'⟩ := g3
      have g3' : h'.get? D = some _ := (hs'.2 D hDC).trans g3'
      refine ⟨e01.trans ⟨kp, ok3.gens.trans e12.gens, ok3.os.trans e12.os⟩, [D], reads_list_at g3' rfl rfl rd, fun b hb => ?_⟩
      rw [List.mem_singleton.mp hb]
      intro hx
      obtain ⟨o, e⟩ := ok1.alive wf D hx
      rw [fresh1 D (Nat.le_refl _)] at e; cases e
  exact codeAny_compStart_list (loop _ rfl) (hself _ _ _ hst' (loop _ rfl))

def vars1 (x : Str) (ns : List Int) : Nat → List (Str × Bd)
  | 0 => []
  | i + 1 => [(x, I (ns.getD i 0))]
theorem vars1_upd {x : Str} {ns : List Int} {i : Nat} : Upd x (I (ns.getD i 0)) (vars1 x ns i) (vars1 x ns (i + 1)) := by
  cases i with
  | zero => exact Upd.new
  | succ i => exact Upd.here
theorem EV.mapInts {elt iter : Expr} {x : Str} {px pos : Pos} {scope : Scope} {cl : List (Str × Addr)} {ns : List Int} {g : Int → Nat} (wf : Wf W C) (hi : EV W C σ iter (L (ns.map PyData.int))) (hsz : ns.length ≤ 1000)
    (hclos : closureFor scope C.env = pure cl) (hcell : ∀ y ∈ scope.names, y.2 ≠ .cell) (hkind : scope.kind = .function)
    (hnames : ∀ y ∈ scope.names, y.2 = .local → scope.names.lookup y.1 = some .local) (hx : scope.names.lookup x = some .local)
    (hcl : ∀ p ∈ C.cells, cl.lookup p.1 = some p.2.1 ∧ ∃ z, p.2.2 = I z)
    (helt : ∀ own cc h₀ s z, Wf W (C.comp scope cl cc h₀ s) → EV W (C.comp scope cl cc h₀ s) ⟨own, [(x, I z)]⟩ elt (I ((g z : Nat) : Int)))
    (hfs : ∀ x, foldedSetIterable iter C.env x = pure x := by intro _; rfl)
    (hlt : ∀ it v, letOwnedTupleGo (.Name x px) it v = pure () := by intro _ _; rfl) :
    EV W C σ (.ListComp elt [⟨.Name x px, iter, [], 0⟩] scope pos) (L (nums (ns.map g))) := .mk fun s ok => by
  rw [eval_ListComp]
  have eg : ns.map g = (List.range ns.length).map (fun i => g (ns.getD i 0)) := by
    apply List.ext_getElem (by simp)
    intro i h1 h2
    simp only [List.length_map] at h1
    simp [h1]
  rw [eg]
  refine wpAny_comprehension_free (use := none) rfl hfs hclos hkind hnames (wpAny_mono (hi.run s ok) (fun v s₁ x1 => ?_) fun _ _ e => e)
  obtain ⟨p, l, bs, rfl, hl, hr, hp, hb⟩ := x1.2.list_inv
  have ok1 := ok.ext x1.1
  have hlen := readsAll_len hr
  rw [List.length_map] at hlen
  have hpl : p < s₁.heap.objs.size := by obtain ⟨o, ho, _⟩ := hl; exact Heap.lt_size ho
  have Wk := Walks.list (prog := W.prog) (w := W.w) wf.hh s₁.heap.objs.size p (Nat.ne_of_lt hpl) l.toArray
  have hsz' : l.toArray.size = ns.length := by simp [hlen]
  rw [hsz'] at Wk
  have hfld : ∀ i (h : Heap), (h.IsListIter s₁.heap.objs.size p i ∧ h.IsList p l.toArray) → ∀ b ∈ [s₁.heap.objs.size], ∃ o fs, h.get? b = some o ∧ o.data = .fields fs := by
    rintro i h ⟨⟨o, h1, h2, h3⟩, _⟩ b hb
    rw [List.mem_singleton.mp hb]
    exact ⟨o, _, h1, h3⟩
  have hwr0 : ∀ b ∈ [s₁.heap.objs.size], s₁.heap.get? b = none := by
    intro b hb; rw [List.mem_singleton.mp hb]; exact new_none
  refine wpAny_pyIter_list hl ?_
  refine comp_mid (St := fun i h => h.IsListIter s₁.heap.objs.size p i ∧ h.IsList p l.toArray) (vars := vars1 x ns) (g := fun i => g (ns.getD i 0)) wf x1.1 ok1 (Ext.push s₁ _) (by show _ ≤ (s₁.heap.push _).objs.size; rw [Heap.size_push]; exact Nat.le_succ _) hsz hcell hkind (fun s Q E h hq => Wk.self 0 s Q E h hq)
    ⟨⟨_, Heap.get?_push_size _ rfl, rfl, rfl⟩, hl.at fun o e => Heap.get?_push_of_some _ e⟩ (fun i h h' st hk => Wk.frame i h h' st fun b hb o e => hk b o ?_ e) rfl hcl ?_ (fun D cc i hi wf' => helt _ _ _ _ _ wf') ?_
  · show b < (s₁.heap.push _).objs.size
    rw [Heap.size_push]
    rcases List.mem_cons.mp hb with rfl | hb
    · exact Nat.lt_succ_self _
    · rw [List.mem_singleton.mp hb]; exact Nat.lt_succ_of_lt hpl
  · intro D cc i s' hin wf' oki hst hcc hDD
    refine Wk.item i s' _ _ hin hst fun v h₁ tk₁ hPv hst₁ hk₁ => ⟨v, rfl, ?_⟩
    have ok1' := oki.wr (tk := tk₁) hwr0 (hfld i _ hst) hk₁
    have hd : (ns.map PyData.int)[i]? = some (.int (ns.getD i 0)) := by simp [hin]
    obtain ⟨u, h1, h2⟩ := readsAll_nth hr hb hd
    have hvu : v = u := by
      have hv' : l[i]? = some v := by simpa using hPv
      rw [h1] at hv'; exact (Option.some.inj hv').symm
    subst hvu
    obtain ⟨t, rfl⟩ := h2.int_inv
    rw [hlt]
    refine wpAny_pure (wpAny_assign_Name (store_ (d := I (ns.getD i 0)) wf' (lookup_relabel_local hx) ok1' (Rd.int _ _) vars1_upd fun s₅ ok5 _ fr => ⟨ok5, ?_⟩))
    have below : ∀ b ∈ [s₁.heap.objs.size, p], b < (s₁.heap.push { cls := .type "list_iterator", data := .fields #[.ref p, .int 0 0] }).objs.size := by
      intro b hb
      rw [Heap.size_push]
      rcases List.mem_cons.mp hb with rfl | hb
      · exact Nat.lt_succ_self _
      · rw [List.mem_singleton.mp hb]; exact Nat.lt_succ_of_lt hpl
    refine Wk.frame _ _ _ hst₁ fun b hb o e => fr.keep b o (Nat.ne_of_lt (Nat.lt_of_lt_of_le (below b hb) hcc)) (fun hm => ?_) e
    have hm' : b = D := by simpa [Sto.X] using hm
    exact absurd hm' (Nat.ne_of_lt (Nat.lt_of_lt_of_le (below b hb) hDD))
  · intro D cc s' oki hst
    exact Wk.done s' _ _ hst fun h₁ tk₁ hk₁ => ⟨rfl, oki.wr hwr0 (hfld _ _ hst) hk₁⟩

def vars2 (xi xv : Str) (l : List Nat) : Nat → List (Str × Bd)
  | 0 => []
  | i + 1 => [(xi, I (i : Int)), (xv, I ((l.getD i 0 : Nat) : Int))]
theorem EV.mapEnum {elt f e : Expr} {xi xv : Str} {pi pv pt cpos pos : Pos} {kk : Nat} {scope : Scope} {cl : List (Str × Addr)} {l : List Nat} {g : Nat → Nat} (wf : Wf W C) (hf : EV W C σ f (.v (.type "enumerate"))) (he : EV W C σ e (L (nums l))) (hsz : l.length ≤ 1000)
    (hclos : closureFor scope C.env = pure cl) (hcell : ∀ y ∈ scope.names, y.2 ≠ .cell) (hkind : scope.kind = .function)
    (hnames : ∀ y ∈ scope.names, y.2 = .local → scope.names.lookup y.1 = some .local) (hxi : scope.names.lookup xi = some .local) (hxv : scope.names.lookup xv = some .local) (hne : xi ≠ xv)
    (hcl : ∀ p ∈ C.cells, cl.lookup p.1 = some p.2.1 ∧ ∃ z, p.2.2 = I z)
    (helt : ∀ own cc h₀ s i, i < l.length → Wf W (C.comp scope cl cc h₀ s) → EV W (C.comp scope cl cc h₀ s) ⟨own, [(xi, I (i : Int)), (xv, I ((l.getD i 0 : Nat) : Int))]⟩ elt (I ((g i : Nat) : Int)))
    (hfs : ∀ x, foldedSetIterable (.Call f [e] [] cpos) C.env x = pure x := by intro _; rfl)
    (he1 : starEach [e] C.env = (false, eval e C.env) :: starEach [] C.env := by rfl)
    (hev : eval (.Call f [e] [] cpos) C.env = (do callWith cpos (← eval f C.env) [] (backTo cpos (starEach [e] C.env)) (backToKw cpos (keywordEach [] C.env))) := by rfl) :
    EV W C σ (.ListComp elt [⟨.Tuple [.Name xi pi, .Name xv pv] kk pt, .Call f [e] [] cpos, [], 0⟩] scope pos) (L (nums ((List.range l.length).map g))) := .mk fun s ok => by
  rw [eval_ListComp]
  refine wpAny_comprehension_free (use := none) rfl hfs hclos hkind hnames (callType1 ok hf he (fun sm v e1 ok hv => ?_) he1 hev)
  obtain ⟨p, vs, bs, rfl, hl, hr, hp, hb⟩ := hv.list_inv
  have hlen := readsAll_len hr
  rw [nums_len] at hlen
  have hpl : p < sm.heap.objs.size := by obtain ⟨o, ho, _⟩ := hl; exact Heap.lt_size ho
  refine call_enumerate_list hl fun h₂ hen hit hsz2 hk₂ => ?_
  refine wpAny_pyIter_enum hen ?_
  have e2 : Ext sm { sm with heap := h₂ } := ⟨hk₂, rfl, rfl⟩
  have hn1 : sm.heap.get? sm.heap.objs.size = none := Heap.get?_none_of_le (Nat.le_refl _)
  have hn2 : sm.heap.get? (sm.heap.objs.size + 1) = none := Heap.get?_none_of_le (Nat.le_succ _)
  have Wk := WalksT.enumerate (prog := W.prog) (w := W.w) (A := C.A) wf.hh (sm.heap.objs.size + 1) sm.heap.objs.size p (Nat.succ_ne_self _) (Nat.ne_of_lt (Nat.lt_succ_of_lt hpl)) (Nat.ne_of_lt hpl) vs.toArray
  have hsz' : vs.toArray.size = l.length := by simp [hlen]
  rw [hsz'] at Wk
  have hst0 : (∃ old, IsEnum h₂ (sm.heap.objs.size + 1) sm.heap.objs.size (0 : Nat) old) ∧ h₂.IsListIter sm.heap.objs.size p 0 ∧ h₂.IsList p vs.toArray := ⟨⟨_, hen⟩, hit, hl.at fun o e => hk₂ _ _ e⟩
  have hb2 : ∀ b ∈ ([sm.heap.objs.size + 1, sm.heap.objs.size, p] : List Addr), b < h₂.objs.size := by
    obtain ⟨⟨old, z1⟩, ⟨o2, z2, _⟩, ⟨o3, z3, _⟩⟩ := id hst0
    intro b hb'
    rcases List.mem_cons.mp hb' with rfl | hb'
    · exact Heap.lt_size z1
    · rcases List.mem_cons.mp hb' with rfl | hb'
      · exact Heap.lt_size z2
      · rw [List.mem_singleton.mp hb']; exact Heap.lt_size z3
  have hfld : ∀ (i : Nat) (h : Heap), ((∃ old, IsEnum h (sm.heap.objs.size + 1) sm.heap.objs.size i old) ∧ h.IsListIter sm.heap.objs.size p i ∧ h.IsList p vs.toArray) → ∀ b ∈ [sm.heap.objs.size + 1, sm.heap.objs.size], ∃ o fs, h.get? b = some o ∧ o.data = .fields fs := by
    rintro i h ⟨⟨old, he'⟩, ⟨o', h1, h2, h3⟩, _⟩ b hb'
    rcases List.mem_cons.mp hb' with rfl | hb'
    · exact ⟨_, _, he', rfl⟩
    · rw [List.mem_singleton.mp hb']; exact ⟨_, _, h1, h3⟩
  have hwr : ∀ b ∈ [sm.heap.objs.size + 1, sm.heap.objs.size], sm.heap.get? b = none := by
    intro b hb'
    rcases List.mem_cons.mp hb' with rfl | hb'
    · exact hn2
    · rw [List.mem_singleton.mp hb']; exact hn1
  refine comp_mid (St := fun (i : Nat) h => (∃ old, IsEnum h (sm.heap.objs.size + 1) sm.heap.objs.size i old) ∧ h.IsListIter sm.heap.objs.size p i ∧ h.IsList p vs.toArray) (vars := vars2 xi xv l) (g := g) wf e1 ok e2 (by show _ ≤ h₂.objs.size; exact Nat.le_of_lt (hb2 _ (by simp))) hsz hcell hkind (fun s Q E h hq => Wk.self 0 s Q E h hq)
    hst0 (fun i h h' st hk => Wk.frame i h h' st fun b hb o e => hk b o (hb2 b hb) e) rfl hcl ?_ (fun D cc i hi wf' => helt _ _ _ _ i hi wf') ?_
  · intro D cc i s' hin wf' oki hst hcc hDD
    refine Wk.item i s' _ _ hin hst fun Tt vals h₁ tk₁ hPt _ hT hMid hk₁ => ⟨_, rfl, ?_⟩
    obtain ⟨t, x, hx, rfl⟩ := hPt
    have ok1 := oki.wr (tk := tk₁) hwr (hfld i _ hst) hk₁
    have hfld1 : ∀ b ∈ [sm.heap.objs.size + 1, sm.heap.objs.size], ∃ o fs, h₁.get? b = some o ∧ o.data = .fields fs := by
      obtain ⟨⟨y, he'⟩, ⟨o', g1, g2, g3⟩, _⟩ := id hMid
      intro b hb'
      rcases List.mem_cons.mp hb' with rfl | hb'
      · exact ⟨_, _, he', rfl⟩
      · rw [List.mem_singleton.mp hb']; exact ⟨_, _, g1, g3⟩
    refine Wk.go _ kk pt i Tt _ _ _ hMid fun h₃ hst₃ hk₃ => ?_
    have ok3 := ok1.wr (tk := tk₁) hwr hfld1 hk₃
    have hT3 : h₃.IsTuple Tt #[.int i t, x] := hT.at fun o e => hk₃ _ o (Wk.apart i Tt h₁ hMid) e
    refine wpAny_assign_Tuple wf.hh hT3 rfl rfl fun h₄ hx₄ => ?_
    have e4 : Ext { s' with heap := h₃, toks := tk₁ } { s' with heap := h₄, toks := tk₁ } := Ext.of_extBut (s := { s' with heap := h₃, toks := tk₁ }) hx₄
    have ok4 := ok3.ext e4
    have hd : (nums l)[i]? = some (.int ((l.getD i 0 : Nat) : Int)) := by simp [nums, hin]
    obtain ⟨u, h1, h2⟩ := readsAll_nth hr hb hd
    have hxu : x = u := by
      have hx' : vs[i]? = some x := by simpa using hx
      rw [h1] at hx'; exact (Option.some.inj hx').symm
    subst hxu
    obtain ⟨t2, rfl⟩ := h2.int_inv
    obtain ⟨vm, a1, a2⟩ : ∃ vm, Upd xi (I (i : Int)) (vars2 xi xv l i) vm ∧ Upd xv (I ((l.getD i 0 : Nat) : Int)) vm (vars2 xi xv l (i + 1)) := by
      cases i with
      | zero => exact ⟨_, Upd.new, Upd.next hne Upd.new⟩
      | succ i => exact ⟨_, Upd.here, Upd.next hne Upd.here⟩
    have below : ∀ b ∈ ([sm.heap.objs.size + 1, sm.heap.objs.size, p] : List Addr), b ≠ cc ∧ b ≠ D := fun b hb => ⟨Nat.ne_of_lt (Nat.lt_of_lt_of_le (hb2 b hb) hcc), Nat.ne_of_lt (Nat.lt_of_lt_of_le (hb2 b hb) hDD)⟩
    have hst4 := Wk.frame _ _ _ hst₃ fun b hb o e => e4.keep b o e
    show wpAny W.M C.A (do holding [Value.int ((l.getD i 0 : Nat) : Int) t2] (PySem.assign (.Name xi pi) (compEnvC scope cl cc C.env) (.int i t)); do holding [] (PySem.assign (.Name xv pv) (compEnvC scope cl cc C.env) (Value.int ((l.getD i 0 : Nat) : Int) t2)); pure ()) _ _ _
    refine wpAny_bind (wpAny_holding (wpAny_assign_Name (wpAny_mono (two_stores (u1 := Value.int (i : Int) t) (u2 := Value.int ((l.getD i 0 : Nat) : Int) t2) (d1 := I (i : Int)) (d2 := I ((l.getD i 0 : Nat) : Int)) wf' (lookup_relabel_local hxi) (lookup_relabel_local hxv) ok4 (Rd.int _ _) (Rd.int _ _) a1 a2 (Q := fun _ s₅ => Ok (C.comp scope cl cc sm.heap { sm with heap := h₂ }) ⟨own_ D g i, vars2 xi xv l (i + 1)⟩ s₅ ∧ Fram (C.comp scope cl cc sm.heap { sm with heap := h₂ }) ⟨own_ D g i, vars2 xi xv l i⟩ { s' with heap := h₄, toks := tk₁ } ⟨own_ D g i, vars2 xi xv l (i + 1)⟩ s₅)
      fun s₅ ok5 fr5 => ⟨ok5, fr5⟩) (fun _ s₅ h₅ => ?_) fun _ _ e => e.elim)))
    refine wpAny_bind (wpAny_holding (wpAny_assign_Name (wpAny_mono h₅ (fun _ s₆ h₆ => ?_) fun _ _ e => e.elim)))
    obtain ⟨ok6, fr6⟩ := h₆
    refine wpAny_pure ⟨ok6, ?_⟩
    refine Wk.frame _ _ _ hst4 fun b hb o e => fr6.keep b o (below b hb).1 (fun hm => ?_) e
    have hm' : b = D := by simpa [Sto.X] using hm
    exact (below b hb).2 hm'
  · intro D cc s' oki hst
    exact Wk.done s' _ _ hst fun h₁ tk₁ hk₁ => ⟨rfl, oki.wr hwr (hfld _ _ hst) hk₁⟩
end
end
section
theorem nums_ints {h : Heap} : ∀ {l : List Nat} {ws : List Value} {bs : List Addr}, ReadsAll h ws (nums l) bs → IntsAre ws (l.map fun (n : Nat) => (n : Int))
  | [], _, _, .nil => .nil
  | a :: l, _, _, .cons h1 h2 => by
    obtain ⟨t, rfl, _⟩ := reads_int_inv h1
    exact .cons _ _ (nums_ints h2)
theorem sum_cast (l : List Nat) : (l.map fun (n : Nat) => (n : Int)).sum = ((l.sum : Nat) : Int) := by
  induction l with
  | nil => rfl
  | cons a l ih => simp [ih]
section
variable {W : Wd} {C : Cx} {σ : Sto} {pos : Pos}
theorem EV.nint (H : Wok W) (wf : Wf W C) (hk : C.env.kindOf "int" = some .globalImplicit) : EV W C σ (.Name "int" pos) (.v (.type "int")) := EV.blt wf hk boot_int (H.free _ (by decide))
theorem EV.nsum (H : Wok W) (wf : Wf W C) (hk : C.env.kindOf "sum" = some .globalImplicit) : EV W C σ (.Name "sum" pos) (.v (.builtin "sum")) := EV.blt wf hk boot_sum (H.free _ (by decide))
theorem EV.callInt {f e : Expr} {i : Int} (h1 : EV W C σ f (.v (.type "int"))) (h2 : EV W C σ e (I i))
    (he1 : starEach [e] C.env = (false, eval e C.env) :: starEach [] C.env := by rfl)
    (he : eval (.Call f [e] [] pos) C.env = (do callWith pos (← eval f C.env) [] (backTo pos (starEach [e] C.env)) (backToKw pos (keywordEach [] C.env))) := by rfl) :
    EV W C σ (.Call f [e] [] pos) (I i) := .mk fun s ok =>
  callType1 ok h1 h2 (fun sm v e1 ok hv => by
    obtain ⟨t, rfl⟩ := hv.int_inv
    exact call_int_int ⟨e1, Rd.int _ _⟩) he1 he
theorem EV.sum {f e : Expr} {l : List Nat} (wf : Wf W C) (h1 : EV W C σ f (.v (.builtin "sum"))) (h2 : EV W C σ e (L (nums l)))
    (he1 : starEach [e] C.env = (false, eval e C.env) :: starEach [] C.env := by rfl)
    (he : eval (.Call f [e] [] pos) C.env = (do callWith pos (← eval f C.env) [] (backTo pos (starEach [e] C.env)) (backToKw pos (keywordEach [] C.env))) := by rfl) :
    EV W C σ (.Call f [e] [] pos) (I ((l.sum : Nat) : Int)) := EV.callB1 h1 h2 (fun s a ok ha => by
    obtain ⟨p, vs, bs, rfl, hl, hr, _, _⟩ := ha.list_inv
    have hi := nums_ints hr
    obtain ⟨xs, hxs⟩ := hi.allInts.items
    have hn : (numsOf vs.toArray.toList).sum = ((l.sum : Nat) : Int) := by
      rw [show vs.toArray.toList = vs from rfl, hi.numsOf, sum_cast]
    rw [hxs] at hl hn
    refine sum_intListG wf.hh hl fun h' tk t' hk => ⟨⟨hk, rfl, rfl⟩, ?_⟩
    rw [nums_intItems] at hn
    rw [preSum_eq, List.take_of_length_le (by simp), hn]
    exact Rd.int _ _) he1 he
end
end
section
theorem canLay_nums : ∀ l : List Nat, PyData.canLayAll0 (nums l) = true
  | [] => rfl
  | a :: l => by show (PyData.canLay0 (.int _) && PyData.canLayAll0 (nums l)) = true; rw [canLay_nums l]; rfl
theorem depth_nums : ∀ l : List Nat, PyData.depthAll (nums l) = 0
  | [] => rfl
  | a :: l => by show max (PyData.depth (.int _)) (PyData.depthAll (nums l)) = 0; rw [depth_nums l]; rfl
theorem shaped_FQ (B : Nat) (p : Int) (q : Nat) : SeqAt.shaped (FQ B p q) = true := by
  have h1 : PyData.canLay0 (FQ B p q) = true := by
    show ((true && (PyData.canLayAll0 (nums (limbs B p.natAbs)) && true)) && (PyData.canLayAll0 (nums (limbs B q)) && true)) = true
    rw [canLay_nums, canLay_nums]; rfl
  have h2 : PyData.depth (FQ B p q) ≤ 64 := by
    show max (max 0 (max (PyData.depthAll (nums (limbs B p.natAbs)) + 1) 0) + 1) (max (PyData.depthAll (nums (limbs B q)) + 1) 0) + 1 ≤ 64
    rw [depth_nums, depth_nums]; decide
  unfold SeqAt.shaped
  rw [h1, decide_eq_true h2]; rfl
theorem noMix_nums : ∀ l : List Nat, SeqAt.noMixAll (nums l) (nums l) = true
  | [] => by unfold nums; simp [SeqAt.noMixAll]
  | a :: l => by
    show SeqAt.noMixAll (PyData.int a :: nums l) (PyData.int a :: nums l) = true
    rw [SeqAt.noMixAll, noMix_nums l]; simp [SeqAt.noMix]
theorem noMix_FQ (B : Nat) (p : Int) (q : Nat) : SeqAt.noMix (FQ B p q) (FQ B p q) = true := by
  simp [SeqAt.noMix, SeqAt.noMixAll, noMix_nums]
section
variable {W : Wd} {C : Cx} {σ : Sto} {pos : Pos}
theorem TV.neFQ {l r : Expr} {B : Nat} {p : Int} {q : Nat} (wf : Wf W C) (h1 : EV W C σ l (.d (FQ B p q))) (h2 : EV W C σ r (.d (FQ B p q)))
    (hm : behindInMarks .NotEq r = false := by with_unfolding_all rfl) : TV W C σ (.Compare l [.NotEq] [r] pos) false :=
  TV.conv (TV.neData wf h1 h2 (shaped_FQ ..) (shaped_FQ ..) (noMix_FQ ..) hm) (by rw [same_refl]; rfl)
theorem EV.eqFQ {l r : Expr} {B : Nat} {p : Int} {q : Nat} (wf : Wf W C) (h1 : EV W C σ l (.d (FQ B p q))) (h2 : EV W C σ r (.d (FQ B p q)))
    (hm : behindInMarks .Eq r = false := by with_unfolding_all rfl) : EV W C σ (.Compare l [.Eq] [r] pos) (Mine.B true) :=
  EV.conv (EV.eqData wf h1 h2 (shaped_FQ ..) (shaped_FQ ..) (noMix_FQ ..) hm) (by rw [same_refl])
theorem TV.nePair {l r : Expr} {a b : Int} (wf : Wf W C) (h1 : EV W C σ l (T [.int a, .int b])) (h2 : EV W C σ r (T [.int a, .int b]))
    (hm : behindInMarks .NotEq r = false := by with_unfolding_all rfl) : TV W C σ (.Compare l [.NotEq] [r] pos) false :=
  TV.conv (TV.neData wf h1 h2 rfl rfl (by simp [SeqAt.noMix, SeqAt.noMixAll]) hm) (by rw [same_refl]; rfl)
end
end
section
local macro_rules | `(tactic| walk_at "evname") => `(tactic| first
  | exact EV.cell (by assumption) (by rfl) List.mem_cons_self
  | ((with_reducible show EV _ _ _ (PySem.Expr.Name (Str.ofString "int") _) _); exact EV.nint (by assumption) (by assumption) (by rfl))
  | ((with_reducible show EV _ _ _ (PySem.Expr.Name (Str.ofString "sum") _) _); exact EV.nsum (by assumption) (by assumption) (by rfl))
  | exact EV.loc (by assumption) (by rfl) (by walk_at "mem")
  | ((with_reducible show EV _ _ _ (PySem.Expr.Name (Str.ofString "len") _) _); exact EV.nlen (by assumption) (by assumption) (by rfl))
  | ((with_reducible show EV _ _ _ (PySem.Expr.Name (Str.ofString "abs") _) _); exact EV.nabs (by assumption) (by assumption) (by rfl))
  | ((with_reducible show EV _ _ _ (PySem.Expr.Name (Str.ofString "enumerate") _) _); exact EV.nenum (by assumption) (by assumption) (by rfl))
  | exact EV.fn (by assumption) (by rfl) (Wok.fn (by assumption) _ (by decide)))
local macro_rules | `(tactic| walk_at "ev") => `(tactic| ((with_reducible show EV _ _ _ (PySem.Expr.Subscript (PySem.Expr.Name (Str.ofString "due") _) _ _) _); exact EV.item (by walk_at "ev") EV.int (by decide) rfl))
theorem CV_FQ (B : Nat) (a : Int) (k : Nat) : CV B (a, (k : Int)) = FQ B a k := by
  show PyData.tuple [SG B a, NL B ((k : Int)).natAbs] = _
  rw [Int.natAbs_natCast]
def Cx.lawOf (nm : Str) (scope : Scope) (A : Around) (L fa : Addr) (cd : Value) (h₀ : Heap) (gens : Array GenState) (os : OsState) (cells : List (Str × Addr × Bd)) : Cx := ⟨A, envOfC nm scope L fa cd, h₀, [], cells, 12, gens, os⟩
structure LawFacts (w : Nat) (p : Int) (q N : Nat) : Prop where
  hw : 1 ≤ w ∧ w ≤ 10
  hw9 : 2 ^ 9 ≤ 2 ^ w
  hg : Nat.gcd p.natAbs q = 1
  hp : p.natAbs ≤ 200
  hq : 0 < q ∧ q ≤ 120
  hN : 0 < N ∧ N ≤ 30

theorem nr_all {w : Nat} {p : Int} {q N : Nat} (hw9 : 2 ^ 9 ≤ 2 ^ w) (hg : Nat.gcd p.natAbs q = 1) (hp : p.natAbs ≤ 200) (hq : 0 < q ∧ q ≤ 120) (hN : 0 < N) : (q ≤ N ∧ walkF p q N = (p, q)) ∨ NrOk w p q N (walkF p q N) := by
  have F := cv_facts hq.1 hg hp hq.2
  by_cases h : q ≤ N
  · left; exact ⟨h, by unfold walkF; rw [if_pos h]⟩
  · right; exact nr_ok hg hN (by omega) hp hq.2 hw9 F.ts F.cs (by have := F.ln; omega)

theorem law_end {W : Wd} (H : Wok W) {A : Around} {L fa : Addr} {cd : Value} {h₀ : Heap} {gens : Array GenState} {os : OsState} {w : Nat} {p : Int} {q N : Nat} (F : LawFacts w p q N) {own : Option (Addr × List PyData)} {at_ : Nat} {scr : Bd} {pod : Bd} {tr : Bd} {cc : Int × Int}
    (hat : (convs (cf p q) 0 1 1 0)[at_]? = some cc) (hor : 1 ≤ at_ ∨ (convs (cf p q) 0 1 1 0).length = 1)
    (wf : Wf W (Cx.lawOf (fnItem 50).name (fnItem 50).scope A L fa cd h₀ gens os [("w", L + 1, I (w : Int))])) :
    SX W (Cx.lawOf (fnItem 50).name (fnItem 50).scope A L fa cd h₀ gens os [("w", L + 1, I (w : Int))])
      ⟨own, [("script", scr), ("pod", pod), ("x", T [.int p, .int (q : Int)]), ("bound", I (N : Int)), ("turned", tr), ("due", Mine.L [.tuple [.int (walkF p q N).1, .int ((walkF p q N).2 : Int)], .tuple [.int (walkF (-p) q N).1, .int ((walkF (-p) q N).2 : Int)]]), ("told", .d (FQ (2 ^ w) p q)), ("some", Mine.L (cvs (2 ^ w) (convs (cf p q) 0 1 1 0))), ("at", I (at_ : Int))]⟩
      ((fnItem 50).body.drop 12) (fun x => x = .ret (.bool true)) := by
  revert wf
  conv in (occs := *) fnItem 50 => all_goals whnf
  intro wf
  dsimp only [List.drop] at wf ⊢
  have F2 := cv_facts F.hq.1 F.hg F.hp F.hq.2
  have good := F2.good at_ cc hat hor
  have hcs := F2.cs
  obtain ⟨hwa, hwb⟩ := F.hw
  have hw : 1 ≤ w ∧ w ≤ 20 := ⟨hwa, by omega⟩
  have hw9 := F.hw9
  have hB : 2 ≤ 2 ^ w := two_le hwa
  obtain ⟨c1, kz⟩ := cc
  obtain ⟨g1, g2, g3, g4⟩ := good
  obtain ⟨K, rfl⟩ := Int.eq_ofNat_of_zero_le (show 0 ≤ kz by have : (1 : Int) ≤ kz := g2; omega)
  have g1 : c1.natAbs ≤ p.natAbs + 1 := g1
  have g2 : (1 : Int) ≤ (K : Int) := g2
  have g3 : (K : Int) ≤ (q : Int) := g3
  have g4 : walkF p q K = (c1, K) := g4
  have hq := F.hq
  have hp := F.hp
  have hN := F.hN
  have hlenc := F2.ln
  have hclen : (convs (cf p q) 0 1 1 0).length ≤ 200 := by rw [convs_len]; exact hlenc
  generalize hCC : convs (cf p q) 0 1 1 0 = CC at *
  have hatlt : at_ < CC.length := (List.getElem?_eq_some_iff.mp hat).1
  have hat2 : (cvs (2 ^ w) CC)[(at_ : Int).toNat]? = some (FQ (2 ^ w) c1 K) := by
    rw [Int.toNat_natCast, ← CV_FQ]; simp [cvs, hat]
  have hKl : (limbs (2 ^ w) K).length ≤ 60 := len_limbs_le hB (by omega)
  have h1l := one_limb hB (n := K) (by omega) (by omega)
  have hKl2 : (limbs (2 ^ w) K).length ≤ 1 := by rw [h1l]; exact Nat.le_refl _
  have hrK := nr_all (N := K) hw9 F.hg hp hq (by omega)
  have top1 := walk_top (N := N) F.hg hN.1
  have bnd := walk_bound (N := N) F.hg hN.1
  have best := walk_best (N := K) (r := (walkF p q N).1) (t := (walkF p q N).2) F.hg (by omega) (by rcases bnd with h | ⟨_, h⟩ <;> first | omega | (rw [h]; exact hq.1))
  refine SX.cons (S1.assign (d := T [.int c1, .int (K : Int)]) wf rfl (EV.conv (EV.call wf (by walk_at "ev") (EVs.cons (by walk_at "ev") (EVs.cons (EV.conv (EV.sum wf (by walk_at "ev")
    (EV.mapEnum (l := limbs (2 ^ w) K) (g := fun i => (limbs (2 ^ w) K).getD i 0 * (2 ^ w) ^ i) (cl := [("w", L + 1)]) wf (by walk_at "ev") (EV.itemT (EV.item (by walk_at "ev") (by walk_at "ev") ⟨by omega, by omega⟩ hat2) EV.int (by decide) rfl) (by omega)
      (by rfl) (by decide) rfl (by decide) (by decide) (by decide) (by decide) ?hcl ?helt)) ?hsum) EVs.nil)) (c__law_walk (p := p) (q := q) (N := K) H (by omega) ⟨by omega, by omega⟩ ⟨by omega, by omega⟩) (by exact Nat.le_of_ble_eq_true rfl) (Wok.alive H _ (by decide))) ?hw) (by walk_at "upd") ?_)
  case hcl =>
    intro pp hpp
    rw [List.mem_singleton.mp hpp]
    exact ⟨rfl, _, rfl⟩
  case helt =>
    intro own2 cc2 h2 s2 i hi wf2
    have hi0 : i = 0 := by omega
    subst hi0
    have hgd : (limbs (2 ^ w) K).getD 0 0 = K := by rw [h1l]; rfl
    refine EV.conv (EV.mul (EV.loc wf2 (by rfl) (by walk_at "mem")) (EV.pow EV.int (EV.mul (EV.cell wf2 (by rfl) List.mem_cons_self) (EV.loc wf2 (by rfl) (by walk_at "mem")) (by omega)) ⟨by simp, by simp, by decide⟩) (by rw [hgd]; omega)) ?_
    rw [hgd]
    simp
  case hsum =>
    rw [sum_val, val_limbs hB]
  case hw =>
    show Bd.d (.tuple [.int (walkF p q K).1, .int ((walkF p q K).2 : Int)]) = _
    rw [g4]
  refine SX.cons (S1.if_ (b := false) (TV.conv (TV.or_ (a := false) (b := false) (TV.neFQ (B := 2 ^ w) (p := c1) (q := K) wf (EV.item (by walk_at "ev") (by walk_at "ev") ⟨by omega, by omega⟩ hat2) (by walk_at "ev"))
    (fun _ => TV.neFQ (B := 2 ^ w) (p := c1) (q := K) wf (EV.conv (EV.call wf (by walk_at "ev") (EVs.cons (by walk_at "ev") (EVs.cons (EV.itemT (EV.item (by walk_at "ev") (by walk_at "ev") ⟨by omega, by omega⟩ hat2) EV.int (by decide) rfl) (by walk_at "evs"))) (c_nearest H hw (by omega) (by omega) hrK) (by exact Nat.le_of_ble_eq_true rfl) (Wok.alive H _ (by decide))) (by rw [g4]))
      (EV.item (by walk_at "ev") (by walk_at "ev") ⟨by omega, by omega⟩ hat2))) rfl) (fun h => nomatch h) (fun _ => SX.nil ?_))
  generalize hr1 : walkF p q N = r1 at *
  obtain ⟨a1, t1⟩ := r1
  dsimp only at top1 best bnd ⊢
  rw [g4] at best
  dsimp only at best
  have ht1 : t1 ≤ 120 := by
    rcases bnd with h | ⟨_, h⟩
    · omega
    · injection h with _ h; omega
  have htK : N ≤ K → t1 ≤ K := by
    intro hNK
    rcases bnd with h | ⟨hh, h⟩
    · omega
    · injection h with _ h; omega
  have m1 : (p * (K : Int)).natAbs ≤ 200 * 120 := by rw [Int.natAbs_mul, Int.natAbs_natCast]; exact Nat.mul_le_mul hp (by omega)
  have m2 : (c1 * (q : Int)).natAbs ≤ 201 * 120 := by rw [Int.natAbs_mul, Int.natAbs_natCast]; exact Nat.mul_le_mul (by omega) hq.2
  have m3 : (p * (t1 : Int)).natAbs ≤ 200 * 120 := by rw [Int.natAbs_mul, Int.natAbs_natCast]; exact Nat.mul_le_mul hp ht1
  have m4 : (a1 * (q : Int)).natAbs ≤ 201 * 120 := by rw [Int.natAbs_mul, Int.natAbs_natCast]; exact Nat.mul_le_mul (by omega) hq.2
  refine SX.cons (S1.if_ (b := false) (TV.conv (TV.and_ (by walk_at "tv") (fun _ => by walk_at "tv")) ?hfin) (fun h => nomatch h) (fun _ => SX.nil ?_))
  case hfin =>
    by_cases hNK : N ≤ K
    · have hb := best (htK hNK)
      rw [Bool.and_eq_false_iff]
      right
      show decide _ = false
      rw [decide_eq_false_iff_not, ← Int.natCast_mul, ← Int.natCast_mul]
      omega
    · rw [Bool.and_eq_false_iff]
      left
      show decide _ = false
      rw [decide_eq_false_iff_not]
      omega
  refine SX.cons (S1.ret (EV.eqFQ wf (by walk_at "ev") (by walk_at "ev")) rfl)
end
section
local macro_rules | `(tactic| walk_at "evname") => `(tactic| first
  | exact EV.cell (by assumption) (by rfl) List.mem_cons_self
  | exact EV.loc (by assumption) (by rfl) (by walk_at "mem")
  | ((with_reducible show EV _ _ _ (PySem.Expr.Name (Str.ofString "len") _) _); exact EV.nlen (by assumption) (by assumption) (by rfl))
  | exact EV.fn (by assumption) (by rfl) (Wok.fn (by assumption) _ (by decide)))
local macro_rules | `(tactic| walk_at "ev") => `(tactic| ((with_reducible show EV _ _ _ (PySem.Expr.Subscript (PySem.Expr.Name (Str.ofString "due") _) _ _) _); exact EV.item (by walk_at "ev") EV.int (by decide) rfl))
theorem seedF_lt {l : List Nat} {k m : Nat} (h : 0 < m) : seedF l k m < m := by
  unfold seedF; split <;> exact Nat.mod_lt _ h
theorem law_mid {W : Wd} (H : Wok W) {A : Around} {L fa : Addr} {cd : Value} {h₀ : Heap} {gens : Array GenState} {os : OsState} {w : Nat} {p : Int} {q N : Nat} (F : LawFacts w p q N) {a : Addr} {l : List Nat} (hl : l.length ≤ 1000) {scr : Bd}
    (hp0 : p = ((seedF l 1 400 : Int) - 200) / ((Nat.gcd ((seedF l 1 400 : Int) - 200).natAbs (1 + seedF l 2 120) : Nat) : Int)) (hq0 : q = (1 + seedF l 2 120) / Nat.gcd ((seedF l 1 400 : Int) - 200).natAbs (1 + seedF l 2 120)) (hN0 : N = 1 + seedF l 3 30)
    (wf : Wf W (Cx.lawOf (fnItem 50).name (fnItem 50).scope A L fa cd h₀ gens os [("w", L + 1, I (w : Int))])) :
    SX W (Cx.lawOf (fnItem 50).name (fnItem 50).scope A L fa cd h₀ gens os [("w", L + 1, I (w : Int))])
      ⟨some (a, [.int ((1 : Nat) : Int), .list (nums l)]), [("script", scr), ("pod", .v (.ref a))]⟩
      ((fnItem 50).body.drop 2) (fun x => x = .ret (.bool true)) := by
  have fin := fun (own : Option (Addr × List PyData)) (at_ : Nat) (scr pod tr : Bd) (cc : Int × Int) (hat : (convs (cf p q) 0 1 1 0)[at_]? = some cc) (hor : 1 ≤ at_ ∨ (convs (cf p q) 0 1 1 0).length = 1) => law_end H F (own := own) (scr := scr) (pod := pod) (tr := tr) hat hor wf
  revert wf fin
  conv in (occs := *) fnItem 50 => all_goals whnf
  intro wf fin
  dsimp only [List.drop] at wf fin ⊢
  have F2 := cv_facts F.hq.1 F.hg F.hp F.hq.2
  obtain ⟨hwa, hwb⟩ := F.hw
  have hw : 1 ≤ w ∧ w ≤ 20 := ⟨hwa, by omega⟩
  have hw9 := F.hw9
  have hB : 2 ≤ 2 ^ w := two_le hwa
  have hq := F.hq
  have hp := F.hp
  have hN := F.hN
  have hts := F2.ts
  have hcs := F2.cs
  have hln := F2.ln
  have b1 := seedF_lt (l := l) (k := 1) (m := 400) (by decide)
  have b2 := seedF_lt (l := l) (k := 2) (m := 120) (by decide)
  have hgn : Nat.gcd (-p).natAbs q = 1 := by rw [Int.natAbs_neg]; exact F.hg
  have hpn : (-p).natAbs ≤ 200 := by rw [Int.natAbs_neg]; exact hp
  have hleast : Con W 1 "_law_least" [I ((seedF l 1 400 : Int) - 200), I ((1 + seedF l 2 120 : Nat) : Int)] (.tuple [.int p, .int (q : Int)]) := by
    rw [hp0, hq0]; exact c__law_least H ⟨by omega, by omega⟩
  have hfa : ∃ o, h₀.get? (W.fa "_law_least") = some o := by
    obtain ⟨o, fd, h, _⟩ := H.alive "_law_least" (by decide) h₀ wf.at_
    exact ⟨o, h⟩
  refine SX.cons (S1.assignP2 (d := .tuple [.int p, .int (q : Int)]) wf rfl (by walk_at "ev")
    (EP.subR (EP.seed (k := 1) (many := 400) H wf (by exact Nat.le_of_ble_eq_true rfl) (by decide) hl (by walk_at "ev") (by walk_at "evs")) EV.int)
    (EP.conv (EP.addL EV.int (EP.seed (k := 2) (many := 120) H wf (by exact Nat.le_of_ble_eq_true rfl) (by decide) hl (by walk_at "ev") (by walk_at "evs"))) (by rw [Int.natCast_add]; rfl))
    hleast (by exact Nat.le_of_ble_eq_true rfl) (Wok.alive H _ (by decide)) hfa rfl rfl (by walk_at "upd") ?_)
  refine SX.cons (S1.assignP (a := (N : Int)) wf rfl (EP.conv (EP.addL EV.int (EP.seed (k := 3) (many := 30) H wf (by exact Nat.le_of_ble_eq_true rfl) (by decide) hl (by walk_at "ev") (by walk_at "evs"))) (by rw [hN0, Int.natCast_add]; rfl)) (by walk_at "upd") ?_)
  refine SX.cons (S1.assign (d := T [.int (-p), .int (q : Int)]) wf rfl (EV.conv (by walk_at "ev") (by rw [Int.zero_sub])) (by walk_at "upd") ?_)
  refine SX.cons (S1.unp2s (x := "told") (y := "due") (d1 := FQ (2 ^ w) p q) (d2 := .list [.tuple [.int (walkF p q N).1, .int ((walkF p q N).2 : Int)], .tuple [.int (walkF (-p) q N).1, .int ((walkF (-p) q N).2 : Int)]]) wf (by walk_at "ev") rfl rfl (by walk_at "upd") (by walk_at "upd") ?_)
  have hr1 := nr_all (N := N) hw9 F.hg hp hq hN.1
  have hr2 := nr_all (N := N) hw9 hgn hpn hq hN.1
  have top1 := walk_top (N := N) F.hg hN.1
  have top2 := walk_top (N := N) hgn hN.1
  have bnd : ∀ p' : Int, Nat.gcd p'.natAbs q = 1 → (walkF p' q N).2 ≤ 120 := fun p' h => by
    rcases walk_bound (N := N) h hN.1 with h | ⟨_, h⟩
    · omega
    · rw [h]; exact hq.2
  have bnd1 := bnd p F.hg
  have bnd2 := bnd (-p) hgn
  refine SX.cons (S1.if_ (b := false) (TV.neFQ (B := 2 ^ w) (p := (walkF p q N).1) (q := (walkF p q N).2) wf (by walk_at "ev") (by walk_at "ev")) (fun h => nomatch h) (fun _ => SX.nil ?_))
  refine SX.cons (S1.if_ (b := false) (TV.neFQ (B := 2 ^ w) (p := (walkF (-p) q N).1) (q := (walkF (-p) q N).2) wf (by walk_at "ev") (by walk_at "ev")) (fun h => nomatch h) (fun _ => SX.nil ?_))
  refine SX.cons (S1.if_ (b := false) (TV.conv (TV.and_ (b := false) (by walk_at "tv") (fun hc => TV.nePair (a := (walkF (-p) q N).1) (b := ((walkF (-p) q N).2 : Int)) wf (by walk_at "ev") (EV.conv (by walk_at "ev") ?h9))) (Bool.and_false _)) (fun h => nomatch h) (fun _ => SX.nil ?_))
  case h9 =>
    have hcond : 1 < N ∨ q ≠ 2 := by
      rcases Bool.or_eq_true_iff.mp hc with h | h
      · left
        have h : (N : Int) > 1 := of_decide_eq_true h
        omega
      · right
        intro hq2
        subst hq2
        exact absurd h (by decide)
    rw [walkF_neg F.hg hN.1 hcond]
    show T [.int (0 - (walkF p q N).1), .int ((walkF p q N).2 : Int)] = _
    rw [Int.zero_sub]
  have hcl : (convs (cf p q) 0 1 1 0).length ≤ 200 := by rw [convs_len]; exact hln
  refine SX.cons (S1.assign (d := Mine.L (cvs (2 ^ w) (convs (cf p q) 0 1 1 0))) wf rfl (by walk_at "ev") (by walk_at "upd") ?_)
  have hlast := F2.last
  generalize hCC : convs (cf p q) 0 1 1 0 = CC at *
  have hpos : 0 < CC.length := by
    cases CC with
    | nil => cases hlast
    | cons x r => simp
  have hne : (cvs (2 ^ w) CC)[((-1 : Int) + ((cvs (2 ^ w) CC).length : Nat)).toNat]? = some (FQ (2 ^ w) p q) := by
    have e : ((-1 : Int) + ((cvs (2 ^ w) CC).length : Nat)).toNat = CC.length - 1 := by rw [cvs_len]; omega
    rw [e, ← CV_FQ]
    rw [List.getLast?_eq_getElem?] at hlast
    simp [cvs, hlast]
  refine SX.cons (S1.if_ (b := false) (TV.neFQ (B := 2 ^ w) (p := p) (q := q) wf (EV.itemNeg (i := -1) (by walk_at "ev") (EV.neg EV.int) ⟨by decide, by rw [cvs_len]; omega, by decide⟩ hne) (by walk_at "ev")) (fun h => nomatch h) (fun _ => SX.nil ?_))
  by_cases hmany : 1 < CC.length
  · have hs4 := seedF_lt (l := l) (k := 4) (m := CC.length - 1) (by omega)
    have hlt : 1 + seedF l 4 (CC.length - 1) < CC.length := by omega
    refine SX.cons (S1.assignP (a := ((1 + seedF l 4 (CC.length - 1) : Nat) : Int)) wf rfl (EP.iteT (TV.conv (TV.cmpInt (EV.len (by walk_at "ev") (by walk_at "ev") (by rw [cvs_len]; omega)) EV.int) (by show decide _ = true; rw [decide_eq_true_eq, cvs_len]; omega))
      (EP.conv (EP.addL EV.int (EP.seed (k := 4) (many := CC.length - 1) H wf (by exact Nat.le_of_ble_eq_true rfl) (by omega) hl (by walk_at "ev")
        (EVs.cons (by walk_at "ev") (EVs.cons (EV.conv (EV.sub (EV.len (by walk_at "ev") (by walk_at "ev") (by rw [cvs_len]; omega)) EV.int) (by rw [cvs_len]; show Bd.d (.int _) = Bd.d (.int _); congr 2; omega)) EVs.nil)))) (by rw [Int.natCast_add]; rfl))) (by walk_at "upd") ?_)
    exact fin _ (1 + seedF l 4 (CC.length - 1)) _ _ _ (CC[1 + seedF l 4 (CC.length - 1)]) (List.getElem?_eq_getElem hlt) (.inl (by omega))
  · refine SX.cons (S1.assign (d := I ((0 : Nat) : Int)) wf rfl (EV.ite (c := false) (TV.conv (TV.cmpInt (EV.len (by walk_at "ev") (by walk_at "ev") (by rw [cvs_len]; omega)) EV.int) (by show decide _ = false; rw [decide_eq_false_iff_not, cvs_len]; omega)) (fun h => nomatch h) (fun _ => EV.int)) (by walk_at "upd") ?_)
    exact fin _ 0 _ _ _ (CC[0]) (List.getElem?_eq_getElem hpos) (.inr (by omega))
end
section
theorem law_run {W : Wd} (H : Wok W) {A : Around} {L fa : Addr} {cd : Value} {h₀ : Heap} {gens : Array GenState} {os : OsState} {s : Shared} {ns : List Int} (hlen : ns.length ≤ 63)
    (wf : Wf W (Cx.lawOf (fnItem 50).name (fnItem 50).scope A L fa cd h₀ gens os [])) (ok : Ok (Cx.lawOf (fnItem 50).name (fnItem 50).scope A L fa cd h₀ gens os []) ⟨none, [("script", Mine.L (ns.map PyData.int))]⟩ s) (hc : s.heap.IsCell (L + 1) none) :
    wpAny W.M A (execs (fnItem 50).body (envOfC (fnItem 50).name (fnItem 50).scope L fa cd)) (fun f s' => f = .ret (.bool true) ∧ (∀ b o, h₀.get? b = some o → s'.heap.get? b = some o) ∧ s'.gens = gens ∧ s'.os = os) Nev s := by
  have ht : ((seedF ((ns.take 5).map Int.natAbs) 1 400 : Int) - 200).natAbs ≤ 200 := by
    have := seedF_lt (l := (ns.take 5).map Int.natAbs) (k := 1) (m := 400) (by decide); omega
  have hb2 := seedF_lt (l := (ns.take 5).map Int.natAbs) (k := 2) (m := 120) (by decide)
  have hb3 := seedF_lt (l := (ns.take 5).map Int.natAbs) (k := 3) (m := 30) (by decide)
  have hb0 := seedF_lt (l := (ns.take 5).map Int.natAbs) (k := 0) (m := 2) (by decide)
  have hll : ((ns.take 5).map Int.natAbs).length ≤ 1000 := by rw [List.length_map, List.length_take]; omega
  obtain ⟨f1, f2, f3, f4⟩ := least_facts (b := 1 + seedF ((ns.take 5).map Int.natAbs) 2 120) ⟨by omega, by omega⟩ ht
  have F : LawFacts (9 + seedF ((ns.take 5).map Int.natAbs) 0 2) _ _ (1 + seedF ((ns.take 5).map Int.natAbs) 3 30) := ⟨⟨by omega, by omega⟩, Nat.pow_le_pow_right (by decide) (by omega), f1, f4, ⟨f2, f3⟩, ⟨by omega, by omega⟩⟩
  have wf1 : Wf W (Cx.lawOf (fnItem 50).name (fnItem 50).scope A L fa cd h₀ gens os [("w", L + 1, I ((9 + seedF ((ns.take 5).map Int.natAbs) 0 2 : Nat) : Int))]) := ⟨wf.kind, wf.glob, wf.blt, wf.hh, wf.dep, wf.unit, wf.at_, wf.xs⟩
  have mid := fun (a : Addr) => law_mid H F (a := a) hll (scr := Mine.L (ns.map PyData.int)) rfl rfl rfl wf1
  generalize hlq : (ns.take 5).map Int.natAbs = l at *
  revert wf ok mid
  conv in (occs := *) fnItem 50 => all_goals whnf
  intro wf ok mid
  dsimp only [List.drop] at wf ok mid ⊢
  have st1 : ∀ {st : Stmt} {rest : List Stmt} {Q : Flow → Shared → Prop} {C : Cx} {σ : Sto} {S : Addr → Sto}, Ok C σ s → S1 W C σ st (fun r => ∃ a, r = .next (S a)) → (∀ a s₁, Ok C (S a) s₁ → Fram C σ s (S a) s₁ → wpAny W.M C.A (execs rest C.env) Q Nev s₁) → wpAny W.M C.A (execs (st :: rest) C.env) Q Nev s := by
    intro st rest Q C σ S ok h k
    refine wpAny_execs_cons (wpAny_mono (h s ok) (fun f s₁ x => ?_) fun _ _ e => e)
    obtain ⟨_, ⟨a, rfl⟩, rfl, ok1, fr⟩ := x
    exact k a s₁ ok1 fr
  refine st1 (S := fun a => ⟨some (a, [.int ((0 : Nat) : Int), .list (nums l)]), [("script", Mine.L (ns.map PyData.int)), ("pod", .v (.ref a))]⟩) ok
    (S1.own1 (ds := [.int ((0 : Nat) : Int), .list (nums l)]) wf rfl (EN.list (xs := [.int ((0 : Nat) : Int), .list (nums l)]) wf (EVs.cons EV.int (EVs.cons (EV.conv (EV.mapInts (ns := ns.take 5) (g := Int.natAbs) (cl := []) wf (EV.conv (EV.slice (i := 5) wf (by walk_at "ev") EV.int (by rw [List.length_map]; omega)) (by rw [List.map_take])) (by rw [List.length_take]; omega)
      (by rfl) (by decide) rfl (by decide) (by decide) (fun p hp => nomatch hp) ?helt) (by rw [hlq])) EVs.nil))) (fun a => ⟨_, by walk_at "upd", a, rfl⟩)) (fun a s₁ ok1 fr1 => ?_)
  case helt =>
    intro own cc h0 s2 z wf2
    exact EV.abs (EV.nabs H wf2 (by rfl)) (EV.callInt (EV.nint H wf2 (by rfl)) (EV.loc wf2 (by rfl) (by walk_at "mem")))
  have hc1 : s₁.heap.IsCell (L + 1) none := by
    obtain ⟨o, e1, e2⟩ := hc
    exact ⟨o, fr1.keep _ _ (show L + 1 ≠ L from Nat.succ_ne_self L) (by simp [Sto.X]) e1, e2⟩
  have ep : EP W _ _ _ ((9 + seedF l 0 2 : Nat) : Int) _ := EP.conv (EP.addL (pos := ⟨273, 8, 273, 29⟩) (l := .Constant (.int 9) 0 ⟨273, 8, 273, 9⟩) EV.int (EP.seed (k := 0) (many := 2) H wf (by exact Nat.le_of_ble_eq_true rfl) (by decide) hll (f := .Name "_law_seed" ⟨273, 12, 273, 21⟩) (pos := ⟨273, 12, 273, 29⟩) (e1 := .Name "pod" ⟨273, 22, 273, 25⟩) (e2 := .Constant (.int 2) 0 ⟨273, 27, 273, 28⟩) (vars := [("script", Mine.L (ns.map PyData.int)), ("pod", .v (.ref a))]) (a := a) (l := l) (by walk_at "ev") (by walk_at "evs"))) (by rw [Int.natCast_add]; rfl)
  refine wpAny_execs_cons (wpAny_Assign_Name (wpAny_mono (ep.run s₁ ok1) (fun v s₂ x2 => ?_) fun _ _ e => e) (by rfl))
  obtain ⟨ok2, fr2, u, rfl⟩ := x2
  have hc2 : s₂.heap.IsCell (L + 1) none := by
    obtain ⟨o, e1, e2⟩ := hc1
    refine ⟨o, fr2.keep _ _ (show L + 1 ≠ L from Nat.succ_ne_self L) (fun hm => ?_) e1, e2⟩
    have ha : L + 1 = a := by simpa [Sto.X] using hm
    obtain ⟨_, _, ws, as, ⟨n, g3⟩, _⟩ := ok1.own a _ rfl
    rw [← ha, e1] at g3
    obtain rfl := Option.some.inj g3
    cases e2
  refine wpAny_storeName_cell rfl rfl (c := L + 1) rfl hc2 fun h' hv hs => ?_
  have hcell : ∀ o, s₂.heap.get? (L + 1) = some o → o.data = .cell none := fun o e => by
    obtain ⟨o', e1, e2⟩ := hc2
    rw [e1] at e; obtain rfl := Option.some.inj e; exact e2
  have sp : ∀ X, Spares X s₂.heap h' := fun X b o e hsh => by
    by_cases hb : b = L + 1
    · subst hb
      have := hcell o e
      rcases hsh with ⟨vs, n, hd, _⟩ | ⟨es, n, hd, _⟩ <;> (rw [this] at hd; cases hd)
    · exact (hs.2 b hb).trans e
  refine wpAny_mono (mid a _ ?okm) (fun f s' x => ?_) fun _ _ e => e
  case okm =>
    obtain ⟨⟨m, F2, hm⟩, ho, _, hg, hos, nd⟩ := ok2
    have hLc : L ≠ L + 1 := fun h => Nat.succ_ne_self L h.symm
    have hab := F2.above
    refine ⟨⟨m, ⟨F2.ns.sameBut hs hLc, fun b o e => (hs.2 b (fun hb => ?_)).trans (F2.keep b o e), hab⟩, fun pp hp => ?_⟩, fun l' ds e => ?_, fun pp hp => ?_, hg, hos, nd⟩
    · have h1 := Heap.lt_size e
      have h2 : h₀.objs.size ≤ L := hab
      rw [hb] at h1
      exact absurd (Nat.lt_of_lt_of_le h1 h2) (Nat.not_lt.mpr (Nat.le_succ L))
    · obtain ⟨v, e1, e2⟩ := hm pp hp
      exact ⟨v, e1, e2.spare (sp _)⟩
    · cases e
      obtain ⟨g1, g2, ws, as, g3, g4, g5⟩ := ho a _ rfl
      refine ⟨g1, g2, ws, as, g3.at fun o e => ?_, readsAll_spare (sp _) g4 g5, g5⟩
      refine (hs.2 a fun ha => ?_).trans e
      obtain ⟨n, g3⟩ := g3
      rw [ha] at g3
      have := hcell _ g3
      cases this
    · rw [List.mem_singleton.mp hp]
      refine ⟨rfl, Nat.succ_ne_self L, fun hmm => ?_, _, hv, Rd.int _ _⟩
      have ha : L + 1 = a := by simpa [Sto.X] using hmm
      obtain ⟨_, _, ws, as, ⟨n, g3⟩, _⟩ := ho a _ rfl
      rw [← ha] at g3
      have := hcell _ g3
      cases this
  obtain ⟨_, rfl, v, rfl, h1, h2, h3, h4⟩ := x
  obtain rfl := h1.bool_inv
  exact ⟨rfl, h2, h3, h4⟩
end
end Mine
end
section
set_option Elab.async false
set_option maxRecDepth 100000
set_option maxHeartbeats 8000000
open PySem PySem.W PyProof.Rows PySem.Calls
namespace Mine
noncomputable def lawD : DefRec := ⟨(fnItem 50).name, (fnItem 50).params, (fnItem 50).body, (fnItem 50).scope, (fnItem 50).pos⟩
theorem lawD_ok : defOf pv PySem.Challenge.rw_sa0344_01.name = some (lawD, []) := by kernel_rfl
theorem view_ok : (chainsOk pv && opensWell pw && (frees PySem.Challenge.rw_sa0344_01.row.toRowW && PySem.Challenge.rw_sa0344_01.row.within.isEmpty)) = true := by kernel_rfl
theorem names_ok : namesOk pv (looseW pv []) (namesW pv []) = true := by kernel_rfl
theorem imports_ok : importsNone pv = true := by kernel_rfl
end Mine
end
section
set_option Elab.async false
set_option maxRecDepth 100000
set_option maxHeartbeats 8000000
open PySem PySem.W PyProof.Rows PySem.Calls
namespace Mine
noncomputable def lawW (w : World) (mg mb : Str → Option Value) : Wd := ⟨pw, w, mg, mb, List.map itemOf (recsOf pv), scalarsOf [] ++ constsW pv, namesW pv []⟩
noncomputable def idxOf (i : Nat) : Nat := ((List.map itemOf (recsOf pv)).map (·.name)).idxOf (fnItem i).name
theorem defs_ok : used.map (fun i => (List.map itemOf (recsOf pv))[idxOf i]?) = used.map (fun i => some (fnItem i)) := by kernel_rfl
theorem fn_ok : fnNames.all (fun x => used.any (fun i => decide ((fnItem i).name = x) && (fnItem i).params.defaults.isEmpty)) = true := by decide +kernel
theorem free_ok : freeNames.all (fun x => decide (x ∉ namesW pv [])) = true := by decide +kernel
theorem wok {w : World} {mg mb : Str → Option Value} {h : Heap} (G : (lawW w mg mb).At h) : Wok (lawW w mg mb) := by
  have hd1 : ∀ i ∈ used, fnItem i ∈ (lawW w mg mb).defs := by
    intro i hi
    have h1 := List.map_inj_left.mp defs_ok i hi
    exact List.mem_of_getElem? h1
  have hf : ∀ x ∈ fnNames, ∃ i ∈ used, (fnItem i).name = x ∧ (fnItem i).params.defaults = [] := by
    intro x hx
    have h1 := List.all_eq_true.mp fn_ok x hx
    obtain ⟨i, hi, h2⟩ := List.any_eq_true.mp h1
    obtain ⟨h3, h4⟩ := Bool.and_eq_true_iff.mp h2
    exact ⟨i, hi, of_decide_eq_true h3, List.isEmpty_iff.mp h4⟩
  refine ⟨hd1, fun x hx => ?_, fun x hx h' G' => ?_, fun x hx => of_decide_eq_true (List.all_eq_true.mp free_ok x hx)⟩
  · obtain ⟨i, hi, rfl, hdef⟩ := hf x hx
    exact ⟨_, (Wd.fn_at G (hd1 i hi) hdef).1⟩
  · obtain ⟨i, hi, rfl, hdef⟩ := hf x hx
    obtain ⟨_, c', o, pm, doc, e1, e2, _⟩ := Wd.fn_at G' (hd1 i hi) hdef
    exact ⟨o, _, e1, e2⟩
end Mine
end
section
set_option Elab.async false
set_option maxRecDepth 100000
set_option maxHeartbeats 8000000
set_option linter.unusedVariables false
open PySem PySem.W PyProof.Rows PySem.Calls
namespace Mine
theorem law_join {w : World} {mg mb : Str → Option Value} {s₁ : Shared} {h₁ : Heap} {tk : Nat} {m : Str → Option Value} {v : Value} {as : List Addr} {ns : List Int} {fa : Addr} {cd : Value} {A : Around}
    (GL : Glob 0 mg mb (List.map itemOf (recsOf pv)) (scalarsOf [] ++ constsW pv) [] (namesW pv []) s₁.heap)
    (hr : Reads s₁.heap v (.list (ns.map PyData.int)) as) (hlen : ns.length ≤ 63)
    (F : Fr s₁.heap s₁.heap.objs.size h₁ m) (hm : m "script" = some v) (hcell : h₁.IsCell (s₁.heap.objs.size + 1) none)
    (hA1 : A.handled = none) (hA2 : A.depth + 12 < 1000) (hA3 : A.units + 8 * 12 + 200 < 9900) :
    wpAny (model pw w) A (execs (fnItem 50).body (envOfC (fnItem 50).name (fnItem 50).scope s₁.heap.objs.size fa cd)) (fun f s' => f = .ret (.bool true) ∧ (∀ b o, s₁.heap.get? b = some o → s'.heap.get? b = some o) ∧ s'.gens = s₁.gens ∧ s'.os = s₁.os) Nev { s₁ with heap := h₁, toks := tk } := by
  have H : Wok (lawW w mg mb) := wok (h := s₁.heap) GL
  have wf : Wf (lawW w mg mb) (Cx.lawOf (fnItem 50).name (fnItem 50).scope A s₁.heap.objs.size fa cd s₁.heap s₁.gens s₁.os []) := ⟨rfl, rfl, rfl, hA1, hA2, hA3, GL, fun a ha => nomatch ha⟩
  refine law_run (W := lawW w mg mb) H hlen wf ⟨⟨m, F, fun p hp => ?_⟩, fun l ds e => (nomatch e), fun p hp => (nomatch hp), rfl, rfl, (by dsimp only [List.map]; decide)⟩ hcell
  rw [List.mem_singleton.mp hp]
  refine ⟨v, hm, as, reads_spare (X := []) (fun b o e _ => F.keep b o e) hr (fun a _ h => nomatch h), fun a ha hx => ?_⟩
  have : a = s₁.heap.objs.size := by simpa [Cx.av, Sto.X, Cx.lawOf, envOfC] using hx
  obtain ⟨o, e⟩ := PyProof.On.reads_mem_get hr a ha
  rw [this] at e
  exact absurd (Heap.lt_size e) (Nat.lt_irrefl _)
theorem cell_of {cm : Str → Option Value} {cs : List (Str × Addr)} {c L : Addr} {o : Obj} {h₀ h : Heap} (X : CellsAre cm cs [(c, o)]) (N : News h₀ L h [(c, o)]) (hcm : ∀ n, cm n = none) : h.IsCell c none := by
  cases X with
  | cons hd _ => exact ⟨o, (N _ List.mem_cons_self).1, by rw [hd, hcm]⟩
end Mine
end
open PySem PySem.W PyProof.Rows PySem.Calls
set_option maxHeartbeats 8000000
theorem PySem.Challenge.cw_sa0344_01_holds : PySem.Challenge.rw_sa0344_01.Holds := by
  refine PySem.W.holds_law Mine.said fun sd => ?_
  refine PySem.W.holds_open (r := PySem.Challenge.rw_sa0344_01.row) (q := Mine.pv) (loose := []) (Xt := fun s => xlAt Mine.pv [] s && recOk [] s) (XP := XL Mine.pv []) (Yf := fun _ => ()) (Ya := fun _ => ()) (YP := fun _ _ => True) (d := Mine.lawD) (kwd := []) (N := 4310) Mine.left (fun _ _ _ => trivial) (fun _ _ _ h _ => h) (fun s e => xl_of s (Bool.and_eq_true_iff.mp e).1) XL.keeps Mine.lawD_ok (by kernel_rfl) (by rfl) (fun s e => recFacts_of (Bool.and_eq_true_iff.mp e).2) (by rfl) sd Mine.view_ok ⟨rfl, rfl, rfl, rfl, rfl, by decide +kernel⟩ ?hw ?hc
  case hw => w_witness2
  case hc =>
    w_strict (
      intro w s₀ s₁ mg mb G Y fa o pm cd doc dV kV ho hd hcd hD hmg hg args vals as hpre hlay hrd hwl hlo
      have X := (Ground.X G).1
      have V := (Ground.X G).2
      have GL := glob_more (Ground.glob G Mine.names_ok Mine.imports_ok) V
      refine Ground.open G ?_
      intro T B D TE TW
      try (refine guard_noD D (by decide +kernel) ?_; clear D)
      obtain ⟨_, _, M⟩ := bmod_of_top T
      have TA := at_of_top T
      try (obtain ⟨_, _, he, B0⟩ := based_of_top T rfl hmg ho hd; have he' : cd = _ := he; subst he'; clear he)
      clear hmg
      wrow_args hpre hlay hrd hwl hlo
      refine enter_call ?_
      w_top on
      try refine codeAny_mono ?_ (fun _ _ g => GoodW.toG g)
      have K0 := below_caller (Top.heap T)
      w_call any ho hd hcd hD T F
      refine wpAny_mono (Mine.law_join (by assumption) (by assumption) (by omega) (by assumption) ?hm ?hcell ?h1 ?h2 ?h3) (fun f s' x => ?hpost) (fun _ _ e => ?herr)
      case h1 => rfl
      case h2 => exact Nat.le_of_ble_eq_true rfl
      case h3 => exact Nat.le_of_ble_eq_true rfl
      case hm => rfl
      case hcell => exact Mine.cell_of (by assumption) (by assumption) (fun _ => rfl)
      case herr => exact e.elim
      case hpost =>
        obtain ⟨rfl, x1, x2, x3⟩ := x
        refine ⟨Or.inl ⟨_, _, _, rfl, fun _ => rfl, .bool true, ?pp, unshared_nil⟩, x1, x3, x2.trans (by assumption)⟩
        first | exact postW_of (X := true) rfl rfl rfl | wrow_post)
